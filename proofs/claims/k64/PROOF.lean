import PyProof.Rows.All
import Wide.All
import OpenK.AllK
import Wide.FinOn
import HandS.ForMost
import HandS.Exc
import HandS.TryOnly
import HandS.TryMany
import HandS.ExcOwn
import HandS.WordsExc
import HandS.CallSlots
import HandS.TupAny
import HandS.Wide
import PyProof.StrOps2
import HandS.Gcd
import HandS.IsInst
import KE.SortData
import HandS.Zip
import HandS.Rev
import HandS.RevRange
import HandS.Defaults
import HandS.Head0
import HandS.Head1
import HandS.Head2
import HandS.HeadEnd
import HandS.HeadHook1
import HandS.HeadHook2
import HandS.HeadHook3
import HandS.HeadHook4
import KE.Datum
import HandS.ExcIs
import HandS.Conv
import HandS.Style
import KE.DataMinMax
import PyProof.Rows.RowBridgeK
import HandS.TupLe
import HandS.More
import HandS.Head3
import PySem.Challenge.RW_ropesbear_k64_loops_bent_beat_by_beat
section
set_option Elab.async false
set_option linter.all false
set_option maxRecDepth 100000
set_option maxHeartbeats 4000000
/-! VA: data in the place of the heap. What a piece of text yields is told over PyData; lists that a body changes are its own. -/
namespace PV
abbrev Sg := L2.St
open PySem PySem.Spec PyProof.Rows L2

/-! ### results -/
inductive R (ε α : Type) where
  | ok (a : α)
  | exc (c : Str) (e : ε)
  | bad
def R.bind {ε α β : Type} (x : R ε α) (f : α → R ε β) : R ε β := match x with
  | .ok a => f a
  | .exc c e => .exc c e
  | .bad => .bad
def R.post {ε α : Type} (x : R ε α) (Q : α → Prop) (E : Str → ε → Prop) : Prop := match x with
  | .ok a => Q a
  | .exc c e => E c e
  | .bad => False
theorem R.post_mono {ε α : Type} {x : R ε α} {Q Q' : α → Prop} {E E' : Str → ε → Prop} (h : x.post Q E) (hq : ∀ a, Q a → Q' a) (he : ∀ c e, E c e → E' c e) : x.post Q' E' := by
  cases x with
  | ok a => exact hq a h
  | exc c e => exact he c e h
  | bad => exact h
theorem R.post_bind {ε α β : Type} {x : R ε α} {f : α → R ε β} {Q : β → Prop} {E : Str → ε → Prop} (h : (x.bind f).post Q E) : x.post (fun a => (f a).post Q E) E := by
  cases x with
  | ok a => exact h
  | exc c e => exact h
  | bad => exact h
abbrev RE (α : Type) := R Unit α
def ofO {α : Type} : Option α → RE α
  | some a => .ok a
  | none => .bad
/-- a guard -/
def grd {ε α : Type} (p : Prop) [Decidable p] (x : R ε α) : R ε α := if p then x else .bad
theorem grd_pos {ε α : Type} {p : Prop} [Decidable p] {x : R ε α} (h : p) : grd p x = x := if_pos h

/-! ### the heap and its still part -/
structure Ext (F H F' H' : Hp) : Prop where
  hh : Same H H'
  ff : Same F F'
  fh : Same F' H'
  nw : ∀ a o, F' a = some o → F a = some o ∨ H a = none
theorem Ext.refl {F H : Hp} (h : Same F H) : Ext F H F H := ⟨Same.refl _, Same.refl _, h, fun _ _ e => .inl e⟩
theorem Ext.trans {F H F1 H1 F2 H2 : Hp} (a : Ext F H F1 H1) (b : Ext F1 H1 F2 H2) : Ext F H F2 H2 :=
  ⟨a.hh.trans b.hh, a.ff.trans b.ff, b.fh, fun x o e => by
    rcases b.nw x o e with q | q
    · exact a.nw x o q
    · exact .inr (a.hh.free q)⟩
theorem same_upd {H : Hp} {p : Addr} {o : HO} (n : H p = none) : Same H (upd H p o) := fun b u e => by
  rw [upd_ne (ne_of_none e n)]; exact e
/-- a new object that is still from now on -/
theorem Ext.new {F H : Hp} {p : Addr} {o : HO} (h : Same F H) (n : H p = none) : Ext F H (upd F p o) (upd H p o) := by
  refine ⟨same_upd n, same_upd (h.free n), fun b u e => ?_, fun b u e => ?_⟩
  · by_cases hb : b = p
    · subst hb; rw [upd_same] at e ⊢; exact e
    · rw [upd_ne hb] at e ⊢; exact h b u e
  · by_cases hb : b = p
    · subst hb; exact .inr n
    · rw [upd_ne hb] at e; exact .inl e
/-- a new object beside the still part -/
theorem Ext.beside {F H : Hp} {p : Addr} {o : HO} (h : Same F H) (n : H p = none) : Ext F H F (upd H p o) :=
  ⟨same_upd n, Same.refl _, h.trans (same_upd n), fun _ _ e => .inl e⟩
/-- the still part grows by an object that stands beside it, outside of what stood ahead -/
theorem Ext.still {F H F1 H1 : Hp} {p : Addr} {o : HO} (e : Ext F H F1 H1) (h1 : H1 p = some o) (n : H p = none) (nf : F1 p = none) : Ext F H (upd F1 p o) H1 := by
  refine ⟨e.hh, e.ff.trans (same_upd nf), fun b u q => ?_, fun b u q => ?_⟩
  · by_cases hb : b = p
    · subst hb; rw [upd_same] at q; rw [h1]; exact q
    · rw [upd_ne hb] at q; exact e.fh b u q
  · by_cases hb : b = p
    · subst hb; exact .inr n
    · rw [upd_ne hb] at q; exact e.nw b u q

/-! ### a value is a datum -/
section
variable (K : PySem.W.Frag)
mutual
inductive Vd (F : Hp) : V → PyData → Prop
  | non : Vd F .non .none
  | bl (b : Bool) : Vd F (.bl b) (.bool b)
  | int (i : Int) : Vd F (.int i) (.int i)
  | str (x : Str) : PyData.strOk x = true → Vd F (.str x) (.str x)
  | lst {a : Addr} {xs : List V} {ds : List PyData} : SqL K F a xs → xs.length ≤ sizeLine → VdAll F xs ds → Vd F (.ref a) (.list ds)
  | tup {a : Addr} {xs : List V} {ds : List PyData} : SqT K F a xs → xs.length ≤ sizeLine → VdAll F xs ds → Vd F (.ref a) (.tuple ds)
inductive VdAll (F : Hp) : List V → List PyData → Prop
  | nil : VdAll F [] []
  | cons {v : V} {vs : List V} {d : PyData} {ds : List PyData} : Vd F v d → VdAll F vs ds → VdAll F (v :: vs) (d :: ds)
end
end
theorem same_rd {H H' : Hp} {a : Addr} {u : HO} (e : Same H H') (h : Rd H a u) : Rd H' a u := by
  rcases h with h | ⟨o, h⟩
  · exact .inl (e _ _ h)
  · exact .inr ⟨o, e _ _ h⟩
theorem same_sqT {K : PySem.W.Frag} {H H' : Hp} {a : Addr} {xs : List V} (e : Same H H') (h : SqT K H a xs) : SqT K H' a xs := by
  rcases h with h | h
  · exact .inl (same_rd e h)
  · exact .inr h
section
variable {K : PySem.W.Frag} {F F' : Hp}
mutual
theorem Vd.mono (e : Same F F') : ∀ (d : PyData) (v : V), Vd K F v d → Vd K F' v d
  | .none, _, h => by cases h; exact .non
  | .bool b, _, h => by cases h; exact .bl b
  | .int i, _, h => by cases h; exact .int i
  | .str x, _, h => by cases h with | str _ hx => exact .str x hx
  | .list ds, _, h => by cases h with | lst hs hz ha => exact .lst (e.seq hs) hz (VdAll.mono e ds _ ha)
  | .tuple ds, _, h => by cases h with | tup hs hz ha => exact .tup (same_sqT e hs) hz (VdAll.mono e ds _ ha)
  | .dict _, _, h => by cases h
theorem VdAll.mono (e : Same F F') : ∀ (ds : List PyData) (vs : List V), VdAll K F vs ds → VdAll K F' vs ds
  | [], _, h => by cases h; exact .nil
  | d :: ds, _, h => by cases h with | cons h1 h2 => exact .cons (Vd.mono e d _ h1) (VdAll.mono e ds _ h2)
end
mutual
theorem Vd.dp : ∀ (d : PyData) (v : V), Vd K F v d → Dp K F v d ∧ d.canLay0 = true
  | .none, _, h => by cases h; exact ⟨.non, rfl⟩
  | .bool b, _, h => by cases h; exact ⟨.bl b, rfl⟩
  | .int i, _, h => by cases h; exact ⟨.int i, rfl⟩
  | .str x, _, h => by cases h with | str _ hx => exact ⟨.str x, by simpa only [PyData.canLay0] using hx⟩
  | .list ds, _, h => by cases h with | lst hs hz ha => exact ⟨.lst hs (VdAll.dp ds _ ha).1, by simpa only [PyData.canLay0] using (VdAll.dp ds _ ha).2⟩
  | .tuple ds, _, h => by cases h with | tup hs hz ha => exact ⟨.tup hs (VdAll.dp ds _ ha).1, by simpa only [PyData.canLay0] using (VdAll.dp ds _ ha).2⟩
  | .dict _, _, h => by cases h
theorem VdAll.dp : ∀ (ds : List PyData) (vs : List V), VdAll K F vs ds → DpAll K F vs ds ∧ PyData.canLayAll0 ds = true
  | [], _, h => by cases h; exact ⟨.nil, rfl⟩
  | d :: ds, _, h => by cases h with | cons h1 h2 => exact ⟨.cons (Vd.dp d _ h1).1 (VdAll.dp ds _ h2).1, by simp only [PyData.canLayAll0, (Vd.dp d _ h1).2, (VdAll.dp ds _ h2).2, Bool.and_self]⟩
end
theorem VdAll.length : ∀ {vs : List V} {ds : List PyData}, VdAll K F vs ds → vs.length = ds.length
  | _, _, .nil => rfl
  | _, _, .cons _ t => by rw [List.length_cons, List.length_cons, VdAll.length t]
theorem VdAll.get : ∀ {vs : List V} {ds : List PyData} {i : Nat} {d : PyData}, VdAll K F vs ds → ds[i]? = some d → ∃ v, vs[i]? = some v ∧ Vd K F v d
  | _, _, _, _, .nil, e => by simp at e
  | _, _, 0, _, .cons h _, e => by simp at e; subst e; exact ⟨_, rfl, h⟩
  | _, _, i + 1, d, .cons _ t, e => by
    obtain ⟨v, h1, h2⟩ := VdAll.get (i := i) (d := d) t (by simpa using e)
    exact ⟨v, by simpa using h1, h2⟩
theorem VdAll.getV : ∀ {vs : List V} {ds : List PyData} {i : Nat} {v : V}, VdAll K F vs ds → vs[i]? = some v → ∃ d, ds[i]? = some d ∧ Vd K F v d
  | _, _, _, _, .nil, e => by simp at e
  | _, _, 0, _, .cons h _, e => by simp at e; subst e; exact ⟨_, rfl, h⟩
  | _, _, i + 1, v, .cons _ t, e => by
    obtain ⟨d, h1, h2⟩ := VdAll.getV (i := i) (v := v) t (by simpa using e)
    exact ⟨d, by simpa using h1, h2⟩
theorem VdAll.append : ∀ {vs ws : List V} {ds es : List PyData}, VdAll K F vs ds → VdAll K F ws es → VdAll K F (vs ++ ws) (ds ++ es)
  | _, _, _, _, .nil, s => s
  | _, _, _, _, .cons h t, s => .cons h (VdAll.append t s)
theorem VdAll.set {v : V} {d : PyData} (h : Vd K F v d) : ∀ {vs : List V} {ds : List PyData} (i : Nat), VdAll K F vs ds → VdAll K F (vs.set i v) (ds.set i d)
  | _, _, _, .nil => .nil
  | _, _, 0, .cons _ t => .cons h t
  | _, _, i + 1, .cons q t => .cons q (VdAll.set h i t)
theorem VdAll.take : ∀ {vs : List V} {ds : List PyData} (n : Nat), VdAll K F vs ds → VdAll K F (vs.take n) (ds.take n)
  | _, _, 0, _ => .nil
  | _, _, _ + 1, .nil => .nil
  | _, _, n + 1, .cons h t => .cons h (VdAll.take n t)
theorem VdAll.drop : ∀ {vs : List V} {ds : List PyData} (n : Nat), VdAll K F vs ds → VdAll K F (vs.drop n) (ds.drop n)
  | _, _, 0, h => h
  | _, _, _ + 1, .nil => .nil
  | _, _, n + 1, .cons _ t => VdAll.drop n t
theorem VdAll.reverse {vs : List V} {ds : List PyData} (h : VdAll K F vs ds) : VdAll K F vs.reverse ds.reverse := by
  induction ds generalizing vs with
  | nil => cases h; exact .nil
  | cons d ds ih =>
    cases h with
    | cons h1 h2 => rw [List.reverse_cons, List.reverse_cons]; exact (ih h2).append (.cons h1 .nil)
theorem VdAll.erase : ∀ {vs : List V} {ds : List PyData} (i : Nat), VdAll K F vs ds → VdAll K F (vs.eraseIdx i) (ds.eraseIdx i)
  | _, _, _, .nil => .nil
  | _, _, 0, .cons _ t => t
  | _, _, i + 1, .cons h t => .cons h (VdAll.erase i t)
theorem VdAll.rep {vs : List V} {ds : List PyData} (h : VdAll K F vs ds) : ∀ k : Nat, VdAll K F (List.replicate k vs).flatten (List.replicate k ds).flatten
  | 0 => .nil
  | k + 1 => by rw [List.replicate_succ, List.replicate_succ, List.flatten_cons, List.flatten_cons]; exact h.append (VdAll.rep h k)
theorem VdAll.mem {d : PyData} : ∀ {vs : List V} {ds : List PyData}, VdAll K F vs ds → d ∈ ds → ∃ v, v ∈ vs ∧ Vd K F v d
  | _, _, .cons h t, m => by
    rcases List.mem_cons.mp m with rfl | m
    · exact ⟨_, List.mem_cons_self, h⟩
    · obtain ⟨v, h1, h2⟩ := VdAll.mem t m
      exact ⟨v, List.mem_cons_of_mem _ h1, h2⟩
end

/-- the entries of a dict -/
inductive EsAll (K : PySem.W.Frag) (F : Hp) : List (Key × V) → List (Key × PyData) → Prop
  | nil : EsAll K F [] []
  | cons {k : Key} {v : V} {d : PyData} {kvs : List (Key × V)} {es : List (Key × PyData)} : Vd K F v d → EsAll K F kvs es → EsAll K F ((k, v) :: kvs) ((k, d) :: es)
theorem EsAll.mono {K : PySem.W.Frag} {F F' : Hp} (e : Same F F') : ∀ {kvs : List (Key × V)} {es : List (Key × PyData)}, EsAll K F kvs es → EsAll K F' kvs es
  | _, _, .nil => .nil
  | _, _, .cons h t => .cons (Vd.mono e _ _ h) (EsAll.mono e t)
/-! ### the frame's names -/
inductive Cel where
  | val (d : PyData)
  /-- a list that the body made and changes -/
  | own (ds : List PyData)
  /-- the error that a suite holds, by its class's name -/
  | exn (c : Str)
  /-- a dict that the body made and changes -/
  | dic (es : List (Key × PyData))
def Cel.mine : Cel → Bool
  | .own _ => true
  | .dic _ => true
  | _ => false
abbrev Evn := List (Option Cel)
/-- of a body: what stood ahead of it, its still part, what is wanted of an exception -/
structure Pm where
  B : Hp
  F0 : Hp
  W : WX
  /-- the error that is held -/
  E : Option (Addr × Str)
def CellOk (K : PySem.W.Frag) (P : Pm) (F H : Hp) (v : V) : Cel → Prop
  | .val d => Vd K F v d
  | .exn c => ∃ a, P.E = some (a, c) ∧ v = .ref a
  | .own ds => ∃ a xs, v = .ref a ∧ P.B a = none ∧ F a = none ∧ H a = some (.lst xs) ∧ xs.length ≤ sizeLine ∧ VdAll K F xs ds
  | .dic es => ∃ a kvs, v = .ref a ∧ P.B a = none ∧ F a = none ∧ H a = some (.dK kvs) ∧ kvs.length ≤ sizeLine ∧ EsAll K F kvs es
structure Rep (K : PySem.W.Frag) (P : Pm) (ρ : Evn) (F : Hp) (σ : Sg) (H : Hp) : Prop where
  len : ρ.length = σ.length
  ext : Ext P.F0 P.B F H
  slot : ∀ (i : Nat) (c : Cel), ρ[i]? = some (some c) → ∃ v, σ[i]? = some (some v) ∧ CellOk K P F H v c
  sep : ∀ (i j : Nat) (a : Addr) (ds es : Cel), ds.mine = true → es.mine = true → i ≠ j → ρ[i]? = some (some ds) → ρ[j]? = some (some es) → σ[i]? = some (some (.ref a)) → σ[j]? ≠ some (some (.ref a))
section
variable {K : PySem.W.Frag} {P : Pm} {ρ : Evn} {F F' H H' : Hp} {σ : Sg}
theorem Rep.fh (r : Rep K P ρ F σ H) : Same F H := r.ext.fh
theorem CellOk.step {v : V} {c : Cel} (h : CellOk K P F H v c) (e : Ext F H F' H') : CellOk K P F' H' v c := by
  cases c with
  | exn c => exact h
  | val d => exact Vd.mono e.ff d v h
  | own ds =>
    obtain ⟨a, xs, ev, hb, hf, hh, hz, hd⟩ := h
    refine ⟨a, xs, ev, hb, ?_, e.hh a _ hh, hz, VdAll.mono e.ff ds xs hd⟩
    cases q : F' a with
    | none => rfl
    | some o =>
      rcases e.nw a o q with z | z
      · rw [hf] at z; cases z
      · rw [hh] at z; cases z
  | dic es =>
    obtain ⟨a, kvs, ev, hb, hf, hh, hz, hd⟩ := h
    refine ⟨a, kvs, ev, hb, ?_, e.hh a _ hh, hz, EsAll.mono e.ff hd⟩
    cases q : F' a with
    | none => rfl
    | some o =>
      rcases e.nw a o q with z | z
      · rw [hf] at z; cases z
      · rw [hh] at z; cases z
theorem Rep.step (r : Rep K P ρ F σ H) (e : Ext F H F' H') : Rep K P ρ F' σ H' :=
  ⟨r.len, r.ext.trans e, fun i c q => let ⟨v, h1, h2⟩ := r.slot i c q; ⟨v, h1, h2.step e⟩, r.sep⟩
/-- a datum is stored -/
theorem Rep.setVal {i : Nat} {v : V} {d : PyData} (r : Rep K P ρ F σ H) (h : Vd K F v d) : Rep K P (ρ.set i (some (.val d))) F (σ.set i (some v)) H := by
  refine ⟨by rw [List.length_set, List.length_set]; exact r.len, r.ext, fun j c q => ?_, fun j k a ds es m1 m2 hne q1 q2 q3 => ?_⟩
  · by_cases hj : i = j
    · subst hj
      have hi : i < ρ.length := by
        have := (List.getElem?_eq_some_iff.mp q).1
        rwa [List.length_set] at this
      rw [List.getElem?_set_self hi] at q
      cases q
      exact ⟨v, by rw [List.getElem?_set_self (by rw [← r.len]; exact hi)], h⟩
    · rw [List.getElem?_set_ne hj] at q
      obtain ⟨u, h1, h2⟩ := r.slot j c q
      exact ⟨u, by rw [List.getElem?_set_ne hj]; exact h1, h2⟩
  · have nj : ∀ {j : Nat} {ds : Cel}, ds.mine = true → (ρ.set i (some (.val d)))[j]? = some (some ds) → i ≠ j ∧ ρ[j]? = some (some ds) := fun {j ds} m q => by
      by_cases hj : i = j
      · subst hj
        have hi : i < ρ.length := by
          have := (List.getElem?_eq_some_iff.mp q).1
          rwa [List.length_set] at this
        rw [List.getElem?_set_self hi] at q
        cases q
        cases m
      · rw [List.getElem?_set_ne hj] at q
        exact ⟨hj, q⟩
    obtain ⟨n1, p1⟩ := nj m1 q1
    obtain ⟨n2, p2⟩ := nj m2 q2
    rw [List.getElem?_set_ne n1] at q3
    rw [List.getElem?_set_ne n2]
    exact r.sep j k a ds es m1 m2 hne p1 p2 q3
/-- a thing that stands beside the still part becomes a name's own -/
theorem Rep.setMine {i : Nat} {a : Addr} {c0 : Cel} (r : Rep K P ρ F σ H) (h : CellOk K P F H (.ref a) c0)
    (fresh : ∀ (j : Nat) (es : Cel), es.mine = true → j ≠ i → ρ[j]? = some (some es) → σ[j]? ≠ some (some (.ref a))) : Rep K P (ρ.set i (some c0)) F (σ.set i (some (.ref a))) H := by
  refine ⟨by rw [List.length_set, List.length_set]; exact r.len, r.ext, fun j c q => ?_, fun j k b es es' m1 m2 hne q1 q2 q3 => ?_⟩
  · by_cases hj : i = j
    · subst hj
      have hi : i < ρ.length := by
        have := (List.getElem?_eq_some_iff.mp q).1
        rwa [List.length_set] at this
      rw [List.getElem?_set_self hi] at q
      cases q
      exact ⟨_, by rw [List.getElem?_set_self (by rw [← r.len]; exact hi)], h⟩
    · rw [List.getElem?_set_ne hj] at q
      obtain ⟨u, h1, h2⟩ := r.slot j c q
      exact ⟨u, by rw [List.getElem?_set_ne hj]; exact h1, h2⟩
  · by_cases h1 : i = j
    · subst h1
      have hi : i < σ.length := by
        have := (List.getElem?_eq_some_iff.mp q3).1
        rwa [List.length_set] at this
      rw [List.getElem?_set_self hi] at q3
      have e : a = b := by
        have := Option.some.inj (Option.some.inj q3)
        exact V.ref.inj this
      subst e
      rw [List.getElem?_set_ne hne] at q2 ⊢
      exact fresh k es' m2 (Ne.symm hne) q2
    · rw [List.getElem?_set_ne h1] at q1 q3
      by_cases h2 : i = k
      · subst h2
        intro q4
        have hi : i < σ.length := by
          have := (List.getElem?_eq_some_iff.mp q4).1
          rwa [List.length_set] at this
        rw [List.getElem?_set_self hi] at q4
        have e : a = b := V.ref.inj (Option.some.inj (Option.some.inj q4))
        subst e
        exact fresh j es m1 (Ne.symm h1) q1 q3
      · rw [List.getElem?_set_ne h2] at q2 ⊢
        exact r.sep j k b es es' m1 m2 hne q1 q2 q3
/-- a list that stands beside the still part becomes a name's own -/
theorem Rep.setOwn {i : Nat} {a : Addr} {xs : List V} {ds : List PyData} (r : Rep K P ρ F σ H) (hb : P.B a = none) (hf : F a = none) (hh : H a = some (.lst xs)) (hz : xs.length ≤ sizeLine) (h : VdAll K F xs ds)
    (fresh : ∀ (j : Nat) (es : Cel), es.mine = true → j ≠ i → ρ[j]? = some (some es) → σ[j]? ≠ some (some (.ref a))) : Rep K P (ρ.set i (some (.own ds))) F (σ.set i (some (.ref a))) H :=
  r.setMine ⟨a, xs, rfl, hb, hf, hh, hz, h⟩ fresh
/-- a new thing's address is no own name's one -/
theorem Rep.isNew {a : Addr} (r : Rep K P ρ F σ H) (hn : H a = none) (j : Nat) (es : Cel) (m : es.mine = true) (q : ρ[j]? = some (some es)) : σ[j]? ≠ some (some (.ref a)) := fun e => by
  obtain ⟨v, h1, h2⟩ := r.slot j es q
  rw [e] at h1
  cases h1
  cases es with
  | own ds => obtain ⟨b, xs, e1, _, _, e2, _⟩ := h2; cases e1; rw [hn] at e2; cases e2
  | dic ds => obtain ⟨b, xs, e1, _, _, e2, _⟩ := h2; cases e1; rw [hn] at e2; cases e2
  | val d => cases m
  | exn c => cases m
/-- forgetting a name -/
theorem Rep.setNone {i : Nat} (r : Rep K P ρ F σ H) : Rep K P (ρ.set i none) F (σ.set i none) H := by
  have nj : ∀ {j : Nat} {c : Cel}, (ρ.set i none)[j]? = some (some c) → i ≠ j ∧ ρ[j]? = some (some c) := fun {j c} q => by
    by_cases hj : i = j
    · subst hj
      have hi : i < ρ.length := by
        have := (List.getElem?_eq_some_iff.mp q).1
        rwa [List.length_set] at this
      rw [List.getElem?_set_self hi] at q
      cases q
    · rw [List.getElem?_set_ne hj] at q
      exact ⟨hj, q⟩
  refine ⟨by rw [List.length_set, List.length_set]; exact r.len, r.ext, fun j c q => ?_, fun j k a ds es m1 m2 hne q1 q2 q3 => ?_⟩
  · obtain ⟨n, p⟩ := nj q
    obtain ⟨u, h1, h2⟩ := r.slot j c p
    exact ⟨u, by rw [List.getElem?_set_ne n]; exact h1, h2⟩
  · obtain ⟨n1, p1⟩ := nj q1
    obtain ⟨n2, p2⟩ := nj q2
    rw [List.getElem?_set_ne n1] at q3
    rw [List.getElem?_set_ne n2]
    exact r.sep j k a ds es m1 m2 hne p1 p2 q3
/-- a name's own list becomes still -/
def freeze (i : Nat) (ρ : Evn) : Evn := match ρ[i]? with
  | some (some (.own ds)) => ρ.set i (some (.val (.list ds)))
  | _ => ρ
theorem Rep.freeze {i : Nat} (r : Rep K P ρ F σ H) : ∃ F', Same F F' ∧ Rep K P (freeze i ρ) F' σ H := by
  unfold PV.freeze
  cases q : ρ[i]? with
  | none => exact ⟨F, Same.refl _, r⟩
  | some o =>
    cases o with
    | none => exact ⟨F, Same.refl _, r⟩
    | some c =>
      cases c with
      | val d => exact ⟨F, Same.refl _, r⟩
      | exn c => exact ⟨F, Same.refl _, r⟩
      | dic c => exact ⟨F, Same.refl _, r⟩
      | own ds =>
        obtain ⟨v, hσ, a, xs, ev, hb, hf, hh, hz, hd⟩ := r.slot i _ q
        subst ev
        have hi : i < ρ.length := (List.getElem?_eq_some_iff.mp q).1
        have ff : Same F (upd F a (.lst xs)) := same_upd hf
        have hset : σ.set i (some (.ref a)) = σ := by
          apply List.ext_getElem?
          intro j
          by_cases hj : i = j
          · subst hj; rw [List.getElem?_set_self (by rw [← r.len]; exact hi)]; exact hσ.symm
          · rw [List.getElem?_set_ne hj]
        have nj : ∀ {j : Nat} {c : Cel}, (ρ.set i (some (.val (.list ds))))[j]? = some (some c) → (i = j ∧ c = .val (.list ds)) ∨ (i ≠ j ∧ ρ[j]? = some (some c)) := fun {j c} q => by
          by_cases hj : i = j
          · subst hj
            rw [List.getElem?_set_self hi] at q
            cases q
            exact .inl ⟨rfl, rfl⟩
          · rw [List.getElem?_set_ne hj] at q
            exact .inr ⟨hj, q⟩
        refine ⟨upd F a (.lst xs), ff, by rw [List.length_set]; exact r.len, ⟨r.ext.hh, r.ext.ff.trans ff, fun b u e => ?_, fun b u e => ?_⟩, fun j c p => ?_, fun j k b es es' m1 m2 hne q1 q2 q3 => ?_⟩
        · by_cases hb' : b = a
          · subst hb'; rw [upd_same] at e; rw [hh]; exact e
          · rw [upd_ne hb'] at e; exact r.fh b u e
        · by_cases hb' : b = a
          · subst hb'; exact .inr hb
          · rw [upd_ne hb'] at e; exact r.ext.nw b u e
        · rcases nj p with ⟨e, ec⟩ | ⟨n, p⟩
          · subst e; subst ec
            exact ⟨_, hσ, .lst (SqL.of upd_same) hz (VdAll.mono ff ds xs hd)⟩
          · obtain ⟨u, h1, h2⟩ := r.slot j c p
            refine ⟨u, h1, ?_⟩
            cases c with
            | val d => exact Vd.mono ff d u h2
            | exn c => exact h2
            | own es =>
              obtain ⟨a', xs', ev, hb', hf', hh', hz', hd'⟩ := h2
              subst ev
              refine ⟨a', xs', rfl, hb', ?_, hh', hz', VdAll.mono ff es xs' hd'⟩
              rw [upd_ne]
              · exact hf'
              · intro e
                subst e
                exact r.sep i j _ (.own ds) (.own es) rfl rfl n q p hσ h1
            | dic es =>
              obtain ⟨a', xs', ev, hb', hf', hh', hz', hd'⟩ := h2
              subst ev
              refine ⟨a', xs', rfl, hb', ?_, hh', hz', EsAll.mono ff hd'⟩
              rw [upd_ne]
              · exact hf'
              · intro e
                subst e
                exact r.sep i j _ (.own ds) (.dic es) rfl rfl n q p hσ h1
        · rcases nj q1 with ⟨_, e⟩ | ⟨n1, p1⟩
          · subst e; cases m1
          · rcases nj q2 with ⟨_, e⟩ | ⟨n2, p2⟩
            · subst e; cases m2
            · exact r.sep j k b es es' m1 m2 hne p1 p2 q3
end
end PV
end
section
set_option Elab.async false
set_option linter.all false
set_option maxRecDepth 100000
set_option maxHeartbeats 4000000
namespace PV
open PySem PySem.Spec PyProof.Rows L2

/-! ### expressions -/
/-- a result of an expression is taken -/
def Out (X : Cx) (P : Pm) (σ : Sg) (Q : VK) (F H : Hp) (r : RE PyData) : Prop :=
  r.post (fun d => ∀ v H' F', Ext F H F' H' → Vd X.K F' v d → Q v H') (fun c _ => ∀ C H' F', X.mg c = some (.ref C) → Ext F H F' H' → P.W (.ref C) none σ H')
theorem Out.step {X : Cx} {P : Pm} {σ : Sg} {Q : VK} {F H F1 H1 : Hp} {r : RE PyData} (h : Out X P σ Q F H r) (e : Ext F H F1 H1) : Out X P σ Q F1 H1 r :=
  R.post_mono h (fun d q v H' F' e' hv => q v H' F' (e.trans e') hv) (fun c _ q C H' F' hm e' => q C H' F' hm (e.trans e'))
theorem Out.mono {X : Cx} {P : Pm} {σ : Sg} {Q Q' : VK} {F H : Hp} {r : RE PyData} (h : Out X P σ Q F H r) (m : ∀ v H', Q v H' → Q' v H') : Out X P σ Q' F H r :=
  R.post_mono h (fun d q v H' F' e' hv => m _ _ (q v H' F' e' hv)) (fun c _ q => q)
/-- the reading of an expression by its meaning f -/
def tV (X : Cx) (P : Pm) (f : Evn → RE PyData) : TE := fun σ H Q => ∃ ρ F, Rep X.K P ρ F σ H ∧ Out X P σ Q F H (f ρ)
def VE (X : Cx) (P : Pm) (e : Expr) (f : Evn → RE PyData) : Prop := PE X e (tV X P f)
theorem PE_mono {X : Cx} {e : Expr} {t t' : TE} (h : PE X e t) (m : ∀ σ H Q, t' σ H Q → t σ H Q) : PE X e t' := ⟨fun pins s σ H Q I q => h.run pins s σ H Q I (m σ H Q q)⟩
section
variable {X : Cx} {P : Pm} {σ : Sg} {Q : VK} {F H : Hp} {ρ : Evn}
/-- the first part of a meaning is read -/
theorem Out.first {f : Evn → RE PyData} {k : PyData → RE PyData} {Q' : VK} (hR : Rep X.K P ρ F σ H) (h : Out X P σ Q F H ((f ρ).bind k))
    (hq : ∀ d v F1 H1, Ext F H F1 H1 → Vd X.K F1 v d → Rep X.K P ρ F1 σ H1 → Out X P σ Q F1 H1 (k d) → Q' v H1) : tV X P f σ H Q' := by
  refine ⟨ρ, F, hR, ?_⟩
  exact R.post_mono (R.post_bind h) (fun d q v H' F' e hv => hq d v F' H' e hv (hR.step e) (Out.step q e)) (fun c _ q => q)
end

/-! ### names, constants -/
def mGet (i : Nat) (ρ : Evn) : RE PyData := match ρ[i]? with
  | some (some (.val d)) => .ok d
  | _ => .bad
section
variable {X : Cx} {P : Pm} {pos : Pos}
theorem ve_var (i : Nat) {x : Str} (hN : X.N[i]? = some x := by rfl) (hv : Vis X.env.scope x := by first | exact Or.inl rfl | exact Or.inr (Or.inl rfl) | exact Or.inr (Or.inr rfl)) (hd : (x == ("__debug__" : Str)) = false := by decide)
    (hcd : (x == ("__classdict__" : Str)) = false := by decide) : VE X P (.Name x pos) (mGet i) := by
  refine PE_mono (pe_var (i := i) hN hv hd hcd) fun σ H Q h => ?_
  obtain ⟨ρ, F, hR, h⟩ := h
  unfold mGet at h
  split at h
  · rename_i d e
    obtain ⟨v, h1, h2⟩ := hR.slot i _ e
    exact ⟨v, h1, h v H F (Ext.refl hR.fh) h2⟩
  · exact h.elim
def mC (d : PyData) (_ : Evn) : RE PyData := .ok d
theorem ve_int {i : Int} {j : Nat} : VE X P (.Constant (.int i) j pos) (mC (.int i)) := PE_mono pe_int fun σ H Q h => by
  obtain ⟨ρ, F, hR, h⟩ := h
  exact h _ H F (Ext.refl hR.fh) (.int i)
theorem ve_bl {b : Bool} {j : Nat} : VE X P (.Constant (.bool b) j pos) (mC (.bool b)) := PE_mono pe_bl fun σ H Q h => by
  obtain ⟨ρ, F, hR, h⟩ := h
  exact h _ H F (Ext.refl hR.fh) (.bl b)
theorem ve_non {j : Nat} : VE X P (.Constant .none j pos) (mC .none) := PE_mono pe_non fun σ H Q h => by
  obtain ⟨ρ, F, hR, h⟩ := h
  exact h _ H F (Ext.refl hR.fh) .non
theorem ve_str {x : Str} {j : Nat} (hx : PyData.strOk x = true := by decide +kernel) : VE X P (.Constant (.str x) j pos) (mC (.str x)) := PE_mono pe_str fun σ H Q h => by
  obtain ⟨ρ, F, hR, h⟩ := h
  exact h _ H F (Ext.refl hR.fh) (.str x hx)
end

/-! ### operators by data -/
/-- an operator of two values, by its meaning g -/
def OpV (X : Cx) (f : Value → Value → Sem Value) (g : PyData → PyData → Option PyData) : Prop :=
  ∀ (pins : List (Addr × Obj)) (s : Shared) (σ : Sg) (H : Hp) (x y : V) (v u : Value) (Q : VK), Inv X pins σ H s → RelV x v → RelV y u →
    ∀ (F : Hp) (d e r : PyData), Same F H → Vd X.K F x d → Vd X.K F y e → g d e = some r → (∀ v' H' F', Ext F H F' H' → Vd X.K F' v' r → Q v' H') → wpAny (model X.prog X.w) X.A (f v u) (EP X pins σ Q) X.xe s
def rV (X : Cx) (g : PyData → PyData → Option PyData) : R2 := fun x y H Q => ∃ F d e r, Same F H ∧ Vd X.K F x d ∧ Vd X.K F y e ∧ g d e = some r ∧ ∀ v' H' F', Ext F H F' H' → Vd X.K F' v' r → Q v' H'
theorem OpV.r {X : Cx} {f : Value → Value → Sem Value} {g : PyData → PyData → Option PyData} (h : OpV X f g) : OpR X f (rV X g) :=
  fun pins s σ H x y v u Q I rx ry ⟨F, d, e, r, sf, hx, hy, hg, hq⟩ => h pins s σ H x y v u Q I rx ry F d e r sf hx hy hg hq
def m2 (g : PyData → PyData → Option PyData) (fa fb : Evn → RE PyData) (ρ : Evn) : RE PyData := (fa ρ).bind fun x => (fb ρ).bind fun y => ofO (g x y)
section
variable {X : Cx} {P : Pm} {pos : Pos} {a b c : Expr} {fa fb fc : Evn → RE PyData} {g : PyData → PyData → Option PyData}
theorem Out.ofO {σ : Sg} {Q : VK} {F H : Hp} {o : Option PyData} (h : Out X P σ Q F H (ofO o)) : ∃ r, o = some r ∧ ∀ v' H' F', Ext F H F' H' → Vd X.K F' v' r → Q v' H' := by
  cases o with
  | some r => exact ⟨r, rfl, h⟩
  | none => exact h.elim
theorem rd2 {σ : Sg} {H : Hp} {Q : VK} (h : tV X P (m2 g fa fb) σ H Q) : tOp (rV X g) (tV X P fa) (tV X P fb) σ H Q := by
  obtain ⟨ρ, F, hR, h⟩ := h
  refine Out.first hR h fun d v F1 H1 e1 hv R1 h1 => ?_
  refine Out.first R1 h1 fun d2 v2 F2 H2 e2 hv2 R2 h2 => ?_
  obtain ⟨r, hr, hq⟩ := h2.ofO
  exact ⟨F2, d, d2, r, R2.fh, Vd.mono e2.ff d v hv, hv2, hr, hq⟩
theorem ve_op {op : Operator} (ho : OpV X (binaryOp op) g) (ha : VE X P a fa) (hb : VE X P b fb) : VE X P (.BinOp a op b pos) (m2 g fa fb) := PE_mono (pe_op ho.r ha hb) fun _ _ _ h => rd2 h
theorem ve_cmp {op : CmpOp} (ho : OpV X (compareOp op) g) (ha : VE X P a fa) (hb : VE X P b fb) (hm : behindInMarks op b = false := by first | exact nomark _ | rfl) : VE X P (.Compare a [op] [b] pos) (m2 g fa fb) := PE_mono (pe_cmpR ho.r ha hb hm) fun _ _ _ h => rd2 h
end

/-! the operators' meanings -/
def b2n (b : Bool) : Int := if b then 1 else 0
/-- two factors whose product is laid -/
def mulOk (i j : Int) : Prop := (-(2 ^ 64) < i ∧ i < 2 ^ 64) ∨ (-(2 ^ 64) < j ∧ j < 2 ^ 64) ∨ i.natAbs.log2 + j.natAbs.log2 < 1000000
instance (i j : Int) : Decidable (mulOk i j) := by unfold mulOk; exact inferInstance
def divOk (j : Int) : Prop := j ≠ 0 ∧ j.natAbs.log2 < 9000
instance (j : Int) : Decidable (divOk j) := by unfold divOk; exact inferInstance
def pAdd : PyData → PyData → Option PyData
  | .int i, .int j => some (.int (i + j))
  | .int i, .bool j => some (.int (i + b2i j))
  | .str x, .str y => if x.length + y.length ≤ sizeLine then some (.str (x ++ y)) else none
  | .list xs, .list ys => if xs.length + ys.length ≤ sizeLine then some (.list (xs ++ ys)) else none
  | .tuple xs, .tuple ys => if xs.length + ys.length ≤ sizeLine then some (.tuple (xs ++ ys)) else none
  | _, _ => none
def pSub : PyData → PyData → Option PyData
  | .int i, .int j => some (.int (i - j))
  | _, _ => none
def pMulI : PyData → PyData → Option PyData
  | .int i, .int j => if mulOk i j then some (.int (i * j)) else none
  | _, _ => none
def pMul : PyData → PyData → Option PyData
  | .int i, .int j => if mulOk i j then some (.int (i * j)) else none
  | .str x, .int j => if j = 1 then some (.str x) else none
  | _, _ => none
def pDiv : PyData → PyData → Option PyData
  | .int i, .int j => if divOk j then some (.int (i.fdiv j)) else none
  | _, _ => none
def pMod : PyData → PyData → Option PyData
  | .int i, .int j => if j ≠ 0 then some (.int (i.fmod j)) else none
  | _, _ => none
def powOk (i j : Int) : Prop := 0 ≤ j ∧ j ≤ 1000000 ∧ i.natAbs < 2 ^ 64
instance (i j : Int) : Decidable (powOk i j) := by unfold powOk; exact inferInstance
def pPow : PyData → PyData → Option PyData
  | .int i, .int j => if powOk i j then some (.int (i ^ j.toNat)) else none
  | _, _ => none
def pShl : PyData → PyData → Option PyData
  | .int i, .int j => if powOk i j then some (.int (i * 2 ^ j.toNat)) else none
  | _, _ => none
def pShr : PyData → PyData → Option PyData
  | .int i, .int j => if 0 ≤ j then some (.int (i / 2 ^ j.toNat)) else none
  | _, _ => none
def pAnd : PyData → PyData → Option PyData
  | .int i, .int j => some (.int (Builtin.bitAnd i j))
  | _, _ => none
def pOr : PyData → PyData → Option PyData
  | .int i, .int j => some (.int (Builtin.bitOr i j))
  | _, _ => none
def pCmp (p : Int → Int → Bool) : PyData → PyData → Option PyData
  | .int i, .int j => some (.bool (p i j))
  | _, _ => none
abbrev pLt := pCmp fun i j => decide (i < j)
abbrev pLe := pCmp fun i j => decide (i ≤ j)
abbrev pGt := pCmp fun i j => decide (j < i)
abbrev pGe := pCmp fun i j => decide (j ≤ i)
/-- data of a depth that a comparison goes down -/
def eqOk (d e : PyData) : Prop := d.depth ≤ 64 ∨ e.depth ≤ 64
instance (d e : PyData) : Decidable (eqOk d e) := by unfold eqOk; exact inferInstance
def pEq (d e : PyData) : Option PyData := if eqOk d e then some (.bool (PyData.eqv d e)) else none
def pNe (d e : PyData) : Option PyData := if eqOk d e then some (.bool (!PyData.eqv d e)) else none
def isNone : PyData → Bool
  | .none => true
  | _ => false
def pIsN (d e : PyData) : Option PyData := if isNone e then some (.bool (isNone d)) else none
def pIsNotN (d e : PyData) : Option PyData := if isNone e then some (.bool (!isNone d)) else none
section
variable {X : Cx}
theorem some_of_if {α : Type} {p : Prop} [Decidable p] {a r : α} (h : (if p then some a else none) = some r) : p ∧ a = r := by
  by_cases hp : p
  · rw [if_pos hp] at h; exact ⟨hp, Option.some.inj h⟩
  · rw [if_neg hp] at h; cases h
/-- a rule on two ints -/
theorem opI2 {f : Value → Value → Sem Value} {C : Int → Int → Prop} {g : Int → Int → V} {k : Int → Int → PyData} {p : PyData → PyData → Option PyData} (ho : OpR X f (rI C g)) (hk : ∀ F i j, Vd X.K F (g i j) (k i j))
    (hp : ∀ d e r, p d e = some r → ∃ i j, d = .int i ∧ e = .int j ∧ C i j ∧ r = k i j) : OpV X f p := by
  intro pins s σ H x y v u Q I rx ry F d e r sf hx hy hg hq
  obtain ⟨i, j, rfl, rfl, hc, rfl⟩ := hp d e r hg
  cases hx
  cases hy
  exact ho pins s σ H _ _ v u Q I rx ry ⟨i, j, rfl, rfl, hc, hq _ _ F (Ext.refl sf) (hk F i j)⟩
theorem rI0_of {f : Value → Value → Sem Value} {g : Int → Int → V} (ho : OpR X f (rI0 g)) : OpR X f (rI (fun _ _ => True) g) :=
  fun pins s σ H x y v u Q I rx ry ⟨i, j, e1, e2, _, q⟩ => ho pins s σ H x y v u Q I rx ry ⟨i, j, e1, e2, q⟩
theorem op_mulA : OpR X (binaryOp .Mult) (rI mulOk fun i j => .int (i * j)) := by
  intro pins s σ H x y v u Q I rx ry ⟨i, j, e1, e2, hc, q⟩
  rcases hc with hc | hc | hc
  · exact op_mul pins s σ H x y v u Q I rx ry ⟨i, j, e1, e2, .inl hc, q⟩
  · exact op_mul pins s σ H x y v u Q I rx ry ⟨i, j, e1, e2, .inr hc, q⟩
  · exact op_mulW pins s σ H x y v u Q I rx ry ⟨i, j, e1, e2, hc, q⟩
theorem op_divA : OpR X (binaryOp .FloorDiv) (rI (fun _ j => divOk j) fun i j => .int (i.fdiv j)) := opI fun _ _ _ _ _ _ _ hc q => floordiv_int hc.1 q (.inl (PyProof.noPylong_of_log2 hc.2))
/-- a new list or tuple, as a result -/
theorem new_lst {F H : Hp} {Q : VK} {xs : List V} {ds : List PyData} (sf : Same F H) (hz : xs.length ≤ sizeLine) (h : VdAll X.K F xs ds) (hq : ∀ v' H' F', Ext F H F' H' → Vd X.K F' v' (.list ds) → Q v' H') : ∀ p, H p = none → Q (.ref p) (upd H p (.lst xs)) :=
  fun p hp => hq _ _ (upd F p (.lst xs)) (Ext.new sf hp) (.lst (SqL.of upd_same) hz (VdAll.mono (same_upd (sf.free hp)) ds xs h))
theorem new_tup {F H : Hp} {Q : VK} {xs : List V} {ds : List PyData} (sf : Same F H) (hz : xs.length ≤ sizeLine) (h : VdAll X.K F xs ds) (hq : ∀ v' H' F', Ext F H F' H' → Vd X.K F' v' (.tuple ds) → Q v' H') : ∀ p, H p = none → Q (.ref p) (upd H p (.tup xs)) :=
  fun p hp => hq _ _ (upd F p (.tup xs)) (Ext.new sf hp) (.tup (SqT.of upd_same) hz (VdAll.mono (same_upd (sf.free hp)) ds xs h))
/-- list + list, whatever the lists are -/
theorem op_catS : OpR X (binaryOp .Add) (fun x y H Q => ∃ l b xs zs, x = .ref l ∧ y = .ref b ∧ SqL X.K H l xs ∧ SqL X.K H b zs ∧ xs.length + zs.length ≤ sizeLine ∧ ∀ p, H p = none → Q (.ref p) (upd H p (.lst (xs ++ zs)))) := by
  intro pins s σ H x y v u Q I rx ry h
  obtain ⟨l, b, xs, zs, rfl, rfl, hH, hB, hz, q⟩ := h
  cases rx
  cases ry
  obtain ⟨its, r, p1, z1⟩ := I.list hH
  obtain ⟨its2, r2, p2, z2⟩ := I.list hB
  obtain ⟨m, F0⟩ := I.fr
  have l1 := r.length
  have l2 := r2.length
  obtain ⟨⟨cls, dd, data, sl⟩, n, ho, hc, hx, hd⟩ := p1
  obtain ⟨⟨cls2, dd2, data2, sl2⟩, n2, ho2, hc2, hx2, hd2⟩ := p2
  simp only at hc hx hd hc2 hx2 hd2
  subst hc hx hd hc2 hx2 hd2
  have e : its.toArray ++ its2.toArray = (its ++ its2).toArray := by simp
  refine concat_meets ⟨_, ho, rfl⟩ ⟨_, ho2, rfl⟩ noFill_list_add seq_list_add PySem.F.slot_list_add PySem.F.entry_list_add (PySem.F.args_list_add_2 _ _) (list_addW l b its.toArray its2.toArray n n2 none none sl sl2 (by simp only [List.size_toArray]; omega)) ⟨ho, ho2, ?_⟩
  rw [e]
  exact ⟨.ref _, _, I.lnew (t' := s.toks) (r.append r2) (by rw [List.length_append]; omega), rfl, q _ I.fresh⟩
theorem opv_add : OpV X (binaryOp .Add) pAdd := by
  intro pins s σ H x y v u Q I rx ry F d e r sf hx hy hg hq
  cases hx with
  | int i =>
    cases hy with
    | int j =>
      cases hg
      exact op_add pins s σ H _ _ v u Q I rx ry ⟨i, j, rfl, rfl, hq _ _ F (Ext.refl sf) (.int _)⟩
    | bl b =>
      cases hg
      exact op_add_ib pins s σ H _ _ v u Q I rx ry ⟨i, b, rfl, rfl, hq _ _ F (Ext.refl sf) (.int _)⟩
    | _ => cases hg
  | str x hx1 =>
    cases hy with
    | str y hy1 =>
      obtain ⟨hp, rfl⟩ := some_of_if hg
      refine op_add_str pins s σ H _ _ v u Q I rx ry ⟨x, y, rfl, rfl, hp, hq _ _ F (Ext.refl sf) (.str _ ?_)⟩
      show ((x.cps ++ y.cps).all _) = true
      have h1 : x.cps.all (fun c => decide (c < 0x110000)) = true := hx1
      have h2 : y.cps.all (fun c => decide (c < 0x110000)) = true := hy1
      rw [Array.all_append, h1, h2]
      rfl
    | _ => cases hg
  | lst h1 z1 a1 =>
    cases hy with
    | lst h2 z2 a2 =>
      obtain ⟨hp, rfl⟩ := some_of_if hg
      have l1 := a1.length
      have l2 := a2.length
      exact op_catS pins s σ H _ _ v u Q I rx ry ⟨_, _, _, _, rfl, rfl, sf.seq h1, sf.seq h2, by omega, new_lst sf (by rw [List.length_append]; omega) (a1.append a2) hq⟩
    | _ => cases hg
  | tup h1 z1 a1 =>
    cases hy with
    | tup h2 z2 a2 =>
      obtain ⟨hp, rfl⟩ := some_of_if hg
      have l1 := a1.length
      have l2 := a2.length
      refine op_catA pins s σ H _ _ v u Q I rx ry ⟨_, _, _, _, rfl, rfl, same_sqT sf h1, same_sqT sf h2, by omega, fun e => ?_, fun _ e => ?_, fun _ _ => new_tup sf (by rw [List.length_append]; omega) (a1.append a2) hq⟩
      · subst e
        cases a1
        exact hq _ _ F (Ext.refl sf) (.tup h2 z2 a2)
      · subst e
        cases a2
        rw [List.append_nil] at hq
        exact hq _ _ F (Ext.refl sf) (.tup h1 z1 a1)
    | _ => cases hg
  | _ => cases hg
theorem opv_sub : OpV X (binaryOp .Sub) pSub := opI2 (rI0_of op_sub) (fun _ _ _ => .int _) fun d e r h => by
  cases d <;> cases e <;> first | exact ⟨_, _, rfl, rfl, trivial, (Option.some.inj h).symm⟩ | cases h
theorem opv_mulI : OpV X (binaryOp .Mult) pMulI := opI2 op_mulA (fun _ _ _ => .int _) fun d e r h => by
  cases d <;> cases e <;> first | exact ⟨_, _, rfl, rfl, (some_of_if h).1, (some_of_if h).2.symm⟩ | cases h
/-- a text, once -/
theorem op_mulS1 : OpR X (binaryOp .Mult) (fun x y H Q => ∃ i, x = .str i ∧ y = .int 1 ∧ Q (.str i) H) := by
  intro pins s σ H x y v u Q I rx ry h
  obtain ⟨i, rfl, rfl, q⟩ := h
  obtain ⟨t1, rfl⟩ := rx
  obtain ⟨t2, rfl⟩ := ry
  exact P.mul_str rfl (fun _ h => absurd h (by simp)) (fun _ h => absurd h (by simp)) ⟨.str i, H, I, ⟨_, rfl⟩, q⟩
theorem opv_mul : OpV X (binaryOp .Mult) pMul := by
  intro pins s σ H x y v u Q I rx ry F d e r sf hx hy hg hq
  cases hx with
  | str x hx1 =>
    cases hy with
    | int j =>
      obtain ⟨hp, rfl⟩ := some_of_if hg
      subst hp
      exact op_mulS1 pins s σ H _ _ v u Q I rx ry ⟨_, rfl, rfl, hq _ _ F (Ext.refl sf) (.str _ hx1)⟩
    | _ => cases hg
  | int i => exact opv_mulI pins s σ H _ y v u Q I rx ry F _ e r sf (.int i) hy (by cases e <;> exact hg) hq
  | _ => cases hy <;> cases hg
theorem opv_div : OpV X (binaryOp .FloorDiv) pDiv := opI2 op_divA (fun _ _ _ => .int _) fun d e r h => by
  cases d <;> cases e <;> first | exact ⟨_, _, rfl, rfl, (some_of_if h).1, (some_of_if h).2.symm⟩ | cases h
theorem opv_mod : OpV X (binaryOp .Mod) pMod := opI2 op_modN (fun _ _ _ => .int _) fun d e r h => by
  cases d <;> cases e <;> first | exact ⟨_, _, rfl, rfl, (some_of_if h).1, (some_of_if h).2.symm⟩ | cases h
theorem opv_pow : OpV X (binaryOp .Pow) pPow := opI2 op_pow (fun _ _ _ => .int _) fun d e r h => by
  cases d <;> cases e <;> first | exact ⟨_, _, rfl, rfl, (some_of_if h).1, (some_of_if h).2.symm⟩ | cases h
theorem opv_shl : OpV X (binaryOp .LShift) pShl := opI2 op_shl (fun _ _ _ => .int _) fun d e r h => by
  cases d <;> cases e <;> first | exact ⟨_, _, rfl, rfl, (some_of_if h).1, (some_of_if h).2.symm⟩ | cases h
theorem opv_shr : OpV X (binaryOp .RShift) pShr := opI2 op_shr (fun _ _ _ => .int _) fun d e r h => by
  cases d <;> cases e <;> first | exact ⟨_, _, rfl, rfl, (some_of_if h).1, (some_of_if h).2.symm⟩ | cases h
theorem opv_and : OpV X (binaryOp .BitAnd) pAnd := opI2 (rI0_of op_and) (fun _ _ _ => .int _) fun d e r h => by
  cases d <;> cases e <;> first | exact ⟨_, _, rfl, rfl, trivial, (Option.some.inj h).symm⟩ | cases h
theorem opv_or : OpV X (binaryOp .BitOr) pOr := opI2 (rI0_of op_or) (fun _ _ _ => .int _) fun d e r h => by
  cases d <;> cases e <;> first | exact ⟨_, _, rfl, rfl, trivial, (Option.some.inj h).symm⟩ | cases h
theorem opv_lt : OpV X (compareOp .Lt) pLt := opI2 (rI0_of op_lt) (fun _ _ _ => .bl _) fun d e r h => by
  cases d <;> cases e <;> first | exact ⟨_, _, rfl, rfl, trivial, (Option.some.inj h).symm⟩ | cases h
theorem opv_le : OpV X (compareOp .LtE) pLe := opI2 (rI0_of op_le) (fun _ _ _ => .bl _) fun d e r h => by
  cases d <;> cases e <;> first | exact ⟨_, _, rfl, rfl, trivial, (Option.some.inj h).symm⟩ | cases h
theorem opv_gt : OpV X (compareOp .Gt) pGt := opI2 (rI0_of op_gt) (fun _ _ _ => .bl _) fun d e r h => by
  cases d <;> cases e <;> first | exact ⟨_, _, rfl, rfl, trivial, (Option.some.inj h).symm⟩ | cases h
theorem opv_ge : OpV X (compareOp .GtE) pGe := opI2 (rI0_of op_ge) (fun _ _ _ => .bl _) fun d e r h => by
  cases d <;> cases e <;> first | exact ⟨_, _, rfl, rfl, trivial, (Option.some.inj h).symm⟩ | cases h
/-- room for a comparison -/
theorem opv_eq {k : Nat} (hr : Room k X.A) : OpV X (compareOp .Eq) pEq := by
  intro pins s σ H x y v u Q I rx ry F d e r sf hx hy hg hq
  obtain ⟨hp, rfl⟩ := some_of_if hg
  have hx' := Vd.dp d x (Vd.mono sf d x hx)
  have hy' := Vd.dp e y (Vd.mono sf e y hy)
  obtain ⟨as, r1⟩ := Dp.reads I d x v hx'.1 rx
  obtain ⟨bs, r2⟩ := Dp.reads I e y u hy'.1 ry
  have hu := hr.units
  exact SeqAt.compareEq_reads r1 r2 hx'.2 hy'.2 (by rcases hp with h | h <;> omega) ⟨.bl _, H, I, rfl, hq _ _ F (Ext.refl sf) (.bl _)⟩
theorem opv_ne {k : Nat} (hr : Room k X.A) : OpV X (compareOp .NotEq) pNe := by
  intro pins s σ H x y v u Q I rx ry F d e r sf hx hy hg hq
  obtain ⟨hp, rfl⟩ := some_of_if hg
  have hx' := Vd.dp d x (Vd.mono sf d x hx)
  have hy' := Vd.dp e y (Vd.mono sf e y hy)
  obtain ⟨as, r1⟩ := Dp.reads I d x v hx'.1 rx
  obtain ⟨bs, r2⟩ := Dp.reads I e y u hy'.1 ry
  have hu := hr.units
  exact SeqAt.compareNe_reads r1 r2 hx'.2 hy'.2 (by rcases hp with h | h <;> omega) ⟨.bl _, H, I, rfl, hq _ _ F (Ext.refl sf) (.bl _)⟩
theorem isNone_of {F : Hp} {v : V} {d : PyData} (h : Vd X.K F v d) : decide (v = .non) = isNone d := by
  cases h <;> rfl
theorem opv_is : OpV X (compareOp .Is) pIsN := by
  intro pins s σ H x y v u Q I rx ry F d e r sf hx hy hg hq
  obtain ⟨hp, rfl⟩ := some_of_if hg
  have hn : y = .non := by cases hy <;> first | rfl | cases hp
  refine op_isN pins s σ H _ _ v u Q I rx ry ⟨hn, ?_⟩
  rw [isNone_of hx]
  exact hq _ _ F (Ext.refl sf) (.bl _)
theorem opv_isnot : OpV X (compareOp .IsNot) pIsNotN := by
  intro pins s σ H x y v u Q I rx ry F d e r sf hx hy hg hq
  obtain ⟨hp, rfl⟩ := some_of_if hg
  have hn : y = .non := by cases hy <;> first | rfl | cases hp
  refine op_notN pins s σ H _ _ v u Q I rx ry ⟨hn, ?_⟩
  rw [isNone_of hx]
  exact hq _ _ F (Ext.refl sf) (.bl _)
end
end PV
end
section
set_option Elab.async false
set_option linter.all false
set_option maxRecDepth 100000
set_option maxHeartbeats 4000000
namespace PV
open PySem PySem.Spec PyProof.Rows L2

/-! ### tests -/
def OutB (X : Cx) (P : Pm) (σ : Sg) (Q : Bool → Hp → Prop) (F H : Hp) (r : RE Bool) : Prop :=
  r.post (fun b => ∀ H' F', Ext F H F' H' → Q b H') (fun c _ => ∀ C H' F', X.mg c = some (.ref C) → Ext F H F' H' → P.W (.ref C) none σ H')
theorem OutB.step {X : Cx} {P : Pm} {σ : Sg} {Q : Bool → Hp → Prop} {F H F1 H1 : Hp} {r : RE Bool} (h : OutB X P σ Q F H r) (e : Ext F H F1 H1) : OutB X P σ Q F1 H1 r :=
  R.post_mono h (fun d q H' F' e' => q H' F' (e.trans e')) (fun c _ q C H' F' hm e' => q C H' F' hm (e.trans e'))
def tTV (X : Cx) (P : Pm) (f : Evn → RE Bool) : TT := fun σ H Q => ∃ ρ F, Rep X.K P ρ F σ H ∧ OutB X P σ Q F H (f ρ)
def VT (X : Cx) (P : Pm) (e : Expr) (f : Evn → RE Bool) : Prop := PT X e (tTV X P f)
def VW (X : Cx) (P : Pm) (e : Expr) (f : Evn → RE Bool) : Prop := PW X e (tTV X P f)
theorem PT_mono {X : Cx} {e : Expr} {t t' : TT} (h : PT X e t) (m : ∀ σ H Q, t' σ H Q → t σ H Q) : PT X e t' := ⟨fun pins s σ H Q I q => h.run pins s σ H Q I (m σ H Q q)⟩
theorem PW_mono {X : Cx} {e : Expr} {t t' : TT} (h : PW X e t) (m : ∀ σ H Q, t' σ H Q → t σ H Q) : PW X e t' := ⟨fun w pins s σ H Q I q => h.run w pins s σ H Q I (m σ H Q q)⟩
/-- a datum's truth -/
def truth : PyData → Option Bool
  | .none => some false
  | .bool b => some b
  | .int i => some (i != 0)
  | .str x => if x.length ≤ sizeLine then some ((x.length : Int) != 0) else none
  | .list xs => some (!xs.isEmpty)
  | .tuple xs => some (!xs.isEmpty)
  | .dict _ => none
def toB : PyData → Option Bool
  | .bool b => some b
  | _ => none
def mT (f : Evn → RE PyData) (ρ : Evn) : RE Bool := (f ρ).bind fun d => ofO (truth d)
def mB (f : Evn → RE PyData) (ρ : Evn) : RE Bool := (f ρ).bind fun d => ofO (toB d)
section
variable {X : Cx} {P : Pm} {pos : Pos} {a b c : Expr} {fa fb fc : Evn → RE PyData} {ga gb gc : Evn → RE Bool} {σ : Sg} {F H : Hp} {ρ : Evn}
theorem Out.firstB {f : Evn → RE PyData} {k : PyData → RE Bool} {Q : Bool → Hp → Prop} {Q' : VK} (hR : Rep X.K P ρ F σ H) (h : OutB X P σ Q F H ((f ρ).bind k))
    (hq : ∀ d v F1 H1, Ext F H F1 H1 → Vd X.K F1 v d → Rep X.K P ρ F1 σ H1 → OutB X P σ Q F1 H1 (k d) → Q' v H1) : tV X P f σ H Q' := by
  refine ⟨ρ, F, hR, ?_⟩
  exact R.post_mono (R.post_bind h) (fun d q v H' F' e hv => hq d v F' H' e hv (hR.step e) (OutB.step q e)) (fun c _ q => q)
theorem OutB.ofO {Q : Bool → Hp → Prop} {o : Option Bool} (h : OutB X P σ Q F H (ofO o)) : ∃ r, o = some r ∧ ∀ H' F', Ext F H F' H' → Q r H' := by
  cases o with
  | some r => exact ⟨r, rfl, h⟩
  | none => exact h.elim
theorem truV_of {F H : Hp} {v : V} {d : PyData} {k : Bool} (sf : Same F H) (h : Vd X.K F v d) (e : truth d = some k) : TruV X.K v H k := by
  cases h with
  | non => cases e; rfl
  | bl b => cases e; rfl
  | int i => cases e; rfl
  | str x hx =>
    obtain ⟨h1, rfl⟩ := some_of_if e
    exact ⟨h1, rfl⟩
  | lst hs hz ha =>
    cases e
    refine .inl ⟨_, sf.seq hs, ?_⟩
    cases ha <;> rfl
  | tup hs hz ha =>
    cases e
    refine .inr (.inl ⟨_, same_sqT sf hs, ?_⟩)
    cases ha <;> rfl
/-- an expression as a test, by its truth -/
theorem vt_truth (h : VE X P a fa) (he : ∀ whole, isTrue a X.env whole = (do let v ← whole; standAt a.pos; holding [v] (truthy v)) := by intro _; rfl) : VT X P a (mT fa) := PT_mono (pt_truth h he) fun σ H Q h => by
  obtain ⟨ρ, F, hR, h⟩ := h
  refine Out.firstB hR h fun d v F1 H1 e1 hv R1 h1 => ?_
  obtain ⟨r, hr, hq⟩ := h1.ofO
  exact ⟨r, truV_of R1.fh hv hr, hq H1 F1 (Ext.refl R1.fh)⟩
theorem rdB {t : TE} {f : Evn → RE PyData} {σ : Sg} {H : Hp} {Q : Bool → Hp → Prop} (m : ∀ Q, tV X P f σ H Q → t σ H Q) (h : tTV X P (mB f) σ H Q) : t σ H fun x H1 => ∃ c, x = .bl c ∧ Q c H1 := by
  obtain ⟨ρ, F, hR, h⟩ := h
  refine m _ (Out.firstB hR h fun d v F1 H1 e1 hv R1 h1 => ?_)
  obtain ⟨r, hr, hq⟩ := h1.ofO
  cases hv with
  | bl b => cases hr; exact ⟨r, rfl, hq H1 F1 (Ext.refl R1.fh)⟩
  | _ => cases hr
/-- a comparison as a test -/
theorem vt_cmp {op : CmpOp} {g : PyData → PyData → Option PyData} (ho : OpV X (compareOp op) g) (ha : VE X P a fa) (hb : VE X P b fb) (hm : behindInMarks op b = false := by first | exact nomark _ | rfl) : VT X P (.Compare a [op] [b] pos) (mB (m2 g fa fb)) :=
  PT_mono (pt_cmpR ho.r ha hb hm) fun σ H Q h => rdB (t := tOp (rV X g) (tV X P fa) (tV X P fb)) (fun Q => rd2) h
/-- and, or, not -/
def mAndB (fa fb : Evn → RE Bool) (ρ : Evn) : RE Bool := (fa ρ).bind fun c => if c then fb ρ else .ok false
def mOrB (fa fb : Evn → RE Bool) (ρ : Evn) : RE Bool := (fa ρ).bind fun c => if c then .ok true else fb ρ
def mNotB (fa : Evn → RE Bool) (ρ : Evn) : RE Bool := (fa ρ).bind fun c => .ok (!c)
theorem OutB.first {f : Evn → RE Bool} {k : Bool → RE Bool} {Q : Bool → Hp → Prop} {Q' : Bool → Hp → Prop} (hR : Rep X.K P ρ F σ H) (h : OutB X P σ Q F H ((f ρ).bind k))
    (hq : ∀ d F1 H1, Ext F H F1 H1 → Rep X.K P ρ F1 σ H1 → OutB X P σ Q F1 H1 (k d) → Q' d H1) : tTV X P f σ H Q' := by
  refine ⟨ρ, F, hR, ?_⟩
  exact R.post_mono (R.post_bind h) (fun d q H' F' e => hq d F' H' e (hR.step e) (OutB.step q e)) (fun c _ q => q)
variable {rest : List Expr}
theorem vw_and1 (ha : VT X P a ga) : VW X P (.BoolOp .And [a] pos) ga := pw_and1 ha
theorem vw_or1 (ha : VT X P a ga) : VW X P (.BoolOp .Or [a] pos) ga := pw_or1 ha
theorem vw_and (ha : VT X P a ga) (hb : VW X P (.BoolOp .And (b :: rest) pos) gb) : VW X P (.BoolOp .And (a :: b :: rest) pos) (mAndB ga gb) := PW_mono (pw_and ha hb) fun σ H Q h => by
  obtain ⟨ρ, F, hR, h⟩ := h
  refine OutB.first hR h fun d F1 H1 e R1 h1 => ?_
  cases d with
  | true => rw [if_pos rfl]; exact ⟨ρ, F1, R1, by simpa using h1⟩
  | false => rw [if_neg (by decide)]; exact h1 H1 F1 (Ext.refl R1.fh)
theorem vw_or (ha : VT X P a ga) (hb : VW X P (.BoolOp .Or (b :: rest) pos) gb) : VW X P (.BoolOp .Or (a :: b :: rest) pos) (mOrB ga gb) := PW_mono (pw_or ha hb) fun σ H Q h => by
  obtain ⟨ρ, F, hR, h⟩ := h
  refine OutB.first hR h fun d F1 H1 e R1 h1 => ?_
  cases d with
  | true => rw [if_pos rfl]; exact h1 H1 F1 (Ext.refl R1.fh)
  | false => rw [if_neg (by decide)]; exact ⟨ρ, F1, R1, by simpa using h1⟩
theorem VW.t (h : VW X P a ga) : VT X P a ga := PW.pt h
theorem vt_not (ha : VT X P a ga) : VT X P (.UnaryOp .Not a pos) (mNotB ga) := PT_mono (pt_not ha) fun σ H Q h => by
  obtain ⟨ρ, F, hR, h⟩ := h
  exact OutB.first hR h fun d F1 H1 e R1 h1 => h1 H1 F1 (Ext.refl R1.fh)
/-- .. as values, of bools -/
def mAnd (fa fb : Evn → RE PyData) (ρ : Evn) : RE PyData := (fa ρ).bind fun d => (ofO (toB d)).bind fun c => if c then fb ρ else .ok (.bool false)
def mOr (fa fb : Evn → RE PyData) (ρ : Evn) : RE PyData := (fa ρ).bind fun d => (ofO (toB d)).bind fun c => if c then .ok (.bool true) else fb ρ
def pNot : PyData → Option PyData
  | .bool b => some (.bool !b)
  | _ => none
def m1 (g : PyData → Option PyData) (fa : Evn → RE PyData) (ρ : Evn) : RE PyData := (fa ρ).bind fun d => ofO (g d)
theorem toB_of {F : Hp} {v : V} {d : PyData} (hv : Vd X.K F v d) {Q : VK} {k : Bool → RE PyData} (h : Out X P σ Q F H ((ofO (toB d)).bind k)) : ∃ c, v = .bl c ∧ Out X P σ Q F H (k c) := by
  cases hv with
  | bl b => exact ⟨b, rfl, h⟩
  | _ => exact h.elim
theorem ve_one {op : BoolOp} (h : VE X P a fa) : VE X P (.BoolOp op [a] pos) fa := pe_one h
theorem ve_and (ha : VE X P a fa) (hb : VE X P (.BoolOp .And (b :: rest) pos) fb) : VE X P (.BoolOp .And (a :: b :: rest) pos) (mAnd fa fb) := PE_mono (pe_and ha hb) fun σ H Q h => by
  obtain ⟨ρ, F, hR, h⟩ := h
  refine Out.first hR h fun d v F1 H1 e1 hv R1 h1 => ?_
  obtain ⟨c, rfl, h2⟩ := toB_of hv h1
  refine ⟨c, rfl, ?_⟩
  cases c with
  | true => rw [if_pos rfl]; exact ⟨ρ, F1, R1, by simpa using h2⟩
  | false => rw [if_neg (by decide)]; exact h2 _ H1 F1 (Ext.refl R1.fh) (.bl _)
theorem ve_or (ha : VE X P a fa) (hb : VE X P (.BoolOp .Or (b :: rest) pos) fb) : VE X P (.BoolOp .Or (a :: b :: rest) pos) (mOr fa fb) := PE_mono (pe_or ha hb) fun σ H Q h => by
  obtain ⟨ρ, F, hR, h⟩ := h
  refine Out.first hR h fun d v F1 H1 e1 hv R1 h1 => ?_
  obtain ⟨c, rfl, h2⟩ := toB_of hv h1
  refine ⟨c, rfl, ?_⟩
  cases c with
  | true => rw [if_pos rfl]; exact h2 _ H1 F1 (Ext.refl R1.fh) (.bl _)
  | false => rw [if_neg (by decide)]; exact ⟨ρ, F1, R1, by simpa using h2⟩
theorem ve_not (ha : VE X P a fa) : VE X P (.UnaryOp .Not a pos) (m1 pNot fa) := PE_mono (pe_not ha) fun σ H Q h => by
  obtain ⟨ρ, F, hR, h⟩ := h
  refine Out.first hR h fun d v F1 H1 e1 hv R1 h1 => ?_
  obtain ⟨r, hr, hq⟩ := h1.ofO
  cases hv with
  | bl b => cases hr; exact ⟨b, rfl, hq _ H1 F1 (Ext.refl R1.fh) (.bl _)⟩
  | _ => cases hr
def pNeg : PyData → Option PyData
  | .int i => some (.int (-i))
  | _ => none
theorem ve_neg (ha : VE X P a fa) : VE X P (.UnaryOp .USub a pos) (m1 pNeg fa) := PE_mono (pe_un un_neg ha) fun σ H Q h => by
  obtain ⟨ρ, F, hR, h⟩ := h
  refine Out.first hR h fun d v F1 H1 e1 hv R1 h1 => ?_
  obtain ⟨r, hr, hq⟩ := h1.ofO
  cases hv with
  | int b => cases hr; exact ⟨b, rfl, hq _ H1 F1 (Ext.refl R1.fh) (.int _)⟩
  | _ => cases hr
def mIf (fc : Evn → RE Bool) (fa fb : Evn → RE PyData) (ρ : Evn) : RE PyData := (fc ρ).bind fun c => if c then fa ρ else fb ρ
theorem OutB.firstV {f : Evn → RE Bool} {k : Bool → RE PyData} {Q : VK} {Q' : Bool → Hp → Prop} (hR : Rep X.K P ρ F σ H) (h : Out X P σ Q F H ((f ρ).bind k))
    (hq : ∀ d F1 H1, Ext F H F1 H1 → Rep X.K P ρ F1 σ H1 → Out X P σ Q F1 H1 (k d) → Q' d H1) : tTV X P f σ H Q' := by
  refine ⟨ρ, F, hR, ?_⟩
  exact R.post_mono (R.post_bind h) (fun d q H' F' e => hq d F' H' e (hR.step e) (Out.step q e)) (fun c _ q => q)
theorem ve_ifExp (hc : VT X P c gc) (ha : VE X P a fa) (hb : VE X P b fb) : VE X P (.IfExp c a b pos) (mIf gc fa fb) := PE_mono (pe_ifExp hc ha hb) fun σ H Q h => by
  obtain ⟨ρ, F, hR, h⟩ := h
  refine OutB.firstV hR h fun d F1 H1 e R1 h1 => ?_
  cases d with
  | true => rw [if_pos rfl]; exact ⟨ρ, F1, R1, by simpa using h1⟩
  | false => rw [if_neg (by decide)]; exact ⟨ρ, F1, R1, by simpa using h1⟩
/-- a op b op' c -/
def mChain (g g' : PyData → PyData → Option PyData) (fa fb fc : Evn → RE PyData) (ρ : Evn) : RE PyData :=
  (fa ρ).bind fun x => (fb ρ).bind fun y => (ofO (g x y)).bind fun z => (ofO (toB z)).bind fun k => if k then (fc ρ).bind fun w => ofO (g' y w) else .ok (.bool false)
theorem rdChain {g g' : PyData → PyData → Option PyData} {σ : Sg} {H : Hp} {Q : VK} (h : tV X P (mChain g g' fa fb fc) σ H Q) : tChain (rV X g) (rV X g') (tV X P fa) (tV X P fb) (tV X P fc) σ H Q := by
  obtain ⟨ρ, F, hR, h⟩ := h
  refine Out.first hR h fun d v F1 H1 e1 hv R1 h1 => ?_
  refine Out.first R1 h1 fun d2 v2 F2 H2 e2 hv2 R2 h2 => ?_
  cases hg : g d d2 with
  | none => rw [hg] at h2; exact h2.elim
  | some z =>
    rw [hg] at h2
    refine ⟨F2, d, d2, z, R2.fh, Vd.mono e2.ff d v hv, hv2, hg, fun v' H' F' e3 hv3 => ?_⟩
    obtain ⟨k, rfl, h3⟩ := toB_of hv3 (Out.step h2 e3)
    refine ⟨k, rfl, ?_⟩
    have R3 := R2.step e3
    cases k with
    | false => rw [if_neg (by decide)]; exact h3 _ H' F' (Ext.refl R3.fh) (.bl _)
    | true =>
      rw [if_pos rfl]
      have h3' : Out X P σ Q F' H' ((fc ρ).bind fun w => ofO (g' d2 w)) := h3
      refine Out.first R3 h3' fun d3 v3 F3 H3 e4 hv4 R4 h4 => ?_
      obtain ⟨r, hr, hq⟩ := h4.ofO
      exact ⟨F3, d2, d3, r, R4.fh, Vd.mono e4.ff d2 v2 (Vd.mono e3.ff d2 v2 hv2), hv4, hr, hq⟩
theorem ve_chain {op op' : CmpOp} {g g' : PyData → PyData → Option PyData} (ho : OpV X (compareOp op) g) (ho' : OpV X (compareOp op') g') (ha : VE X P a fa) (hb : VE X P b fb) (hc : VE X P c fc)
    (hm : lastMarks [op, op'] [b, c] = false := by with_unfolding_all rfl) : VE X P (.Compare a [op, op'] [b, c] pos) (mChain g g' fa fb fc) := PE_mono (pe_chain ho.r ho'.r ha hb hc hm) fun _ _ _ h => rdChain h
theorem vt_chain {op op' : CmpOp} {g g' : PyData → PyData → Option PyData} (ho : OpV X (compareOp op) g) (ho' : OpV X (compareOp op') g') (ha : VE X P a fa) (hb : VE X P b fb) (hc : VE X P c fc)
    (hm : lastMarks [op, op'] [b, c] = false := by with_unfolding_all rfl) : VT X P (.Compare a [op, op'] [b, c] pos) (mB (mChain g g' fa fb fc)) :=
  PT_mono (pt_chain ho.r ho'.r ha hb hc hm) fun σ H Q h => rdB (t := tChain (rV X g) (rV X g') (tV X P fa) (tV X P fb) (tV X P fc)) (fun Q => rdChain) h
end

/-! ### argument lists, displays -/
def OutA (X : Cx) (P : Pm) (σ : Sg) (Q : List V → Hp → Prop) (F H : Hp) (r : RE (List PyData)) : Prop :=
  r.post (fun ds => ∀ vs H' F', Ext F H F' H' → VdAll X.K F' vs ds → Q vs H') (fun c _ => ∀ C H' F', X.mg c = some (.ref C) → Ext F H F' H' → P.W (.ref C) none σ H')
theorem OutA.step {X : Cx} {P : Pm} {σ : Sg} {Q : List V → Hp → Prop} {F H F1 H1 : Hp} {r : RE (List PyData)} (h : OutA X P σ Q F H r) (e : Ext F H F1 H1) : OutA X P σ Q F1 H1 r :=
  R.post_mono h (fun d q v H' F' e' hv => q v H' F' (e.trans e') hv) (fun c _ q C H' F' hm e' => q C H' F' hm (e.trans e'))
def tAV (X : Cx) (P : Pm) (f : Evn → RE (List PyData)) : TA := fun σ H Q => ∃ ρ F, Rep X.K P ρ F σ H ∧ OutA X P σ Q F H (f ρ)
def VA (X : Cx) (P : Pm) (es : List Expr) (f : Evn → RE (List PyData)) : Prop := PA X es (tAV X P f)
theorem PA_mono {X : Cx} {e : List Expr} {t t' : TA} (h : PA X e t) (m : ∀ σ H Q, t' σ H Q → t σ H Q) : PA X e t' := ⟨fun pos pins s σ H Q I q => h.run pos pins s σ H Q I (m σ H Q q)⟩
def mNil (_ : Evn) : RE (List PyData) := .ok []
def mCons (f : Evn → RE PyData) (g : Evn → RE (List PyData)) (ρ : Evn) : RE (List PyData) := (f ρ).bind fun d => (g ρ).bind fun ds => .ok (d :: ds)
def mSeq (k : List PyData → RE PyData) (g : Evn → RE (List PyData)) (ρ : Evn) : RE PyData := (g ρ).bind k
section
variable {X : Cx} {P : Pm} {pos : Pos} {e : Expr} {es : List Expr} {f : Evn → RE PyData} {g : Evn → RE (List PyData)} {σ : Sg} {F H : Hp} {ρ : Evn}
theorem Out.firstA {f : Evn → RE PyData} {k : PyData → RE (List PyData)} {Q : List V → Hp → Prop} {Q' : VK} (hR : Rep X.K P ρ F σ H) (h : OutA X P σ Q F H ((f ρ).bind k))
    (hq : ∀ d v F1 H1, Ext F H F1 H1 → Vd X.K F1 v d → Rep X.K P ρ F1 σ H1 → OutA X P σ Q F1 H1 (k d) → Q' v H1) : tV X P f σ H Q' := by
  refine ⟨ρ, F, hR, ?_⟩
  exact R.post_mono (R.post_bind h) (fun d q v H' F' e hv => hq d v F' H' e hv (hR.step e) (OutA.step q e)) (fun c _ q => q)
theorem OutA.first {f : Evn → RE (List PyData)} {k : List PyData → RE (List PyData)} {Q : List V → Hp → Prop} {Q' : List V → Hp → Prop} (hR : Rep X.K P ρ F σ H) (h : OutA X P σ Q F H ((f ρ).bind k))
    (hq : ∀ d v F1 H1, Ext F H F1 H1 → VdAll X.K F1 v d → Rep X.K P ρ F1 σ H1 → OutA X P σ Q F1 H1 (k d) → Q' v H1) : tAV X P f σ H Q' := by
  refine ⟨ρ, F, hR, ?_⟩
  exact R.post_mono (R.post_bind h) (fun d q v H' F' e hv => hq d v F' H' e hv (hR.step e) (OutA.step q e)) (fun c _ q => q)
theorem OutA.firstV {f : Evn → RE (List PyData)} {k : List PyData → RE PyData} {Q : VK} {Q' : List V → Hp → Prop} (hR : Rep X.K P ρ F σ H) (h : Out X P σ Q F H ((f ρ).bind k))
    (hq : ∀ d v F1 H1, Ext F H F1 H1 → VdAll X.K F1 v d → Rep X.K P ρ F1 σ H1 → Out X P σ Q F1 H1 (k d) → Q' v H1) : tAV X P f σ H Q' := by
  refine ⟨ρ, F, hR, ?_⟩
  exact R.post_mono (R.post_bind h) (fun d q v H' F' e hv => hq d v F' H' e hv (hR.step e) (Out.step q e)) (fun c _ q => q)
theorem va_nil : VA X P [] mNil := PA_mono pa_nil fun σ H Q h => by
  obtain ⟨ρ, F, hR, h⟩ := h
  exact h [] H F (Ext.refl hR.fh) .nil
theorem va_cons (he : VE X P e f) (hr : VA X P es g) (hs : starEach (e :: es) X.env = (false, eval e X.env) :: starEach es X.env := by rfl) : VA X P (e :: es) (mCons f g) := PA_mono (pa_cons he hr hs) fun σ H Q h => by
  obtain ⟨ρ, F, hR, h⟩ := h
  refine Out.firstA hR h fun d v F1 H1 e1 hv R1 h1 => ?_
  refine OutA.first R1 h1 fun ds vs F2 H2 e2 hvs R2 h2 => ?_
  exact h2 _ H2 F2 (Ext.refl R2.fh) (.cons (Vd.mono e2.ff d v hv) hvs)
def mTup (ds : List PyData) : RE PyData := if ds.length ≤ sizeLine then .ok (.tuple ds) else .bad
def mLst (ds : List PyData) : RE PyData := if ds.length ≤ sizeLine then .ok (.list ds) else .bad
theorem Out.ite {Q : VK} {p : Prop} [Decidable p] {d : PyData} (h : Out X P σ Q F H (if p then .ok d else .bad)) : p ∧ ∀ v H' F', Ext F H F' H' → Vd X.K F' v d → Q v H' := by
  by_cases hp : p
  · rw [if_pos hp] at h; exact ⟨hp, h⟩
  · rw [if_neg hp] at h; exact h.elim
theorem ve_tup {k : Nat} (h : VA X P es g) : VE X P (.Tuple es k pos) (mSeq mTup g) := PE_mono (pe_tup h) fun σ H Q h => by
  obtain ⟨ρ, F, hR, h⟩ := h
  refine OutA.firstV hR h fun ds vs F1 H1 e1 hv R1 h1 => ?_
  obtain ⟨hp, hq⟩ := Out.ite h1
  have hl := hv.length
  exact ⟨by omega, new_tup R1.fh (by omega) hv hq⟩
theorem ve_lst (h : VA X P es g) : VE X P (.List es pos) (mSeq mLst g) := PE_mono (pe_lst h) fun σ H Q h => by
  obtain ⟨ρ, F, hR, h⟩ := h
  refine OutA.firstV hR h fun ds vs F1 H1 e1 hv R1 h1 => ?_
  obtain ⟨hp, hq⟩ := Out.ite h1
  have hl := hv.length
  exact ⟨by omega, new_lst R1.fh (by omega) hv hq⟩
end

/-! ### subscripts -/
def pIdx : PyData → PyData → Option PyData
  | .list ds, .int i => atI ds i
  | .tuple ds, .int i => atI ds i
  | .str x, .int i => if x.length ≤ sizeLine then (atI x.cps.toList i).map fun c => .str ⟨#[c]⟩ else none
  | _, _ => none
theorem VdAll.at {K : PySem.W.Frag} {F : Hp} {vs : List V} {ds : List PyData} {i : Int} {d : PyData} (h : VdAll K F vs ds) (e : atI ds i = some d) : ∃ v, atI vs i = some v ∧ Vd K F v d := by
  unfold atI at e ⊢
  rw [h.length]
  cases q : ixN ds.length i with
  | none => rw [q] at e; cases e
  | some j =>
    rw [q] at e
    obtain ⟨v, h1, h2⟩ := h.get (i := j) (d := d) e
    exact ⟨v, h1, h2⟩
theorem strOk_at {x : Str} {i : Int} {c : Nat} (h : PyData.strOk x = true) (e : atI x.cps.toList i = some c) : PyData.strOk ⟨#[c]⟩ = true := by
  unfold atI at e
  cases q : ixN x.cps.toList.length i with
  | none => rw [q] at e; cases e
  | some j =>
    rw [q] at e
    have e' : x.cps.toList[j]? = some c := e
    have hm : c ∈ x.cps.toList := List.mem_of_getElem? e'
    have h' : x.cps.all (fun c => decide (c < 0x110000)) = true := h
    rw [← Array.all_toList] at h'
    have h2 := List.all_eq_true.mp h' c hm
    show (#[c] : Array Nat).all (fun c => decide (c < 0x110000)) = true
    simpa using h2
section
variable {X : Cx} {P : Pm} {pos p2 : Pos} {a b : Expr} {fa fb : Evn → RE PyData}
theorem ix_all : IxR X (rV X pIdx) := by
  intro value slice pins s σ H x y v u Q I rx ry h hs
  obtain ⟨F, d, e, r, sf, hx, hy, hg, hq⟩ := h
  cases hx with
  | lst h1 z1 a1 =>
    cases hy with
    | int i =>
      obtain ⟨w, h2, h3⟩ := a1.at hg
      exact ix_list value slice pins s σ H _ _ v u Q I rx ry ⟨_, _, i, w, rfl, rfl, sf.seq h1, h2, hq _ _ F (Ext.refl sf) h3⟩ hs
    | _ => cases hg
  | tup h1 z1 a1 =>
    cases hy with
    | int i =>
      obtain ⟨w, h2, h3⟩ := a1.at hg
      exact ix_tup value slice pins s σ H _ _ v u Q I rx ry ⟨_, _, i, w, rfl, rfl, same_sqT sf h1, h2, hq _ _ F (Ext.refl sf) h3⟩ hs
    | _ => cases hg
  | str x hx1 =>
    cases hy with
    | int i =>
      obtain ⟨hz, hg⟩ : x.length ≤ sizeLine ∧ (atI x.cps.toList i).map (fun c => PyData.str ⟨#[c]⟩) = some r := by
        have hg' : (if x.length ≤ sizeLine then (atI x.cps.toList i).map fun c => PyData.str ⟨#[c]⟩ else none) = some r := hg
        by_cases hp : x.length ≤ sizeLine
        · rw [if_pos hp] at hg'; exact ⟨hp, hg'⟩
        · rw [if_neg hp] at hg'; cases hg'
      cases q : atI x.cps.toList i with
      | none => rw [q] at hg; cases hg
      | some c =>
        rw [q] at hg
        cases hg
        exact ix_str value slice pins s σ H _ _ v u Q I rx ry ⟨x, i, c, rfl, rfl, hz, q, hq _ _ F (Ext.refl sf) (.str _ (strOk_at hx1 q))⟩ hs
    | _ => cases hg
  | _ => cases hg
theorem ve_ix (ha : VE X P a fa) (hb : VE X P b fb) (hs : PlainIx b := by first | exact (fun _ _ => rfl) | (intro _ _; rfl)) : VE X P (.Subscript a b pos) (m2 pIdx fa fb) := PE_mono (pe_ix ix_all ha hb hs) fun _ _ _ h => rd2 h
/-! slices -/
def cutA {α : Type} (xs : List α) (lo hi : Option Int) : List α := (xs.drop (HT.sIx xs.length 0 lo)).take (HT.sIx xs.length xs.length hi - HT.sIx xs.length 0 lo)
theorem VdAll.cut {K : PySem.W.Frag} {F : Hp} {vs : List V} {ds : List PyData} (h : VdAll K F vs ds) (lo hi : Option Int) : VdAll K F (cutV vs lo hi) (cutA ds lo hi) := by
  unfold cutV cutA
  rw [h.length]
  exact (h.drop _).take _
def OutO (X : Cx) (P : Pm) (σ : Sg) (Q : Option Int → Hp → Prop) (F H : Hp) (r : RE (Option Int)) : Prop :=
  r.post (fun o => ∀ H' F', Ext F H F' H' → Q o H') (fun c _ => ∀ C H' F', X.mg c = some (.ref C) → Ext F H F' H' → P.W (.ref C) none σ H')
theorem OutO.step {σ : Sg} {Q : Option Int → Hp → Prop} {F H F1 H1 : Hp} {r : RE (Option Int)} (h : OutO X P σ Q F H r) (e : Ext F H F1 H1) : OutO X P σ Q F1 H1 r :=
  R.post_mono h (fun d q H' F' e' => q H' F' (e.trans e')) (fun c _ q C H' F' hm e' => q C H' F' hm (e.trans e'))
def tOV (X : Cx) (P : Pm) (f : Evn → RE (Option Int)) : TO := fun σ H Q => ∃ ρ F, Rep X.K P ρ F σ H ∧ OutO X P σ Q F H (f ρ)
def VO (X : Cx) (P : Pm) (e : Option Expr) (f : Evn → RE (Option Int)) : Prop := PO X e (tOV X P f)
theorem PO_mono {X : Cx} {e : Option Expr} {t t' : TO} (h : PO X e t) (m : ∀ σ H Q, t' σ H Q → t σ H Q) : PO X e t' := ⟨fun pins s σ H Q I q => h.run pins s σ H Q I (m σ H Q q)⟩
def mNo (_ : Evn) : RE (Option Int) := .ok none
def toI : PyData → Option Int
  | .int i => some i
  | _ => none
def mPart (f : Evn → RE PyData) (ρ : Evn) : RE (Option Int) := (f ρ).bind fun d => (ofO (toI d)).bind fun i => .ok (some i)
theorem vo_none : VO X P none mNo := PO_mono po_none fun σ H Q h => by
  obtain ⟨ρ, F, hR, h⟩ := h
  exact h H F (Ext.refl hR.fh)
theorem Out.firstO {σ : Sg} {F H : Hp} {ρ : Evn} {f : Evn → RE PyData} {k : PyData → RE (Option Int)} {Q : Option Int → Hp → Prop} {Q' : VK} (hR : Rep X.K P ρ F σ H) (h : OutO X P σ Q F H ((f ρ).bind k))
    (hq : ∀ d v F1 H1, Ext F H F1 H1 → Vd X.K F1 v d → Rep X.K P ρ F1 σ H1 → OutO X P σ Q F1 H1 (k d) → Q' v H1) : tV X P f σ H Q' := by
  refine ⟨ρ, F, hR, ?_⟩
  exact R.post_mono (R.post_bind h) (fun d q v H' F' e hv => hq d v F' H' e hv (hR.step e) (OutO.step q e)) (fun c _ q => q)
theorem OutO.firstV {σ : Sg} {F H : Hp} {ρ : Evn} {f : Evn → RE (Option Int)} {k : Option Int → RE PyData} {Q : VK} {Q' : Option Int → Hp → Prop} (hR : Rep X.K P ρ F σ H) (h : Out X P σ Q F H ((f ρ).bind k))
    (hq : ∀ d F1 H1, Ext F H F1 H1 → Rep X.K P ρ F1 σ H1 → Out X P σ Q F1 H1 (k d) → Q' d H1) : tOV X P f σ H Q' := by
  refine ⟨ρ, F, hR, ?_⟩
  exact R.post_mono (R.post_bind h) (fun d q H' F' e => hq d F' H' e (hR.step e) (Out.step q e)) (fun c _ q => q)
theorem vo_some (h : VE X P a fa) : VO X P (some a) (mPart fa) := PO_mono (po_some h) fun σ H Q h => by
  obtain ⟨ρ, F, hR, h⟩ := h
  refine Out.firstO hR h fun d v F1 H1 e1 hv R1 h1 => ?_
  cases hv with
  | int i => exact ⟨i, rfl, h1 H1 F1 (Ext.refl R1.fh)⟩
  | _ => exact h1.elim
def pCut (d : PyData) (lo hi : Option Int) : Option PyData := match d with
  | .list ds => some (.list (cutA ds lo hi))
  | .tuple ds => some (.tuple (cutA ds lo hi))
  | _ => none
def mCut (f : Evn → RE PyData) (l h : Evn → RE (Option Int)) (ρ : Evn) : RE PyData := (f ρ).bind fun d => (l ρ).bind fun lo => (h ρ).bind fun hi => ofO (pCut d lo hi)
def rCutV (X : Cx) : V → Option Int → Option Int → Hp → VK → Prop := fun x lo hi H Q => ∃ F d r, Same F H ∧ Vd X.K F x d ∧ pCut d lo hi = some r ∧ ∀ v' H' F', Ext F H F' H' → Vd X.K F' v' r → Q v' H'
theorem sl_all : SlR X (rCutV X) := by
  intro pins s σ H x v vl vu lo hi sl Q I rx hs pl pu h
  obtain ⟨F, d, r, sf, hx, hg, hq⟩ := h
  cases hx with
  | lst h1 z1 a1 =>
    cases hg
    exact sl_list pins s σ H _ v vl vu lo hi sl Q I rx hs pl pu ⟨_, _, rfl, sf.seq h1, new_lst sf (Nat.le_trans (cutV_length _ lo hi) z1) (a1.cut lo hi) hq⟩
  | @tup a xs ds h1 z1 a1 =>
    cases hg
    refine sl_tupA pins s σ H _ v vl vu lo hi sl Q I rx hs pl pu ⟨_, _, rfl, same_sqT sf h1, fun e => ?_, fun _ => new_tup sf (Nat.le_trans (cutV_length _ lo hi) z1) (a1.cut lo hi) hq⟩
    refine hq _ _ F (Ext.refl sf) (.tup h1 z1 ?_)
    have e2 : cutA ds lo hi = ds := by
      have hl := a1.length
      unfold cutA
      rw [← hl, e.1, e.2, List.drop_zero, Nat.sub_zero, hl, List.take_length]
    rw [e2]
    exact a1
  | _ => cases hg
theorem ve_cut {lo hi : Option Expr} {l h : Evn → RE (Option Int)} (ha : VE X P a fa) (hl : VO X P lo l) (hh : VO X P hi h) : VE X P (.Subscript a (.Slice lo hi none p2) pos) (mCut fa l h) := PE_mono (pe_slice sl_all ha hl hh) fun σ H Q h => by
  obtain ⟨ρ, F, hR, h⟩ := h
  refine Out.first hR h fun d v F1 H1 e1 hv R1 h1 => ?_
  refine OutO.firstV R1 h1 fun lo F2 H2 e2 R2 h2 => ?_
  refine OutO.firstV R2 h2 fun hi F3 H3 e3 R3 h3 => ?_
  obtain ⟨r, hr, hq⟩ := h3.ofO
  exact ⟨F3, d, r, R3.fh, Vd.mono (e2.trans e3).ff d v hv, hr, hq⟩
end
end PV
end
section
set_option Elab.async false
set_option linter.all false
set_option maxRecDepth 100000
set_option maxHeartbeats 4000000
namespace PV
open PySem PySem.Spec PyProof.Rows L2

/-! ### built-in functions by data -/
def rCV (X : Cx) (g : List PyData → Option PyData) : List V → Hp → VK → Prop := fun xs H Q => ∃ F ds r, Same F H ∧ VdAll X.K F xs ds ∧ g ds = some r ∧ ∀ v' H' F', Ext F H F' H' → Vd X.K F' v' r → Q v' H'
def mCall (g : List PyData → Option PyData) (fa : Evn → RE (List PyData)) (ρ : Evn) : RE PyData := (fa ρ).bind fun ds => ofO (g ds)
section
variable {X : Cx} {P : Pm} {pos p : Pos} {e : Expr} {es : List Expr} {fa : Evn → RE (List PyData)} {g : List PyData → Option PyData} {x : Str} {id T : String}
theorem rdCall {σ : Sg} {H : Hp} {Q : VK} (h : tV X P (mCall g fa) σ H Q) : tCB (rCV X g) (tAV X P fa) σ H Q := by
  obtain ⟨ρ, F, hR, h⟩ := h
  refine OutA.firstV hR h fun ds vs F1 H1 e1 hv R1 h1 => ?_
  obtain ⟨r, hr, hq⟩ := h1.ofO
  exact ⟨F1, ds, r, R1.fh, hv, hr, hq⟩
theorem ve_callB (hc : CallR X (.builtin id) (rCV X g)) (hg : Gl X x) (hm : X.mg x = none) (hv : bootBuiltins x = some (.builtin id)) (ha : VA X P (e :: es) fa) (hn : x ≠ "__name__" := by decide) (hdb : (x == ("__debug__" : Str)) = false := by decide)
    (he : starEach (e :: es) X.env = (false, eval e X.env) :: starEach es X.env := by rfl) (hpl : (backTo pos (starEach es X.env)).any (·.1) = false := by rfl) : VE X P (.Call (.Name x p) (e :: es) [] pos) (mCall g fa) :=
  PE_mono (pe_callB hc hg hm hv ha hn hdb he hpl) fun _ _ _ h => rdCall h
theorem ve_callTy (hc : CallR X (.type T) (rCV X g)) (hg : Gl X x) (hm : X.mg x = none) (hv : bootBuiltins x = some (.type T)) (ha : VA X P (e :: es) fa) (hn : x ≠ "__name__" := by decide) (hdb : (x == ("__debug__" : Str)) = false := by decide)
    (he : starEach (e :: es) X.env = (false, eval e X.env) :: starEach es X.env := by rfl) (hpl : (backTo pos (starEach es X.env)).any (·.1) = false := by rfl) : VE X P (.Call (.Name x p) (e :: es) [] pos) (mCall g fa) :=
  PE_mono (pe_callTy hc hg hm hv ha hn hdb he hpl) fun _ _ _ h => rdCall h
/-- a module's name for a built-in function (gcd) -/
theorem ve_callBfun (hc : CallR X (.builtin id) (rCV X g)) (hg : Gl X x) (hm : X.mg x = some (.builtin id)) (ha : VA X P (e :: es) fa) (hdb : (x == ("__debug__" : Str)) = false := by decide)
    (he : starEach (e :: es) X.env = (false, eval e X.env) :: starEach es X.env := by rfl) (hpl : (backTo pos (starEach es X.env)).any (·.1) = false := by rfl) : VE X P (.Call (.Name x p) (e :: es) [] pos) (mCall g fa) :=
  PE_mono (pe_callBfun hc hg hm ha hdb he hpl) fun _ _ _ h => rdCall h
end

/-! the meanings -/
def bLen : List PyData → Option PyData
  | [.list ds] => some (.int ds.length)
  | [.tuple ds] => some (.int ds.length)
  | [.str x] => if x.length ≤ sizeLine then some (.int x.length) else none
  | _ => none
def bInt : List PyData → Option PyData
  | [.int i] => some (.int i)
  | [.bool b] => some (.int (if b then 1 else 0))
  | _ => none
def bAbs : List PyData → Option PyData
  | [.int i] => some (.int (if i < 0 then -i else i))
  | _ => none
def bGcd : List PyData → Option PyData
  | [.int a, .int b] => some (.int ((Nat.gcd a.natAbs b.natAbs : Nat) : Int))
  | _ => none
def ints? : List PyData → Option (List Int)
  | [] => some []
  | .int i :: r => (ints? r).map (i :: ·)
  | _ => none
def bools? : List PyData → Option (List Bool)
  | [] => some []
  | .bool i :: r => (bools? r).map (i :: ·)
  | _ => none
theorem ints?_map (ns : List Int) : ints? (ns.map .int) = some ns := by
  induction ns with
  | nil => rfl
  | cons n r ih => simp only [List.map_cons, ints?, ih, Option.map_some]
theorem bools?_map (ns : List Bool) : bools? (ns.map .bool) = some ns := by
  induction ns with
  | nil => rfl
  | cons n r ih => simp only [List.map_cons, bools?, ih, Option.map_some]
theorem ints?_eq : ∀ {ds : List PyData} {ns : List Int}, ints? ds = some ns → ds = ns.map .int
  | [], _, h => by cases h; rfl
  | .int i :: r, ns, h => by
    cases q : ints? r with
    | none => simp [ints?, q] at h
    | some ms =>
      simp only [ints?, q, Option.map_some, Option.some.injEq] at h
      subst h
      rw [ints?_eq q]; rfl
  | .none :: r, _, h => nomatch h
  | .bool _ :: r, _, h => nomatch h
  | .str _ :: r, _, h => nomatch h
  | .list _ :: r, _, h => nomatch h
  | .tuple _ :: r, _, h => nomatch h
  | .dict _ :: r, _, h => nomatch h
theorem bools?_eq : ∀ {ds : List PyData} {ns : List Bool}, bools? ds = some ns → ds = ns.map .bool
  | [], _, h => by cases h; rfl
  | .bool i :: r, ns, h => by
    cases q : bools? r with
    | none => simp [bools?, q] at h
    | some ms =>
      simp only [bools?, q, Option.map_some, Option.some.injEq] at h
      subst h
      rw [bools?_eq q]; rfl
  | .none :: r, _, h => nomatch h
  | .int _ :: r, _, h => nomatch h
  | .str _ :: r, _, h => nomatch h
  | .list _ :: r, _, h => nomatch h
  | .tuple _ :: r, _, h => nomatch h
  | .dict _ :: r, _, h => nomatch h
theorem VdAll.ints {K : PySem.W.Frag} {F : Hp} : ∀ {ns : List Int} {vs : List V}, VdAll K F vs (ns.map .int) → vs = ns.map V.int
  | [], _, h => by cases h; rfl
  | n :: r, _, h => by
    cases h with
    | cons h1 h2 => cases h1; rw [VdAll.ints h2]; rfl
theorem VdAll.bools {K : PySem.W.Frag} {F : Hp} : ∀ {ns : List Bool} {vs : List V}, VdAll K F vs (ns.map .bool) → vs = ns.map V.bl
  | [], _, h => by cases h; rfl
  | n :: r, _, h => by
    cases h with
    | cons h1 h2 => cases h1; rw [VdAll.bools h2]; rfl
def bSum : List PyData → Option PyData
  | [.list ds] => (ints? ds).map fun ns => .int ns.sum
  | _ => none
def bAny : List PyData → Option PyData
  | [.list ds] => (bools? ds).map fun ns => .bool (ns.any id)
  | _ => none
def bAll : List PyData → Option PyData
  | [.list ds] => (bools? ds).map fun ns => .bool (ns.all id)
  | _ => none
/-- the greatest, the least -/
def lmax : List Int → Option Int
  | [] => none
  | n :: r => some (r.foldl max n)
def lmin : List Int → Option Int
  | [] => none
  | n :: r => some (r.foldl min n)
theorem foldl_max (r : List Int) : ∀ n : Int, (r.foldl max n = n ∨ r.foldl max n ∈ r) ∧ n ≤ r.foldl max n ∧ ∀ y ∈ r, y ≤ r.foldl max n := by
  induction r with
  | nil => intro n; simp
  | cons a r ih =>
    intro n
    obtain ⟨h1, h2, h3⟩ := ih (max n a)
    simp only [List.foldl_cons]
    refine ⟨?_, by omega, fun y hy => ?_⟩
    · rcases h1 with h1 | h1
      · rw [h1]
        rcases Int.le_total n a with q | q
        · right; rw [Int.max_eq_right q]; exact List.mem_cons_self
        · left; exact Int.max_eq_left q
      · right; exact List.mem_cons_of_mem _ h1
    · rcases List.mem_cons.mp hy with rfl | hy
      · omega
      · exact h3 y hy
theorem foldl_min (r : List Int) : ∀ n : Int, (r.foldl min n = n ∨ r.foldl min n ∈ r) ∧ r.foldl min n ≤ n ∧ ∀ y ∈ r, r.foldl min n ≤ y := by
  induction r with
  | nil => intro n; simp
  | cons a r ih =>
    intro n
    obtain ⟨h1, h2, h3⟩ := ih (min n a)
    simp only [List.foldl_cons]
    refine ⟨?_, by omega, fun y hy => ?_⟩
    · rcases h1 with h1 | h1
      · rw [h1]
        rcases Int.le_total n a with q | q
        · left; exact Int.min_eq_left q
        · right; rw [Int.min_eq_right q]; exact List.mem_cons_self
      · right; exact List.mem_cons_of_mem _ h1
    · rcases List.mem_cons.mp hy with rfl | hy
      · omega
      · exact h3 y hy
theorem lmax_mem {ns : List Int} {m : Int} (h : lmax ns = some m) : m ∈ ns ∧ ∀ y ∈ ns, y ≤ m := by
  cases ns with
  | nil => cases h
  | cons n r =>
    cases h
    obtain ⟨h1, h2, h3⟩ := foldl_max r n
    refine ⟨?_, fun y hy => ?_⟩
    · rcases h1 with q | q
      · rw [q]; exact List.mem_cons_self
      · exact List.mem_cons_of_mem _ q
    · rcases List.mem_cons.mp hy with rfl | hy
      · exact h2
      · exact h3 y hy
theorem lmin_mem {ns : List Int} {m : Int} (h : lmin ns = some m) : m ∈ ns ∧ ∀ y ∈ ns, m ≤ y := by
  cases ns with
  | nil => cases h
  | cons n r =>
    cases h
    obtain ⟨h1, h2, h3⟩ := foldl_min r n
    refine ⟨?_, fun y hy => ?_⟩
    · rcases h1 with q | q
      · rw [q]; exact List.mem_cons_self
      · exact List.mem_cons_of_mem _ q
    · rcases List.mem_cons.mp hy with rfl | hy
      · exact h2
      · exact h3 y hy
theorem lmax_of {ns : List Int} {m : Int} (h1 : m ∈ ns) (h2 : ∀ y ∈ ns, y ≤ m) : lmax ns = some m := by
  cases ns with
  | nil => cases h1
  | cons n r =>
    have h := lmax_mem (ns := n :: r) (m := r.foldl max n) rfl
    have a := h2 _ h.1
    have b := h.2 _ h1
    exact congrArg some (Int.le_antisymm a b)
theorem lmin_of {ns : List Int} {m : Int} (h1 : m ∈ ns) (h2 : ∀ y ∈ ns, m ≤ y) : lmin ns = some m := by
  cases ns with
  | nil => cases h1
  | cons n r =>
    have h := lmin_mem (ns := n :: r) (m := r.foldl min n) rfl
    have a := h2 _ h.1
    have b := h.2 _ h1
    exact congrArg some (Int.le_antisymm b a)
def bMax : List PyData → Option PyData
  | [.int i, .int j] => some (.int (if j > i then j else i))
  | [.list ds] => (ints? ds).bind fun ns => (lmax ns).map .int
  | _ => none
def bMin : List PyData → Option PyData
  | [.int i, .int j] => some (.int (if j < i then j else i))
  | [.list ds] => (ints? ds).bind fun ns => (lmin ns).map .int
  | _ => none
def bList : List PyData → Option PyData
  | [.list ds] => some (.list ds)
  | [.tuple ds] => some (.list ds)
  | _ => none
def bTuple : List PyData → Option PyData
  | [.list ds] => some (.tuple ds)
  | [.tuple ds] => some (.tuple ds)
  | _ => none
section
variable {X : Cx}
theorem vd1 {K : PySem.W.Frag} {F : Hp} {vs : List V} {d : PyData} (h : VdAll K F vs [d]) : ∃ v, vs = [v] ∧ Vd K F v d := by
  cases h with
  | cons h1 h2 => cases h2; exact ⟨_, rfl, h1⟩
theorem vd2 {K : PySem.W.Frag} {F : Hp} {vs : List V} {d e : PyData} (h : VdAll K F vs [d, e]) : ∃ v u, vs = [v, u] ∧ Vd K F v d ∧ Vd K F u e := by
  cases h with
  | cons h1 h2 =>
    obtain ⟨u, rfl, h3⟩ := vd1 h2
    exact ⟨_, u, rfl, h1, h3⟩
theorem cb_len : CallR X (.builtin "len") (rCV X bLen) := by
  intro pins s σ H xs us Q I r h
  obtain ⟨F, ds, d, sf, hv, hg, hq⟩ := h
  unfold bLen at hg
  split at hg
  · cases hg
    obtain ⟨v, rfl, h1⟩ := vd1 hv
    cases h1 with
    | lst hs hz ha =>
      refine call_len_seq pins s σ H _ us Q I r ⟨_, _, rfl, .inl (sf.seq hs), ?_⟩
      rw [ha.length]; exact hq _ _ F (Ext.refl sf) (.int _)
  · cases hg
    obtain ⟨v, rfl, h1⟩ := vd1 hv
    cases h1 with
    | tup hs hz ha =>
      refine call_len_seq pins s σ H _ us Q I r ⟨_, _, rfl, .inr (same_sqT sf hs), ?_⟩
      rw [ha.length]; exact hq _ _ F (Ext.refl sf) (.int _)
  · obtain ⟨hp, rfl⟩ := some_of_if hg
    obtain ⟨v, rfl, h1⟩ := vd1 hv
    cases h1 with
    | str _ hx => exact call_len_str pins s σ H _ us Q I r ⟨_, rfl, hp, hq _ _ F (Ext.refl sf) (.int _)⟩
  · cases hg
theorem cb_int : CallR X (.type "int") (rCV X bInt) := by
  intro pins s σ H xs us Q I r h
  obtain ⟨F, ds, d, sf, hv, hg, hq⟩ := h
  unfold bInt at hg
  split at hg
  · cases hg
    obtain ⟨v, rfl, h1⟩ := vd1 hv
    cases h1
    exact call_int1 pins s σ H _ us Q I r (.inl ⟨_, rfl, hq _ _ F (Ext.refl sf) (.int _)⟩)
  · cases hg
    obtain ⟨v, rfl, h1⟩ := vd1 hv
    cases h1
    exact call_int1 pins s σ H _ us Q I r (.inr ⟨_, rfl, hq _ _ F (Ext.refl sf) (.int _)⟩)
  · cases hg
theorem cb_abs : CallR X (.builtin "abs") (rCV X bAbs) := by
  intro pins s σ H xs us Q I r h
  obtain ⟨F, ds, d, sf, hv, hg, hq⟩ := h
  unfold bAbs at hg
  split at hg
  · cases hg
    obtain ⟨v, rfl, h1⟩ := vd1 hv
    cases h1
    exact call_abs pins s σ H _ us Q I r ⟨_, rfl, hq _ _ F (Ext.refl sf) (.int _)⟩
  · cases hg
theorem cb_gcd : CallR X (.builtin "math.gcd") (rCV X bGcd) := by
  intro pins s σ H xs us Q I r h
  obtain ⟨F, ds, d, sf, hv, hg, hq⟩ := h
  unfold bGcd at hg
  split at hg
  · cases hg
    obtain ⟨v, u, rfl, h1, h2⟩ := vd2 hv
    cases h1
    cases h2
    exact cr_gcd pins s σ H _ us Q I r ⟨_, _, rfl, hq _ _ F (Ext.refl sf) (.int _)⟩
  · cases hg
theorem vints {F : Hp} {v : V} {ds : List PyData} {ns : List Int} (h : Vd X.K F v (.list ds)) (e : ints? ds = some ns) : ∃ a, v = .ref a ∧ SqL X.K F a (ns.map V.int) := by
  rw [ints?_eq e] at h
  cases h with
  | lst hs hz ha =>
    rw [ha.ints] at hs
    exact ⟨_, rfl, hs⟩
theorem vbools {F : Hp} {v : V} {ds : List PyData} {ns : List Bool} (h : Vd X.K F v (.list ds)) (e : bools? ds = some ns) : ∃ a, v = .ref a ∧ SqL X.K F a (ns.map V.bl) := by
  rw [bools?_eq e] at h
  cases h with
  | lst hs hz ha =>
    rw [ha.bools] at hs
    exact ⟨_, rfl, hs⟩
theorem cb_sum (hc : X.calm = true) : CallR X (.builtin "sum") (rCV X bSum) := by
  intro pins s σ H xs us Q I r h
  obtain ⟨F, ds, d, sf, hv, hg, hq⟩ := h
  unfold bSum at hg
  split at hg
  · rename_i es
    cases e : ints? es with
    | none => rw [e] at hg; cases hg
    | some ns =>
      rw [e] at hg
      cases hg
      obtain ⟨v, rfl, h1⟩ := vd1 hv
      obtain ⟨a, rfl, hs⟩ := vints h1 e
      exact cr_sum hc pins s σ H _ us Q I r ⟨a, ns, rfl, sf.seq hs, hq _ _ F (Ext.refl sf) (.int _)⟩
  · cases hg
theorem cb_any (hc : X.calm = true) : CallR X (.builtin "any") (rCV X bAny) := by
  intro pins s σ H xs us Q I r h
  obtain ⟨F, ds, d, sf, hv, hg, hq⟩ := h
  unfold bAny at hg
  split at hg
  · rename_i es
    cases e : bools? es with
    | none => rw [e] at hg; cases hg
    | some ns =>
      rw [e] at hg
      cases hg
      obtain ⟨v, rfl, h1⟩ := vd1 hv
      obtain ⟨a, rfl, hs⟩ := vbools h1 e
      exact cr_any hc pins s σ H _ us Q I r ⟨a, ns, rfl, sf.seq hs, hq _ _ F (Ext.refl sf) (.bl _)⟩
  · cases hg
theorem cb_all (hc : X.calm = true) : CallR X (.builtin "all") (rCV X bAll) := by
  intro pins s σ H xs us Q I r h
  obtain ⟨F, ds, d, sf, hv, hg, hq⟩ := h
  unfold bAll at hg
  split at hg
  · rename_i es
    cases e : bools? es with
    | none => rw [e] at hg; cases hg
    | some ns =>
      rw [e] at hg
      cases hg
      obtain ⟨v, rfl, h1⟩ := vd1 hv
      obtain ⟨a, rfl, hs⟩ := vbools h1 e
      exact cr_all hc pins s σ H _ us Q I r ⟨a, ns, rfl, sf.seq hs, hq _ _ F (Ext.refl sf) (.bl _)⟩
  · cases hg
theorem lmax_pos {ns : List Int} {m : Int} (h : lmax ns = some m) : 0 < ns.length := by
  cases ns with
  | nil => cases h
  | cons a r => simp
theorem lmin_pos {ns : List Int} {m : Int} (h : lmin ns = some m) : 0 < ns.length := by
  cases ns with
  | nil => cases h
  | cons a r => simp
theorem cb_max (hc : X.calm = true) : CallR X (.builtin "max") (rCV X bMax) := by
  intro pins s σ H xs us Q I r h
  obtain ⟨F, ds, d, sf, hv, hg, hq⟩ := h
  unfold bMax at hg
  split at hg
  · cases hg
    obtain ⟨v, u, rfl, h1, h2⟩ := vd2 hv
    cases h1
    cases h2
    exact call_max2 hc pins s σ H _ us Q I r ⟨_, _, rfl, hq _ _ F (Ext.refl sf) (.int _)⟩
  · rename_i es
    cases e : ints? es with
    | none => rw [e] at hg; cases hg
    | some ns =>
      rw [e] at hg
      cases e2 : lmax ns with
      | none => simp [e2] at hg
      | some m =>
        simp only [Option.bind_some, e2, Option.map_some, Option.some.injEq] at hg
        subst hg
        obtain ⟨v, rfl, h1⟩ := vd1 hv
        obtain ⟨a, rfl, hs⟩ := vints h1 e
        refine cr_max hc pins s σ H _ us Q I r ⟨a, ns, rfl, sf.seq hs, lmax_pos e2, fun k k1 k2 => ?_⟩
        have e3 := lmax_of k1 k2
        rw [e2] at e3
        cases e3
        exact hq _ _ F (Ext.refl sf) (.int _)
  · cases hg
theorem cb_min (hc : X.calm = true) : CallR X (.builtin "min") (rCV X bMin) := by
  intro pins s σ H xs us Q I r h
  obtain ⟨F, ds, d, sf, hv, hg, hq⟩ := h
  unfold bMin at hg
  split at hg
  · cases hg
    obtain ⟨v, u, rfl, h1, h2⟩ := vd2 hv
    cases h1
    cases h2
    exact call_min2 hc pins s σ H _ us Q I r ⟨_, _, rfl, hq _ _ F (Ext.refl sf) (.int _)⟩
  · rename_i es
    cases e : ints? es with
    | none => rw [e] at hg; cases hg
    | some ns =>
      rw [e] at hg
      cases e2 : lmin ns with
      | none => simp [e2] at hg
      | some m =>
        simp only [Option.bind_some, e2, Option.map_some, Option.some.injEq] at hg
        subst hg
        obtain ⟨v, rfl, h1⟩ := vd1 hv
        obtain ⟨a, rfl, hs⟩ := vints h1 e
        refine cr_min hc pins s σ H _ us Q I r ⟨a, ns, rfl, sf.seq hs, lmin_pos e2, fun k k1 k2 => ?_⟩
        have e3 := lmin_of k1 k2
        rw [e2] at e3
        cases e3
        exact hq _ _ F (Ext.refl sf) (.int _)
  · cases hg
theorem cb_list : CallR X (.type "list") (rCV X bList) := by
  intro pins s σ H xs us Q I r h
  obtain ⟨F, ds, d, sf, hv, hg, hq⟩ := h
  unfold bList at hg
  split at hg
  · cases hg
    obtain ⟨v, rfl, h1⟩ := vd1 hv
    cases h1 with
    | lst hs hz ha => exact call_list_of pins s σ H _ us Q I r ⟨_, _, rfl, .inl (sf.seq hs), new_lst sf hz ha hq⟩
  · cases hg
    obtain ⟨v, rfl, h1⟩ := vd1 hv
    cases h1 with
    | tup hs hz ha => exact call_list_of pins s σ H _ us Q I r ⟨_, _, rfl, .inr (same_sqT sf hs), new_lst sf hz ha hq⟩
  · cases hg
theorem cb_tuple : CallR X (.type "tuple") (rCV X bTuple) := by
  intro pins s σ H xs us Q I r h
  obtain ⟨F, ds, d, sf, hv, hg, hq⟩ := h
  unfold bTuple at hg
  split at hg
  · cases hg
    obtain ⟨v, rfl, h1⟩ := vd1 hv
    cases h1 with
    | lst hs hz ha => exact call_tuple_of pins s σ H _ us Q I r ⟨_, _, rfl, .inl ⟨sf.seq hs, new_tup sf hz ha hq⟩⟩
  · cases hg
    obtain ⟨v, rfl, h1⟩ := vd1 hv
    cases h1 with
    | tup hs hz ha => exact call_tuple_of pins s σ H _ us Q I r ⟨_, _, rfl, .inr ⟨same_sqT sf hs, hq _ _ F (Ext.refl sf) (.tup hs hz ha)⟩⟩
  · cases hg
end

/-! ### isinstance -/
inductive Ty where | int | bool | str | list | tuple | none
  deriving DecidableEq
def Ty.name : Ty → String
  | .int => "int" | .bool => "bool" | .str => "str" | .list => "list" | .tuple => "tuple" | .none => "NoneType"
def tyOf : PyData → Ty
  | .none => .none | .bool _ => .bool | .int _ => .int | .str _ => .str | .list _ => .list | .tuple _ => .tuple | .dict _ => .none
def Ty.sub : Ty → Ty → Bool
  | .int, .int => true | .bool, .int => true | .bool, .bool => true | .str, .str => true | .list, .list => true | .tuple, .tuple => true | .none, .none => true
  | _, _ => false
def isTy (T : Ty) (d : PyData) : Bool := (tyOf d).sub T
theorem kitTy {K : PySem.W.Frag} (a b : Ty) (hb : b ≠ .none) : PySem.W.kitOne K (.type a.name) (.type b.name) = some (a.sub b) := by
  apply kit_ty
  cases a <;> cases b <;> first | exact absurd rfl hb | decide +kernel
section
variable {X : Cx} {P : Pm} {pos p p2 : Pos} {e : Expr} {f : Evn → RE PyData} {x : Str}
theorem vd_ty {F H : Hp} {v : V} {d : PyData} (sf : Same F H) (h : Vd X.K F v d) : TyX X.K H v (.type (tyOf d).name) := by
  cases h with
  | non => exact .base .non
  | bl b => exact .base (.bl b)
  | int i => exact .base (.int i)
  | str x hx => exact .base (.str x)
  | lst hs hz ha =>
    rcases sf.seq hs with (h | ⟨o, h⟩) | ⟨o, its, n, hk, hc, _⟩
    · exact .base (.lst h)
    · exact .base (.frz h)
    · exact .kList hk hc
  | tup hs hz ha =>
    rcases same_sqT sf hs with (h | ⟨o, h⟩) | ⟨o, its, n, hk, hc, _⟩
    · exact .base (.tup h)
    · exact .fTuple h
    · exact .kTuple hk hc
/-- a built-in class as a value -/
theorem pe_cls {T : Ty} (hg : Gl X x) (hm : X.mg x = none) (hv : bootBuiltins x = some (.type T.name)) (hn : x ≠ "__name__" := by decide) (hdb : (x == ("__debug__" : Str)) = false := by decide) : PE X (.Name x p) (tC (.ty T.name)) := pe_bltn hg hm hv rfl hn hdb
def mIs (T : Ty) (f : Evn → RE PyData) (ρ : Evn) : RE PyData := (f ρ).bind fun d => .ok (.bool (isTy T d))
theorem ve_isi {T : Ty} (hT : T ≠ .none) (he : VE X P e f) (hg : Gl X "isinstance") (hm : X.mg "isinstance" = none) (hg2 : Gl X x) (hm2 : X.mg x = none) (hv : bootBuiltins x = some (.type T.name)) (hn : x ≠ "__name__" := by decide) (hdb : (x == ("__debug__" : Str)) = false := by decide)
    (h1 : starEach [e, .Name x p2] X.env = (false, eval e X.env) :: starEach [.Name x p2] X.env := by rfl) (h2 : starEach [.Name x p2] X.env = (false, eval (.Name x p2) X.env) :: starEach [] X.env := by rfl) (hpl : (backTo pos (starEach [.Name x p2] X.env)).any (·.1) = false := by rfl) :
    VE X P (.Call (.Name "isinstance" p) [e, .Name x p2] [] pos) (mIs T f) :=
  PE_mono (pe_callB call_isi hg hm (by decide +kernel) (pa_cons he (pa_cons (pe_cls hg2 hm2 hv hn hdb) pa_nil h2) h1) (he := h1) (hpl := hpl)) fun σ H Q h => by
    obtain ⟨ρ, F, hR, h⟩ := h
    refine Out.first hR h fun d v F1 H1 e1 hv R1 h1 => ?_
    exact ⟨v, _, _, _, _, rfl, .ty _, vd_ty R1.fh hv, kitTy _ _ hT, h1 _ H1 F1 (Ext.refl R1.fh) (.bl _)⟩
/-- isinstance(e, (T, U)) -/
def mIs2 (T U : Ty) (f : Evn → RE PyData) (ρ : Evn) : RE PyData := (f ρ).bind fun d => .ok (.bool (isTy T d || isTy U d))
theorem ve_isi2 {T U : Ty} {y : Str} {p3 p4 : Pos} {k : Nat} (hT : T ≠ .none) (hU : U ≠ .none) (he : VE X P e f) (hg : Gl X "isinstance") (hm : X.mg "isinstance" = none) (hg2 : Gl X x) (hm2 : X.mg x = none) (hv : bootBuiltins x = some (.type T.name))
    (hg3 : Gl X y) (hm3 : X.mg y = none) (hv3 : bootBuiltins y = some (.type U.name)) (hn : x ≠ "__name__" := by decide) (hdb : (x == ("__debug__" : Str)) = false := by decide) (hn3 : y ≠ "__name__" := by decide) (hdb3 : (y == ("__debug__" : Str)) = false := by decide)
    (h1 : starEach [e, .Tuple [.Name x p2, .Name y p3] k p4] X.env = (false, eval e X.env) :: starEach [.Tuple [.Name x p2, .Name y p3] k p4] X.env := by rfl) (h2 : starEach [.Tuple [.Name x p2, .Name y p3] k p4] X.env = (false, eval (.Tuple [.Name x p2, .Name y p3] k p4) X.env) :: starEach [] X.env := by rfl)
    (hpl : (backTo pos (starEach [.Tuple [.Name x p2, .Name y p3] k p4] X.env)).any (·.1) = false := by rfl)
    (h3 : starEach [.Name x p2, .Name y p3] X.env = (false, eval (.Name x p2) X.env) :: starEach [.Name y p3] X.env := by rfl) (h4 : starEach [.Name y p3] X.env = (false, eval (.Name y p3) X.env) :: starEach [] X.env := by rfl) :
    VE X P (.Call (.Name "isinstance" p) [e, .Tuple [.Name x p2, .Name y p3] k p4] [] pos) (mIs2 T U f) :=
  PE_mono (pe_callB call_isiT hg hm (by decide +kernel) (pa_cons he (pa_cons (pe_tup (pa_cons (pe_cls hg2 hm2 hv hn hdb) (pa_cons (pe_cls hg3 hm3 hv3 hn3 hdb3) pa_nil h4) h3)) pa_nil h2) h1) (he := h1) (hpl := hpl)) fun σ H Q h => by
    obtain ⟨ρ, F, hR, h⟩ := h
    refine Out.first hR h fun d v F1 H1 e1 hv R1 h1 => ?_
    refine ⟨by show 2 ≤ sizeLine; decide, fun tp hp => ?_⟩
    refine ⟨v, tp, _, _, _, _, rfl, upd_same, .cons (.ty _) (.cons (.ty _) .nil), vd_ty (R1.fh.trans (same_upd hp)) hv, kitAny_cons (r := isTy T d || isTy U d) (kitTy _ _ hT) (fun hb => kitAny_cons (kitTy _ _ hU) (fun hb2 => ?_) (fun hb2 => ?_)) (fun hb => ?_), ?_⟩
    · have a1 : isTy T d = false := hb
      have a2 : isTy U d = false := hb2
      rw [a1, a2]; exact kitAny_nil
    · have a2 : isTy U d = true := hb2
      rw [a2, Bool.or_true]
    · have a1 : isTy T d = true := hb
      rw [a1, Bool.true_or]
    · exact h1 _ _ F1 (Ext.beside R1.fh hp) (.bl _)
end
end PV
end
section
set_option Elab.async false
set_option linter.all false
set_option maxRecDepth 100000
set_option maxHeartbeats 4000000
namespace PV
open PySem PySem.Spec PyProof.Rows L2

/-! ### defs -/
/-- a def's promise by its meaning: what stood is as it was, the answer is the datum -/
def SpV (K : PySem.W.Frag) (mg : Str → Option Value) (n : Nat) (sem : List PyData → RE PyData) : Sp := fun vs H Q E => ∃ F ds, Same F H ∧ VdAll K F vs ds ∧ ds.length = n ∧
  (sem ds).post (fun d => ∀ v H' F', Ext F H F' H' → Vd K F' v d → Q v H') (fun c _ => ∀ C H' F', mg c = some (.ref C) → Ext F H F' H' → E (.ref C) none H')
structure FnV (P : Program) (w : World) (K : PySem.W.Frag) (mg : Str → Option Value) (base : Heap) (k : Nat) (f : Addr) (fd : FuncData) (ps : List Str) (sem : List PyData → RE PyData) : Prop where
  ok : FnOk P w K mg base (L2.CX P w) k f fd ps (SpV K mg ps.length sem)
  ar : ∀ ds, ds.length ≠ ps.length → sem ds = .bad
theorem FnV.mono {P : Program} {w : World} {K : PySem.W.Frag} {mg : Str → Option Value} {base : Heap} {j k : Nat} {f : Addr} {fd : FuncData} {ps : List Str} {sem : List PyData → RE PyData} (h : FnV P w K mg base j f fd ps sem) (hk : j ≤ k) :
    FnV P w K mg base k f fd ps sem := ⟨h.ok.mono hk, h.ar⟩
/-- nothing is claimed -/
theorem FnV.bad {P : Program} {w : World} {K : PySem.W.Frag} {mg : Str → Option Value} {base : Heap} {k : Nat} {f : Addr} {fd : FuncData} {ps : List Str} : FnV P w K mg base k f fd ps (fun _ => .bad) :=
  ⟨⟨fun vs H Q E ⟨F, ds, _, _, _, h⟩ => h.elim, fun _ _ _ _ _ _ _ _ _ _ _ _ _ ⟨F, ds, _, _, _, h⟩ => h.elim⟩, fun _ _ => rfl⟩
section
variable {X : Cx} {P : Pm} {pos p : Pos} {e : Expr} {es : List Expr} {fa : Evn → RE (List PyData)} {sem : List PyData → RE PyData} {x : Str} {k : Nat} {f : Addr} {fd : FuncData} {ps : List Str}
theorem spV_of {σ : Sg} {H F : Hp} {Q : VK} {vs : List V} {ds : List PyData} (ar : ∀ ds, ds.length ≠ ps.length → sem ds = .bad) (sf : Same F H) (hv : VdAll X.K F vs ds) (h : Out X P σ Q F H (sem ds)) : SpV X.K X.mg ps.length sem vs H Q (WE P.W σ) := by
  refine ⟨F, ds, sf, hv, ?_, R.post_mono h (fun d q => q) (fun c _ q => q)⟩
  by_cases hl : ds.length = ps.length
  · exact hl
  · rw [ar ds hl] at h; exact h.elim
theorem ve_call (F : FnV X.prog X.w X.K X.mg X.base k f fd ps sem) (hr : Room k X.A) (hg : Gl X x) (hm : X.mg x = some (.ref f)) (hk : PySem.W.keepIn X.K (.ref f) = true) (hb : Binds X.K fd ps []) (tk : Takes X P.W)
    (ha : VA X P (e :: es) fa) (hdb : (x == ("__debug__" : Str)) = false := by decide) (he : starEach (e :: es) X.env = (false, eval e X.env) :: starEach es X.env := by rfl) (hpl : (backTo pos (starEach es X.env)).any (·.1) = false := by rfl) :
    VE X P (.Call (.Name x p) (e :: es) [] pos) (mSeq sem fa) := PE_mono (pe_callS F.ok hr hg hm hk hb (fun σ => passAt tk σ) ha hdb he hpl) fun σ H Q h => by
  obtain ⟨ρ, F0, hR, h⟩ := h
  exact OutA.firstV hR h fun ds vs F1 H1 e1 hv R1 h1 => spV_of F.ar R1.fh hv h1
/-- f() -/
theorem ve_call0 (F : FnV X.prog X.w X.K X.mg X.base k f fd ps sem) (hr : Room k X.A) (hg : Gl X x) (hm : X.mg x = some (.ref f)) (hk : PySem.W.keepIn X.K (.ref f) = true) (hb : Binds X.K fd ps []) (tk : Takes X P.W)
    (hdb : (x == ("__debug__" : Str)) = false := by decide) :
    VE X P (.Call (.Name x p) [] [] pos) (fun _ => sem []) := by
  have hc : PE X (.Call (.Name x p) [] [] pos) (fun σ H Q => SpV X.K X.mg ps.length sem [] H Q (WE P.W σ)) := by
    refine ⟨fun pins s σ H Q I h => ?_⟩
    refine wpAny_Call_Name_kw (ld_glob I hg hm ?_ hdb)
    exact PySem.W.callWith_K0 I.kIn hk (run_fnS (us := []) (E := WE P.W) F.ok hr hb (passAt tk σ) I .nil h)
  exact PE_mono hc fun σ H Q h => by
    obtain ⟨ρ, F0, hR, h⟩ := h
    exact spV_of F.ar hR.fh .nil h
end

/-! ### statements -/
inductive Fl where
  | nx | bk | ct
  | rt (d : PyData)
abbrev RS := R Evn (Fl × Evn)
def OutS (X : Cx) (P : Pm) (D : Ends) (F : Hp) (r : RS) : Prop :=
  r.post (fun p => match p.1 with
    | .nx => ∀ σ' H' F', Same F F' → Rep X.K P p.2 F' σ' H' → D.nx σ' H'
    | .bk => ∀ σ' H' F', Same F F' → Rep X.K P p.2 F' σ' H' → D.bk σ' H'
    | .ct => ∀ σ' H' F', Same F F' → Rep X.K P p.2 F' σ' H' → D.ct σ' H'
    | .rt d => ∀ v σ' H' F', Same F F' → Rep X.K P p.2 F' σ' H' → Vd X.K F' v d → D.rt v H')
  (fun c ρ' => ∀ C σ' H' F', X.mg c = some (.ref C) → Same F F' → Rep X.K P ρ' F' σ' H' → P.W (.ref C) none σ' H')
theorem OutS.step {X : Cx} {P : Pm} {D : Ends} {F F1 : Hp} {r : RS} (h : OutS X P D F r) (e : Same F F1) : OutS X P D F1 r :=
  R.post_mono h (fun p q => by
    obtain ⟨fl, ρ⟩ := p
    cases fl with
    | nx => exact fun σ' H' F' s r => q σ' H' F' (e.trans s) r
    | bk => exact fun σ' H' F' s r => q σ' H' F' (e.trans s) r
    | ct => exact fun σ' H' F' s r => q σ' H' F' (e.trans s) r
    | rt d => exact fun v σ' H' F' s r => q v σ' H' F' (e.trans s) r) (fun c ρ' q C σ' H' F' hm s r => q C σ' H' F' hm (e.trans s) r)
def tS (X : Cx) (P : Pm) (f : Evn → RS) : TS := fun D σ H => ∃ ρ F, Rep X.K P ρ F σ H ∧ OutS X P D F (f ρ)
def VS (X : Cx) (P : Pm) (st : Stmt) (f : Evn → RS) : Prop := PS X st (tS X P f)
def VSs (X : Cx) (P : Pm) (sts : List Stmt) (f : Evn → RS) : Prop := PSs X sts (tS X P f)
theorem PS_mono {X : Cx} {st : Stmt} {t t' : TS} (h : PS X st t) (m : ∀ D σ H, t' D σ H → t D σ H) : PS X st t' := ⟨fun pins s σ H D I q => h.run pins s σ H D I (m D σ H q)⟩
theorem PSs_mono {X : Cx} {st : List Stmt} {t t' : TS} (h : PSs X st t) (m : ∀ D σ H, t' D σ H → t D σ H) : PSs X st t' := ⟨fun pins s σ H D I q => h.run pins s σ H D I (m D σ H q)⟩
/-- an expression's result in a statement -/
def R.at {α : Type} (x : RE α) (ρ : Evn) : R Evn α := match x with
  | .ok a => .ok a
  | .exc c _ => .exc c ρ
  | .bad => .bad
def sNx (ρ : Evn) : RS := .ok (.nx, ρ)
def sThen (f g : Evn → RS) (ρ : Evn) : RS := (f ρ).bind fun p => match p.1 with
  | .nx => g p.2
  | _ => .ok p
def sDrop (f : Evn → RE PyData) (ρ : Evn) : RS := ((f ρ).at ρ).bind fun _ => .ok (.nx, ρ)
def sRet (f : Evn → RE PyData) (ρ : Evn) : RS := ((f ρ).at ρ).bind fun d => .ok (.rt d, ρ)
def sSet (i : Nat) (f : Evn → RE PyData) (ρ : Evn) : RS := ((f ρ).at ρ).bind fun d => .ok (.nx, ρ.set i (some (.val d)))
def sIf (c : Evn → RE Bool) (f g : Evn → RS) (ρ : Evn) : RS := ((c ρ).at ρ).bind fun b => if b then f ρ else g ρ
section
variable {X : Cx} {P : Pm} {pos : Pos} {st : Stmt} {sts : List Stmt} {e : Expr} {f g : Evn → RS} {fe : Evn → RE PyData} {fc : Evn → RE Bool} {D : Ends} {ρ : Evn} {F H : Hp} {σ : Sg}
/-- an expression in a statement is read -/
theorem OutS.first {k : PyData → RS} {Q' : VK} (hR : Rep X.K P ρ F σ H) (h : OutS X P D F (((fe ρ).at ρ).bind k)) (hq : ∀ d v F1 H1, Ext F H F1 H1 → Vd X.K F1 v d → Rep X.K P ρ F1 σ H1 → OutS X P D F1 (k d) → Q' v H1) : tV X P fe σ H Q' := by
  refine ⟨ρ, F, hR, ?_⟩
  cases q : fe ρ with
  | ok d => rw [q] at h; exact fun v H' F' ex hv => hq d v F' H' ex hv (hR.step ex) (OutS.step h ex.ff)
  | exc c u => rw [q] at h; exact fun C H' F' hm ex => h C σ H' F' hm ex.ff (hR.step ex)
  | bad => rw [q] at h; exact h.elim
theorem OutS.firstB {k : Bool → RS} {Q' : Bool → Hp → Prop} (hR : Rep X.K P ρ F σ H) (h : OutS X P D F (((fc ρ).at ρ).bind k)) (hq : ∀ d F1 H1, Ext F H F1 H1 → Rep X.K P ρ F1 σ H1 → OutS X P D F1 (k d) → Q' d H1) : tTV X P fc σ H Q' := by
  refine ⟨ρ, F, hR, ?_⟩
  cases q : fc ρ with
  | ok d => rw [q] at h; exact fun H' F' ex => hq d F' H' ex (hR.step ex) (OutS.step h ex.ff)
  | exc c u => rw [q] at h; exact fun C H' F' hm ex => h C σ H' F' hm ex.ff (hR.step ex)
  | bad => rw [q] at h; exact h.elim
theorem vs_nil : VSs X P [] sNx := PSs_mono pss_nil fun D σ H h => by
  obtain ⟨ρ, F, hR, h⟩ := h
  exact h σ H F (Same.refl _) hR
theorem tS_then {D : Ends} {σ : Sg} {H : Hp} (h : tS X P (sThen f g) D σ H) : tSeq (tS X P f) (tS X P g) D σ H := by
  obtain ⟨ρ, F, hR, h⟩ := h
  refine ⟨ρ, F, hR, ?_⟩
  unfold sThen at h
  cases q : f ρ with
  | ok p =>
    rw [q] at h
    obtain ⟨fl, ρ'⟩ := p
    cases fl with
    | nx => exact fun σ' H' F' s hR' => ⟨ρ', F', hR', OutS.step h s⟩
    | bk => exact h
    | ct => exact h
    | rt d => exact h
  | exc c u => rw [q] at h; exact h
  | bad => rw [q] at h; exact h.elim
theorem vs_cons (h1 : VS X P st f) (h2 : VSs X P sts g) : VSs X P (st :: sts) (sThen f g) := PSs_mono (pss_cons h1 h2) fun D σ H h => tS_then h
theorem vs_one (h1 : VS X P st f) : VSs X P [st] f := pss_one h1
theorem vs_pass : VS X P (.Pass pos) sNx := PS_mono ps_pass fun D σ H h => by
  obtain ⟨ρ, F, hR, h⟩ := h
  exact h σ H F (Same.refl _) hR
theorem vs_break : VS X P (.Break pos) (fun ρ => .ok (.bk, ρ)) := PS_mono ps_break fun D σ H h => by
  obtain ⟨ρ, F, hR, h⟩ := h
  exact h σ H F (Same.refl _) hR
theorem vs_continue : VS X P (.Continue pos) (fun ρ => .ok (.ct, ρ)) := PS_mono ps_continue fun D σ H h => by
  obtain ⟨ρ, F, hR, h⟩ := h
  exact h σ H F (Same.refl _) hR
theorem vs_expr (he : VE X P e fe) (hs : swapsWith e none pos.line X.env = pure false := by rfl) : VS X P (.Expr e pos) (sDrop fe) := PS_mono (ps_expr he hs) fun D σ H h => by
  obtain ⟨ρ, F, hR, h⟩ := h
  exact OutS.first hR h fun d v F1 H1 e1 hv R1 h1 => h1 σ H1 F1 (Same.refl _) R1
theorem vs_ret (he : VE X P e fe) : VS X P (.Return (some e) pos) (sRet fe) := PS_mono (ps_ret he) fun D σ H h => by
  obtain ⟨ρ, F, hR, h⟩ := h
  exact OutS.first hR h fun d v F1 H1 e1 hv R1 h1 => h1 v σ H1 F1 (Same.refl _) R1 hv
theorem vs_retN : VS X P (.Return none pos) (fun ρ => .ok (.rt .none, ρ)) := PS_mono ps_retN fun D σ H h => by
  obtain ⟨ρ, F, hR, h⟩ := h
  exact h _ σ H F (Same.refl _) hR .non
theorem vs_if {c : Expr} {a b : List Stmt} (hc : VT X P c fc) (ha : VSs X P a f) (hb : VSs X P b g) : VS X P (.If c a b pos) (sIf fc f g) := PS_mono (ps_if hc ha hb) fun D σ H h => by
  obtain ⟨ρ, F, hR, h⟩ := h
  refine OutS.firstB hR h fun d F1 H1 e1 R1 h1 => ?_
  cases d with
  | true => rw [if_pos rfl]; exact ⟨ρ, F1, R1, by simpa using h1⟩
  | false => rw [if_neg (by decide)]; exact ⟨ρ, F1, R1, by simpa using h1⟩
theorem vs_set (i : Nat) {x : Str} {pos' : Pos} (hN : X.N.Nodup) (he : VE X P e fe) (hi : X.N[i]? = some x := by rfl) (hx : Loc X.env.scope x := by first | exact Or.inl rfl | exact Or.inr rfl) (hs : swapsWith e (some (.Name x pos')) pos.line X.env = pure false := by rfl)
    (hf : X.fn x = true ∨ X.env.scope.names.lookup x = some .local := by first | exact .inl rfl | exact .inr rfl) : VS X P (.Assign [.Name x pos'] e pos) (sSet i fe) := PS_mono (ps_set hN hi hx he hs hf) fun D σ H h => by
  obtain ⟨ρ, F, hR, h⟩ := h
  exact OutS.first hR h fun d v F1 H1 e1 hv R1 h1 => h1 _ H1 F1 (Same.refl _) (R1.setVal hv)
/-- a name's own list becomes still ahead of a statement -/
theorem vs_freeze (i : Nat) (h : VS X P st f) : VS X P st (fun ρ => f (freeze i ρ)) := PS_mono h fun D σ H h => by
  obtain ⟨ρ, F, hR, h⟩ := h
  obtain ⟨F', s1, R1⟩ := hR.freeze (i := i)
  exact ⟨_, F', R1, OutS.step h s1⟩
/-! data without a list -/
mutual
def scal : PyData → Bool
  | .none => true | .bool _ => true | .int _ => true | .str _ => true
  | .tuple ds => scalAll ds
  | .list _ => false | .dict _ => false
def scalAll : List PyData → Bool
  | [] => true
  | d :: r => scal d && scalAll r
end
/-- an expression whose answer bears no list may read a name's own list -/
def mBor (i : Nat) (f : Evn → RE PyData) (ρ : Evn) : RE PyData := (f (freeze i ρ)).bind fun d => if scal d then .ok d else .bad
theorem Rep.bor {F1 H' F' : Hp} (r : Rep X.K P ρ F σ H) (s : Same F F1) (e : Ext F1 H F' H') : Ext F H F H' := ⟨e.hh, Same.refl _, r.fh.trans e.hh, fun _ _ q => .inl q⟩
theorem Rep.freezeL {K : PySem.W.Frag} {P : Pm} {ρ : Evn} {F H : Hp} {σ : Sg} {i : Nat} (r : Rep K P ρ F σ H) : ∃ F', Same F F' ∧ (∀ a o, F' a = some o → F a = some o ∨ ∃ xs, o = .lst xs) ∧ Rep K P (PV.freeze i ρ) F' σ H := by
  unfold PV.freeze
  cases q : ρ[i]? with
  | none => exact ⟨F, Same.refl _, fun _ _ e => .inl e, r⟩
  | some o =>
    cases o with
    | none => exact ⟨F, Same.refl _, fun _ _ e => .inl e, r⟩
    | some c =>
      cases c with
      | val d => exact ⟨F, Same.refl _, fun _ _ e => .inl e, r⟩
      | exn c => exact ⟨F, Same.refl _, fun _ _ e => .inl e, r⟩
      | dic c => exact ⟨F, Same.refl _, fun _ _ e => .inl e, r⟩
      | own ds =>
        obtain ⟨v, hσ, a, xs, ev, hb, hf, hh, hz, hd⟩ := r.slot i _ q
        subst ev
        have hi : i < ρ.length := (List.getElem?_eq_some_iff.mp q).1
        have ff : Same F (upd F a (.lst xs)) := same_upd hf
        have hset : σ.set i (some (.ref a)) = σ := by
          apply List.ext_getElem?
          intro j
          by_cases hj : i = j
          · subst hj; rw [List.getElem?_set_self (by rw [← r.len]; exact hi)]; exact hσ.symm
          · rw [List.getElem?_set_ne hj]
        have nj : ∀ {j : Nat} {c : Cel}, (ρ.set i (some (.val (.list ds))))[j]? = some (some c) → (i = j ∧ c = .val (.list ds)) ∨ (i ≠ j ∧ ρ[j]? = some (some c)) := fun {j c} q => by
          by_cases hj : i = j
          · subst hj
            rw [List.getElem?_set_self hi] at q
            cases q
            exact .inl ⟨rfl, rfl⟩
          · rw [List.getElem?_set_ne hj] at q
            exact .inr ⟨hj, q⟩
        refine ⟨upd F a (.lst xs), ff, fun b o e => (by
          by_cases hb' : b = a
          · subst hb'; rw [upd_same] at e; cases e; exact .inr ⟨xs, rfl⟩
          · rw [upd_ne hb'] at e; exact .inl e), by rw [List.length_set]; exact r.len, ⟨r.ext.hh, r.ext.ff.trans ff, fun b u e => ?_, fun b u e => ?_⟩, fun j c p => ?_, fun j k b es es' m1 m2 hne q1 q2 q3 => ?_⟩
        · by_cases hb' : b = a
          · subst hb'; rw [upd_same] at e; rw [hh]; exact e
          · rw [upd_ne hb'] at e; exact r.fh b u e
        · by_cases hb' : b = a
          · subst hb'; exact .inr hb
          · rw [upd_ne hb'] at e; exact r.ext.nw b u e
        · rcases nj p with ⟨e, ec⟩ | ⟨n, p⟩
          · subst e; subst ec
            exact ⟨_, hσ, .lst (SqL.of upd_same) hz (VdAll.mono ff ds xs hd)⟩
          · obtain ⟨u, h1, h2⟩ := r.slot j c p
            refine ⟨u, h1, ?_⟩
            cases c with
            | val d => exact Vd.mono ff d u h2
            | exn c => exact h2
            | own es =>
              obtain ⟨a', xs', ev, hb', hf', hh', hz', hd'⟩ := h2
              subst ev
              refine ⟨a', xs', rfl, hb', ?_, hh', hz', VdAll.mono ff es xs' hd'⟩
              rw [upd_ne]
              · exact hf'
              · intro e
                subst e
                exact r.sep i j _ (.own ds) (.own es) rfl rfl n q p hσ h1
            | dic es =>
              obtain ⟨a', xs', ev, hb', hf', hh', hz', hd'⟩ := h2
              subst ev
              refine ⟨a', xs', rfl, hb', ?_, hh', hz', EsAll.mono ff hd'⟩
              rw [upd_ne]
              · exact hf'
              · intro e
                subst e
                exact r.sep i j _ (.own ds) (.dic es) rfl rfl n q p hσ h1
        · rcases nj q1 with ⟨_, e⟩ | ⟨n1, p1⟩
          · subst e; cases m1
          · rcases nj q2 with ⟨_, e⟩ | ⟨n2, p2⟩
            · subst e; cases m2
            · exact r.sep j k b es es' m1 m2 hne p1 p2 q3
/-- the still heap with the tuples of another one -/
def tupF (F F' : Hp) : Hp := fun a => match F a with
  | some o => some o
  | none => match F' a with
    | some (.tup xs) => some (.tup xs)
    | some (.frz o (.tup xs)) => some (.frz o (.tup xs))
    | _ => none
theorem tupF_sub {F F' : Hp} : Same F (tupF F F') := fun a o h => by unfold tupF; rw [h]
theorem tupF_of {F F' : Hp} {a : Addr} {o : HO} (h : tupF F F' a = some o) : F a = some o ∨ (F a = none ∧ F' a = some o ∧ ∀ xs, o ≠ .lst xs) := by
  unfold tupF at h
  split at h
  · rename_i q; rw [q]; exact .inl h
  · rename_i q
    right
    refine ⟨q, ?_⟩
    split at h
    · rename_i xs q2; cases h; exact ⟨q2, fun xs z => nomatch z⟩
    · rename_i o' xs q2; cases h; exact ⟨q2, fun xs z => nomatch z⟩
    · cases h
theorem tupF_sqT {K : PySem.W.Frag} {F F' : Hp} (s : Same F F') {a : Addr} {xs : List V} (h : SqT K F' a xs) : SqT K (tupF F F') a xs := by
  rcases h with h | h
  · refine .inl ?_
    cases q : F a with
    | some o =>
      have e := s a o q
      rcases h with h | ⟨o', h⟩
      · rw [h] at e; cases e; exact .inl (tupF_sub a _ q)
      · rw [h] at e; cases e; exact .inr ⟨_, tupF_sub a _ q⟩
    | none =>
      rcases h with h | ⟨o', h⟩
      · exact .inl (by unfold tupF; rw [q, h])
      · exact .inr ⟨o', by unfold tupF; rw [q, h]⟩
  · exact .inr h
mutual
theorem Vd.cutT {K : PySem.W.Frag} {F F' : Hp} (s : Same F F') : ∀ (d : PyData) (v : V), Vd K F' v d → scal d = true → Vd K (tupF F F') v d
  | .none, _, h, _ => by cases h; exact .non
  | .bool b, _, h, _ => by cases h; exact .bl b
  | .int i, _, h, _ => by cases h; exact .int i
  | .str x, _, h, _ => by cases h with | str _ hx => exact .str x hx
  | .list ds, _, h, q => by cases q
  | .tuple ds, _, h, q => by cases h with | tup hs hz ha => exact .tup (tupF_sqT s hs) hz (VdAll.cutT s ds _ ha q)
  | .dict _, _, h, _ => by cases h
theorem VdAll.cutT {K : PySem.W.Frag} {F F' : Hp} (s : Same F F') : ∀ (ds : List PyData) (vs : List V), VdAll K F' vs ds → scalAll ds = true → VdAll K (tupF F F') vs ds
  | [], _, h, _ => by cases h; exact .nil
  | d :: ds, _, h, q => by
    have q : (scal d && scalAll ds) = true := q
    rw [Bool.and_eq_true] at q
    cases h with | cons h1 h2 => exact .cons (Vd.cutT s d _ h1 q.1) (VdAll.cutT s ds _ h2 q.2)
end
theorem ve_bor (i : Nat) (h : VE X P e fe) : VE X P e (mBor i fe) := PE_mono h fun σ H Q h => by
  obtain ⟨ρ, F, hR, h⟩ := h
  obtain ⟨F1, s1, l1, R1⟩ := hR.freezeL (i := i)
  refine ⟨_, F1, R1, ?_⟩
  unfold mBor at h
  cases q : fe (freeze i ρ) with
  | ok d =>
    rw [q] at h
    intro v H' F' ex hv
    have h' : Out X P σ Q F H (if scal d = true then .ok d else .bad) := h
    by_cases hs : scal d = true
    · rw [if_pos hs] at h'
      have s2 : Same F F' := s1.trans ex.ff
      refine h' v H' (tupF F F') ⟨ex.hh, tupF_sub, fun a o e => ?_, fun a o e => ?_⟩ (Vd.cutT s2 d v hv hs)
      · rcases tupF_of e with e | ⟨_, e, _⟩
        · exact ex.fh a o (s2 a o e)
        · exact ex.fh a o e
      · rcases tupF_of e with e | ⟨e0, e, nl⟩
        · exact .inl e
        · rcases ex.nw a o e with z | z
          · rcases l1 a o z with z | ⟨xs, z⟩
            · exact .inl z
            · exact absurd z (nl xs)
          · exact .inr z
    · rw [if_neg hs] at h'; exact h'.elim
  | exc c u =>
    rw [q] at h
    exact fun C H' F' hm ex => h C H' F hm (hR.bor s1 ex)
  | bad => rw [q] at h; exact h.elim
def mBorB (i : Nat) (f : Evn → RE Bool) (ρ : Evn) : RE Bool := f (freeze i ρ)
theorem vt_bor (i : Nat) (h : VT X P e fc) : VT X P e (mBorB i fc) := PT_mono h fun σ H Q h => by
  obtain ⟨ρ, F, hR, h⟩ := h
  obtain ⟨F1, s1, R1⟩ := hR.freeze (i := i)
  refine ⟨_, F1, R1, ?_⟩
  exact R.post_mono h (fun b q H' F' ex => q H' F (hR.bor s1 ex)) (fun c _ q C H' F' hm ex => q C H' F hm (hR.bor s1 ex))
end

/-! ### a body -/
def startE (N : Nat) (ds : List PyData) : Evn := ds.map (fun d => some (.val d)) ++ List.replicate (N - ds.length) none
def bodyOut (r : RS) : RE PyData := match r with
  | .ok (.rt d, _) => .ok d
  | .ok (.nx, _) => .ok .none
  | .ok _ => .bad
  | .exc c _ => .exc c ()
  | .bad => .bad
/-- what a def's body means: n parameters, N names -/
def fnM (n N : Nat) (body : Evn → RS) (ds : List PyData) : RE PyData := if ds.length = n then bodyOut (body (startE N ds)) else .bad
theorem fnM_ar {n N : Nat} {body : Evn → RS} {ds : List PyData} (h : ds.length ≠ n) : fnM n N body ds = .bad := if_neg h
theorem startE_get {N : Nat} {ds : List PyData} {i : Nat} {c : Cel} (h : (startE N ds)[i]? = some (some c)) : ∃ d, c = .val d ∧ ds[i]? = some d := by
  unfold startE at h
  by_cases hi : i < (ds.map fun d => (some (Cel.val d) : Option Cel)).length
  · rw [List.getElem?_append_left hi, List.getElem?_map] at h
    cases q : ds[i]? with
    | none => rw [q] at h; cases h
    | some d => rw [q] at h; cases h; exact ⟨d, rfl, rfl⟩
  · rw [List.getElem?_append_right (by omega)] at h
    have := List.mem_of_getElem? h
    rw [List.mem_replicate] at this
    cases this.2
theorem rep_start {K : PySem.W.Frag} {N : List Str} {vs : List V} {ds : List PyData} {F H : Hp} {W : WX} (sf : Same F H) (hv : VdAll K F vs ds) : Rep K ⟨H, F, W, none⟩ (startE N.length ds) F (L2.start N vs) H := by
  have hl := hv.length
  refine ⟨?_, ⟨Same.refl _, Same.refl _, sf, fun _ _ e => .inl e⟩, fun i c h => ?_, fun i j a es es' m1 _ _ h1 => ?_⟩
  · unfold startE L2.start
    simp only [List.length_append, List.length_map, List.length_replicate]
    omega
  · obtain ⟨d, rfl, hd⟩ := startE_get h
    obtain ⟨v, h1, h2⟩ := hv.get hd
    refine ⟨v, ?_, h2⟩
    unfold L2.start
    have hi : i < vs.length := (List.getElem?_eq_some_iff.mp h1).1
    rw [List.getElem?_append_left (by rw [List.length_map]; exact hi), List.getElem?_map, h1]
    rfl
  · obtain ⟨d, e, _⟩ := startE_get h1
    subst e
    cases m1
/-- a def's wish -/
abbrev wE (E : XK) : WX := fun cls d _ H => E cls d H
section
variable {P : Program} {w : World} {K : PySem.W.Frag} {mg : Str → Option Value} {base : Heap}
/-- THE RULE for a def: its body's meaning -/
theorem FnV.of {x qual : Str} {st : Stmt} {f : Addr} {fd : FuncData} {N ps : List Str} {k : Nat} {body : Evn → RS} (F : Fun K x qual st f fd) (S : FnScope N ps (defScope st))
    (hbody : ∀ (cdv : Value) (A : Around) (outer : List Env) (s : Shared) (H : Hp) (E : XK) (F0 : Hp), Room k (A.deeper (envOfC qual (defScope st) s.heap.objs.size f cdv)) →
      VSs (cxOf (L2.CX P w) P w K mg base N qual (defScope st) f cdv A outer s H E) ⟨H, F0, wE E, none⟩ (defBody st) body) :
    FnV P w K mg base (k + 1) f fd ps (fnM ps.length N.length body) := by
  refine ⟨F.okX S (fun vs H Q E h => ?_) (fun cdv A outer s H vs Q E hr h => ?_), fun ds h => fnM_ar h⟩
  · obtain ⟨F0, ds, _, hv, hl, _⟩ := h
    rw [hv.length, hl]
  · obtain ⟨F0, ds, sf, hv, hl, hp⟩ := h
    refine ⟨_, hbody cdv A outer s H E F0 hr, startE N.length ds, F0, rep_start sf hv, ?_⟩
    unfold fnM at hp
    rw [if_pos hl] at hp
    unfold OutS
    cases q : body (startE N.length ds) with
    | ok p =>
      rw [q] at hp
      obtain ⟨fl, ρ'⟩ := p
      cases fl with
      | nx => exact fun σ' H' F' _ r => hp _ _ F' r.ext .non
      | bk => exact hp.elim
      | ct => exact hp.elim
      | rt d => exact fun v σ' H' F' _ r hv' => hp v H' F' r.ext hv'
    | exc c ρ' =>
      rw [q] at hp
      exact fun C σ' H' F' hm _ r => hp C H' F' hm r.ext
    | bad => rw [q] at hp; exact hp.elim
theorem takesD {N : List Str} {qual : Str} {scope : Scope} {f : Addr} {cdv : Value} {A : Around} {outer : List Env} {s : Shared} {H : Hp} {E : XK} : Takes (cxOf (L2.CX P w) P w K mg base N qual scope f cdv A outer s H E) (wE E) := takes_of rfl rfl rfl rfl
end
end PV
end
section
set_option Elab.async false
set_option linter.all false
set_option maxRecDepth 100000
set_option maxHeartbeats 4000000
namespace PV
open PySem PySem.Spec PyProof.Rows L2 RT

/-! ### targets -/
/-- σ' is σ but for the slots is -/
def But (js : List Nat) (σ σ' : Sg) : Prop := ∀ vs : List Nat, (∀ i ∈ js, i ∈ vs) → L2.wipe σ' vs = L2.wipe σ vs
theorem wipe_set {σ : Sg} {i : Nat} {x : Option V} : ∀ {vs : List Nat}, i ∈ vs → L2.wipe (σ.set i x) vs = L2.wipe σ vs
  | v :: vs, h => by
    unfold L2.wipe
    by_cases hv : i ∈ vs
    · rw [wipe_set hv]
    · have e : i = v := by rcases List.mem_cons.mp h with e | e; exact e; exact absurd e hv
      subst e
      have q : ∀ ws : List Nat, (L2.wipe (σ.set i x) ws).set i none = (L2.wipe σ ws).set i none := fun ws => by
        induction ws with
        | nil => show (σ.set i x).set i none = σ.set i none; rw [List.set_set]
        | cons w ws ih =>
          show ((L2.wipe (σ.set i x) ws).set w none).set i none = ((L2.wipe σ ws).set w none).set i none
          by_cases hw : w = i
          · subst hw; rw [List.set_set, List.set_set]; exact ih
          · rw [List.set_comm _ _ hw, List.set_comm _ _ hw, ih]
      exact q vs
theorem But.refl (js : List Nat) (σ : Sg) : But js σ σ := fun _ _ => rfl
theorem But.set {i : Nat} {σ : Sg} {x : Option V} : But [i] σ (σ.set i x) := fun vs h => wipe_set (h i List.mem_cons_self)
theorem But.trans {a b : List Nat} {σ σ1 σ2 : Sg} (h : But a σ σ1) (k : But b σ1 σ2) : But (a ++ b) σ σ2 := fun vs m => (k vs fun i hi => m i (List.mem_append_right _ hi)).trans (h vs fun i hi => m i (List.mem_append_left _ hi))
def tG (X : Cx) (P : Pm) (m : PyData → Evn → Option Evn) (js : List Nat) : TG := fun v σ H Q => ∃ ρ F d ρ', Rep X.K P ρ F σ H ∧ Vd X.K F v d ∧ m d ρ = some ρ' ∧ ∀ σ', Rep X.K P ρ' F σ' H → But js σ σ' → Q σ' H
def tGs (X : Cx) (P : Pm) (m : List PyData → Evn → Option Evn) (js : List Nat) : TGs := fun vs σ H Q => ∃ ρ F ds ρ', Rep X.K P ρ F σ H ∧ VdAll X.K F vs ds ∧ m ds ρ = some ρ' ∧ ∀ σ', Rep X.K P ρ' F σ' H → But js σ σ' → Q σ' H
def VG (X : Cx) (P : Pm) (tg : Expr) (m : PyData → Evn → Option Evn) (js : List Nat) : Prop := PG X tg (tG X P m js)
def VGs (X : Cx) (P : Pm) (tgs : List Expr) (m : List PyData → Evn → Option Evn) (js : List Nat) : Prop := PGs X tgs (tGs X P m js)
theorem PG_mono {X : Cx} {e : Expr} {t t' : TG} (h : PG X e t) (m : ∀ v σ H Q, t' v σ H Q → t v σ H Q) : PG X e t' := ⟨fun pins s σ H v u Q I r q => h.run pins s σ H v u Q I r (m v σ H Q q)⟩
theorem PGs_mono {X : Cx} {e : List Expr} {t t' : TGs} (h : PGs X e t) (m : ∀ v σ H Q, t' v σ H Q → t v σ H Q) : PGs X e t' := ⟨fun pins s σ H v u Q I r q => h.run pins s σ H v u Q I r (m v σ H Q q)⟩
def gN (i : Nat) (d : PyData) (ρ : Evn) : Option Evn := some (ρ.set i (some (.val d)))
def gE (ds : List PyData) (ρ : Evn) : Option Evn := match ds with
  | [] => some ρ
  | _ => none
def gC (m : PyData → Evn → Option Evn) (ms : List PyData → Evn → Option Evn) (ds : List PyData) (ρ : Evn) : Option Evn := match ds with
  | d :: r => (m d ρ).bind (ms r)
  | _ => none
def gT (n : Nat) (ms : List PyData → Evn → Option Evn) (d : PyData) (ρ : Evn) : Option Evn := match d with
  | .tuple ds => if ds.length = n then ms ds ρ else none
  | .list ds => if ds.length = n then ms ds ρ else none
  | _ => none
def oS {α : Type} : Option α → R Evn α
  | some a => .ok a
  | none => .bad
section
variable {X : Cx} {P : Pm} {pos : Pos} {e : Expr} {es : List Expr} {m : PyData → Evn → Option Evn} {ms : List PyData → Evn → Option Evn} {fe : Evn → RE PyData}
theorem vg_name (i : Nat) {x : Str} (hN : X.N.Nodup) (hi : X.N[i]? = some x := by rfl) (hx : Loc X.env.scope x := by first | exact Or.inl rfl | exact Or.inr rfl) (hf : X.fn x = true ∨ X.env.scope.names.lookup x = some .local := by first | exact .inl rfl | exact .inr rfl) : VG X P (.Name x pos) (gN i) [i] :=
  PG_mono (pg_name hN hi hx hf) fun v σ H Q h => by
    obtain ⟨ρ, F, d, ρ', hR, hv, he, h⟩ := h
    cases he
    exact h _ (hR.setVal hv) But.set
theorem vgs_nil : VGs X P [] gE [] := PGs_mono pgs_nil fun vs σ H Q h => by
  obtain ⟨ρ, F, ds, ρ', hR, hv, he, h⟩ := h
  cases hv with
  | nil => cases he; exact ⟨rfl, h _ hR (But.refl _ _)⟩
  | cons _ _ => cases he
theorem bind_some {α β : Type} {o : Option α} {k : α → Option β} {b : β} (h : o.bind k = some b) : ∃ a, o = some a ∧ k a = some b := by
  cases o with
  | none => cases h
  | some a => exact ⟨a, rfl, h⟩
theorem vgs_cons {js js' : List Nat} (h1 : VG X P e m js) (h2 : VGs X P es ms js') (hs : (assignEach (e :: es) X.env).map (·.2) = assign e X.env :: (assignEach es X.env).map (·.2) := by rfl) : VGs X P (e :: es) (gC m ms) (js ++ js') := PGs_mono (pgs_cons h1 h2 hs) fun vs σ H Q h => by
  obtain ⟨ρ, F, ds, ρ', hR, hv, he, h⟩ := h
  cases hv with
  | nil => cases he
  | @cons v vs d ds h1 h2 =>
    obtain ⟨ρ1, e1, e2⟩ := bind_some he
    exact ⟨v, vs, rfl, ρ, F, d, ρ1, hR, h1, e1, fun σ' r' b1 => ⟨ρ1, F, ds, ρ', r', h2, e2, fun σ2 r2 b2 => h σ2 r2 (b1.trans b2)⟩⟩
theorem PG_or {t t' : TG} (h1 : PG X e t) (h2 : PG X e t') : PG X e (fun v σ H Q => t v σ H Q ∨ t' v σ H Q) := ⟨fun pins s σ H v u Q I r q => q.elim (h1.run pins s σ H v u Q I r) (h2.run pins s σ H v u Q I r)⟩
theorem if_some {α : Type} {p : Prop} [Decidable p] {o : Option α} {r : α} (h : (if p then o else none) = some r) : p ∧ o = some r := by
  by_cases hp : p
  · rw [if_pos hp] at h; exact ⟨hp, h⟩
  · rw [if_neg hp] at h; cases h
theorem vg_tup {k n : Nat} {js : List Nat} (hc : X.calm = true) (h : VGs X P es ms js) (hn : (assignEach es X.env).length = n := by rfl) (hst : (assignEach es X.env).findIdx? (·.1) = none := by rfl) : VG X P (.Tuple es k pos) (gT n ms) js :=
  PG_mono (PG_or (pg_tup hc h hn hst) (pg_lst hc h hn hst)) fun v σ H Q h => by
    obtain ⟨ρ, F, d, ρ', hR, hv, he, h⟩ := h
    cases hv with
    | @lst a xs ds hs hz ha =>
      obtain ⟨hl, e⟩ := if_some he
      exact .inr ⟨a, xs, rfl, hR.fh.seq hs, by rw [ha.length]; exact hl, ρ, F, ds, ρ', hR, ha, e, h⟩
    | @tup a xs ds hs hz ha =>
      obtain ⟨hl, e⟩ := if_some he
      exact .inl ⟨a, xs, rfl, same_sqT hR.fh hs, by rw [ha.length]; exact hl, ρ, F, ds, ρ', hR, ha, e, h⟩
    | _ => cases he
def sAsg (f : Evn → RE PyData) (m : PyData → Evn → Option Evn) (ρ : Evn) : RS := ((f ρ).at ρ).bind fun d => (oS (m d ρ)).bind fun ρ' => .ok (.nx, ρ')
theorem vs_asg {tg : Expr} {js : List Nat} (he : VE X P e fe) (hg : VG X P tg m js) (hs : swapsWithSole [tg] e pos.line X.env = pure false := by rfl) (hw : swappedStores [tg] e X.env = pure none := by rfl)
    (h1 : (assignEach [tg] X.env).map (·.2) = [assign tg X.env] := by rfl) : VS X P (.Assign [tg] e pos) (sAsg fe m) := PS_mono (ps_asg he hg hs hw h1) fun D σ H h => by
  obtain ⟨ρ, F, hR, h⟩ := h
  refine OutS.first hR h fun d v F1 H1 e1 hv R1 h1 => ?_
  cases q : m d ρ with
  | some ρ' => rw [q] at h1; exact ⟨ρ, F1, d, ρ', R1, hv, q, fun σ' r _ => h1 σ' H1 F1 (Same.refl _) r⟩
  | none => rw [q] at h1; exact h1.elim
/-- a, b = x, y, plain local names -/
def sPar (i j : Nat) (fa : Evn → RE (List PyData)) (ρ : Evn) : RS := ((fa ρ).at ρ).bind fun ds => match ds with
  | [d, e] => .ok (.nx, (ρ.set i (some (.val d))).set j (some (.val e)))
  | _ => .bad
theorem OutS.firstA {D : Ends} {ρ : Evn} {F H : Hp} {σ : Sg} {fa : Evn → RE (List PyData)} {k : List PyData → RS} {Q' : List V → Hp → Prop} (hR : Rep X.K P ρ F σ H) (h : OutS X P D F (((fa ρ).at ρ).bind k))
    (hq : ∀ d v F1 H1, Ext F H F1 H1 → VdAll X.K F1 v d → Rep X.K P ρ F1 σ H1 → OutS X P D F1 (k d) → Q' v H1) : tAV X P fa σ H Q' := by
  refine ⟨ρ, F, hR, ?_⟩
  cases q : fa ρ with
  | ok d => rw [q] at h; exact fun v H' F' ex hv => hq d v F' H' ex hv (hR.step ex) (OutS.step h ex.ff)
  | exc c u => rw [q] at h; exact fun C H' F' hm ex => h C σ H' F' hm ex.ff (hR.step ex)
  | bad => rw [q] at h; exact h.elim
theorem vs_par (i j : Nat) {x y : Str} {a b : Expr} {fa : Evn → RE (List PyData)} {px py pt : Pos} {kt k2 : Nat} {pt2 : Pos} (hc : X.calm = true) (hN : X.N.Nodup) (ha : VA X P [a, b] fa) (hi : X.N[i]? = some x := by rfl) (hj : X.N[j]? = some y := by rfl) (hij : i ≠ j := by decide)
    (hx : X.env.scope.names.lookup x = some .local := by rfl) (hy : X.env.scope.names.lookup y = some .local := by rfl)
    (hw : swappedStores [.Tuple [.Name x px, .Name y py] kt pt] (.Tuple [a, b] k2 pt2) X.env = pure (some [x, y]) := by rfl)
    (hs : swapsWithSole [.Tuple [.Name x px, .Name y py] kt pt] (.Tuple [a, b] k2 pt2) pos.line X.env = pure false := by rfl) :
    VS X P (.Assign [.Tuple [.Name x px, .Name y py] kt pt] (.Tuple [a, b] k2 pt2) pos) (sPar i j fa) := PS_mono (ps_par hc hN hi hj hij hx hy ha hw hs) fun D σ H h => by
  obtain ⟨ρ, F, hR, h⟩ := h
  refine OutS.firstA hR h fun ds vs F1 H1 e1 hv R1 h1 => ?_
  match ds, hv, h1 with
  | [d, e], hv, h1 =>
    obtain ⟨v, u, rfl, k1, k2⟩ := vd2 hv
    exact ⟨v, u, rfl, h1 _ H1 F1 (Same.refl _) ((R1.setVal k1).setVal k2)⟩
  | [], _, h1 => exact h1.elim
  | [_], _, h1 => exact h1.elim
  | _ :: _ :: _ :: _, _, h1 => exact h1.elim
end

/-! ### what is walked -/
/-- at each turn the walk yields the datum -/
structure WalkOk (K : PySem.W.Frag) (J : It) (F : Hp) (ds : List PyData) : Prop where
  go : ∀ i F1 H, Same F F1 → Same F1 H → i < ds.length → J.go i H
  yld : ∀ i d F1 H x H', Same F F1 → Same F1 H → ds[i]? = some d → J.yld i H x H' → ∃ F', Ext F1 H F' H' ∧ Vd K F' x d
  stop : ∀ i F1 H, Same F F1 → Same F1 H → ds.length ≤ i → J.stop i H
def tIV (X : Cx) (P : Pm) (g : Evn → RE (List PyData)) : TI := fun σ H Rr => ∃ ρ F, Rep X.K P ρ F σ H ∧
  (g ρ).post (fun ds => ∀ J H' F', Ext F H F' H' → WalkOk X.K J F' ds → Rr J H') (fun c _ => ∀ C H' F', X.mg c = some (.ref C) → Ext F H F' H' → P.W (.ref C) none σ H')
def VI (X : Cx) (P : Pm) (tg e : Expr) (g : Evn → RE (List PyData)) : Prop := PI X tg e (tIV X P g)
theorem PI_mono {X : Cx} {tg e : Expr} {t t' : TI} (h : PI X tg e t) (m : ∀ σ H R, t' σ H R → t σ H R) : PI X tg e t' := ⟨fun pins s σ H R I q => h.run pins s σ H R I (m σ H R q)⟩
section
variable {X : Cx} {P : Pm} {pos p : Pos} {tg e : Expr} {fe : Evn → RE PyData} {fa : Evn → RE (List PyData)}
theorem walk_list {F : Hp} {a : Addr} {xs : List V} {ds : List PyData} (hs : SqL X.K F a xs) (ha : VdAll X.K F xs ds) : WalkOk X.K (Itl X.K a) F ds where
  go := fun i F1 H s1 s2 hi => by
    obtain ⟨x, hx, _⟩ := ha.get (List.getElem?_eq_getElem hi)
    exact ⟨xs, x, s2.seq (s1.seq hs), hx⟩
  yld := fun i d F1 H x H' s1 s2 hd ⟨e, hy⟩ => by
    subst e
    obtain ⟨x', hx, hv⟩ := ha.get hd
    have := hy xs (s2.seq (s1.seq hs))
    rw [hx] at this
    cases this
    exact ⟨F1, Ext.refl s2, Vd.mono s1 d x hv⟩
  stop := fun i F1 H s1 s2 hi => ⟨xs, s2.seq (s1.seq hs), by rw [ha.length]; exact hi⟩
theorem walk_tup {F : Hp} {a : Addr} {xs : List V} {ds : List PyData} (hs : SqT X.K F a xs) (ha : VdAll X.K F xs ds) : WalkOk X.K (Itt X.K a) F ds where
  go := fun i F1 H s1 s2 hi => by
    obtain ⟨x, hx, _⟩ := ha.get (List.getElem?_eq_getElem hi)
    exact ⟨xs, x, same_sqT s2 (same_sqT s1 hs), hx⟩
  yld := fun i d F1 H x H' s1 s2 hd ⟨e, hy⟩ => by
    subst e
    obtain ⟨x', hx, hv⟩ := ha.get hd
    have := hy xs (same_sqT s2 (same_sqT s1 hs))
    rw [hx] at this
    cases this
    exact ⟨F1, Ext.refl s2, Vd.mono s1 d x hv⟩
  stop := fun i F1 H s1 s2 hi => ⟨xs, same_sqT s2 (same_sqT s1 hs), by rw [ha.length]; exact hi⟩
def chars (x : Str) : List PyData := x.cps.toList.map fun c => .str ⟨#[c]⟩
theorem walk_str {F : Hp} {x : Str} (hx : PyData.strOk x = true) : WalkOk X.K (Its x) F (chars x) where
  go := fun i F1 H s1 s2 hi => by
    show i < x.cps.size
    unfold chars at hi
    rw [List.length_map, Array.length_toList] at hi
    exact hi
  yld := fun i d F1 H v H' s1 s2 hd ⟨e, c, hc, hv⟩ => by
    subst e hv
    unfold chars at hd
    have hc' : x.cps.toList[i]? = some c := by rw [Array.getElem?_toList]; exact hc
    rw [List.getElem?_map, hc'] at hd
    cases hd
    refine ⟨F1, Ext.refl s2, .str _ ?_⟩
    exact strOk_at hx (i := (i : Int)) (atI_nat hc')
  stop := fun i F1 H s1 s2 hi => by
    show x.cps.size ≤ i
    unfold chars at hi
    rw [List.length_map, Array.length_toList] at hi
    exact hi
def itemsOf : PyData → Option (List PyData)
  | .list ds => some ds
  | .tuple ds => some ds
  | .str x => some (chars x)
  | _ => none
def mItems (f : Evn → RE PyData) (ρ : Evn) : RE (List PyData) := (f ρ).bind fun d => ofO (itemsOf d)
theorem PI_or3 {t t' t'' : TI} (h1 : PI X tg e t) (h2 : PI X tg e t') (h3 : PI X tg e t'') : PI X tg e (fun σ H R => t σ H R ∨ t' σ H R ∨ t'' σ H R) :=
  ⟨fun pins s σ H R I q => by rcases q with q | q | q; exact h1.run pins s σ H R I q; exact h2.run pins s σ H R I q; exact h3.run pins s σ H R I q⟩
theorem vi_items (he : VE X P e fe) : VI X P tg e (mItems fe) := PI_mono (PI_or3 (pi_list he) (pi_tup he) (pi_str he)) fun σ H Rr h => by
  obtain ⟨ρ, F, hR, h⟩ := h
  unfold mItems at h
  cases q : fe ρ with
  | bad => rw [q] at h; exact h.elim
  | exc c u =>
    rw [q] at h
    refine .inl ⟨ρ, F, hR, ?_⟩
    rw [q]; exact h
  | ok d =>
    rw [q] at h
    have h' : PV.R.post (ofO (itemsOf d)) (fun ds => ∀ J H' F', Ext F H F' H' → WalkOk X.K J F' ds → Rr J H') (fun c _ => ∀ C H' F', X.mg c = some (.ref C) → Ext F H F' H' → P.W (.ref C) none σ H') := h
    cases d with
    | list ds =>
      refine .inl ⟨ρ, F, hR, ?_⟩
      rw [q]
      intro v H' F' ex hv
      cases hv with
      | lst hs hz ha => exact ⟨_, rfl, ⟨_, (hR.step ex).fh.seq hs⟩, h' _ H' F' ex (walk_list hs ha)⟩
    | tuple ds =>
      refine .inr (.inl ⟨ρ, F, hR, ?_⟩)
      rw [q]
      intro v H' F' ex hv
      cases hv with
      | tup hs hz ha => exact ⟨_, rfl, ⟨_, same_sqT (hR.step ex).fh hs⟩, h' _ H' F' ex (walk_tup hs ha)⟩
    | str x =>
      refine .inr (.inr ⟨ρ, F, hR, ?_⟩)
      rw [q]
      intro v H' F' ex hv
      cases hv with
      | str _ hx => exact ⟨x, rfl, h' _ H' F' ex (walk_str hx)⟩
    | _ => exact h'.elim
/-! range -/
def rangeL (lo : Int) (n : Nat) : List PyData := (List.range n).map fun (i : Nat) => .int (lo + i)
theorem rangeL_len (lo : Int) (n : Nat) : (rangeL lo n).length = n := by unfold rangeL; rw [List.length_map, List.length_range]
theorem walk_range {F : Hp} (lo : Int) (n : Nat) : WalkOk X.K (Itr lo n) F (rangeL lo n) where
  go := fun i F1 H s1 s2 hi => by rw [rangeL_len] at hi; exact hi
  yld := fun i d F1 H x H' s1 s2 hd ⟨e, hx⟩ => by
    subst e hx
    unfold rangeL at hd
    rw [List.getElem?_map] at hd
    cases q : (List.range n)[i]? with
    | none => rw [q] at hd; cases hd
    | some j =>
      rw [q] at hd
      cases hd
      obtain ⟨h1, h2⟩ := List.getElem?_eq_some_iff.mp q
      rw [List.getElem_range] at h2
      subst h2
      exact ⟨F1, Ext.refl s2, .int _⟩
  stop := fun i F1 H s1 s2 hi => by rw [rangeL_len] at hi; exact hi
def r62 (i : Int) : Prop := -(2 ^ 62) ≤ i ∧ i < 2 ^ 62
instance (i : Int) : Decidable (r62 i) := by unfold r62; exact inferInstance
def rng1 : List PyData → Option (List PyData)
  | [.int j] => if r62 j then some (rangeL 0 j.toNat) else none
  | _ => none
def rng2 : List PyData → Option (List PyData)
  | [.int i, .int j] => if r62 i ∧ r62 j then some (rangeL i (j - i).toNat) else none
  | _ => none
/-- a walk of what a call gives -/
def mWk (g : List PyData → Option (List PyData)) (fa : Evn → RE (List PyData)) (ρ : Evn) : RE (List PyData) := (fa ρ).bind fun ds => ofO (g ds)
theorem firstI {σ : Sg} {H F : Hp} {ρ : Evn} {Rr : It → Hp → Prop} {g : List PyData → Option (List PyData)} {Q' : List V → Hp → Prop} (hR : Rep X.K P ρ F σ H)
    (h : (mWk g fa ρ).post (fun ds => ∀ J H' F', Ext F H F' H' → WalkOk X.K J F' ds → Rr J H') (fun c _ => ∀ C H' F', X.mg c = some (.ref C) → Ext F H F' H' → P.W (.ref C) none σ H'))
    (hq : ∀ d ds v F1 H1, VdAll X.K F1 v d → Rep X.K P ρ F1 σ H1 → g d = some ds → (∀ J H' F', Ext F1 H1 F' H' → WalkOk X.K J F' ds → Rr J H') → Q' v H1) : tAV X P fa σ H Q' := by
  refine ⟨ρ, F, hR, ?_⟩
  refine R.post_mono (R.post_bind h) (fun d q v H' F' e hv => ?_) (fun c _ q => q)
  cases e2 : g d with
  | none => rw [e2] at q; exact q.elim
  | some ds => rw [e2] at q; exact hq d ds v F' H' hv (hR.step e) e2 fun J H2 F2 e3 => q J H2 F2 (e.trans e3)
theorem vi_range1 {a : Expr} (hg : Gl X "range") (hm : X.mg "range" = none) (ha : VA X P [a] fa) (hs : starEach [a] X.env = [(false, eval a X.env)] := by rfl) : VI X P tg (.Call (.Name "range" p) [a] [] pos) (mWk rng1 fa) := PI_mono (pi_range1 hg hm ha hs) fun σ H Rr h => by
  obtain ⟨ρ, F, hR, h⟩ := h
  refine firstI hR h fun d ds vs F1 H1 hv R1 hd h1 => ?_
  unfold rng1 at hd
  split at hd
  · obtain ⟨hp, rfl⟩ := some_of_if hd
    obtain ⟨v, rfl, k1⟩ := vd1 hv
    cases k1
    exact ⟨_, rfl, hp.1, hp.2, h1 _ H1 F1 (Ext.refl R1.fh) (walk_range 0 _)⟩
  · cases hd
theorem vi_range2 {a b : Expr} (hg : Gl X "range") (hm : X.mg "range" = none) (ha : VA X P [a, b] fa) (hs : starEach [a, b] X.env = [(false, eval a X.env), (false, eval b X.env)] := by rfl) (hs2 : starEach [b] X.env = [(false, eval b X.env)] := by rfl) :
    VI X P tg (.Call (.Name "range" p) [a, b] [] pos) (mWk rng2 fa) := PI_mono (pi_range2 hg hm ha hs hs2) fun σ H Rr h => by
  obtain ⟨ρ, F, hR, h⟩ := h
  refine firstI hR h fun d ds vs F1 H1 hv R1 hd h1 => ?_
  unfold rng2 at hd
  split at hd
  · obtain ⟨hp, rfl⟩ := some_of_if hd
    obtain ⟨v, u, rfl, k1, k2⟩ := vd2 hv
    cases k1
    cases k2
    exact ⟨_, _, rfl, ⟨hp.1.1, hp.1.2, hp.2.1, hp.2.2⟩, h1 _ H1 F1 (Ext.refl R1.fh) (walk_range _ _)⟩
  · cases hd
/-! range with a step -/
def rangeC (lo c : Int) (n : Nat) : List PyData := (List.range n).map fun (i : Nat) => .int (lo + i * c)
theorem rangeC_len (lo c : Int) (n : Nat) : (rangeC lo c n).length = n := by unfold rangeC; rw [List.length_map, List.length_range]
theorem walk_rangeC {F : Hp} (lo c : Int) (n : Nat) : WalkOk X.K (Itc lo c n) F (rangeC lo c n) where
  go := fun i F1 H s1 s2 hi => by rw [rangeC_len] at hi; exact hi
  yld := fun i d F1 H x H' s1 s2 hd ⟨e, hx⟩ => by
    subst e hx
    unfold rangeC at hd
    rw [List.getElem?_map] at hd
    cases q : (List.range n)[i]? with
    | none => rw [q] at hd; cases hd
    | some j =>
      rw [q] at hd
      cases hd
      obtain ⟨h1, h2⟩ := List.getElem?_eq_some_iff.mp q
      rw [List.getElem_range] at h2
      subst h2
      exact ⟨F1, Ext.refl s2, .int _⟩
  stop := fun i F1 H s1 s2 hi => by rw [rangeC_len] at hi; exact hi
def stepOk (i j c : Int) : Prop := c ≠ 0 ∧ c.natAbs < 1073741824 ∧ Builtin.Range.small i j c = true ∧ 0 ≤ Builtin.Range.rangeSize i j c
instance (i j c : Int) : Decidable (stepOk i j c) := by unfold stepOk; exact inferInstance
def rng3 : List PyData → Option (List PyData)
  | [.int i, .int j, .int c] => if stepOk i j c then some (rangeC i c (Builtin.Range.rangeSize i j c).toNat) else none
  | _ => none
theorem vi_range3 {a b c : Expr} (hg : Gl X "range") (hm : X.mg "range" = none) (ha : VA X P [a, b, c] fa) (hs : starEach [a, b, c] X.env = (false, eval a X.env) :: starEach [b, c] X.env := by rfl) (hpl : (backTo pos (starEach [b, c] X.env)).any (·.1) = false := by rfl) :
    VI X P tg (.Call (.Name "range" p) [a, b, c] [] pos) (mWk rng3 fa) := PI_mono (pi_range3 hg hm ha hs hpl) fun σ H Rr h => by
  obtain ⟨ρ, F, hR, h⟩ := h
  refine firstI hR h fun d ds vs F1 H1 hv R1 hd h1 => ?_
  unfold rng3 at hd
  split at hd
  · obtain ⟨hp, rfl⟩ := some_of_if hd
    cases hv with
    | cons k1 hv =>
      cases hv with
      | cons k2 hv =>
        cases hv with
        | cons k3 hv =>
          cases hv
          cases k1
          cases k2
          cases k3
          exact ⟨_, _, _, _, rfl, ⟨hp.1, hp.2.1, hp.2.2.1, (Int.toNat_of_nonneg hp.2.2.2).symm⟩, h1 _ H1 F1 (Ext.refl R1.fh) (walk_rangeC _ _ _)⟩
  · cases hd
/-! enumerate, zip, reversed -/
def enumL (k : Nat) : List PyData → List PyData
  | [] => []
  | d :: r => .tuple [.int (k : Nat), d] :: enumL (k + 1) r
theorem enumL_get : ∀ (ds : List PyData) (k i : Nat), (enumL k ds)[i]? = (ds[i]?).map fun d => .tuple [.int ((k + i : Nat) : Int), d]
  | [], k, i => by simp [enumL]
  | d :: r, k, 0 => by simp [enumL]
  | d :: r, k, i + 1 => by
    simp only [enumL, List.getElem?_cons_succ, enumL_get r (k + 1) i]
    rw [show k + 1 + i = k + (i + 1) from by omega]
theorem enumL_len : ∀ (ds : List PyData) (k : Nat), (enumL k ds).length = ds.length
  | [], _ => rfl
  | d :: r, k => by simp only [enumL, List.length_cons, enumL_len r]
theorem two_line : 2 ≤ sizeLine := by rw [sizeLine_eq]; omega
theorem new_pair {F H : Hp} {T : Addr} {x y : V} {d e : PyData} (sf : Same F H) (n : H T = none) (h1 : Vd X.K F x d) (h2 : Vd X.K F y e) : ∃ F', Ext F H F' (upd H T (.tup [x, y])) ∧ Vd X.K F' (.ref T) (.tuple [d, e]) :=
  ⟨upd F T (.tup [x, y]), Ext.new sf n, .tup (SqT.of upd_same) two_line (VdAll.mono (same_upd (sf.free n)) _ _ (.cons h1 (.cons h2 .nil)))⟩
theorem walk_enum {F : Hp} {a : Addr} {xs : List V} {ds : List PyData} (hs : SqL X.K F a xs) (ha : VdAll X.K F xs ds) : WalkOk X.K (Ite X.K a) F (enumL 0 ds) where
  go := fun i F1 H s1 s2 hi => by
    rw [enumL_len] at hi
    obtain ⟨x, hx, _⟩ := ha.get (List.getElem?_eq_getElem hi)
    exact ⟨xs, x, s2.seq (s1.seq hs), hx⟩
  yld := fun i d F1 H x H' s1 s2 hd ⟨T, y, e1, n, e2, hy⟩ => by
    subst e1 e2
    rw [enumL_get] at hd
    cases q : ds[i]? with
    | none => rw [q] at hd; cases hd
    | some d' =>
      rw [q] at hd
      cases hd
      obtain ⟨x', hx, hv⟩ := ha.get q
      have := hy xs (s2.seq (s1.seq hs))
      rw [hx] at this
      cases this
      rw [Nat.zero_add]
      exact new_pair s2 n (.int _) (Vd.mono s1 d' _ hv)
  stop := fun i F1 H s1 s2 hi => ⟨xs, s2.seq (s1.seq hs), by rw [ha.length, ← enumL_len ds 0]; exact hi⟩
def enum1 : List PyData → Option (List PyData)
  | [.list ds] => some (enumL 0 ds)
  | _ => none
theorem vi_enum {e : Expr} {elts : List Expr} {kk : Nat} {tpos : Pos} (hg : Gl X "enumerate") (hm : X.mg "enumerate" = none) (ha : VA X P [e] fa) (hs : starEach [e] X.env = [(false, eval e X.env)] := by rfl) :
    VI X P (.Tuple elts kk tpos) (.Call (.Name "enumerate" p) [e] [] pos) (mWk enum1 fa) := PI_mono (pi_enum hg hm ha hs) fun σ H Rr h => by
  obtain ⟨ρ, F, hR, h⟩ := h
  refine firstI hR h fun d ds vs F1 H1 hv R1 hd h1 => ?_
  unfold enum1 at hd
  split at hd
  · cases hd
    obtain ⟨v, rfl, k1⟩ := vd1 hv
    cases k1 with
    | lst hs hz ha => exact ⟨_, _, rfl, R1.fh.seq hs, h1 _ H1 F1 (Ext.refl R1.fh) (walk_enum hs ha)⟩
  · cases hd
def zipL : List PyData → List PyData → List PyData
  | d :: r, e :: s => .tuple [d, e] :: zipL r s
  | _, _ => []
theorem zipL_get : ∀ (ds es : List PyData) (i : Nat) (z : PyData), (zipL ds es)[i]? = some z → ∃ d e, ds[i]? = some d ∧ es[i]? = some e ∧ z = .tuple [d, e]
  | [], _, i, z, h => by simp [zipL] at h
  | d :: r, [], i, z, h => by simp [zipL] at h
  | d :: r, e :: s, 0, z, h => by simp only [zipL, List.getElem?_cons_zero, Option.some.injEq] at h; exact ⟨d, e, rfl, rfl, h.symm⟩
  | d :: r, e :: s, i + 1, z, h => by
    simp only [zipL, List.getElem?_cons_succ] at h
    obtain ⟨d', e', h1, h2, h3⟩ := zipL_get r s i z h
    exact ⟨d', e', by simpa using h1, by simpa using h2, h3⟩
theorem zipL_len : ∀ (ds es : List PyData), (zipL ds es).length = min ds.length es.length
  | [], _ => by simp [zipL]
  | d :: r, [] => by simp [zipL]
  | d :: r, e :: s => by simp only [zipL, List.length_cons, zipL_len r s]; omega
theorem walk_zip {F : Hp} {a b : Addr} {xs ys : List V} {ds es : List PyData} (hs : SqL X.K F a xs) (ha : VdAll X.K F xs ds) (hs2 : SqL X.K F b ys) (hb : VdAll X.K F ys es) : WalkOk X.K (Itz X.K a b) F (zipL ds es) where
  go := fun i F1 H s1 s2 hi => by
    rw [zipL_len] at hi
    obtain ⟨x, hx, _⟩ := ha.get (List.getElem?_eq_getElem (show i < ds.length by omega))
    obtain ⟨y, hy, _⟩ := hb.get (List.getElem?_eq_getElem (show i < es.length by omega))
    exact ⟨xs, ys, x, y, s2.seq (s1.seq hs), s2.seq (s1.seq hs2), hx, hy⟩
  yld := fun i d F1 H x H' s1 s2 hd ⟨T, y, z, e1, n, e2, hy, hz⟩ => by
    subst e1 e2
    obtain ⟨d', e', h1, h2, rfl⟩ := zipL_get _ _ _ _ hd
    obtain ⟨x', hx, hv⟩ := ha.get h1
    obtain ⟨y', hy', hv2⟩ := hb.get h2
    have q1 := hy xs (s2.seq (s1.seq hs))
    rw [hx] at q1
    cases q1
    have q2 := hz ys (s2.seq (s1.seq hs2))
    rw [hy'] at q2
    cases q2
    exact new_pair s2 n (Vd.mono s1 d' _ hv) (Vd.mono s1 e' _ hv2)
  stop := fun i F1 H s1 s2 hi => by
    rw [zipL_len] at hi
    have l1 := ha.length
    have l2 := hb.length
    exact ⟨xs, ys, s2.seq (s1.seq hs), s2.seq (s1.seq hs2), by omega⟩
def zip2 : List PyData → Option (List PyData)
  | [.list ds, .list es] => some (zipL ds es)
  | _ => none
theorem vi_zip {e e2 : Expr} {elts : List Expr} {kk : Nat} {tpos : Pos} (hg : Gl X "zip") (hm : X.mg "zip" = none) (ha : VA X P [e, e2] fa) (hs : starEach [e, e2] X.env = (false, eval e X.env) :: starEach [e2] X.env := by rfl) (hpl : (backTo pos (starEach [e2] X.env)).any (·.1) = false := by rfl) :
    VI X P (.Tuple elts kk tpos) (.Call (.Name "zip" p) [e, e2] [] pos) (mWk zip2 fa) := PI_mono (pi_zip hg hm ha hs hpl) fun σ H Rr h => by
  obtain ⟨ρ, F, hR, h⟩ := h
  refine firstI hR h fun d ds vs F1 H1 hv R1 hd h1 => ?_
  unfold zip2 at hd
  split at hd
  · cases hd
    obtain ⟨v, u, rfl, k1, k2⟩ := vd2 hv
    cases k1 with
    | lst hs hz ha =>
      cases k2 with
      | lst hs2 hz2 ha2 => exact ⟨_, _, _, _, rfl, R1.fh.seq hs, R1.fh.seq hs2, h1 _ H1 F1 (Ext.refl R1.fh) (walk_zip hs ha hs2 ha2)⟩
  · cases hd
theorem rev_get {α : Type} (ds : List α) {i : Nat} (h : i < ds.length) : ds.reverse[i]? = ds[ds.length - 1 - i]? := List.getElem?_reverse h
theorem walk_rev {F : Hp} {a : Addr} {xs : List V} {ds : List PyData} (hs : SqL X.K F a xs) (ha : VdAll X.K F xs ds) : WalkOk X.K (Itv X.K a xs.length) F ds.reverse where
  go := fun i F1 H s1 s2 hi => by
    rw [List.length_reverse, ← ha.length] at hi
    exact ⟨hi, xs, xs[xs.length - 1 - i], s2.seq (s1.seq hs), List.getElem?_eq_getElem (by omega)⟩
  yld := fun i d F1 H x H' s1 s2 hd ⟨e, hy⟩ => by
    subst e
    have hl : i < ds.length := by
      have := (List.getElem?_eq_some_iff.mp hd).1
      rwa [List.length_reverse] at this
    rw [rev_get ds hl] at hd
    obtain ⟨x', hx, hv⟩ := ha.get hd
    have := hy xs (s2.seq (s1.seq hs))
    rw [ha.length, hx] at this
    cases this
    exact ⟨F1, Ext.refl s2, Vd.mono s1 d x hv⟩
  stop := fun i F1 H s1 s2 hi => by
    rw [List.length_reverse, ← ha.length] at hi
    exact hi
def rev1 : PyData → Option (List PyData)
  | .list ds => some ds.reverse
  | .tuple ds => some ds.reverse
  | _ => none
def mRev (f : Evn → RE PyData) (ρ : Evn) : RE (List PyData) := (f ρ).bind fun d => ofO (rev1 d)
theorem walk_revT {F : Hp} {a : Addr} {xs : List V} {ds : List PyData} (hs : SqT X.K F a xs) (ha : VdAll X.K F xs ds) : WalkOk X.K (ItvT X.K a xs.length) F ds.reverse where
  go := fun i F1 H s1 s2 hi => by
    rw [List.length_reverse, ← ha.length] at hi
    exact ⟨hi, xs, xs[xs.length - 1 - i], same_sqT s2 (same_sqT s1 hs), List.getElem?_eq_getElem (by omega)⟩
  yld := fun i d F1 H x H' s1 s2 hd ⟨e, hy⟩ => by
    subst e
    have hl : i < ds.length := by
      have := (List.getElem?_eq_some_iff.mp hd).1
      rwa [List.length_reverse] at this
    rw [rev_get ds hl] at hd
    obtain ⟨x', hx, hv⟩ := ha.get hd
    have := hy xs (same_sqT s2 (same_sqT s1 hs))
    rw [ha.length, hx] at this
    cases this
    exact ⟨F1, Ext.refl s2, Vd.mono s1 d x hv⟩
  stop := fun i F1 H s1 s2 hi => by
    rw [List.length_reverse, ← ha.length] at hi
    exact hi
theorem vi_rev {e : Expr} (hg : Gl X "reversed") (hm : X.mg "reversed" = none) (he : VE X P e fe) (hs : starEach [e] X.env = (false, eval e X.env) :: starEach [] X.env := by rfl) : VI X P tg (.Call (.Name "reversed" p) [e] [] pos) (mRev fe) := PI_mono (pi_revA hg hm he hs) fun σ H Rr h => by
  obtain ⟨ρ, F, hR, h⟩ := h
  refine ⟨ρ, F, hR, ?_⟩
  refine R.post_mono (R.post_bind h) (fun d q v H' F' ex hv => ?_) (fun c _ q => q)
  have sf := (hR.step ex).fh
  cases hv with
  | lst hs hz ha => exact ⟨_, _, rfl, .inl ⟨sf.seq hs, q _ H' F' ex (walk_rev hs ha)⟩⟩
  | tup hs hz ha => exact ⟨_, _, rfl, .inr ⟨same_sqT sf hs, q _ H' F' ex (walk_revT hs ha)⟩⟩
  | _ => exact q.elim
end
end PV
end
section
set_option Elab.async false
set_option linter.all false
set_option maxRecDepth 100000
set_option maxHeartbeats 4000000
namespace PV
open PySem PySem.Spec PyProof.Rows L2

/-! ### loops -/
def forM (m : PyData → Evn → Option Evn) (body : Evn → RS) : List PyData → Evn → RS
  | [], ρ => .ok (.nx, ρ)
  | d :: r, ρ => (oS (m d ρ)).bind fun ρ1 => (body ρ1).bind fun p => match p.1 with
    | .nx => forM m body r p.2
    | .ct => forM m body r p.2
    | .bk => .ok (.nx, p.2)
    | .rt d => .ok (.rt d, p.2)
def sFor (g : Evn → RE (List PyData)) (m : PyData → Evn → Option Evn) (body : Evn → RS) (ρ : Evn) : RS := ((g ρ).at ρ).bind fun ds => forM m body ds ρ
def whileM (c : Evn → RE Bool) (body : Evn → RS) : Nat → Evn → RS
  | 0, _ => .bad
  | n + 1, ρ => ((c ρ).at ρ).bind fun b => if b then (body ρ).bind fun p => match p.1 with
    | .nx => whileM c body n p.2
    | .ct => whileM c body n p.2
    | .bk => .ok (.nx, p.2)
    | .rt d => .ok (.rt d, p.2)
    else .ok (.nx, ρ)
section
variable {X : Cx} {P : Pm} {pos : Pos} {tg iter : Expr} {body : List Stmt} {g : Evn → RE (List PyData)} {m : PyData → Evn → Option Evn} {fb : Evn → RS} {fc : Evn → RE Bool}
theorem vs_for {js : List Nat} (hp : PassesOwn (model X.prog X.w) X.A X.env X.xe) (hc : X.calm = true) (hi : VI X P tg iter g) (hg : VG X P tg m js) (hb : VSs X P body fb) (hs : ∀ x, foldedSetIterable iter X.env x = pure x := by intro _; rfl) : VS X P (.For tg iter body [] pos) (sFor g m fb) :=
  PS_mono (ps_for hp hc hi hg hb hs) fun D σ H h => by
    obtain ⟨ρ, F, hR, h⟩ := h
    refine ⟨ρ, F, hR, ?_⟩
    unfold sFor at h
    cases q : g ρ with
    | bad => rw [q] at h; exact h.elim
    | exc c u => rw [q] at h; exact fun C H' F' hm ex => h C σ H' F' hm ex.ff (hR.step ex)
    | ok ds =>
      rw [q] at h
      have h' : OutS X P D F (forM m fb ds ρ) := h
      intro J H0 F0 ex wk
      refine ⟨fun i k σ H => k = ds.length - i ∧ i ≤ ds.length ∧ ∃ ρ F1, Same F0 F1 ∧ Rep X.K P ρ F1 σ H ∧ OutS X P D F1 (forM m fb (ds.drop i) ρ), ⟨ds.length, by simp, Nat.zero_le _, ρ, F0, Same.refl _, hR.step ex, by rw [List.drop_zero]; exact OutS.step h' ex.ff⟩, ?_⟩
      rintro i k σ1 H1 ⟨rfl, hi, ρ1, F1, s1, R1, h1⟩
      by_cases hlt : i < ds.length
      · right
        refine ⟨wk.go i F1 H1 s1 R1.fh hlt, fun σ' H' => ∃ ρ F2, Same F0 F2 ∧ Rep X.K P ρ F2 σ' H' ∧ OutS X P D F2 (forM m fb (ds.drop (i + 1)) ρ), fun σ' H' n => ⟨ds.length - (i + 1), by omega, rfl, hlt, n⟩, fun x H' y => ?_⟩
        obtain ⟨F2, e2, hv⟩ := wk.yld i _ F1 H1 x H' s1 R1.fh (List.getElem?_eq_getElem hlt) y
        rw [List.drop_eq_getElem_cons hlt] at h1
        have R2 := R1.step e2
        have h2 := OutS.step h1 e2.ff
        unfold forM at h2
        cases q2 : m ds[i] ρ1 with
        | none => rw [q2] at h2; exact h2.elim
        | some ρ2 =>
          rw [q2] at h2
          refine ⟨ρ1, F2, _, ρ2, R2, hv, q2, fun σ2 r2 _ => ⟨ρ2, F2, r2, ?_⟩⟩
          have h3 : OutS X P D F2 ((fb ρ2).bind fun p => match p.1 with
            | .nx => forM m fb (ds.drop (i + 1)) p.2
            | .ct => forM m fb (ds.drop (i + 1)) p.2
            | .bk => .ok (.nx, p.2)
            | .rt d => .ok (.rt d, p.2)) := h2
          have s02 := s1.trans e2.ff
          cases q3 : fb ρ2 with
          | bad => rw [q3] at h3; exact h3.elim
          | exc c ρ3 => rw [q3] at h3; exact h3
          | ok p =>
            rw [q3] at h3
            obtain ⟨fl, ρ3⟩ := p
            cases fl with
            | nx => exact fun σ' H' F' s r => ⟨ρ3, F', s02.trans s, r, OutS.step h3 s⟩
            | ct => exact fun σ' H' F' s r => ⟨ρ3, F', s02.trans s, r, OutS.step h3 s⟩
            | bk => exact h3
            | rt d => exact h3
      · left
        have e : ds.drop i = [] := List.drop_eq_nil_of_le (by omega)
        rw [e] at h1
        exact ⟨wk.stop i F1 H1 s1 R1.fh (by omega), h1 σ1 H1 F1 (Same.refl _) R1⟩
theorem vs_while (fuel : Nat) {c : Expr} (hp : PassesOwn (model X.prog X.w) X.A X.env X.xe) (hc : VT X P c fc) (hb : VSs X P body fb) : VS X P (.While c body [] pos) (whileM fc fb fuel) :=
  PS_mono (ps_while hp hc hb) fun D σ H h => by
    obtain ⟨ρ, F, hR, h⟩ := h
    refine ⟨fun k σ H => ∃ ρ F, Rep X.K P ρ F σ H ∧ OutS X P D F (whileM fc fb k ρ), ⟨fuel, ρ, F, hR, h⟩, ?_⟩
    rintro k σ1 H1 ⟨ρ1, F1, R1, h1⟩
    cases k with
    | zero => exact h1.elim
    | succ k =>
      unfold whileM at h1
      refine OutS.firstB R1 h1 fun b F2 H2 e2 R2 h2 => ?_
      cases b with
      | false => rw [if_neg (by decide)]; exact h2 σ1 H2 F2 (Same.refl _) R2
      | true =>
        rw [if_pos rfl]
        refine ⟨fun σ' H' => ∃ ρ F, Rep X.K P ρ F σ' H' ∧ OutS X P D F (whileM fc fb k ρ), fun σ' H' n => ⟨k, Nat.lt_succ_self _, n⟩, ρ1, F2, R2, ?_⟩
        have h3 : OutS X P D F2 ((fb ρ1).bind fun p => match p.1 with
          | .nx => whileM fc fb k p.2
          | .ct => whileM fc fb k p.2
          | .bk => .ok (.nx, p.2)
          | .rt d => .ok (.rt d, p.2)) := h2
        cases q3 : fb ρ1 with
        | bad => rw [q3] at h3; exact h3.elim
        | exc c ρ3 => rw [q3] at h3; exact h3
        | ok p =>
          rw [q3] at h3
          obtain ⟨fl, ρ3⟩ := p
          cases fl with
          | nx => exact fun σ' H' F' s r => ⟨ρ3, F', r, OutS.step h3 s⟩
          | ct => exact fun σ' H' F' s r => ⟨ρ3, F', r, OutS.step h3 s⟩
          | bk => exact h3
          | rt d => exact h3
end

/-! ### comprehensions -/
/-- in a block no exception is let out -/
abbrev Pm.nx (P : Pm) : Pm := ⟨P.B, P.F0, fun _ _ _ _ => False, P.E⟩
theorem Rep.nx {K : PySem.W.Frag} {P : Pm} {ρ : Evn} {F H : Hp} {σ : Sg} (r : Rep K P ρ F σ H) : Rep K P.nx ρ F σ H := ⟨r.len, r.ext, r.slot, r.sep⟩
def wipeE (ρ : Evn) : List Nat → Evn
  | [] => ρ
  | v :: vs => (wipeE ρ vs).set v none
theorem Rep.wipe {K : PySem.W.Frag} {P : Pm} {ρ : Evn} {F H : Hp} {σ : Sg} (r : Rep K P ρ F σ H) : ∀ vs : List Nat, Rep K P (wipeE ρ vs) F (L2.wipe σ vs) H
  | [] => r
  | v :: vs => (Rep.wipe r vs).setNone
/-- a fresh list: it stands beside the still part -/
def OutF (X : Cx) (P : Pm) (σ : Sg) (Q : VK) (F H : Hp) (r : RE (List PyData)) : Prop :=
  r.post (fun ds => ∀ p xs H' F', Ext F H F' H' → H p = none → F' p = none → H' p = some (.lst xs) → xs.length ≤ sizeLine → VdAll X.K F' xs ds → Q (.ref p) H') (fun c _ => ∀ C H' F', X.mg c = some (.ref C) → Ext F H F' H' → P.W (.ref C) none σ H')
def tFV (X : Cx) (P : Pm) (f : Evn → RE (List PyData)) : TE := fun σ H Q => ∃ ρ F, Rep X.K P ρ F σ H ∧ OutF X P σ Q F H (f ρ)
def VF (X : Cx) (P : Pm) (e : Expr) (f : Evn → RE (List PyData)) : Prop := PE X e (tFV X P f)
def mL (f : Evn → RE (List PyData)) (ρ : Evn) : RE PyData := (f ρ).bind fun ds => .ok (.list ds)
theorem VF.v {X : Cx} {P : Pm} {e : Expr} {f : Evn → RE (List PyData)} (h : VF X P e f) : VE X P e (mL f) := PE_mono h fun σ H Q h => by
  obtain ⟨ρ, F, hR, h⟩ := h
  refine ⟨ρ, F, hR, ?_⟩
  refine R.post_mono (R.post_bind h) (fun ds q p xs H' F' ex n nf h1 hz hv => ?_) (fun c _ q => q)
  exact q _ H' (upd F' p (.lst xs)) (Ext.still ex h1 n nf) (.lst (SqL.of upd_same) hz (VdAll.mono (same_upd nf) ds xs hv))
def nox {α : Type} : RE α → RE α
  | .exc _ _ => .bad
  | x => x
theorem nox_ok {α : Type} {x : RE α} {Q : α → Prop} {E : Str → Unit → Prop} (h : (nox x).post Q E) : ∃ a, x = .ok a ∧ Q a := by
  cases x with
  | ok a => exact ⟨a, rfl, h⟩
  | exc c e => exact h.elim
  | bad => exact h.elim
def lcM (m : PyData → Evn → Option Evn) (t : Evn → RE Bool) (e : Evn → RE PyData) (ρ : Evn) : List PyData → RE (List PyData)
  | [] => .ok []
  | d :: r => (ofO (m d ρ)).bind fun ρ1 => (nox (t ρ1)).bind fun b => if b then (nox (e ρ1)).bind fun x => (lcM m t e ρ r).bind fun xs => .ok (x :: xs) else lcM m t e ρ r
/-- .. with what is made so far -/
def lcA (m : PyData → Evn → Option Evn) (t : Evn → RE Bool) (e : Evn → RE PyData) (ρ : Evn) : List PyData → List PyData → RE (List PyData)
  | [], acc => .ok acc
  | d :: r, acc => (ofO (m d ρ)).bind fun ρ1 => (nox (t ρ1)).bind fun b => if b then (nox (e ρ1)).bind fun x => lcA m t e ρ r (acc ++ [x]) else lcA m t e ρ r acc
theorem bind_assoc {ε α β γ : Type} (x : R ε α) (f : α → R ε β) (g : β → R ε γ) : (x.bind f).bind g = x.bind fun a => (f a).bind g := by cases x <;> rfl
theorem lcA_eq (m : PyData → Evn → Option Evn) (t : Evn → RE Bool) (e : Evn → RE PyData) (ρ : Evn) : ∀ (ds acc : List PyData), lcA m t e ρ ds acc = (lcM m t e ρ ds).bind fun xs => .ok (acc ++ xs)
  | [], acc => by simp [lcA, lcM, R.bind]
  | d :: r, acc => by
    unfold lcA lcM
    rw [bind_assoc]
    congr 1
    funext ρ1
    rw [bind_assoc]
    congr 1
    funext b
    cases b with
    | true =>
      simp only [if_true]
      rw [bind_assoc]
      congr 1
      funext x
      rw [lcA_eq m t e ρ r, bind_assoc]
      congr 1
      funext xs
      simp [R.bind]
    | false => simp only [Bool.false_eq_true, if_false]; exact lcA_eq m t e ρ r acc
/-- a list comprehension: vs the block's own names -/
def mLc (g : Evn → RE (List PyData)) (m : PyData → Evn → Option Evn) (t : Evn → RE Bool) (e : Evn → RE PyData) (vs : List Nat) (ρ : Evn) : RE (List PyData) := (g ρ).bind fun ds => if ds.length ≤ sizeLine then lcM m t e (wipeE ρ vs) ds else .bad
def mYes (_ : Evn) : RE Bool := .ok true
theorem wipe_idem {σ : Sg} {vs : List Nat} : L2.wipe (L2.wipe σ vs) vs = L2.wipe σ vs := by
  have key : ∀ ws : List Nat, (∀ i ∈ ws, i ∈ vs) → L2.wipe (L2.wipe σ ws) vs = L2.wipe σ vs := fun ws => by
    induction ws with
    | nil => intro _; rfl
    | cons w ws ih =>
      intro h
      show L2.wipe ((L2.wipe σ ws).set w none) vs = _
      rw [wipe_set (h w List.mem_cons_self)]
      exact ih fun i hi => h i (List.mem_cons_of_mem _ hi)
  exact key vs fun _ h => h
def VTs (X : Cx) (P : Pm) (ifs : List Expr) (f : Evn → RE Bool) : Prop := PTs X ifs (tTV X P f)
theorem PTs_mono {X : Cx} {e : List Expr} {t t' : TT} (h : PTs X e t) (m : ∀ σ H Q, t' σ H Q → t σ H Q) : PTs X e t' := ⟨fun pins s σ H Q I q => h.run pins s σ H Q I (m σ H Q q)⟩
section
variable {X : Cx} {P : Pm} {pos : Pos} {elt tg iter : Expr} {ifs : List Expr} {scope : Scope} {own : List (Str × Nat)} {g : Evn → RE (List PyData)} {m : PyData → Evn → Option Evn} {t : Evn → RE Bool} {fe : Evn → RE PyData} {js : List Nat}
theorem vts_nil : VTs X P [] mYes := PTs_mono pts_nil fun σ H Q h => by
  obtain ⟨ρ, F, hR, h⟩ := h
  exact h H F (Ext.refl hR.fh)
theorem vts_one {c : Expr} (h : VT X P c t) : VTs X P [c] t := pts_one h
theorem wipeE_some {ρ : Evn} {i : Nat} {c : Cel} : ∀ {vs : List Nat}, (wipeE ρ vs)[i]? = some (some c) → ρ[i]? = some (some c) ∧ i ∉ vs
  | [], h => ⟨h, by simp⟩
  | v :: vs, h => by
    unfold wipeE at h
    by_cases hi : v = i
    · subst hi
      have hl : v < (wipeE ρ vs).length := by
        have := (List.getElem?_eq_some_iff.mp h).1
        rwa [List.length_set] at this
      rw [List.getElem?_set_self hl] at h
      cases h
    · rw [List.getElem?_set_ne hi] at h
      obtain ⟨h1, h2⟩ := wipeE_some h
      exact ⟨h1, by simp only [List.mem_cons, not_or]; exact ⟨fun e => hi e.symm, h2⟩⟩
theorem Rep.other {K : PySem.W.Frag} {P : Pm} {ρ : Evn} {F H : Hp} {σ : Sg} {D : Addr} {o : HO} (r : Rep K P ρ F σ H) (hb : P.B D = none) (hf : F D = none) (no : ∀ (i : Nat) (ds : Cel), ds.mine = true → ρ[i]? = some (some ds) → σ[i]? ≠ some (some (.ref D))) : Rep K P ρ F σ (upd H D o) := by
  have sm : ∀ {G : Hp}, G D = none → Same G H → Same G (upd H D o) := fun {G} n s b u e => by
    rw [upd_ne (ne_of_none e n)]; exact s b u e
  refine ⟨r.len, ⟨sm hb r.ext.hh, r.ext.ff, sm hf r.ext.fh, r.ext.nw⟩, fun i c q => ?_, r.sep⟩
  obtain ⟨v, h1, h2⟩ := r.slot i c q
  refine ⟨v, h1, ?_⟩
  cases c with
  | val d => exact h2
  | exn c => exact h2
  | own ds =>
    obtain ⟨a, xs, ev, b1, b2, b3, b4, b5⟩ := h2
    subst ev
    refine ⟨a, xs, rfl, b1, b2, ?_, b4, b5⟩
    rw [upd_ne]
    · exact b3
    · intro e
      subst e
      exact no i (.own ds) rfl q h1
  | dic ds =>
    obtain ⟨a, xs, ev, b1, b2, b3, b4, b5⟩ := h2
    subst ev
    refine ⟨a, xs, rfl, b1, b2, ?_, b4, b5⟩
    rw [upd_ne]
    · exact b3
    · intro e
      subst e
      exact no i (.dic ds) rfl q h1
/-- the reading of a comprehension: the new list at D stands beside the still part -/
theorem rdLc {σ : Sg} {H : Hp} {Q : VK} {vs : List Nat} (hjs : ∀ i ∈ js, i ∈ vs) (h : tFV X P (mLc g m t fe vs) σ H Q) : tLc (tIV X P g) (tG X P.nx m js) (tTV X P.nx t) (tV X P.nx fe) vs σ H Q := by
  obtain ⟨ρ, F, hR, h⟩ := h
  refine ⟨ρ, F, hR, ?_⟩
  refine R.post_mono (R.post_bind h) (fun ds q J H0 F0 ex wk => ?_) (fun c _ q => q)
  by_cases hz : ds.length ≤ sizeLine
  case neg => rw [if_neg hz] at q; exact q.elim
  rw [if_pos hz] at q
  intro D hD
  have f0 : F0 D = none := (hR.step ex).fh.free hD
  have R0 := ((hR.step ex).step (Ext.beside (o := .lst []) (hR.step ex).fh hD)).nx.wipe vs
  have hHD : H D = none := ex.hh.free hD
  have hBD : P.B D = none := hR.ext.hh.free hHD
  have noD : ∀ (i : Nat) (ds : Cel), ds.mine = true → (wipeE ρ vs)[i]? = some (some ds) → (L2.wipe σ vs)[i]? ≠ some (some (.ref D)) := fun i ds m e1 e2 => by
    obtain ⟨e3, _⟩ := wipeE_some e1
    obtain ⟨e4, _⟩ := L2.wipe_some e2
    exact hR.isNew hHD i ds m e3 e4
  -- what is left gives the answer
  let Go : Nat → Hp → Prop := fun i H1 => ∃ acc xs F1, Same F0 F1 ∧ Ext F H F1 H1 ∧ F1 D = none ∧ H1 D = some (.lst xs) ∧ xs.length ≤ i ∧ VdAll X.K F1 xs acc ∧ Rep X.K P.nx (wipeE ρ vs) F1 (L2.wipe σ vs) H1 ∧
    (lcA m t fe (wipeE ρ vs) (ds.drop i) acc).post (fun ys => ∀ p xs H' F', Ext F H F' H' → H p = none → F' p = none → H' p = some (.lst xs) → xs.length ≤ sizeLine → VdAll X.K F' xs ys → Q (.ref p) H') (fun _ _ => True)
  refine ⟨fun i k H1 => k = ds.length - i ∧ i ≤ ds.length ∧ Go i H1, ⟨ds.length, by simp, Nat.zero_le _, [], [], F0, Same.refl _, ex.trans (Ext.beside (hR.step ex).fh hD), f0, upd_same, Nat.zero_le _, .nil, R0, ?_⟩, ?_⟩
  · rw [List.drop_zero, lcA_eq]
    cases q2 : lcM m t fe (wipeE ρ vs) ds with
    | ok ys => rw [q2] at q; exact q
    | exc c u => trivial
    | bad => rw [q2] at q; exact q.elim
  rintro i k H1 ⟨rfl, hi, acc, xs, F1, s1, e1, d1, hd1, hl1, ha1, R1, p1⟩
  have sf1 : Same F1 H1 := e1.fh
  by_cases hlt : i < ds.length
  · right
    refine ⟨wk.go i F1 H1 s1 sf1 hlt, Go (i + 1), fun H' n => ⟨ds.length - (i + 1), by omega, rfl, hlt, n⟩, fun x H2 y => ?_⟩
    obtain ⟨F2, e2, hv⟩ := wk.yld i _ F1 H1 x H2 s1 sf1 (List.getElem?_eq_getElem hlt) y
    rw [List.drop_eq_getElem_cons hlt] at p1
    have R2 := R1.step e2
    have nD : ∀ {F' H' : Hp}, Ext F1 H1 F' H' → F' D = none := fun {F' H'} e => by
      cases q3 : F' D with
      | none => rfl
      | some o =>
        rcases e.nw D o q3 with z | z
        · rw [d1] at z; cases z
        · rw [hd1] at z; cases z
    unfold lcA at p1
    cases q2 : m ds[i] (wipeE ρ vs) with
    | none => rw [q2] at p1; exact p1.elim
    | some ρ2 =>
      rw [q2] at p1
      refine ⟨wipeE ρ vs, F2, _, ρ2, R2, hv, q2, fun σ2 R3 b => ⟨(b vs hjs).trans wipe_idem, ?_⟩⟩
      refine ⟨ρ2, F2, R3, ?_⟩
      have p2 := R.post_bind (x := nox (t ρ2)) (f := fun b => if b = true then (nox (fe ρ2)).bind fun x => lcA m t fe (wipeE ρ vs) (ds.drop (i + 1)) (acc ++ [x]) else lcA m t fe (wipeE ρ vs) (ds.drop (i + 1)) acc) p1
      obtain ⟨b, q4, p3⟩ := nox_ok p2
      rw [q4]
      intro H3 F3 e3
      have e13 := e2.trans e3
      cases b with
      | false =>
        rw [if_neg (by decide)]
        rw [if_neg (by decide)] at p3
        exact ⟨acc, xs, F3, s1.trans e13.ff, e1.trans e13, nD e13, e13.hh D _ hd1, by omega, VdAll.mono e13.ff _ _ ha1, R1.step e13, p3⟩
      | true =>
        rw [if_pos rfl]
        rw [if_pos rfl] at p3
        obtain ⟨d, q5, p4⟩ := nox_ok (R.post_bind p3)
        refine ⟨ρ2, F3, R3.step e3, ?_⟩
        rw [q5]
        intro v H4 F4 e4 hv4
        have e14 := e13.trans e4
        have f4 : F4 D = none := nD e14
        have e := e1.trans e14
        have s4 : ∀ {G : Hp}, G D = none → Same G H4 → Same G (upd H4 D (.lst (xs ++ [v]))) := fun {G} n s b u e => by
          rw [upd_ne (ne_of_none e n)]; exact s b u e
        exact ⟨xs, e14.hh D _ hd1, by omega, acc ++ [d], xs ++ [v], F4, s1.trans e14.ff, ⟨s4 hHD e.hh, e.ff, s4 f4 e.fh, e.nw⟩, f4, upd_same, by rw [List.length_append]; show _ + 1 ≤ _; omega, (VdAll.mono e14.ff _ _ ha1).append (.cons hv4 .nil), (R1.step e14).other hBD f4 noD, p4⟩
  · left
    have e : ds.drop i = [] := List.drop_eq_nil_of_le (by omega)
    rw [e] at p1
    exact ⟨wk.stop i F1 H1 s1 sf1 (by omega), p1 D xs H1 F1 e1 hHD d1 hd1 (by omega) ha1⟩
theorem vf_lc {vs : List Nat} (hc : X.calm = true) (hN : X.N.Nodup) (hi : VI X P tg iter g) (ok : BlkOk X.N X.env.scope scope own)
    (hg : ∀ (s : Shared) (H : Hp) (C : Addr) (cl : List (Str × Addr)) (fp : List Addr), VG (X.blk s H scope (compEnvC scope cl C X.env) fp) P.nx tg m js) (ht : ∀ (s : Shared) (H : Hp) (C : Addr) (cl : List (Str × Addr)) (fp : List Addr), VTs (X.blk s H scope (compEnvC scope cl C X.env) fp) P.nx ifs t)
    (he : ∀ (s : Shared) (H : Hp) (C : Addr) (cl : List (Str × Addr)) (fp : List Addr), VE (X.blk s H scope (compEnvC scope cl C X.env) fp) P.nx elt fe) (hvs : own.map (·.2) = vs := by rfl) (hjs : ∀ i ∈ js, i ∈ vs := by decide) (hs : ∀ x, foldedSetIterable iter X.env x = pure x := by intro _; rfl) :
    VF X P (.ListComp elt [⟨tg, iter, ifs, 0⟩] scope pos) (mLc g m t fe vs) := PE_mono (pe_lc (g := tG X P.nx m js) (tt := tTV X P.nx t) (te := tV X P.nx fe) hc hN hi ok hg ht he hs) fun σ H Q h => by subst hvs; exact rdLc hjs h
/-- name = [..] on one line, the name a plain local: the answer is still -/
def sSetL (i : Nat) (f : Evn → RE (List PyData)) (ρ : Evn) : RS := ((f ρ).at ρ).bind fun ds => .ok (.nx, ρ.set i (some (.val (.list ds))))
/-- .. the name's own -/
def sSetO (i : Nat) (f : Evn → RE (List PyData)) (ρ : Evn) : RS := ((f ρ).at ρ).bind fun ds => .ok (.nx, ρ.set i (some (.own ds)))
theorem OutS.firstF {D : Ends} {ρ : Evn} {F H : Hp} {σ : Sg} {fa : Evn → RE (List PyData)} {k : List PyData → RS} {Q' : VK} (hR : Rep X.K P ρ F σ H) (h : OutS X P D F (((fa ρ).at ρ).bind k))
    (hq : ∀ ds p xs F1 H1, Ext F H F1 H1 → H p = none → F1 p = none → H1 p = some (.lst xs) → xs.length ≤ sizeLine → VdAll X.K F1 xs ds → Rep X.K P ρ F1 σ H1 → OutS X P D F1 (k ds) → Q' (.ref p) H1) : tFV X P fa σ H Q' := by
  refine ⟨ρ, F, hR, ?_⟩
  cases q : fa ρ with
  | ok d => rw [q] at h; exact fun p xs H' F' ex n f h1 hz hv => hq d p xs F' H' ex n f h1 hz hv (hR.step ex) (OutS.step h ex.ff)
  | exc c u => rw [q] at h; exact fun C H' F' hm ex => h C σ H' F' hm ex.ff (hR.step ex)
  | bad => rw [q] at h; exact h.elim
theorem rdSetO {i : Nat} {f : Evn → RE (List PyData)} {D : Ends} {σ : Sg} {H : Hp} (h : tS X P (sSetO i f) D σ H) : tAsg (tFV X P f) (gName i) D σ H := by
  obtain ⟨ρ, F, hR, h⟩ := h
  refine OutS.firstF hR h fun ds p xs F1 H1 ex n f h1 hz hv R1 k => ?_
  refine k _ H1 F1 (Same.refl _) (R1.setOwn (hR.ext.hh.free n) f h1 hz hv fun j es m _ q1 => hR.isNew n j es m q1)
theorem rdSetL {i : Nat} {f : Evn → RE (List PyData)} {D : Ends} {σ : Sg} {H : Hp} (h : tS X P (sSetL i f) D σ H) : tAsg (tFV X P f) (gName i) D σ H := by
  obtain ⟨ρ, F, hR, h⟩ := h
  refine OutS.firstF hR h fun ds p xs F1 H1 ex n f h1 hz hv R1 k => ?_
  have e2 := Ext.still ex h1 n f
  exact k _ H1 _ (same_upd f) ((hR.step e2).setVal (.lst (SqL.of upd_same) hz (VdAll.mono (same_upd f) ds xs hv)))
theorem vs_setO (i : Nat) {x : Str} {pos' : Pos} {e : Expr} {f : Evn → RE (List PyData)} (hN : X.N.Nodup) (he : VF X P e f) (hi : X.N[i]? = some x := by rfl) (hx : Loc X.env.scope x := by first | exact Or.inl rfl | exact Or.inr rfl) (hs : swapsWith e (some (.Name x pos')) pos.line X.env = pure false := by rfl)
    (hf : X.fn x = true ∨ X.env.scope.names.lookup x = some .local := by first | exact .inl rfl | exact .inr rfl) : VS X P (.Assign [.Name x pos'] e pos) (sSetO i f) := PS_mono (ps_set hN hi hx he hs hf) fun D σ H h => rdSetO h
theorem vs_lcO (i : Nat) {y : Str} {py spos : Pos} {vs : List Nat} (hc : X.calm = true) (hN : X.N.Nodup) (hi : VI X P tg iter g) (ok : BlkOk X.N X.env.scope scope own)
    (hg : ∀ (s : Shared) (H : Hp) (C : Addr) (cl : List (Str × Addr)) (fp : List Addr), VG (X.blk s H scope (compEnvC scope cl C X.env) fp) P.nx tg m js) (ht : ∀ (s : Shared) (H : Hp) (C : Addr) (cl : List (Str × Addr)) (fp : List Addr), VTs (X.blk s H scope (compEnvC scope cl C X.env) fp) P.nx ifs t)
    (he : ∀ (s : Shared) (H : Hp) (C : Addr) (cl : List (Str × Addr)) (fp : List Addr), VE (X.blk s H scope (compEnvC scope cl C X.env) fp) P.nx elt fe) (hsw : swapsWith (.ListComp elt [⟨tg, iter, ifs, 0⟩] scope pos) (some (.Name y py)) spos.line X.env = pure true := by exact sw_true rfl rfl rfl (by decide +kernel)) (hvs : own.map (·.2) = vs := by rfl) (hjs : ∀ i ∈ js, i ∈ vs := by decide) (hy : X.N[i]? = some y := by rfl) (hyl : X.env.scope.names.lookup y = some .local := by rfl)
    (hs : ∀ x, foldedSetIterable iter X.env x = pure x := by intro _; rfl) :
    VS X P (.Assign [.Name y py] (.ListComp elt [⟨tg, iter, ifs, 0⟩] scope pos) spos) (sSetO i (mLc g m t fe vs)) := PS_mono (ps_setLc (g := tG X P.nx m js) (tt := tTV X P.nx t) (te := tV X P.nx fe) hc hN hy hyl hsw hi ok hg ht he hs) fun D σ H h => by
  subst hvs
  have h2 := rdSetO h
  exact rdLc hjs h2
theorem vs_lcL (i : Nat) {y : Str} {py spos : Pos} {vs : List Nat} (hc : X.calm = true) (hN : X.N.Nodup) (hi : VI X P tg iter g) (ok : BlkOk X.N X.env.scope scope own)
    (hg : ∀ (s : Shared) (H : Hp) (C : Addr) (cl : List (Str × Addr)) (fp : List Addr), VG (X.blk s H scope (compEnvC scope cl C X.env) fp) P.nx tg m js) (ht : ∀ (s : Shared) (H : Hp) (C : Addr) (cl : List (Str × Addr)) (fp : List Addr), VTs (X.blk s H scope (compEnvC scope cl C X.env) fp) P.nx ifs t)
    (he : ∀ (s : Shared) (H : Hp) (C : Addr) (cl : List (Str × Addr)) (fp : List Addr), VE (X.blk s H scope (compEnvC scope cl C X.env) fp) P.nx elt fe) (hsw : swapsWith (.ListComp elt [⟨tg, iter, ifs, 0⟩] scope pos) (some (.Name y py)) spos.line X.env = pure true := by exact sw_true rfl rfl rfl (by decide +kernel)) (hvs : own.map (·.2) = vs := by rfl) (hjs : ∀ i ∈ js, i ∈ vs := by decide) (hy : X.N[i]? = some y := by rfl) (hyl : X.env.scope.names.lookup y = some .local := by rfl)
    (hs : ∀ x, foldedSetIterable iter X.env x = pure x := by intro _; rfl) :
    VS X P (.Assign [.Name y py] (.ListComp elt [⟨tg, iter, ifs, 0⟩] scope pos) spos) (sSetL i (mLc g m t fe vs)) := PS_mono (ps_setLc (g := tG X P.nx m js) (tt := tTV X P.nx t) (te := tV X P.nx fe) hc hN hy hyl hsw hi ok hg ht he hs) fun D σ H h => by
  subst hvs
  have h2 := rdSetL h
  exact rdLc hjs h2
end
end PV
end
section
set_option Elab.async false
set_option linter.all false
set_option maxRecDepth 100000
set_option maxHeartbeats 4000000
namespace PV
open PySem PySem.Spec PyProof.Rows L2

/-! ### a name's own list is changed -/
theorem Rep.own {K : PySem.W.Frag} {P : Pm} {ρ : Evn} {F H : Hp} {σ : Sg} {i : Nat} {ds : List PyData} (r : Rep K P ρ F σ H) (q : ρ[i]? = some (some (.own ds))) : ∃ a xs, σ[i]? = some (some (.ref a)) ∧ P.B a = none ∧ F a = none ∧ H a = some (.lst xs) ∧ xs.length ≤ sizeLine ∧ VdAll K F xs ds := by
  obtain ⟨v, h1, a, xs, e, h⟩ := r.slot i _ q
  subst e
  exact ⟨a, xs, h1, h⟩
theorem Rep.mutateC {K : PySem.W.Frag} {P : Pm} {ρ : Evn} {F H : Hp} {σ : Sg} {i : Nat} {c c' : Cel} {a : Addr} {o : HO} (r : Rep K P ρ F σ H) (m : c.mine = true) (q : ρ[i]? = some (some c)) (hσ : σ[i]? = some (some (.ref a))) (hb : P.B a = none) (hf : F a = none)
    (h : CellOk K P F (upd H a o) (.ref a) c') : Rep K P (ρ.set i (some c')) F σ (upd H a o) := by
  have sm : ∀ {G : Hp}, G a = none → Same G H → Same G (upd H a o) := fun {G} n s b u e => by
    rw [upd_ne (ne_of_none e n)]; exact s b u e
  have hi : i < ρ.length := (List.getElem?_eq_some_iff.mp q).1
  have nj : ∀ {j : Nat} {d : Cel}, (ρ.set i (some c'))[j]? = some (some d) → (i = j ∧ d = c') ∨ (i ≠ j ∧ ρ[j]? = some (some d)) := fun {j d} q => by
    by_cases hj : i = j
    · subst hj
      rw [List.getElem?_set_self hi] at q
      cases q
      exact .inl ⟨rfl, rfl⟩
    · rw [List.getElem?_set_ne hj] at q
      exact .inr ⟨hj, q⟩
  refine ⟨by rw [List.length_set]; exact r.len, ⟨sm hb r.ext.hh, r.ext.ff, sm hf r.ext.fh, r.ext.nw⟩, fun j d p => ?_, fun j k b es es' m1 m2 hne q1 q2 q3 => ?_⟩
  · rcases nj p with ⟨e, ec⟩ | ⟨n, p⟩
    · subst e; subst ec
      exact ⟨_, hσ, h⟩
    · obtain ⟨u, h1, h2⟩ := r.slot j d p
      refine ⟨u, h1, ?_⟩
      cases d with
      | val d => exact h2
      | exn c => exact h2
      | own es =>
        obtain ⟨a', xs', ev, b1, b2, b3, b4, b5⟩ := h2
        subst ev
        refine ⟨a', xs', rfl, b1, b2, ?_, b4, b5⟩
        rw [upd_ne]
        · exact b3
        · intro e
          subst e
          exact r.sep i j _ c (.own es) m rfl n q p hσ h1
      | dic es =>
        obtain ⟨a', xs', ev, b1, b2, b3, b4, b5⟩ := h2
        subst ev
        refine ⟨a', xs', rfl, b1, b2, ?_, b4, b5⟩
        rw [upd_ne]
        · exact b3
        · intro e
          subst e
          exact r.sep i j _ c (.dic es) m rfl n q p hσ h1
  · rcases nj q1 with ⟨e, ec⟩ | ⟨n1, p1⟩
    · subst e
      rcases nj q2 with ⟨e2, _⟩ | ⟨n2, p2⟩
      · exact absurd e2 hne
      · exact r.sep i k b c es' m m2 hne q p2 q3
    · rcases nj q2 with ⟨e2, _⟩ | ⟨n2, p2⟩
      · subst e2
        exact r.sep j i b es c m1 m hne p1 q q3
      · exact r.sep j k b es es' m1 m2 hne p1 p2 q3
theorem Rep.mutate {K : PySem.W.Frag} {P : Pm} {ρ : Evn} {F H : Hp} {σ : Sg} {i : Nat} {ds ds' : List PyData} {a : Addr} {xs : List V} (r : Rep K P ρ F σ H) (q : ρ[i]? = some (some (.own ds))) (hσ : σ[i]? = some (some (.ref a))) (hb : P.B a = none) (hf : F a = none)
    (hz : xs.length ≤ sizeLine) (hv : VdAll K F xs ds') : Rep K P (ρ.set i (some (.own ds'))) F σ (upd H a (.lst xs)) :=
  r.mutateC (c := .own ds) rfl q hσ hb hf ⟨a, xs, rfl, hb, hf, upd_same, hz, hv⟩
/-- the own list at i -/
def ownAt (i : Nat) (ρ : Evn) : Option (List PyData) := match ρ[i]? with
  | some (some (.own ds)) => some ds
  | _ => none
theorem ownAt_eq {i : Nat} {ρ : Evn} {ds : List PyData} (h : ownAt i ρ = some ds) : ρ[i]? = some (some (.own ds)) := by
  unfold ownAt at h
  split at h
  · cases h; assumption
  · cases h
/-- x.append(e) -/
def sApp (i : Nat) (f : Evn → RE PyData) (ρ : Evn) : RS := match ownAt i ρ with
  | some ds => ((f ρ).at ρ).bind fun d => if ds.length < sizeLine then .ok (.nx, ρ.set i (some (.own (ds ++ [d])))) else .bad
  | none => .bad
section
variable {X : Cx} {P : Pm} {pos apos spos tpos : Pos} {e k : Expr} {fe fk : Evn → RE PyData} {x : Str}
theorem rdOwn {i : Nat} {ρ : Evn} {F H : Hp} {σ : Sg} {D : Ends} {k : List PyData → RS} (hR : Rep X.K P ρ F σ H) (h : OutS X P D F (match ownAt i ρ with | some ds => k ds | none => .bad)) :
    ∃ a xs ds, ρ[i]? = some (some (.own ds)) ∧ σ[i]? = some (some (.ref a)) ∧ P.B a = none ∧ F a = none ∧ H a = some (.lst xs) ∧ xs.length ≤ sizeLine ∧ VdAll X.K F xs ds ∧ OutS X P D F (k ds) := by
  cases q : ownAt i ρ with
  | none => rw [q] at h; exact h.elim
  | some ds =>
    rw [q] at h
    obtain ⟨a, xs, h1, h2, h3, h4, h5, h6⟩ := hR.own (ownAt_eq q)
    exact ⟨a, xs, ds, ownAt_eq q, h1, h2, h3, h4, h5, h6, h⟩
theorem Rep.own_at {i : Nat} {ρ : Evn} {F H : Hp} {σ : Sg} {ds : List PyData} {a : Addr} (r : Rep X.K P ρ F σ H) (q : ρ[i]? = some (some (.own ds))) (hσ : σ[i]? = some (some (.ref a))) : ∃ xs, F a = none ∧ H a = some (.lst xs) ∧ xs.length ≤ sizeLine ∧ VdAll X.K F xs ds := by
  obtain ⟨a', xs, g1, g2, g3, g4, g5, g6⟩ := r.own q
  rw [hσ] at g1
  cases g1
  exact ⟨xs, g3, g4, g5, g6⟩
theorem vs_append (i : Nat) {p : Pos} (he : VE X P e fe) (hN : X.N[i]? = some x := by rfl) (hv : Vis X.env.scope x := by first | exact Or.inl rfl | exact Or.inr (Or.inl rfl) | exact Or.inr (Or.inr rfl)) (hd : (x == ("__debug__" : Str)) = false := by decide) (hcd : (x == ("__classdict__" : Str)) = false := by decide)
    (hbase : attributeBase (.Name x p) "append" X.env (eval (.Name x p) X.env) = eval (.Name x p) X.env := by rfl)
    (hfew : ((backTo pos (starEach [e] X.env)).all (fun x => !x.1) && (backToKw pos (keywordEach [] X.env)).all (fun x => x.1.isSome)
      && decide ([e].length + ([] : List Keyword).length + (if ([] : List Keyword).isEmpty then 0 else 1) < 30)) = true := by rfl)
    (hline : (apos.endLine == pos.line) = true := by rfl) (hs : starEach [e] X.env = (false, eval e X.env) :: starEach [] X.env := by rfl) (hplain : (backTo pos (starEach [] X.env)).any (·.1) = false := by rfl) (hsw : swapsWith (.Call (.Attribute (.Name x p) "append" apos) [e] [] pos) none spos.line X.env = pure false := by rfl) :
    VS X P (.Expr (.Call (.Attribute (.Name x p) "append" apos) [e] [] pos) spos) (sApp i fe) :=
  PS_mono (ps_expr (pe_bm PySem.F.plainAttrs_list PySem.F.slot_list_append PySem.F.type_list_append mt_append (pe_var (i := i) hN hv hd hcd) (pa_cons he pa_nil hs) hbase hfew hline hs hplain) hsw) fun D σ H h => by
    obtain ⟨ρ, F, hR, h⟩ := h
    obtain ⟨a, xs, ds, q, h1, h2, h3, h4, h5, h6, h⟩ := rdOwn hR h
    refine ⟨_, h1, .inl ⟨rfl, _, SqL.of h4⟩, ?_⟩
    refine OutS.first hR h fun d v F1 H1 e1 hv R1 k => ?_
    obtain ⟨xs', g3, g4, g5, g6⟩ := R1.own_at q h1
    have hl := g6.length
    by_cases hz : ds.length < sizeLine
    · rw [if_pos hz] at k
      exact ⟨_, _, _, rfl, rfl, g4, by omega, k σ _ F1 (Same.refl _) (R1.mutate q h1 h2 g3 (by rw [List.length_append]; show _ + 1 ≤ _; omega) (g6.append (.cons hv .nil)))⟩
    · rw [if_neg hz] at k
      exact k.elim
/-- x[k] = e -/
def setD (ds : List PyData) (k d : PyData) : Option (List PyData) := match k with
  | .int j => (ixN ds.length j).map fun n => ds.set n d
  | _ => none
def sSetIx (i : Nat) (fk fe : Evn → RE PyData) (ρ : Evn) : RS := match ownAt i ρ with
  | some ds => ((fe ρ).at ρ).bind fun d => ((fk ρ).at ρ).bind fun k => (oS (setD ds k d)).bind fun es => .ok (.nx, ρ.set i (some (.own es)))
  | none => .bad
theorem setD_of {K : PySem.W.Frag} {F : Hp} {xs : List V} {ds es : List PyData} {kv v : V} {k d : PyData} (hx : VdAll K F xs ds) (hk : Vd K F kv k) (hv : Vd K F v d) (e : setD ds k d = some es) : ∃ j n, kv = .int j ∧ ixN xs.length j = some n ∧ VdAll K F (xs.set n v) es := by
  cases hk with
  | int j =>
    cases q : ixN ds.length j with
    | none => simp [setD, q] at e
    | some n =>
      simp only [setD, q, Option.map_some, Option.some.injEq] at e
      subst e
      exact ⟨j, n, rfl, by rw [hx.length]; exact q, hx.set hv n⟩
  | _ => cases e
theorem vs_setIx (i : Nat) {p : Pos} (hk : VE X P k fk) (he : VE X P e fe) (hN : X.N[i]? = some x := by rfl) (hv : Vis X.env.scope x := by first | exact Or.inl rfl | exact Or.inr (Or.inl rfl) | exact Or.inr (Or.inr rfl)) (hd : (x == ("__debug__" : Str)) = false := by decide) (hcd : (x == ("__classdict__" : Str)) = false := by decide)
    (ha : ∀ v, assign (.Subscript (.Name x p) k tpos) X.env v = (do
      let ov ← holding [v] (eval (.Name x p) X.env)
      let iv ← holding [v, ov] (eval k X.env)
      standAt tpos
      holding [v, ov, iv] (setItem ov iv v)
      release [v, ov, iv] []) := by intro _; rfl)
    (hs : swapsWithSole [.Subscript (.Name x p) k tpos] e spos.line X.env = pure false := by rfl) (hw : swappedStores [.Subscript (.Name x p) k tpos] e X.env = pure none := by rfl)
    (h1 : (assignEach [.Subscript (.Name x p) k tpos] X.env).map (·.2) = [assign (.Subscript (.Name x p) k tpos) X.env] := by rfl) :
    VS X P (.Assign [.Subscript (.Name x p) k tpos] e spos) (sSetIx i fk fe) :=
  PS_mono (ps_asg he (pg_sub (pe_var (i := i) hN hv hd hcd) hk set_list ha) hs hw h1) fun D σ H h => by
    obtain ⟨ρ, F, hR, h⟩ := h
    obtain ⟨a, xs, ds, q, h1, h2, h3, h4, h5, h6, h⟩ := rdOwn hR h
    refine OutS.first hR h fun d v F1 H1 e1 hv R1 h => ?_
    refine ⟨_, h1, ?_⟩
    refine OutS.first R1 h fun kd kv F2 H2 e2 hkv R2 h => ?_
    obtain ⟨xs', g3, g4, g5, g6⟩ := R2.own_at q h1
    cases q2 : setD ds kd d with
    | none => rw [q2] at h; exact h.elim
    | some es =>
      rw [q2] at h
      obtain ⟨j, n, rfl, hn, hes⟩ := setD_of g6 hkv (Vd.mono e2.ff d v hv) q2
      exact ⟨_, _, j, n, rfl, rfl, g4, hn, h σ _ F2 (Same.refl _) (R2.mutate q h1 h2 g3 (by rw [List.length_set]; exact g5) hes)⟩
/-- x[k] += e, ints -/
theorem get_list : PGet X (fun o i H Q => ∃ p xs k v, o = .ref p ∧ i = .int k ∧ SqL X.K H p xs ∧ atI xs k = some v ∧ Q v H) := by
  intro pins s σ H o i ov iv Q I ro ri h
  obtain ⟨p, xs, k, z, rfl, rfl, hq, he, q⟩ := h
  cases ro
  obtain ⟨t, rfl⟩ := ri
  obtain ⟨its, r, pl, hz⟩ := I.list hq
  obtain ⟨j, h1, h2, h3, h4, h5⟩ := atI_get he
  obtain ⟨w, ew, rw'⟩ := r.get h2
  have hl := r.length
  have hn := line63
  have fin : EP X pins σ Q w s := ⟨z, H, I, rw', q⟩
  by_cases h0 : 0 ≤ k
  · have hj : k.toNat = j := by
      rw [seqIndex_of h0 h5] at h1
      exact Option.some.inj h1
    exact wpAny_getItem_list pl.isList h0 (by omega) (by rw [hj]; simpa using ew) fin
  · have hj : (k + (its.toArray.size : Int)).toNat = j := by
      rw [seqIndex_neg (by omega) h4] at h1
      rw [List.size_toArray, ← hl]
      exact Option.some.inj h1
    exact wpAny_getItem_list_neg pl.isList (by omega) (by rw [List.size_toArray] <;> omega) (by omega) (by rw [hj]; simpa using ew) fin
def iOp (f : Int → Int → Int) : PyData → PyData → Option PyData
  | .int i, .int j => some (.int (f i j))
  | _, _ => none
def sAugIx (i : Nat) (fk : Evn → RE PyData) (f : Int → Int → Int) (fe : Evn → RE PyData) (ρ : Evn) : RS := match ownAt i ρ with
  | some ds => ((fk ρ).at ρ).bind fun k => (oS (pIdx (.list ds) k)).bind fun old => ((fe ρ).at ρ).bind fun d => (oS ((iOp f old d).bind (setD ds k))).bind fun es => .ok (.nx, ρ.set i (some (.own es)))
  | none => .bad
theorem vs_augIx (i : Nat) {p : Pos} {op : Operator} {f : Int → Int → Int} (ho : PIp X op (ipI f)) (hk : VE X P k fk) (he : VE X P e fe) (hN : X.N[i]? = some x := by rfl) (hv : Vis X.env.scope x := by first | exact Or.inl rfl | exact Or.inr (Or.inl rfl) | exact Or.inr (Or.inr rfl)) (hd : (x == ("__debug__" : Str)) = false := by decide) (hcd : (x == ("__classdict__" : Str)) = false := by decide)
    (ha : ∀ ov iv new, augStore k ov iv new = (do holding [new, ov, iv] (setItem ov iv new); release [new, ov, iv] []; pure .next) := by intros; rfl) :
    VS X P (.AugAssign (.Subscript (.Name x p) k tpos) op e pos) (sAugIx i fk f fe) :=
  PS_mono (ps_augS (pe_var (i := i) hN hv hd hcd) hk get_list he ho set_list ha) fun D σ H h => by
    obtain ⟨ρ, F, hR, h⟩ := h
    obtain ⟨a, xs, ds, q, h1, h2, h3, h4, h5, h6, h⟩ := rdOwn hR h
    refine ⟨_, h1, ?_⟩
    refine OutS.first hR h fun kd kv F1 H1 e1 hkv R1 h => ?_
    obtain ⟨xs1, g3, g4, g5, g6⟩ := R1.own_at q h1
    cases q1 : pIdx (.list ds) kd with
    | none => rw [q1] at h; exact h.elim
    | some old =>
      rw [q1] at h
      cases hkv with
      | int j =>
        obtain ⟨ov, ho1, ho2⟩ := g6.at (i := j) q1
        refine ⟨a, xs1, j, ov, rfl, rfl, SqL.of g4, ho1, ?_⟩
        refine OutS.first (k := fun d => (oS ((iOp f old d).bind (setD ds (.int j)))).bind fun es => .ok (.nx, ρ.set i (some (.own es)))) R1 h fun d v F2 H2 e2 hv R2 h9 => ?_
        obtain ⟨xs2, k3, k4, k5, k6⟩ := R2.own_at q h1
        cases q2 : iOp f old d with
        | none => rw [q2] at h9; exact h9.elim
        | some z =>
          rw [q2] at h9
          cases q3 : setD ds (.int j) z with
          | none => simp only [Option.bind_some, q3] at h9; exact h9.elim
          | some es =>
            simp only [Option.bind_some, q3] at h9
            have hov := Vd.mono e2.ff old ov ho2
            cases hov with
            | int a1 =>
              cases hv with
              | int b1 =>
                cases q2
                obtain ⟨j', n, e', hn, hes⟩ := setD_of (v := .int (f a1 b1)) k6 (.int j) (.int _) q3
                cases e'
                exact ⟨a1, b1, rfl, rfl, _, _, j, n, rfl, rfl, k4, hn, h9 σ _ F2 (Same.refl _) (R2.mutate q h1 h2 k3 (by rw [List.length_set]; exact k5) hes)⟩
              | _ => cases q2
            | _ => cases q2
      | _ => cases q1
/-- x op= e, x no list -/
def sAug (i : Nat) (g : PyData → PyData → Option PyData) (f : Evn → RE PyData) (ρ : Evn) : RS := match ρ[i]? with
  | some (some (.val d)) => ((f ρ).at ρ).bind fun e => (oS (g d e)).bind fun r => .ok (.nx, ρ.set i (some (.val r)))
  | _ => .bad
theorem vs_aug (i : Nat) {p : Pos} {op : Operator} {g : PyData → PyData → Option PyData} (ho : OpV X (inplaceOp op) g) (hN : X.N.Nodup) (he : VE X P e fe) (hi : X.N[i]? = some x := by rfl) (hx : Loc X.env.scope x := by first | exact Or.inl rfl | exact Or.inr rfl)
    (hf : X.fn x = true ∨ X.env.scope.names.lookup x = some .local := by first | exact .inl rfl | exact .inr rfl) : VS X P (.AugAssign (.Name x p) op e pos) (sAug i g fe) :=
  PS_mono (ps_aug (ti := rV X g) hN hi hx he ho.r hf) fun D σ H h => by
    obtain ⟨ρ, F, hR, h⟩ := h
    unfold sAug at h
    split at h
    · rename_i d q
      obtain ⟨v, h1, h2⟩ := hR.slot i _ q
      refine ⟨v, h1, ?_⟩
      refine OutS.first hR h fun e u F1 H1 e1 hu R1 h => ?_
      cases q2 : g d e with
      | none => rw [q2] at h; exact h.elim
      | some r =>
        rw [q2] at h
        exact ⟨F1, d, e, r, R1.fh, Vd.mono e1.ff d v h2, hu, q2, fun v' H' F' ex hv => h _ H' F' ex.ff ((R1.step ex).setVal hv)⟩
    · exact h.elim
def pIAdd : PyData → PyData → Option PyData
  | .int i, .int j => some (.int (i + j))
  | .str x, .str y => if x.length + y.length ≤ sizeLine then some (.str (x ++ y)) else none
  | _, _ => none
theorem opv_iadd : OpV X (inplaceOp .Add) pIAdd := by
  intro pins s σ H x y v u Q I rx ry F d e r sf hx hy hg hq
  cases hx with
  | int i =>
    cases hy with
    | int j =>
      cases hg
      exact iop_add pins s σ H _ _ v u Q I rx ry ⟨i, j, rfl, rfl, hq _ _ F (Ext.refl sf) (.int _)⟩
    | _ => cases hg
  | str x hx1 =>
    cases hy with
    | str y hy1 =>
      obtain ⟨hp, rfl⟩ := some_of_if hg
      refine iop_add_str pins s σ H _ _ v u Q I rx ry ⟨x, y, rfl, rfl, hp, hq _ _ F (Ext.refl sf) (.str _ ?_)⟩
      show ((x.cps ++ y.cps).all _) = true
      have h1 : x.cps.all (fun c => decide (c < 0x110000)) = true := hx1
      have h2 : y.cps.all (fun c => decide (c < 0x110000)) = true := hy1
      rw [Array.all_append, h1, h2]
      rfl
    | _ => cases hg
  | _ => cases hg
theorem opv_isub : OpV X (inplaceOp .Sub) pSub := opI2 (rI0_of iop_sub) (fun _ _ _ => .int _) fun d e r h => by
  cases d <;> cases e <;> first | exact ⟨_, _, rfl, rfl, trivial, (Option.some.inj h).symm⟩ | cases h
/-! pop -/
def sPop (i : Nat) (ρ : Evn) : RS := match ownAt i ρ with
  | some ds => (oS ds.getLast?).bind fun _ => .ok (.nx, ρ.set i (some (.own ds.dropLast)))
  | none => .bad
def sPopTo (i j : Nat) (ρ : Evn) : RS := match ownAt i ρ with
  | some ds => (oS ds.getLast?).bind fun d => .ok (.nx, (ρ.set i (some (.own ds.dropLast))).set j (some (.val d)))
  | none => .bad
theorem VdAll.dropLast {K : PySem.W.Frag} {F : Hp} {vs : List V} {ds : List PyData} (h : VdAll K F vs ds) : VdAll K F vs.dropLast ds.dropLast := by
  rw [List.dropLast_eq_take, List.dropLast_eq_take, h.length]
  exact h.take _
theorem rdPop {i : Nat} {ρ : Evn} {F H : Hp} {σ : Sg} {ds : List PyData} {a : Addr} {xs : List V} {d : PyData} (h6 : VdAll X.K F xs ds) (hl : ds.getLast? = some d) : ∃ y, xs[xs.length - 1]? = some y ∧ Vd X.K F y d := by
  rw [List.getLast?_eq_getElem?] at hl
  obtain ⟨y, h1, h2⟩ := h6.get hl
  rw [← h6.length] at h1
  exact ⟨y, h1, h2⟩
theorem vs_pop (i : Nat) {p : Pos} (hN : X.N[i]? = some x := by rfl) (hv : Vis X.env.scope x := by first | exact Or.inl rfl | exact Or.inr (Or.inl rfl) | exact Or.inr (Or.inr rfl)) (hd : (x == ("__debug__" : Str)) = false := by decide) (hcd : (x == ("__classdict__" : Str)) = false := by decide)
    (hbase : attributeBase (.Name x p) "pop" X.env (eval (.Name x p) X.env) = eval (.Name x p) X.env := by rfl) (hline : (apos.endLine == pos.line) = true := by rfl) (hsw : swapsWith (.Call (.Attribute (.Name x p) "pop" apos) [] [] pos) none spos.line X.env = pure false := by rfl) :
    VS X P (.Expr (.Call (.Attribute (.Name x p) "pop" apos) [] [] pos) spos) (sPop i) :=
  PS_mono (ps_expr (pe_bm0 PySem.F.plainAttrs_list PySem.F.slot_list_pop PySem.F.type_list_pop mt_pop (pe_var (i := i) hN hv hd hcd) hbase hline) hsw) fun D σ H h => by
    obtain ⟨ρ, F, hR, h⟩ := h
    obtain ⟨a, xs, ds, q, h1, h2, h3, h4, h5, h6, h⟩ := rdOwn hR h
    refine ⟨_, h1, .inl ⟨rfl, _, SqL.of h4⟩, ?_⟩
    cases q2 : ds.getLast? with
    | none => rw [q2] at h; exact h.elim
    | some d =>
      rw [q2] at h
      obtain ⟨y, hy, _⟩ := rdPop (i := i) (ρ := ρ) (H := H) (σ := σ) (a := a) h6 q2
      exact ⟨_, _, y, rfl, rfl, h4, hy, h σ _ F (Same.refl _) (hR.mutate q h1 h2 h3 (by rw [List.length_dropLast]; omega) h6.dropLast)⟩
theorem vs_popTo (i j : Nat) {y : Str} {p py : Pos} (nd : X.N.Nodup) (hN : X.N[i]? = some x := by rfl) (hj : X.N[j]? = some y := by rfl) (hij : i ≠ j := by decide) (hv : Vis X.env.scope x := by first | exact Or.inl rfl | exact Or.inr (Or.inl rfl) | exact Or.inr (Or.inr rfl)) (hd : (x == ("__debug__" : Str)) = false := by decide) (hcd : (x == ("__classdict__" : Str)) = false := by decide)
    (hbase : attributeBase (.Name x p) "pop" X.env (eval (.Name x p) X.env) = eval (.Name x p) X.env := by rfl) (hline : (apos.endLine == pos.line) = true := by rfl) (hy : Loc X.env.scope y := by first | exact Or.inl rfl | exact Or.inr rfl) (hsw : swapsWith (.Call (.Attribute (.Name x p) "pop" apos) [] [] pos) (some (.Name y py)) spos.line X.env = pure false := by rfl) (hf : X.fn y = true ∨ X.env.scope.names.lookup y = some .local := by first | exact .inl rfl | exact .inr rfl) :
    VS X P (.Assign [.Name y py] (.Call (.Attribute (.Name x p) "pop" apos) [] [] pos) spos) (sPopTo i j) :=
  PS_mono (ps_set nd hj hy (pe_bm0 PySem.F.plainAttrs_list PySem.F.slot_list_pop PySem.F.type_list_pop mt_pop (pe_var (i := i) hN hv hd hcd) hbase hline) hsw hf) fun D σ H h => by
    obtain ⟨ρ, F, hR, h⟩ := h
    obtain ⟨a, xs, ds, q, h1, h2, h3, h4, h5, h6, h⟩ := rdOwn hR h
    refine ⟨_, h1, .inl ⟨rfl, _, SqL.of h4⟩, ?_⟩
    cases q2 : ds.getLast? with
    | none => rw [q2] at h; exact h.elim
    | some d =>
      rw [q2] at h
      obtain ⟨y, hy, hyv⟩ := rdPop (i := i) (ρ := ρ) (H := H) (σ := σ) (a := a) h6 q2
      exact ⟨_, _, y, rfl, rfl, h4, hy, h _ _ F (Same.refl _) ((hR.mutate q h1 h2 h3 (by rw [List.length_dropLast]; omega) h6.dropLast).setVal hyv)⟩
end

/-! ### fresh lists -/
section
variable {X : Cx} {P : Pm} {pos p p2 p3 : Pos} {e k a b : Expr} {es : List Expr} {fe fk fa fb : Evn → RE PyData} {g : Evn → RE (List PyData)} {x : Str}
theorem OutF.first {σ : Sg} {F H : Hp} {ρ : Evn} {f : Evn → RE PyData} {k : PyData → RE (List PyData)} {Q Q' : VK} (hR : Rep X.K P ρ F σ H) (h : OutF X P σ Q F H ((f ρ).bind k))
    (hq : ∀ d v F1 H1, Ext F H F1 H1 → Vd X.K F1 v d → Rep X.K P ρ F1 σ H1 → OutF X P σ Q F1 H1 (k d) → Q' v H1) : tV X P f σ H Q' := by
  refine ⟨ρ, F, hR, ?_⟩
  refine R.post_mono (R.post_bind h) (fun d q v H' F' e hv => hq d v F' H' e hv (hR.step e) ?_) (fun c _ q => q)
  exact R.post_mono q (fun ds q p xs H2 F2 e2 n f h1 hz hv => q p xs H2 F2 (e.trans e2) (e.hh.free n) f h1 hz hv) (fun c _ q C H2 F2 hm e2 => q C H2 F2 hm (e.trans e2))
theorem OutF.firstA {σ : Sg} {F H : Hp} {ρ : Evn} {f : Evn → RE (List PyData)} {k : List PyData → RE (List PyData)} {Q : VK} {Q' : List V → Hp → Prop} (hR : Rep X.K P ρ F σ H) (h : OutF X P σ Q F H ((f ρ).bind k))
    (hq : ∀ d v F1 H1, Ext F H F1 H1 → VdAll X.K F1 v d → Rep X.K P ρ F1 σ H1 → OutF X P σ Q F1 H1 (k d) → Q' v H1) : tAV X P f σ H Q' := by
  refine ⟨ρ, F, hR, ?_⟩
  refine R.post_mono (R.post_bind h) (fun d q v H' F' e hv => hq d v F' H' e hv (hR.step e) ?_) (fun c _ q => q)
  exact R.post_mono q (fun ds q p xs H2 F2 e2 n f h1 hz hv => q p xs H2 F2 (e.trans e2) (e.hh.free n) f h1 hz hv) (fun c _ q C H2 F2 hm e2 => q C H2 F2 hm (e.trans e2))
/-- a new list, as a fresh result -/
theorem OutF.new {σ : Sg} {F H : Hp} {Q : VK} {xs : List V} {ds : List PyData} (sf : Same F H) (h : OutF X P σ Q F H (.ok ds)) (hz : xs.length ≤ sizeLine) (hv : VdAll X.K F xs ds) : ∀ p, H p = none → Q (.ref p) (upd H p (.lst xs)) :=
  fun p n => h p xs _ F (Ext.beside sf n) n (sf.free n) upd_same hz hv
def mDsp (g : Evn → RE (List PyData)) (ρ : Evn) : RE (List PyData) := (g ρ).bind fun ds => if ds.length ≤ sizeLine then .ok ds else .bad
theorem vf_lst (h : VA X P es g) : VF X P (.List es pos) (mDsp g) := PE_mono (pe_lst h) fun σ H Q h => by
  obtain ⟨ρ, F, hR, h⟩ := h
  refine OutF.firstA hR h fun ds vs F1 H1 e1 hv R1 h1 => ?_
  have hl := hv.length
  by_cases hz : ds.length ≤ sizeLine
  · rw [if_pos hz] at h1
    exact ⟨by omega, OutF.new R1.fh h1 (by omega) hv⟩
  · rw [if_neg hz] at h1; exact h1.elim
/-- [a, ..] * n -/
def repOk (m : Nat) (k : Int) : Prop := -(2 ^ 63) ≤ k ∧ k < 2 ^ 63 ∧ m * k.toNat ≤ sizeLine
instance (m : Nat) (k : Int) : Decidable (repOk m k) := by unfold repOk; exact inferInstance
def pRep (ds : List PyData) : PyData → RE (List PyData)
  | .int k => if repOk ds.length k then .ok (List.replicate k.toNat ds).flatten else .bad
  | _ => .bad
def mRep (g : Evn → RE (List PyData)) (f : Evn → RE PyData) (ρ : Evn) : RE (List PyData) := (mDsp g ρ).bind fun ds => (f ρ).bind (pRep ds)
theorem vf_rep (h : VA X P es g) (hk : VE X P k fk) : VF X P (.BinOp (.List es p2) .Mult k pos) (mRep g fk) := PE_mono (pe_op op_rep (pe_lst h) hk) fun σ H Q h => by
  obtain ⟨ρ, F, hR, h⟩ := h
  have h' : OutF X P σ Q F H ((g ρ).bind fun ds => (if ds.length ≤ sizeLine then .ok ds else .bad : RE (List PyData)).bind fun ds => (fk ρ).bind (pRep ds)) := by
    have e : mRep g fk ρ = (g ρ).bind fun ds => (if ds.length ≤ sizeLine then .ok ds else .bad : RE (List PyData)).bind fun ds => (fk ρ).bind (pRep ds) := by
      unfold mRep mDsp; rw [bind_assoc]
    rw [← e]; exact h
  refine OutF.firstA hR h' fun ds vs F1 H1 e1 hv R1 h1 => ?_
  have hl := hv.length
  by_cases hz : ds.length ≤ sizeLine
  case neg => rw [if_neg hz] at h1; exact h1.elim
  rw [if_pos hz] at h1
  refine ⟨by omega, fun l hn => ?_⟩
  have f1 := R1.fh.free hn
  have e2 : Ext F1 H1 F1 (upd H1 l (.lst vs)) := Ext.beside R1.fh hn
  have h2 : OutF X P σ Q F1 (upd H1 l (.lst vs)) ((fk ρ).bind (pRep ds)) :=
    R.post_mono h1 (fun ds q p xs H2 F2 e3 n f h1 hz hv => q p xs H2 F2 (e2.trans e3) (e2.hh.free n) f h1 hz hv) (fun c _ q C H2 F2 hm e3 => q C H2 F2 hm (e2.trans e3))
  refine OutF.first (R1.step e2) h2 fun d v F2 H2 e3 hv2 R2 h3 => ?_
  cases hv2 with
  | int i =>
    have h3' : OutF X P σ Q F2 H2 (if repOk ds.length i then .ok (List.replicate i.toNat ds).flatten else .bad) := h3
    by_cases hr : repOk ds.length i
    · rw [if_pos hr] at h3'
      refine ⟨l, i, vs, rfl, rfl, e3.hh l _ upd_same, hr.1, hr.2.1, by rw [hl]; exact hr.2.2, ?_⟩
      refine OutF.new R2.fh h3' ?_ ((VdAll.mono e3.ff _ _ hv).rep _)
      rw [PyProof.Rows.lm_len_rep_flat, hl, Nat.mul_comm]; exact hr.2.2
    · rw [if_neg hr] at h3'; exact h3'.elim
  | _ => exact h3.elim
/-- list(x) -/
def pLst : PyData → RE (List PyData)
  | .list ds => .ok ds
  | .tuple ds => .ok ds
  | _ => .bad
def mBind (f : Evn → RE PyData) (k : PyData → RE (List PyData)) (ρ : Evn) : RE (List PyData) := (f ρ).bind k
theorem vf_list (hg : Gl X "list") (hm : X.mg "list" = none) (ha : VE X P e fe) (he : starEach (e :: []) X.env = (false, eval e X.env) :: starEach [] X.env := by rfl) (hpl : (backTo pos (starEach [] X.env)).any (·.1) = false := by rfl) :
    VF X P (.Call (.Name "list" p) [e] [] pos) (mBind fe pLst) := PE_mono (pe_callTy call_list_of hg hm (by decide +kernel) (pa_cons ha pa_nil he) (he := he) (hpl := hpl)) fun σ H Q h => by
  obtain ⟨ρ, F, hR, h⟩ := h
  refine OutF.first hR h fun d v F1 H1 e1 hv R1 h1 => ?_
  cases hv with
  | lst hs hz ha => exact ⟨_, _, rfl, .inl (R1.fh.seq hs), OutF.new R1.fh h1 hz ha⟩
  | tup hs hz ha => exact ⟨_, _, rfl, .inr (same_sqT R1.fh hs), OutF.new R1.fh h1 hz ha⟩
  | _ => exact h1.elim
end
end PV
end
section
set_option Elab.async false
set_option linter.all false
set_option maxRecDepth 100000
set_option maxHeartbeats 4000000
namespace PV
open PySem PySem.Spec PyProof.Rows L2

/-! ### x[k], x a name that may hold its own list -/
def mIxO (i : Nat) (fk : Evn → RE PyData) (ρ : Evn) : RE PyData := match ρ[i]? with
  | some (some (.own ds)) => (fk ρ).bind fun k => ofO (pIdx (.list ds) k)
  | some (some (.val d)) => (fk ρ).bind fun k => ofO (pIdx d k)
  | _ => .bad
section
variable {X : Cx} {P : Pm} {pos p : Pos} {k : Expr} {fk : Evn → RE PyData} {x : Str}
theorem ve_ixO (i : Nat) (hk : VE X P k fk) (hN : X.N[i]? = some x := by rfl) (hv : Vis X.env.scope x := by first | exact Or.inl rfl | exact Or.inr (Or.inl rfl) | exact Or.inr (Or.inr rfl)) (hs : PlainIx k := by first | exact (fun _ _ => rfl) | (intro _ _; rfl)) (hd : (x == ("__debug__" : Str)) = false := by decide) (hcd : (x == ("__classdict__" : Str)) = false := by decide) :
    VE X P (.Subscript (.Name x p) k pos) (mIxO i fk) := PE_mono (pe_ix (ix_list.or ix_all) (pe_var (i := i) hN hv hd hcd) hk hs) fun σ H Q h => by
  obtain ⟨ρ, F, hR, h⟩ := h
  unfold mIxO at h
  split at h
  · rename_i ds q
    obtain ⟨a, xs, h1, h2, h3, h4, h5, h6⟩ := hR.own q
    refine ⟨_, h1, ?_⟩
    refine Out.first hR h fun kd kv F1 H1 e1 hkv R1 h9 => ?_
    obtain ⟨xs', g3, g4, g5, g6⟩ := R1.own_at q h1
    obtain ⟨r, hr, hq⟩ := h9.ofO
    cases hkv with
    | int j =>
      obtain ⟨v, w1, w2⟩ := g6.at (i := j) hr
      exact .inl ⟨a, xs', j, v, rfl, rfl, SqL.of g4, w1, hq v H1 F1 (Ext.refl R1.fh) w2⟩
    | _ => cases hr
  · rename_i d q
    obtain ⟨v, h1, h2⟩ := hR.slot i _ q
    refine ⟨v, h1, ?_⟩
    refine Out.first hR h fun kd kv F1 H1 e1 hkv R1 h9 => ?_
    obtain ⟨r, hr, hq⟩ := h9.ofO
    exact .inr ⟨F1, d, kd, r, R1.fh, Vd.mono e1.ff d v h2, hkv, hr, hq⟩
  · exact h.elim
end

/-! ### defs by name -/
abbrev FnP (K : PySem.W.Frag) (x : Str) (st : Stmt) (f : Addr) (fd : FuncData) : Prop := FunD K x x (defArgs st) (defBody st) (defScope st) [] [] f fd
/-- what a caller leans on -/
structure Cal (P : Program) (w : World) (K : PySem.W.Frag) (mg : Str → Option Value) (base : Heap) (k : Nat) (x : Str) (ps : List Str) (sem : List PyData → RE PyData) : Prop where
  ex : ∃ f fd, FnV P w K mg base k f fd ps sem ∧ mg x = some (.ref f) ∧ PySem.W.keepIn K (.ref f) = true ∧ Binds K fd ps []
section
variable {X : Cx} {P : Pm} {pos p : Pos} {e : Expr} {es : List Expr} {fa : Evn → RE (List PyData)} {sem : List PyData → RE PyData} {x : Str} {k j : Nat} {ps : List Str}
theorem ve_cal (c : Cal X.prog X.w X.K X.mg X.base k x ps sem) (hr : Room j X.A) (tk : Takes X P.W) (ha : VA X P (e :: es) fa) (hkj : k ≤ j := by first | decide | omega) (hg : Gl X x := by rfl) (hdb : (x == ("__debug__" : Str)) = false := by decide)
    (he : starEach (e :: es) X.env = (false, eval e X.env) :: starEach es X.env := by rfl) (hpl : (backTo pos (starEach es X.env)).any (·.1) = false := by rfl) :
    VE X P (.Call (.Name x p) (e :: es) [] pos) (mSeq sem fa) := by
  obtain ⟨f, fd, F, hm, hk, hb⟩ := c.ex
  exact ve_call F (hr.mono hkj) hg hm hk hb tk ha hdb he hpl
theorem ve_cal0 (c : Cal X.prog X.w X.K X.mg X.base k x ps sem) (hr : Room j X.A) (tk : Takes X P.W) (hkj : k ≤ j := by first | decide | omega) (hg : Gl X x := by rfl) (hdb : (x == ("__debug__" : Str)) = false := by decide) :
    VE X P (.Call (.Name x p) [] [] pos) (fun _ => sem []) := by
  obtain ⟨f, fd, F, hm, hk, hb⟩ := c.ex
  exact ve_call0 F (hr.mono hkj) hg hm hk hb tk hdb
end
section
variable {P : Program} {w : World} {K : PySem.W.Frag} {mg : Str → Option Value} {base : Heap}
theorem FnV.ofP {x : Str} {st : Stmt} {f : Addr} {fd : FuncData} {N ps : List Str} {k : Nat} {body : Evn → RS} (F : FnP K x st f fd) (S : FnScope N ps (defScope st))
    (hbody : ∀ (cdv : Value) (A : Around) (outer : List Env) (s : Shared) (H : Hp) (E : XK) (F0 : Hp), Room k (A.deeper (envOfC x (defScope st) s.heap.objs.size f cdv)) →
      VSs (cxOf (L2.CX P w) P w K mg base N x (defScope st) f cdv A outer s H E) ⟨H, F0, wE E, none⟩ (defBody st) body) :
    FnV P w K mg base (k + 1) f fd ps (fnM ps.length N.length body) := by
  refine ⟨F.ok S (fun vs H Q E h => ?_) (fun cdv A outer s H vs Q E hr h => ?_), fun ds h => fnM_ar h⟩
  · obtain ⟨F0, ds, _, hv, hl, _⟩ := h
    rw [hv.length, hl]
  · obtain ⟨F0, ds, sf, hv, hl, hp⟩ := h
    refine ⟨_, hbody cdv A outer s H E F0 hr, startE N.length ds, F0, rep_start sf hv, ?_⟩
    unfold fnM at hp
    rw [if_pos hl] at hp
    unfold OutS
    cases q : body (startE N.length ds) with
    | ok p =>
      rw [q] at hp
      obtain ⟨fl, ρ'⟩ := p
      cases fl with
      | nx => exact fun σ' H' F' _ r => hp _ _ F' r.ext .non
      | bk => exact hp.elim
      | ct => exact hp.elim
      | rt d => exact fun v σ' H' F' _ r hv' => hp v H' F' r.ext hv'
    | exc c ρ' =>
      rw [q] at hp
      exact fun C σ' H' F' hm _ r => hp C H' F' hm r.ext
    | bad => rw [q] at hp; exact hp.elim
abbrev BindH (x : Str) (st : Stmt) (ps : List Str) : Prop := ∀ (kV doc pm : Value) (an : Option Addr) (cdv ct : Value) (us : List Value), us.length = ps.length → bindArgs (PySem.W.fnOf x x (defArgs st) (defBody st) (defScope st) .none kV doc pm an cdv ct) ⟨us, []⟩ = pure (ps.zip us)
theorem Cal.of {x : Str} {st : Stmt} {f : Addr} {fd : FuncData} {N ps : List Str} {k : Nat} {body : Evn → RS} (F : FnP K x st f fd) (gl : mg x = some (.ref f)) (S : FnScope N ps (defScope st)) (hb : BindH x st ps)
    (hbody : ∀ (cdv : Value) (A : Around) (outer : List Env) (s : Shared) (H : Hp) (E : XK) (F0 : Hp), Room k (A.deeper (envOfC x (defScope st) s.heap.objs.size f cdv)) →
      VSs (cxOf (L2.CX P w) P w K mg base N x (defScope st) f cdv A outer s H E) ⟨H, F0, wE E, none⟩ (defBody st) body) :
    Cal P w K mg base (k + 1) x ps (fnM ps.length N.length body) := ⟨⟨f, fd, FnV.ofP F S hbody, gl, F.kp, FunD.bindsN F hb⟩⟩
theorem Cal.none {x : Str} {st : Stmt} {f : Addr} {fd : FuncData} {ps : List Str} {k : Nat} (F : FnP K x st f fd) (gl : mg x = some (.ref f)) (hb : BindH x st ps) : Cal P w K mg base k x ps (fun _ => .bad) := ⟨⟨f, fd, FnV.bad, gl, F.kp, FunD.bindsN F hb⟩⟩
/-- within a block nothing is let out -/
theorem takesN {X : Cx} {P : Pm} : Takes X P.nx.W := fun _ _ ⟨_, _, _, _, _, _, _, _, _, _, _, _, _, _, _, _, w⟩ => w.elim
/-- the law's call -/
theorem law_end {n : Nat} {sem : List PyData → RE PyData} (hn : n ≤ sizeLine) (h : ∀ ns : List Int, ns.length ≤ n → sem [.list (ns.map .int)] = .ok (.bool true)) :
    ∀ (H : Hp) (a : Addr) (ns : List Int), ns.length ≤ n → SqL K H a (ns.map V.int) → SpV K mg 1 sem [.ref a] H (fun v _ => v = .bl true) fun _ _ _ => False := fun H a ns hl hs => by
  have hv : VdAll K H (ns.map V.int) (ns.map PyData.int) := by
    induction ns with
    | nil => exact .nil
    | cons i r ih =>
      have go : ∀ l : List Int, VdAll K H (l.map V.int) (l.map PyData.int) := fun l => by
        induction l with
        | nil => exact .nil
        | cons a b ih => exact .cons (.int a) ih
      exact go _
  refine ⟨H, _, Same.refl _, .cons (.lst hs (by rw [List.length_map]; omega) hv) .nil, rfl, ?_⟩
  rw [h ns hl]
  intro v H' F' _ hv'
  cases hv'
  rfl
end
end PV
end
section
set_option Elab.async false
set_option linter.all false
set_option maxRecDepth 100000
set_option maxHeartbeats 4000000
namespace PV
open PySem PySem.Spec PySem.Calls PyProof.Rows L2 RT

/-! ### list(reversed(xs)) -/
section
variable {prog : Program} {w : World} {A : Around} {E : Value → Shared → Prop} {s : Shared}
theorem extend_rev {Rz : Result → Shared → Prop} {it l : Addr} {items : Array Value} (hh : A.handled = none) (hit : s.heap.IsRevIter it l ((items.size : Int) - 1)) (hl : s.heap.IsList l items) (hne : l ≠ it) (hn : items.size ≤ sizeLine) (Sd : Addr) (res : Value) (cz : Nat)
    (hS : s.heap.get? Sd = some { cls := .type "list", data := .seq #[] cz }) (hSi : Sd ≠ it) (hSl : Sd ≠ l)
    (hR : ∀ h' tk acc' c', (∀ b o, b ≠ Sd → b ≠ it → s.heap.get? b = some o → h'.get? b = some o) → h'.get? Sd = some { cls := .type "list", dict := none, data := .seq acc' c', slots := #[] } →
      ItemsOf (fun i v => items[items.size - 1 - i]? = some v) acc' items.size → Rz (.ok (.ret res)) { s with heap := h', toks := tk }) :
    wpAny (model prog w) A.in1 (Builtin.List.listExtendWith (.ref Sd) (.ref it) res)
      (fun fin s' => match fin with | .done f => Rz (.ok f) s' | .again c' => c'.quiet = true ∧ codeAny (model prog w) A c' Rz s') (fun e s' => Rz (.error e) s') s := by
  have W := (Walks.listRev (prog := prog) (w := w) (A := A.in1) hh it l hne items).toS
  have hSf : Sd ∉ [it, l] := by simp only [List.mem_cons, List.not_mem_nil, or_false, not_or]; exact ⟨hSi, hSl⟩
  have hT : s.TypeIs (.ref it) "list_reverseiterator" := Heap.IsRevIter.typeIs hit
  have k1 : Builtin.List.listSameRef (.ref Sd) (.ref it) = false := by simp [Builtin.List.listSameRef, hSi]
  unfold Builtin.List.listExtendWith
  refine wpAny_bind (wpAny_typeOf hT ?_)
  rw [if_neg (by rw [k1]; decide)]
  refine wpAny_bind (wpAny_pyIter_revIter hit (wpAny_bind (wpAny_holding ?_)))
  unfold Builtin.List.listLengthHint
  refine wpAny_bind (wpAny_specialOf hT nolen_lri ?_)
  show wpAny _ _ (specialOf (Value.ref it) (Str.ofString "__length_hint__") >>= _) _ _ s
  refine wpAny_bind (wpAny_specialOf hT hint_lri ?_)
  generalize hid : ("list_reverseiterator.__length_hint__" : String) = idz
  wp_delta
  rw [show splitId idz = some ("list_reverseiterator", "__length_hint__") from by subst hid; decide +kernel]
  subst hid
  refine wpAny_bind (wpAny_isInstance (b := true) hT (by rw [isSubtype_type]; kernel_rfl) (wpAny_pure ?_))
  rw [if_neg (by decide)]
  have e0 : ((items.size : Nat) : Int) - 1 - ((0 : Nat) : Int) = (items.size : Int) - 1 := by omega
  refine wpAny_pure ⟨plainId_quiet PySem.F.plain_extend_loop _, codeAny_extend_loopS W hn Sd hSf res items.size 0 _ #[] cz rfl (Nat.zero_le _) ⟨Nat.zero_le _, by rw [e0]; exact hit, hl⟩ hS (ItemsOf.nil _) fun s' acc' c' hm hS' hacc => ?_⟩
  rw [Moved.eq_with hm]
  refine hR s'.heap s'.toks acc' c' (fun b o hb hb2 e => hm.heap b o (fun hmem => ?_) e) hS' hacc
  rcases List.mem_cons.mp hmem with e' | hmem
  · exact hb e'
  · exact hb2 (List.mem_singleton.mp hmem)
theorem call_list_rev {Q : Value → Shared → Prop} {it l : Addr} {items : Array Value} (hh : A.handled = none) (hit : s.heap.IsRevIter it l ((items.size : Int) - 1)) (hl : s.heap.IsList l items) (hne : l ≠ it) (hn : items.size ≤ sizeLine)
    (hQ : ∀ h' tk acc' c', (∀ b o, b ≠ it → s.heap.get? b = some o → h'.get? b = some o) → h'.get? s.heap.objs.size = some { cls := .type "list", dict := none, data := .seq acc' c', slots := #[] } →
      ItemsOf (fun i v => items[items.size - 1 - i]? = some v) acc' items.size → Q (.ref s.heap.objs.size) { s with heap := h', toks := tk }) :
    wpAny (model prog w) A (call (.type "list") [.ref it]) Q E s := by
  refine callType_codes (Q₁ := fun obj sz => obj = .ref s.heap.objs.size ∧ sz = { s with heap := s.heap.push { cls := .type "list", data := .seq #[] } }) PySem.F.called_list (PySem.F.typeCall_list_1 _) PySem.F.entry_list_init
    (code_list_new _ ⟨rfl, rfl⟩) fun obj sz hz => ?_
  obtain ⟨rfl, rfl⟩ := hz
  have hS : (s.heap.push { cls := .type "list", data := .seq #[] }).get? s.heap.objs.size = some { cls := .type "list", data := .seq #[] } := Heap.get?_push_size _ rfl
  obtain ⟨oi, hoi, _⟩ := id hit
  obtain ⟨ol, hol, _⟩ := id hl
  have ni : s.heap.objs.size ≠ it := Nat.ne_of_gt (Heap.lt_size hoi)
  have nl : s.heap.objs.size ≠ l := Nat.ne_of_gt (Heap.lt_size hol)
  refine ⟨⟨_, hS, rfl⟩, PySem.F.args_list_init_2 _ _, ?_⟩
  generalize hSd : s.heap.objs.size = Sd at *
  show wpAny _ _ (do let old ← Builtin.List.listItems (.ref Sd); Builtin.List.listUpdate (.ref Sd) (fun _ => #[]); letGo old.toList.reverse; Builtin.List.listExtendWith (.ref Sd) (.ref it) .none) _ _ _
  refine wpAny_bind ?_
  unfold Builtin.List.listItems
  refine wpAny_bind (wpAny_seqItems hS rfl (wpAny_pure ?_))
  show wpAny _ _ (updateSeq Sd (fun _ => #[]) >>= fun _ => letGo (#[] : Array Value).toList.reverse >>= fun _ => Builtin.List.listExtendWith (.ref Sd) (.ref it) .none) _ _ _
  refine wpAny_bind (wpAny_updateSeq hS rfl ?_)
  have hS2 := Heap.get?_update_self (Obj.mapSeq (fun _ => (#[] : Array Value))) hS rfl
  have oth : ∀ b o, b ≠ Sd → (s.heap.push { cls := .type "list", data := .seq #[] }).get? b = some o → ((s.heap.push { cls := .type "list", data := .seq #[] }).update Sd (Obj.mapSeq (fun _ => (#[] : Array Value)))).get? b = some o :=
    fun b o hb e => (Heap.get?_update_other _ _ (Ne.symm hb)).trans e
  refine wpAny_bind (wpAny_letGo ?_)
  refine extend_rev (A := A.in1) hh (hit.at fun o e => oth _ _ (Ne.symm ni) (Heap.get?_push_of_some _ e)) ?_ hne hn Sd .none _ hS2 ni nl fun h' tk acc' c' hk hS' hacc => ?_
  · obtain ⟨o, ho, r⟩ := hl
    exact ⟨o, oth _ _ (Ne.symm nl) (Heap.get?_push_of_some _ ho), r⟩
  · exact ⟨rfl, hQ h' tk acc' c' (fun b o hb e => hk b o (by rw [← hSd]; exact Nat.ne_of_lt (Heap.lt_size e)) hb (oth b o (by rw [← hSd]; exact Nat.ne_of_lt (Heap.lt_size e)) (Heap.get?_push_of_some _ e))) hS' hacc⟩
end
section
variable {X : Cx} {P : Pm} {pos p pos2 p2 : Pos} {e : Expr} {fe : Evn → RE PyData}
def pRevL : PyData → RE (List PyData)
  | .list ds => .ok ds.reverse
  | _ => .bad
theorem vf_listrev (hg : Gl X "list") (hm : X.mg "list" = none) (hg2 : Gl X "reversed") (hm2 : X.mg "reversed" = none) (he : VE X P e fe) (hc : X.calm = true := by rfl)
    (hs : starEach [e] X.env = (false, eval e X.env) :: starEach [] X.env := by rfl)
    (hs2 : starEach [.Call (.Name "reversed" p2) [e] [] pos2] X.env = (false, eval (.Call (.Name "reversed" p2) [e] [] pos2) X.env) :: starEach [] X.env := by rfl) :
    VF X P (.Call (.Name "list" p) [.Call (.Name "reversed" p2) [e] [] pos2] [] pos) (mBind fe pRevL) := by
  have key : PE X (.Call (.Name "list" p) [.Call (.Name "reversed" p2) [e] [] pos2] [] pos) (fun σ H Q => tV X P fe σ H fun v H1 => ∃ (a : Addr) (xs : List V), v = .ref a ∧ SqL X.K H1 a xs ∧ ∀ q, H1 q = none → Q (.ref q) (upd H1 q (.lst xs.reverse))) := by
    refine ⟨fun pins s σ H Q I h => ?_⟩
    refine Call_ (ld_blt I hg hm (show bootBuiltins "list" = some (.type "list") by decide +kernel) (PyProof.Rows.callWith_type1 (args_cons (Call_ (ld_blt I hg2 hm2 PyProof.Rows.boot_reversed (PyProof.Rows.callWith_type1 (args_cons (thn (PE.run he pins s σ H _ I h) fun u s1 ⟨v, H1, I1, r1, q1⟩ => args_nil ?_) hs) hs rfl))) hs2) hs2 rfl))
    obtain ⟨a, xs, ev, hq, q⟩ := q1
    subst ev
    cases (show u = Value.ref a from r1)
    obtain ⟨its, rv, pl, hz⟩ := I1.list hq
    refine call_reversed_list pl.isList (args_nil ?_)
    have k0 : ∀ b o, s1.heap.get? b = some o → (s1.heap.push (revObj a ((its.toArray.size : Int) - 1))).get? b = some o := fun b o e => Heap.get?_push_of_some _ e
    have hl := pl.isList
    obtain ⟨ol, hol, _⟩ := id hl
    have hne : a ≠ s1.heap.objs.size := Nat.ne_of_lt (Heap.lt_size hol)
    have hn : its.toArray.size ≤ sizeLine := by rw [List.size_toArray, ← rv.length]; exact hz
    refine call_list_rev (s := { s1 with heap := s1.heap.push (revObj a ((its.toArray.size : Int) - 1)) }) (I1.ok.hd hc) ⟨_, Heap.get?_push_size _ rfl, rfl, rfl⟩ (hl.push _) hne hn fun h' tk acc c' hk hS hi => ?_
    have hsz : (s1.heap.push (revObj a ((its.toArray.size : Int) - 1))).objs.size = s1.heap.objs.size + 1 := Heap.size_push _ _
    have hN : H1 (s1.heap.objs.size + 1) = none := I1.hok.fresh (Nat.le_succ _)
    rw [hsz] at hS
    have J := I1.laid (a := s1.heap.objs.size + 1) (o := .lst xs.reverse) (t' := tk) (fun b o e => hk b o (Nat.ne_of_lt (Heap.lt_size e)) (k0 b o e)) (Nat.le_succ _)
      (show ObjOk X.prog X.w _ h' _ (.lst xs.reverse) from ⟨by rw [List.length_reverse]; exact hz, acc.toList, c', vals_rev rv hi, by rw [Array.toArray_toList]; exact hS⟩)
    show EP X pins σ Q (.ref (s1.heap.push (revObj a ((its.toArray.size : Int) - 1))).objs.size) _
    rw [hsz]
    exact ⟨.ref (s1.heap.objs.size + 1), _, J, rfl, q _ hN⟩
  refine PE_mono key fun σ H Q h => ?_
  obtain ⟨ρ, F, hR, h⟩ := h
  refine OutF.first hR h fun d v F1 H1 e1 hv R1 h1 => ?_
  cases hv with
  | lst hs hz ha => exact ⟨_, _, rfl, R1.fh.seq hs, OutF.new R1.fh h1 (by rw [List.length_reverse]; exact hz) ha.reverse⟩
  | _ => exact h1.elim
end
end PV
end
section
set_option Elab.async false
set_option linter.all false
set_option maxRecDepth 100000
set_option maxHeartbeats 4000000
namespace PV
open PySem PySem.Spec PySem.Calls PyProof.Rows L2

/-! ### in -/
def inOk (d : PyData) (ds : List PyData) : Prop := d.depth ≤ 60 ∨ PyData.depthAll ds ≤ 60
instance (d : PyData) (ds : List PyData) : Decidable (inOk d ds) := by unfold inOk; exact inferInstance
def inD (d : PyData) (ds : List PyData) : Bool := ds.any fun y => PyData.eqv y d
def pIn : PyData → PyData → Option PyData
  | d, .list ds => if inOk d ds then some (.bool (inD d ds)) else none
  | d, .tuple ds => if inOk d ds then some (.bool (inD d ds)) else none
  | .str i, .str j => some (.bool (!(Builtin.Str.occurrences j i 0 j.length 1).isEmpty))
  | _, _ => none
def pNotIn : PyData → PyData → Option PyData
  | d, .list ds => if inOk d ds then some (.bool (!inD d ds)) else none
  | d, .tuple ds => if inOk d ds then some (.bool (!inD d ds)) else none
  | .str i, .str j => some (.bool (!!(Builtin.Str.occurrences j i 0 j.length 1).isEmpty))
  | _, _ => none
section
variable {X : Cx}
theorem opv_in {k : Nat} (hr : Room k X.A) : OpV X (compareOp .In) pIn := by
  intro pins s σ H x y v u Q I rx ry F d e r sf hx hy hg hq
  have hu := hr.units
  have hun := hr.un
  have hx' := Vd.dp d x (Vd.mono sf d x hx)
  have hy' := Vd.dp e y (Vd.mono sf e y hy)
  obtain ⟨as, r1⟩ := Dp.reads I d x v hx'.1 rx
  obtain ⟨bs, r2⟩ := Dp.reads I e y u hy'.1 ry
  unfold pIn at hg
  split at hg
  · obtain ⟨hp, rfl⟩ := some_of_if hg
    exact SeqAt.in_list_reads r2 r1 (by simpa only [PyData.canLay0] using hy'.2) hx'.2 (by rcases hp with h | h <;> omega) ⟨.bl _, H, I, rfl, hq _ _ F (Ext.refl sf) (.bl _)⟩
  · obtain ⟨hp, rfl⟩ := some_of_if hg
    exact SeqAt.in_tuple_reads r2 r1 (by simpa only [PyData.canLay0] using hy'.2) hx'.2 (by rcases hp with h | h <;> omega) ⟨.bl _, H, I, rfl, hq _ _ F (Ext.refl sf) (.bl _)⟩
  · cases hg
    cases hx
    cases hy
    exact op_in_str pins s σ H _ _ v u Q I rx ry ⟨_, _, rfl, rfl, hq _ _ F (Ext.refl sf) (.bl _)⟩
  · cases hg
theorem opv_notin {k : Nat} (hr : Room k X.A) : OpV X (compareOp .NotIn) pNotIn := by
  intro pins s σ H x y v u Q I rx ry F d e r sf hx hy hg hq
  have hu := hr.units
  have hun := hr.un
  have hx' := Vd.dp d x (Vd.mono sf d x hx)
  have hy' := Vd.dp e y (Vd.mono sf e y hy)
  obtain ⟨as, r1⟩ := Dp.reads I d x v hx'.1 rx
  obtain ⟨bs, r2⟩ := Dp.reads I e y u hy'.1 ry
  unfold pNotIn at hg
  split at hg
  · obtain ⟨hp, rfl⟩ := some_of_if hg
    exact SeqAt.notIn_list_reads r2 r1 (by simpa only [PyData.canLay0] using hy'.2) hx'.2 (by rcases hp with h | h <;> omega) ⟨.bl _, H, I, rfl, hq _ _ F (Ext.refl sf) (.bl _)⟩
  · obtain ⟨hp, rfl⟩ := some_of_if hg
    exact SeqAt.notIn_tuple_reads r2 r1 (by simpa only [PyData.canLay0] using hy'.2) hx'.2 (by rcases hp with h | h <;> omega) ⟨.bl _, H, I, rfl, hq _ _ F (Ext.refl sf) (.bl _)⟩
  · cases hg
    cases hx
    cases hy
    exact op_notin_str pins s σ H _ _ v u Q I rx ry ⟨_, _, rfl, rfl, hq _ _ F (Ext.refl sf) (.bl _)⟩
  · cases hg
end

/-! ### sorted -/
/-- the order of alike data -/
def leD (a b : PyData) : Bool := !PySem.W.dataLt b a
def sortOk (ds : List PyData) : Prop := PySem.W.AllAlike ds ∧ PySem.W.Sortable ds ∧ ∀ d ∈ ds, d.depth ≤ 60
open Classical in
noncomputable def bSorted : List PyData → Option PyData
  | [.list ds] => if sortOk ds then some (.list (ds.mergeSort leD)) else none
  | [.tuple ds] => none
  | _ => none
section
variable {X : Cx}
theorem vals_each : ∀ {xs : List V} {us : List Value} {ds : List PyData} {F : Hp}, Vals xs us → VdAll X.K F xs ds → PySem.W.EachIs (fun (v : Value) (b : V × PyData) => RelV b.1 v ∧ Vd X.K F b.1 b.2) us (xs.zip ds)
  | _, _, _, _, .nil, .nil => .nil
  | _, _, _, _, .cons r t, .cons h t' => .cons ⟨r, h⟩ (vals_each t t')
theorem each_vals {F : Hp} : ∀ {us : List Value} {zs : List (V × PyData)}, PySem.W.EachIs (fun (v : Value) (b : V × PyData) => RelV b.1 v ∧ Vd X.K F b.1 b.2) us zs → Vals (zs.map (·.1)) us ∧ VdAll X.K F (zs.map (·.1)) (zs.map (·.2))
  | _, _, .nil => ⟨.nil, .nil⟩
  | _, _, .cons r t => ⟨.cons r.1 (each_vals t).1, .cons r.2 (each_vals t).2⟩
theorem zip_snd {F : Hp} : ∀ {xs : List V} {ds : List PyData}, VdAll X.K F xs ds → (xs.zip ds).map (·.2) = ds
  | _, _, .nil => rfl
  | _, _, .cons _ t => by rw [List.zip_cons_cons, List.map_cons, zip_snd t]
theorem cb_sorted {k : Nat} (hr : Room k X.A) : CallR X (.builtin "sorted") (rCV X bSorted) := by
  intro pins s σ H xs us Q I r h
  obtain ⟨F, ds, d, sf, hv, hg, hq⟩ := h
  unfold bSorted at hg
  split at hg
  · rename_i es
    by_cases hp : sortOk es
    case neg => rw [if_neg hp] at hg; cases hg
    rw [if_pos hp] at hg
    cases hg
    obtain ⟨v, rfl, h1⟩ := vd1 hv
    cases h1 with
    | @lst a ys _ hs hz ha =>
      rw [Vals.ref1 r]
      obtain ⟨its, rv, hl, hz'⟩ := I.list (sf.seq hs)
      have hmap : (ys.zip es).map (fun b : V × PyData => b.2) = es := zip_snd ha
      have hun := hr.un
      have ev := vals_each rv ha
      have hlen : (ys.zip es).length = es.length := by rw [← hmap, List.length_map, hmap]
      refine PySem.W.sorted_data (β := V × PyData) (enc := fun b => b.2) (vs := its) (bs := ys.zip es) hl.isList ev ?_ (by rw [hmap]; exact hp.1) (by rw [hmap]; exact hp.2.1) (by rw [hlen, ← ha.length]; exact hz) (fun b hb => ?_) fun out ho eo => ?_
      · refine ev.mono fun u b ⟨q1, q2⟩ => ?_
        exact Dp.reads I b.2 b.1 u (Vd.dp b.2 b.1 (Vd.mono sf b.2 b.1 q2)).1 q1
      · have hm : b.2 ∈ es := by rw [← hmap]; exact List.mem_map.mpr ⟨b, hb, rfl⟩
        have := hp.2.2 b.2 hm
        omega
      · obtain ⟨k1, k2⟩ := each_vals eo
        obtain ⟨ep, he'⟩ := PyProof.Rows.sortedAll_at s.heap its out.toArray
        have hsort : ((ys.zip es).mergeSort (PySem.W.dataLe false fun b : V × PyData => b.2)).map (·.2) = es.mergeSort leD := by
          have := PySem.W.sort_maps (r := PySem.W.dataLe false fun b : V × PyData => b.2) (s := leD) (fun b : V × PyData => b.2) (l := ys.zip es) fun a _ b _ => rfl
          rw [this, hmap]
        have hz2 : (((ys.zip es).mergeSort (PySem.W.dataLe false fun b : V × PyData => b.2)).map (·.1)).length ≤ sizeLine := by
          rw [List.length_map, List.length_mergeSort, hlen, ← ha.length]; exact hz
        rw [hsort] at k2
        refine ⟨.ref _, upd H (s.heap.objs.size + 1) (.lst _), I.laid (t' := s.toks) (fun _ _ => PyProof.Rows.sortedAll_old) (Nat.le_succ _) ⟨hz2, out, ep, k1, he'⟩, rfl, ?_⟩
        exact new_lst sf hz2 k2 hq _ (I.hok.fresh (Nat.le_succ _))
  · cases hg
  · cases hg
end
/-- the law's end, what may be let out hanging on the world -/
theorem walk_world {l : PySem.W.OpenLaw} {n k : Nat} {q : Program} {loose : List Str} {XP : (Str → Option Value) → Heap → Prop} {YP : World → Heap → Prop} {dr : DefRec} {x : Str} (hn : l.most = some n) (hn2 : n ≤ sizeLine) (hdf : dr.params.defaults = []) (hr : Room k callerA)
    (Fz : ∀ (w : World) (mg : Str → Option Value) (fa : Addr) (h : Heap), YP w h → h.Ns mainGlobals mg → mg dr.name = some (.ref fa) →
      ∃ (K : PySem.W.Frag) (fd : FuncData) (sp : Sp), K.In h ∧ (∀ (s : Shared) (u : Value), BindsTo s fd ⟨[u], []⟩ [(x, u)]) ∧
        (∀ (H : Hp) (a : Addr) (ns : List Int), ns.length ≤ n → SqL K H a (ns.map V.int) → sp [.ref a] H (fun v _ => v = .bl true) fun _ _ _ => False) ∧
        ∀ base : Heap, K.In base → base.Ns mainGlobals mg → FnOk l.prog w K mg base (L2.CX l.prog w) k fa fd [x] sp) :
    PySem.W.WalkO q loose XP YP l.row.toRowW dr [] (fun f vs => PySem.call f vs) := by
  refine Att.attach_call hn hdf fun w s₀ s₁ mg mb fa o pm cd doc a vs ns G Y ho hd hcd hmg hobj hints hlen hg => ?_
  obtain ⟨K, fd, sp, KX, hb, hsp, hF⟩ := Fz w mg fa _ Y G.T.g hmg
  refine law_call KX G.T.g G.T.b G.T.builtins G.T.nolimit hg hobj hints (Nat.le_trans hlen hn2) hr hF hb (fun H _ hS => hsp H a ns hlen hS) fun H e s' z => ?_
  obtain ⟨_, _, _, _, _, _, _, _, _, _, _, _, z⟩ := z
  exact z.elim
end PV
end
section
set_option Elab.async false
set_option linter.all false
set_option maxRecDepth 100000
set_option maxHeartbeats 4000000
namespace PV
open PySem

/-! ### meanings, reckoned -/
theorem nr {α : Sort _} {a b : α} (h : a = b) : a = b := h
@[simp] theorem bind_ok {ε α β : Type} (a : α) (f : α → R ε β) : R.bind (.ok a) f = f a := nr rfl
@[simp] theorem bind_bad {ε α β : Type} (f : α → R ε β) : R.bind (.bad) f = .bad := nr rfl
@[simp] theorem bind_exc {ε α β : Type} (c : Str) (e : ε) (f : α → R ε β) : R.bind (.exc c e) f = .exc c e := nr rfl
@[simp] theorem at_ok {α : Type} (a : α) (ρ : Evn) : R.at (.ok a : RE α) ρ = .ok a := nr rfl
@[simp] theorem at_exc {α : Type} (c : Str) (u : Unit) (ρ : Evn) : R.at (.exc c u : RE α) ρ = .exc c ρ := nr rfl
@[simp] theorem ofO_some {α : Type} (a : α) : ofO (some a) = .ok a := nr rfl
@[simp] theorem oS_some {α : Type} (a : α) : oS (some a) = .ok a := nr rfl
@[simp] theorem nox_okk {α : Type} (a : α) : nox (.ok a : RE α) = .ok a := nr rfl
/-- a name's datum -/
def gtE : Evn → Nat → RE PyData
  | [], _ => .bad
  | some (.val d) :: _, 0 => .ok d
  | some (.own _) :: _, 0 => .bad
  | some (.exn _) :: _, 0 => .bad
  | some (.dic _) :: _, 0 => .bad
  | none :: _, 0 => .bad
  | _ :: r, n + 1 => gtE r n
/-- a list of one's own -/
def gtO : Evn → Nat → Option (List PyData)
  | [], _ => none
  | some (.val _) :: _, 0 => none
  | some (.own ds) :: _, 0 => some ds
  | some (.exn _) :: _, 0 => none
  | some (.dic _) :: _, 0 => none
  | none :: _, 0 => none
  | _ :: r, n + 1 => gtO r n
/-- either -/
def gtA : Evn → Nat → RE PyData
  | [], _ => .bad
  | some (.val d) :: _, 0 => .ok d
  | some (.own ds) :: _, 0 => .ok (.list ds)
  | some (.exn _) :: _, 0 => .bad
  | some (.dic _) :: _, 0 => .bad
  | none :: _, 0 => .bad
  | _ :: r, n + 1 => gtA r n
/-- put in -/
def stE : Evn → Nat → Cel → Evn
  | [], _, _ => []
  | _ :: r, 0, x => some x :: r
  | o :: r, n + 1, x => o :: stE r n x
/-- made empty -/
def clE : Evn → Nat → Evn
  | [], _ => []
  | _ :: r, 0 => none :: r
  | o :: r, n + 1 => o :: clE r n
/-- frozen -/
def fzE : Evn → Nat → Evn
  | [], _ => []
  | some (.own ds) :: r, 0 => some (.val (.list ds)) :: r
  | some (.val d) :: r, 0 => some (.val d) :: r
  | some (.exn c) :: r, 0 => some (.exn c) :: r
  | some (.dic c) :: r, 0 => some (.dic c) :: r
  | none :: r, 0 => none :: r
  | o :: r, n + 1 => o :: fzE r n
@[simp] theorem g_v (d : PyData) (r : Evn) : gtE (some (.val d) :: r) 0 = .ok d := nr rfl
@[simp] theorem g_s (o : Option Cel) (r : Evn) (n : Nat) : gtE (o :: r) (n + 1) = gtE r n := by cases o with
  | none => rfl
  | some c => cases c <;> rfl
@[simp] theorem go_v (ds : List PyData) (r : Evn) : gtO (some (.own ds) :: r) 0 = some ds := nr rfl
@[simp] theorem go_s (o : Option Cel) (r : Evn) (n : Nat) : gtO (o :: r) (n + 1) = gtO r n := by cases o with
  | none => rfl
  | some c => cases c <;> rfl
@[simp] theorem ga_v (d : PyData) (r : Evn) : gtA (some (.val d) :: r) 0 = .ok d := nr rfl
@[simp] theorem ga_o (ds : List PyData) (r : Evn) : gtA (some (.own ds) :: r) 0 = .ok (.list ds) := nr rfl
@[simp] theorem ga_s (o : Option Cel) (r : Evn) (n : Nat) : gtA (o :: r) (n + 1) = gtA r n := by cases o with
  | none => rfl
  | some c => cases c <;> rfl
@[simp] theorem s_z (o : Option Cel) (r : Evn) (x : Cel) : stE (o :: r) 0 x = some x :: r := nr rfl
@[simp] theorem s_s (o : Option Cel) (r : Evn) (n : Nat) (x : Cel) : stE (o :: r) (n + 1) x = o :: stE r n x := nr rfl
@[simp] theorem c_z (o : Option Cel) (r : Evn) : clE (o :: r) 0 = none :: r := nr rfl
@[simp] theorem c_s (o : Option Cel) (r : Evn) (n : Nat) : clE (o :: r) (n + 1) = o :: clE r n := nr rfl
theorem set_clE : ∀ (ρ : Evn) (i : Nat), ρ.set i none = clE ρ i
  | [], _ => rfl
  | _ :: _, 0 => rfl
  | o :: r, n + 1 => by rw [List.set_cons_succ, set_clE r n]; rfl
@[simp] theorem fz_o (ds : List PyData) (r : Evn) : fzE (some (.own ds) :: r) 0 = some (.val (.list ds)) :: r := nr rfl
@[simp] theorem fz_v (d : PyData) (r : Evn) : fzE (some (.val d) :: r) 0 = some (.val d) :: r := nr rfl
@[simp] theorem fz_s (o : Option Cel) (r : Evn) (n : Nat) : fzE (o :: r) (n + 1) = o :: fzE r n := by cases o with
  | none => rfl
  | some c => cases c <;> rfl
theorem set_stE : ∀ (ρ : Evn) (i : Nat) (x : Cel), ρ.set i (some x) = stE ρ i x
  | [], _, _ => rfl
  | _ :: _, 0, _ => rfl
  | o :: r, n + 1, x => by rw [List.set_cons_succ, set_stE r n x]; rfl
@[simp] theorem e_mGet (i : Nat) (ρ : Evn) : mGet i ρ = gtE ρ i := by
  unfold mGet
  induction ρ generalizing i with
  | nil => rfl
  | cons o r ih => cases i with
    | zero => rcases o with _ | ⟨_ | _ | _⟩ <;> rfl
    | succ n => rw [List.getElem?_cons_succ, g_s]; exact ih n
theorem ownAt_gtO (i : Nat) (ρ : Evn) : ownAt i ρ = gtO ρ i := by
  unfold ownAt
  induction ρ generalizing i with
  | nil => rfl
  | cons o r ih => cases i with
    | zero => rcases o with _ | ⟨_ | _ | _⟩ <;> rfl
    | succ n => rw [List.getElem?_cons_succ, go_s]; exact ih n
theorem fz_eq (i : Nat) (ρ : Evn) : freeze i ρ = fzE ρ i := by
  unfold freeze
  induction ρ generalizing i with
  | nil => rfl
  | cons o r ih => cases i with
    | zero => rcases o with _ | ⟨_ | _ | _⟩ <;> rfl
    | succ n =>
      rw [List.getElem?_cons_succ, fz_s]
      rw [← ih n]
      cases r[n]? with
      | none => rfl
      | some o => rcases o with _ | ⟨_ | _ | _⟩ <;> rfl
@[simp] theorem e_mC (d : PyData) (ρ : Evn) : mC d ρ = .ok d := nr rfl
@[simp] theorem e_m2 (g : PyData → PyData → Option PyData) (fa fb : Evn → RE PyData) (ρ : Evn) : m2 g fa fb ρ = (fa ρ).bind fun x => (fb ρ).bind fun y => ofO (g x y) := nr rfl
@[simp] theorem e_m1 (g : PyData → Option PyData) (fa : Evn → RE PyData) (ρ : Evn) : m1 g fa ρ = (fa ρ).bind fun d => ofO (g d) := nr rfl
@[simp] theorem e_mT (f : Evn → RE PyData) (ρ : Evn) : mT f ρ = (f ρ).bind fun d => ofO (truth d) := nr rfl
@[simp] theorem e_mB (f : Evn → RE PyData) (ρ : Evn) : mB f ρ = (f ρ).bind fun d => ofO (toB d) := nr rfl
@[simp] theorem e_mAndB (fa fb : Evn → RE Bool) (ρ : Evn) : mAndB fa fb ρ = (fa ρ).bind fun c => if c then fb ρ else .ok false := nr rfl
@[simp] theorem e_mOrB (fa fb : Evn → RE Bool) (ρ : Evn) : mOrB fa fb ρ = (fa ρ).bind fun c => if c then .ok true else fb ρ := nr rfl
@[simp] theorem e_mNotB (fa : Evn → RE Bool) (ρ : Evn) : mNotB fa ρ = (fa ρ).bind fun c => .ok (!c) := nr rfl
@[simp] theorem e_mAnd (fa fb : Evn → RE PyData) (ρ : Evn) : mAnd fa fb ρ = (fa ρ).bind fun d => (ofO (toB d)).bind fun c => if c then fb ρ else .ok (.bool false) := nr rfl
@[simp] theorem e_mOr (fa fb : Evn → RE PyData) (ρ : Evn) : mOr fa fb ρ = (fa ρ).bind fun d => (ofO (toB d)).bind fun c => if c then .ok (.bool true) else fb ρ := nr rfl
@[simp] theorem e_mIf (fc : Evn → RE Bool) (fa fb : Evn → RE PyData) (ρ : Evn) : mIf fc fa fb ρ = (fc ρ).bind fun c => if c then fa ρ else fb ρ := nr rfl
@[simp] theorem e_mChain (g g' : PyData → PyData → Option PyData) (fa fb fc : Evn → RE PyData) (ρ : Evn) : mChain g g' fa fb fc ρ =
  (fa ρ).bind fun x => (fb ρ).bind fun y => (ofO (g x y)).bind fun z => (ofO (toB z)).bind fun k => if k then (fc ρ).bind fun w => ofO (g' y w) else .ok (.bool false) := nr rfl
@[simp] theorem e_mNil (ρ : Evn) : mNil ρ = .ok [] := nr rfl
@[simp] theorem e_mCons (f : Evn → RE PyData) (g : Evn → RE (List PyData)) (ρ : Evn) : mCons f g ρ = (f ρ).bind fun d => (g ρ).bind fun ds => .ok (d :: ds) := nr rfl
@[simp] theorem e_mSeq (k : List PyData → RE PyData) (g : Evn → RE (List PyData)) (ρ : Evn) : mSeq k g ρ = (g ρ).bind k := nr rfl
@[simp] theorem e_mCall (g : List PyData → Option PyData) (fa : Evn → RE (List PyData)) (ρ : Evn) : mCall g fa ρ = (fa ρ).bind fun ds => ofO (g ds) := nr rfl
@[simp] theorem e_mNo (ρ : Evn) : mNo ρ = .ok none := nr rfl
@[simp] theorem e_mPart (f : Evn → RE PyData) (ρ : Evn) : mPart f ρ = (f ρ).bind fun d => (ofO (toI d)).bind fun i => .ok (some i) := nr rfl
@[simp] theorem e_mCut (f : Evn → RE PyData) (l h : Evn → RE (Option Int)) (ρ : Evn) : mCut f l h ρ = (f ρ).bind fun d => (l ρ).bind fun lo => (h ρ).bind fun hi => ofO (pCut d lo hi) := nr rfl
@[simp] theorem e_mIs (T : Ty) (f : Evn → RE PyData) (ρ : Evn) : mIs T f ρ = (f ρ).bind fun d => .ok (.bool (isTy T d)) := nr rfl
@[simp] theorem e_mIs2 (T U : Ty) (f : Evn → RE PyData) (ρ : Evn) : mIs2 T U f ρ = (f ρ).bind fun d => .ok (.bool (isTy T d || isTy U d)) := nr rfl
@[simp] theorem e_mL (f : Evn → RE (List PyData)) (ρ : Evn) : mL f ρ = (f ρ).bind fun ds => .ok (.list ds) := nr rfl
@[simp] theorem e_mDsp (g : Evn → RE (List PyData)) (ρ : Evn) : mDsp g ρ = (g ρ).bind fun ds => if ds.length ≤ sizeLine then .ok ds else .bad := nr rfl
@[simp] theorem e_mRep (g : Evn → RE (List PyData)) (f : Evn → RE PyData) (ρ : Evn) : mRep g f ρ = (mDsp g ρ).bind fun ds => (f ρ).bind (pRep ds) := nr rfl
@[simp] theorem e_mBind (f : Evn → RE PyData) (k : PyData → RE (List PyData)) (ρ : Evn) : mBind f k ρ = (f ρ).bind k := nr rfl
@[simp] theorem e_mIxO (i : Nat) (fk : Evn → RE PyData) (ρ : Evn) : mIxO i fk ρ = (gtA ρ i).bind fun d => (fk ρ).bind fun k => ofO (pIdx d k) := by
  unfold mIxO
  have : ∀ (ρ : Evn) (i : Nat) (fk : RE PyData), (match ρ[i]? with | some (some (.own ds)) => fk.bind fun k => ofO (pIdx (.list ds) k) | some (some (.val d)) => fk.bind fun k => ofO (pIdx d k) | _ => (.bad : RE PyData)) = (gtA ρ i).bind fun d => fk.bind fun k => ofO (pIdx d k) := by
    intro ρ
    induction ρ with
    | nil => intro i fk; rfl
    | cons o r ih => intro i fk; cases i with
      | zero => rcases o with _ | ⟨_ | _ | _⟩ <;> rfl
      | succ n => rw [List.getElem?_cons_succ, ga_s]; exact ih n fk
  exact this ρ i (fk ρ)
@[simp] theorem e_mBor (i : Nat) (f : Evn → RE PyData) (ρ : Evn) : mBor i f ρ = (f (freeze i ρ)).bind fun d => if scal d then .ok d else .bad := nr rfl
@[simp] theorem e_mBorB (i : Nat) (f : Evn → RE Bool) (ρ : Evn) : mBorB i f ρ = f (freeze i ρ) := nr rfl
@[simp] theorem e_mItems (f : Evn → RE PyData) (ρ : Evn) : mItems f ρ = (f ρ).bind fun d => ofO (itemsOf d) := nr rfl
@[simp] theorem e_mWk (g : List PyData → Option (List PyData)) (fa : Evn → RE (List PyData)) (ρ : Evn) : mWk g fa ρ = (fa ρ).bind fun ds => ofO (g ds) := nr rfl
@[simp] theorem e_mRev (f : Evn → RE PyData) (ρ : Evn) : mRev f ρ = (f ρ).bind fun d => ofO (rev1 d) := nr rfl
@[simp] theorem e_mYes (ρ : Evn) : mYes ρ = .ok true := nr rfl
@[simp] theorem e_mLc (g : Evn → RE (List PyData)) (m : PyData → Evn → Option Evn) (t : Evn → RE Bool) (e : Evn → RE PyData) (vs : List Nat) (ρ : Evn) : mLc g m t e vs ρ = (g ρ).bind fun ds => if ds.length ≤ sizeLine then lcM m t e (wipeE ρ vs) ds else .bad := nr rfl
@[simp] theorem e_gN (i : Nat) (d : PyData) (ρ : Evn) : gN i d ρ = some (stE ρ i (.val d)) := by rw [← set_stE]; rfl
@[simp] theorem e_gE (ρ : Evn) : gE [] ρ = some ρ := nr rfl
@[simp] theorem e_gC (m : PyData → Evn → Option Evn) (ms : List PyData → Evn → Option Evn) (d : PyData) (r : List PyData) (ρ : Evn) : gC m ms (d :: r) ρ = (m d ρ).bind (ms r) := nr rfl
@[simp] theorem e_gTt (n : Nat) (ms : List PyData → Evn → Option Evn) (ds : List PyData) (ρ : Evn) : gT n ms (.tuple ds) ρ = if ds.length = n then ms ds ρ else none := nr rfl
@[simp] theorem e_gTl (n : Nat) (ms : List PyData → Evn → Option Evn) (ds : List PyData) (ρ : Evn) : gT n ms (.list ds) ρ = if ds.length = n then ms ds ρ else none := nr rfl
@[simp] theorem e_sNx (ρ : Evn) : sNx ρ = .ok (.nx, ρ) := nr rfl
@[simp] theorem e_sThen (f g : Evn → RS) (ρ : Evn) : sThen f g ρ = (f ρ).bind fun p => match p.1 with | .nx => g p.2 | _ => .ok p := nr rfl
@[simp] theorem e_sDrop (f : Evn → RE PyData) (ρ : Evn) : sDrop f ρ = ((f ρ).at ρ).bind fun _ => .ok (.nx, ρ) := nr rfl
@[simp] theorem e_sRet (f : Evn → RE PyData) (ρ : Evn) : sRet f ρ = ((f ρ).at ρ).bind fun d => .ok (.rt d, ρ) := nr rfl
@[simp] theorem e_sSet (i : Nat) (f : Evn → RE PyData) (ρ : Evn) : sSet i f ρ = ((f ρ).at ρ).bind fun d => .ok (.nx, stE ρ i (.val d)) := by simp only [← set_stE]; rfl
@[simp] theorem e_sIf (c : Evn → RE Bool) (f g : Evn → RS) (ρ : Evn) : sIf c f g ρ = ((c ρ).at ρ).bind fun b => if b then f ρ else g ρ := nr rfl
@[simp] theorem e_sFor (g : Evn → RE (List PyData)) (m : PyData → Evn → Option Evn) (body : Evn → RS) (ρ : Evn) : sFor g m body ρ = ((g ρ).at ρ).bind fun ds => forM m body ds ρ := nr rfl
@[simp] theorem e_sAsg (f : Evn → RE PyData) (m : PyData → Evn → Option Evn) (ρ : Evn) : sAsg f m ρ = ((f ρ).at ρ).bind fun d => (oS (m d ρ)).bind fun ρ' => .ok (.nx, ρ') := nr rfl
@[simp] theorem e_sPar (i j : Nat) (fa : Evn → RE (List PyData)) (ρ : Evn) : sPar i j fa ρ = ((fa ρ).at ρ).bind fun ds => match ds with
  | [d, e] => .ok (.nx, stE (stE ρ i (.val d)) j (.val e))
  | _ => .bad := by simp only [← set_stE]; rfl
@[simp] theorem e_sSetO (i : Nat) (f : Evn → RE (List PyData)) (ρ : Evn) : sSetO i f ρ = ((f ρ).at ρ).bind fun ds => .ok (.nx, stE ρ i (.own ds)) := by simp only [← set_stE]; rfl
@[simp] theorem e_sSetL (i : Nat) (f : Evn → RE (List PyData)) (ρ : Evn) : sSetL i f ρ = ((f ρ).at ρ).bind fun ds => .ok (.nx, stE ρ i (.val (.list ds))) := by simp only [← set_stE]; rfl
@[simp] theorem e_ownAt (i : Nat) (ρ : Evn) : ownAt i ρ = gtO ρ i := ownAt_gtO i ρ
@[simp] theorem e_freeze (i : Nat) (ρ : Evn) : freeze i ρ = fzE ρ i := fz_eq i ρ
@[simp] theorem e_sApp (i : Nat) (f : Evn → RE PyData) (ρ : Evn) : sApp i f ρ = (oS (gtO ρ i)).bind fun ds => ((f ρ).at ρ).bind fun d => if ds.length < sizeLine then .ok (.nx, stE ρ i (.own (ds ++ [d]))) else .bad := by
  rw [← ownAt_gtO]; simp only [← set_stE]; unfold sApp; cases ownAt i ρ <;> rfl
@[simp] theorem e_sSetIx (i : Nat) (fk fe : Evn → RE PyData) (ρ : Evn) : sSetIx i fk fe ρ = (oS (gtO ρ i)).bind fun ds => ((fe ρ).at ρ).bind fun d => ((fk ρ).at ρ).bind fun k => (oS (setD ds k d)).bind fun es => .ok (.nx, stE ρ i (.own es)) := by
  rw [← ownAt_gtO]; simp only [← set_stE]; unfold sSetIx; cases ownAt i ρ <;> rfl
@[simp] theorem e_sAugIx (i : Nat) (fk : Evn → RE PyData) (f : Int → Int → Int) (fe : Evn → RE PyData) (ρ : Evn) : sAugIx i fk f fe ρ = (oS (gtO ρ i)).bind fun ds => ((fk ρ).at ρ).bind fun k => (oS (pIdx (.list ds) k)).bind fun old => ((fe ρ).at ρ).bind fun d => (oS ((iOp f old d).bind (setD ds k))).bind fun es => .ok (.nx, stE ρ i (.own es)) := by
  rw [← ownAt_gtO]; simp only [← set_stE]; unfold sAugIx; cases ownAt i ρ <;> rfl
@[simp] theorem e_sAug (i : Nat) (g : PyData → PyData → Option PyData) (f : Evn → RE PyData) (ρ : Evn) : sAug i g f ρ = ((gtE ρ i).at ρ).bind fun d => ((f ρ).at ρ).bind fun e => (oS (g d e)).bind fun r => .ok (.nx, stE ρ i (.val r)) := by
  rw [← e_mGet]; simp only [← set_stE]; unfold sAug mGet
  rcases ρ[i]? with _ | _ | ⟨_ | _ | _⟩ <;> rfl
@[simp] theorem e_sPop (i : Nat) (ρ : Evn) : sPop i ρ = (oS (gtO ρ i)).bind fun ds => (oS ds.getLast?).bind fun _ => .ok (.nx, stE ρ i (.own ds.dropLast)) := by
  rw [← ownAt_gtO]; simp only [← set_stE]; unfold sPop; cases ownAt i ρ <;> rfl
@[simp] theorem e_sPopTo (i j : Nat) (ρ : Evn) : sPopTo i j ρ = (oS (gtO ρ i)).bind fun ds => (oS ds.getLast?).bind fun d => .ok (.nx, stE (stE ρ i (.own ds.dropLast)) j (.val d)) := by
  rw [← ownAt_gtO]; simp only [← set_stE]; unfold sPopTo; cases ownAt i ρ <;> rfl
@[simp] theorem e_fnM (n N : Nat) (body : Evn → RS) (ds : List PyData) : fnM n N body ds = if ds.length = n then bodyOut (body (startE N ds)) else .bad := nr rfl
@[simp] theorem e_bo_rt (d : PyData) (ρ : Evn) : bodyOut (.ok (.rt d, ρ)) = .ok d := nr rfl
@[simp] theorem e_bo_nx (ρ : Evn) : bodyOut (.ok (.nx, ρ)) = .ok .none := nr rfl
@[simp] theorem e_bo_exc (c : Str) (ρ : Evn) : bodyOut (.exc c ρ) = .exc c () := nr rfl
@[simp] theorem e_startE (N : Nat) (ds : List PyData) : startE N ds = ds.map (fun d => some (.val d)) ++ List.replicate (N - ds.length) none := nr rfl
@[simp] theorem e_wipe0 (ρ : Evn) : wipeE ρ [] = ρ := nr rfl
@[simp] theorem e_wipe1 (ρ : Evn) (v : Nat) (vs : List Nat) : wipeE ρ (v :: vs) = clE (wipeE ρ vs) v := by rw [← set_clE]; exact id rfl
/-! operators on data -/
@[simp] theorem d_add (i j : Int) : pAdd (.int i) (.int j) = some (.int (i + j)) := nr rfl
@[simp] theorem d_addib (i : Int) (b : Bool) : pAdd (.int i) (.bool b) = some (.int (i + PyProof.Rows.b2i b)) := nr rfl
@[simp] theorem d_addl (xs ys : List PyData) : pAdd (.list xs) (.list ys) = if xs.length + ys.length ≤ sizeLine then some (.list (xs ++ ys)) else none := nr rfl
@[simp] theorem d_addt (xs ys : List PyData) : pAdd (.tuple xs) (.tuple ys) = if xs.length + ys.length ≤ sizeLine then some (.tuple (xs ++ ys)) else none := nr rfl
@[simp] theorem d_sub (i j : Int) : pSub (.int i) (.int j) = some (.int (i - j)) := nr rfl
@[simp] theorem d_mul (i j : Int) : pMul (.int i) (.int j) = if mulOk i j then some (.int (i * j)) else none := nr rfl
@[simp] theorem d_mulS (x : Str) : pMul (.str x) (.int 1) = some (.str x) := nr rfl
@[simp] theorem d_div (i j : Int) : pDiv (.int i) (.int j) = if divOk j then some (.int (i.fdiv j)) else none := nr rfl
@[simp] theorem d_mod (i j : Int) : pMod (.int i) (.int j) = if j ≠ 0 then some (.int (i.fmod j)) else none := nr rfl
@[simp] theorem d_pow (i j : Int) : pPow (.int i) (.int j) = if powOk i j then some (.int (i ^ j.toNat)) else none := nr rfl
@[simp] theorem d_cmp (p : Int → Int → Bool) (i j : Int) : pCmp p (.int i) (.int j) = some (.bool (p i j)) := nr rfl
@[simp] theorem d_neg (i : Int) : pNeg (.int i) = some (.int (-i)) := nr rfl
@[simp] theorem d_not (b : Bool) : pNot (.bool b) = some (.bool !b) := nr rfl
@[simp] theorem d_iadd (i j : Int) : pIAdd (.int i) (.int j) = some (.int (i + j)) := nr rfl
@[simp] theorem d_iop (f : Int → Int → Int) (i j : Int) : iOp f (.int i) (.int j) = some (.int (f i j)) := nr rfl
@[simp] theorem d_toB (b : Bool) : toB (.bool b) = some b := nr rfl
@[simp] theorem d_toI (i : Int) : toI (.int i) = some i := nr rfl
@[simp] theorem d_trB (b : Bool) : truth (.bool b) = some b := nr rfl
@[simp] theorem d_trI (i : Int) : truth (.int i) = some (i != 0) := nr rfl
@[simp] theorem d_trN : truth .none = some false := nr rfl
@[simp] theorem d_trL (xs : List PyData) : truth (.list xs) = some (!xs.isEmpty) := nr rfl
@[simp] theorem d_trT (xs : List PyData) : truth (.tuple xs) = some (!xs.isEmpty) := nr rfl
@[simp] theorem d_lenL (xs : List PyData) : bLen [.list xs] = some (.int xs.length) := nr rfl
@[simp] theorem d_lenT (xs : List PyData) : bLen [.tuple xs] = some (.int xs.length) := nr rfl
@[simp] theorem d_intI (i : Int) : bInt [.int i] = some (.int i) := nr rfl
@[simp] theorem d_intB (b : Bool) : bInt [.bool b] = some (.int (if b then 1 else 0)) := nr rfl
@[simp] theorem d_abs (i : Int) : bAbs [.int i] = some (.int (if i < 0 then -i else i)) := nr rfl
@[simp] theorem d_gcd (a b : Int) : bGcd [.int a, .int b] = some (.int ((Nat.gcd a.natAbs b.natAbs : Nat) : Int)) := nr rfl
@[simp] theorem d_max2 (i j : Int) : bMax [.int i, .int j] = some (.int (if j > i then j else i)) := nr rfl
@[simp] theorem d_min2 (i j : Int) : bMin [.int i, .int j] = some (.int (if j < i then j else i)) := nr rfl
@[simp] theorem d_sumI (ns : List Int) : bSum [.list (ns.map .int)] = some (.int ns.sum) := by simp only [bSum, ints?_map, Option.map_some]
@[simp] theorem d_anyB (ns : List Bool) : bAny [.list (ns.map .bool)] = some (.bool (ns.any id)) := by simp only [bAny, bools?_map, Option.map_some]
@[simp] theorem d_allB (ns : List Bool) : bAll [.list (ns.map .bool)] = some (.bool (ns.all id)) := by simp only [bAll, bools?_map, Option.map_some]
@[simp] theorem d_maxL (ns : List Int) : bMax [.list (ns.map .int)] = (lmax ns).map .int := by cases ns <;> simp only [bMax, ints?_map, Option.bind_some]
@[simp] theorem d_minL (ns : List Int) : bMin [.list (ns.map .int)] = (lmin ns).map .int := by cases ns <;> simp only [bMin, ints?_map, Option.bind_some]
@[simp] theorem d_listL (xs : List PyData) : bList [.list xs] = some (.list xs) := nr rfl
@[simp] theorem d_listT (xs : List PyData) : bList [.tuple xs] = some (.list xs) := nr rfl
@[simp] theorem d_tupL (xs : List PyData) : bTuple [.list xs] = some (.tuple xs) := nr rfl
@[simp] theorem d_tupT (xs : List PyData) : bTuple [.tuple xs] = some (.tuple xs) := nr rfl
@[simp] theorem d_idxL (ds : List PyData) (i : Int) : pIdx (.list ds) (.int i) = L2.atI ds i := nr rfl
@[simp] theorem d_idxT (ds : List PyData) (i : Int) : pIdx (.tuple ds) (.int i) = L2.atI ds i := nr rfl
@[simp] theorem d_lstL (ds : List PyData) : pLst (.list ds) = .ok ds := nr rfl
@[simp] theorem d_lstT (ds : List PyData) : pLst (.tuple ds) = .ok ds := nr rfl
@[simp] theorem d_revL (ds : List PyData) : pRevL (.list ds) = .ok ds.reverse := nr rfl
@[simp] theorem d_itL (ds : List PyData) : itemsOf (.list ds) = some ds := nr rfl
@[simp] theorem d_itT (ds : List PyData) : itemsOf (.tuple ds) = some ds := nr rfl
@[simp] theorem d_rng1 (j : Int) : rng1 [.int j] = if r62 j then some (rangeL 0 j.toNat) else none := nr rfl
@[simp] theorem d_rng3 (i j c : Int) : rng3 [.int i, .int j, .int c] = if stepOk i j c then some (rangeC i c (Builtin.Range.rangeSize i j c).toNat) else none := nr rfl
@[simp] theorem d_rng2 (i j : Int) : rng2 [.int i, .int j] = if r62 i ∧ r62 j then some (rangeL i (j - i).toNat) else none := nr rfl
@[simp] theorem d_enum1 (ds : List PyData) : enum1 [.list ds] = some (enumL 0 ds) := nr rfl
@[simp] theorem d_zip2 (ds es : List PyData) : zip2 [.list ds, .list es] = some (zipL ds es) := nr rfl
@[simp] theorem d_rev1L (ds : List PyData) : rev1 (.list ds) = some ds.reverse := nr rfl
@[simp] theorem d_rev1T (ds : List PyData) : rev1 (.tuple ds) = some ds.reverse := nr rfl
@[simp] theorem d_cutL (ds : List PyData) (lo hi : Option Int) : pCut (.list ds) lo hi = some (.list (cutA ds lo hi)) := nr rfl
@[simp] theorem d_cutT (ds : List PyData) (lo hi : Option Int) : pCut (.tuple ds) lo hi = some (.tuple (cutA ds lo hi)) := nr rfl
@[simp] theorem d_rep (ds : List PyData) (k : Int) : pRep ds (.int k) = if repOk ds.length k then .ok (List.replicate k.toNat ds).flatten else .bad := nr rfl
@[simp] theorem d_mTup (ds : List PyData) : mTup ds = if ds.length ≤ sizeLine then .ok (.tuple ds) else .bad := nr rfl
@[simp] theorem d_mLst (ds : List PyData) : mLst ds = if ds.length ≤ sizeLine then .ok (.list ds) else .bad := nr rfl
@[simp] theorem d_setD (ds : List PyData) (j : Int) (d : PyData) : setD ds (.int j) d = (L2.ixN ds.length j).map fun n => ds.set n d := nr rfl
@[simp] theorem d_scN : scal .none = true := nr rfl
@[simp] theorem d_scB (b : Bool) : scal (.bool b) = true := nr rfl
@[simp] theorem d_scI (i : Int) : scal (.int i) = true := nr rfl
@[simp] theorem d_scS (x : Str) : scal (.str x) = true := nr rfl
@[simp] theorem d_isN (d : PyData) : pIsN d .none = some (.bool (isNone d)) := nr rfl
@[simp] theorem d_isNN (d : PyData) : pIsNotN d .none = some (.bool (!isNone d)) := nr rfl
@[simp] theorem d_nN : isNone .none = true := nr rfl
@[simp] theorem d_nB (b : Bool) : isNone (.bool b) = false := nr rfl
@[simp] theorem d_nI (i : Int) : isNone (.int i) = false := nr rfl
@[simp] theorem d_nS (x : Str) : isNone (.str x) = false := nr rfl
@[simp] theorem d_nL (x : List PyData) : isNone (.list x) = false := nr rfl
@[simp] theorem d_nT (x : List PyData) : isNone (.tuple x) = false := nr rfl
/-! guards -/
theorem mulOk_r {i j : Int} (h1 : -(2 ^ 64) < j) (h2 : j < 2 ^ 64) : mulOk i j := .inr (.inl ⟨h1, h2⟩)
theorem mulOk_l {i j : Int} (h1 : -(2 ^ 64) < i) (h2 : i < 2 ^ 64) : mulOk i j := .inl ⟨h1, h2⟩
theorem divOk_s {j : Int} (h1 : 0 < j) (h2 : j < 2 ^ 64) : divOk j := by
  refine ⟨by omega, ?_⟩
  have h3 : j.natAbs < 2 ^ 64 := by omega
  have h4 := (Nat.log2_lt (by omega)).mpr h3
  omega
theorem r62_s {j : Int} (h1 : -(2 ^ 62) ≤ j) (h2 : j < 2 ^ 62) : r62 j := ⟨h1, h2⟩
theorem line_eq : (sizeLine : Nat) = 16777216 := sizeLine_eq
theorem fmod_pos {i j : Int} (h : 0 < j) : i.fmod j = i % j := Int.fmod_eq_emod_of_nonneg i (by omega)
theorem fdiv_pos {i j : Int} (h : 0 < j) : i.fdiv j = i / j := Int.fdiv_eq_ediv_of_nonneg i (by omega)
theorem atI_ok {α : Type} {xs : List α} {i : Int} {v : α} (h0 : 0 ≤ i) (h : xs[i.toNat]? = some v) : L2.atI xs i = some v := by
  have e : ((i.toNat : Nat) : Int) = i := by omega
  rw [← e]
  exact L2.atI_nat h
/-! loops -/
theorem forM_nil (m : PyData → Evn → Option Evn) (body : Evn → RS) (ρ : Evn) : forM m body [] ρ = .ok (.nx, ρ) := rfl
theorem forM_cons (m : PyData → Evn → Option Evn) (body : Evn → RS) (d : PyData) (r : List PyData) (ρ : Evn) : forM m body (d :: r) ρ = (oS (m d ρ)).bind fun ρ1 => (body ρ1).bind fun p => match p.1 with
    | .nx => forM m body r p.2
    | .ct => forM m body r p.2
    | .bk => .ok (.nx, p.2)
    | .rt d => .ok (.rt d, p.2) := rfl
/-- a loop that goes on, by what holds between two turns -/
theorem forM_inv {m : PyData → Evn → Option Evn} {body : Evn → RS} (I : Nat → Evn → Prop) {ds : List PyData} {ρ : Evn} (h0 : I 0 ρ)
    (h : ∀ i d ρ, ds[i]? = some d → I i ρ → ∃ ρ1 ρ2, m d ρ = some ρ1 ∧ (body ρ1 = .ok (.nx, ρ2) ∨ body ρ1 = .ok (.ct, ρ2)) ∧ I (i + 1) ρ2) : ∃ ρ', forM m body ds ρ = .ok (.nx, ρ') ∧ I ds.length ρ' := by
  have key : ∀ (es : List PyData) (k : Nat) (ρ : Evn), k + es.length = ds.length → (∀ i, es[i]? = ds[k + i]?) → I k ρ → ∃ ρ', forM m body es ρ = .ok (.nx, ρ') ∧ I ds.length ρ' := by
    intro es
    induction es with
    | nil =>
      intro k ρ e _ hi
      simp only [List.length_nil, Nat.add_zero] at e
      subst e
      exact ⟨ρ, rfl, hi⟩
    | cons d r ih =>
      intro k ρ e he hi
      have h1 := he 0
      simp only [List.getElem?_cons_zero, Nat.add_zero] at h1
      obtain ⟨ρ1, ρ2, g1, g2, g3⟩ := h k d ρ h1.symm hi
      obtain ⟨ρ', g4, g5⟩ := ih (k + 1) ρ2 (by rw [List.length_cons] at e; omega) (fun i => by
        have := he (i + 1)
        simp only [List.getElem?_cons_succ] at this
        rw [this]
        congr 1
        omega) g3
      refine ⟨ρ', ?_, g5⟩
      rw [forM_cons, g1, oS_some, bind_ok]
      cases g2 with
      | inl g => rw [g, bind_ok]; exact g4
      | inr g => rw [g, bind_ok]; exact g4
  exact key ds 0 ρ (by omega) (fun i => by rw [Nat.zero_add]) h0
/-- a loop over what is made of a list, with a state -/
theorem forM_map {α : Type} {m : PyData → Evn → Option Evn} {body : Evn → RS} {dec : α → PyData} (I : List α → Evn → Prop) {xs : List α} {ρ : Evn} (h0 : I [] ρ)
    (h : ∀ pre x post ρ, xs = pre ++ x :: post → I pre ρ → ∃ ρ1 ρ2, m (dec x) ρ = some ρ1 ∧ (body ρ1 = .ok (.nx, ρ2) ∨ body ρ1 = .ok (.ct, ρ2)) ∧ I (pre ++ [x]) ρ2) : ∃ ρ', forM m body (xs.map dec) ρ = .ok (.nx, ρ') ∧ I xs ρ' := by
  have key : ∀ (es pre : List α) (ρ : Evn), xs = pre ++ es → I pre ρ → ∃ ρ', forM m body (es.map dec) ρ = .ok (.nx, ρ') ∧ I xs ρ' := by
    intro es
    induction es with
    | nil => intro pre ρ e hi; rw [List.append_nil] at e; subst e; exact ⟨ρ, rfl, hi⟩
    | cons x r ih =>
      intro pre ρ e hi
      obtain ⟨ρ1, ρ2, g1, g2, g3⟩ := h pre x r ρ e hi
      obtain ⟨ρ', g4, g5⟩ := ih (pre ++ [x]) ρ2 (by rw [e, List.append_assoc]; rfl) g3
      refine ⟨ρ', ?_, g5⟩
      rw [List.map_cons, forM_cons, g1, oS_some, bind_ok]
      cases g2 with
      | inl g => rw [g, bind_ok]; exact g4
      | inr g => rw [g, bind_ok]; exact g4
  exact key xs [] ρ rfl h0
theorem rangeL_get {lo : Int} {n i : Nat} {d : PyData} (h : (rangeL lo n)[i]? = some d) : i < n ∧ d = .int (lo + i) := by
  unfold rangeL at h
  rw [List.getElem?_map] at h
  by_cases hi : i < n
  · rw [List.getElem?_range hi] at h
    simp only [Option.map_some, Option.some.injEq] at h
    exact ⟨hi, h.symm⟩
  · rw [List.getElem?_eq_none (by rw [List.length_range]; omega)] at h
    cases h
/-- a loop over the whole numbers of a range -/
theorem forM_rng {m : PyData → Evn → Option Evn} {body : Evn → RS} {lo : Int} {n : Nat} (I : Nat → Evn → Prop) {ρ : Evn} (h0 : I 0 ρ)
    (h : ∀ i ρ, i < n → I i ρ → ∃ ρ1 ρ2, m (.int (lo + i)) ρ = some ρ1 ∧ (body ρ1 = .ok (.nx, ρ2) ∨ body ρ1 = .ok (.ct, ρ2)) ∧ I (i + 1) ρ2) : ∃ ρ', forM m body (rangeL lo n) ρ = .ok (.nx, ρ') ∧ I n ρ' := by
  have := forM_inv (m := m) (body := body) I (ds := rangeL lo n) h0 (fun i d ρ hd hi => by
    obtain ⟨h1, h2⟩ := rangeL_get hd
    subst h2
    exact h i ρ h1 hi)
  rw [rangeL_len] at this
  exact this
/-- a list made of a list -/
theorem lcM_map {α : Type} {m : PyData → Evn → Option Evn} {t : Evn → RE Bool} {e : Evn → RE PyData} {ρ : Evn} {dec : α → PyData} (p : α → Bool) (f : α → PyData) : ∀ {xs : List α},
    (∀ x ∈ xs, ∃ ρ1, m (dec x) ρ = some ρ1 ∧ t ρ1 = .ok (p x) ∧ (p x = true → e ρ1 = .ok (f x))) → lcM m t e ρ (xs.map dec) = .ok ((xs.filter p).map f)
  | [], _ => rfl
  | x :: r, h => by
    obtain ⟨ρ1, h1, h2, h3⟩ := h x (List.mem_cons_self ..)
    have ih := lcM_map p f (xs := r) (fun y hy => h y (List.mem_cons_of_mem _ hy))
    rw [List.map_cons]
    unfold lcM
    rw [h1, ofO_some, bind_ok, h2, nox_okk, bind_ok, ih]
    cases hp : p x with
    | true => rw [if_pos rfl, h3 hp, nox_okk, bind_ok, bind_ok, List.filter_cons_of_pos hp, List.map_cons]
    | false => rw [if_neg (by decide), List.filter_cons_of_neg (by rw [hp]; decide)]
/-- .. of each item -/
theorem lcM_all {α : Type} {m : PyData → Evn → Option Evn} {e : Evn → RE PyData} {ρ : Evn} {dec : α → PyData} (f : α → PyData) {xs : List α}
    (h : ∀ x ∈ xs, ∃ ρ1, m (dec x) ρ = some ρ1 ∧ e ρ1 = .ok (f x)) : lcM m mYes e ρ (xs.map dec) = .ok (xs.map f) := by
  have := lcM_map (m := m) (t := mYes) (e := e) (ρ := ρ) (dec := dec) (fun _ => true) f (xs := xs) (fun x hx => by
    obtain ⟨ρ1, h1, h2⟩ := h x hx
    exact ⟨ρ1, h1, rfl, fun _ => h2⟩)
  rw [this, List.filter_eq_self.mpr (fun _ _ => rfl)]
theorem lcM_rng {i : Nat} {e : Evn → RE PyData} {ρ : Evn} {n : Nat} (f : Nat → PyData) (h : ∀ k < n, e (stE ρ i (.val (.int k))) = .ok (f k)) : lcM (gN i) mYes e ρ (rangeL 0 n) = .ok ((List.range n).map f) := by
  unfold rangeL
  refine lcM_all (dec := fun (k : Nat) => PyData.int (0 + (k : Int))) f fun x hx => ⟨_, e_gN _ _ _, ?_⟩
  rw [Int.zero_add]
  exact h x (List.mem_range.mp hx)
theorem lcM_rngp {i : Nat} {t : Evn → RE Bool} {e : Evn → RE PyData} {ρ : Evn} {n : Nat} (p : Nat → Bool) (f : Nat → PyData) (ht : ∀ k < n, t (stE ρ i (.val (.int k))) = .ok (p k)) (h : ∀ k < n, p k = true → e (stE ρ i (.val (.int k))) = .ok (f k)) : lcM (gN i) t e ρ (rangeL 0 n) = .ok (((List.range n).filter p).map f) := by
  unfold rangeL
  refine lcM_map (dec := fun (k : Nat) => PyData.int (0 + (k : Int))) p f fun x hx => ⟨_, e_gN _ _ _, ?_, fun hp => ?_⟩
  · rw [Int.zero_add]; exact ht x (List.mem_range.mp hx)
  · rw [Int.zero_add]; exact h x (List.mem_range.mp hx) hp
/-! steps of a body -/
theorem fn_go {n N : Nat} {b : Evn → RS} {ds : List PyData} (h : ds.length = n) : fnM n N b ds = bodyOut (b (startE N ds)) := by rw [e_fnM, if_pos h]
theorem fn_ret {n N : Nat} {b : Evn → RS} {ds : List PyData} {ρ ρ' : Evn} {d : PyData} (h : ds.length = n) (e : startE N ds = ρ) (hb : b ρ = .ok (.rt d, ρ')) : fnM n N b ds = .ok d := by rw [fn_go h, e, hb]; rfl
theorem st_set {i : Nat} {f : Evn → RE PyData} {g : Evn → RS} {ρ : Evn} {d : PyData} (h : f ρ = .ok d) : sThen (sSet i f) g ρ = g (stE ρ i (.val d)) := by simp [h]
theorem st_setL {i : Nat} {f : Evn → RE (List PyData)} {g : Evn → RS} {ρ : Evn} {ds : List PyData} (h : f ρ = .ok ds) : sThen (sSetL i f) g ρ = g (stE ρ i (.val (.list ds))) := by simp [h]
theorem st_setO {i : Nat} {f : Evn → RE (List PyData)} {g : Evn → RS} {ρ : Evn} {ds : List PyData} (h : f ρ = .ok ds) : sThen (sSetO i f) g ρ = g (stE ρ i (.own ds)) := by simp [h]
theorem st_if {c : Evn → RE Bool} {a b g : Evn → RS} {ρ : Evn} {q : Bool} (h : c ρ = .ok q) : sThen (sIf c a b) g ρ = if q then sThen a g ρ else sThen b g ρ := by cases q <;> simp [h]
theorem st_no {c : Evn → RE Bool} {a g : Evn → RS} {ρ : Evn} (h : c ρ = .ok false) : sThen (sIf c a sNx) g ρ = g ρ := by simp [h]
theorem st_yes {c : Evn → RE Bool} {f : Evn → RE PyData} {b g : Evn → RS} {ρ : Evn} {d : PyData} (h : c ρ = .ok true) (hf : f ρ = .ok d) : sThen (sIf c (sRet f) b) g ρ = .ok (.rt d, ρ) := by simp [h, hf]
theorem st_nx {f g : Evn → RS} {ρ ρ' : Evn} (h : f ρ = .ok (.nx, ρ')) : sThen f g ρ = g ρ' := by simp [h]
theorem st_ret {f : Evn → RE PyData} {ρ : Evn} {d : PyData} (h : f ρ = .ok d) : sRet f ρ = .ok (.rt d, ρ) := by simp [h]
/-! whole numbers in lists -/
abbrev li (ns : List Int) : PyData := .list (ns.map .int)
theorem atI_li {ns : List Int} {i : Int} (h0 : 0 ≤ i) (h1 : i < ns.length) : L2.atI (ns.map PyData.int) i = some (.int (ns.getD i.toNat 0)) := by
  refine atI_ok h0 ?_
  rw [List.getElem?_map, List.getElem?_eq_getElem (by omega), Option.map_some, List.getD_eq_getElem?_getD, List.getElem?_eq_getElem (by omega), Option.getD_some]

/-! kinds -/
@[simp] theorem ty_li_none : isTy Ty.list .none = false := nr rfl
@[simp] theorem ty_li_bool (b : Bool) : isTy Ty.list (.bool b) = false := nr rfl
@[simp] theorem ty_li_int (i : Int) : isTy Ty.list (.int i) = false := nr rfl
@[simp] theorem ty_li_str (x : Str) : isTy Ty.list (.str x) = false := nr rfl
@[simp] theorem ty_li_list (xs : List PyData) : isTy Ty.list (.list xs) = true := nr rfl
@[simp] theorem ty_li_tuple (xs : List PyData) : isTy Ty.list (.tuple xs) = false := nr rfl
@[simp] theorem ty_tu_none : isTy Ty.tuple .none = false := nr rfl
@[simp] theorem ty_tu_bool (b : Bool) : isTy Ty.tuple (.bool b) = false := nr rfl
@[simp] theorem ty_tu_int (i : Int) : isTy Ty.tuple (.int i) = false := nr rfl
@[simp] theorem ty_tu_str (x : Str) : isTy Ty.tuple (.str x) = false := nr rfl
@[simp] theorem ty_tu_list (xs : List PyData) : isTy Ty.tuple (.list xs) = false := nr rfl
@[simp] theorem ty_tu_tuple (xs : List PyData) : isTy Ty.tuple (.tuple xs) = true := nr rfl
@[simp] theorem ty_bo_none : isTy Ty.bool .none = false := nr rfl
@[simp] theorem ty_bo_bool (b : Bool) : isTy Ty.bool (.bool b) = true := nr rfl
@[simp] theorem ty_bo_int (i : Int) : isTy Ty.bool (.int i) = false := nr rfl
@[simp] theorem ty_bo_str (x : Str) : isTy Ty.bool (.str x) = false := nr rfl
@[simp] theorem ty_bo_list (xs : List PyData) : isTy Ty.bool (.list xs) = false := nr rfl
@[simp] theorem ty_bo_tuple (xs : List PyData) : isTy Ty.bool (.tuple xs) = false := nr rfl
@[simp] theorem ty_in_none : isTy Ty.int .none = false := nr rfl
@[simp] theorem ty_in_bool (b : Bool) : isTy Ty.int (.bool b) = true := nr rfl
@[simp] theorem ty_in_int (i : Int) : isTy Ty.int (.int i) = true := nr rfl
@[simp] theorem ty_in_str (x : Str) : isTy Ty.int (.str x) = false := nr rfl
@[simp] theorem ty_in_list (xs : List PyData) : isTy Ty.int (.list xs) = false := nr rfl
@[simp] theorem ty_in_tuple (xs : List PyData) : isTy Ty.int (.tuple xs) = false := nr rfl
@[simp] theorem ty_st_none : isTy Ty.str .none = false := nr rfl
@[simp] theorem ty_st_bool (b : Bool) : isTy Ty.str (.bool b) = false := nr rfl
@[simp] theorem ty_st_int (i : Int) : isTy Ty.str (.int i) = false := nr rfl
@[simp] theorem ty_st_str (x : Str) : isTy Ty.str (.str x) = true := nr rfl
@[simp] theorem ty_st_list (xs : List PyData) : isTy Ty.str (.list xs) = false := nr rfl
@[simp] theorem ty_st_tuple (xs : List PyData) : isTy Ty.str (.tuple xs) = false := nr rfl
/-! likeness of data that have a type -/
open PySem.W in
theorem eq_dat {α : Type} [DecidableEq α] [Datum α] (hd : Datum.depth α ≤ 64) (a b : α) : pEq (Datum.toD a) (Datum.toD b) = some (.bool (decide (a = b))) := by
  unfold pEq
  rw [if_pos (show eqOk _ _ from Or.inl (Nat.le_trans (Datum.depth_le a) hd)), Datum.eqv]
open PySem.W in
theorem ne_dat {α : Type} [DecidableEq α] [Datum α] (hd : Datum.depth α ≤ 64) (a b : α) : pNe (Datum.toD a) (Datum.toD b) = some (.bool (decide (a ≠ b))) := by
  unfold pNe
  rw [if_pos (show eqOk _ _ from Or.inl (Nat.le_trans (Datum.depth_le a) hd)), Datum.eqv]
  by_cases h : a = b <;> simp [h]
@[simp] theorem eq_int (i j : Int) : pEq (.int i) (.int j) = some (.bool (decide (i = j))) := eq_dat (α := Int) (by decide) i j
@[simp] theorem ne_int (i j : Int) : pNe (.int i) (.int j) = some (.bool (decide (i ≠ j))) := ne_dat (α := Int) (by decide) i j
@[simp] theorem eq_bl (i j : Bool) : pEq (.bool i) (.bool j) = some (.bool (decide (i = j))) := eq_dat (α := Bool) (by decide) i j
@[simp] theorem ne_bl (i j : Bool) : pNe (.bool i) (.bool j) = some (.bool (decide (i ≠ j))) := ne_dat (α := Bool) (by decide) i j
@[simp] theorem eq_st (i j : Str) : pEq (.str i) (.str j) = some (.bool (decide (i = j))) := eq_dat (α := Str) (by decide) i j
@[simp] theorem ne_st (i j : Str) : pNe (.str i) (.str j) = some (.bool (decide (i ≠ j))) := ne_dat (α := Str) (by decide) i j
@[simp] theorem eq_li (i j : List Int) : pEq (.list (i.map .int)) (.list (j.map .int)) = some (.bool (decide (i = j))) := eq_dat (α := List Int) (by decide) i j
@[simp] theorem ne_li (i j : List Int) : pNe (.list (i.map .int)) (.list (j.map .int)) = some (.bool (decide (i ≠ j))) := ne_dat (α := List Int) (by decide) i j
/-- data without dicts, not deep -/
def plainD : Nat → PyData → Prop
  | 0, _ => False
  | _ + 1, .none => True
  | _ + 1, .bool _ => True
  | _ + 1, .int _ => True
  | _ + 1, .str _ => True
  | k + 1, .list xs => xs.length < 2 ^ 62 ∧ ∀ x ∈ xs, plainD k x
  | k + 1, .tuple xs => xs.length < 2 ^ 62 ∧ ∀ x ∈ xs, plainD k x
  | _ + 1, .dict _ => False
theorem plain_li {k : Nat} {ns : List Int} (h : ns.length < 2 ^ 62) : plainD (k + 2) (li ns) := ⟨by rw [List.length_map]; exact h, fun x hx => by
  obtain ⟨i, _, rfl⟩ := List.mem_map.mp hx
  trivial⟩

/-! lists of whole numbers made by comprehensions -/
theorem lcM_rngI {i : Nat} {e : Evn → RE PyData} {ρ : Evn} {n : Nat} (g : Nat → Int) (h : ∀ k < n, e (stE ρ i (.val (.int k))) = .ok (.int (g k))) : lcM (gN i) mYes e ρ (rangeL 0 n) = .ok (((List.range n).map g).map .int) := by
  rw [lcM_rng (fun k => .int (g k)) h, List.map_map]; rfl
theorem lcM_rngpI {i : Nat} {t : Evn → RE Bool} {e : Evn → RE PyData} {ρ : Evn} {n : Nat} (p : Nat → Bool) (g : Nat → Int) (ht : ∀ k < n, t (stE ρ i (.val (.int k))) = .ok (p k)) (h : ∀ k < n, p k = true → e (stE ρ i (.val (.int k))) = .ok (.int (g k))) : lcM (gN i) t e ρ (rangeL 0 n) = .ok ((((List.range n).filter p).map g).map .int) := by
  rw [lcM_rngp p (fun k => .int (g k)) ht h, List.map_map]; rfl
theorem lcM_liI {i : Nat} {e : Evn → RE PyData} {ρ : Evn} {ns : List Int} (g : Int → Int) (h : ∀ k ∈ ns, e (stE ρ i (.val (.int k))) = .ok (.int (g k))) : lcM (gN i) mYes e ρ (ns.map .int) = .ok ((ns.map g).map .int) := by
  rw [lcM_all (fun k => .int (g k)) (fun x hx => ⟨_, e_gN _ _ _, h x hx⟩), List.map_map]; rfl
theorem lcM_lip {i : Nat} {t : Evn → RE Bool} {e : Evn → RE PyData} {ρ : Evn} {ns : List Int} (p : Int → Bool) (f : Int → PyData) (ht : ∀ k ∈ ns, t (stE ρ i (.val (.int k))) = .ok (p k)) (h : ∀ k ∈ ns, p k = true → e (stE ρ i (.val (.int k))) = .ok (f k)) : lcM (gN i) t e ρ (ns.map .int) = .ok ((ns.filter p).map f) :=
  lcM_map p f fun x hx => ⟨_, e_gN _ _ _, ht x hx, h x hx⟩
theorem getD_rng {g : Nat → Int} {n i : Nat} {d : Int} (h : i < n) : ((List.range n).map g).getD i d = g i := by
  rw [List.getD_eq_getElem?_getD, List.getElem?_map, List.getElem?_range h]; rfl
theorem set_rng {α : Type} (g : Nat → α) (n j : Nat) (v : α) : ((List.range n).map g).set j v = (List.range n).map fun q => if q = j then v else g q := by
  apply List.ext_getElem?
  intro i
  rw [List.getElem?_set, List.getElem?_map, List.getElem?_map, List.length_map, List.length_range]
  by_cases h : j = i
  · subst h
    by_cases hj : j < n
    · rw [List.getElem?_range hj]; simp [hj]
    · rw [List.getElem?_eq_none (by rw [List.length_range]; omega)]; simp [hj]
  · rw [if_neg h]
    by_cases hi : i < n
    · rw [List.getElem?_range hi]; simp [Ne.symm h]
    · rw [List.getElem?_eq_none (by rw [List.length_range]; omega)]; rfl
theorem map_set_int (ns : List Int) (j : Nat) (v : Int) : (ns.map PyData.int).set j (.int v) = (ns.set j v).map .int := by rw [List.map_set]
theorem rep_rng (n : Nat) (v : Int) : (List.replicate n [PyData.int v]).flatten = ((List.range n).map fun _ => v).map .int := by
  induction n with
  | zero => rfl
  | succ n ih => rw [List.replicate_succ', List.flatten_append, ih, List.range_succ, List.map_append, List.map_append]; rfl
theorem ixN_ok {n : Nat} {i : Int} (h0 : 0 ≤ i) (h : i < n) : L2.ixN n i = some i.toNat := by
  unfold L2.ixN
  rw [if_pos h0, if_pos h]

/-! places in lists that are written out -/
@[simp] theorem at_0 {α : Type} (x : α) (r : List α) : L2.atI (x :: r) 0 = some x := atI_ok (by decide) rfl
@[simp] theorem at_1 {α : Type} (x y : α) (r : List α) : L2.atI (x :: y :: r) 1 = some y := atI_ok (by decide) rfl
@[simp] theorem at_2 {α : Type} (x y z : α) (r : List α) : L2.atI (x :: y :: z :: r) 2 = some z := atI_ok (by decide) rfl
@[simp] theorem at_3 {α : Type} (x y z u : α) (r : List α) : L2.atI (x :: y :: z :: u :: r) 3 = some u := atI_ok (by decide) rfl
@[simp] theorem at_4 {α : Type} (x y z u v : α) (r : List α) : L2.atI (x :: y :: z :: u :: v :: r) 4 = some v := atI_ok (by decide) rfl
@[simp] theorem at_5 {α : Type} (x y z u v w : α) (r : List α) : L2.atI (x :: y :: z :: u :: v :: w :: r) 5 = some w := atI_ok (by decide) rfl
open PySem.W in
theorem in_dat {α : Type} [DecidableEq α] [Datum α] (hd : Datum.depth α ≤ 60) (x : α) (xs : List α) : pIn (Datum.toD x) (.list (xs.map Datum.toD)) = some (.bool (decide (x ∈ xs))) := by
  have h : inOk (Datum.toD x) (xs.map Datum.toD) := Or.inl (Nat.le_trans (Datum.depth_le x) hd)
  have e : pIn (Datum.toD x) (.list (xs.map Datum.toD)) = if inOk (Datum.toD x) (xs.map Datum.toD) then some (.bool (inD (Datum.toD x) (xs.map Datum.toD))) else none := by
    cases Datum.toD x <;> rfl
  rw [e, if_pos h]
  unfold inD
  rw [any_datum]
open PySem.W in
theorem notin_dat {α : Type} [DecidableEq α] [Datum α] (hd : Datum.depth α ≤ 60) (x : α) (xs : List α) : pNotIn (Datum.toD x) (.list (xs.map Datum.toD)) = some (.bool (!decide (x ∈ xs))) := by
  have h : inOk (Datum.toD x) (xs.map Datum.toD) := Or.inl (Nat.le_trans (Datum.depth_le x) hd)
  have e : pNotIn (Datum.toD x) (.list (xs.map Datum.toD)) = if inOk (Datum.toD x) (xs.map Datum.toD) then some (.bool (!inD (Datum.toD x) (xs.map Datum.toD))) else none := by
    cases Datum.toD x <;> rfl
  rw [e, if_pos h]
  unfold inD
  rw [any_datum]
@[simp] theorem in_li (i : Int) (ns : List Int) : pIn (.int i) (.list (ns.map .int)) = some (.bool (decide (i ∈ ns))) := in_dat (α := Int) (by decide) i ns
@[simp] theorem notin_li (i : Int) (ns : List Int) : pNotIn (.int i) (.list (ns.map .int)) = some (.bool (!decide (i ∈ ns))) := notin_dat (α := Int) (by decide) i ns

/-! slices -/
theorem sIx_nn {n d : Nat} {i : Int} (h : 0 ≤ i) : HT.sIx n d (some i) = min i.toNat n := by
  show (if i < 0 then (i + (n : Int)).toNat else min i.toNat n) = min i.toNat n
  rw [if_neg (by omega)]
theorem take_min {α : Type} (xs : List α) (k m : Nat) (h : xs.length ≤ m) : xs.take (min k m) = xs.take k := by
  by_cases hk : k ≤ m
  · rw [Nat.min_eq_left hk]
  · rw [Nat.min_eq_right (by omega), List.take_of_length_le h, List.take_of_length_le (by omega)]
theorem cut_nn {α : Type} (xs : List α) {lo hi : Int} (h0 : 0 ≤ lo) (h1 : 0 ≤ hi) : cutA xs (some lo) (some hi) = (xs.drop lo.toNat).take (hi.toNat - lo.toNat) := by
  unfold cutA
  rw [sIx_nn h0, sIx_nn h1]
  by_cases h : lo.toNat ≤ xs.length
  · rw [Nat.min_eq_left h]
    by_cases h2 : hi.toNat ≤ xs.length
    · rw [Nat.min_eq_left h2]
    · rw [Nat.min_eq_right (show xs.length ≤ hi.toNat by omega), List.take_of_length_le (by rw [List.length_drop]; omega), List.take_of_length_le (by rw [List.length_drop]; omega)]
  · rw [Nat.min_eq_right (show xs.length ≤ lo.toNat by omega), List.drop_of_length_le (Nat.le_refl _), List.drop_of_length_le (by omega), List.take_nil, List.take_nil]
theorem cut_xn {α : Type} (xs : List α) {hi : Int} (h1 : 0 ≤ hi) : cutA xs none (some hi) = xs.take hi.toNat := by
  unfold cutA
  rw [HT.sIx_none, sIx_nn h1, List.drop_zero, Nat.sub_zero, take_min _ _ _ (Nat.le_refl _)]
theorem cut_nx {α : Type} (xs : List α) {lo : Int} (h0 : 0 ≤ lo) : cutA xs (some lo) none = xs.drop lo.toNat := by
  unfold cutA
  rw [HT.sIx_none, sIx_nn h0]
  by_cases h : lo.toNat ≤ xs.length
  · rw [Nat.min_eq_left h, List.take_of_length_le (by rw [List.length_drop]; exact Nat.le_refl _)]
  · rw [Nat.min_eq_right (show xs.length ≤ lo.toNat by omega), List.drop_of_length_le (Nat.le_refl _), List.drop_of_length_le (by omega), List.take_nil]
theorem cut_xx {α : Type} (xs : List α) : cutA xs none none = xs := by
  unfold cutA
  rw [HT.sIx_none, HT.sIx_none, List.drop_zero, Nat.sub_zero, List.take_length]

theorem atI_rng {α : Type} {f : Nat → α} {n k : Nat} (h : k < n) : L2.atI ((List.range n).map f) (k : Int) = some (f k) := atI_ok (by omega) (by rw [Int.toNat_natCast, List.getElem?_map, List.getElem?_range h]; rfl)
theorem atI_rngI {g : Nat → Int} {n k : Nat} (h : k < n) : L2.atI (((List.range n).map g).map PyData.int) (k : Int) = some (.int (g k)) := by rw [List.map_map]; exact atI_rng h
theorem atI_liN {ns : List Int} {k : Nat} (h1 : k < ns.length) : L2.atI (ns.map PyData.int) (k : Int) = some (.int (ns.getD k 0)) := by rw [atI_li (by omega) (by omega), Int.toNat_natCast]
end PV
end
section
set_option Elab.async false
set_option linter.all false
set_option maxRecDepth 100000
set_option maxHeartbeats 4000000
namespace PV
open PySem PySem.Spec PySem.Calls PyProof.Rows L2

/-! ### except clauses that name the error, as many as there are -/
/-- where such a suite leads: its name is gone -/
abbrev gonE (i : Nat) (D : Ends) : Ends := { nx := fun σ1 H1 => D.nx (σ1.set i none) H1, rt := D.rt, bk := fun σ1 H1 => D.bk (σ1.set i none) H1, ct := fun σ1 H1 => D.ct (σ1.set i none) H1 }
abbrev Hnd := Value × Option Nat × (Addr → Value → Option Addr → TS)
abbrev hE (i : Option Nat) (D : Ends) : Ends := match i with
  | some i => gonE i D
  | none => D
abbrev hS (i : Option Nat) (σ : Sg) (a : Addr) : Sg := match i with
  | some i => σ.set i (some (.ref a))
  | none => σ
def wHs (K : PySem.W.Frag) (Wo : WX) (D : Ends) : List Hnd → WX
  | [] => Wo
  | (c, i, ts) :: r => fun q d σ H => ∃ b, PySem.W.exmOne K q c = some b ∧ (b = true → ∀ a, H a = none → ts a q d (hE i D) (hS i σ a) H) ∧ (b = false → wHs K Wo D r q d σ H)
inductive HsOk (X : Cx) : List ExceptHandler → List Hnd → Prop
  | nil : HsOk X [] []
  | cons {x n : Str} {c : Value} {i : Nat} {ts : Addr → Value → Option Addr → TS} {b0 : Stmt} {sts : List Stmt} {p1 p2 : Pos} {es : List ExceptHandler} {l : List Hnd} (hc : Names X x c) (hi : X.N[i]? = some n) (hl : X.env.kindOf n = some .local)
      (hsu : ∀ (a : Addr) (o : Obj) (q : Value) (d : Option Addr) (pn : List (Addr × Obj)), Zc q d o → (∃ vs, o.data = .fields vs) → PSs (X.suite a ((a, o) :: pn)) (b0 :: sts) (ts a q d)) (r : HsOk X es l) :
      HsOk X (.ExceptHandler (some (.Name x p1)) (some n) (b0 :: sts) p2 :: es) ((c, some i, ts) :: l)
  | consN {x : Str} {c : Value} {ts : Addr → Value → Option Addr → TS} {b0 : Stmt} {sts : List Stmt} {p1 p2 : Pos} {es : List ExceptHandler} {l : List Hnd} (hc : Names X x c)
      (hsu : ∀ (a : Addr) (o : Obj) (q : Value) (d : Option Addr) (pn : List (Addr × Obj)), Zc q d o → (∃ vs, o.data = .fields vs) → PSs (X.suite a ((a, o) :: pn)) (b0 :: sts) (ts a q d)) (r : HsOk X es l) :
      HsOk X (.ExceptHandler (some (.Name x p1)) none (b0 :: sts) p2 :: es) ((c, none, ts) :: l)
section
variable {X : Cx} {body : List Stmt} {e0 : ExceptHandler} {es : List ExceptHandler} {l : List Hnd} {pos : Pos} {tb : WX → TS} {Wo : WX}
theorem ps_tryN (h1 : X.stack = X.env :: X.outer) (h2 : X.env.frame = some X.env.locals) (nd : X.N.Nodup) (tk : Takes X Wo)
    (hb : ∀ (W : WX) (pn : List (Addr × Obj)) (xe : Value → Shared → Prop), Takes (X.tr pn xe) W → PassesOwn (model X.prog X.w) X.A X.env xe → PSs (X.tr pn xe) body (tb W))
    (hh : HsOk X (e0 :: es) l) : PS X (.Try body (e0 :: es) [] [] pos) (fun D σ H => tb (wHs X.K Wo D l) D σ H) := by
  refine ⟨fun pn0 s0 σ0 H0 D0 J0 q0 => ?_⟩
  have okX := J0.ok
  have frX : X.A.frames = some (X.env :: X.outer) := by rw [okX.frames, h1]
  refine wpAny_Try_except ?_
  have run := (hb (wHs X.K Wo D0 l) (X.pn ++ pn0) (fun u s₁ => wpAny (model X.prog X.w) X.A (noteFrame u X.env) (fun _ s₂ => wpAny (model X.prog X.w) X.A (setFlight u none) (fun _ s₃ =>
    wpAny (model X.prog X.w) X.A (handleBy u X.env (e0 :: es)) (SP X pn0 D0) X.xe s₃) X.xe s₂) X.xe s₁) (fun u s1 xx => ?_) PassesOwn.looking).run [] s0 σ0 H0 D0 (J0.toTry _) q0
  · refine wpAny_mono run (fun fl s1 out => ?_) (fun _ _ z => z)
    cases fl with
    | next =>
      obtain ⟨σ1, H1, J1, w1⟩ := out
      exact wpAny_execs_nil ⟨σ1, H1, J1.ofTry okX, w1⟩
    | brk =>
      obtain ⟨σ1, H1, J1, w1⟩ := out
      exact ⟨σ1, H1, J1.ofTry okX, w1⟩
    | cont =>
      obtain ⟨σ1, H1, J1, w1⟩ := out
      exact ⟨σ1, H1, J1.ofTry okX, w1⟩
    | ret u =>
      obtain ⟨v1, σ1, H1, J1, r1, w1⟩ := out
      exact ⟨v1, σ1, H1, J1.ofTry okX, r1, w1⟩
  · obtain ⟨a, B, sI, pn1, σ1, H1, q, d, rfl, J1, nb, up, sk, na, eo, ag, wz⟩ := xx
    have J2 : Inv X pn0 σ1 H1 sI := J1.ofTry okX
    have sk2 : Sky B (X.env :: X.outer) a (Zc q d) X.env.locals s1.heap := by rw [← h1]; exact sk
    show wpAny (model X.prog X.w) X.A (noteFrame (.ref a) X.env) _ _ _
    refine Sky.land Zc.steady frX h2 sk2 fun g3 f3 u3 => ?_
    have J3 : Inv X pn0 σ1 H1 { s1 with heap := g3 } := J2.landed nb f3.1 (up.trans u3) eo ag
    obtain ⟨o3, v3, y3, z3, d3⟩ := f3.there
    have off : a ∉ frs (X.env :: X.outer) := fun hm => by
      obtain ⟨_, o', e', hnf⟩ := f3.2.2.1.mem hm
      rw [y3] at e'
      cases e'
      exact hnf _ d3
    have offL : a ≠ X.env.locals := fun z => off (List.mem_filterMap.mpr ⟨X.env, List.mem_cons_self, by rw [h2, z]⟩)
    have offF : a ∉ X.fs := fun hm => by
      obtain ⟨v, hv, w⟩ := List.mem_filterMap.mp hm
      exact off (List.mem_filterMap.mpr ⟨v, List.mem_cons_of_mem _ hv, w⟩)
    have S3 := J3.suite y3 d3 na offL offF
    have ty : PySem.W.Looks (model X.prog X.w) g3 (typeOf (.ref a)) q := fun _ _ _ _ k w => wpAny_typeOf_ref (k _ _ y3) (by rw [z3.1]; exact w)
    have go : ∀ {es' : List ExceptHandler} {l' : List Hnd}, HsOk X es' l' → wHs X.K Wo D0 l' q d σ1 H1 → wpAny (model X.prog X.w) X.A (handleBy (.ref a) X.env es') (SP X pn0 D0) X.xe { s1 with heap := g3 } := by
      intro es' l' hk
      induction hk with
      | nil =>
        intro wo
        refine wpAny_handleBy_nil ?_
        obtain ⟨k1, k2, k3, oe, vs, T, oT, ts', he, hz, hd, hT, hr⟩ := id f3
        unfold PySem.passOn
        refine wpAny_bind (wpAny_field he hd hT ?_)
        rw [if_neg (show ¬ ((Value.ref T == Value.none) = true) from by simp)]
        have last : wpAny (model X.prog X.w) X.A (setFlight (.ref a) X.env.frame) (fun _ s4 => wpAny (model X.prog X.w) X.A (throw (.ref a) : Sem Flow) (SP X pn0 D0) X.xe s4) X.xe { s1 with heap := g3 } := by
          rw [h2]
          refine HandSPX.setFlight_upZ f3 fun g4 y4 u4 => wpAny_throw (tk _ _ ?_)
          exact ⟨a, B, sI, pn0, σ1, H1, q, d, rfl, J2, nb, (up.trans u3).trans u4, .inr (.inr (by rw [h1]; exact y4)), na, eo, ag, wo⟩
        first
          | exact wpAny_bind (wpAny_pure (wpAny_bind last))
          | exact wpAny_bind last
      | @cons x n c i ts b0 sts p1 p2 es2 l2 hc hi hl hsu r ih =>
        intro wo
        obtain ⟨b, w1, w2, w3⟩ := wo
        refine wpAny_handleBy_cons (codeAny_handlers_test ?_) (by intro z; cases z)
        have mt := PySem.W.exm_one (M := model X.prog X.w) (J3.kIn) ty w1
        have name : ∀ {Q E : Value → Shared → Prop}, Q c { s1 with heap := g3 } → wpAny (model X.prog X.w) (X.A.mark (some (.ref a))) (eval (.Name x p1) X.env) Q E { s1 with heap := g3 } := fun {Q E} w => by
          obtain ⟨hg, hdb, hm | ⟨hm, hv, hnn⟩⟩ := hc
          · exact ld_glob (X := X.suite a ((a, o3) :: (X.pn ++ pn0))) S3 hg hm w hdb
          · exact ld_blt (X := X.suite a ((a, o3) :: (X.pn ++ pn0))) S3 hg hm hv w hnn hdb
        refine name (mt.here ?_)
        cases b with
        | false =>
          show wpAny _ X.A (handleBy (.ref a) X.env es2) _ _ _
          exact ih (w3 rfl)
        | true =>
          refine codeAny_handlers_suite_as ?_
          refine HandSPX.lands_againZ f3 fun g4 f4 u4 => ?_
          have J4 : Inv X pn0 σ1 H1 { s1 with heap := g4 } := J2.landed nb f4.1 ((up.trans u3).trans u4) eo ag
          obtain ⟨o4, v4, y4, z4, d4⟩ := f4.there
          have S4 := J4.suite y4 d4 na offL offF
          refine store_ok (X := X.suite a ((a, o4) :: (X.pn ++ pn0))) (v := .ref a) S4 nd hi (.inl hl) rfl (fun s5 S5 => ?_) (.inr hl)
          refine wpAny_mono ((hsu a o4 q d (X.pn ++ pn0) z4 ⟨_, d4⟩).run [] s5 _ H1 _ S5 (w2 rfl a na)) (fun fl s6 out => ?_) (fun _ _ z => z.elim)
          have fin : ∀ {σ6 : L2.St} {H6 : Hp} {Q : Shared → Prop}, Inv (X.suite a ((a, o4) :: (X.pn ++ pn0))) [] σ6 H6 s6 → (∀ s7, Inv X pn0 (σ6.set i none) H6 s7 → Q s7) →
              wpAny (model X.prog X.w) X.A (do bindName X.env n .none; unbindBehindTheSuite X.env n p2) (fun _ s7 => Q s7) X.xe s6 := fun {σ6 H6 Q} S6 w => gone_ok (S6.unsuite okX) nd hi hl w
          cases fl with
          | next =>
            obtain ⟨σ6, H6, S6, w6⟩ := out
            exact fin S6 fun s7 J7 => ⟨_, _, J7, w6⟩
          | brk =>
            obtain ⟨σ6, H6, S6, w6⟩ := out
            exact fin S6 fun s7 J7 => ⟨_, _, J7, w6⟩
          | cont =>
            obtain ⟨σ6, H6, S6, w6⟩ := out
            exact fin S6 fun s7 J7 => ⟨_, _, J7, w6⟩
          | ret u =>
            obtain ⟨v6, σ6, H6, S6, r6, w6⟩ := out
            exact fin S6 fun s7 J7 => ⟨_, _, _, J7, r6, w6⟩
      | @consN x c ts b0 sts p1 p2 es2 l2 hc hsu r ih =>
        intro wo
        obtain ⟨b, w1, w2, w3⟩ := wo
        refine wpAny_handleBy_cons (codeAny_handlers_test ?_) (by intro z; cases z)
        have mt := PySem.W.exm_one (M := model X.prog X.w) (J3.kIn) ty w1
        have name : ∀ {Q E : Value → Shared → Prop}, Q c { s1 with heap := g3 } → wpAny (model X.prog X.w) (X.A.mark (some (.ref a))) (eval (.Name x p1) X.env) Q E { s1 with heap := g3 } := fun {Q E} w => by
          obtain ⟨hg, hdb, hm | ⟨hm, hv, hnn⟩⟩ := hc
          · exact ld_glob (X := X.suite a ((a, o3) :: (X.pn ++ pn0))) S3 hg hm w hdb
          · exact ld_blt (X := X.suite a ((a, o3) :: (X.pn ++ pn0))) S3 hg hm hv w hnn hdb
        refine name (mt.here ?_)
        cases b with
        | false =>
          show wpAny _ X.A (handleBy (.ref a) X.env es2) _ _ _
          exact ih (w3 rfl)
        | true =>
          refine codeAny_handlers_suite ?_
          refine HandSPX.lands_againZ f3 fun g4 f4 u4 => ?_
          have J4 : Inv X pn0 σ1 H1 { s1 with heap := g4 } := J2.landed nb f4.1 ((up.trans u3).trans u4) eo ag
          obtain ⟨o4, v4, y4, z4, d4⟩ := f4.there
          have S4 := J4.suite y4 d4 na offL offF
          refine wpAny_mono ((hsu a o4 q d (X.pn ++ pn0) z4 ⟨_, d4⟩).run [] _ _ H1 _ S4 (w2 rfl a na)) (fun fl s6 out => ?_) (fun _ _ z => z.elim)
          cases fl with
          | next =>
            obtain ⟨σ6, H6, S6, w6⟩ := out
            exact ⟨_, _, S6.unsuite okX, w6⟩
          | brk =>
            obtain ⟨σ6, H6, S6, w6⟩ := out
            exact ⟨_, _, S6.unsuite okX, w6⟩
          | cont =>
            obtain ⟨σ6, H6, S6, w6⟩ := out
            exact ⟨_, _, S6.unsuite okX, w6⟩
          | ret u =>
            obtain ⟨v6, σ6, H6, S6, r6, w6⟩ := out
            exact ⟨_, _, _, S6.unsuite okX, r6, w6⟩
    exact go hh wz
end

/-! ### .. as a meaning -/
/-- no error is held any more -/
def dropX : Evn → Evn
  | [] => []
  | some (.exn _) :: r => none :: dropX r
  | some (.val d) :: r => some (.val d) :: dropX r
  | some (.own ds) :: r => some (.own ds) :: dropX r
  | some (.dic ds) :: r => some (.dic ds) :: dropX r
  | none :: r => none :: dropX r
theorem dropX_len : ∀ ρ : Evn, (dropX ρ).length = ρ.length
  | [] => rfl
  | none :: r => congrArg (· + 1) (dropX_len r)
  | some (.val _) :: r => congrArg (· + 1) (dropX_len r)
  | some (.own _) :: r => congrArg (· + 1) (dropX_len r)
  | some (.dic _) :: r => congrArg (· + 1) (dropX_len r)
  | some (.exn _) :: r => congrArg (· + 1) (dropX_len r)
theorem dropX_get : ∀ (ρ : Evn) (i : Nat) (c : Cel), (dropX ρ)[i]? = some (some c) → ρ[i]? = some (some c) ∧ ∀ x, c ≠ .exn x
  | [], _, _, h => by cases h
  | none :: r, 0, _, h => by cases h
  | some (.exn _) :: r, 0, _, h => by cases h
  | some (.val d) :: r, 0, _, h => by cases h; exact ⟨rfl, fun _ e => by cases e⟩
  | some (.own d) :: r, 0, _, h => by cases h; exact ⟨rfl, fun _ e => by cases e⟩
  | some (.dic d) :: r, 0, _, h => by cases h; exact ⟨rfl, fun _ e => by cases e⟩
  | none :: r, n + 1, c, h => dropX_get r n c h
  | some (.exn _) :: r, n + 1, c, h => dropX_get r n c h
  | some (.val _) :: r, n + 1, c, h => dropX_get r n c h
  | some (.own _) :: r, n + 1, c, h => dropX_get r n c h
  | some (.dic _) :: r, n + 1, c, h => dropX_get r n c h
def endX (i : Nat) : RS → RS
  | .ok (fl, ρ) => .ok (fl, (dropX ρ).set i none)
  | _ => .bad
def endN : RS → RS
  | .ok (fl, ρ) => .ok (fl, dropX ρ)
  | _ => .bad
/-- the clause that takes an error of class c -/
def catchM (sub : Str → Str → Bool) : List (Str × Option Nat × (Evn → RS)) → Str → Evn → RS
  | [], c, ρ => .exc c ρ
  | (h, some i, fs) :: r, c, ρ => if sub c h then (if i < ρ.length then endX i (fs (ρ.set i (some (.exn c)))) else .bad) else catchM sub r c ρ
  | (h, none, fs) :: r, c, ρ => if sub c h then endN (fs ρ) else catchM sub r c ρ
def sTry (L : List Str) (sub : Str → Str → Bool) (hs : List (Str × Option Nat × (Evn → RS))) (fb : Evn → RS) (ρ : Evn) : RS := match fb ρ with
  | .ok p => .ok p
  | .exc c ρ' => if c ∈ L then catchM sub hs c ρ' else .bad
  | .bad => .bad
/-- the suite's own Pm -/
abbrev Pm.inX (P : Pm) (a : Addr) (c : Str) : Pm := ⟨P.B, P.F0, fun _ _ _ _ => False, some (a, c)⟩
abbrev Pm.wi (P : Pm) (W : WX) : Pm := ⟨P.B, P.F0, W, P.E⟩
theorem Rep.inX {K : PySem.W.Frag} {P : Pm} {ρ : Evn} {F H : Hp} {σ : Sg} {i : Nat} {a : Addr} {c : Str} (hE : P.E = none) (r : Rep K P ρ F σ H) (hi : i < ρ.length) : Rep K (P.inX a c) (ρ.set i (some (.exn c))) F (σ.set i (some (.ref a))) H := by
  refine ⟨by rw [List.length_set, List.length_set]; exact r.len, r.ext, fun j x q => ?_, fun j k b ds es m1 m2 n q1 q2 q3 => ?_⟩
  · by_cases e : i = j
    · subst e
      rw [List.getElem?_set_self hi] at q
      cases q
      exact ⟨.ref a, by rw [List.getElem?_set_self (by rw [← r.len]; exact hi)], a, rfl, rfl⟩
    · rw [List.getElem?_set_ne e] at q
      obtain ⟨v, h1, h2⟩ := r.slot j x q
      refine ⟨v, by rw [List.getElem?_set_ne e]; exact h1, ?_⟩
      cases x with
      | val d => exact h2
      | own ds => exact h2
      | dic ds => exact h2
      | exn y =>
        obtain ⟨b, e1, _⟩ := h2
        rw [hE] at e1
        cases e1
  · have n1 : i ≠ j := fun e => by subst e; rw [List.getElem?_set_self hi] at q1; cases q1; cases m1
    have n2 : i ≠ k := fun e => by subst e; rw [List.getElem?_set_self hi] at q2; cases q2; cases m2
    rw [List.getElem?_set_ne n1] at q1 q3
    rw [List.getElem?_set_ne n2] at q2
    rw [List.getElem?_set_ne n2]
    exact r.sep j k b ds es m1 m2 n q1 q2 q3
theorem Rep.inN {K : PySem.W.Frag} {P : Pm} {ρ : Evn} {F H : Hp} {σ : Sg} {a : Addr} {c : Str} (hE : P.E = none) (r : Rep K P ρ F σ H) : Rep K (P.inX a c) ρ F σ H := by
  refine ⟨r.len, r.ext, fun j x q => ?_, r.sep⟩
  obtain ⟨v, h1, h2⟩ := r.slot j x q
  refine ⟨v, h1, ?_⟩
  cases x with
  | val d => exact h2
  | own ds => exact h2
  | dic ds => exact h2
  | exn y =>
    obtain ⟨b, e1, _⟩ := h2
    rw [hE] at e1
    cases e1
theorem Rep.outX {K : PySem.W.Frag} {P : Pm} {ρ : Evn} {F H : Hp} {σ : Sg} {a : Addr} {c : Str} (r : Rep K (P.inX a c) ρ F σ H) : Rep K P (dropX ρ) F σ H := by
  refine ⟨by rw [dropX_len]; exact r.len, r.ext, fun j x q => ?_, fun j k b ds es m1 m2 n q1 q2 q3 => ?_⟩
  · obtain ⟨q1, q2⟩ := dropX_get ρ j x q
    obtain ⟨v, h1, h2⟩ := r.slot j x q1
    refine ⟨v, h1, ?_⟩
    cases x with
    | val d => exact h2
    | own ds => exact h2
    | dic ds => exact h2
    | exn y => exact absurd rfl (q2 y)
  · exact r.sep j k b ds es m1 m2 n (dropX_get ρ j _ q1).1 (dropX_get ρ k _ q2).1 q3
theorem Rep.wi {K : PySem.W.Frag} {P : Pm} {W : WX} {ρ : Evn} {F H : Hp} {σ : Sg} : Rep K (P.wi W) ρ F σ H ↔ Rep K P ρ F σ H :=
  ⟨fun r => ⟨r.len, r.ext, r.slot, r.sep⟩, fun r => ⟨r.len, r.ext, r.slot, r.sep⟩⟩
/-- what a clause's suite does -/
def tsX (X : Cx) (P : Pm) (L : List Str) (fs : Evn → RS) : Addr → Value → Option Addr → TS := fun a q d D σ H => ∃ c C ρ F, c ∈ L ∧ q = .ref C ∧ d = none ∧ X.mg c = some (.ref C) ∧ Rep X.K (P.inX a c) ρ F σ H ∧ OutS X (P.inX a c) D F (fs ρ)
/-- the clauses -/
inductive HV (X : Cx) (P : Pm) (L : List Str) (sub : Str → Str → Bool) : List ExceptHandler → List (Str × Option Nat × (Evn → RS)) → List Hnd → Prop
  | nil : HV X P L sub [] [] []
  | cons {x n : Str} {cv : Value} {i : Nat} {fs : Evn → RS} {b0 : Stmt} {sts : List Stmt} {p1 p2 : Pos} {es : List ExceptHandler} {hs : List (Str × Option Nat × (Evn → RS))} {l : List Hnd} (hc : Names X x cv) (hi : X.N[i]? = some n) (hl : X.env.kindOf n = some .local)
      (hx : ∀ c C, c ∈ L → X.mg c = some (.ref C) → PySem.W.exmOne X.K (.ref C) cv = some (sub c x))
      (hsu : ∀ (a : Addr) (o : Obj) (c : Str) (C : Addr) (pn : List (Addr × Obj)), c ∈ L → X.mg c = some (.ref C) → Zc (.ref C) none o → (∃ vs, o.data = .fields vs) → VSs (X.suite a ((a, o) :: pn)) (P.inX a c) (b0 :: sts) fs) (r : HV X P L sub es hs l) :
      HV X P L sub (.ExceptHandler (some (.Name x p1)) (some n) (b0 :: sts) p2 :: es) ((x, some i, fs) :: hs) ((cv, some i, tsX X P L fs) :: l)
  | consN {x : Str} {cv : Value} {fs : Evn → RS} {b0 : Stmt} {sts : List Stmt} {p1 p2 : Pos} {es : List ExceptHandler} {hs : List (Str × Option Nat × (Evn → RS))} {l : List Hnd} (hc : Names X x cv)
      (hx : ∀ c C, c ∈ L → X.mg c = some (.ref C) → PySem.W.exmOne X.K (.ref C) cv = some (sub c x))
      (hsu : ∀ (a : Addr) (o : Obj) (c : Str) (C : Addr) (pn : List (Addr × Obj)), c ∈ L → X.mg c = some (.ref C) → Zc (.ref C) none o → (∃ vs, o.data = .fields vs) → VSs (X.suite a ((a, o) :: pn)) (P.inX a c) (b0 :: sts) fs) (r : HV X P L sub es hs l) :
      HV X P L sub (.ExceptHandler (some (.Name x p1)) none (b0 :: sts) p2 :: es) ((x, none, fs) :: hs) ((cv, none, tsX X P L fs) :: l)
section
variable {X : Cx} {P : Pm} {L : List Str} {sub : Str → Str → Bool} {body : List Stmt} {e0 : ExceptHandler} {es : List ExceptHandler} {hs : List (Str × Option Nat × (Evn → RS))} {l : List Hnd} {pos : Pos} {fb : Evn → RS}
theorem HV.ok (h : HV X P L sub es hs l) : HsOk X es l := by
  induction h with
  | nil => exact .nil
  | cons hc hi hl hx hsu r ih =>
    refine .cons hc hi hl (fun a o q d pn z w => ⟨fun pins s σ H D I t => ?_⟩) ih
    obtain ⟨c, C, ρ, F, h1, rfl, rfl, h2, h3, h4⟩ := t
    exact (hsu a o c C pn h1 h2 z w).run pins s σ H D I ⟨ρ, F, h3, h4⟩
  | consN hc hx hsu r ih =>
    refine .consN hc (fun a o q d pn z w => ⟨fun pins s σ H D I t => ?_⟩) ih
    obtain ⟨c, C, ρ, F, h1, rfl, rfl, h2, h3, h4⟩ := t
    exact (hsu a o c C pn h1 h2 z w).run pins s σ H D I ⟨ρ, F, h3, h4⟩
theorem HV.catch (hE : P.E = none) (h : HV X P L sub es hs l) {D : Ends} {c : Str} {C : Addr} {ρ : Evn} {F F' H' : Hp} {σ' : Sg} (hc : c ∈ L) (hm : X.mg c = some (.ref C)) (sf : Same F F') (r : Rep X.K P ρ F' σ' H')
    (o : OutS X P D F (catchM sub hs c ρ)) : wHs X.K P.W D l (.ref C) none σ' H' := by
  induction h with
  | nil => exact o C σ' H' F' hm sf r
  | @cons x n cv i fs b0 sts p1 p2 es hs l hcn hi hln hx hsu rr ih =>
    refine ⟨sub c x, hx c C hc hm, fun hb a na => ?_, fun hb => ?_⟩
    · unfold catchM at o
      rw [if_pos hb] at o
      have hl : i < ρ.length := by
        by_cases hl : i < ρ.length
        · exact hl
        · rw [if_neg hl] at o
          exact o.elim
      rw [if_pos hl] at o
      refine ⟨c, C, ρ.set i (some (.exn c)), F', hc, rfl, rfl, hm, r.inX hE hl, ?_⟩
      cases q : fs (ρ.set i (some (.exn c))) with
      | bad => rw [q] at o; exact o.elim
      | exc c' ρ' => rw [q] at o; exact o.elim
      | ok p =>
        obtain ⟨fl, ρ'⟩ := p
        rw [q] at o
        cases fl with
        | nx => exact fun σ1 H1 F1 s1 r1 => o _ H1 F1 (sf.trans s1) (Rep.setNone (Rep.outX r1))
        | bk => exact fun σ1 H1 F1 s1 r1 => o _ H1 F1 (sf.trans s1) (Rep.setNone (Rep.outX r1))
        | ct => exact fun σ1 H1 F1 s1 r1 => o _ H1 F1 (sf.trans s1) (Rep.setNone (Rep.outX r1))
        | rt d => exact fun v σ1 H1 F1 s1 r1 hv => o v _ H1 F1 (sf.trans s1) (Rep.setNone (Rep.outX r1)) hv
    · unfold catchM at o
      rw [hb, if_neg (by decide)] at o
      exact ih o
  | @consN x cv fs b0 sts p1 p2 es hs l hcn hx hsu rr ih =>
    refine ⟨sub c x, hx c C hc hm, fun hb a na => ?_, fun hb => ?_⟩
    · unfold catchM at o
      rw [if_pos hb] at o
      refine ⟨c, C, ρ, F', hc, rfl, rfl, hm, r.inN hE, ?_⟩
      cases q : fs ρ with
      | bad => rw [q] at o; exact o.elim
      | exc c' ρ' => rw [q] at o; exact o.elim
      | ok p =>
        obtain ⟨fl, ρ'⟩ := p
        rw [q] at o
        cases fl with
        | nx => exact fun σ1 H1 F1 s1 r1 => o _ H1 F1 (sf.trans s1) (Rep.outX r1)
        | bk => exact fun σ1 H1 F1 s1 r1 => o _ H1 F1 (sf.trans s1) (Rep.outX r1)
        | ct => exact fun σ1 H1 F1 s1 r1 => o _ H1 F1 (sf.trans s1) (Rep.outX r1)
        | rt d => exact fun v σ1 H1 F1 s1 r1 hv => o v _ H1 F1 (sf.trans s1) (Rep.outX r1) hv
    · unfold catchM at o
      rw [hb, if_neg (by decide)] at o
      exact ih o
theorem vs_try (hE : P.E = none) (nd : X.N.Nodup) (tk : Takes X P.W) (hv : HV X P L sub (e0 :: es) hs l)
    (hb : ∀ (W : WX) (pn : List (Addr × Obj)) (xe : Value → Shared → Prop), Takes (X.tr pn xe) W → PassesOwn (model X.prog X.w) X.A X.env xe → VSs (X.tr pn xe) (P.wi W) body fb)
    (h1 : X.stack = X.env :: X.outer := by rfl) (h2 : X.env.frame = some X.env.locals := by rfl) : VS X P (.Try body (e0 :: es) [] [] pos) (sTry L sub hs fb) :=
  PS_mono (ps_tryN (tb := fun W => tS X (P.wi W) fb) h1 h2 nd tk (fun W pn xe t po => hb W pn xe t po) hv.ok) fun D σ H h => by
    obtain ⟨ρ, F, hR, h⟩ := h
    refine ⟨ρ, F, Rep.wi.mpr hR, ?_⟩
    unfold sTry at h
    cases q : fb ρ with
    | bad => rw [q] at h; exact h.elim
    | ok p =>
      rw [q] at h
      obtain ⟨fl, ρ'⟩ := p
      cases fl with
      | nx => exact fun σ1 H1 F1 s1 r1 => h σ1 H1 F1 s1 (Rep.wi.mp r1)
      | bk => exact fun σ1 H1 F1 s1 r1 => h σ1 H1 F1 s1 (Rep.wi.mp r1)
      | ct => exact fun σ1 H1 F1 s1 r1 => h σ1 H1 F1 s1 (Rep.wi.mp r1)
      | rt d => exact fun v σ1 H1 F1 s1 r1 hv => h v σ1 H1 F1 s1 (Rep.wi.mp r1) hv
    | exc c ρ' =>
      rw [q] at h
      intro C σ1 H1 F1 hm s1 r1
      by_cases hc : c ∈ L
      · simp only [if_pos hc] at h
        have r2 := Rep.wi.mp r1
        exact HV.catch hE hv hc hm s1 r2 h
      · simp only [if_neg hc] at h
        exact h.elim
end

/-! ### isinstance(e, T), e the error that is held -/
def mIsX (sub : Str → Str → Bool) (i : Nat) (x : Str) (ρ : Evn) : RE PyData := match ρ[i]? with
  | some (some (.exn c)) => .ok (.bool (sub c x))
  | _ => .bad
section
variable {X : Cx} {P : Pm} {a : Addr} {o : Obj} {c : Str} {C : Addr} {pn : List (Addr × Obj)} {sub : Str → Str → Bool} {pos p p1 p2 : Pos} {n x : Str}
theorem ve_isX {D : Addr} (i : Nat) (hz : Zc (.ref C) none o) (hf : ∃ vs, o.data = .fields vs) (ex : ExcC X.K C) (hk : PySem.W.kitOne X.K (.ref C) (.ref D) = some (sub c x)) (hg : Gl X "isinstance") (hm : X.mg "isinstance" = none) (hg2 : Gl X x) (hm2 : X.mg x = some (.ref D))
    (hN : X.N[i]? = some n := by rfl) (hv : Vis X.env.scope n := by first | exact Or.inl rfl | exact Or.inr (Or.inl rfl) | exact Or.inr (Or.inr rfl)) (hd : (n == ("__debug__" : Str)) = false := by decide) (hcd : (n == ("__classdict__" : Str)) = false := by decide) (hdb : (x == ("__debug__" : Str)) = false := by decide) :
    VE (X.suite a ((a, o) :: pn)) (P.inX a c) (.Call (.Name "isinstance" p) [.Name n p1, .Name x p2] [] pos) (mIsX sub i x) :=
  PE_mono (pe_callB (X := X.suite a ((a, o) :: pn)) (call_isE (X := X) ex hz hf) hg hm (by decide +kernel) (pa_cons (pe_var (X := X.suite a ((a, o) :: pn)) (i := i) hN hv hd hcd) (pa_cons (pe_glob (X := X.suite a ((a, o) :: pn)) (v := .ref D) hg2 hm2 rfl hdb) pa_nil))) fun σ H Q h => by
    obtain ⟨ρ, F, hR, h⟩ := h
    unfold mIsX at h
    split at h
    · rename_i c' q
      obtain ⟨v, h1, b, e1, e2⟩ := hR.slot i _ q
      cases e1
      subst e2
      exact ⟨_, h1, .ref D, .ref D, _, rfl, fun u hu => hu, hk, h _ H F (Ext.refl hR.fh) (.bl _)⟩
    · exact h.elim
theorem ve_isXb {T : String} (i : Nat) (hz : Zc (.ref C) none o) (hf : ∃ vs, o.data = .fields vs) (ex : ExcC X.K C) (hk : PySem.W.kitOne X.K (.ref C) (.type T) = some (sub c x)) (hg : Gl X "isinstance") (hm : X.mg "isinstance" = none) (hg2 : Gl X x) (hm2 : X.mg x = none) (hb : bootBuiltins x = some (.type T))
    (hN : X.N[i]? = some n := by rfl) (hv : Vis X.env.scope n := by first | exact Or.inl rfl | exact Or.inr (Or.inl rfl) | exact Or.inr (Or.inr rfl)) (hd : (n == ("__debug__" : Str)) = false := by decide) (hcd : (n == ("__classdict__" : Str)) = false := by decide) (hn : x ≠ "__name__" := by decide) (hdb : (x == ("__debug__" : Str)) = false := by decide) :
    VE (X.suite a ((a, o) :: pn)) (P.inX a c) (.Call (.Name "isinstance" p) [.Name n p1, .Name x p2] [] pos) (mIsX sub i x) :=
  PE_mono (pe_callB (X := X.suite a ((a, o) :: pn)) (call_isE (X := X) ex hz hf) hg hm (by decide +kernel) (pa_cons (pe_var (X := X.suite a ((a, o) :: pn)) (i := i) hN hv hd hcd) (pa_cons (pe_bltn (X := X.suite a ((a, o) :: pn)) (v := .ty T) hg2 hm2 hb rfl hn hdb) pa_nil))) fun σ H Q h => by
    obtain ⟨ρ, F, hR, h⟩ := h
    unfold mIsX at h
    split at h
    · rename_i c' q
      obtain ⟨v, h1, b, e1, e2⟩ := hR.slot i _ q
      cases e1
      subst e2
      exact ⟨_, h1, .ty T, .type T, _, rfl, fun u hu => hu, hk, h _ H F (Ext.refl hR.fh) (.bl _)⟩
    · exact h.elim
end
/-! ### raise X('m') -/
section
variable {X : Cx} {P : Pm} {C : Addr} {bmB : List Value} {B newId initId : String} {x m : Str} {j : Nat} {p p2 pos pos' : Pos}
theorem vs_raise (hc : X.calm = true) (tk : Takes X P.W) (F : ExcBaseFacts B newId initId bmB) (q : PySem.W.excIn X.K C bmB newId = true) (gC : X.mg x = some (.ref C)) (kC : PySem.W.keepIn X.K (.ref C) = true) (r : Raises X (.ref C)) (hg : Gl X x) (hdb : (x == ("__debug__" : Str)) = false := by decide) :
    VS X P (.Raise (some (.Call (.Name x p) [.Constant (.str m) j p2] [] pos)) none pos') (fun ρ => .exc x ρ) := PS_mono (ps_raise hc tk (pmk_own F q gC kC r hg hdb)) fun D σ H h => by
  obtain ⟨ρ, F, hR, h⟩ := h
  exact h C σ H F gC (Same.refl _) hR
/-- nothing is claimed of a statement -/
theorem vs_bad {st : Stmt} : VS X P st (fun _ => .bad) := ⟨fun pins s σ H D I h => by
  obtain ⟨ρ, F, hR, h⟩ := h
  exact h.elim⟩
theorem ve_bad {e : Expr} : VE X P e (fun _ => .bad) := ⟨fun pins s σ H Q I h => by
  obtain ⟨ρ, F, hR, h⟩ := h
  exact h.elim⟩
end
end PV
end
section
set_option Elab.async false
set_option linter.all false
set_option maxRecDepth 100000
set_option maxHeartbeats 4000000
namespace PV
open PySem PySem.Spec PySem.Calls PyProof.Rows L2

/-! ### the program's own error classes -/
def isxB (K : PySem.W.Frag) (D : Addr) : Bool :=
  decide (PySem.W.findIn K (.ref D) "__getattribute__" = some (some (.builtin "BaseException.__getattribute__"))) && (decide (PySem.W.findIn K (.ref D) "__getattr__" = some none) && (decide (PySem.W.subIn K (.ref D) (.type "BaseException") = some true) &&
  (PySem.W.hasDictIn K D && (decide (PySem.W.findIn K (.ref D) "__class__" = some (some (.builtin "object.__class__"))) && (decide (PySem.W.specialIn K (.builtin "object.__class__") "__get__" = some (some (.builtin "getset_descriptor.__get__"))) &&
  (decide (PySem.W.takesIn K (.builtin "object.__class__") = some true) && decide (PySem.W.mroIn K D (.type "object") = some true)))))))
theorem isx_ok {K : PySem.W.Frag} {D : Addr} (h : isxB K D = true) : ExcC K D := by
  simp only [isxB, Bool.and_eq_true, decide_eq_true_eq] at h
  obtain ⟨h1, h2, h3, h4, h5, h6, h7, h8⟩ := h
  exact ⟨h1, h2, h3, h4, h5, h6, h7, h8⟩
/-- what is asked of the classes of the list L; sub tells which is under which -/
def excsB (L : List Str) (sub : Str → Str → Bool) (K : PySem.W.Frag) : Bool := L.all fun c => (He.Fa.exc c).ok K && (isxB K (He.ga K c) && (decide (PySem.W.kitOne K (.ref (He.ga K c)) (.type "ValueError") = some (sub c "ValueError")) &&
  (L.all fun x => decide (PySem.W.exmOne K (.ref (He.ga K c)) (.ref (He.ga K x)) = some (sub c x)) && decide (PySem.W.kitOne K (.ref (He.ga K c)) (.ref (He.ga K x)) = some (sub c x)))))
structure ExAll (K : PySem.W.Frag) (mg : Str → Option Value) (L : List Str) (sub : Str → Str → Bool) : Prop where
  mg : ∀ c ∈ L, mg c = some (.ref (He.ga K c))
  ins : ∀ c ∈ L, PySem.W.excIn K (He.ga K c) He.veBase "ValueError.__new__" = true
  kp : ∀ c ∈ L, PySem.W.keepIn K (.ref (He.ga K c)) = true
  be : ∀ c ∈ L, PySem.W.subIn K (.ref (He.ga K c)) (.type "BaseException") = some true ∧ PySem.W.typeIn K (.ref (He.ga K c)) = some (.type "type")
  isx : ∀ c ∈ L, ExcC K (He.ga K c)
  kv : ∀ c ∈ L, PySem.W.kitOne K (.ref (He.ga K c)) (.type "ValueError") = some (sub c "ValueError")
  exm : ∀ c ∈ L, ∀ x ∈ L, PySem.W.exmOne K (.ref (He.ga K c)) (.ref (He.ga K x)) = some (sub c x)
  kit : ∀ c ∈ L, ∀ x ∈ L, PySem.W.kitOne K (.ref (He.ga K c)) (.ref (He.ga K x)) = some (sub c x)
theorem exAll_of {L : List Str} {sub : Str → Str → Bool} {K : PySem.W.Frag} {mg : Str → Option Value} (h : excsB L sub K = true) (hm : ∀ c ∈ L, mg c = some (.ref (He.ga K c))) : ExAll K mg L sub := by
  have key : ∀ c ∈ L, _ := fun c hc => List.all_eq_true.mp h c hc
  simp only [Bool.and_eq_true, decide_eq_true_eq, List.all_eq_true] at key
  exact ⟨hm, fun c hc => (He.exc_ok (key c hc).1).1, fun c hc => (He.exc_ok (key c hc).1).2.1, fun c hc => (He.exc_ok (key c hc).1).2.2, fun c hc => isx_ok (key c hc).2.1, fun c hc => (key c hc).2.2.1, fun c hc x hx => ((key c hc).2.2.2 x hx).1, fun c hc x hx => ((key c hc).2.2.2 x hx).2⟩
section
variable {X : Cx} {P : Pm} {L : List Str} {sub : Str → Str → Bool} {x m n c : Str} {j : Nat} {a C : Addr} {o : Obj} {pn : List (Addr × Obj)} {p p1 p2 pos pos' : Pos}
theorem vs_rai (hc : X.calm = true) (tk : Takes X P.W) (ex : ExAll X.K X.mg L sub) (hx : x ∈ L) (hg : Gl X x) (hdb : (x == ("__debug__" : Str)) = false := by decide) :
    VS X P (.Raise (some (.Call (.Name x p) [.Constant (.str m) j p2] [] pos)) none pos') (fun ρ => .exc x ρ) :=
  vs_raise hc tk PySem.F.excBase_ValueError (ex.ins x hx) (ex.mg x hx) (ex.kp x hx) (raises_own (ex.be x hx).1 (ex.be x hx).2) hg hdb
theorem ve_isx (i : Nat) (ex : ExAll X.K X.mg L sub) (hx : x ∈ L) (hcL : c ∈ L) (hC : X.mg c = some (.ref C)) (hz : Zc (.ref C) none o) (hf : ∃ vs, o.data = .fields vs) (hg : Gl X "isinstance") (hm : X.mg "isinstance" = none) (hg2 : Gl X x)
    (hN : X.N[i]? = some n := by rfl) (hv : Vis X.env.scope n := by first | exact Or.inl rfl | exact Or.inr (Or.inl rfl) | exact Or.inr (Or.inr rfl)) (hd : (n == ("__debug__" : Str)) = false := by decide) (hcd : (n == ("__classdict__" : Str)) = false := by decide) (hdb : (x == ("__debug__" : Str)) = false := by decide) :
    VE (X.suite a ((a, o) :: pn)) (P.inX a c) (.Call (.Name "isinstance" p) [.Name n p1, .Name x p2] [] pos) (mIsX sub i x) := by
  have e := (ex.mg c hcL).symm.trans hC
  cases e
  exact ve_isX i hz hf (ex.isx c hcL) (ex.kit c hcL x hx) hg hm hg2 (ex.mg x hx) hN hv hd hcd hdb
theorem ve_isv (i : Nat) (ex : ExAll X.K X.mg L sub) (hcL : c ∈ L) (hC : X.mg c = some (.ref C)) (hz : Zc (.ref C) none o) (hf : ∃ vs, o.data = .fields vs) (hg : Gl X "isinstance") (hm : X.mg "isinstance" = none) (hg2 : Gl X "ValueError") (hm2 : X.mg "ValueError" = none)
    (hN : X.N[i]? = some n := by rfl) (hv : Vis X.env.scope n := by first | exact Or.inl rfl | exact Or.inr (Or.inl rfl) | exact Or.inr (Or.inr rfl)) (hd : (n == ("__debug__" : Str)) = false := by decide) (hcd : (n == ("__classdict__" : Str)) = false := by decide) :
    VE (X.suite a ((a, o) :: pn)) (P.inX a c) (.Call (.Name "isinstance" p) [.Name n p1, .Name "ValueError" p2] [] pos) (mIsX sub i "ValueError") := by
  have e := (ex.mg c hcL).symm.trans hC
  cases e
  exact ve_isXb i hz hf (ex.isx c hcL) (ex.kv c hcL) hg hm hg2 hm2 (by decide +kernel) hN hv hd hcd
theorem hv_nil : HV X P L sub [] [] [] := .nil
theorem hv_cons {i : Nat} {fs : Evn → RS} {b0 : Stmt} {sts : List Stmt} {es : List ExceptHandler} {hs : List (Str × Option Nat × (Evn → RS))} {l : List Hnd} (ex : ExAll X.K X.mg L sub) (hx : x ∈ L) (hg : Gl X x) (hi : X.N[i]? = some n) (hl : X.env.kindOf n = some .local)
    (hsu : ∀ (a : Addr) (o : Obj) (c : Str) (C : Addr) (pn : List (Addr × Obj)), c ∈ L → X.mg c = some (.ref C) → Zc (.ref C) none o → (∃ vs, o.data = .fields vs) → VSs (X.suite a ((a, o) :: pn)) (P.inX a c) (b0 :: sts) fs)
    (r : HV X P L sub es hs l) (hdb : (x == ("__debug__" : Str)) = false := by decide) :
    HV X P L sub (.ExceptHandler (some (.Name x p1)) (some n) (b0 :: sts) p2 :: es) ((x, some i, fs) :: hs) ((.ref (He.ga X.K x), some i, tsX X P L fs) :: l) :=
  .cons ⟨hg, hdb, .inl (ex.mg x hx)⟩ hi hl (fun c C hc hC => by
    have e := (ex.mg c hc).symm.trans hC
    cases e
    exact ex.exm c hc x hx) hsu r
theorem hv_consN {fs : Evn → RS} {b0 : Stmt} {sts : List Stmt} {es : List ExceptHandler} {hs : List (Str × Option Nat × (Evn → RS))} {l : List Hnd} (ex : ExAll X.K X.mg L sub) (hx : x ∈ L) (hg : Gl X x)
    (hsu : ∀ (a : Addr) (o : Obj) (c : Str) (C : Addr) (pn : List (Addr × Obj)), c ∈ L → X.mg c = some (.ref C) → Zc (.ref C) none o → (∃ vs, o.data = .fields vs) → VSs (X.suite a ((a, o) :: pn)) (P.inX a c) (b0 :: sts) fs)
    (r : HV X P L sub es hs l) (hdb : (x == ("__debug__" : Str)) = false := by decide) :
    HV X P L sub (.ExceptHandler (some (.Name x p1)) none (b0 :: sts) p2 :: es) ((x, none, fs) :: hs) ((.ref (He.ga X.K x), none, tsX X P L fs) :: l) :=
  .consN ⟨hg, hdb, .inl (ex.mg x hx)⟩ (fun c C hc hC => by
    have e := (ex.mg c hc).symm.trans hC
    cases e
    exact ex.exm c hc x hx) hsu r
end

/-- a name of the module that stands for a whole number -/
theorem ve_gint {X : Cx} {P : Pm} {x : Str} {i : Int} {p : Pos} (h : ∃ t, X.mg x = some (.int i t)) (hg : Gl X x := by rfl) (hdb : (x == ("__debug__" : Str)) = false := by decide) : VE X P (.Name x p) (mC (.int i)) := by
  obtain ⟨t, h⟩ := h
  exact PE_mono (pe_glob (v := .int i) hg h ⟨t, rfl⟩ hdb) fun σ H Q h => by
    obtain ⟨ρ, F, hR, h⟩ := h
    exact h _ H F (Ext.refl hR.fh) (.int _)
/-- a name of the module that stands for a text -/
theorem ve_gstr {X : Cx} {P : Pm} {x z : Str} {p : Pos} (h : ∃ t, X.mg x = some (.str z t)) (hg : Gl X x := by rfl) (hdb : (x == ("__debug__" : Str)) = false := by decide) (hs : PyData.strOk z = true := by decide +kernel) : VE X P (.Name x p) (mC (.str z)) := by
  obtain ⟨t, h⟩ := h
  exact PE_mono (pe_glob (v := .str z) hg h ⟨t, rfl⟩ hdb) fun σ H Q h => by
    obtain ⟨ρ, F, hR, h⟩ := h
    exact h _ H F (Ext.refl hR.fh) (.str z hs)
/-- a name of the module that stands for a tuple of whole numbers -/
def GTup (K : PySem.W.Frag) (mg : Str → Option Value) (x : Str) (is : List Int) : Prop := ∃ a, mg x = some (.ref a) ∧ ∃ (o : Obj) (its : Array Value) (n : Nat), K.lookup a = some o ∧ o.cls = .type "tuple" ∧ o.data = .seq its n ∧ its.size ≤ sizeLine ∧ Vals (is.map V.int) its.toList
def intsB : List Value → List Int → Bool
  | [], [] => true
  | .int i _ :: r, j :: s => decide (i = j) && intsB r s
  | _, _ => false
theorem intsB_ok : ∀ {us : List Value} {is : List Int}, intsB us is = true → Vals (is.map V.int) us
  | [], [], _ => .nil
  | .int i t :: r, j :: s, h => by
    simp only [intsB, Bool.and_eq_true, decide_eq_true_eq] at h
    obtain ⟨rfl, h⟩ := h
    exact .cons ⟨t, rfl⟩ (intsB_ok h)
  | [], _ :: _, h => by simp [intsB] at h
  | .int _ _ :: _, [], h => by simp [intsB] at h
def tupB (x : Str) (is : List Int) (K : PySem.W.Frag) : Bool := match K.lookup (He.ga K x) with
  | some o => decide (o.cls = .type "tuple") && (match o.data with
    | .seq its _ => decide (its.size ≤ 1000) && intsB its.toList is
    | _ => false)
  | none => false
theorem tup_of {x : Str} {is : List Int} {K : PySem.W.Frag} {mg : Str → Option Value} (h : tupB x is K = true) (hm : mg x = some (.ref (He.ga K x))) : GTup K mg x is := by
  refine ⟨_, hm, ?_⟩
  unfold tupB at h
  split at h
  · rename_i o q
    simp only [Bool.and_eq_true, decide_eq_true_eq] at h
    obtain ⟨h1, h2⟩ := h
    split at h2
    · rename_i its n e
      simp only [Bool.and_eq_true, decide_eq_true_eq] at h2
      exact ⟨o, its, n, q, h1, e, by rw [line_eq]; omega, intsB_ok h2.2⟩
    · cases h2
  · cases h
theorem ints_vd {K : PySem.W.Frag} {F : Hp} : ∀ is : List Int, VdAll K F (is.map V.int) (is.map PyData.int)
  | [] => .nil
  | i :: r => .cons (.int i) (ints_vd r)
theorem ve_gtup {X : Cx} {P : Pm} {x : Str} {is : List Int} {p : Pos} (h : GTup X.K X.mg x is) (hg : Gl X x := by rfl) (hdb : (x == ("__debug__" : Str)) = false := by decide) : VE X P (.Name x p) (mC (.tuple (is.map .int))) := by
  obtain ⟨a, hm, o, its, n, h1, h2, h3, h4, h5⟩ := h
  exact PE_mono (pe_glob (v := .ref a) hg hm rfl hdb) fun σ H Q h => by
    obtain ⟨ρ, F, hR, h⟩ := h
    exact h _ H F (Ext.refl hR.fh) (.tup (.inr ⟨o, its, n, h1, h2, h3, h4, h5⟩) (by rw [Vals.length h5]; rw [Array.length_toList]; exact h4) (ints_vd is))
/-! ### reckoned -/
/-- the error that a name holds -/
def gtX : Evn → Nat → Option Str
  | [], _ => none
  | some (.exn c) :: _, 0 => some c
  | some (.val _) :: _, 0 => none
  | some (.own _) :: _, 0 => none
  | some (.dic _) :: _, 0 => none
  | none :: _, 0 => none
  | _ :: r, n + 1 => gtX r n
@[simp] theorem gx_v (c : Str) (r : Evn) : gtX (some (.exn c) :: r) 0 = some c := nr rfl
@[simp] theorem gx_s (o : Option Cel) (r : Evn) (n : Nat) : gtX (o :: r) (n + 1) = gtX r n := by cases o with
  | none => rfl
  | some c => cases c <;> rfl
@[simp] theorem e_mIsX (sub : Str → Str → Bool) (i : Nat) (x : Str) (ρ : Evn) : mIsX sub i x ρ = (ofO (gtX ρ i)).bind fun c => .ok (.bool (sub c x)) := by
  unfold mIsX
  induction ρ generalizing i with
  | nil => rfl
  | cons o r ih => cases i with
    | zero => rcases o with _ | ⟨_ | _ | _⟩ <;> rfl
    | succ n => rw [List.getElem?_cons_succ, gx_s]; exact ih n
def tryC (L : List Str) (sub : Str → Str → Bool) (hs : List (Str × Option Nat × (Evn → RS))) : RS → RS
  | .ok p => .ok p
  | .exc c ρ => if c ∈ L then catchM sub hs c ρ else .bad
  | .bad => .bad
@[simp] theorem e_sTry (L : List Str) (sub : Str → Str → Bool) (hs : List (Str × Option Nat × (Evn → RS))) (fb : Evn → RS) (ρ : Evn) : sTry L sub hs fb ρ = tryC L sub hs (fb ρ) := by
  unfold sTry tryC
  cases fb ρ <;> rfl
@[simp] theorem tc_ok (L : List Str) (sub : Str → Str → Bool) (hs : List (Str × Option Nat × (Evn → RS))) (p : Fl × Evn) : tryC L sub hs (.ok p) = .ok p := nr rfl
@[simp] theorem tc_exc (L : List Str) (sub : Str → Str → Bool) (hs : List (Str × Option Nat × (Evn → RS))) (c : Str) (ρ : Evn) : tryC L sub hs (.exc c ρ) = if c ∈ L then catchM sub hs c ρ else .bad := nr rfl
@[simp] theorem cm_nil (sub : Str → Str → Bool) (c : Str) (ρ : Evn) : catchM sub [] c ρ = .exc c ρ := nr rfl
@[simp] theorem cm_cons (sub : Str → Str → Bool) (h : Str) (i : Nat) (fs : Evn → RS) (r : List (Str × Option Nat × (Evn → RS))) (c : Str) (ρ : Evn) : catchM sub ((h, i, fs) :: r) c ρ = if sub c h = true then (if i < ρ.length then endX i (fs (stE ρ i (.exn c))) else .bad) else catchM sub r c ρ := by
  rw [← set_stE]; exact id rfl
@[simp] theorem ex_ok (i : Nat) (fl : Fl) (ρ : Evn) : endX i (.ok (fl, ρ)) = .ok (fl, clE (dropX ρ) i) := by rw [← set_clE]; exact id rfl
@[simp] theorem dx_nil : dropX [] = [] := nr rfl
@[simp] theorem dx_v (d : PyData) (r : Evn) : dropX (some (.val d) :: r) = some (.val d) :: dropX r := nr rfl
@[simp] theorem dx_o (d : List PyData) (r : Evn) : dropX (some (.own d) :: r) = some (.own d) :: dropX r := nr rfl
@[simp] theorem dx_x (c : Str) (r : Evn) : dropX (some (.exn c) :: r) = none :: dropX r := nr rfl
@[simp] theorem dx_n (r : Evn) : dropX (none :: r) = none :: dropX r := nr rfl
@[simp] theorem at_exx (c : Str) (u : Unit) (ρ : Evn) : R.at (.exc c u : RE PyData) ρ = .exc c ρ := nr rfl
end PV
end
section
set_option Elab.async false
set_option linter.all false
set_option maxRecDepth 100000
set_option maxHeartbeats 4000000
namespace PV
open PySem

/-! ### likeness of plain data with themselves -/
theorem eqvAll_self : ∀ {xs : List PyData}, (∀ x ∈ xs, PyData.eqv x x = true) → PyData.eqvAll xs xs = true
  | [], _ => by simp only [PyData.eqvAll]
  | x :: r, h => by
    simp only [PyData.eqvAll]
    rw [h x (List.mem_cons_self ..), eqvAll_self (fun y hy => h y (List.mem_cons_of_mem _ hy))]
    rfl
theorem eqv_self : ∀ (k : Nat) (d : PyData), plainD k d → PyData.eqv d d = true
  | 0, _, h => h.elim
  | k + 1, .none, _ => by simp only [PyData.eqv]
  | k + 1, .bool b, _ => by simp [PyData.eqv]
  | k + 1, .int b, _ => by simp [PyData.eqv]
  | k + 1, .str b, _ => by simp [PyData.eqv]
  | k + 1, .list xs, h => by
    simp only [PyData.eqv]
    exact eqvAll_self fun x hx => eqv_self k x (h.2 x hx)
  | k + 1, .tuple xs, h => by
    simp only [PyData.eqv]
    exact eqvAll_self fun x hx => eqv_self k x (h.2 x hx)
  | k + 1, .dict _, h => h.elim
theorem depthAll_le {k : Nat} : ∀ {xs : List PyData}, (∀ x ∈ xs, x.depth ≤ k) → PyData.depthAll xs ≤ k
  | [], _ => Nat.zero_le _
  | x :: r, h => by
    simp only [PyData.depthAll]
    exact Nat.max_le.mpr ⟨h x (List.mem_cons_self ..), depthAll_le fun y hy => h y (List.mem_cons_of_mem _ hy)⟩
theorem depth_plain : ∀ (k : Nat) (d : PyData), plainD k d → d.depth ≤ k
  | 0, _, h => h.elim
  | k + 1, .none, _ => Nat.zero_le _
  | k + 1, .bool b, _ => Nat.zero_le _
  | k + 1, .int b, _ => Nat.zero_le _
  | k + 1, .str b, _ => Nat.zero_le _
  | k + 1, .list xs, h => by
    simp only [PyData.depth]
    exact Nat.succ_le_succ (depthAll_le fun x hx => depth_plain k x (h.2 x hx))
  | k + 1, .tuple xs, h => by
    simp only [PyData.depth]
    exact Nat.succ_le_succ (depthAll_le fun x hx => depth_plain k x (h.2 x hx))
  | k + 1, .dict _, h => h.elim
theorem eq_self {k : Nat} {d : PyData} (hk : k ≤ 64) (h : plainD k d) : pEq d d = some (.bool true) := by
  unfold pEq
  rw [if_pos (show eqOk d d from Or.inl (Nat.le_trans (depth_plain k d h) hk)), eqv_self k d h]
theorem ne_self {k : Nat} {d : PyData} (hk : k ≤ 64) (h : plainD k d) : pNe d d = some (.bool false) := by
  unfold pNe
  rw [if_pos (show eqOk d d from Or.inl (Nat.le_trans (depth_plain k d h) hk)), eqv_self k d h]
  rfl
open PySem.W in
theorem eq_pr (a b c d : Int) : pEq (.tuple [.int a, .int b]) (.tuple [.int c, .int d]) = some (.bool (decide ((a, b) = (c, d)))) := eq_dat (α := Int × Int) (by decide) (a, b) (c, d)
open PySem.W in
theorem ne_pr (a b c d : Int) : pNe (.tuple [.int a, .int b]) (.tuple [.int c, .int d]) = some (.bool (decide ((a, b) ≠ (c, d)))) := ne_dat (α := Int × Int) (by decide) (a, b) (c, d)

/-! ### greatest, least -/
theorem lmax_some {ns : List Int} (h : ns ≠ []) : ∃ m, lmax ns = some m ∧ m ∈ ns ∧ ∀ y ∈ ns, y ≤ m := by
  cases ns with
  | nil => exact absurd rfl h
  | cons n r =>
    obtain ⟨h1, h2, h3⟩ := foldl_max r n
    refine ⟨_, rfl, ?_, ?_⟩
    · rcases h1 with h1 | h1
      · rw [h1]; exact List.mem_cons_self ..
      · exact List.mem_cons_of_mem _ h1
    · intro y hy
      rcases List.mem_cons.mp hy with rfl | hy
      · exact h2
      · exact h3 y hy
theorem lmin_some {ns : List Int} (h : ns ≠ []) : ∃ m, lmin ns = some m ∧ m ∈ ns ∧ ∀ y ∈ ns, m ≤ y := by
  cases ns with
  | nil => exact absurd rfl h
  | cons n r =>
    obtain ⟨h1, h2, h3⟩ := foldl_min r n
    refine ⟨_, rfl, ?_, ?_⟩
    · rcases h1 with h1 | h1
      · rw [h1]; exact List.mem_cons_self ..
      · exact List.mem_cons_of_mem _ h1
    · intro y hy
      rcases List.mem_cons.mp hy with rfl | hy
      · exact h2
      · exact h3 y hy
/-! ### sizes -/
theorem log2_sz {i : Int} {a : Nat} (hi : i.natAbs < 2 ^ a) : i.natAbs.log2 ≤ a := by
  by_cases h : i.natAbs = 0
  · rw [h]; exact Nat.zero_le _
  · exact Nat.le_of_lt ((Nat.log2_lt h).mpr hi)
theorem mulOk_sz {i j : Int} {a b : Nat} (hi : i.natAbs < 2 ^ a) (hj : j.natAbs < 2 ^ b) (h : a + b ≤ 900000) : mulOk i j := by
  have h1 := log2_sz hi
  have h2 := log2_sz hj
  exact .inr (.inr (by omega))
theorem divOk_sz {j : Int} {b : Nat} (h0 : j ≠ 0) (hj : j.natAbs < 2 ^ b) (h : b < 9000) : divOk j := by
  have h1 := log2_sz hj
  exact ⟨h0, by omega⟩
theorem pow_le_pow2 {a b : Nat} (h : a ≤ b) : 2 ^ a ≤ 2 ^ b := Nat.pow_le_pow_right (by decide) h
theorem mul_sz {i j : Int} {a b : Nat} (hi : i.natAbs < 2 ^ a) (hj : j.natAbs < 2 ^ b) : (i * j).natAbs < 2 ^ (a + b) := by
  rw [Int.natAbs_mul, Nat.pow_add]
  exact Nat.mul_lt_mul'' hi hj
theorem add_sz {i j : Int} {a : Nat} (hi : i.natAbs < 2 ^ a) (hj : j.natAbs < 2 ^ a) : (i + j).natAbs < 2 ^ (a + 1) := by
  have := Int.natAbs_add_le i j
  rw [Nat.pow_succ]
  omega
theorem sub_sz {i j : Int} {a : Nat} (hi : i.natAbs < 2 ^ a) (hj : j.natAbs < 2 ^ a) : (i - j).natAbs < 2 ^ (a + 1) := by
  have := Int.natAbs_add_le i (-j)
  rw [Int.natAbs_neg] at this
  rw [Nat.pow_succ, Int.sub_eq_add_neg]
  omega

/-! ### fractions -/
abbrev qd (q : Rat) : PyData := .tuple [.int q.num, .int q.den]
def Sz (n : Nat) (q : Rat) : Prop := q.num.natAbs < 2 ^ n ∧ q.den < 2 ^ n
theorem Sz.mono {a b : Nat} {q : Rat} (h : Sz a q) (hab : a ≤ b) : Sz b q := ⟨Nat.lt_of_lt_of_le h.1 (pow_le_pow2 hab), Nat.lt_of_lt_of_le h.2 (pow_le_pow2 hab)⟩
theorem Sz.dn {a : Nat} {q : Rat} (h : Sz a q) : (q.den : Int).natAbs < 2 ^ a := by rw [Int.natAbs_natCast]; exact h.2
theorem den_pos (q : Rat) : (0 : Int) < q.den := by have := q.den_pos; omega
theorem divInt_parts {t b : Int} (hb : 0 < b) : (Rat.divInt t b).num = t / ((Nat.gcd t.natAbs b.natAbs : Nat) : Int) ∧ (((Rat.divInt t b).den : Nat) : Int) = b / ((Nat.gcd t.natAbs b.natAbs : Nat) : Int) := by
  have h1 := Rat.num_divInt t b
  have h2 := Rat.den_divInt t b
  have e : b.gcd t = Nat.gcd t.natAbs b.natAbs := by rw [Int.gcd, Nat.gcd_comm]
  rw [e] at h1 h2
  constructor
  · rw [h1, Int.sign_eq_one_of_pos hb, Int.one_mul]
  · rw [h2, if_neg (by omega), Int.natCast_ediv, Int.natAbs_of_nonneg (by omega)]
theorem divInt_flip (t b : Int) (hb : b ≠ 0) : Rat.divInt (-t) (-b) = Rat.divInt t b := (Rat.divInt_eq_divInt_iff (by omega) hb).mpr (by rw [Int.neg_mul, Int.mul_neg])
theorem divInt_sz {t b : Int} {n : Nat} (hb : b ≠ 0) (h1 : t.natAbs < 2 ^ n) (h2 : b.natAbs < 2 ^ n) : Sz n (Rat.divInt t b) := by
  have key : ∀ (t b : Int), 0 < b → t.natAbs < 2 ^ n → b.natAbs < 2 ^ n → Sz n (Rat.divInt t b) := by
    intro t b hb h1 h2
    obtain ⟨e1, e2⟩ := divInt_parts (t := t) hb
    have g0 : 0 < Nat.gcd t.natAbs b.natAbs := Nat.gcd_pos_of_pos_right _ (by omega)
    constructor
    · rw [e1, Int.natAbs_ediv_of_dvd (Int.ofNat_dvd_left.mpr (Nat.gcd_dvd_left _ _)), Int.natAbs_natCast]
      exact Nat.lt_of_le_of_lt (Nat.div_le_self _ _) h1
    · have : ((Rat.divInt t b).den : Int).natAbs < 2 ^ n := by
        rw [e2, Int.natAbs_ediv_of_dvd (Int.ofNat_dvd_left.mpr (Nat.gcd_dvd_right _ _)), Int.natAbs_natCast]
        exact Nat.lt_of_le_of_lt (Nat.div_le_self _ _) h2
      rw [Int.natAbs_natCast] at this
      exact this
  by_cases h : 0 < b
  · exact key t b h h1 h2
  · rw [← divInt_flip t b hb]
    exact key (-t) (-b) (by omega) (by rw [Int.natAbs_neg]; exact h1) (by rw [Int.natAbs_neg]; exact h2)
theorem add_eq (p q : Rat) : Rat.divInt (p.num * q.den + q.num * p.den) (p.den * q.den) = p + q := by
  have h1 := den_pos p
  have h2 := den_pos q
  rw [← Rat.divInt_add_divInt p.num q.num (by omega) (by omega), Rat.num_divInt_den, Rat.num_divInt_den]
theorem sub_eq (p q : Rat) : Rat.divInt (p.num * q.den - q.num * p.den) (p.den * q.den) = p - q := by
  have h1 := den_pos p
  have h2 := den_pos q
  rw [← Rat.divInt_sub_divInt p.num q.num (by omega) (by omega), Rat.num_divInt_den, Rat.num_divInt_den]
theorem mul_eq (p q : Rat) : Rat.divInt (p.num * q.num) (p.den * q.den) = p * q := by
  rw [← Rat.divInt_mul_divInt p.num q.num, Rat.num_divInt_den, Rat.num_divInt_den]
theorem div_mul (p q : Rat) (hq : q.num ≠ 0) : Rat.divInt (p.num * q.den) (p.den * q.num) * q = p := by
  have h1 := den_pos p
  have h2 := den_pos q
  have e : Rat.divInt (p.num * q.den) (p.den * q.num) * q = Rat.divInt (p.num * q.den * q.num) (p.den * q.num * q.den) := by
    have := Rat.divInt_mul_divInt (p.num * q.den) q.num (d₁ := p.den * q.num) (d₂ := q.den)
    rw [Rat.num_divInt_den] at this
    exact this
  rw [e]
  have : p.den * q.num * q.den ≠ 0 := Int.mul_ne_zero (Int.mul_ne_zero (by omega) hq) (by omega)
  have e2 : Rat.divInt (p.num * q.den * q.num) (p.den * q.num * q.den) = Rat.divInt p.num p.den := (Rat.divInt_eq_divInt_iff this (by omega)).mpr (by
    simp only [Int.mul_comm, Int.mul_left_comm, Int.mul_assoc])
  rw [e2, Rat.num_divInt_den]
theorem plain_qd {k : Nat} (q : Rat) : plainD (k + 2) (qd q) := ⟨by simp, fun x hx => by
  simp only [List.mem_cons, List.not_mem_nil, or_false] at hx
  rcases hx with rfl | rfl <;> trivial⟩
theorem ne_qd (q : Rat) : pNe (qd q) (qd q) = some (.bool false) := ne_self (k := 2) (by decide) (plain_qd (k := 0) q)
end PV
end
section
set_option Elab.async false
set_option linter.all false
set_option maxRecDepth 100000
set_option maxHeartbeats 4000000
namespace PV
open PySem

/-! ### sorted lists of whole numbers, of pairs of them -/
def leI (a b : Int) : Bool := decide (a ≤ b)
def leP (a b : Int × Int) : Bool := decide (a.1 < b.1) || (decide (a.1 = b.1) && decide (a.2 ≤ b.2))
abbrev pr (x : Int × Int) : PyData := .tuple [.int x.1, .int x.2]
theorem sort_li (ns : List Int) : bSorted [li ns] = some (li (ns.mergeSort leI)) := by
  have ok : sortOk (ns.map PyData.int) := by
    refine ⟨fun d hd d' hd' => ?_, PySem.W.Sortable.others fun b => ⟨(fun e => nomatch e), fun xs e => nomatch e⟩, fun d hd => ?_⟩
    · obtain ⟨i, _, rfl⟩ := List.mem_map.mp hd
      obtain ⟨j, _, rfl⟩ := List.mem_map.mp hd'
      simp [PySem.W.alike]
    · obtain ⟨i, _, rfl⟩ := List.mem_map.mp hd
      exact Nat.zero_le _
  have e := PySem.W.sort_maps (r := leI) (s := leD) PyData.int (l := ns) fun a _ b _ => by
    unfold leI leD
    rw [PySem.W.dataLt_int]
    by_cases h : a ≤ b
    · rw [decide_eq_true h, decide_eq_false (by omega)]; rfl
    · rw [decide_eq_false h, decide_eq_true (by omega)]; rfl
  unfold bSorted
  exact (if_pos ok).trans (by rw [← e])
theorem dataLt_pr (x y : Int × Int) : PySem.W.dataLt (pr x) (pr y) = (decide (x.1 < y.1) || (decide (x.1 = y.1) && decide (x.2 < y.2))) := by
  unfold pr
  rw [PySem.W.dataLt_pair (by simp [PySem.W.alike]) (by simp [PySem.W.alike]), PySem.W.dataLt_int, PySem.W.dataLt_int]
  simp only [PyData.eqv, beq_iff_eq]
  by_cases h1 : x.1 = y.1
  · rw [if_pos h1]
    by_cases h2 : x.2 = y.2
    · rw [if_pos h2, decide_eq_false (show ¬ x.1 < y.1 by omega), decide_eq_false (show ¬ x.2 < y.2 by omega), Bool.and_false]; rfl
    · rw [if_neg h2, decide_eq_false (show ¬ x.1 < y.1 by omega), decide_eq_true h1]; rfl
  · rw [if_neg h1, decide_eq_false h1, Bool.false_and, Bool.or_false]
theorem sort_pr (ps : List (Int × Int)) : bSorted [.list (ps.map pr)] = some (.list ((ps.mergeSort leP).map pr)) := by
  have ok : sortOk (ps.map pr) := by
    refine ⟨fun d hd d' hd' => ?_, PySem.W.Sortable.tuples fun b => ⟨_, _, rfl⟩, fun d hd => ?_⟩
    · obtain ⟨i, _, rfl⟩ := List.mem_map.mp hd
      obtain ⟨j, _, rfl⟩ := List.mem_map.mp hd'
      simp [PySem.W.alike, PySem.W.alikeAll]
    · obtain ⟨i, _, rfl⟩ := List.mem_map.mp hd
      simp [PyData.depth, PyData.depthAll]
  have e := PySem.W.sort_maps (r := leP) (s := leD) pr (l := ps) fun a _ b _ => by
    unfold leP leD
    rw [dataLt_pr]
    by_cases h : a.1 < b.1
    · rw [decide_eq_true h, decide_eq_false (show ¬ b.1 < a.1 by omega), decide_eq_false (show ¬ b.1 = a.1 by omega)]; rfl
    · by_cases h2 : a.1 = b.1
      · rw [decide_eq_false h, decide_eq_true h2, decide_eq_false (show ¬ b.1 < a.1 by omega), decide_eq_true h2.symm]
        by_cases h3 : a.2 ≤ b.2
        · rw [decide_eq_true h3, decide_eq_false (show ¬ b.2 < a.2 by omega)]; rfl
        · rw [decide_eq_false h3, decide_eq_true (show b.2 < a.2 by omega)]; rfl
      · rw [decide_eq_false h, decide_eq_false h2, decide_eq_true (show b.1 < a.1 by omega)]; rfl
  unfold bSorted
  exact (if_pos ok).trans (by rw [← e])
theorem leI_sorted (ns : List Int) : List.Pairwise (fun a b => a ≤ b) (ns.mergeSort leI) := by
  have := List.pairwise_mergeSort (le := leI) (fun a b c h1 h2 => by
    unfold leI at *
    have := of_decide_eq_true h1
    have := of_decide_eq_true h2
    exact decide_eq_true (by omega)) (fun a b => by
    unfold leI
    rcases Int.le_total a b with h | h
    · rw [decide_eq_true h, Bool.true_or]
    · rw [decide_eq_true h, Bool.or_true]) ns
  exact this.imp fun h => of_decide_eq_true h
theorem leI_mem {ns : List Int} {x : Int} : x ∈ ns.mergeSort leI ↔ x ∈ ns := (List.mergeSort_perm ns leI).mem_iff
theorem leI_len (ns : List Int) : (ns.mergeSort leI).length = ns.length := (List.mergeSort_perm ns leI).length_eq
end PV
end
section
set_option Elab.async false
set_option linter.all false
set_option maxRecDepth 100000
set_option maxHeartbeats 4000000
namespace PV
open PySem PySem.Spec PySem.Calls PyProof.Rows L2

/-! ### list(range(..)), x[::-1] -/
def lrgOk (a b : Int) : Prop := -(2 ^ 62) ≤ a ∧ a < 2 ^ 62 ∧ -(2 ^ 62) ≤ b ∧ b < 2 ^ 62 ∧ (b - a).toNat ≤ 2 ^ 24
instance (a b : Int) : Decidable (lrgOk a b) := by unfold lrgOk; exact inferInstance
def pLrg : PyData → PyData → RE (List PyData)
  | .int a, .int b => if lrgOk a b then .ok (rangeL a (b - a).toNat) else .bad
  | _, _ => .bad
def mLrg1 (fa : Evn → RE PyData) (ρ : Evn) : RE (List PyData) := (fa ρ).bind fun d => pLrg (.int 0) d
def mLrg2 (fa fb : Evn → RE PyData) (ρ : Evn) : RE (List PyData) := (fa ρ).bind fun d => (fb ρ).bind fun e => pLrg d e
theorem rg_vd {K : PySem.W.Frag} {F : Hp} (a b : Int) : VdAll K F (rgV a b) (rangeL a (b - a).toNat) := by
  unfold rgV rangeL
  generalize List.range (b - a).toNat = l
  induction l with
  | nil => exact .nil
  | cons i r ih => exact .cons (.int _) ih
theorem rg_line {a b : Int} (h : lrgOk a b) : (rgV a b).length ≤ sizeLine := by
  rw [rgV_length, line_eq]; exact h.2.2.2.2
section
variable {X : Cx} {P : Pm} {a b : Expr} {fa fb : Evn → RE PyData} {p p2 pos pos2 : Pos}
theorem vf_lrg1 (hc : X.calm = true) (hg : Gl X "list") (hm : X.mg "list" = none) (hg2 : Gl X "range") (hm2 : X.mg "range" = none) (ha : VE X P a fa)
    (na : starEach [a] X.env = (false, eval a X.env) :: starEach [] X.env := by rfl) :
    VF X P (.Call (.Name "list" p) [.Call (.Name "range" p2) [a] [] pos2] [] pos) (mLrg1 fa) := PE_mono (pe_listRg hc hg hm (prg_1 hg2 hm2 ha na)) fun σ H Q h => by
  obtain ⟨ρ, F, hR, h⟩ := h
  refine OutF.first hR h fun d v F1 H1 e1 hv R1 h1 => ?_
  cases hv with
  | int n =>
    have h1' : OutF X P σ Q F1 H1 (if lrgOk 0 n then .ok (rangeL 0 (n - 0).toNat) else .bad) := h1
    by_cases hr : lrgOk 0 n
    · rw [if_pos hr] at h1'
      exact ⟨n, rfl, hr, OutF.new R1.fh h1' (rg_line hr) (rg_vd 0 n)⟩
    · rw [if_neg hr] at h1'; exact h1'.elim
  | _ => exact h1.elim
theorem vf_lrg2 (hc : X.calm = true) (hg : Gl X "list") (hm : X.mg "list" = none) (hg2 : Gl X "range") (hm2 : X.mg "range" = none) (ha : VE X P a fa) (hb : VE X P b fb)
    (na : starEach [a, b] X.env = (false, eval a X.env) :: starEach [b] X.env := by rfl) (nb : starEach [b] X.env = (false, eval b X.env) :: starEach [] X.env := by rfl) (hp : (backTo pos2 (starEach [b] X.env)).any (·.1) = false := by rfl) :
    VF X P (.Call (.Name "list" p) [.Call (.Name "range" p2) [a, b] [] pos2] [] pos) (mLrg2 fa fb) := PE_mono (pe_listRg hc hg hm (prg_2 hg2 hm2 ha hb na nb hp)) fun σ H Q h => by
  obtain ⟨ρ, F, hR, h⟩ := h
  refine OutF.first hR h fun d v F1 H1 e1 hv R1 h1 => ?_
  refine OutF.first R1 h1 fun d2 v2 F2 H2 e2 hv2 R2 h2 => ?_
  cases hv with
  | int i =>
    cases hv2 with
    | int n =>
      have h1' : OutF X P σ Q F2 H2 (if lrgOk i n then .ok (rangeL i (n - i).toNat) else .bad) := h2
      by_cases hr : lrgOk i n
      · rw [if_pos hr] at h1'
        exact ⟨i, n, rfl, rfl, hr, OutF.new R2.fh h1' (rg_line hr) (rg_vd i n)⟩
      · rw [if_neg hr] at h1'; exact h1'.elim
    | _ => exact h2.elim
  | _ => cases hv2 <;> exact h2.elim
/-- x[::-1] -/
theorem vf_revS {k : Nat} {p1 p3 : Pos} (ha : VE X P a fa) : VF X P (.Subscript a (.Slice none none (some (.UnaryOp .USub (.Constant (.int 1) k p1) p2)) p3) pos) (mBind fa pRevL) := PE_mono (L2.pe_revL ha) fun σ H Q h => by
  obtain ⟨ρ, F, hR, h⟩ := h
  refine OutF.first hR h fun d v F1 H1 e1 hv R1 h1 => ?_
  cases hv with
  | lst hs hz hd => exact ⟨_, _, rfl, R1.fh.seq hs, OutF.new R1.fh h1 (by rw [List.length_reverse]; exact hz) hd.reverse⟩
  | _ => exact h1.elim
end
@[simp] theorem e_mLrg1 (fa : Evn → RE PyData) (ρ : Evn) : mLrg1 fa ρ = (fa ρ).bind fun d => pLrg (.int 0) d := nr rfl
@[simp] theorem e_mLrg2 (fa fb : Evn → RE PyData) (ρ : Evn) : mLrg2 fa fb ρ = (fa ρ).bind fun d => (fb ρ).bind fun e => pLrg d e := nr rfl
@[simp] theorem d_lrg (a b : Int) : pLrg (.int a) (.int b) = if lrgOk a b then .ok (rangeL a (b - a).toNat) else .bad := nr rfl
end PV
end
section
set_option Elab.async false
set_option linter.all false
set_option maxRecDepth 100000
set_option maxHeartbeats 4000000
namespace PV
open PySem PySem.Spec PySem.Calls PyProof.Rows L2

/-! ### min, max of a list of alike data -/
def mmOk (ds : List PyData) : Prop := PySem.W.AlikeAll ds ∧ ∀ d ∈ ds, d.depth ≤ 60
open Classical in
noncomputable def bMinD : List PyData → Option PyData
  | [.list (x :: xs)] => if mmOk (x :: xs) then some (PySem.W.minD x xs) else none
  | _ => none
open Classical in
noncomputable def bMaxD : List PyData → Option PyData
  | [.list (x :: xs)] => if mmOk (x :: xs) then some (PySem.W.maxD x xs) else none
  | _ => none
theorem depthAll_mm : ∀ {ds : List PyData}, (∀ d ∈ ds, d.depth ≤ 60) → PyData.depthAll ds ≤ 60
  | [], _ => Nat.zero_le _
  | d :: r, h => by
    simp only [PyData.depthAll]
    exact Nat.max_le.mpr ⟨h d (List.mem_cons_self ..), depthAll_mm fun y hy => h y (List.mem_cons_of_mem _ hy)⟩
section
variable {X : Cx}
theorem vd_all_dp {F : Hp} : ∀ {vs : List V} {ds : List PyData}, VdAll X.K F vs ds → DpAll X.K F vs ds
  | _, _, .nil => .nil
  | _, _, .cons h t => .cons (Vd.dp _ _ h).1 (vd_all_dp t)
theorem cb_minD {k : Nat} (hr : Room k X.A) : CallR X (.builtin "min") (rCV X bMinD) := by
  intro pins s σ H xs us Q I r h
  obtain ⟨F, ds, d, sf, hv, hg, hq⟩ := h
  unfold bMinD at hg
  split at hg
  · rename_i e es
    by_cases hp : mmOk (e :: es)
    case neg => rw [if_neg hp] at hg; cases hg
    rw [if_pos hp] at hg
    cases hg
    obtain ⟨v, rfl, h1⟩ := vd1 hv
    cases h1 with
    | @lst a ys _ hs hz ha =>
      rw [Vals.ref1 r]
      obtain ⟨its, rv, hl, hz'⟩ := I.list (sf.seq hs)
      have hun := hr.un
      have hdp := depthAll_mm hp.2
      obtain ⟨as, ra⟩ := Dp.readsAll I (e :: es) ys its (vd_all_dp (VdAll.mono sf _ _ ha)) rv
      refine PySem.W.min_list_data hr.hd hl.isList (by rw [List.toList_toArray]; exact ra) hp.1 (by omega) fun i u h' tk bs hi hR hk => ?_
      have hi' : its[i]? = some u := by simpa using hi
      obtain ⟨bs2, r2, hlt, _⟩ := PySem.W.readsAll_at ra i u hi'
      have det := (reads_det (h := s.heap) (h' := h') (fun b o q _ => hk b o q) r2 hR).1
      have hj : i < (e :: es).length := hlt
      obtain ⟨y, hy1, hy2⟩ := ha.get (i := i) (d := (e :: es)[i]) (List.getElem?_eq_getElem hj)
      obtain ⟨u2, hu1, hu2⟩ := Vals.get rv hy1
      rw [hi'] at hu1
      cases hu1
      have ed : (e :: es)[i] = PySem.W.minD e es := by
        rw [det, List.getD_eq_getElem?_getD, List.getElem?_eq_getElem hj]; rfl
      rw [ed] at hy2
      exact ⟨y, H, I.kept hk, hu2, hq y H F (Ext.refl sf) hy2⟩
  · cases hg
theorem cb_maxD {k : Nat} (hr : Room k X.A) : CallR X (.builtin "max") (rCV X bMaxD) := by
  intro pins s σ H xs us Q I r h
  obtain ⟨F, ds, d, sf, hv, hg, hq⟩ := h
  unfold bMaxD at hg
  split at hg
  · rename_i e es
    by_cases hp : mmOk (e :: es)
    case neg => rw [if_neg hp] at hg; cases hg
    rw [if_pos hp] at hg
    cases hg
    obtain ⟨v, rfl, h1⟩ := vd1 hv
    cases h1 with
    | @lst a ys _ hs hz ha =>
      rw [Vals.ref1 r]
      obtain ⟨its, rv, hl, hz'⟩ := I.list (sf.seq hs)
      have hun := hr.un
      have hdp := depthAll_mm hp.2
      obtain ⟨as, ra⟩ := Dp.readsAll I (e :: es) ys its (vd_all_dp (VdAll.mono sf _ _ ha)) rv
      refine PySem.W.max_list_data hr.hd hl.isList (by rw [List.toList_toArray]; exact ra) hp.1 (by omega) fun i u h' tk bs hi hR hk => ?_
      have hi' : its[i]? = some u := by simpa using hi
      obtain ⟨bs2, r2, hlt, _⟩ := PySem.W.readsAll_at ra i u hi'
      have det := (reads_det (h := s.heap) (h' := h') (fun b o q _ => hk b o q) r2 hR).1
      have hj : i < (e :: es).length := hlt
      obtain ⟨y, hy1, hy2⟩ := ha.get (i := i) (d := (e :: es)[i]) (List.getElem?_eq_getElem hj)
      obtain ⟨u2, hu1, hu2⟩ := Vals.get rv hy1
      rw [hi'] at hu1
      cases hu1
      have ed : (e :: es)[i] = PySem.W.maxD e es := by
        rw [det, List.getD_eq_getElem?_getD, List.getElem?_eq_getElem hj]; rfl
      rw [ed] at hy2
      exact ⟨y, H, I.kept hk, hu2, hq y H F (Ext.refl sf) hy2⟩
  · cases hg
end

theorem lt_not_le (x y : Int × Int) : PySem.W.dataLt (pr x) (pr y) = !leP y x := by
  rw [dataLt_pr]
  unfold leP
  rcases Int.lt_trichotomy x.1 y.1 with h | h | h
  · rw [decide_eq_true h, decide_eq_false (show ¬ y.1 < x.1 by omega), decide_eq_false (show ¬ y.1 = x.1 by omega)]; rfl
  · rw [decide_eq_false (show ¬ x.1 < y.1 by omega), decide_eq_true h, decide_eq_false (show ¬ y.1 < x.1 by omega), decide_eq_true h.symm]
    by_cases c : x.2 < y.2
    · rw [decide_eq_true c, decide_eq_false (show ¬ y.2 ≤ x.2 by omega)]; rfl
    · rw [decide_eq_false c, decide_eq_true (show y.2 ≤ x.2 by omega)]; rfl
  · rw [decide_eq_false (show ¬ x.1 < y.1 by omega), decide_eq_false (show ¬ x.1 = y.1 by omega), decide_eq_true h]; rfl
theorem leP_refl (x : Int × Int) : leP x x = true := by
  unfold leP
  rw [decide_eq_true (show x.1 = x.1 from rfl), decide_eq_true (Int.le_refl _)]; simp
theorem leP_iff (x y : Int × Int) : leP x y = true ↔ x.1 < y.1 ∨ (x.1 = y.1 ∧ x.2 ≤ y.2) := by
  unfold leP
  simp
theorem leP_trans {x y z : Int × Int} (h1 : leP x y = true) (h2 : leP y z = true) : leP x z = true := by
  rw [leP_iff] at *
  omega
theorem leP_total (x y : Int × Int) : leP x y = true ∨ leP y x = true := by
  rw [leP_iff, leP_iff]
  omega
theorem minD_pr (p : Int × Int) : ∀ ps : List (Int × Int), ∃ m, m ∈ p :: ps ∧ PySem.W.minD (pr p) (ps.map pr) = pr m ∧ ∀ y ∈ p :: ps, leP m y = true := by
  intro ps
  induction ps generalizing p with
  | nil => exact ⟨p, List.mem_cons_self .., rfl, fun y hy => by
      rw [List.mem_singleton] at hy
      rw [hy]; exact leP_refl p⟩
  | cons q r ih =>
    have e : PySem.W.minD (pr p) ((q :: r).map pr) = PySem.W.minD (if PySem.W.dataLt (pr q) (pr p) then pr q else pr p) (r.map pr) := rfl
    rw [e, lt_not_le]
    by_cases c : leP p q = true
    · rw [c]
      obtain ⟨m, h1, h2, h3⟩ := ih p
      refine ⟨m, ?_, by simpa using h2, fun y hy => ?_⟩
      · rcases List.mem_cons.mp h1 with h | h
        · rw [h]; exact List.mem_cons_self ..
        · exact List.mem_cons_of_mem _ (List.mem_cons_of_mem _ h)
      · rcases List.mem_cons.mp hy with h | h
        · rw [h]; exact h3 p (List.mem_cons_self ..)
        · rcases List.mem_cons.mp h with h | h
          · rw [h]; exact leP_trans (h3 p (List.mem_cons_self ..)) c
          · exact h3 y (List.mem_cons_of_mem _ h)
    · have c' : leP p q = false := by simpa using c
      rw [c']
      obtain ⟨m, h1, h2, h3⟩ := ih q
      refine ⟨m, List.mem_cons_of_mem _ h1, by simpa using h2, fun y hy => ?_⟩
      rcases List.mem_cons.mp hy with h | h
      · rw [h]
        refine leP_trans (h3 q (List.mem_cons_self ..)) ?_
        rcases leP_total p q with t | t
        · exact absurd t c
        · exact t
      · exact h3 y h
theorem min_pr {ps : List (Int × Int)} (h : ps ≠ []) : ∃ m, m ∈ ps ∧ bMinD [.list (ps.map pr)] = some (pr m) ∧ ∀ y ∈ ps, leP m y = true := by
  cases ps with
  | nil => exact absurd rfl h
  | cons p r =>
    obtain ⟨m, h1, h2, h3⟩ := minD_pr p r
    have ok : mmOk (pr p :: r.map pr) := by
      have hm : ∀ d ∈ pr p :: r.map pr, ∃ x, d = pr x := fun d hd => by
        rcases List.mem_cons.mp hd with e | e
        · exact ⟨p, e⟩
        · obtain ⟨x, _, rfl⟩ := List.mem_map.mp e
          exact ⟨x, rfl⟩
      refine ⟨⟨fun d hd d' hd' => ?_, fun d hd => ?_⟩, fun d hd => ?_⟩
      · obtain ⟨x, rfl⟩ := hm d hd
        obtain ⟨y, rfl⟩ := hm d' hd'
        simp [PySem.W.alike, PySem.W.alikeAll]
      · obtain ⟨x, rfl⟩ := hm d hd
        exact fun e => nomatch e
      · obtain ⟨x, rfl⟩ := hm d hd
        simp [PyData.depth, PyData.depthAll]
    refine ⟨m, h1, ?_, h3⟩
    rw [← h2]
    unfold bMinD
    exact if_pos ok
end PV
namespace PV
open PySem PySem.Spec PySem.Calls PyProof.Rows L2
/-! ### is True, is False -/
def pIsB : PyData → PyData → Option PyData
  | .bool a, .bool b => some (.bool (decide (a = b)))
  | _, _ => none
def pIsNotB : PyData → PyData → Option PyData
  | .bool a, .bool b => some (.bool (!decide (a = b)))
  | _, _ => none
section
variable {X : Cx}
theorem opv_isb : OpV X (compareOp .Is) pIsB := by
  intro pins s σ H x y v u Q I rx ry F d e r sf hx hy hg hq
  cases hx with
  | bl a => cases hy with
    | bl b =>
      cases hg
      exact op_isBl pins s σ H _ _ v u Q I rx ry ⟨a, b, rfl, rfl, hq _ _ F (Ext.refl sf) (.bl _)⟩
    | _ => cases hg
  | _ => cases hg
theorem opv_isnotb : OpV X (compareOp .IsNot) pIsNotB := by
  intro pins s σ H x y v u Q I rx ry F d e r sf hx hy hg hq
  cases hx with
  | bl a => cases hy with
    | bl b =>
      cases hg
      exact op_notBl pins s σ H _ _ v u Q I rx ry ⟨a, b, rfl, rfl, hq _ _ F (Ext.refl sf) (.bl _)⟩
    | _ => cases hg
  | _ => cases hg
end
@[simp] theorem d_isB (a b : Bool) : pIsB (.bool a) (.bool b) = some (.bool (decide (a = b))) := nr rfl
@[simp] theorem d_isNB (a b : Bool) : pIsNotB (.bool a) (.bool b) = some (.bool (!decide (a = b))) := nr rfl
end PV
namespace PV
open PySem PySem.Spec PySem.Calls PyProof.Rows L2
/-! ### list + list, as a fresh list -/
def mCat (fa fb : Evn → RE PyData) (ρ : Evn) : RE (List PyData) := (fa ρ).bind fun x => (fb ρ).bind fun y => match x, y with
  | .list xs, .list ys => if xs.length + ys.length ≤ sizeLine then .ok (xs ++ ys) else .bad
  | _, _ => .bad
section
variable {X : Cx} {P : Pm} {a b : Expr} {fa fb : Evn → RE PyData} {pos : Pos}
theorem vf_cat (ha : VE X P a fa) (hb : VE X P b fb) : VF X P (.BinOp a .Add b pos) (mCat fa fb) := PE_mono (pe_op op_catS ha hb) fun σ H Q h => by
  obtain ⟨ρ, F, hR, h⟩ := h
  refine OutF.first hR h fun d v F1 H1 e1 hv R1 h1 => ?_
  refine OutF.first R1 h1 fun d2 v2 F2 H2 e2 hv2 R2 h2 => ?_
  have hv := Vd.mono e2.ff d v hv
  cases hv with
  | @lst l xs ds hs hz hd =>
    cases hv2 with
    | @lst l2 ys es hs2 hz2 hd2 =>
      have l1 := hd.length
      have l2 := hd2.length
      have h2' : OutF X P σ Q F2 H2 (if ds.length + es.length ≤ sizeLine then .ok (ds ++ es) else .bad) := h2
      by_cases hp : ds.length + es.length ≤ sizeLine
      · rw [if_pos hp] at h2'
        exact ⟨_, _, _, _, rfl, rfl, R2.fh.seq hs, R2.fh.seq hs2, by omega, OutF.new R2.fh h2' (by rw [List.length_append]; omega) (hd.append hd2)⟩
      · rw [if_neg hp] at h2'; exact h2'.elim
    | _ => exact h2.elim
  | _ => cases hv2 <;> exact h2.elim
end
@[simp] theorem e_mCat (fa fb : Evn → RE PyData) (ρ : Evn) : mCat fa fb ρ = (fa ρ).bind fun x => (fb ρ).bind fun y => match x, y with
  | .list xs, .list ys => if xs.length + ys.length ≤ sizeLine then .ok (xs ++ ys) else .bad
  | _, _ => .bad := nr rfl
end PV
end
section
set_option Elab.async false
set_option linter.all false
set_option maxRecDepth 100000
set_option maxHeartbeats 4000000
/-! VZ: what a meaning gives, in plain Lean with types: rules that a program (tgen.py) puts together. -/
namespace PV
open PySem

/-! ### what is known of the names: some c, just this; none, anything -/
abbrev Pt := List (Option Cel)
inductive Sh : Pt → Evn → Prop
  | nil : Sh [] []
  | any {p : Pt} {ρ : Evn} {o : Option Cel} : Sh p ρ → Sh (none :: p) (o :: ρ)
  | is {p : Pt} {ρ : Evn} {c : Cel} : Sh p ρ → Sh (some c :: p) (some c :: ρ)
def atP : Pt → Nat → Option Cel
  | [], _ => none
  | c :: _, 0 => c
  | _ :: r, n + 1 => atP r n
def stP : Pt → Nat → Option Cel → Pt
  | [], _, _ => []
  | _ :: r, 0, x => x :: r
  | c :: r, n + 1, x => c :: stP r n x
def fzC : Option Cel → Option Cel
  | some (.own ds) => some (.val (.list ds))
  | c => c
def fzP : Nat → Pt → Pt
  | _, [] => []
  | 0, c :: r => fzC c :: r
  | n + 1, c :: r => c :: fzP n r
def wpP (p : Pt) : List Nat → Pt
  | [] => p
  | v :: vs => stP (wpP p vs) v none
theorem Sh.get {p : Pt} {ρ : Evn} (h : Sh p ρ) : ∀ {i : Nat} {c : Cel}, atP p i = some c → ρ[i]? = some (some c) := by
  induction h with
  | nil => intro i c e; cases e
  | any _ ih => intro i c e; cases i with
    | zero => cases e
    | succ n => rw [List.getElem?_cons_succ]; exact ih e
  | is _ ih => intro i c e; cases i with
    | zero => cases e; rfl
    | succ n => rw [List.getElem?_cons_succ]; exact ih e
theorem Sh.st {p : Pt} {ρ : Evn} (h : Sh p ρ) : ∀ {i : Nat} {c : Cel}, Sh (stP p i (some c)) (ρ.set i (some c)) := by
  induction h with
  | nil => intro i c; exact .nil
  | any t ih => intro i c; cases i with
    | zero => exact .is t
    | succ n => exact .any ih
  | is t ih => intro i c; cases i with
    | zero => exact .is t
    | succ n => exact .is ih
theorem Sh.stN {p : Pt} {ρ : Evn} (h : Sh p ρ) : ∀ {i : Nat} {o : Option Cel}, Sh (stP p i none) (ρ.set i o) := by
  induction h with
  | nil => intro i c; exact .nil
  | any t ih => intro i c; cases i with
    | zero => exact .any t
    | succ n => exact .any ih
  | is t ih => intro i c; cases i with
    | zero => exact .any t
    | succ n => exact .is ih
theorem Sh.wp {p : Pt} {ρ : Evn} (h : Sh p ρ) : ∀ vs : List Nat, Sh (wpP p vs) (wipeE ρ vs)
  | [] => h
  | _ :: vs => (Sh.wp h vs).stN
theorem Sh.fz {p : Pt} {ρ : Evn} (h : Sh p ρ) : ∀ {i : Nat}, Sh (fzP i p) (freeze i ρ) := by
  intro i
  rw [fz_eq]
  induction h generalizing i with
  | nil => cases i <;> exact .nil
  | @any p ρ o t ih => cases i with
    | zero =>
      have : ∃ o', fzE (o :: ρ) 0 = o' :: ρ := by rcases o with _ | ⟨_ | _ | _⟩ <;> exact ⟨_, rfl⟩
      obtain ⟨o', e⟩ := this
      rw [e]
      exact .any t
    | succ n => rw [fz_s]; exact .any ih
  | @is p ρ c t ih => cases i with
    | zero => cases c <;> exact .is t
    | succ n => rw [fz_s]; exact .is ih
/-- less is known -/
inductive Sb : Pt → Pt → Prop
  | nil : Sb [] []
  | any {p q : Pt} {c : Option Cel} : Sb p q → Sb (c :: p) (none :: q)
  | is {p q : Pt} {c : Option Cel} : Sb p q → Sb (c :: p) (c :: q)
theorem Sb.sh {p q : Pt} (h : Sb p q) : ∀ {ρ : Evn}, Sh p ρ → Sh q ρ := by
  induction h with
  | nil => intro ρ h; exact h
  | any _ ih => intro ρ h; cases h with
    | any t => exact .any (ih t)
    | is t => exact .any (ih t)
  | is _ ih => intro ρ h; cases h with
    | any t => exact .any (ih t)
    | is t => exact .is (ih t)
def ptE (N : Nat) (ds : List PyData) : Pt := ds.map (fun d => some (.val d)) ++ List.replicate (N - ds.length) none
theorem sh_rep : ∀ n : Nat, Sh (List.replicate n none) (List.replicate n none)
  | 0 => .nil
  | n + 1 => .any (sh_rep n)
theorem sh_start (N : Nat) (ds : List PyData) : Sh (ptE N ds) (startE N ds) := by
  unfold ptE startE
  generalize N - ds.length = k
  induction ds with
  | nil => exact sh_rep k
  | cons d r ih => exact .is ih

/-! ### expressions -/
def TM {α : Type} (p : Pt) (m : Evn → RE α) (a : α) : Prop := ∀ ρ, Sh p ρ → m ρ = .ok a
section
variable {p : Pt} {α β : Type} {f fa fb fc : Evn → RE PyData} {d x y z : PyData} {g : Evn → RE (List PyData)} {ds : List PyData}
theorem t_get {i : Nat} (h : atP p i = some (.val d)) : TM p (mGet i) d := fun ρ hs => by
  unfold mGet
  rw [hs.get h]
theorem t_c : TM p (mC d) d := fun _ _ => rfl
theorem t_2 {o : PyData → PyData → Option PyData} (ha : TM p fa x) (hb : TM p fb y) (h : o x y = some z) : TM p (m2 o fa fb) z := fun ρ hs => by
  rw [e_m2, ha ρ hs, bind_ok, hb ρ hs, bind_ok, h, ofO_some]
theorem t_1 {o : PyData → Option PyData} (ha : TM p fa x) (h : o x = some z) : TM p (m1 o fa) z := fun ρ hs => by
  rw [e_m1, ha ρ hs, bind_ok, h, ofO_some]
theorem t_and {b c : Bool} (ha : TM p fa (.bool b)) (hb : b = true → TM p fb (.bool c)) : TM p (mAnd fa fb) (.bool (b && c)) := fun ρ hs => by
  rw [e_mAnd, ha ρ hs, bind_ok, d_toB, ofO_some, bind_ok]
  cases b with
  | true => rw [if_pos rfl, hb rfl ρ hs, Bool.true_and]
  | false => rw [if_neg (by decide), Bool.false_and]
theorem t_or {b c : Bool} (ha : TM p fa (.bool b)) (hb : b = false → TM p fb (.bool c)) : TM p (mOr fa fb) (.bool (b || c)) := fun ρ hs => by
  rw [e_mOr, ha ρ hs, bind_ok, d_toB, ofO_some, bind_ok]
  cases b with
  | false => rw [if_neg (by decide), hb rfl ρ hs, Bool.false_or]
  | true => rw [if_pos rfl, Bool.true_or]
theorem t_if {e : α → PyData} {t : Evn → RE Bool} {c : Bool} {u v : α} (hc : TM p t c) (ha : c = true → TM p fa (e u)) (hb : c = false → TM p fb (e v)) : TM p (mIf t fa fb) (e (if c = true then u else v)) := fun ρ hs => by
  rw [e_mIf, hc ρ hs, bind_ok]
  cases c with
  | true => rw [if_pos rfl, if_pos rfl, ha rfl ρ hs]
  | false => rw [if_neg (by decide), if_neg (by decide), hb rfl ρ hs]
theorem t_chain {o o' : PyData → PyData → Option PyData} {b c : Bool} (ha : TM p fa x) (hb : TM p fb y) (h : o x y = some (.bool b)) (hc : b = true → TM p fc z) (h' : b = true → o' y z = some (.bool c)) : TM p (mChain o o' fa fb fc) (.bool (b && c)) := fun ρ hs => by
  rw [e_mChain, ha ρ hs, bind_ok, hb ρ hs, bind_ok, h, ofO_some, bind_ok, d_toB, ofO_some, bind_ok]
  cases b with
  | true => rw [if_pos rfl, hc rfl ρ hs, bind_ok, h' rfl, ofO_some, Bool.true_and]
  | false => rw [if_neg (by decide), Bool.false_and]
theorem t_nil : TM p mNil [] := fun _ _ => rfl
theorem t_cons (h : TM p f d) (hs : TM p g ds) : TM p (mCons f g) (d :: ds) := fun ρ sh => by
  rw [e_mCons, h ρ sh, bind_ok, hs ρ sh, bind_ok]
theorem t_seq {k : List PyData → RE PyData} (h : TM p g ds) (hk : k ds = .ok d) : TM p (mSeq k g) d := fun ρ hs => by
  rw [e_mSeq, h ρ hs, bind_ok, hk]
theorem t_cal0 {k : List PyData → RE PyData} (hk : k [] = .ok d) : TM p (fun _ => k []) d := fun ρ hs => hk
theorem t_call {b : List PyData → Option PyData} (h : TM p g ds) (hk : b ds = some d) : TM p (mCall b g) d := fun ρ hs => by
  rw [e_mCall, h ρ hs, bind_ok, hk, ofO_some]
theorem t_no : TM p mNo none := fun _ _ => rfl
theorem t_part {i : Int} (h : TM p f (.int i)) : TM p (mPart f) (some i) := fun ρ hs => by
  rw [e_mPart, h ρ hs, bind_ok, d_toI, ofO_some, bind_ok]
theorem t_cut {l h : Evn → RE (Option Int)} {lo hi : Option Int} (hd : TM p f d) (hl : TM p l lo) (hh : TM p h hi) (hk : pCut d lo hi = some z) : TM p (mCut f l h) z := fun ρ hs => by
  rw [e_mCut, hd ρ hs, bind_ok, hl ρ hs, bind_ok, hh ρ hs, bind_ok, hk, ofO_some]
theorem t_is {T : Ty} {b : Bool} (h : TM p f d) (hb : isTy T d = b) : TM p (mIs T f) (.bool b) := fun ρ hs => by
  rw [e_mIs, h ρ hs, bind_ok, hb]
theorem t_is2 {T U : Ty} {b : Bool} (h : TM p f d) (hb : (isTy T d || isTy U d) = b) : TM p (mIs2 T U f) (.bool b) := fun ρ hs => by
  rw [e_mIs2, h ρ hs, bind_ok, hb]
theorem t_L (h : TM p g ds) : TM p (mL g) (.list ds) := fun ρ hs => by
  rw [e_mL, h ρ hs, bind_ok]
theorem t_dsp (h : TM p g ds) (hl : ds.length ≤ sizeLine) : TM p (mDsp g) ds := fun ρ hs => by
  rw [e_mDsp, h ρ hs, bind_ok, if_pos hl]
theorem t_rep {k : Int} (h : TM p g ds) (hl : ds.length ≤ sizeLine) (hf : TM p f (.int k)) (hr : repOk ds.length k) : TM p (mRep g f) (List.replicate k.toNat ds).flatten := fun ρ hs => by
  rw [e_mRep, t_dsp h hl ρ hs, bind_ok, hf ρ hs, bind_ok, d_rep, if_pos hr]
theorem t_bind {k : PyData → RE (List PyData)} (h : TM p f d) (hk : k d = .ok ds) : TM p (mBind f k) ds := fun ρ hs => by
  rw [e_mBind, h ρ hs, bind_ok, hk]
theorem t_ixO {i : Nat} {es : List PyData} (h : atP p i = some (.own es)) (hf : TM p f y) (hk : pIdx (.list es) y = some z) : TM p (mIxO i f) z := fun ρ hs => by
  unfold mIxO
  rw [hs.get h]
  show ((f ρ).bind fun k => ofO (pIdx (.list es) k)) = _
  rw [hf ρ hs, bind_ok, hk, ofO_some]
theorem t_ixV {i : Nat} (h : atP p i = some (.val x)) (hf : TM p f y) (hk : pIdx x y = some z) : TM p (mIxO i f) z := fun ρ hs => by
  unfold mIxO
  rw [hs.get h]
  show ((f ρ).bind fun k => ofO (pIdx x k)) = _
  rw [hf ρ hs, bind_ok, hk, ofO_some]
theorem t_bor {i : Nat} (h : TM (fzP i p) f d) (hd : scal d = true) : TM p (mBor i f) d := fun ρ hs => by
  rw [e_mBor, h _ hs.fz, bind_ok, if_pos hd]
theorem t_borB {i : Nat} {t : Evn → RE Bool} {b : Bool} (h : TM (fzP i p) t b) : TM p (mBorB i t) b := fun ρ hs => by
  rw [e_mBorB]
  exact h _ hs.fz
theorem t_items (h : TM p f d) (hd : itemsOf d = some ds) : TM p (mItems f) ds := fun ρ hs => by
  rw [e_mItems, h ρ hs, bind_ok, hd, ofO_some]
theorem t_wk {w : List PyData → Option (List PyData)} {es : List PyData} (h : TM p g es) (hd : w es = some ds) : TM p (mWk w g) ds := fun ρ hs => by
  rw [e_mWk, h ρ hs, bind_ok, hd, ofO_some]
theorem t_rev (h : TM p f d) (hd : rev1 d = some ds) : TM p (mRev f) ds := fun ρ hs => by
  rw [e_mRev, h ρ hs, bind_ok, hd, ofO_some]
theorem t_T {b : Bool} (h : TM p f d) (hd : truth d = some b) : TM p (mT f) b := fun ρ hs => by
  rw [e_mT, h ρ hs, bind_ok, hd, ofO_some]
theorem t_B {b : Bool} (h : TM p f (.bool b)) : TM p (mB f) b := fun ρ hs => by
  rw [e_mB, h ρ hs, bind_ok, d_toB, ofO_some]
theorem t_andB {ta tb : Evn → RE Bool} {b c : Bool} (ha : TM p ta b) (hb : b = true → TM p tb c) : TM p (mAndB ta tb) (b && c) := fun ρ hs => by
  rw [e_mAndB, ha ρ hs, bind_ok]
  cases b with
  | true => rw [if_pos rfl, hb rfl ρ hs, Bool.true_and]
  | false => rw [if_neg (by decide), Bool.false_and]
theorem t_orB {ta tb : Evn → RE Bool} {b c : Bool} (ha : TM p ta b) (hb : b = false → TM p tb c) : TM p (mOrB ta tb) (b || c) := fun ρ hs => by
  rw [e_mOrB, ha ρ hs, bind_ok]
  cases b with
  | false => rw [if_neg (by decide), hb rfl ρ hs, Bool.false_or]
  | true => rw [if_pos rfl, Bool.true_or]
theorem t_notB {t : Evn → RE Bool} {b : Bool} (h : TM p t b) : TM p (mNotB t) (!b) := fun ρ hs => by
  rw [e_mNotB, h ρ hs, bind_ok]
theorem t_yes : TM p mYes true := fun _ _ => rfl
theorem t_lrg1 {j : Int} (h : TM p f (.int j)) (hk : lrgOk 0 j) : TM p (mLrg1 f) (rangeL 0 (j - 0).toNat) := fun ρ hs => by
  rw [e_mLrg1, h ρ hs, bind_ok, d_lrg, if_pos hk]
theorem t_lrg2 {i j : Int} (h : TM p fa (.int i)) (h' : TM p fb (.int j)) (hk : lrgOk i j) : TM p (mLrg2 fa fb) (rangeL i (j - i).toNat) := fun ρ hs => by
  rw [e_mLrg2, h ρ hs, bind_ok, h' ρ hs, bind_ok, d_lrg, if_pos hk]
theorem t_cast {m : Evn → RE α} {a b : α} (h : TM p m a) (e : a = b) : TM p m b := e ▸ h
end

/-! ### targets -/
def TG (p : Pt) (m : PyData → Evn → Option Evn) (d : PyData) (q : Pt) : Prop := ∀ ρ, Sh p ρ → ∃ ρ', m d ρ = some ρ' ∧ Sh q ρ'
def TGs (p : Pt) (m : List PyData → Evn → Option Evn) (ds : List PyData) (q : Pt) : Prop := ∀ ρ, Sh p ρ → ∃ ρ', m ds ρ = some ρ' ∧ Sh q ρ'
section
variable {p q q' : Pt} {d : PyData} {ds : List PyData} {m : PyData → Evn → Option Evn} {ms : List PyData → Evn → Option Evn}
theorem tg_n {i : Nat} : TG p (gN i) d (stP p i (some (.val d))) := fun ρ hs => ⟨_, rfl, hs.st⟩
theorem tg_t {n : Nat} (h : TGs p ms ds q) (hl : ds.length = n) : TG p (gT n ms) (.tuple ds) q := fun ρ hs => by
  obtain ⟨ρ', h1, h2⟩ := h ρ hs
  exact ⟨ρ', by rw [e_gTt, if_pos hl, h1], h2⟩
theorem tg_l {n : Nat} (h : TGs p ms ds q) (hl : ds.length = n) : TG p (gT n ms) (.list ds) q := fun ρ hs => by
  obtain ⟨ρ', h1, h2⟩ := h ρ hs
  exact ⟨ρ', by rw [e_gTl, if_pos hl, h1], h2⟩
theorem tg_e : TGs p gE [] p := fun ρ hs => ⟨ρ, rfl, hs⟩
theorem tg_c (h : TG p m d q) (h' : TGs q ms ds q') : TGs p (gC m ms) (d :: ds) q' := fun ρ hs => by
  obtain ⟨ρ1, h1, h2⟩ := h ρ hs
  obtain ⟨ρ2, h3, h4⟩ := h' ρ1 h2
  exact ⟨ρ2, by rw [e_gC, h1, Option.bind_some, h3], h4⟩
end

/-! ### comprehensions -/
section
variable {p : Pt} {α β : Type} {w : Evn → RE (List PyData)} {g : PyData → Evn → Option Evn} {tt : Evn → RE Bool} {el : Evn → RE PyData} {vs : List Nat} {e : α → PyData} {e' : β → PyData} {xs : List α} {q : α → Pt}
theorem t_lc0 {f : α → β} (hw : TM p w (xs.map e)) (hl : xs.length ≤ sizeLine) (hg : ∀ x, TG (wpP p vs) g (e x) (q x)) (he : ∀ x ∈ xs, TM (q x) el (e' (f x))) : TM p (mLc w g mYes el vs) ((xs.map f).map e') := fun ρ hs => by
  rw [e_mLc, hw ρ hs, bind_ok, if_pos (by rw [List.length_map]; exact hl)]
  rw [lcM_all (dec := e) (fun x => e' (f x)) (fun x hx => by
    obtain ⟨ρ', h1, h2⟩ := hg x _ (hs.wp vs)
    exact ⟨ρ', h1, he x hx _ h2⟩), List.map_map]
  rfl
theorem t_lc {t : α → Bool} {f : α → β} (hw : TM p w (xs.map e)) (hl : xs.length ≤ sizeLine) (hg : ∀ x, TG (wpP p vs) g (e x) (q x)) (ht : ∀ x ∈ xs, TM (q x) tt (t x)) (he : ∀ x ∈ xs, t x = true → TM (q x) el (e' (f x))) : TM p (mLc w g tt el vs) (((xs.filter t).map f).map e') := fun ρ hs => by
  rw [e_mLc, hw ρ hs, bind_ok, if_pos (by rw [List.length_map]; exact hl)]
  rw [lcM_map (dec := e) t (fun x => e' (f x)) (fun x hx => by
    obtain ⟨ρ', h1, h2⟩ := hg x _ (hs.wp vs)
    exact ⟨ρ', h1, ht x hx _ h2, fun hp => he x hx hp _ h2⟩), List.map_map]
  rfl
end

/-! ### types and their data -/
abbrev idD : PyData → PyData := fun d => d
abbrev eN : Unit → PyData := fun _ => .none
abbrev encL {α : Type} (e : α → PyData) (xs : List α) : PyData := .list (xs.map e)
abbrev encU {α : Type} (e : α → PyData) (xs : List α) : PyData := .tuple (xs.map e)
abbrev encO {α : Type} (e : α → PyData) (x : Option α) : PyData := match x with
  | none => .none
  | some a => e a
abbrev enc2 {α β : Type} (a : α → PyData) (b : β → PyData) (x : α × β) : PyData := .tuple [a x.1, b x.2]
abbrev enc3 {α β γ : Type} (a : α → PyData) (b : β → PyData) (c : γ → PyData) (x : α × β × γ) : PyData := .tuple [a x.1, b x.2.1, c x.2.2]
abbrev enc4 {α β γ δ : Type} (a : α → PyData) (b : β → PyData) (c : γ → PyData) (d : δ → PyData) (x : α × β × γ × δ) : PyData := .tuple [a x.1, b x.2.1, c x.2.2.1, d x.2.2.2]
abbrev enc5 {α β γ δ ε : Type} (a : α → PyData) (b : β → PyData) (c : γ → PyData) (d : δ → PyData) (f : ε → PyData) (x : α × β × γ × δ × ε) : PyData := .tuple [a x.1, b x.2.1, c x.2.2.1, d x.2.2.2.1, f x.2.2.2.2]
abbrev enc6 {α β γ δ ε ζ : Type} (a : α → PyData) (b : β → PyData) (c : γ → PyData) (d : δ → PyData) (f : ε → PyData) (g : ζ → PyData) (x : α × β × γ × δ × ε × ζ) : PyData := .tuple [a x.1, b x.2.1, c x.2.2.1, d x.2.2.2.1, f x.2.2.2.2.1, g x.2.2.2.2.2]
theorem t_some {p : Pt} {α : Type} {e : α → PyData} {f : Evn → RE PyData} {a : α} (h : TM p f (e a)) : TM p f (encO e (some a)) := h
theorem t_unO {p : Pt} {α : Type} {e : α → PyData} {f : Evn → RE PyData} {x : Option α} {d : α} (h : TM p f (encO e x)) (hx : x.isSome = true) : TM p f (e (x.getD d)) := by
  cases x with
  | none => cases hx
  | some a => exact h

/-! likeness -/
structure EqE {α : Type} [DecidableEq α] (n : Nat) (e : α → PyData) : Prop where
  ev : ∀ a b, PyData.eqv (e a) (e b) = decide (a = b)
  dp : ∀ a, (e a).depth ≤ n
theorem eqe_I : EqE 0 PyData.int := ⟨fun a b => by simp only [PyData.eqv]; exact PySem.W.beq_decide a b, fun _ => Nat.le_refl _⟩
theorem eqe_B : EqE 0 PyData.bool := ⟨fun a b => by simp only [PyData.eqv]; exact PySem.W.beq_decide a b, fun _ => Nat.le_refl _⟩
theorem eqe_S : EqE 0 PyData.str := ⟨fun a b => by simp only [PyData.eqv]; exact PySem.W.beq_decide a b, fun _ => Nat.le_refl _⟩
theorem eqe_N : EqE 0 eN := ⟨fun a b => by simp only [PyData.eqv]; rfl, fun _ => Nat.le_refl _⟩
section
variable {α β γ δ ε : Type} [DecidableEq α] [DecidableEq β] [DecidableEq γ] [DecidableEq δ] [DecidableEq ε] {n m k l j : Nat} {e : α → PyData} {f : β → PyData} {g : γ → PyData} {h : δ → PyData} {o : ε → PyData}
theorem eqvAll_map (he : EqE n e) : ∀ xs ys : List α, PyData.eqvAll (xs.map e) (ys.map e) = decide (xs = ys)
  | [], [] => by simp only [List.map_nil, PyData.eqvAll]; rfl
  | [], y :: ys => by simp only [List.map_nil, List.map_cons, PyData.eqvAll]; simp
  | x :: xs, [] => by simp only [List.map_nil, List.map_cons, PyData.eqvAll]; simp
  | x :: xs, y :: ys => by
    simp only [List.map_cons, PyData.eqvAll]
    rw [he.ev, eqvAll_map he xs ys]
    by_cases h1 : x = y <;> by_cases h2 : xs = ys <;> simp [h1, h2]
theorem eqe_L (he : EqE n e) : EqE (n + 1) (encL e) := ⟨fun a b => by simp only [PyData.eqv]; exact eqvAll_map he a b, fun a => by
  simp only [PyData.depth]
  refine Nat.succ_le_succ (depthAll_le fun x hx => ?_)
  obtain ⟨y, _, rfl⟩ := List.mem_map.mp hx
  exact he.dp y⟩
theorem eqe_U (he : EqE n e) : EqE (n + 1) (encU e) := ⟨fun a b => by simp only [PyData.eqv]; exact eqvAll_map he a b, fun a => by
  simp only [PyData.depth]
  refine Nat.succ_le_succ (depthAll_le fun x hx => ?_)
  obtain ⟨y, _, rfl⟩ := List.mem_map.mp hx
  exact he.dp y⟩
theorem eqe_2 (he : EqE n e) (hf : EqE m f) : EqE (max n m + 1) (enc2 e f) := ⟨fun a b => by
  simp only [PyData.eqv, PyData.eqvAll, he.ev, hf.ev]
  obtain ⟨a1, a2⟩ := a
  obtain ⟨b1, b2⟩ := b
  by_cases h1 : a1 = b1 <;> by_cases h2 : a2 = b2 <;> simp [h1, h2], fun a => by
  simp only [PyData.depth, PyData.depthAll]
  have h1 := he.dp a.1
  have h2 := hf.dp a.2
  omega⟩
theorem eqe_3 (he : EqE n e) (hf : EqE m f) (hg : EqE k g) : EqE (max n (max m k) + 1) (enc3 e f g) := ⟨fun a b => by
  simp only [PyData.eqv, PyData.eqvAll, he.ev, hf.ev, hg.ev]
  obtain ⟨a1, a2, a3⟩ := a
  obtain ⟨b1, b2, b3⟩ := b
  by_cases h1 : a1 = b1 <;> by_cases h2 : a2 = b2 <;> by_cases h3 : a3 = b3 <;> simp [h1, h2, h3], fun a => by
  simp only [PyData.depth, PyData.depthAll]
  have h1 := he.dp a.1
  have h2 := hf.dp a.2.1
  have h3 := hg.dp a.2.2
  omega⟩
theorem eqe_4 (he : EqE n e) (hf : EqE m f) (hg : EqE k g) (hh : EqE l h) : EqE (max n (max m (max k l)) + 1) (enc4 e f g h) := ⟨fun a b => by
  simp only [PyData.eqv, PyData.eqvAll, he.ev, hf.ev, hg.ev, hh.ev]
  obtain ⟨a1, a2, a3, a4⟩ := a
  obtain ⟨b1, b2, b3, b4⟩ := b
  by_cases h1 : a1 = b1 <;> by_cases h2 : a2 = b2 <;> by_cases h3 : a3 = b3 <;> by_cases h4 : a4 = b4 <;> simp [h1, h2, h3, h4], fun a => by
  simp only [PyData.depth, PyData.depthAll]
  have h1 := he.dp a.1
  have h2 := hf.dp a.2.1
  have h3 := hg.dp a.2.2.1
  have h4 := hh.dp a.2.2.2
  omega⟩
/-- no datum of the type is None -/
def NnE (e : α → PyData) : Prop := ∀ a, isNone (e a) = false
theorem nn_I : NnE PyData.int := fun _ => rfl
theorem nn_B : NnE PyData.bool := fun _ => rfl
theorem nn_S : NnE PyData.str := fun _ => rfl
theorem eqv_none {d : PyData} (h : isNone d = false) : PyData.eqv d .none = false ∧ PyData.eqv .none d = false := by
  cases d with
  | none => cases h
  | _ => exact ⟨by simp only [PyData.eqv], by simp only [PyData.eqv]⟩
theorem eqe_O (he : EqE n e) (hn : ∀ a, isNone (e a) = false) : EqE n (encO e) := ⟨fun a b => by
  cases a with
  | none => cases b with
    | none => simp only [PyData.eqv]; rfl
    | some b => show PyData.eqv .none (e b) = _; rw [(eqv_none (hn b)).2]; simp
  | some a => cases b with
    | none => show PyData.eqv (e a) .none = _; rw [(eqv_none (hn a)).1]; simp
    | some b => show PyData.eqv (e a) (e b) = _; rw [he.ev]; simp, fun a => by
  cases a with
  | none => exact Nat.zero_le _
  | some a => exact he.dp a⟩
theorem f_eq {a b : α} (he : EqE n e) (hn : n ≤ 60 := by decide) : pEq (e a) (e b) = some (.bool (decide (a = b))) := by
  unfold pEq
  rw [if_pos (show eqOk _ _ from Or.inl (Nat.le_trans (he.dp a) (by omega))), he.ev]
theorem f_ne {a b : α} (he : EqE n e) (hn : n ≤ 60 := by decide) : pNe (e a) (e b) = some (.bool (!decide (a = b))) := by
  unfold pNe
  rw [if_pos (show eqOk _ _ from Or.inl (Nat.le_trans (he.dp a) (by omega))), he.ev]
theorem inD_map (he : EqE n e) (a : α) (xs : List α) : inD (e a) (xs.map e) = decide (a ∈ xs) := by
  unfold inD
  induction xs with
  | nil => simp
  | cons x r ih =>
    rw [List.map_cons, List.any_cons, ih, he.ev]
    by_cases h1 : x = a
    · subst h1; simp
    · have h2 : ¬ a = x := fun q => h1 q.symm
      simp [h1, h2]
theorem f_in {a : α} {xs : List α} (he : EqE n e) (hn : n ≤ 60 := by decide) : pIn (e a) (encL e xs) = some (.bool (decide (a ∈ xs))) := by
  have h : inOk (e a) (xs.map e) := Or.inl (Nat.le_trans (he.dp a) hn)
  have q : pIn (e a) (.list (xs.map e)) = if inOk (e a) (xs.map e) then some (.bool (inD (e a) (xs.map e))) else none := by
    cases e a <;> rfl
  rw [q, if_pos h, inD_map he]
theorem f_notin {a : α} {xs : List α} (he : EqE n e) (hn : n ≤ 60 := by decide) : pNotIn (e a) (encL e xs) = some (.bool (!decide (a ∈ xs))) := by
  have h : inOk (e a) (xs.map e) := Or.inl (Nat.le_trans (he.dp a) hn)
  have q : pNotIn (e a) (.list (xs.map e)) = if inOk (e a) (xs.map e) then some (.bool (!inD (e a) (xs.map e))) else none := by
    cases e a <;> rfl
  rw [q, if_pos h, inD_map he]
end

/-! ### operators and built-ins, by type -/
/-- a list's place -/
def ixOk (n : Nat) (i : Int) : Prop := 0 ≤ i ∧ i < n
instance (n : Nat) (i : Int) : Decidable (ixOk n i) := by unfold ixOk; exact inferInstance
def dvOk (j : Int) : Prop := 0 < j ∧ divOk j
instance (n : Int) : Decidable (dvOk n) := by unfold dvOk; exact inferInstance
theorem dvOk_s {j : Int} (h1 : 0 < j) (h2 : j < 2 ^ 64) : dvOk j := ⟨h1, divOk_s h1 h2⟩
section
variable {α β : Type} {e : α → PyData} {f : β → PyData} {xs ys : List α} {a b : Int}
theorem f_mul (h : mulOk a b) : pMul (.int a) (.int b) = some (.int (a * b)) := if_pos h
theorem f_div (h : dvOk b) : pDiv (.int a) (.int b) = some (.int (a / b)) := by rw [d_div, if_pos h.2, fdiv_pos h.1]
theorem f_mod (h : 0 < b) : pMod (.int a) (.int b) = some (.int (a % b)) := by rw [d_mod, if_pos (by omega), fmod_pos h]
theorem f_pow {k : Nat} (h : powOk a b) (hk : b.toNat = k) : pPow (.int a) (.int b) = some (.int (a ^ k)) := by rw [d_pow, if_pos h, hk]
theorem f_addL (h : xs.length + ys.length ≤ sizeLine) : pAdd (encL e xs) (encL e ys) = some (encL e (xs ++ ys)) := by
  rw [d_addl, List.length_map, List.length_map, if_pos h, ← List.map_append]
theorem f_idxL {i : Int} {d : α} (h : ixOk xs.length i) : pIdx (encL e xs) (.int i) = some (e (xs.getD i.toNat d)) := by
  obtain ⟨h0, h1⟩ := h
  refine atI_ok h0 ?_
  rw [List.getElem?_map, List.getElem?_eq_getElem (by omega), Option.map_some, List.getD_eq_getElem?_getD, List.getElem?_eq_getElem (by omega), Option.getD_some]
theorem f_last {d : α} (h : xs ≠ []) : pIdx (encL e xs) (.int (-1)) = some (e (xs.getLastD d)) := by
  have hl : 0 < xs.length := List.length_pos_iff.mpr h
  rw [d_idxL]
  unfold L2.atI L2.ixN
  rw [if_neg (by decide), if_pos (by rw [List.length_map]; omega), List.length_map, Option.bind_some, List.getElem?_map]
  have e1 : ((-1 : Int) + (xs.length : Int)).toNat = xs.length - 1 := by omega
  rw [e1, List.getElem?_eq_getElem (by omega), Option.map_some]
  rw [List.getLastD_eq_getLast?, List.getLast?_eq_getElem?, List.getElem?_eq_getElem (by omega), Option.getD_some]
theorem f_lenL : bLen [encL e xs] = some (.int xs.length) := by rw [d_lenL, List.length_map]
theorem f_sum {ns : List Int} : bSum [encL PyData.int ns] = some (.int ns.sum) := d_sumI ns
theorem f_any {ns : List Bool} : bAny [encL PyData.bool ns] = some (.bool (ns.any id)) := d_anyB ns
theorem f_all {ns : List Bool} : bAll [encL PyData.bool ns] = some (.bool (ns.all id)) := d_allB ns
def maxL (ns : List Int) : Int := (lmax ns).getD 0
def minL (ns : List Int) : Int := (lmin ns).getD 0
theorem f_maxL {ns : List Int} (h : ns ≠ []) : bMax [encL PyData.int ns] = some (.int (maxL ns)) := by
  rw [d_maxL]; obtain ⟨m, h1, _⟩ := lmax_some h; unfold maxL; rw [h1]; rfl
theorem f_minL {ns : List Int} (h : ns ≠ []) : bMin [encL PyData.int ns] = some (.int (minL ns)) := by
  rw [d_minL]; obtain ⟨m, h1, _⟩ := lmin_some h; unfold minL; rw [h1]; rfl
theorem maxL_ok {ns : List Int} (h : ns ≠ []) : maxL ns ∈ ns ∧ ∀ y ∈ ns, y ≤ maxL ns := by
  obtain ⟨m, h1, h2⟩ := lmax_some h; unfold maxL; rw [h1]; exact h2
theorem minL_ok {ns : List Int} (h : ns ≠ []) : minL ns ∈ ns ∧ ∀ y ∈ ns, minL ns ≤ y := by
  obtain ⟨m, h1, h2⟩ := lmin_some h; unfold minL; rw [h1]; exact h2
theorem f_max2 : bMax [.int a, .int b] = some (.int (max a b)) := by
  rw [d_max2]; congr 2; split <;> omega
theorem f_min2 : bMin [.int a, .int b] = some (.int (min a b)) := by
  rw [d_min2]; congr 2; split <;> omega
theorem f_sortI {ns : List Int} : bSorted [encL PyData.int ns] = some (encL PyData.int (ns.mergeSort leI)) := sort_li ns
theorem f_sortP {ns : List (Int × Int)} : bSorted [encL (enc2 PyData.int PyData.int) ns] = some (encL (enc2 PyData.int PyData.int) (ns.mergeSort leP)) := sort_pr ns
theorem f_abs : bAbs [.int a] = some (.int (a.natAbs : Int)) := by
  rw [d_abs]; congr 2; split <;> omega
theorem f_cut2 (h0 : 0 ≤ a) (h1 : 0 ≤ b) : pCut (encL e xs) (some a) (some b) = some (encL e ((xs.drop a.toNat).take (b.toNat - a.toNat))) := by
  rw [d_cutL, cut_nn _ h0 h1, ← List.map_drop, ← List.map_take]
theorem f_cut1 (h0 : 0 ≤ a) : pCut (encL e xs) (some a) none = some (encL e (xs.drop a.toNat)) := by
  rw [d_cutL, cut_nx _ h0, ← List.map_drop]
theorem f_cut0 (h1 : 0 ≤ b) : pCut (encL e xs) none (some b) = some (encL e (xs.take b.toNat)) := by
  rw [d_cutL, cut_xn _ h1, ← List.map_take]
theorem f_cutN : pCut (encL e xs) none none = some (encL e xs) := by
  rw [d_cutL, cut_xx]
theorem f_truL : truth (encL e xs) = some (!xs.isEmpty) := by
  cases xs <;> rfl
theorem f_isN {x : Option α} (hn : ∀ a, isNone (e a) = false) : pIsN (encO e x) .none = some (.bool x.isNone) := by
  rw [d_isN]
  cases x with
  | none => rfl
  | some a => show some (PyData.bool (isNone (e a))) = _; rw [hn a]; rfl
theorem f_isNN {x : Option α} (hn : ∀ a, isNone (e a) = false) : pIsNotN (encO e x) .none = some (.bool x.isSome) := by
  rw [d_isNN]
  cases x with
  | none => rfl
  | some a => show some (PyData.bool (!isNone (e a))) = _; rw [hn a]; rfl
theorem f_isV {x : α} (hn : ∀ a, isNone (e a) = false) : pIsN (e x) .none = some (.bool false) := by rw [d_isN, hn x]
theorem f_isNV {x : α} (hn : ∀ a, isNone (e a) = false) : pIsNotN (e x) .none = some (.bool true) := by rw [d_isNN, hn x]; rfl
def rngI (lo hi : Int) : List Int := (List.range (hi - lo).toNat).map fun (k : Nat) => lo + (k : Int)
theorem rngL_eq (lo hi : Int) : rangeL lo (hi - lo).toNat = (rngI lo hi).map PyData.int := by
  unfold rangeL rngI; rw [List.map_map]; rfl
theorem f_rng1 (h : r62 b) : rng1 [.int b] = some ((rngI 0 b).map PyData.int) := by
  rw [d_rng1, if_pos h, ← rngL_eq, Int.sub_zero]
def rngC (a b c : Int) : List Int := (List.range (Builtin.Range.rangeSize a b c).toNat).map fun (i : Nat) => a + i * c
theorem f_rng3 {a b c : Int} (h : stepOk a b c) : rng3 [.int a, .int b, .int c] = some ((rngC a b c).map PyData.int) := by
  rw [d_rng3, if_pos h]
  unfold rangeC rngC
  rw [List.map_map]; rfl
theorem f_rng2 (h : r62 a) (h' : r62 b) : rng2 [.int a, .int b] = some ((rngI a b).map PyData.int) := by
  rw [d_rng2, if_pos ⟨h, h'⟩, rngL_eq]
theorem t_lrg1I {p : Pt} {g : Evn → RE PyData} {j : Int} (h : TM p g (.int j)) (hk : lrgOk 0 j) : TM p (mLrg1 g) ((rngI 0 j).map PyData.int) := by
  rw [← rngL_eq]; exact t_lrg1 h hk
theorem t_lrg2I {p : Pt} {g g' : Evn → RE PyData} {i j : Int} (h : TM p g (.int i)) (h' : TM p g' (.int j)) (hk : lrgOk i j) : TM p (mLrg2 g g') ((rngI i j).map PyData.int) := by
  rw [← rngL_eq]; exact t_lrg2 h h' hk
theorem rngI_len (lo hi : Int) : (rngI lo hi).length = (hi - lo).toNat := by unfold rngI; rw [List.length_map, List.length_range]
theorem rngI_mem {lo hi x : Int} : x ∈ rngI lo hi ↔ lo ≤ x ∧ x < hi := by
  unfold rngI
  rw [List.mem_map]
  constructor
  · rintro ⟨k, hk, rfl⟩
    have := List.mem_range.mp hk
    omega
  · intro h
    exact ⟨(x - lo).toNat, List.mem_range.mpr (by omega), by omega⟩
theorem rngI_get {lo hi : Int} {i : Nat} (h : i < (hi - lo).toNat) : (rngI lo hi)[i]? = some (lo + i) := by
  unfold rngI
  rw [List.getElem?_map, List.getElem?_range h]; rfl
theorem rngI_nil {lo hi : Int} (h : hi ≤ lo) : rngI lo hi = [] := by
  unfold rngI
  have : (hi - lo).toNat = 0 := by omega
  rw [this]; rfl
theorem rngI_snoc {lo hi : Int} (h : lo ≤ hi) : rngI lo (hi + 1) = rngI lo hi ++ [hi] := by
  unfold rngI
  have : (hi + 1 - lo).toNat = (hi - lo).toNat + 1 := by omega
  rw [this, List.range_succ, List.map_append]
  congr 1
  show [lo + (((hi - lo).toNat : Nat) : Int)] = [hi]
  congr 1
  omega
theorem rngI_cons {lo hi : Int} (h : lo < hi) : rngI lo hi = lo :: rngI (lo + 1) hi := by
  unfold rngI
  have : (hi - lo).toNat = (hi - (lo + 1)).toNat + 1 := by omega
  rw [this, List.range_succ_eq_map, List.map_cons, List.map_map]
  congr 1
  · show lo + ((0 : Nat) : Int) = lo
    omega
  · apply List.map_congr_left
    intro k _
    show lo + ((k + 1 : Nat) : Int) = lo + 1 + k
    omega
def enumI {α : Type} : Int → List α → List (Int × α)
  | _, [] => []
  | k, x :: r => (k, x) :: enumI (k + 1) r
theorem enumL_map : ∀ (xs : List α) (k : Nat), enumL k (xs.map e) = (enumI (k : Int) xs).map (enc2 PyData.int e)
  | [], _ => rfl
  | x :: r, k => by
    rw [List.map_cons, enumL, enumL_map r (k + 1)]
    rfl
theorem f_enum : enum1 [encL e xs] = some ((enumI 0 xs).map (enc2 PyData.int e)) := by
  rw [d_enum1, enumL_map]; rfl
theorem zipL_map : ∀ (xs : List α) (ys : List β), zipL (xs.map e) (ys.map f) = (xs.zip ys).map (enc2 e f)
  | [], _ => by simp [zipL]
  | _ :: _, [] => by simp [zipL]
  | x :: r, y :: s => by
    rw [List.map_cons, List.map_cons, zipL, zipL_map r s]
    rfl
theorem f_zip {ys : List β} : zip2 [encL e xs, encL f ys] = some ((xs.zip ys).map (enc2 e f)) := by
  rw [d_zip2, zipL_map]
theorem f_revW : rev1 (encL e xs) = some (xs.reverse.map e) := by
  rw [d_rev1L, ← List.map_reverse]
theorem f_revL : pRevL (encL e xs) = .ok (xs.reverse.map e) := by
  rw [d_revL, ← List.map_reverse]
theorem f_repL {k : Int} (x : α) : (List.replicate k.toNat [e x]).flatten = (List.replicate k.toNat x).map e := by
  induction k.toNat with
  | zero => rfl
  | succ n ih => rw [List.replicate_succ, List.flatten_cons, ih, List.replicate_succ]; rfl
end
theorem ln_ok {n : Nat} (h : n ≤ 1000) : n ≤ sizeLine := by rw [line_eq]; omega

/-! ### statements -/
def TS (p : Pt) (m : Evn → RS) (Q : RS → Prop) : Prop := ∀ ρ, Sh p ρ → Q (m ρ)
/-- the outcome of a loop's body: on, out of the loop, out of the def -/
inductive Stp (σ τ : Type) where
  | nx (s : σ)
  | bk (s : σ)
  | rt (v : τ)
/-- the outcome of a loop -/
inductive Lp (σ τ : Type) where
  | nx (s : σ)
  | rt (v : τ)
def Lp.el {σ τ V : Type} (r : Lp σ τ) (f : τ → V) (g : σ → V) : V := match r with
  | .nx s => g s
  | .rt v => f v
/-- of a def's body -/
def QF {τ : Type} (e : τ → PyData) (v : τ) (o : RS) : Prop := bodyOut o = .ok (e v)
/-- of a loop's body -/
def QL {σ τ : Type} (E : σ → Pt) (e : τ → PyData) (r : Stp σ τ) (o : RS) : Prop := ∃ fl ρ', o = .ok (fl, ρ') ∧ match r with
  | .nx s => (fl = .nx ∨ fl = .ct) ∧ Sh (E s) ρ'
  | .bk s => fl = .bk ∧ Sh (E s) ρ'
  | .rt v => fl = .rt (e v)
/-- of a part that goes on -/
def QJ {σ : Type} (E : σ → Pt) (s : σ) (o : RS) : Prop := ∃ ρ', o = .ok (.nx, ρ') ∧ Sh (E s) ρ'
section
variable {p q : Pt} {σ τ α V : Type} {Q : RS → Prop} {QQ : V → RS → Prop} {m a b c : Evn → RS} {f fa fb : Evn → RE PyData} {d x y : PyData} {ds : List PyData} {E : σ → Pt} {eτ : τ → PyData} {e : α → PyData} {i : Nat} {xs : List α}
theorem then_nx (m : Evn → RS) (ρ : Evn) : sThen m sNx ρ = m ρ := by
  rw [e_sThen]
  rcases m ρ with ⟨fl, ρ'⟩ | _ | _
  · cases fl <;> rfl
  · rfl
  · rfl
theorem then_as (a b c : Evn → RS) (ρ : Evn) : sThen (sThen a b) c ρ = sThen a (sThen b c) ρ := by
  simp only [e_sThen]
  rcases a ρ with ⟨fl, ρ'⟩ | _ | _
  · cases fl <;> rfl
  · rfl
  · rfl
theorem ts_end (h : TS p (sThen m sNx) Q) : TS p m Q := fun ρ hs => by
  have := h ρ hs
  rwa [then_nx] at this
theorem ts_as (h : TS p (sThen a (sThen b c)) Q) : TS p (sThen (sThen a b) c) Q := fun ρ hs => by
  rw [then_as]; exact h ρ hs
theorem ts_fz (h : TS (fzP i p) (sThen m c) Q) : TS p (sThen (fun ρ => m (freeze i ρ)) c) Q := fun ρ hs => h _ hs.fz
theorem ts_nx (h : TS p c Q) : TS p (sThen sNx c) Q := fun ρ hs => h ρ hs
theorem ts_sub (h : Sb p q) (hm : TS q m Q) : TS p m Q := fun ρ hs => hm ρ (h.sh hs)
theorem ts_set (h : TM p f d) (hm : TS (stP p i (some (.val d))) c Q) : TS p (sThen (sSet i f) c) Q := fun ρ hs => by
  have e : sThen (sSet i f) c ρ = c (ρ.set i (some (.val d))) := by
    rw [e_sThen]; unfold sSet; rw [h ρ hs, at_ok, bind_ok, bind_ok]
  rw [e]
  exact hm _ hs.st
theorem ts_setL {g : Evn → RE (List PyData)} (h : TM p g ds) (hm : TS (stP p i (some (.val (.list ds)))) c Q) : TS p (sThen (sSetL i g) c) Q := fun ρ hs => by
  have e : sThen (sSetL i g) c ρ = c (ρ.set i (some (.val (.list ds)))) := by
    rw [e_sThen]; unfold sSetL; rw [h ρ hs, at_ok, bind_ok, bind_ok]
  rw [e]
  exact hm _ hs.st
theorem ts_setO {g : Evn → RE (List PyData)} (h : TM p g ds) (hm : TS (stP p i (some (.own ds))) c Q) : TS p (sThen (sSetO i g) c) Q := fun ρ hs => by
  have e : sThen (sSetO i g) c ρ = c (ρ.set i (some (.own ds))) := by
    rw [e_sThen]; unfold sSetO; rw [h ρ hs, at_ok, bind_ok, bind_ok]
  rw [e]
  exact hm _ hs.st
theorem ts_drop (h : TM p f d) (hm : TS p c Q) : TS p (sThen (sDrop f) c) Q := fun ρ hs => by
  have e : sThen (sDrop f) c ρ = c ρ := by
    rw [e_sThen]; unfold sDrop; rw [h ρ hs, at_ok, bind_ok, bind_ok]
  rw [e]
  exact hm _ hs
theorem own_at {ρ : Evn} (hs : Sh p ρ) (h : atP p i = some (.own ds)) : ownAt i ρ = some ds := by
  unfold ownAt; rw [hs.get h]
theorem ts_app {x : α} (h0 : atP p i = some (.own (xs.map e))) (h : TM p f (e x)) (hl : xs.length < sizeLine) (hm : TS (stP p i (some (.own ((xs ++ [x]).map e)))) c Q) : TS p (sThen (sApp i f) c) Q := fun ρ hs => by
  have e : sThen (sApp i f) c ρ = c (ρ.set i (some (.own ((xs ++ [x]).map e)))) := by
    rw [e_sThen]; unfold sApp; rw [own_at hs h0]
    show ((((f ρ).at ρ).bind fun d => if (xs.map e).length < sizeLine then (.ok (.nx, ρ.set i (some (.own (xs.map e ++ [d])))) : RS) else .bad).bind _) = _
    rw [h ρ hs, at_ok, bind_ok, if_pos (by rw [List.length_map]; exact hl), bind_ok, List.map_append]; rfl
  rw [e]
  exact hm _ hs.st
theorem ts_setIx {fk fe : Evn → RE PyData} {j : Int} {x : α} (h0 : atP p i = some (.own (xs.map e))) (hk : TM p fk (.int j)) (h : TM p fe (e x)) (hl : ixOk xs.length j) (hm : TS (stP p i (some (.own ((xs.set j.toNat x).map e)))) c Q) : TS p (sThen (sSetIx i fk fe) c) Q := fun ρ hs => by
  have q : sThen (sSetIx i fk fe) c ρ = c (ρ.set i (some (.own ((xs.set j.toNat x).map e)))) := by
    rw [e_sThen, e_sSetIx, ← ownAt_gtO, own_at hs h0, oS_some, bind_ok, h ρ hs, at_ok, bind_ok, hk ρ hs, at_ok, bind_ok, d_setD, List.length_map, ixN_ok hl.1 hl.2, Option.map_some, oS_some, bind_ok, bind_ok, ← set_stE, List.map_set]
  rw [q]
  exact hm _ hs.st
theorem ts_augIx {fk fe : Evn → RE PyData} {o : Int → Int → Int} {j y : Int} {xs : List Int} (h0 : atP p i = some (.own (xs.map PyData.int))) (hk : TM p fk (.int j)) (h : TM p fe (.int y)) (hl : ixOk xs.length j) (hm : TS (stP p i (some (.own ((xs.set j.toNat (o (xs.getD j.toNat 0) y)).map PyData.int)))) c Q) : TS p (sThen (sAugIx i fk o fe) c) Q := fun ρ hs => by
  have q : sThen (sAugIx i fk o fe) c ρ = c (ρ.set i (some (.own ((xs.set j.toNat (o (xs.getD j.toNat 0) y)).map PyData.int)))) := by
    rw [e_sThen, e_sAugIx, ← ownAt_gtO, own_at hs h0, oS_some, bind_ok, hk ρ hs, at_ok, bind_ok, f_idxL (d := 0) hl, oS_some, bind_ok, h ρ hs, at_ok, bind_ok, d_iop, Option.bind_some, d_setD, List.length_map, ixN_ok hl.1 hl.2, Option.map_some, oS_some, bind_ok, bind_ok, ← set_stE, List.map_set]
  rw [q]
  exact hm _ hs.st
theorem ts_aug {o : PyData → PyData → Option PyData} {z : PyData} (h0 : atP p i = some (.val x)) (h : TM p f y) (ho : o x y = some z) (hm : TS (stP p i (some (.val z))) c Q) : TS p (sThen (sAug i o f) c) Q := fun ρ hs => by
  have q : sThen (sAug i o f) c ρ = c (ρ.set i (some (.val z))) := by
    have g : gtE ρ i = .ok x := by rw [← e_mGet]; exact t_get h0 ρ hs
    rw [e_sThen, e_sAug, g, at_ok, bind_ok, h ρ hs, at_ok, bind_ok, ho, oS_some, bind_ok, bind_ok, ← set_stE]
  rw [q]
  exact hm _ hs.st
theorem getLast_map (e : α → PyData) (d : α) (h : xs ≠ []) : (xs.map e).getLast? = some (e (xs.getLastD d)) := by
  rw [List.getLast?_map, List.getLastD_eq_getLast?, List.getLast?_eq_some_getLast h]; rfl
theorem ts_pop (h0 : atP p i = some (.own (xs.map e))) (hl : xs ≠ []) (hm : TS (stP p i (some (.own (xs.dropLast.map e)))) c Q) : TS p (sThen (sPop i) c) Q := fun ρ hs => by
  have q : sThen (sPop i) c ρ = c (ρ.set i (some (.own (xs.dropLast.map e)))) := by
    obtain ⟨a, ha⟩ : ∃ a : α, True := by cases xs with
      | nil => exact absurd rfl hl
      | cons a _ => exact ⟨a, trivial⟩
    rw [e_sThen, e_sPop, ← ownAt_gtO, own_at hs h0, oS_some, bind_ok, getLast_map e a hl, oS_some, bind_ok, bind_ok, ← set_stE, List.map_dropLast]
  rw [q]
  exact hm _ hs.st
theorem ts_popTo {j : Nat} (d : α) (h0 : atP p i = some (.own (xs.map e))) (hl : xs ≠ []) (hm : TS (stP (stP p i (some (.own (xs.dropLast.map e)))) j (some (.val (e (xs.getLastD d))))) c Q) : TS p (sThen (sPopTo i j) c) Q := fun ρ hs => by
  have q : sThen (sPopTo i j) c ρ = c ((ρ.set i (some (.own (xs.dropLast.map e)))).set j (some (.val (e (xs.getLastD d))))) := by
    rw [e_sThen, e_sPopTo, ← ownAt_gtO, own_at hs h0, oS_some, bind_ok, getLast_map e d hl, oS_some, bind_ok, bind_ok, ← set_stE, ← set_stE, List.map_dropLast]
  rw [q]
  exact hm _ hs.st.st
theorem ts_asg {g : PyData → Evn → Option Evn} (h : TM p f d) (hg : TG p g d q) (hm : TS q c Q) : TS p (sThen (sAsg f g) c) Q := fun ρ hs => by
  obtain ⟨ρ', h1, h2⟩ := hg ρ hs
  have q : sThen (sAsg f g) c ρ = c ρ' := by
    rw [e_sThen, e_sAsg, h ρ hs, at_ok, bind_ok, h1, oS_some, bind_ok, bind_ok]
  rw [q]
  exact hm _ h2
theorem ts_par {j : Nat} {g : Evn → RE (List PyData)} (h : TM p g [x, y]) (hm : TS (stP (stP p i (some (.val x))) j (some (.val y))) c Q) : TS p (sThen (sPar i j g) c) Q := fun ρ hs => by
  have q : sThen (sPar i j g) c ρ = c ((ρ.set i (some (.val x))).set j (some (.val y))) := by
    rw [e_sThen, e_sPar, h ρ hs, at_ok, bind_ok]
    show c (stE (stE ρ i _) j _) = _
    rw [set_stE, set_stE]
  rw [q]
  exact hm _ hs.st.st
theorem then_ret (h : TM p f d) (c : Evn → RS) {ρ : Evn} (hs : Sh p ρ) : sThen (sRet f) c ρ = .ok (.rt d, ρ) := by
  rw [e_sThen, e_sRet, h ρ hs, at_ok, bind_ok, bind_ok]
theorem ts_retF {v : τ} (h : TM p f (eτ v)) : TS p (sThen (sRet f) c) (QF eτ v) := fun ρ hs => by
  rw [then_ret h c hs]; rfl
theorem ts_retL {v : τ} (h : TM p f (eτ v)) : TS p (sThen (sRet f) c) (QL E eτ (.rt v)) := fun ρ hs => by
  rw [then_ret h c hs]; exact ⟨_, _, rfl, rfl⟩
theorem ts_retNF {v : τ} (h : eτ v = .none) : TS p (sThen (fun ρ => .ok (.rt .none, ρ)) c) (QF eτ v) := fun ρ hs => by
  show bodyOut (.ok (.rt .none, ρ)) = _
  rw [h]; rfl
theorem ts_bk {s : σ} (h : Sb p (E s)) : TS p (sThen (fun ρ => .ok (.bk, ρ)) c) (QL E eτ (.bk s)) := fun ρ hs => ⟨_, _, rfl, rfl, h.sh hs⟩
theorem ts_ct {s : σ} (h : Sb p (E s)) : TS p (sThen (fun ρ => .ok (.ct, ρ)) c) (QL E eτ (.nx s)) := fun ρ hs => ⟨_, _, rfl, .inr rfl, h.sh hs⟩
theorem ts_finL {s : σ} (h : Sb p (E s)) : TS p sNx (QL E eτ (.nx s)) := fun ρ hs => ⟨_, _, rfl, .inl rfl, h.sh hs⟩
theorem ts_finJ {s : σ} (h : Sb p (E s)) : TS p sNx (QJ E s) := fun ρ hs => ⟨_, rfl, h.sh hs⟩
theorem ts_finF {v : τ} (h : eτ v = .none) : TS p sNx (QF eτ v) := fun ρ hs => by
  show bodyOut (.ok (.nx, ρ)) = _
  rw [h]; rfl
theorem then_if {t : Evn → RE Bool} {k : Bool} (hc : TM p t k) {ρ : Evn} (hs : Sh p ρ) : sThen (sIf t a b) c ρ = if k = true then sThen a c ρ else sThen b c ρ := by
  rw [e_sThen, e_sIf, hc ρ hs, at_ok, bind_ok]
  cases k <;> simp
theorem ts_if {t : Evn → RE Bool} {k : Bool} {u v : V} (hc : TM p t k) (ha : k = true → TS p (sThen a c) (QQ u)) (hb : k = false → TS p (sThen b c) (QQ v)) : TS p (sThen (sIf t a b) c) (QQ (if k = true then u else v)) := fun ρ hs => by
  rw [then_if hc hs]
  cases k with
  | true => rw [if_pos rfl, if_pos rfl]; exact ha rfl ρ hs
  | false => rw [if_neg (by decide), if_neg (by decide)]; exact hb rfl ρ hs
theorem ts_join {t : Evn → RE Bool} {k : Bool} {u v : σ} (hc : TM p t k) (ha : k = true → TS p a (QJ E u)) (hb : k = false → TS p b (QJ E v)) (hr : TS (E (if k = true then u else v)) c Q) : TS p (sThen (sIf t a b) c) Q := fun ρ hs => by
  rw [then_if hc hs]
  cases k with
  | true =>
    rw [if_pos rfl] at hr ⊢
    obtain ⟨ρ', h1, h2⟩ := ha rfl ρ hs
    rw [e_sThen, h1, bind_ok]
    exact hr ρ' h2
  | false =>
    rw [if_neg (by decide)] at hr ⊢
    obtain ⟨ρ', h1, h2⟩ := hb rfl ρ hs
    rw [e_sThen, h1, bind_ok]
    exact hr ρ' h2
end
/-! loops -/
/-- what a loop needs at each turn -/
inductive LpS {σ α : Type} (S : σ → α → Prop) (F : σ → α → σ) : List α → σ → Prop
  | nil {s : σ} : LpS S F [] s
  | cons {x : α} {r : List α} {s : σ} : S s x → LpS S F r (F s x) → LpS S F (x :: r) s
theorem LpS.hd {σ α : Type} {S : σ → α → Prop} {F : σ → α → σ} {x : α} {r : List α} {s : σ} (h : LpS S F (x :: r) s) : S s x := by cases h with | cons a b => exact a
theorem LpS.tl {σ α : Type} {S : σ → α → Prop} {F : σ → α → σ} {x : α} {r : List α} {s : σ} (h : LpS S F (x :: r) s) : LpS S F r (F s x) := by cases h with | cons a b => exact b
theorem LpS.inv {σ α : Type} {S : σ → α → Prop} {F : σ → α → σ} (I : σ → Prop) : ∀ {xs : List α} {s : σ}, I s → (∀ s x, x ∈ xs → I s → S s x ∧ I (F s x)) → LpS S F xs s
  | [], _, _, _ => .nil
  | x :: r, s, h0, h => .cons (h s x (List.mem_cons_self ..) h0).1 (LpS.inv I (h s x (List.mem_cons_self ..) h0).2 fun s y hy => h s y (List.mem_cons_of_mem _ hy))
/-- .. by the part that is behind -/
theorem LpS.pre {σ α : Type} {S : σ → α → Prop} {F : σ → α → σ} {xs : List α} {s : σ} (h : ∀ pre x post, xs = pre ++ x :: post → S (pre.foldl F s) x) : LpS S F xs s := by
  have key : ∀ (es pre : List α), xs = pre ++ es → LpS S F es (pre.foldl F s) := by
    intro es
    induction es with
    | nil => intro _ _; exact .nil
    | cons x r ih =>
      intro pre e
      refine .cons (h pre x r e) ?_
      have := ih (pre ++ [x]) (by rw [e, List.append_assoc]; rfl)
      rwa [List.foldl_append] at this
  exact key xs [] rfl
theorem fold_inv {σ α : Type} {F : σ → α → σ} (I : σ → Prop) : ∀ {xs : List α} {s : σ}, I s → (∀ s x, x ∈ xs → I s → I (F s x)) → I (xs.foldl F s)
  | [], _, h, _ => h
  | x :: r, s, h0, h => fold_inv (F := F) I (xs := r) (s := F s x) (h s x (List.mem_cons_self ..) h0) fun s y hy => h s y (List.mem_cons_of_mem _ hy)
theorem fold_pre {σ α : Type} {F : σ → α → σ} {xs : List α} {s : σ} (I : List α → σ → Prop) (h0 : I [] s) (h : ∀ pre x post s, xs = pre ++ x :: post → I pre s → I (pre ++ [x]) (F s x)) : I xs (xs.foldl F s) := by
  have key : ∀ (es pre : List α) (s : σ), xs = pre ++ es → I pre s → I xs (es.foldl F s) := by
    intro es
    induction es with
    | nil => intro pre s e hi; rw [List.append_nil] at e; subst e; exact hi
    | cons x r ih => intro pre s e hi; exact ih (pre ++ [x]) (F s x) (by rw [e, List.append_assoc]; rfl) (h pre x r s e hi)
  exact key xs [] s rfl h0
def loopR {σ τ α : Type} (F : σ → α → Stp σ τ) : List α → σ → Lp σ τ
  | [], s => .nx s
  | x :: r, s => match F s x with
    | .nx s' => loopR F r s'
    | .bk s' => .nx s'
    | .rt v => .rt v
inductive LpR {σ τ α : Type} (S : σ → α → Prop) (F : σ → α → Stp σ τ) : List α → σ → Prop
  | nil {s : σ} : LpR S F [] s
  | cons {x : α} {r : List α} {s : σ} : S s x → (∀ s', F s x = .nx s' → LpR S F r s') → LpR S F (x :: r) s
theorem LpR.hd {σ τ α : Type} {S : σ → α → Prop} {F : σ → α → Stp σ τ} {x : α} {r : List α} {s : σ} (h : LpR S F (x :: r) s) : S s x := by cases h with | cons a b => exact a
theorem LpR.tl {σ τ α : Type} {S : σ → α → Prop} {F : σ → α → Stp σ τ} {x : α} {r : List α} {s s' : σ} (h : LpR S F (x :: r) s) (e : F s x = .nx s') : LpR S F r s' := by cases h with | cons a b => exact b s' e
theorem LpR.inv {σ τ α : Type} {S : σ → α → Prop} {F : σ → α → Stp σ τ} (I : σ → Prop) : ∀ {xs : List α} {s : σ}, I s → (∀ s x, x ∈ xs → I s → S s x ∧ ∀ s', F s x = .nx s' → I s') → LpR S F xs s
  | [], _, _, _ => .nil
  | x :: r, s, h0, h => by
    have h1 := h s x (List.mem_cons_self ..) h0
    exact .cons h1.1 fun s' e => LpR.inv I (h1.2 s' e) fun s y hy => h s y (List.mem_cons_of_mem _ hy)
theorem loopR_cons {σ τ α : Type} (F : σ → α → Stp σ τ) (x : α) (r : List α) (s : σ) : loopR F (x :: r) s = match F s x with
    | .nx s' => loopR F r s'
    | .bk s' => .nx s'
    | .rt v => .rt v := rfl
/-- a loop that only ever goes on -/
theorem loopR_fold {σ τ α : Type} {F : σ → α → Stp σ τ} {G : σ → α → σ} (I : σ → Prop) : ∀ {xs : List α} {s : σ}, I s → (∀ s x, x ∈ xs → I s → F s x = .nx (G s x) ∧ I (G s x)) → loopR F xs s = .nx (xs.foldl G s)
  | [], _, _, _ => rfl
  | x :: r, s, h0, h => by
    have h1 := h s x (List.mem_cons_self ..) h0
    rw [loopR_cons, h1.1]
    exact loopR_fold I h1.2 fun s y hy => h s y (List.mem_cons_of_mem _ hy)
section
variable {p : Pt} {σ τ α V : Type} {Q : RS → Prop} {QQ : V → RS → Prop} {body c : Evn → RS} {w : Evn → RE (List PyData)} {g : PyData → Evn → Option Evn} {E : σ → Pt} {eτ : τ → PyData} {e : α → PyData} {xs : List α} {s0 : σ} {q : σ → α → Pt}
theorem for_fold {S : σ → α → Prop} {F : σ → α → σ} (hg : ∀ s x, TG (E s) g (e x) (q s x)) (hb : ∀ s x, x ∈ xs → S s x → TS (q s x) body (QL E eτ (.nx (F s x)))) : ∀ (ys : List α) (s : σ) (ρ : Evn), (∀ y ∈ ys, y ∈ xs) → LpS S F ys s → Sh (E s) ρ → ∃ ρ', forM g body (ys.map e) ρ = .ok (.nx, ρ') ∧ Sh (E (ys.foldl F s)) ρ'
  | [], s, ρ, _, _, h => ⟨ρ, rfl, h⟩
  | y :: r, s, ρ, hm, hl, h => by
    obtain ⟨ρ1, h1, h2⟩ := hg s y ρ h
    obtain ⟨fl, ρ2, h3, h4, h5⟩ := hb s y (hm y (List.mem_cons_self ..)) hl.hd ρ1 h2
    obtain ⟨ρ3, h6, h7⟩ := for_fold hg hb r (F s y) ρ2 (fun z hz => hm z (List.mem_cons_of_mem _ hz)) hl.tl h5
    refine ⟨ρ3, ?_, h7⟩
    rw [List.map_cons, forM_cons, h1, oS_some, bind_ok, h3, bind_ok]
    rcases h4 with rfl | rfl <;> exact h6
theorem ts_for {S : σ → α → Prop} {F : σ → α → σ} (h0 : Sb p (E s0)) (hw : TM p w (xs.map e)) (hl : LpS S F xs s0) (hg : ∀ s x, TG (E s) g (e x) (q s x)) (hb : ∀ s x, x ∈ xs → S s x → TS (q s x) body (QL E eτ (.nx (F s x)))) (hr : TS (E (xs.foldl F s0)) c Q) : TS p (sThen (sFor w g body) c) Q := fun ρ hs => by
  obtain ⟨ρ', h1, h2⟩ := for_fold hg hb xs s0 ρ (fun _ h => h) hl (h0.sh hs)
  have q : sThen (sFor w g body) c ρ = c ρ' := by
    rw [e_sThen, e_sFor, hw ρ hs, at_ok, bind_ok, h1, bind_ok]
  rw [q]
  exact hr ρ' h2
theorem for_R {S : σ → α → Prop} {F : σ → α → Stp σ τ} (hg : ∀ s x, TG (E s) g (e x) (q s x)) (hb : ∀ s x, x ∈ xs → S s x → TS (q s x) body (QL E eτ (F s x))) : ∀ (ys : List α) (s : σ) (ρ : Evn), (∀ y ∈ ys, y ∈ xs) → LpR S F ys s → Sh (E s) ρ → ∃ fl ρ', forM g body (ys.map e) ρ = .ok (fl, ρ') ∧ match loopR F ys s with
      | .nx s' => fl = .nx ∧ Sh (E s') ρ'
      | .rt v => fl = .rt (eτ v)
  | [], s, ρ, _, _, h => ⟨_, ρ, rfl, rfl, h⟩
  | y :: r, s, ρ, hm, hl, h => by
    obtain ⟨ρ1, h1, h2⟩ := hg s y ρ h
    obtain ⟨fl, ρ2, h3, h4⟩ := hb s y (hm y (List.mem_cons_self ..)) hl.hd ρ1 h2
    rw [loopR_cons]
    cases k : F s y with
    | nx s' =>
      rw [k] at h4
      obtain ⟨fl', ρ3, h6, h7⟩ := for_R hg hb r s' ρ2 (fun z hz => hm z (List.mem_cons_of_mem _ hz)) (hl.tl k) h4.2
      refine ⟨fl', ρ3, ?_, h7⟩
      rw [List.map_cons, forM_cons, h1, oS_some, bind_ok, h3, bind_ok]
      rcases h4.1 with rfl | rfl <;> exact h6
    | bk s' =>
      rw [k] at h4
      refine ⟨_, ρ2, ?_, rfl, h4.2⟩
      rw [List.map_cons, forM_cons, h1, oS_some, bind_ok, h3, bind_ok, h4.1]
    | rt v =>
      rw [k] at h4
      refine ⟨.rt (eτ v), ρ2, ?_, rfl⟩
      have h4' : fl = .rt (eτ v) := h4
      rw [List.map_cons, forM_cons, h1, oS_some, bind_ok, h3, bind_ok, h4']
/-- how a return out of a loop ends the part that it stands in -/
theorem ts_forR {S : σ → α → Prop} {F : σ → α → Stp σ τ} {K : τ → V} {G : σ → V} (hK : ∀ v ρ, QQ (K v) (.ok (.rt (eτ v), ρ))) (h0 : Sb p (E s0)) (hw : TM p w (xs.map e)) (hl : LpR S F xs s0) (hg : ∀ s x, TG (E s) g (e x) (q s x)) (hb : ∀ s x, x ∈ xs → S s x → TS (q s x) body (QL E eτ (F s x))) (hr : ∀ s, loopR F xs s0 = .nx s → TS (E s) c (QQ (G s))) : TS p (sThen (sFor w g body) c) (QQ ((loopR F xs s0).el K G)) := fun ρ hs => by
  obtain ⟨fl, ρ', h1, h2⟩ := for_R hg hb xs s0 ρ (fun _ h => h) hl (h0.sh hs)
  have q : sThen (sFor w g body) c ρ = (R.ok (fl, ρ') : RS).bind fun p => match p.1 with | .nx => c p.2 | _ => .ok p := by
    (rw [e_sThen, e_sFor, hw ρ hs, at_ok, bind_ok, h1]) <;> rfl
  rw [q, bind_ok]
  cases k : loopR F xs s0 with
  | nx s =>
    rw [k] at h2
    obtain ⟨rfl, h3⟩ := h2
    exact hr s k ρ' h3
  | rt v =>
    rw [k] at h2
    have h2' : fl = .rt (eτ v) := h2
    subst h2'
    exact hK v ρ'
theorem kF {v : τ} {ρ : Evn} : QF eτ v (.ok (.rt (eτ v), ρ)) := rfl
theorem kL {σ' : Type} {E' : σ' → Pt} {v : τ} {ρ : Evn} : QL E' eτ (.rt v) (.ok (.rt (eτ v), ρ)) := ⟨_, _, rfl, rfl⟩
end
/-! while -/
def whR {σ τ : Type} (t : σ → Bool) (F : σ → Stp σ τ) : Nat → σ → Lp σ τ
  | 0, s => .nx s
  | n + 1, s => if t s = true then (match F s with
    | .nx s' => whR t F n s'
    | .bk s' => .nx s'
    | .rt v => .rt v) else .nx s
inductive whS {σ τ : Type} (St Sb : σ → Prop) (t : σ → Bool) (F : σ → Stp σ τ) : Nat → σ → Prop
  | step {n : Nat} {s : σ} : St s → (t s = true → Sb s) → (t s = true → ∀ s', F s = .nx s' → whS St Sb t F n s') → whS St Sb t F (n + 1) s
theorem whR_succ {σ τ : Type} (t : σ → Bool) (F : σ → Stp σ τ) (n : Nat) (s : σ) : whR t F (n + 1) s = if t s = true then (match F s with
    | .nx s' => whR t F n s'
    | .bk s' => .nx s'
    | .rt v => .rt v) else .nx s := rfl
section
variable {p : Pt} {σ τ V : Type} {Q : RS → Prop} {QQ : V → RS → Prop} {body c : Evn → RS} {tt : Evn → RE Bool} {E : σ → Pt} {eτ : τ → PyData} {s0 : σ}
theorem wh_R {St Sb : σ → Prop} {t : σ → Bool} {F : σ → Stp σ τ} (ht : ∀ s, St s → TM (E s) tt (t s)) (hb : ∀ s, t s = true → Sb s → TS (E s) body (QL E eτ (F s))) : ∀ (n : Nat) (s : σ) (ρ : Evn), whS St Sb t F n s → Sh (E s) ρ → ∃ fl ρ', whileM tt body n ρ = .ok (fl, ρ') ∧ match whR t F n s with
      | .nx s' => fl = .nx ∧ Sh (E s') ρ'
      | .rt v => fl = .rt (eτ v)
  | 0, s, ρ, hl, _ => by cases hl
  | n + 1, s, ρ, hl, h => by
    cases hl with
    | step hl1 hl2 hl5 =>
    have e0 := ht s hl1 ρ h
    unfold whileM
    rw [whR_succ, e0, at_ok, bind_ok]
    by_cases k : t s = true
    · rw [if_pos k, if_pos k]
      have hl3 := hl2 k
      have hl4 := hl5 k
      obtain ⟨fl, ρ2, h3, h4⟩ := hb s k hl3 ρ h
      rw [h3, bind_ok]
      cases k2 : F s with
      | nx s' =>
        rw [k2] at h4
        obtain ⟨fl', ρ3, h6, h7⟩ := wh_R ht hb n s' ρ2 (hl4 s' k2) h4.2
        refine ⟨fl', ρ3, ?_, h7⟩
        rcases h4.1 with rfl | rfl <;> exact h6
      | bk s' =>
        rw [k2] at h4
        refine ⟨_, ρ2, ?_, rfl, h4.2⟩
        rw [h4.1]
      | rt v =>
        rw [k2] at h4
        refine ⟨.rt (eτ v), ρ2, ?_, rfl⟩
        have h4' : fl = .rt (eτ v) := h4
        rw [h4']
    · rw [if_neg k, if_neg k]
      exact ⟨_, ρ, rfl, rfl, h⟩
theorem ts_while {n : Nat} {St Sbo : σ → Prop} {t : σ → Bool} {F : σ → Stp σ τ} {K : τ → V} {G : σ → V} (hK : ∀ v ρ, QQ (K v) (.ok (.rt (eτ v), ρ))) (h0 : Sb p (E s0)) (hl : whS St Sbo t F n s0) (ht : ∀ s, St s → TM (E s) tt (t s)) (hb : ∀ s, t s = true → Sbo s → TS (E s) body (QL E eτ (F s))) (hr : ∀ s, whR t F n s0 = .nx s → TS (E s) c (QQ (G s))) : TS p (sThen (whileM tt body n) c) (QQ ((whR t F n s0).el K G)) := fun ρ hs => by
  obtain ⟨fl, ρ', h1, h2⟩ := wh_R ht hb n s0 ρ hl (h0.sh hs)
  rw [e_sThen, h1, bind_ok]
  cases k : whR t F n s0 with
  | nx s =>
    rw [k] at h2
    obtain ⟨rfl, h3⟩ := h2
    exact hr s k ρ' h3
  | rt v =>
    rw [k] at h2
    have h2' : fl = .rt (eτ v) := h2
    subst h2'
    exact hK v ρ'
end
/-! a def -/
theorem t_fn {τ : Type} {eτ : τ → PyData} {n N : Nat} {b : Evn → RS} {ds : List PyData} {v : τ} (h : ds.length = n) (hb : TS (ptE N ds) b (QF eτ v)) : fnM n N b ds = .ok (eτ v) := by
  rw [fn_go h]
  exact hb _ (sh_start N ds)
end PV
namespace PV
open PySem
/-- let, by a name -/
def bnd {α : Type} {β : Sort _} (a : α) (f : α → β) : β := f a
theorem ln_r {n : Nat} (h : Nat.ble n 1000 = true) : n ≤ sizeLine := ln_ok (Nat.le_of_ble_eq_true h)
theorem ix_mod {n : Nat} {x k : Int} (h0 : 0 < k) (h : k ≤ n) : ixOk n (x % k) := ⟨Int.emod_nonneg _ (by omega), by have := Int.emod_lt_of_pos x h0; omega⟩
theorem LpS.tt {σ α : Type} {F : σ → α → σ} : ∀ {xs : List α} {s : σ}, LpS (fun _ _ => True) F xs s
  | [], _ => .nil
  | _ :: _, _ => .cons trivial LpS.tt
theorem LpR.tt {σ τ α : Type} {F : σ → α → Stp σ τ} {xs : List α} {s : σ} : LpR (fun _ _ => True) F xs s := LpR.inv (fun _ => True) trivial fun _ _ _ _ => ⟨trivial, fun _ _ => trivial⟩
section
variable {p : Pt} {σ τ α γ V : Type} {QQ : V → RS → Prop} {body c : Evn → RS} {f : Evn → RE PyData} {i : Nat} {eγ : γ → PyData} {a : γ} {B : γ → V} {S' : γ → Prop}
theorem ts_setG (h : TM p f (eγ a)) (hS : bnd a S') (hm : ∀ v, S' v → TS (stP p i (some (.val (eγ v)))) c (QQ (B v))) : TS p (sThen (sSet i f) c) (QQ (bnd a B)) := ts_set h (hm a hS)
theorem ts_setLG {g : Evn → RE (List PyData)} {a : List γ} {B : List γ → V} {S' : List γ → Prop} (h : TM p g (a.map eγ)) (hS : bnd a S') (hm : ∀ v, S' v → TS (stP p i (some (.val (encL eγ v)))) c (QQ (B v))) : TS p (sThen (sSetL i g) c) (QQ (bnd a B)) := ts_setL h (hm a hS)
theorem ts_setOG {g : Evn → RE (List PyData)} {a : List γ} {B : List γ → V} {S' : List γ → Prop} (h : TM p g (a.map eγ)) (hS : bnd a S') (hm : ∀ v, S' v → TS (stP p i (some (.own (v.map eγ)))) c (QQ (B v))) : TS p (sThen (sSetO i g) c) (QQ (bnd a B)) := ts_setO h (hm a hS)
theorem ts_augG {o : PyData → PyData → Option PyData} {x y : PyData} (h0 : atP p i = some (.val x)) (h : TM p f y) (ho : o x y = some (eγ a)) (hS : bnd a S') (hm : ∀ v, S' v → TS (stP p i (some (.val (eγ v)))) c (QQ (B v))) : TS p (sThen (sAug i o f) c) (QQ (bnd a B)) := ts_aug h0 h ho (hm a hS)
theorem ts_asgG {g : PyData → Evn → Option Evn} {q : γ → Pt} (h : TM p f (eγ a)) (hS : bnd a S') (hg : ∀ v, TG p g (eγ v) (q v)) (hm : ∀ v, S' v → TS (q v) c (QQ (B v))) : TS p (sThen (sAsg f g) c) (QQ (bnd a B)) := ts_asg h (hg a) (hm a hS)
theorem ts_forG {w : Evn → RE (List PyData)} {g : PyData → Evn → Option Evn} {E : σ → Pt} {eτ : τ → PyData} {e : α → PyData} {xs : List α} {s0 : σ} {q : σ → α → Pt} {B : σ → V} {S' : σ → Prop} {S : σ → α → Prop} {F : σ → α → σ}
    (h0 : Sb p (E s0)) (hw : TM p w (xs.map e)) (hl : LpS S F xs s0) (hg : ∀ s x, TG (E s) g (e x) (q s x)) (hb : ∀ s x, x ∈ xs → S s x → TS (q s x) body (QL E eτ (.nx (F s x)))) (hS : bnd (xs.foldl F s0) S') (hr : ∀ s, S' s → TS (E s) c (QQ (B s))) : TS p (sThen (sFor w g body) c) (QQ (bnd (xs.foldl F s0) B)) :=
  ts_for h0 hw hl hg hb (hr _ hS)
theorem ts_joinG {A C : Evn → RS} {t : Evn → RE Bool} {k : Bool} {u v : σ} {E : σ → Pt} {B : σ → V} {S' : σ → Prop} (hc : TM p t k) (ha : k = true → TS p A (QJ E u)) (hb : k = false → TS p C (QJ E v)) (hS : bnd (if k = true then u else v) S') (hr : ∀ s, S' s → TS (E s) c (QQ (B s))) : TS p (sThen (sIf t A C) c) (QQ (bnd (if k = true then u else v) B)) :=
  ts_join hc ha hb (hr _ hS)
theorem ts_forRU {w : Evn → RE (List PyData)} {g : PyData → Evn → Option Evn} {E : σ → Pt} {eτ : τ → PyData} {e : α → PyData} {xs : List α} {s0 : σ} {q : σ → α → Pt} {S : σ → α → Prop} {F : σ → α → Stp σ τ} {K : τ → V} {G : σ → V}
    (hK : ∀ v ρ, QQ (K v) (.ok (.rt (eτ v), ρ))) (h0 : Sb p (E s0)) (hw : TM p w (xs.map e)) (hl : LpR S F xs s0) (hg : ∀ s x, TG (E s) g (e x) (q s x)) (hb : ∀ s x, x ∈ xs → S s x → TS (q s x) body (QL E eτ (F s x))) (hr : ∀ s, loopR F xs s0 = .nx s → TS (E s) c (QQ (G s))) : TS p (sThen (sFor w g body) c) (QQ ((loopR F xs s0).el K G)) :=
  ts_forR hK h0 hw hl hg hb hr
theorem ts_whileU {tt : Evn → RE Bool} {E : σ → Pt} {eτ : τ → PyData} {s0 : σ} {n : Nat} {St Sbo : σ → Prop} {t : σ → Bool} {F : σ → Stp σ τ} {K : τ → V} {G : σ → V} (hK : ∀ v ρ, QQ (K v) (.ok (.rt (eτ v), ρ))) (h0 : Sb p (E s0)) (hl : whS St Sbo t F n s0) (ht : ∀ s, St s → TM (E s) tt (t s)) (hb : ∀ s, t s = true → Sbo s → TS (E s) body (QL E eτ (F s))) (hr : ∀ s, whR t F n s0 = .nx s → TS (E s) c (QQ (G s))) : TS p (sThen (whileM tt body n) c) (QQ ((whR t F n s0).el K G)) :=
  ts_while hK h0 hl ht hb hr
end
section
variable {α : Type} {e : α → PyData} {xs ys : List α}
theorem f_i0 (x : PyData) (r : List PyData) : pIdx (.tuple (x :: r)) (.int 0) = some x := at_0 x r
theorem f_i1 (x y : PyData) (r : List PyData) : pIdx (.tuple (x :: y :: r)) (.int 1) = some y := at_1 x y r
theorem f_i2 (x y z : PyData) (r : List PyData) : pIdx (.tuple (x :: y :: z :: r)) (.int 2) = some z := at_2 x y z r
theorem f_i3 (x y z u : PyData) (r : List PyData) : pIdx (.tuple (x :: y :: z :: u :: r)) (.int 3) = some u := at_3 x y z u r
theorem f_i4 (x y z u v : PyData) (r : List PyData) : pIdx (.tuple (x :: y :: z :: u :: v :: r)) (.int 4) = some v := at_4 x y z u v r
theorem f_i5 (x y z u v w : PyData) (r : List PyData) : pIdx (.tuple (x :: y :: z :: u :: v :: w :: r)) (.int 5) = some w := at_5 x y z u v w r
theorem f_idxU {i : Int} {d : α} (h : ixOk xs.length i) : pIdx (encU e xs) (.int i) = some (e (xs.getD i.toNat d)) := f_idxL h
theorem f_lenU : bLen [encU e xs] = some (.int xs.length) := by rw [d_lenT, List.length_map]
theorem f_eqA {d d' : PyData} (h : eqOk d d') : pEq d d' = some (.bool (PyData.eqv d d')) := if_pos h
theorem f_neA {d d' : PyData} (h : eqOk d d') : pNe d d' = some (.bool (!PyData.eqv d d')) := if_pos h
theorem f_addS {x y : Str} (h : x.length + y.length ≤ sizeLine) : pAdd (.str x) (.str y) = some (.str (x ++ y)) := if_pos h
end
end PV
namespace PV
open PySem
theorem unLO {α : Type} {e : α → PyData} {xs : List (Option α)} {d : α} (h : ∀ x ∈ xs, x.isSome = true) : xs.map (encO e) = (xs.map fun x => x.getD d).map e := by
  rw [List.map_map]
  apply List.map_congr_left
  intro x hx
  cases x with
  | none => have := h _ hx; cases this
  | some a => rfl
end PV
namespace PV
open PySem
/-- what a meaning gives, without a look at it -/
noncomputable def opq {α : Type} [Inhabited α] (e : α → PyData) (r : RE PyData) : α := open Classical in if h : ∃ v, r = .ok (e v) then h.choose else default
theorem opq_T {α : Type} [Inhabited α] {e : α → PyData} {r : RE PyData} (h : ∃ v, r = .ok (e v)) : r = .ok (e (opq e r)) := by
  unfold opq
  rw [dif_pos h]
  exact h.choose_spec
theorem ok_inj {ε α : Type} {a b : α} (h : (R.ok a : R ε α) = R.ok b) : a = b := by injection h
theorem opq_B {r : RE PyData} {b : Bool} (h : r = .ok (.bool b)) : opq PyData.bool r = b := by
  have := ok_inj (h.symm.trans (opq_T (e := PyData.bool) ⟨b, h⟩))
  injection this with this
  exact this.symm
theorem opq_I {r : RE PyData} {b : Int} (h : r = .ok (.int b)) : opq PyData.int r = b := by
  have := ok_inj (h.symm.trans (opq_T (e := PyData.int) ⟨b, h⟩))
  injection this with this
  exact this.symm
theorem map_idD (ds : List PyData) : ds.map idD = ds := List.map_id' ds
theorem opq_LA {r : RE PyData} {ds : List PyData} (h : r = .ok (.list ds)) : opq (encL idD) r = ds := by
  have h' : r = .ok (encL idD ds) := by rw [h]; show _ = R.ok (PyData.list (ds.map idD)); rw [map_idD]
  have := ok_inj (h'.symm.trans (opq_T (e := encL idD) ⟨ds, h'⟩))
  injection this with this
  rw [map_idD, map_idD] at this
  exact this.symm
instance : Inhabited PyData := ⟨.none⟩
theorem opq_A {r : RE PyData} {d : PyData} (h : r = .ok d) : opq idD r = d := (ok_inj (h.symm.trans (opq_T (e := idD) ⟨d, h⟩))).symm
end PV
namespace PV
open PySem
section
variable {a b : Int} {p q : Bool}
theorem f_add : pAdd (.int a) (.int b) = some (.int (a + b)) := rfl
theorem f_iadd : pIAdd (.int a) (.int b) = some (.int (a + b)) := rfl
theorem f_sub : pSub (.int a) (.int b) = some (.int (a - b)) := rfl
theorem f_lt : pLt (.int a) (.int b) = some (.bool (decide (a < b))) := rfl
theorem f_le : pLe (.int a) (.int b) = some (.bool (decide (a ≤ b))) := rfl
theorem f_gt : pGt (.int a) (.int b) = some (.bool (decide (b < a))) := rfl
theorem f_ge : pGe (.int a) (.int b) = some (.bool (decide (b ≤ a))) := rfl
theorem f_neg : pNeg (.int a) = some (.int (-a)) := rfl
theorem f_not : pNot (.bool p) = some (.bool (!p)) := rfl
theorem f_intI : bInt [.int a] = some (.int a) := rfl
theorem f_intB : bInt [.bool p] = some (.int (if p = true then 1 else 0)) := rfl
theorem f_gcd : bGcd [.int a, .int b] = some (.int ((Nat.gcd a.natAbs b.natAbs : Nat) : Int)) := rfl
theorem f_truB : truth (.bool p) = some p := rfl
theorem f_truI : truth (.int a) = some (a != 0) := rfl
theorem f_isNN0 : pIsN .none .none = some (.bool true) := rfl
theorem f_isNNN0 : pIsNotN .none .none = some (.bool false) := rfl
end
end PV

namespace PV
open PySem
abbrev vv {α : Type} (e : α → PyData) (x : α) : Option Cel := some (.val (e x))
abbrev vo {α : Type} (e : α → PyData) (xs : List α) : Option Cel := some (.own (xs.map e))
theorem ts_p {p : Pt} (q : Pt) {m : Evn → RS} {Q : RS → Prop} (e : p = q) (h : TS q m Q) : TS p m Q := e ▸ h
theorem tm_p {α : Type} {p : Pt} (q : Pt) {m : Evn → RE α} {a : α} (e : p = q) (h : TM q m a) : TM p m a := e ▸ h
end PV
namespace PV
open PySem
theorem mTup_ok {ds : List PyData} (h : Nat.ble ds.length 1000 = true) : mTup ds = .ok (.tuple ds) := if_pos (ln_r h)
theorem mLst_ok {ds : List PyData} (h : Nat.ble ds.length 1000 = true) : mLst ds = .ok (.list ds) := if_pos (ln_r h)
section
variable {α : Type} {e : α → PyData} {xs : List α}
theorem f_idxK {j : Int} {d : α} (n : Nat) (hj : j = (n : Int)) (h : n < xs.length) : pIdx (encL e xs) (.int j) = some (e (xs.getD n d)) := by
  subst hj
  exact f_idxL (i := (n : Int)) ⟨by omega, by omega⟩
theorem f_idxKU {j : Int} {d : α} (n : Nat) (hj : j = (n : Int)) (h : n < xs.length) : pIdx (encU e xs) (.int j) = some (e (xs.getD n d)) := f_idxK n hj h
end
end PV
namespace PV
open PySem
theorem t_as {p : Pt} {α : Type} {f : Evn → RE PyData} (e : α → PyData) (x : α) (h : TM p f (e x)) : TM p f (e x) := h
end PV
namespace PV
open PySem
/-! data without dicts, by type -/
def PlE {α : Type} (d : Nat) (e : α → PyData) : Prop := ∀ k a, d ≤ k → plainD k (e a)
theorem PlE.ok {α : Type} {d k : Nat} {e : α → PyData} (h : PlE d e) (a : α) (hk : d ≤ k := by decide) : plainD k (e a) := h k a hk
theorem pl_succ {d k : Nat} (h : d + 1 ≤ k) : ∃ j, k = j + 1 ∧ d ≤ j := ⟨k - 1, by omega, by omega⟩
theorem ple_I : PlE 1 PyData.int := fun k a h => by obtain ⟨j, rfl, _⟩ := pl_succ h; trivial
theorem ple_B : PlE 1 PyData.bool := fun k a h => by obtain ⟨j, rfl, _⟩ := pl_succ h; trivial
theorem ple_S : PlE 1 PyData.str := fun k a h => by obtain ⟨j, rfl, _⟩ := pl_succ h; trivial
theorem ple_N : PlE 1 eN := fun k a h => by obtain ⟨j, rfl, _⟩ := pl_succ h; trivial
section
variable {α β γ δ : Type} {n m k l : Nat} {e : α → PyData} {f : β → PyData} {g : γ → PyData} {h : δ → PyData}
theorem ple_O (he : PlE n e) (hn : 1 ≤ n := by decide) : PlE n (encO e) := fun k a hk => by
  cases a with
  | none => obtain ⟨j, rfl, _⟩ := pl_succ (Nat.le_trans hn hk); trivial
  | some a => exact he k a hk
theorem ple_2 (he : PlE n e) (hf : PlE m f) : PlE (max n m + 1) (enc2 e f) := fun k a hk => by
  obtain ⟨j, rfl, hj⟩ := pl_succ hk
  refine ⟨by simp, fun x hx => ?_⟩
  simp only [List.mem_cons, List.not_mem_nil, or_false] at hx
  rcases hx with rfl | rfl
  · exact he j _ (by omega)
  · exact hf j _ (by omega)
theorem ple_3 (he : PlE n e) (hf : PlE m f) (hg : PlE k g) : PlE (max n (max m k) + 1) (enc3 e f g) := fun k a hk => by
  obtain ⟨j, rfl, hj⟩ := pl_succ hk
  refine ⟨by simp, fun x hx => ?_⟩
  simp only [List.mem_cons, List.not_mem_nil, or_false] at hx
  rcases hx with rfl | rfl | rfl
  · exact he j _ (by omega)
  · exact hf j _ (by omega)
  · exact hg j _ (by omega)
theorem ple_4 (he : PlE n e) (hf : PlE m f) (hg : PlE k g) (hh : PlE l h) : PlE (max n (max m (max k l)) + 1) (enc4 e f g h) := fun k a hk => by
  obtain ⟨j, rfl, hj⟩ := pl_succ hk
  refine ⟨by simp, fun x hx => ?_⟩
  simp only [List.mem_cons, List.not_mem_nil, or_false] at hx
  rcases hx with rfl | rfl | rfl | rfl
  · exact he j _ (by omega)
  · exact hf j _ (by omega)
  · exact hg j _ (by omega)
  · exact hh j _ (by omega)
theorem plain_L {xs : List α} (he : ∀ x ∈ xs, plainD n (e x)) (hl : xs.length ≤ sizeLine) : plainD (n + 1) (encL e xs) := ⟨by rw [List.length_map]; rw [line_eq] at hl; omega, fun x hx => by
  obtain ⟨y, hy, rfl⟩ := List.mem_map.mp hx
  exact he y hy⟩
theorem plain_LE {xs : List α} (he : PlE n e) (hl : xs.length ≤ sizeLine) (hk : n + 1 ≤ k := by decide) : plainD k (encL e xs) := by
  obtain ⟨j, rfl, hj⟩ := pl_succ hk
  exact plain_L (fun x _ => he j x hj) hl
end

/-! proving what is needed -/
theorem bnd_of {α : Type} {a : α} {S : α → Prop} (P : α → Prop) (h : P a) (hs : ∀ v, P v → S v) : bnd a S := hs a h
theorem bnd_and {α β : Type} {a : α} {S : α → Prop} {B : α → β} {b : β} (P : α → Prop) (h : P a) (hs : ∀ v, P v → S v ∧ B v = b) : bnd a S ∧ bnd a B = b := hs a h
theorem gd {g S F : Prop} (h : g) (hs : S ∧ F) : (g ∧ S) ∧ F := ⟨⟨h, hs.1⟩, hs.2⟩
/-- a loop over a run of whole numbers: what it needs, and what holds behind it -/
theorem LpS_rng {σ : Type} {S : σ → Int → Prop} {F : σ → Int → σ} {n : Int} {s0 : σ} (I : Int → σ → Prop) (h0 : I 0 s0) (hn : 0 ≤ n) (h : ∀ k s, 0 ≤ k → k < n → I k s → S s k ∧ I (k + 1) (F s k)) : LpS S F (rngI 0 n) s0 ∧ I n ((rngI 0 n).foldl F s0) := by
  have key : ∀ (j : Nat) (lo : Int) (s : σ), 0 ≤ lo → (n - lo).toNat = j → lo ≤ n → I lo s → LpS S F (rngI lo n) s ∧ I n ((rngI lo n).foldl F s) := by
    intro j
    induction j with
    | zero =>
      intro lo s _ e hl hi
      have : lo = n := by omega
      subst this
      rw [rngI_nil (Int.le_refl _)]
      exact ⟨.nil, hi⟩
    | succ j ih =>
      intro lo s h0 e hl hi
      rw [rngI_cons (by omega)]
      obtain ⟨h1, h2⟩ := h lo s h0 (by omega) hi
      obtain ⟨h3, h4⟩ := ih (lo + 1) (F s lo) (by omega) (by omega) (by omega) h2
      exact ⟨.cons h1 h3, h4⟩
  exact key _ 0 s0 (Int.le_refl _) rfl hn h0
theorem fold_rng {σ : Type} {F : σ → Int → σ} {n : Int} {s0 : σ} (I : Int → σ → Prop) (h0 : I 0 s0) (hn : 0 ≤ n) (h : ∀ k s, 0 ≤ k → k < n → I k s → I (k + 1) (F s k)) : I n ((rngI 0 n).foldl F s0) :=
  (LpS_rng (S := fun _ _ => True) I h0 hn fun k s a b c => ⟨trivial, h k s a b c⟩).2
theorem LpS_inv {σ α : Type} {S : σ → α → Prop} {F : σ → α → σ} {xs : List α} {s : σ} (I : σ → Prop) (h0 : I s) (h : ∀ s x, x ∈ xs → I s → S s x ∧ I (F s x)) : LpS S F xs s ∧ I (xs.foldl F s) :=
  ⟨LpS.inv I h0 h, fold_inv I h0 fun s x hx hi => (h s x hx hi).2⟩
theorem LpS_pre {σ α : Type} {S : σ → α → Prop} {F : σ → α → σ} {xs : List α} {s : σ} (I : List α → σ → Prop) (h0 : I [] s) (h : ∀ pre x post s, xs = pre ++ x :: post → I pre s → S s x ∧ I (pre ++ [x]) (F s x)) : LpS S F xs s ∧ I xs (xs.foldl F s) := by
  have key : ∀ (es pre : List α) (s : σ), xs = pre ++ es → I pre s → LpS S F es s ∧ I xs (es.foldl F s) := by
    intro es
    induction es with
    | nil => intro pre s e hi; rw [List.append_nil] at e; subst e; exact ⟨.nil, hi⟩
    | cons x r ih =>
      intro pre s e hi
      obtain ⟨h1, h2⟩ := h pre x r s e hi
      obtain ⟨h3, h4⟩ := ih (pre ++ [x]) (F s x) (by rw [e, List.append_assoc]; rfl) h2
      exact ⟨.cons h1 h3, h4⟩
  exact key xs [] s rfl h0
/-- a loop that finds nothing to leave for -/
theorem loopR_all {τ α : Type} {F : Unit → α → Stp Unit τ} {xs : List α} (h : ∀ x ∈ xs, F () x = .nx ()) : loopR F xs () = .nx () := by
  induction xs with
  | nil => rfl
  | cons x r ih => rw [loopR_cons, h x (List.mem_cons_self ..)]; exact ih fun y hy => h y (List.mem_cons_of_mem _ hy)
theorem LpR_all {τ α : Type} {S : Unit → α → Prop} {F : Unit → α → Stp Unit τ} {xs : List α} (h : ∀ x ∈ xs, S () x) : LpR S F xs () := LpR.inv (fun _ => True) trivial fun s x hx _ => ⟨h x hx, fun _ _ => trivial⟩
theorem el_nx {σ τ V : Type} {s : σ} {f : τ → V} {g : σ → V} : (Lp.nx s : Lp σ τ).el f g = g s := rfl
theorem el_rt {σ τ V : Type} {v : τ} {f : τ → V} {g : σ → V} : (Lp.rt v : Lp σ τ).el f g = f v := rfl
/-- a search -/
theorem loopR_find {α β : Type} {F : Unit → α → Stp Unit β} (p : α → Bool) (f : α → β) (h : ∀ x, F () x = if p x = true then .rt (f x) else .nx ()) : ∀ xs : List α, loopR F xs () = match xs.find? p with
    | some x => .rt (f x)
    | none => .nx ()
  | [] => rfl
  | x :: r => by
    rw [loopR_cons, h x, List.find?_cons]
    cases p x with
    | true => rfl
    | false => exact loopR_find p f h r
end PV
namespace PV
open PySem
section
variable {p : Pt} {α V : Type} {QQ : V → RS → Prop} {c : Evn → RS} {i : Nat} {eγ : α → PyData} {B : List α → V} {S' : List α → Prop} {xs : List α}
theorem ts_setIxG {fk fe : Evn → RE PyData} {j : Int} {x : α} (h0 : atP p i = some (.own (xs.map eγ))) (hk : TM p fk (.int j)) (h : TM p fe (eγ x)) (hl : ixOk xs.length j) (hS : bnd (xs.set j.toNat x) S') (hm : ∀ v, S' v → TS (stP p i (some (.own (v.map eγ)))) c (QQ (B v))) : TS p (sThen (sSetIx i fk fe) c) (QQ (bnd (xs.set j.toNat x) B)) :=
  ts_setIx h0 hk h hl (hm _ hS)
theorem ts_augIxG {fk fe : Evn → RE PyData} {o : Int → Int → Int} {j y : Int} {xs : List Int} {B : List Int → V} {S' : List Int → Prop} (h0 : atP p i = some (.own (xs.map PyData.int))) (hk : TM p fk (.int j)) (h : TM p fe (.int y)) (hl : ixOk xs.length j) (hS : bnd (xs.set j.toNat (o (xs.getD j.toNat 0) y)) S') (hm : ∀ v, S' v → TS (stP p i (some (.own (v.map PyData.int)))) c (QQ (B v))) : TS p (sThen (sAugIx i fk o fe) c) (QQ (bnd (xs.set j.toNat (o (xs.getD j.toNat 0) y)) B)) :=
  ts_augIx h0 hk h hl (hm _ hS)
end
end PV
namespace PV
open PySem
theorem t_coL {p : Pt} {α β : Type} {f : Evn → RE PyData} {e : α → PyData} {e' : β → PyData} {xs : List α} (c : α → β) (hc : ∀ x, e' (c x) = e x) (h : TM p f (encL e xs)) : TM p f (encL e' (xs.map c)) := by
  have : encL e' (xs.map c) = encL e xs := by
    show PyData.list ((xs.map c).map e') = PyData.list (xs.map e)
    rw [List.map_map]
    exact congrArg PyData.list (List.map_congr_left fun x _ => hc x)
  rw [this]; exact h
end PV
namespace PV
open PySem
theorem t_coE {p : Pt} {α β : Type} {f : Evn → RE PyData} {e : α → PyData} {e' : β → PyData} {x : α} (y : β) (hc : e' y = e x) (h : TM p f (e x)) : TM p f (e' y) := by rw [hc]; exact h
end PV

namespace PV
open PySem
section
variable {α : Type} {e : α → PyData} {xs : List α}
theorem f_items : itemsOf (encL e xs) = some (xs.map e) := rfl
theorem f_itemsU : itemsOf (encU e xs) = some (xs.map e) := rfl
theorem f_pLst : pLst (encL e xs) = .ok (xs.map e) := rfl
theorem f_listL : bList [encL e xs] = some (encL e xs) := rfl
theorem f_listU : bList [encU e xs] = some (encL e xs) := rfl
theorem f_tupL : bTuple [encL e xs] = some (encU e xs) := rfl
end
end PV
namespace PV
open PySem
/-- of a part that goes on or leaves the def -/
def QR {σ τ : Type} (E : σ → Pt) (e : τ → PyData) (r : Lp σ τ) (o : RS) : Prop := ∃ fl ρ', o = .ok (fl, ρ') ∧ match r with
  | .nx s => fl = .nx ∧ Sh (E s) ρ'
  | .rt v => fl = .rt (e v)
section
variable {p : Pt} {σ τ V : Type} {QQ : V → RS → Prop} {c : Evn → RS} {f : Evn → RE PyData} {E : σ → Pt} {eτ : τ → PyData}
theorem ts_retR {v : τ} (h : TM p f (eτ v)) : TS p (sThen (sRet f) c) (QR E eτ (.rt v)) := fun ρ hs => by
  rw [then_ret h c hs]; exact ⟨_, _, rfl, rfl⟩
theorem ts_finR {s : σ} (h : Sb p (E s)) : TS p sNx (QR E eτ (.nx s)) := fun ρ hs => ⟨_, _, rfl, rfl, h.sh hs⟩
theorem kR {σ' : Type} {E' : σ' → Pt} {v : τ} {ρ : Evn} : QR E' eτ (.rt v) (.ok (.rt (eτ v), ρ)) := ⟨_, _, rfl, rfl⟩
theorem ts_joinR {A C : Evn → RS} {t : Evn → RE Bool} {k : Bool} {u v : Lp σ τ} {K : τ → V} {G : σ → V} (hK : ∀ v ρ, QQ (K v) (.ok (.rt (eτ v), ρ))) (hc : TM p t k) (ha : k = true → TS p A (QR E eτ u)) (hb : k = false → TS p C (QR E eτ v)) (hr : ∀ s, (if k = true then u else v) = .nx s → TS (E s) c (QQ (G s))) : TS p (sThen (sIf t A C) c) (QQ ((if k = true then u else v).el K G)) := fun ρ hs => by
  have key : ∀ (M : Evn → RS) (r : Lp σ τ), TS p M (QR E eτ r) → (∀ s, r = .nx s → TS (E s) c (QQ (G s))) → QQ (r.el K G) (sThen M c ρ) := by
    intro M r hM hr
    obtain ⟨fl, ρ', h1, h2⟩ := hM ρ hs
    rw [e_sThen, h1, bind_ok]
    cases r with
    | nx s =>
      obtain ⟨rfl, h3⟩ := h2
      exact hr s rfl ρ' h3
    | rt v =>
      have h2' : fl = .rt (eτ v) := h2
      subst h2'
      exact hK v ρ'
  rw [then_if hc hs]
  cases k with
  | true =>
    rw [if_pos rfl] at hr
    rw [if_pos rfl, if_pos rfl]
    exact key A u (ha rfl) hr
  | false =>
    rw [if_neg (by decide)] at hr
    rw [if_neg (by decide), if_neg (by decide)]
    exact key C v (hb rfl) hr
end
end PV
namespace PV
open PySem
theorem t_coM {p : Pt} {α β : Type} {m : Evn → RE (List PyData)} {e : α → PyData} {e' : β → PyData} {xs : List α} (c : α → β) (hc : ∀ x, e' (c x) = e x) (h : TM p m (xs.map e)) : TM p m ((xs.map c).map e') := by
  rw [List.map_map]
  have : xs.map (e' ∘ c) = xs.map e := List.map_congr_left fun x _ => hc x
  rw [this]; exact h
theorem t_coM0 {p : Pt} {β : Type} {m : Evn → RE (List PyData)} {e' : β → PyData} (h : TM p m []) : TM p m (([] : List β).map e') := h
end PV
namespace PV
open PySem
theorem t_cat {p : Pt} {α : Type} {e : α → PyData} {fa fb : Evn → RE PyData} {xs ys : List α} (ha : TM p fa (encL e xs)) (hb : TM p fb (encL e ys)) (h : xs.length + ys.length ≤ sizeLine) : TM p (mCat fa fb) ((xs ++ ys).map e) := fun ρ hs => by
  rw [e_mCat, ha ρ hs, bind_ok, hb ρ hs, bind_ok]
  show (if (xs.map e).length + (ys.map e).length ≤ sizeLine then R.ok (xs.map e ++ ys.map e) else .bad) = _
  rw [List.length_map, List.length_map, if_pos h, List.map_append]
end PV
namespace PV
open PySem
/-! loops that are left by break alone -/
def eE : Empty → PyData := fun v => nomatch v
def Lp.got {σ : Type} (r : Lp σ Empty) : σ := match r with
  | .nx s => s
  | .rt v => nomatch v
theorem Lp.got_nx {σ : Type} {r : Lp σ Empty} {s : σ} (h : r = .nx s) : r.got = s := by rw [h]; rfl
theorem Lp.is_nx {σ : Type} (r : Lp σ Empty) : r = .nx r.got := by cases r with
  | nx s => rfl
  | rt v => exact nomatch v
section
variable {p : Pt} {σ α V : Type} {QQ : V → RS → Prop} {body c : Evn → RS} {w : Evn → RE (List PyData)} {g : PyData → Evn → Option Evn} {E : σ → Pt} {e : α → PyData} {xs : List α} {s0 : σ} {q : σ → α → Pt} {B : σ → V} {S' : σ → Prop} {tt : Evn → RE Bool} {n : Nat}
theorem ts_forB {S : σ → α → Prop} {F : σ → α → Stp σ Empty} (h0 : Sb p (E s0)) (hw : TM p w (xs.map e)) (hl : LpR S F xs s0) (hg : ∀ s x, TG (E s) g (e x) (q s x)) (hb : ∀ s x, x ∈ xs → S s x → TS (q s x) body (QL E eE (F s x))) (hS : bnd (loopR F xs s0).got S') (hr : ∀ s, S' s → TS (E s) c (QQ (B s))) : TS p (sThen (sFor w g body) c) (QQ (bnd (loopR F xs s0).got B)) := fun ρ hs => by
  obtain ⟨fl, ρ', h1, h2⟩ := for_R hg hb xs s0 ρ (fun _ h => h) hl (h0.sh hs)
  rw [Lp.is_nx (loopR F xs s0)] at h2
  obtain ⟨rfl, h3⟩ := h2
  have k : sThen (sFor w g body) c ρ = c ρ' := by
    rw [e_sThen, e_sFor, hw ρ hs, at_ok, bind_ok, h1, bind_ok]
  rw [k]
  exact hr _ hS ρ' h3
theorem ts_whileB {St Sbo : σ → Prop} {t : σ → Bool} {F : σ → Stp σ Empty} (h0 : Sb p (E s0)) (hl : whS St Sbo t F n s0) (ht : ∀ s, St s → TM (E s) tt (t s)) (hb : ∀ s, t s = true → Sbo s → TS (E s) body (QL E eE (F s))) (hS : bnd (whR t F n s0).got S') (hr : ∀ s, S' s → TS (E s) c (QQ (B s))) : TS p (sThen (whileM tt body n) c) (QQ (bnd (whR t F n s0).got B)) := fun ρ hs => by
  obtain ⟨fl, ρ', h1, h2⟩ := wh_R ht hb n s0 ρ hl (h0.sh hs)
  rw [Lp.is_nx (whR t F n s0)] at h2
  obtain ⟨rfl, h3⟩ := h2
  rw [e_sThen, h1, bind_ok]
  exact hr _ hS ρ' h3
end
end PV
end
section
set_option Elab.async false
set_option linter.all false
set_option maxRecDepth 100000
set_option maxHeartbeats 4000000
/-! VQ: what is needed and what is given, proved side by side. -/
namespace PV
open PySem
def Ok {β : Type} (S : Prop) (x : β) (Q : β → Prop) : Prop := S ∧ Q x
section
variable {β γ σ τ α : Type} {S S1 S2 g : Prop} {x y : β} {Q : β → Prop} {a : γ} {S' : γ → Prop} {B : γ → β} {c : Bool}
theorem ok_end (h : S) (q : Q x) : Ok S x Q := ⟨h, q⟩
theorem ok_g (h : g) (k : Ok S x Q) : Ok (g ∧ S) x Q := ⟨⟨h, k.1⟩, k.2⟩
theorem ok_bnd (P : γ → Prop) (h : P a) (k : ∀ v, P v → Ok (S' v) (B v) Q) : Ok (bnd a S') (bnd a B) Q := k a h
theorem ok_bnd0 (P : γ → Prop) (h : P a) (k : ∀ v, P v → Ok S (B v) Q) : Ok S (bnd a B) Q := k a h
theorem ok_bndG (P : γ → Prop) (h : g) (h' : P a) (k : ∀ v, P v → Ok (S' v) (B v) Q) : Ok (g ∧ bnd a S') (bnd a B) Q := ok_g h (k a h')
theorem ok_if (h1 : c = true → Ok S1 x Q) (h2 : c = false → Ok S2 y Q) : Ok ((c = true → S1) ∧ (c = false → S2)) (if c = true then x else y) Q := by
  cases c with
  | true => exact ⟨⟨fun _ => (h1 rfl).1, fun h => nomatch h⟩, by rw [if_pos rfl]; exact (h1 rfl).2⟩
  | false => exact ⟨⟨(fun h => nomatch h), fun _ => (h2 rfl).1⟩, by rw [if_neg (by decide)]; exact (h2 rfl).2⟩
theorem ok_ifT (h1 : c = true → Ok S1 x Q) (h2 : c = false → Q y) : Ok (c = true → S1) (if c = true then x else y) Q := by
  cases c with
  | true => exact ⟨fun _ => (h1 rfl).1, by rw [if_pos rfl]; exact (h1 rfl).2⟩
  | false => exact ⟨(fun h => nomatch h), by rw [if_neg (by decide)]; exact h2 rfl⟩
theorem ok_ifF (h1 : c = true → Q x) (h2 : c = false → Ok S2 y Q) : Ok (c = false → S2) (if c = true then x else y) Q := by
  cases c with
  | true => exact ⟨(fun h => nomatch h), by rw [if_pos rfl]; exact h1 rfl⟩
  | false => exact ⟨fun _ => (h2 rfl).1, by rw [if_neg (by decide)]; exact (h2 rfl).2⟩
/-- an if that is not taken -/
theorem ok_no (hc : c = false) (h2 : Ok S2 y Q) : Ok (c = false → S2) (if c = true then x else y) Q := ok_ifF (fun h => by rw [hc] at h; cases h) fun _ => h2
theorem ok_no0 (hc : c = false) (h2 : Ok S y Q) : Ok S (if c = true then x else y) Q := by rw [hc, if_neg (by decide)]; exact h2
theorem ok_noB (hc : c = false) (h2 : Ok S2 y Q) : Ok ((c = true → S1) ∧ (c = false → S2)) (if c = true then x else y) Q := ok_if (fun h => by rw [hc] at h; cases h) fun _ => h2
theorem ok_for {xs : List α} {F : σ → α → σ} {Sb : σ → α → Prop} {s0 : σ} {S' : σ → Prop} {B : σ → β} (I : σ → Prop) (h : LpS Sb F xs s0 ∧ I (xs.foldl F s0)) (k : ∀ s, I s → Ok (S' s) (B s) Q) : Ok (LpS Sb F xs s0 ∧ bnd (xs.foldl F s0) S') (bnd (xs.foldl F s0) B) Q := ok_g h.1 (k _ h.2)
theorem ok_for0 {xs : List α} {F : σ → α → σ} {Sb : σ → α → Prop} {s0 : σ} {B : σ → β} (I : σ → Prop) (h : LpS Sb F xs s0 ∧ I (xs.foldl F s0)) (k : ∀ s, I s → Q (B s)) : Ok (LpS Sb F xs s0) (bnd (xs.foldl F s0) B) Q := ⟨h.1, k _ h.2⟩
/-- a loop that goes through -/
theorem ok_forR {xs : List α} {F : σ → α → Stp σ τ} {Sb : σ → α → Prop} {s0 s1 : σ} {K : τ → β} {G : σ → β} {S2 : σ → Prop} (h1 : LpR Sb F xs s0) (h2 : loopR F xs s0 = .nx s1) (k : Ok (S2 s1) (G s1) Q) : Ok (LpR Sb F xs s0 ∧ ∀ s, loopR F xs s0 = .nx s → S2 s) ((loopR F xs s0).el K G) Q := by
  refine ⟨⟨h1, fun s e => ?_⟩, ?_⟩
  · rw [h2] at e; cases e; exact k.1
  · rw [h2]; exact k.2
theorem ok_forR0 {xs : List α} {F : σ → α → Stp σ τ} {Sb : σ → α → Prop} {s0 s1 : σ} {K : τ → β} {G : σ → β} (h1 : LpR Sb F xs s0) (h2 : loopR F xs s0 = .nx s1) (k : Q (G s1)) : Ok (LpR Sb F xs s0) ((loopR F xs s0).el K G) Q := ⟨h1, by rw [h2]; exact k⟩
theorem Ok.mono {Q' : β → Prop} (h : Ok S x Q) (q : ∀ x, Q x → Q' x) : Ok S x Q' := ⟨h.1, q _ h.2⟩
end
/-- a walk that goes through, each turn being right -/
theorem ok_all {τ α : Type} {Sb : Unit → α → Prop} {F : Unit → α → Stp Unit τ} {xs : List α} (h : ∀ x ∈ xs, Sb () x ∧ F () x = .nx ()) : LpR Sb F xs () ∧ loopR F xs () = .nx () := ⟨LpR_all fun x hx => (h x hx).1, loopR_all fun x hx => (h x hx).2⟩
end PV
namespace PV
open PySem
theorem loop_any {τ α : Type} {F : Unit → α → Stp Unit τ} {v : τ} (c : α → Bool) : ∀ {xs : List α}, (∀ x ∈ xs, F () x = if c x = true then .rt v else .nx ()) → loopR F xs () = if xs.any c = true then .rt v else .nx ()
  | [], _ => rfl
  | x :: r, h => by
    rw [loopR_cons, h x (List.mem_cons_self ..), List.any_cons]
    cases c x with
    | true => rfl
    | false => exact loop_any c fun y hy => h y (List.mem_cons_of_mem _ hy)
theorem take_succ_sum (l : List Int) (m : Nat) : (l.take (m + 1)).sum = (l.take m).sum + l.getD m 0 := by
  induction l generalizing m with
  | nil => simp
  | cons x r ih => cases m with
    | zero => simp
    | succ m => rw [List.take_succ_cons, List.take_succ_cons, List.sum_cons, List.sum_cons, ih, List.getD_cons_succ]; omega
theorem getD_drop (l : List Int) (a m : Nat) : (l.drop a).getD m 0 = l.getD (a + m) 0 := by
  rw [List.getD_eq_getElem?_getD, List.getD_eq_getElem?_getD, List.getElem?_drop]
theorem gd_mem {α : Type} {l : List α} {i : Nat} {d : α} (h : i < l.length) : l.getD i d ∈ l := by
  rw [List.getD_eq_getElem?_getD, List.getElem?_eq_getElem h]; exact List.getElem_mem h
theorem getD_rngI {lo hi : Int} {i : Nat} {d : Int} (h : i < (hi - lo).toNat) : (rngI lo hi).getD i d = lo + i := by
  rw [List.getD_eq_getElem?_getD, rngI_get h]; rfl
theorem all_map {α : Type} (l : List α) (f : α → Bool) : (l.map f).all id = l.all f := by rw [List.all_map]; rfl
theorem any_map' {α : Type} (l : List α) (f : α → Bool) : (l.map f).any id = l.any f := by rw [List.any_map]; rfl
end PV
namespace PV
open PySem
theorem get3P {α : Type} {P : α → Prop} {a b c z : α} {i : Int} (h0 : 0 ≤ i) (h1 : i < 3) (ha : P a) (hb : P b) (hc : P c) : P ([a, b, c].getD i.toNat z) := by
  have : i = 0 ∨ i = 1 ∨ i = 2 := by omega
  rcases this with e | e | e <;> subst e <;> assumption
theorem get4P {α : Type} {P : α → Prop} {a b c d z : α} {i : Int} (h0 : 0 ≤ i) (h1 : i < 4) (ha : P a) (hb : P b) (hc : P c) (hd : P d) : P ([a, b, c, d].getD i.toNat z) := by
  have : i = 0 ∨ i = 1 ∨ i = 2 ∨ i = 3 := by omega
  rcases this with e | e | e | e <;> subst e <;> assumption
theorem get2P {α : Type} {P : α → Prop} {a b z : α} {i : Int} (h0 : 0 ≤ i) (h1 : i < 2) (ha : P a) (hb : P b) : P ([a, b].getD i.toNat z) := by
  have : i = 0 ∨ i = 1 := by omega
  rcases this with e | e <;> subst e <;> assumption
theorem get5P {α : Type} {P : α → Prop} {a b c d f z : α} {i : Int} (h0 : 0 ≤ i) (h1 : i < 5) (ha : P a) (hb : P b) (hc : P c) (hd : P d) (hf : P f) : P ([a, b, c, d, f].getD i.toNat z) := by
  have : i = 0 ∨ i = 1 ∨ i = 2 ∨ i = 3 ∨ i = 4 := by omega
  rcases this with e | e | e | e | e <;> subst e <;> assumption
theorem get6P {α : Type} {P : α → Prop} {a b c d f g z : α} {i : Int} (h0 : 0 ≤ i) (h1 : i < 6) (ha : P a) (hb : P b) (hc : P c) (hd : P d) (hf : P f) (hg : P g) : P ([a, b, c, d, f, g].getD i.toNat z) := by
  have : i = 0 ∨ i = 1 ∨ i = 2 ∨ i = 3 ∨ i = 4 ∨ i = 5 := by omega
  rcases this with e | e | e | e | e | e <;> subst e <;> assumption
theorem gd_snoc {α : Type} {l : List α} {x z : α} {i : Nat} (h : i = l.length) : (l ++ [x]).getD i z = x := by
  rw [List.getD_eq_getElem?_getD, List.getElem?_append_right (by omega)]
  have : i - l.length = 0 := by omega
  rw [this]; rfl
theorem gd_app {α : Type} {l m : List α} {z : α} {i : Nat} (h : i < l.length) : (l ++ m).getD i z = l.getD i z := by
  rw [List.getD_eq_getElem?_getD, List.getElem?_append_left h, ← List.getD_eq_getElem?_getD]
/-- items of what is drawn -/
theorem pk {ds : List Int} {m : Int} (h : ∀ x ∈ ds, 0 ≤ x ∧ x < m) (i : Nat) (hi : i < ds.length) : 0 ≤ ds.getD i 0 ∧ ds.getD i 0 < m := h _ (gd_mem hi)
end PV
namespace PV
open PySem
theorem LpR_rng {σ τ : Type} {S : σ → Int → Prop} {F : σ → Int → Stp σ τ} {n : Int} {s0 : σ} (I : Int → σ → Prop) (h0 : I 0 s0) (hn : 0 ≤ n) (h : ∀ k s, 0 ≤ k → k < n → I k s → S s k ∧ ∃ s', F s k = .nx s' ∧ I (k + 1) s') : LpR S F (rngI 0 n) s0 ∧ ∃ s, loopR F (rngI 0 n) s0 = .nx s ∧ I n s := by
  have key : ∀ (j : Nat) (lo : Int) (s : σ), 0 ≤ lo → (n - lo).toNat = j → lo ≤ n → I lo s → LpR S F (rngI lo n) s ∧ ∃ s', loopR F (rngI lo n) s = .nx s' ∧ I n s' := by
    intro j
    induction j with
    | zero =>
      intro lo s _ e hl hi
      have : lo = n := by omega
      subst this
      rw [rngI_nil (Int.le_refl _)]
      exact ⟨.nil, s, rfl, hi⟩
    | succ j ih =>
      intro lo s h0 e hl hi
      rw [rngI_cons (by omega)]
      obtain ⟨h1, s', h2, h3⟩ := h lo s h0 (by omega) hi
      obtain ⟨h4, s'', h5, h6⟩ := ih (lo + 1) s' (by omega) (by omega) (by omega) h3
      refine ⟨.cons h1 (fun s3 e => by rw [h2] at e; cases e; exact h4), s'', ?_, h6⟩
      · rw [loopR_cons, h2]; exact h5
  exact key _ 0 s0 (Int.le_refl _) rfl hn h0
theorem ok_forI {β σ τ α : Type} {Q : β → Prop} {xs : List α} {F : σ → α → Stp σ τ} {Sb : σ → α → Prop} {s0 : σ} {K : τ → β} {G : σ → β} {S2 : σ → Prop} (I : σ → Prop) (h : LpR Sb F xs s0 ∧ ∃ s, loopR F xs s0 = .nx s ∧ I s) (k : ∀ s, I s → Ok (S2 s) (G s) Q) : Ok (LpR Sb F xs s0 ∧ ∀ s, loopR F xs s0 = .nx s → S2 s) ((loopR F xs s0).el K G) Q := by
  obtain ⟨h1, s, h2, h3⟩ := h
  exact ok_forR h1 h2 (k s h3)
/-- a walk that finds nothing amiss -/
theorem ok_walk {β τ α : Type} {Q : β → Prop} {xs : List α} {F : Unit → α → Stp Unit τ} {Sb : Unit → α → Prop} {K : τ → β} {G : Unit → β} {S2 : Unit → Prop} (h : ∀ x ∈ xs, Sb () x ∧ F () x = .nx ()) (k : Ok (S2 ()) (G ()) Q) : Ok (LpR Sb F xs () ∧ ∀ s, loopR F xs () = .nx s → S2 s) ((loopR F xs ()).el K G) Q :=
  ok_forR (ok_all h).1 (ok_all h).2 k
theorem ok_walk0 {β τ α : Type} {Q : β → Prop} {xs : List α} {F : Unit → α → Stp Unit τ} {Sb : Unit → α → Prop} {K : τ → β} {G : Unit → β} (h : ∀ x ∈ xs, Sb () x ∧ F () x = .nx ()) (k : Q (G ())) : Ok (LpR Sb F xs ()) ((loopR F xs ()).el K G) Q :=
  ok_forR0 (ok_all h).1 (ok_all h).2 k
theorem if_no {α : Type} {b : Bool} {x y : α} (h : b = false) : (if b = true then x else y) = y := by rw [h]; rfl
theorem rfl_eq {α : Type} [DecidableEq α] {a b : α} (h : a = b) : (!decide (a = b)) = false := by rw [decide_eq_true h]; rfl
theorem len_f {α : Type} {xs : List α} {p : α → Bool} {n : Nat} (h : xs.length ≤ n) : (xs.filter p).length ≤ n := Nat.le_trans (List.length_filter_le _ _) h
end PV
namespace PV
open PySem
theorem wh_ok {σ τ : Type} {St Sb : σ → Prop} {t : σ → Bool} {F : σ → Stp σ τ} {n : Nat} {s0 : σ} (I : σ → Prop) (μ : σ → Nat) (h0 : I s0) (hn : μ s0 < n) (h : ∀ s, I s → St s ∧ (t s = true → Sb s ∧ ∃ s', F s = .nx s' ∧ I s' ∧ μ s' < μ s)) : whS St Sb t F n s0 ∧ ∃ s, whR t F n s0 = .nx s ∧ I s ∧ t s = false := by
  induction n generalizing s0 with
  | zero => exact absurd hn (Nat.not_lt_zero _)
  | succ n ih =>
    obtain ⟨h1, h2⟩ := h s0 h0
    by_cases c : t s0 = true
    · obtain ⟨h3, s', h4, h5, h6⟩ := h2 c
      obtain ⟨g1, s, g2, g3⟩ := ih h5 (by omega)
      refine ⟨.step h1 (fun _ => h3) (fun _ s2 e => by rw [h4] at e; cases e; exact g1), s, ?_, g3⟩
      rw [whR_succ, if_pos c, h4]; exact g2
    · refine ⟨.step h1 (fun q => absurd q c) (fun q => absurd q c), s0, ?_, h0, by simpa using c⟩
      rw [whR_succ, if_neg c]
theorem ok_wh {β σ τ : Type} {Q : β → Prop} {St Sb : σ → Prop} {t : σ → Bool} {F : σ → Stp σ τ} {n : Nat} {s0 : σ} {K : τ → β} {G : σ → β} {S2 : σ → Prop} (I : σ → Prop) (h : whS St Sb t F n s0 ∧ ∃ s, whR t F n s0 = .nx s ∧ I s ∧ t s = false) (k : ∀ s, I s → t s = false → Ok (S2 s) (G s) Q) : Ok (whS St Sb t F n s0 ∧ ∀ s, whR t F n s0 = .nx s → S2 s) ((whR t F n s0).el K G) Q := by
  obtain ⟨h1, s, h2, h3, h4⟩ := h
  refine ⟨⟨h1, fun s' e => ?_⟩, ?_⟩
  · rw [h2] at e; cases e; exact (k s h3 h4).1
  · rw [h2]; exact (k s h3 h4).2
theorem ok_wh0 {β σ τ : Type} {Q : β → Prop} {St Sb : σ → Prop} {t : σ → Bool} {F : σ → Stp σ τ} {n : Nat} {s0 : σ} {K : τ → β} {G : σ → β} (I : σ → Prop) (h : whS St Sb t F n s0 ∧ ∃ s, whR t F n s0 = .nx s ∧ I s ∧ t s = false) (k : ∀ s, I s → t s = false → Q (G s)) : Ok (whS St Sb t F n s0) ((whR t F n s0).el K G) Q := by
  obtain ⟨h1, s, h2, h3, h4⟩ := h
  exact ⟨h1, by rw [h2]; exact k s h3 h4⟩
/-- a search that finds -/
theorem ok_find {β τ α : Type} {Q : β → Prop} {xs : List α} {F : Unit → α → Stp Unit τ} {Sb : Unit → α → Prop} {K : τ → β} {G : Unit → β} (p : α → Bool) (f : α → τ) (hS : ∀ x ∈ xs, Sb () x) (hF : ∀ x, F () x = if p x = true then .rt (f x) else .nx ()) (hex : ∃ x ∈ xs, p x = true) (k : ∀ x ∈ xs, p x = true → Q (K (f x))) : Ok (LpR Sb F xs ()) ((loopR F xs ()).el K G) Q := by
  refine ⟨LpR_all hS, ?_⟩
  rw [loopR_find p f hF]
  cases c : xs.find? p with
  | none =>
    obtain ⟨x, hx, hp⟩ := hex
    exact absurd hp (List.find?_eq_none.mp c x hx)
  | some x => exact k x (List.mem_of_find?_eq_some c) (List.find?_some c)
theorem inc_of {xs : List Int} (h1 : List.Pairwise (fun a b => a ≤ b) xs) (h2 : xs.Nodup) : ∀ k : Nat, k + 1 < xs.length → xs.getD k 0 < xs.getD (k + 1) 0 := by
  intro k hk
  rw [List.getD_eq_getElem?_getD, List.getD_eq_getElem?_getD, List.getElem?_eq_getElem (by omega), List.getElem?_eq_getElem hk, Option.getD_some, Option.getD_some]
  have a := List.pairwise_iff_getElem.mp h1 k (k + 1) (by omega) hk (by omega)
  have b := List.pairwise_iff_getElem.mp h2 k (k + 1) (by omega) hk (by omega)
  omega
theorem sum_perm' {a b : List Int} (h : a.Perm b) : a.sum = b.sum := by
  induction h with
  | nil => rfl
  | cons x _ ih => rw [List.sum_cons, List.sum_cons, ih]
  | swap x y l => simp only [List.sum_cons]; omega
  | trans _ _ h1 h2 => exact h1.trans h2
end PV
namespace PV
open PySem
/-- a loop whose turns all go on -/
theorem LpR_step {σ τ α : Type} {S : σ → α → Prop} {F : σ → α → Stp σ τ} {xs : List α} {s0 : σ} (G : σ → α → σ) (h : ∀ x ∈ xs, ∀ s, S s x ∧ F s x = .nx (G s x)) : LpR S F xs s0 ∧ ∃ s, loopR F xs s0 = .nx s ∧ s = xs.foldl G s0 := by
  induction xs generalizing s0 with
  | nil => exact ⟨.nil, s0, rfl, rfl⟩
  | cons x r ih =>
    obtain ⟨h1, h2⟩ := h x (List.mem_cons_self ..) s0
    obtain ⟨i1, s, i2, i3⟩ := ih (s0 := G s0 x) (fun y hy => h y (List.mem_cons_of_mem _ hy))
    refine ⟨.cons h1 (fun s' e => by rw [h2] at e; cases e; exact i1), s, ?_, i3⟩
    rw [loopR_cons, h2]; exact i2
theorem ok_forI0 {β σ τ α : Type} {Q : β → Prop} {xs : List α} {F : σ → α → Stp σ τ} {Sb : σ → α → Prop} {s0 : σ} {K : τ → β} {G : σ → β} (I : σ → Prop) (h : LpR Sb F xs s0 ∧ ∃ s, loopR F xs s0 = .nx s ∧ I s) (k : ∀ s, I s → Q (G s)) : Ok (LpR Sb F xs s0) ((loopR F xs s0).el K G) Q := by
  obtain ⟨h1, s, h2, h3⟩ := h
  exact ok_forR0 h1 h2 (k s h3)
theorem fold_ge {α : Type} (c : α → Int) (hc : ∀ x, 0 ≤ c x) : ∀ (xs : List α) (g : Int), g ≤ xs.foldl (fun s x => s + c x) g
  | [], g => Int.le_refl _
  | x :: r, g => by
    have := fold_ge c hc r (g + c x)
    have := hc x
    rw [List.foldl_cons]
    omega
end PV
namespace PV
open PySem
theorem ok_elN {β σ τ : Type} {Q : β → Prop} {r : Lp σ τ} {s : σ} {K : τ → β} {G : σ → β} {S2 : σ → Prop} (h : r = .nx s) (k : Ok (S2 s) (G s) Q) : Ok (∀ s, r = .nx s → S2 s) (r.el K G) Q := by
  subst h
  exact ⟨fun s' e => by cases e; exact k.1, k.2⟩
end PV
namespace PV
open PySem
theorem loopR_st {σ τ : Type} {S : σ → Int → Prop} {F : σ → Int → Stp σ τ} {n : Int} {v : τ} {s0 : σ} (st : Int → σ) (c : Int → Bool) (h0 : s0 = st 0) (hn : 0 ≤ n) (hS : ∀ k, 0 ≤ k → k < n → S (st k) k) (h : ∀ k, 0 ≤ k → k < n → F (st k) k = if c k = true then .rt v else .nx (st (k + 1))) : LpR S F (rngI 0 n) s0 ∧ loopR F (rngI 0 n) s0 = if (rngI 0 n).any c = true then .rt v else .nx (st n) := by
  subst h0
  have key : ∀ (j : Nat) (lo : Int), 0 ≤ lo → (n - lo).toNat = j → lo ≤ n → LpR S F (rngI lo n) (st lo) ∧ loopR F (rngI lo n) (st lo) = if (rngI lo n).any c = true then .rt v else .nx (st n) := by
    intro j
    induction j with
    | zero =>
      intro lo _ e hl
      have : lo = n := by omega
      subst this
      rw [rngI_nil (Int.le_refl _)]
      exact ⟨.nil, rfl⟩
    | succ j ih =>
      intro lo l0 e hl
      rw [rngI_cons (by omega)]
      have h1 := h lo l0 (by omega)
      obtain ⟨i1, i2⟩ := ih (lo + 1) (by omega) (by omega) (by omega)
      rw [loopR_cons, h1, List.any_cons]
      cases cc : c lo with
      | true =>
        rw [cc] at h1
        exact ⟨.cons (hS lo l0 (by omega)) (fun s3 e => by rw [h1] at e; cases e), rfl⟩
      | false =>
        rw [cc] at h1
        refine ⟨.cons (hS lo l0 (by omega)) (fun s3 e => ?_), ?_⟩
        · rw [h1] at e
          have e' : st (lo + 1) = s3 := Stp.nx.inj e
          rw [← e']; exact i1
        · exact i2
  exact key _ 0 (Int.le_refl _) rfl hn
theorem ok_st {β σ τ : Type} {Q : β → Prop} {Sb : σ → Int → Prop} {F : σ → Int → Stp σ τ} {n : Int} {s0 : σ} {K : τ → β} {G : σ → β} {S2 : σ → Prop} (v : τ) (st : Int → σ) (c : Int → Bool) (h0 : s0 = st 0) (hn : 0 ≤ n) (hS : ∀ k, 0 ≤ k → k < n → Sb (st k) k) (h : ∀ k, 0 ≤ k → k < n → F (st k) k = if c k = true then .rt v else .nx (st (k + 1))) (k1 : (rngI 0 n).any c = true → Q (K v)) (k2 : (rngI 0 n).any c = false → Ok (S2 (st n)) (G (st n)) Q) : Ok (LpR Sb F (rngI 0 n) s0 ∧ ∀ s, loopR F (rngI 0 n) s0 = .nx s → S2 s) ((loopR F (rngI 0 n) s0).el K G) Q := by
  obtain ⟨l1, l2⟩ := loopR_st (S := Sb) (F := F) st c h0 hn hS h
  unfold Ok
  rw [l2]
  cases cc : (rngI 0 n).any c with
  | true => exact ⟨⟨l1, fun s e => nomatch e⟩, k1 cc⟩
  | false => exact ⟨⟨l1, fun s e => by
      have e' : st n = s := by rw [if_neg (by decide)] at e; exact Lp.nx.inj e
      rw [← e']; exact (k2 cc).1⟩, (k2 cc).2⟩
theorem ok_st0 {β σ τ : Type} {Q : β → Prop} {Sb : σ → Int → Prop} {F : σ → Int → Stp σ τ} {n : Int} {s0 : σ} {K : τ → β} {G : σ → β} (v : τ) (st : Int → σ) (c : Int → Bool) (h0 : s0 = st 0) (hn : 0 ≤ n) (hS : ∀ k, 0 ≤ k → k < n → Sb (st k) k) (h : ∀ k, 0 ≤ k → k < n → F (st k) k = if c k = true then .rt v else .nx (st (k + 1))) (k1 : (rngI 0 n).any c = true → Q (K v)) (k2 : (rngI 0 n).any c = false → Q (G (st n))) : Ok (LpR Sb F (rngI 0 n) s0) ((loopR F (rngI 0 n) s0).el K G) Q := by
  obtain ⟨l1, l2⟩ := loopR_st (S := Sb) (F := F) st c h0 hn hS h
  unfold Ok
  rw [l2]
  cases cc : (rngI 0 n).any c with
  | true => exact ⟨l1, k1 cc⟩
  | false => exact ⟨l1, k2 cc⟩
theorem any_rng {n : Int} {c : Int → Bool} : (rngI 0 n).any c = false ↔ ∀ k, 0 ≤ k → k < n → c k = false := by
  rw [List.any_eq_false]
  constructor
  · intro h k k0 k1
    have := h k (rngI_mem.mpr ⟨k0, k1⟩)
    simpa using this
  · intro h k hk
    obtain ⟨k0, k1⟩ := rngI_mem.mp hk
    rw [h k k0 k1]; decide
theorem rng_len (n : Nat) : (rngI 0 (n : Int)).length = n := by rw [rngI_len]; omega
theorem enumI_eq {α : Type} (d : α) : ∀ (xs : List α) (k : Int), enumI k xs = (rngI k (k + xs.length)).map fun i => (i, xs.getD (i - k).toNat d)
  | [], k => by rw [rngI_nil (by simp)]; rfl
  | x :: r, k => by
    rw [rngI_cons (by rw [List.length_cons]; omega), List.map_cons]
    have e : k + ((x :: r).length : Int) = k + 1 + (r.length : Int) := by rw [List.length_cons]; omega
    rw [e]
    show (k, x) :: enumI (k + 1) r = _
    rw [enumI_eq d r (k + 1)]
    congr 1
    · have : k - k = 0 := by omega
      rw [this]; rfl
    · apply List.map_congr_left
      intro i hi
      obtain ⟨i0, i1⟩ := rngI_mem.mp hi
      have : (i - k).toNat = (i - (k + 1)).toNat + 1 := by omega
      rw [this, List.getD_cons_succ]
theorem enum0 {α : Type} (d : α) (xs : List α) : enumI 0 xs = (rngI 0 (xs.length : Int)).map fun i => (i, xs.getD i.toNat d) := by
  rw [enumI_eq d xs 0, Int.zero_add]
  apply List.map_congr_left
  intro i _
  rw [Int.sub_zero]
theorem zip_rng {α β : Type} (a : α) (c : β) {xs : List α} {ys : List β} (h : ys.length = xs.length) : xs.zip ys = (rngI 0 (xs.length : Int)).map fun i => (xs.getD i.toNat a, ys.getD i.toNat c) := by
  apply List.ext_getElem
  · rw [List.length_zip, List.length_map, rng_len]; omega
  intro i h1 h2
  rw [List.length_map, rng_len] at h2
  have e : (rngI 0 (xs.length : Int))[i]'(by rw [rng_len]; exact h2) = (i : Int) := by
    have := getD_rngI (lo := 0) (hi := (xs.length : Int)) (i := i) (d := 0) (by omega)
    rw [List.getD_eq_getElem?_getD, List.getElem?_eq_getElem (by rw [rng_len]; exact h2), Option.getD_some] at this
    rw [this]; omega
  rw [List.getElem_zip, List.getElem_map, e, Int.toNat_natCast, List.getD_eq_getElem?_getD, List.getD_eq_getElem?_getD, List.getElem?_eq_getElem h2, List.getElem?_eq_getElem (by omega)]
  rfl
theorem map_id_ {α : Type} (l : List α) : (l.map fun x => x) = l := List.map_id' l
theorem bndS {γ : Type} {a : γ} {S' : γ → Prop} (P : γ → Prop) (h : P a) (k : ∀ v, P v → S' v) : bnd a S' := k a h
theorem forS {σ α : Type} {xs : List α} {F : σ → α → σ} {Sb : σ → α → Prop} {s0 : σ} {S' : σ → Prop} (I : σ → Prop) (h : LpS Sb F xs s0 ∧ I (xs.foldl F s0)) (k : ∀ s, I s → S' s) : LpS Sb F xs s0 ∧ bnd (xs.foldl F s0) S' := ⟨h.1, k _ h.2⟩
theorem LpR_rngE {σ τ : Type} {S : σ → Int → Prop} {F : σ → Int → Stp σ τ} {n : Int} {s0 : σ} (I : Int → σ → Prop) (R : τ → Prop) (h0 : I 0 s0) (hn : 0 ≤ n) (h : ∀ k s, 0 ≤ k → k < n → I k s → S s k ∧ ((∃ s', F s k = .nx s' ∧ I (k + 1) s') ∨ ∃ v, F s k = .rt v ∧ R v)) : LpR S F (rngI 0 n) s0 ∧ ((∃ s, loopR F (rngI 0 n) s0 = .nx s ∧ I n s) ∨ ∃ v, loopR F (rngI 0 n) s0 = .rt v ∧ R v) := by
  have key : ∀ (j : Nat) (lo : Int) (s : σ), 0 ≤ lo → (n - lo).toNat = j → lo ≤ n → I lo s → LpR S F (rngI lo n) s ∧ ((∃ s', loopR F (rngI lo n) s = .nx s' ∧ I n s') ∨ ∃ v, loopR F (rngI lo n) s = .rt v ∧ R v) := by
    intro j
    induction j with
    | zero =>
      intro lo s _ e hl hi
      have : lo = n := by omega
      subst this
      rw [rngI_nil (Int.le_refl _)]
      exact ⟨.nil, .inl ⟨s, rfl, hi⟩⟩
    | succ j ih =>
      intro lo s l0 e hl hi
      rw [rngI_cons (by omega)]
      obtain ⟨h1, h2⟩ := h lo s l0 (by omega) hi
      rcases h2 with ⟨s', e1, i1⟩ | ⟨v, e1, r1⟩
      · obtain ⟨g1, g2⟩ := ih (lo + 1) s' (by omega) (by omega) (by omega) i1
        refine ⟨.cons h1 (fun s3 e => by rw [e1] at e; cases e; exact g1), ?_⟩
        rw [loopR_cons, e1]; exact g2
      · refine ⟨.cons h1 (fun s3 e => by rw [e1] at e; cases e), .inr ⟨v, ?_, r1⟩⟩
        rw [loopR_cons, e1]
  exact key _ 0 s0 (Int.le_refl _) rfl hn h0
theorem ok_rngE {β σ τ : Type} {Q : β → Prop} {S : σ → Int → Prop} {F : σ → Int → Stp σ τ} {n : Int} {s0 : σ} {K : τ → β} {G : σ → β} (I : Int → σ → Prop) (R : τ → Prop) (h0 : I 0 s0) (hn : 0 ≤ n) (h : ∀ k s, 0 ≤ k → k < n → I k s → S s k ∧ ((∃ s', F s k = .nx s' ∧ I (k + 1) s') ∨ ∃ v, F s k = .rt v ∧ R v)) (k1 : ∀ v, R v → Q (K v)) (k2 : ∀ s, I n s → Q (G s)) : Ok (LpR S F (rngI 0 n) s0) ((loopR F (rngI 0 n) s0).el K G) Q := by
  obtain ⟨h1, h2⟩ := LpR_rngE (S := S) (F := F) I R h0 hn h
  rcases h2 with ⟨s, e, i⟩ | ⟨v, e, r⟩
  · exact ⟨h1, by rw [e]; exact k2 s i⟩
  · exact ⟨h1, by rw [e]; exact k1 v r⟩
theorem LpS_map {σ α β : Type} {S : σ → β → Prop} {F : σ → β → σ} (f : α → β) : ∀ (xs : List α) (s : σ), LpS (fun s x => S s (f x)) (fun s x => F s (f x)) xs s → LpS S F (xs.map f) s
  | [], _, _ => .nil
  | x :: r, s, h => .cons h.hd (LpS_map f r _ h.tl)
theorem LpS_enum {σ α : Type} {S : σ → Int × α → Prop} {F : σ → Int × α → σ} {xs : List α} {s0 : σ} (d : α) (I : Int → σ → Prop) (h0 : I 0 s0) (h : ∀ (k : Int) (s : σ), 0 ≤ k → k < xs.length → I k s → S s (k, xs.getD k.toNat d) ∧ I (k + 1) (F s (k, xs.getD k.toNat d))) : LpS S F (enumI 0 xs) s0 ∧ I xs.length ((enumI 0 xs).foldl F s0) := by
  have := LpS_rng (S := fun s k => S s (k, xs.getD k.toNat d)) (F := fun s k => F s (k, xs.getD k.toNat d)) (n := (xs.length : Int)) I h0 (by omega) h
  rw [enum0 d, List.foldl_map]
  exact ⟨LpS_map _ _ _ this.1, this.2⟩
theorem LpS_app {S : List Int → Int → Prop} {f : Int → Int} {n : Nat} (h : ∀ k s, 0 ≤ k → k < (n : Int) → (s : List Int).length = k → S s k) : LpS S (fun s k => s ++ [f k]) (rngI 0 (n : Int)) [] ∧ (rngI 0 (n : Int)).foldl (fun s k => s ++ [f k]) [] = (rngI 0 (n : Int)).map f := by
  have := LpS_rng (S := S) (F := fun s k => s ++ [f k]) (n := (n : Int)) (s0 := []) (fun k s => s = (rngI 0 k).map f ∧ 0 ≤ k) ⟨by rw [rngI_nil (Int.le_refl _)]; rfl, Int.le_refl _⟩ (by omega) (by
    rintro k s k0 k1 ⟨rfl, _⟩
    refine ⟨h k _ k0 k1 (by rw [List.length_map, rngI_len]; omega), ?_, by omega⟩
    rw [rngI_snoc k0, List.map_append]; rfl)
  exact ⟨this.1, this.2.1⟩
end PV
end
section
set_option Elab.async false
set_option linter.all false
set_option maxRecDepth 100000
set_option maxHeartbeats 4000000
/-! VW: plain facts for the plain laws. -/
/-! counting -/
namespace PV
def cn (p : Int → Bool) (lo : Int) : Nat → Int
  | 0 => 0
  | n + 1 => cn p lo n + (if p (lo + n) = true then 1 else 0)
theorem cn_succ (p : Int → Bool) (lo : Int) (n : Nat) : cn p lo (n + 1) = cn p lo n + (if p (lo + n) = true then 1 else 0) := rfl
theorem cn_len (p : Int → Bool) (lo : Int) : ∀ n : Nat, (((rngI lo (lo + n)).filter p).length : Int) = cn p lo n
  | 0 => by rw [rngI_nil (by omega)]; rfl
  | n + 1 => by
    have e : lo + ((n + 1 : Nat) : Int) = lo + n + 1 := by omega
    rw [e, rngI_snoc (by omega), List.filter_append, List.length_append]
    have ih := cn_len p lo n
    show _ = cn p lo n + _
    cases h : p (lo + n) with
    | true => rw [List.filter_cons_of_pos h, if_pos rfl, List.filter_nil, List.length_singleton]; omega
    | false => rw [List.filter_cons_of_neg (by rw [h]; decide), if_neg (by decide), List.filter_nil, List.length_nil]; omega
theorem cn_lenI (p : Int → Bool) {lo hi : Int} (h : lo ≤ hi) : (((rngI lo hi).filter p).length : Int) = cn p lo (hi - lo).toNat := by
  rw [← cn_len, show lo + ((hi - lo).toNat : Int) = hi from by omega]
theorem cn_0 (p : Int → Bool) (lo : Int) : ∀ n : Nat, 0 ≤ cn p lo n
  | 0 => Int.le_refl _
  | n + 1 => by
    have := cn_0 p lo n
    show 0 ≤ cn p lo n + _
    split <;> omega
theorem cn_le (p : Int → Bool) (lo : Int) : ∀ n : Nat, cn p lo n ≤ n
  | 0 => Int.le_refl _
  | n + 1 => by
    have := cn_le p lo n
    show cn p lo n + _ ≤ _
    split <;> omega
theorem cn_add (p : Int → Bool) (lo : Int) (m : Nat) : ∀ n : Nat, cn p lo (m + n) = cn p lo m + cn p (lo + m) n
  | 0 => by show _ = _ + (0 : Int); rw [Nat.add_zero]; omega
  | n + 1 => by
    rw [← Nat.add_assoc, cn_succ, cn_succ, cn_add p lo m n, show lo + ((m + n : Nat) : Int) = lo + m + n from by omega]
    omega
theorem cn_mono (p : Int → Bool) (lo : Int) {m n : Nat} (h : m ≤ n) : cn p lo m ≤ cn p lo n := by
  have := cn_add p lo m (n - m)
  rw [show m + (n - m) = n from by omega] at this
  have := cn_0 p (lo + m) (n - m)
  omega
theorem cn_congr {p q : Int → Bool} {lo : Int} : ∀ {n : Nat}, (∀ d, lo ≤ d → d < lo + n → p d = q d) → cn p lo n = cn q lo n
  | 0, _ => rfl
  | n + 1, h => by
    show cn p lo n + _ = cn q lo n + _
    rw [cn_congr (n := n) fun d h1 h2 => h d h1 (by omega), h (lo + n) (by omega) (by omega)]
theorem cn_none {p : Int → Bool} {lo : Int} {n : Nat} (h : ∀ d, lo ≤ d → d < lo + n → p d = false) : cn p lo n = 0 := by
  rw [cn_congr (q := fun _ => false) h]
  clear h
  induction n with
  | zero => rfl
  | succ n ih => show cn _ lo n + 0 = 0; rw [ih]; rfl
theorem cn_all {p : Int → Bool} {lo : Int} {n : Nat} (h : ∀ d, lo ≤ d → d < lo + n → p d = true) : cn p lo n = n := by
  rw [cn_congr (q := fun _ => true) h]
  clear h
  induction n with
  | zero => rfl
  | succ n ih => show cn _ lo n + 1 = _; rw [ih]; omega
theorem cn_or {p q r : Int → Bool} {lo : Int} : ∀ {n : Nat}, (∀ d, lo ≤ d → d < lo + n → p d = (q d || r d) ∧ ¬ (q d = true ∧ r d = true)) → cn p lo n = cn q lo n + cn r lo n
  | 0, _ => rfl
  | n + 1, h => by
    show cn p lo n + _ = cn q lo n + _ + (cn r lo n + _)
    rw [cn_or (n := n) fun d h1 h2 => h d h1 (by omega)]
    obtain ⟨h1, h2⟩ := h (lo + n) (by omega) (by omega)
    rw [h1]
    cases e1 : q (lo + n) <;> cases e2 : r (lo + n)
    · simp
    · simp; omega
    · simp; omega
    · exact absurd ⟨e1, e2⟩ h2
theorem cn_not (p : Int → Bool) (lo : Int) : ∀ n : Nat, cn (fun d => !p d) lo n = n - cn p lo n
  | 0 => rfl
  | n + 1 => by
    rw [cn_succ, cn_succ, cn_not p lo n]
    cases p (lo + n)
    · simp; omega
    · simp; omega
/-- those within a stretch -/
theorem cn_cut (p : Int → Bool) (a b lo : Int) : ∀ n : Nat, cn (fun d => p d && (decide (a ≤ d) && decide (d ≤ b))) lo n = cn p (max a lo) (max 0 (min b (lo + n - 1) - max a lo + 1)).toNat
  | 0 => by
    have : (max 0 (min b (lo + ((0 : Nat) : Int) - 1) - max a lo + 1)).toNat = 0 := by omega
    rw [this]; rfl
  | n + 1 => by
    rw [cn_succ, cn_cut p a b lo n]
    by_cases h1 : a ≤ lo + n
    · by_cases h2 : lo + n ≤ b
      · have e : (max 0 (min b (lo + ((n + 1 : Nat) : Int) - 1) - max a lo + 1)).toNat = (max 0 (min b (lo + (n : Int) - 1) - max a lo + 1)).toNat + 1 := by omega
        rw [e]
        rw [cn_succ]
        have e2 : max a lo + ((max 0 (min b (lo + (n : Int) - 1) - max a lo + 1)).toNat : Int) = lo + n := by omega
        rw [e2]
        simp [h1, h2]
      · have e : (max 0 (min b (lo + ((n + 1 : Nat) : Int) - 1) - max a lo + 1)).toNat = (max 0 (min b (lo + (n : Int) - 1) - max a lo + 1)).toNat := by omega
        rw [e]
        simp [h2]
    · have e : (max 0 (min b (lo + ((n + 1 : Nat) : Int) - 1) - max a lo + 1)).toNat = 0 := by omega
      have e' : (max 0 (min b (lo + (n : Int) - 1) - max a lo + 1)).toNat = 0 := by omega
      rw [e, e']
      simp [h1]
theorem cn_per {p : Int → Bool} {c : Nat} (hp : ∀ d, p (d + c) = p d) (lo lo' : Int) : cn p lo c = cn p lo' c := by
  have step : ∀ l : Int, cn p (l + 1) c = cn p l c := fun l => by
    have h1 := cn_add p l 1 c
    have h2 := cn_add p l c 1
    rw [Nat.add_comm 1 c] at h1
    have e1 : cn p l 1 = if p l = true then 1 else 0 := by
      show (0 : Int) + (if p (l + ((0 : Nat) : Int)) = true then 1 else 0) = _
      rw [show l + ((0 : Nat) : Int) = l from by omega]; omega
    have e2 : cn p (l + c) 1 = if p l = true then 1 else 0 := by
      show (0 : Int) + (if p (l + c + ((0 : Nat) : Int)) = true then 1 else 0) = _
      rw [show l + c + ((0 : Nat) : Int) = l + c from by omega, hp]; omega
    have e3 : l + ((1 : Nat) : Int) = l + 1 := by omega
    rw [e3] at h1
    omega
  have up : ∀ (k : Nat) (l : Int), cn p (l + k) c = cn p l c := fun k => by
    induction k with
    | zero => intro l; rw [show l + ((0 : Nat) : Int) = l from by omega]
    | succ k ih => intro l; rw [show l + ((k + 1 : Nat) : Int) = l + k + 1 from by omega, step, ih]
  by_cases h : lo ≤ lo'
  · have := up (lo' - lo).toNat lo
    rw [show lo + ((lo' - lo).toNat : Int) = lo' from by omega] at this
    exact this.symm
  · have := up (lo - lo').toNat lo'
    rw [show lo' + ((lo - lo').toNat : Int) = lo from by omega] at this
    exact this
/-- one day -/
theorem cn_one (q : Int → Bool) (x lo : Int) : ∀ n : Nat, cn (fun d => decide (d = x) && q d) lo n = if (decide (lo ≤ x ∧ x < lo + n) && q x) = true then 1 else 0
  | 0 => by rw [decide_eq_false (by omega)]; rfl
  | n + 1 => by
    rw [cn_succ, cn_one q x lo n]
    by_cases h : lo + n = x
    · rw [decide_eq_false (show ¬ (lo ≤ x ∧ x < lo + (n : Int)) by omega), decide_eq_true (show lo ≤ x ∧ x < lo + ((n + 1 : Nat) : Int) by omega), h]
      simp
    · have : decide (lo ≤ x ∧ x < lo + ((n + 1 : Nat) : Int)) = decide (lo ≤ x ∧ x < lo + (n : Int)) := by
        rw [decide_eq_decide]; omega
      rw [this]
      simp [h]
/-- those of a list -/
theorem cn_mem (q : Int → Bool) (lo : Int) (n : Nat) : ∀ {xs : List Int}, xs.Nodup → cn (fun d => decide (d ∈ xs) && q d) lo n = ((xs.filter fun x => decide (lo ≤ x ∧ x < lo + n) && q x).length : Int)
  | [], _ => cn_none fun d _ _ => by simp
  | x :: xs, h => by
    rw [List.nodup_cons] at h
    rw [cn_or (q := fun d => decide (d = x) && q d) (r := fun d => decide (d ∈ xs) && q d) (fun d _ _ => ⟨by
      by_cases h1 : d = x <;> by_cases h2 : d ∈ xs <;> simp [h1, h2], fun ⟨h1, h2⟩ => by
      simp only [Bool.and_eq_true, decide_eq_true_eq] at h1 h2
      exact h.1 (h1.1 ▸ h2.1)⟩), cn_one, cn_mem q lo n h.2]
    rw [List.filter_cons]
    cases c : (decide (lo ≤ x ∧ x < lo + (n : Int)) && q x) with
    | true => rw [if_pos rfl, if_pos rfl, List.length_cons]; omega
    | false => rw [if_neg (by decide), if_neg (by decide)]; omega
end PV
namespace PV
open PySem
theorem sz_ (n : Nat) (h : n ≤ 1000000) : n ≤ sizeLine := by rw [line_eq]; omega
theorem szl_ (n : Nat) (h : n ≤ 1000000) : n < sizeLine := by rw [line_eq]; omega
theorem fold_congr {σ α : Type} {F G : σ → α → σ} : ∀ {xs : List α} {s : σ}, (∀ s x, x ∈ xs → F s x = G s x) → xs.foldl F s = xs.foldl G s
  | [], _, _ => rfl
  | x :: r, s, h => by
    rw [List.foldl_cons, List.foldl_cons, h s x (List.mem_cons_self ..)]
    exact fold_congr fun s y hy => h s y (List.mem_cons_of_mem _ hy)
end PV
/-! ### fractions as a kind -/
namespace PV
open PySem
def encQ (q : Rat) : PyData := .tuple [.int q.num, .int q.den]
theorem rat_ext {p q : Rat} (h1 : p.num = q.num) (h2 : (p.den : Int) = q.den) : p = q := Rat.ext h1 (by omega)
theorem eqe_Q : EqE 1 encQ := ⟨fun p q => by
  have h : PyData.eqv (enc2 PyData.int PyData.int (p.num, (p.den : Int))) (enc2 PyData.int PyData.int (q.num, (q.den : Int))) = decide ((p.num, (p.den : Int)) = (q.num, (q.den : Int))) := (eqe_2 eqe_I eqe_I).ev _ _
  show PyData.eqv (enc2 PyData.int PyData.int (p.num, (p.den : Int))) (enc2 PyData.int PyData.int (q.num, (q.den : Int))) = _
  rw [h, decide_eq_decide]
  constructor
  · intro e; exact rat_ext (congrArg Prod.fst e) (congrArg Prod.snd e)
  · rintro rfl; rfl, fun p => (eqe_2 eqe_I eqe_I).dp (p.num, (p.den : Int))⟩
theorem ple_Q : PlE 2 encQ := fun k q hk => ple_2 ple_I ple_I k (q.num, (q.den : Int)) hk
theorem t_Q1 {p : Pt} {f : Evn → RE PyData} (x : Int) (h : TM p f (enc2 PyData.int PyData.int (x, 1))) : TM p f (encQ ((x : Int) : Rat)) := h
theorem t_Qab {p : Pt} {f : Evn → RE PyData} {a b : Int} {q : Rat} (h1 : q.num = a) (h2 : (q.den : Int) = b) (h : TM p f (enc2 PyData.int PyData.int (a, b))) : TM p f (encQ q) := by
  have e : encQ q = enc2 PyData.int PyData.int (a, b) := by show PyData.tuple [.int q.num, .int q.den] = .tuple [.int a, .int b]; rw [h1, h2]
  rw [e]; exact h
def qabs (q : Rat) : Rat := if q < 0 then -q else q
theorem qabs_num (q : Rat) : (qabs q).num = (q.num.natAbs : Int) ∧ (qabs q).den = q.den := by
  unfold qabs
  have h : q < 0 ↔ q.num < 0 := by
    have := Rat.num_nonneg (q := q)
    rw [← Rat.not_le, ← this]; omega
  by_cases c : q < 0
  · rw [if_pos c, Rat.neg_num, Rat.neg_den]; exact ⟨by have := h.mp c; omega, rfl⟩
  · rw [if_neg c]; exact ⟨by have : ¬ q.num < 0 := fun z => c (h.mpr z); omega, rfl⟩
theorem t_Qabs {p : Pt} {f : Evn → RE PyData} {q : Rat} (h : TM p f (enc2 PyData.int PyData.int ((q.num.natAbs : Int), (q.den : Int)))) : TM p f (encQ (qabs q)) := t_Qab (qabs_num q).1 (by rw [(qabs_num q).2]) h
theorem f_q0 (q : Rat) : pIdx (encQ q) (.int 0) = some (.int q.num) := f_i0 _ _
theorem f_q1 (q : Rat) : pIdx (encQ q) (.int 1) = some (.int q.den) := f_i1 _ _ _
/-- what is asked of two fractions that are reckoned with -/
def Q2 (p q : Rat) : Prop := Sz 200 p ∧ Sz 200 q
def Qd (p q : Rat) : Prop := Sz 200 p ∧ Sz 200 q ∧ q ≠ 0
def Qf (t b : Int) : Prop := b ≠ 0 ∧ t.natAbs < 2 ^ 400 ∧ b.natAbs < 2 ^ 400
end PV
/-! ### tuples of one, cut and joined tuples, tuples by their first item, items of a list -/
namespace PV
open PySem
def enc1 {α : Type} (e : α → PyData) (x : α) : PyData := .tuple [e x]
theorem f_addTT {xs ys zs : List PyData} (h : xs ++ ys = zs) (hl : zs.length ≤ 20) : pAdd (.tuple xs) (.tuple ys) = some (.tuple zs) := by
  subst h
  show (if _ then _ else _) = _
  rw [if_pos (sz_ _ (by rw [List.length_append] at hl; omega))]
theorem tm_ty {p : Pt} {f : Evn → RE PyData} {d d' : PyData} (h : TM p f d) (e : d = d') : TM p f d' := e ▸ h
theorem gd0 {α : Type} {x : α} {r : List α} {d : α} : (x :: r).getD 0 d = x := rfl
theorem list_items {α : Type} (e : α → PyData) (d : α) : ∀ (n : Nat) (xs : List α), xs.length = n → xs.map e = (List.range n).map fun i => e (xs.getD i d) := by
  intro n xs h
  apply List.ext_getElem
  · rw [List.length_map, List.length_map, List.length_range]; exact h
  · intro i h1 h2
    rw [List.length_map] at h1
    rw [List.getElem_map, List.getElem_map, List.getElem_range, List.getD_eq_getElem?_getD, List.getElem?_eq_getElem h1]; rfl
theorem t_itemsL {p : Pt} {α : Type} {f : Evn → RE PyData} {e : α → PyData} {xs : List α} {n : Nat} (d : α) (h : TM p f (encL e xs)) (hn : xs.length = n) : TM p f (.list ((List.range n).map fun i => e (xs.getD i d))) := by
  have := list_items e d n xs hn
  rw [← this]; exact h
/-- sorted by what they are as data -/
def leK {α : Type} (e : α → PyData) (a b : α) : Bool := leD (e a) (e b)
theorem f_sort3 {xs : List (Int × Int × Int)} : bSorted [encL (enc3 PyData.int PyData.int PyData.int) xs] = some (encL (enc3 PyData.int PyData.int PyData.int) (xs.mergeSort (leK (enc3 PyData.int PyData.int PyData.int)))) := by
  have ok : sortOk (xs.map (enc3 PyData.int PyData.int PyData.int)) := by
    refine ⟨fun d hd d' hd' => ?_, PySem.W.Sortable.tuples fun b => ⟨_, _, rfl⟩, fun d hd => ?_⟩
    · obtain ⟨i, _, rfl⟩ := List.mem_map.mp hd
      obtain ⟨j, _, rfl⟩ := List.mem_map.mp hd'
      simp [enc3, PySem.W.alike, PySem.W.alikeAll]
    · obtain ⟨i, _, rfl⟩ := List.mem_map.mp hd
      simp [enc3, PyData.depth, PyData.depthAll]
  have e := PySem.W.sort_maps (r := leK (enc3 PyData.int PyData.int PyData.int)) (s := leD) (enc3 PyData.int PyData.int PyData.int) (l := xs) fun a _ b _ => rfl
  unfold bSorted
  exact (if_pos ok).trans (by rw [← e])
theorem leK_mem {α : Type} {e : α → PyData} {xs : List α} {x : α} : x ∈ xs.mergeSort (leK e) ↔ x ∈ xs := (List.mergeSort_perm xs _).mem_iff
theorem leK_len {α : Type} {e : α → PyData} (xs : List α) : (xs.mergeSort (leK e)).length = xs.length := (List.mergeSort_perm xs _).length_eq
end PV
namespace PV
open PySem
section
variable {α : Type} [DecidableEq α] {n : Nat} {e : α → PyData}
theorem eqe_1 (he : EqE n e) : EqE (n + 1) (enc1 e) := ⟨fun a b => by
  show PyData.eqv (.tuple [e a]) (.tuple [e b]) = _
  simp only [PyData.eqv, PyData.eqvAll, he.ev, Bool.and_true], fun a => by
  show (PyData.tuple [e a]).depth ≤ _
  simp only [PyData.depth, PyData.depthAll]
  have := he.dp a
  omega⟩
end
theorem eqv_tag {s t : Str} {xs ys : List PyData} (h : ¬ s = t) : PyData.eqv (.tuple (.str s :: xs)) (.tuple (.str t :: ys)) = false := by
  have e := eqe_S.ev s t
  simp only [PyData.eqv, PyData.eqvAll] at e ⊢
  rw [e, decide_eq_false h, Bool.false_and]
theorem ple_1 {α : Type} {n : Nat} {e : α → PyData} (he : PlE n e) : PlE (n + 1) (enc1 e) := fun k a hk => by
  obtain ⟨j, rfl, hj⟩ := pl_succ hk
  refine ⟨by simp, fun x hx => ?_⟩
  rw [List.mem_singleton] at hx; subst hx
  exact he j _ hj
end PV
theorem PV.le20 {n : Nat} (h : Nat.ble n 20 = true) : n ≤ 20 := Nat.le_of_ble_eq_true h
end
section
set_option Elab.async false
set_option linter.all false
set_option maxRecDepth 100000
set_option maxHeartbeats 4000000
set_option autoImplicit false
/-! VO: comprehensions with two fors. -/

namespace PV
open PySem PySem.Spec PyProof.Rows L2
def stillC : Option Cel → Option Cel
  | some (.own _) => none
  | some (.dic _) => none
  | o => o
/-- the names without the lists that are being made -/
def stillE (ρ : Evn) : Evn := ρ.map stillC
theorem stillE_some {ρ : Evn} {i : Nat} {c : Cel} (h : (stillE ρ)[i]? = some (some c)) : ρ[i]? = some (some c) ∧ c.mine = false := by
  unfold stillE at h
  rw [List.getElem?_map] at h
  cases e : ρ[i]? with
  | none => rw [e] at h; cases h
  | some o =>
    rw [e] at h
    have h : some (stillC o) = some (some c) := h
    injection h with h
    cases o with
    | none => cases h
    | some c' =>
      cases c' with
      | own ds => cases h
      | dic ds => cases h
      | val d => injection h with h; subst h; exact ⟨rfl, rfl⟩
      | exn d => injection h with h; subst h; exact ⟨rfl, rfl⟩
theorem Rep.still {K : PySem.W.Frag} {P : Pm} {ρ : Evn} {F H : Hp} {σ : Sg} (r : Rep K P ρ F σ H) : Rep K P (stillE ρ) F σ H :=
  ⟨by unfold stillE; rw [List.length_map]; exact r.len, r.ext, fun i c q => r.slot i c (stillE_some q).1, fun i j a ds es m1 _ hne q1 q2 q3 => by have := (stillE_some q1).2; rw [m1] at this; cases this⟩
/-- what two walks, one in the other, put together -/
def lcA2 (m : PyData → Evn → Option Evn) (t : Evn → RE Bool) (g1 : Evn → RE (List PyData)) (m1 : PyData → Evn → Option Evn) (t1 : Evn → RE Bool) (e : Evn → RE PyData) (vs1 : List Nat) (ρ : Evn) : List PyData → List PyData → RE (List PyData)
  | [], acc => if acc.length ≤ sizeLine then .ok acc else .bad
  | d :: r, acc => (ofO (m d ρ)).bind fun ρ1 => (nox (t ρ1)).bind fun b => if b then (nox (g1 ρ1)).bind fun ds => if ds.length ≤ sizeLine then (lcA m1 t1 e (stillE (wipeE ρ1 vs1)) ds acc).bind fun acc' => lcA2 m t g1 m1 t1 e vs1 ρ r acc' else .bad else lcA2 m t g1 m1 t1 e vs1 ρ r acc
def mLc2 (g : Evn → RE (List PyData)) (m : PyData → Evn → Option Evn) (t : Evn → RE Bool) (g1 : Evn → RE (List PyData)) (m1 : PyData → Evn → Option Evn) (t1 : Evn → RE Bool) (e : Evn → RE PyData) (vs vs1 : List Nat) (ρ : Evn) : RE (List PyData) := (g ρ).bind fun ds => if ds.length ≤ sizeLine then nox (lcA2 m t g1 m1 t1 e vs1 (wipeE ρ vs) ds []) else .bad
theorem bind_inv {ε α β : Type} {x : R ε α} {f : α → R ε β} {y : β} (h : x.bind f = .ok y) : ∃ a, x = .ok a ∧ f a = .ok y := by
  cases x with
  | ok a => exact ⟨a, rfl, h⟩
  | exc c e => cases h
  | bad => cases h
theorem nox_inv {α : Type} {x : RE α} {a : α} (h : nox x = .ok a) : x = .ok a := by
  cases x with
  | ok b => exact h
  | exc c e => cases h
  | bad => cases h
theorem ofO_inv {α : Type} {x : Option α} {a : α} (h : (ofO x : RE α) = .ok a) : x = some a := by
  cases x with
  | none => cases h
  | some b => injection h with h; rw [h]
theorem lcA_len {m : PyData → Evn → Option Evn} {t : Evn → RE Bool} {e : Evn → RE PyData} {ρ : Evn} {ds acc ys : List PyData} (h : lcA m t e ρ ds acc = .ok ys) : acc.length ≤ ys.length := by
  rw [lcA_eq] at h
  obtain ⟨xs, _, h2⟩ := bind_inv h
  injection h2 with h2
  rw [← h2, List.length_append]; omega
theorem lcA2_len {m : PyData → Evn → Option Evn} {t : Evn → RE Bool} {g1 : Evn → RE (List PyData)} {m1 : PyData → Evn → Option Evn} {t1 : Evn → RE Bool} {e : Evn → RE PyData} {vs1 : List Nat} {ρ : Evn} : ∀ (ds acc : List PyData) {ys : List PyData}, lcA2 m t g1 m1 t1 e vs1 ρ ds acc = .ok ys → acc.length ≤ sizeLine
  | [], acc, ys, h => by
    unfold lcA2 at h
    by_cases c : acc.length ≤ sizeLine
    · exact c
    · rw [if_neg c] at h; cases h
  | d :: r, acc, ys, h => by
    unfold lcA2 at h
    obtain ⟨ρ1, _, h⟩ := bind_inv h
    obtain ⟨b, _, h⟩ := bind_inv h
    cases b with
    | false => rw [if_neg (by decide)] at h; exact lcA2_len r acc h
    | true =>
      rw [if_pos rfl] at h
      obtain ⟨es, _, h⟩ := bind_inv h
      by_cases c : es.length ≤ sizeLine
      · rw [if_pos c] at h
        obtain ⟨acc', h1, h2⟩ := bind_inv h
        have := lcA_len h1
        have := lcA2_len r acc' h2
        omega
      · rw [if_neg c] at h; cases h
theorem vd_len {K : PySem.W.Frag} {F : Hp} : ∀ {xs : List V} {ds : List PyData}, VdAll K F xs ds → xs.length = ds.length
  | _, _, .nil => rfl
  | _, _, .cons _ r => by rw [List.length_cons, List.length_cons, vd_len r]
section
variable {X : Cx} {P : Pm} {pos : Pos} {elt tg iter tg1 iter1 : Expr} {ifs ifs1 : List Expr} {scope : Scope} {own : List (Str × Nat)} {g g1 : Evn → RE (List PyData)} {m m1 : PyData → Evn → Option Evn} {t t1 : Evn → RE Bool} {fe : Evn → RE PyData} {js js1 : List Nat}
theorem rdLc2 {σ : Sg} {H : Hp} {Q : VK} {vs vs1 : List Nat} (hjs : ∀ i ∈ js, i ∈ vs) (hjs1 : ∀ i ∈ js1, i ∈ vs1) (h : tFV X P (mLc2 g m t g1 m1 t1 fe vs vs1) σ H Q) : tLc2 (tIV X P g) (tG X P.nx m js) (tTV X P.nx t) (tIV X P.nx g1) (tG X P.nx m1 js1) (tTV X P.nx t1) (tV X P.nx fe) vs vs1 σ H Q := by
  obtain ⟨ρ, F, hR, h⟩ := h
  refine ⟨ρ, F, hR, ?_⟩
  refine R.post_mono (R.post_bind h) (fun ds q J H0 F0 ex wk => ?_) (fun c _ q => q)
  by_cases hz : ds.length ≤ sizeLine
  case neg => rw [if_neg hz] at q; exact q.elim
  rw [if_pos hz] at q
  obtain ⟨ys, qy, qQ⟩ := nox_ok q
  intro D hD
  have f0 : F0 D = none := (hR.step ex).fh.free hD
  have R0 := ((hR.step ex).step (Ext.beside (o := .lst []) (hR.step ex).fh hD)).nx.wipe vs
  have hHD : H D = none := ex.hh.free hD
  have hBD : P.B D = none := hR.ext.hh.free hHD
  have noD : ∀ (i : Nat) (ds : Cel), ds.mine = true → (wipeE ρ vs)[i]? = some (some ds) → (L2.wipe σ vs)[i]? ≠ some (some (.ref D)) := fun i ds m e1 e2 => by
    obtain ⟨e3, _⟩ := wipeE_some e1
    obtain ⟨e4, _⟩ := L2.wipe_some e2
    exact hR.isNew hHD i ds m e3 e4
  let Go : Nat → Hp → Prop := fun i H1 => ∃ acc xs F1, Same F0 F1 ∧ Ext F H F1 H1 ∧ F1 D = none ∧ H1 D = some (.lst xs) ∧ VdAll X.K F1 xs acc ∧ Rep X.K P.nx (wipeE ρ vs) F1 (L2.wipe σ vs) H1 ∧ lcA2 m t g1 m1 t1 fe vs1 (wipeE ρ vs) (ds.drop i) acc = .ok ys
  refine ⟨fun i k H1 => k = ds.length - i ∧ i ≤ ds.length ∧ Go i H1, ⟨ds.length, by simp, Nat.zero_le _, [], [], F0, Same.refl _, ex.trans (Ext.beside (hR.step ex).fh hD), f0, upd_same, .nil, R0, qy⟩, ?_⟩
  rintro i k H1 ⟨rfl, hi, acc, xs, F1, s1, e1, d1, hd1, ha1, R1, p1⟩
  have sf1 : Same F1 H1 := e1.fh
  by_cases hlt : i < ds.length
  · right
    refine ⟨wk.go i F1 H1 s1 sf1 hlt, Go (i + 1), fun H' n => ⟨ds.length - (i + 1), by omega, rfl, hlt, n⟩, fun x H2 y => ?_⟩
    obtain ⟨F2, e2, hv⟩ := wk.yld i _ F1 H1 x H2 s1 sf1 (List.getElem?_eq_getElem hlt) y
    rw [List.drop_eq_getElem_cons hlt] at p1
    have R2 := R1.step e2
    have nD : ∀ {F' H' : Hp}, Ext F1 H1 F' H' → F' D = none := fun {F' H'} e => by
      cases q3 : F' D with
      | none => rfl
      | some o =>
        rcases e.nw D o q3 with z | z
        · rw [d1] at z; cases z
        · rw [hd1] at z; cases z
    unfold lcA2 at p1
    obtain ⟨ρ2, pm, p2⟩ := bind_inv p1
    obtain ⟨b, pt, p3⟩ := bind_inv p2
    refine ⟨wipeE ρ vs, F2, _, ρ2, R2, hv, ofO_inv pm, fun σ2 R3 bt => ⟨(bt vs hjs).trans wipe_idem, ρ2, F2, R3, ?_⟩⟩
    rw [nox_inv pt]
    intro H3 F3 e3
    have e13 := e2.trans e3
    cases b with
    | false =>
      rw [if_neg (by decide)]
      rw [if_neg (by decide)] at p3
      exact ⟨acc, xs, F3, s1.trans e13.ff, e1.trans e13, nD e13, e13.hh D _ hd1, VdAll.mono e13.ff _ _ ha1, R1.step e13, p3⟩
    | true =>
      rw [if_pos rfl]
      rw [if_pos rfl] at p3
      obtain ⟨es, pg, p4⟩ := bind_inv p3
      by_cases hz1 : es.length ≤ sizeLine
      case neg => rw [if_neg hz1] at p4; cases p4
      rw [if_pos hz1] at p4
      have R4 := R3.step e3
      refine ⟨ρ2, F3, R4, ?_⟩
      rw [nox_inv pg]
      intro J1 H4 F4 e4 wk1
      have e14 := e13.trans e4
      let Gi : Nat → Hp → Prop := fun j H' => ∃ acc xs F', Same F4 F' ∧ Same F0 F' ∧ Ext F H F' H' ∧ F' D = none ∧ H' D = some (.lst xs) ∧ VdAll X.K F' xs acc ∧ Rep X.K P.nx (wipeE ρ vs) F' (L2.wipe σ vs) H' ∧ Rep X.K P.nx (stillE (wipeE ρ2 vs1)) F' (L2.wipe σ2 vs1) H' ∧ (lcA m1 t1 fe (stillE (wipeE ρ2 vs1)) (es.drop j) acc).bind (fun acc' => lcA2 m t g1 m1 t1 fe vs1 (wipeE ρ vs) (ds.drop (i + 1)) acc') = .ok ys
      refine ⟨fun j k H1 => k = es.length - j ∧ j ≤ es.length ∧ Gi j H1, ⟨es.length, by simp, Nat.zero_le _, acc, xs, F4, Same.refl _, s1.trans e14.ff, e1.trans e14, nD e14, e14.hh D _ hd1, VdAll.mono e14.ff _ _ ha1, R1.step e14, ((R4.step e4).wipe vs1).still, by rw [List.drop_zero]; exact p4⟩, ?_⟩
      rintro j k' H5 ⟨rfl, hj, acc1, xs1, F5, s5, s05, e5, d5, hd5, ha5, R5, R6, p5⟩
      have sf5 : Same F5 H5 := e5.fh
      by_cases hlt1 : j < es.length
      · right
        refine ⟨wk1.go j F5 H5 s5 sf5 hlt1, Gi (j + 1), fun H' n => ⟨es.length - (j + 1), by omega, rfl, hlt1, n⟩, fun x1 H6 y1 => ?_⟩
        obtain ⟨F6, e6, hv6⟩ := wk1.yld j _ F5 H5 x1 H6 s5 sf5 (List.getElem?_eq_getElem hlt1) y1
        rw [List.drop_eq_getElem_cons hlt1] at p5
        have nD5 : ∀ {F' H' : Hp}, Ext F5 H5 F' H' → F' D = none := fun {F' H'} e => by
          cases q3 : F' D with
          | none => rfl
          | some o =>
            rcases e.nw D o q3 with z | z
            · rw [d5] at z; cases z
            · rw [hd5] at z; cases z
        unfold lcA at p5
        rw [bind_assoc] at p5
        obtain ⟨ρ3, pm3, p6⟩ := bind_inv p5
        rw [bind_assoc] at p6
        obtain ⟨b1, pt1, p7⟩ := bind_inv p6
        refine ⟨stillE (wipeE ρ2 vs1), F6, _, ρ3, R6.step e6, hv6, ofO_inv pm3, fun σ3 R7 bt1 => ⟨(bt1 vs1 hjs1).trans wipe_idem, ρ3, F6, R7, ?_⟩⟩
        rw [nox_inv pt1]
        intro H7 F7 e7
        have e57 := e6.trans e7
        cases b1 with
        | false =>
          rw [if_neg (by decide)]
          rw [if_neg (by decide)] at p7
          exact ⟨acc1, xs1, F7, s5.trans e57.ff, s05.trans e57.ff, e5.trans e57, nD5 e57, e57.hh D _ hd5, VdAll.mono e57.ff _ _ ha5, R5.step e57, R6.step e57, p7⟩
        | true =>
          rw [if_pos rfl]
          rw [if_pos rfl] at p7
          rw [bind_assoc] at p7
          obtain ⟨d, pd, p8⟩ := bind_inv p7
          refine ⟨ρ3, F7, R7.step e7, ?_⟩
          rw [nox_inv pd]
          intro v H8 F8 e8 hv8
          have e58 := e57.trans e8
          have f8 : F8 D = none := nD5 e58
          have e := e5.trans e58
          have s8 : ∀ {G : Hp}, G D = none → Same G H8 → Same G (upd H8 D (.lst (xs1 ++ [v]))) := fun {G} n s b u e => by
            rw [upd_ne (ne_of_none e n)]; exact s b u e
          obtain ⟨acc', pa, pb⟩ := bind_inv p8
          have l1 := lcA_len pa
          have l2 := lcA2_len _ _ pb
          rw [List.length_append, List.length_singleton] at l1
          have l3 := vd_len ha5
          exact ⟨xs1, e58.hh D _ hd5, by omega, acc1 ++ [d], xs1 ++ [v], F8, s5.trans e58.ff, s05.trans e58.ff, ⟨s8 hHD e.hh, e.ff, s8 f8 e.fh, e.nw⟩, f8, upd_same, (VdAll.mono e58.ff _ _ ha5).append (.cons hv8 .nil), (R5.step e58).other hBD f8 noD, (R6.step e58).other hBD f8 (fun i ds mm q _ => by have := (stillE_some q).2; rw [mm] at this; cases this), p8⟩
      · left
        have e : es.drop j = [] := List.drop_eq_nil_of_le (by omega)
        rw [e] at p5
        exact ⟨wk1.stop j F5 H5 s5 sf5 (by omega), acc1, xs1, F5, s05, e5, d5, hd5, ha5, R5, p5⟩
  · left
    have e : ds.drop i = [] := List.drop_eq_nil_of_le (by omega)
    rw [e] at p1
    have hl := lcA2_len _ _ p1
    unfold lcA2 at p1
    rw [if_pos hl] at p1
    injection p1 with p1
    subst p1
    exact ⟨wk.stop i F1 H1 s1 sf1 (by omega), qQ D xs H1 F1 e1 hHD d1 hd1 (by rw [vd_len ha1]; exact hl) ha1⟩
theorem vf_lc2 {vs vs1 : List Nat} (hc : X.calm = true) (hN : X.N.Nodup) (hi : VI X P tg iter g) (ok : BlkOk X.N X.env.scope scope own)
    (hg : ∀ (s : Shared) (H : Hp) (C : Addr) (cl : List (Str × Addr)) (fp : List Addr), VG (X.blk s H scope (compEnvC scope cl C X.env) fp) P.nx tg m js) (ht : ∀ (s : Shared) (H : Hp) (C : Addr) (cl : List (Str × Addr)) (fp : List Addr), VTs (X.blk s H scope (compEnvC scope cl C X.env) fp) P.nx ifs t)
    (hi1 : ∀ (s : Shared) (H : Hp) (C : Addr) (cl : List (Str × Addr)) (fp : List Addr), VI (X.blk s H scope (compEnvC scope cl C X.env) fp) P.nx tg1 iter1 g1)
    (hg1 : ∀ (s : Shared) (H : Hp) (C : Addr) (cl : List (Str × Addr)) (fp : List Addr), VG (X.blk s H scope (compEnvC scope cl C X.env) fp) P.nx tg1 m1 js1) (ht1 : ∀ (s : Shared) (H : Hp) (C : Addr) (cl : List (Str × Addr)) (fp : List Addr), VTs (X.blk s H scope (compEnvC scope cl C X.env) fp) P.nx ifs1 t1)
    (he : ∀ (s : Shared) (H : Hp) (C : Addr) (cl : List (Str × Addr)) (fp : List Addr), VE (X.blk s H scope (compEnvC scope cl C X.env) fp) P.nx elt fe) (hvs : own.map (·.2) = vs := by rfl) (hv : ∀ i ∈ vs1, i ∈ vs := by decide) (hjs : ∀ i ∈ js, i ∈ vs := by decide) (hjs1 : ∀ i ∈ js1, i ∈ vs1 := by decide) (hs : ∀ x, foldedSetIterable iter X.env x = pure x := by intro _; rfl) (hs1 : ∀ env x, foldedSetIterable iter1 env x = pure x := by intro _ _; rfl) :
    VF X P (.ListComp elt [⟨tg, iter, ifs, 0⟩, ⟨tg1, iter1, ifs1, 0⟩] scope pos) (mLc2 g m t g1 m1 t1 fe vs vs1) := PE_mono (pe_lc2 (vs1 := vs1) (g := tG X P.nx m js) (tt := tTV X P.nx t) (g1 := tG X P.nx m1 js1) (tt1 := tTV X P.nx t1) (wi1 := tIV X P.nx g1) (te := tV X P.nx fe) hc hN hi ok (by rw [hvs]; exact hv) hg ht hi1 hg1 ht1 he hs hs1) fun σ H Q h => by subst hvs; exact rdLc2 hjs hjs1 h
theorem vs_lc2O (i : Nat) {y : Str} {py spos : Pos} {vs vs1 : List Nat} (hc : X.calm = true) (hN : X.N.Nodup) (hi : VI X P tg iter g) (ok : BlkOk X.N X.env.scope scope own)
    (hg : ∀ (s : Shared) (H : Hp) (C : Addr) (cl : List (Str × Addr)) (fp : List Addr), VG (X.blk s H scope (compEnvC scope cl C X.env) fp) P.nx tg m js) (ht : ∀ (s : Shared) (H : Hp) (C : Addr) (cl : List (Str × Addr)) (fp : List Addr), VTs (X.blk s H scope (compEnvC scope cl C X.env) fp) P.nx ifs t)
    (hi1 : ∀ (s : Shared) (H : Hp) (C : Addr) (cl : List (Str × Addr)) (fp : List Addr), VI (X.blk s H scope (compEnvC scope cl C X.env) fp) P.nx tg1 iter1 g1)
    (hg1 : ∀ (s : Shared) (H : Hp) (C : Addr) (cl : List (Str × Addr)) (fp : List Addr), VG (X.blk s H scope (compEnvC scope cl C X.env) fp) P.nx tg1 m1 js1) (ht1 : ∀ (s : Shared) (H : Hp) (C : Addr) (cl : List (Str × Addr)) (fp : List Addr), VTs (X.blk s H scope (compEnvC scope cl C X.env) fp) P.nx ifs1 t1)
    (he : ∀ (s : Shared) (H : Hp) (C : Addr) (cl : List (Str × Addr)) (fp : List Addr), VE (X.blk s H scope (compEnvC scope cl C X.env) fp) P.nx elt fe) (hsw : swapsWith (.ListComp elt [⟨tg, iter, ifs, 0⟩, ⟨tg1, iter1, ifs1, 0⟩] scope pos) (some (.Name y py)) spos.line X.env = pure true := by exact sw_true rfl rfl rfl (by decide +kernel)) (hvs : own.map (·.2) = vs := by rfl) (hv : ∀ i ∈ vs1, i ∈ vs := by decide) (hjs : ∀ i ∈ js, i ∈ vs := by decide) (hjs1 : ∀ i ∈ js1, i ∈ vs1 := by decide) (hy : X.N[i]? = some y := by rfl) (hyl : X.env.scope.names.lookup y = some .local := by rfl)
    (hs : ∀ x, foldedSetIterable iter X.env x = pure x := by intro _; rfl) (hs1 : ∀ env x, foldedSetIterable iter1 env x = pure x := by intro _ _; rfl) :
    VS X P (.Assign [.Name y py] (.ListComp elt [⟨tg, iter, ifs, 0⟩, ⟨tg1, iter1, ifs1, 0⟩] scope pos) spos) (sSetO i (mLc2 g m t g1 m1 t1 fe vs vs1)) := PS_mono (ps_setLc2 (vs1 := vs1) (g := tG X P.nx m js) (tt := tTV X P.nx t) (g1 := tG X P.nx m1 js1) (tt1 := tTV X P.nx t1) (wi1 := tIV X P.nx g1) (te := tV X P.nx fe) hc hN hy hyl hsw hi ok (by rw [hvs]; exact hv) hg ht hi1 hg1 ht1 he hs hs1) fun D σ H h => by
  subst hvs
  have h2 := rdSetO h
  exact rdLc2 hjs hjs1 h2
theorem vs_lc2L (i : Nat) {y : Str} {py spos : Pos} {vs vs1 : List Nat} (hc : X.calm = true) (hN : X.N.Nodup) (hi : VI X P tg iter g) (ok : BlkOk X.N X.env.scope scope own)
    (hg : ∀ (s : Shared) (H : Hp) (C : Addr) (cl : List (Str × Addr)) (fp : List Addr), VG (X.blk s H scope (compEnvC scope cl C X.env) fp) P.nx tg m js) (ht : ∀ (s : Shared) (H : Hp) (C : Addr) (cl : List (Str × Addr)) (fp : List Addr), VTs (X.blk s H scope (compEnvC scope cl C X.env) fp) P.nx ifs t)
    (hi1 : ∀ (s : Shared) (H : Hp) (C : Addr) (cl : List (Str × Addr)) (fp : List Addr), VI (X.blk s H scope (compEnvC scope cl C X.env) fp) P.nx tg1 iter1 g1)
    (hg1 : ∀ (s : Shared) (H : Hp) (C : Addr) (cl : List (Str × Addr)) (fp : List Addr), VG (X.blk s H scope (compEnvC scope cl C X.env) fp) P.nx tg1 m1 js1) (ht1 : ∀ (s : Shared) (H : Hp) (C : Addr) (cl : List (Str × Addr)) (fp : List Addr), VTs (X.blk s H scope (compEnvC scope cl C X.env) fp) P.nx ifs1 t1)
    (he : ∀ (s : Shared) (H : Hp) (C : Addr) (cl : List (Str × Addr)) (fp : List Addr), VE (X.blk s H scope (compEnvC scope cl C X.env) fp) P.nx elt fe) (hsw : swapsWith (.ListComp elt [⟨tg, iter, ifs, 0⟩, ⟨tg1, iter1, ifs1, 0⟩] scope pos) (some (.Name y py)) spos.line X.env = pure true := by exact sw_true rfl rfl rfl (by decide +kernel)) (hvs : own.map (·.2) = vs := by rfl) (hv : ∀ i ∈ vs1, i ∈ vs := by decide) (hjs : ∀ i ∈ js, i ∈ vs := by decide) (hjs1 : ∀ i ∈ js1, i ∈ vs1 := by decide) (hy : X.N[i]? = some y := by rfl) (hyl : X.env.scope.names.lookup y = some .local := by rfl)
    (hs : ∀ x, foldedSetIterable iter X.env x = pure x := by intro _; rfl) (hs1 : ∀ env x, foldedSetIterable iter1 env x = pure x := by intro _ _; rfl) :
    VS X P (.Assign [.Name y py] (.ListComp elt [⟨tg, iter, ifs, 0⟩, ⟨tg1, iter1, ifs1, 0⟩] scope pos) spos) (sSetL i (mLc2 g m t g1 m1 t1 fe vs vs1)) := PS_mono (ps_setLc2 (vs1 := vs1) (g := tG X P.nx m js) (tt := tTV X P.nx t) (g1 := tG X P.nx m1 js1) (tt1 := tTV X P.nx t1) (wi1 := tIV X P.nx g1) (te := tV X P.nx fe) hc hN hy hyl hsw hi ok (by rw [hvs]; exact hv) hg ht hi1 hg1 ht1 he hs hs1) fun D σ H h => by
  subst hvs
  have h2 := rdSetL h
  exact rdLc2 hjs hjs1 h2
end
end PV

namespace PV
open PySem
/-! the typed rules -/
theorem e_mLc2 (g : Evn → RE (List PyData)) (m : PyData → Evn → Option Evn) (t : Evn → RE Bool) (g1 : Evn → RE (List PyData)) (m1 : PyData → Evn → Option Evn) (t1 : Evn → RE Bool) (e : Evn → RE PyData) (vs vs1 : List Nat) (ρ : Evn) : mLc2 g m t g1 m1 t1 e vs vs1 ρ = (g ρ).bind fun ds => if ds.length ≤ sizeLine then nox (lcA2 m t g1 m1 t1 e vs1 (wipeE ρ vs) ds []) else .bad := nr rfl
def stillP (p : Pt) : Pt := p.map stillC
theorem Sh.still {p : Pt} {ρ : Evn} (h : Sh p ρ) : Sh (stillP p) (stillE ρ) := by
  induction h with
  | nil => exact .nil
  | any _ ih => exact .any ih
  | @is p ρ c _ ih =>
    cases c with
    | own ds => exact .any ih
    | dic ds => exact .any ih
    | val d => exact .is ih
    | exn d => exact .is ih
section
variable {p : Pt} {α β γ : Type} {w w1 : Evn → RE (List PyData)} {g g1 : PyData → Evn → Option Evn} {tt tt1 : Evn → RE Bool} {el : Evn → RE PyData} {vs vs1 : List Nat} {e : α → PyData} {e1 : γ → PyData} {e' : β → PyData} {xs : List α} {ys : α → List γ} {q : α → Pt} {q1 : α → γ → Pt} {t : α → Bool} {t1 : α → γ → Bool} {f : α → γ → β}
theorem lcA2_map (hg : ∀ x, TG (wpP p vs) g (e x) (q x)) (hg1 : ∀ x y, TG (stillP (wpP (q x) vs1)) g1 (e1 y) (q1 x y)) : ∀ (xs : List α) (acc : List PyData),
    (∀ x ∈ xs, TM (q x) tt (t x)) → (∀ x ∈ xs, t x = true → TM (q x) w1 ((ys x).map e1)) → (∀ x ∈ xs, t x = true → (ys x).length ≤ sizeLine) → (∀ x ∈ xs, t x = true → ∀ y ∈ ys x, TM (q1 x y) tt1 (t1 x y)) → (∀ x ∈ xs, t x = true → ∀ y ∈ ys x, t1 x y = true → TM (q1 x y) el (e' (f x y))) →
    (acc ++ (((xs.filter t).flatMap fun x => ((ys x).filter (t1 x)).map (f x)).map e')).length ≤ sizeLine → ∀ {ρ : Evn}, Sh p ρ → lcA2 g tt w1 g1 tt1 el vs1 (wipeE ρ vs) (xs.map e) acc = .ok (acc ++ (((xs.filter t).flatMap fun x => ((ys x).filter (t1 x)).map (f x)).map e'))
  | [], acc, _, _, _, _, _, hz, ρ, hs => by
    unfold lcA2
    rw [List.map_nil]
    simp only [List.filter_nil, List.flatMap_nil, List.map_nil, List.append_nil] at hz ⊢
    rw [if_pos hz]
  | x :: r, acc, ht, hw1, hl1, ht1, he, hz, ρ, hs => by
    obtain ⟨ρ1, a1, a2⟩ := hg x _ (hs.wp vs)
    have hx : x ∈ x :: r := List.mem_cons_self ..
    have hr : ∀ z ∈ r, z ∈ x :: r := fun z hz => List.mem_cons_of_mem _ hz
    have ih := fun acc hz => lcA2_map hg hg1 r acc (fun z hz => ht z (hr z hz)) (fun z hz => hw1 z (hr z hz)) (fun z hz => hl1 z (hr z hz)) (fun z hz => ht1 z (hr z hz)) (fun z hz => he z (hr z hz)) hz hs
    rw [List.map_cons]
    unfold lcA2
    rw [a1]
    show (nox (tt ρ1)).bind _ = _
    rw [ht x hx ρ1 a2]
    show (if t x = true then _ else _) = _
    cases c : t x with
    | false =>
      rw [if_neg (by decide), List.filter_cons_of_neg (by rw [c]; decide)]
      rw [List.filter_cons_of_neg (by rw [c]; decide)] at hz
      exact ih acc hz
    | true =>
      rw [if_pos rfl, hw1 x hx c ρ1 a2]
      show (if ((ys x).map e1).length ≤ sizeLine then _ else _) = _
      rw [if_pos (by rw [List.length_map]; exact hl1 x hx c), lcA_eq, lcM_map (dec := e1) (t1 x) (fun y => e' (f x y)) (fun y hy => by
        obtain ⟨ρ2, b1, b2⟩ := hg1 x y _ (a2.wp vs1).still
        exact ⟨ρ2, b1, ht1 x hx c y hy _ b2, fun hp => he x hx c y hy hp _ b2⟩)]
      rw [List.filter_cons_of_pos c, List.flatMap_cons, List.map_append] at hz ⊢
      show lcA2 _ _ _ _ _ _ _ _ _ (acc ++ ((ys x).filter (t1 x)).map fun y => e' (f x y)) = _
      have em : (((ys x).filter (t1 x)).map (f x)).map e' = ((ys x).filter (t1 x)).map fun y => e' (f x y) := List.map_map
      rw [em] at hz ⊢
      rw [← List.append_assoc] at hz ⊢
      exact ih _ hz
theorem t_lc2 (hw : TM p w (xs.map e)) (hl : xs.length ≤ sizeLine) (hg : ∀ x, TG (wpP p vs) g (e x) (q x)) (hg1 : ∀ x y, TG (stillP (wpP (q x) vs1)) g1 (e1 y) (q1 x y)) (ht : ∀ x ∈ xs, TM (q x) tt (t x)) (hw1 : ∀ x ∈ xs, t x = true → TM (q x) w1 ((ys x).map e1)) (hl1 : ∀ x ∈ xs, t x = true → (ys x).length ≤ sizeLine) (ht1 : ∀ x ∈ xs, t x = true → ∀ y ∈ ys x, TM (q1 x y) tt1 (t1 x y)) (he : ∀ x ∈ xs, t x = true → ∀ y ∈ ys x, t1 x y = true → TM (q1 x y) el (e' (f x y))) (hz : ((xs.filter t).flatMap fun x => ((ys x).filter (t1 x)).map (f x)).length ≤ sizeLine) : TM p (mLc2 w g tt w1 g1 tt1 el vs vs1) (((xs.filter t).flatMap fun x => ((ys x).filter (t1 x)).map (f x)).map e') := fun ρ hs => by
  rw [e_mLc2, hw ρ hs]
  show (if (xs.map e).length ≤ sizeLine then _ else _) = _
  rw [if_pos (by rw [List.length_map]; exact hl), lcA2_map hg hg1 xs [] ht hw1 hl1 ht1 he (by rw [List.nil_append, List.length_map]; exact hz) hs]
  rfl
theorem filtT (xs : List α) : (xs.filter fun _ => true) = xs := List.filter_eq_self.mpr fun _ _ => rfl
/-- without a test -/
theorem t_lc20 (hw : TM p w (xs.map e)) (hl : xs.length ≤ sizeLine) (hg : ∀ x, TG (wpP p vs) g (e x) (q x)) (hg1 : ∀ x y, TG (stillP (wpP (q x) vs1)) g1 (e1 y) (q1 x y)) (hw1 : ∀ x ∈ xs, TM (q x) w1 ((ys x).map e1)) (hl1 : ∀ x ∈ xs, (ys x).length ≤ sizeLine) (he : ∀ x ∈ xs, ∀ y ∈ ys x, TM (q1 x y) el (e' (f x y))) (hz : (xs.flatMap fun x => (ys x).map (f x)).length ≤ sizeLine) : TM p (mLc2 w g mYes w1 g1 mYes el vs vs1) ((xs.flatMap fun x => (ys x).map (f x)).map e') := by
  have ef : ((xs.filter fun _ => true).flatMap fun x => ((ys x).filter (fun _ => true)).map (f x)) = xs.flatMap fun x => (ys x).map (f x) := by
    rw [filtT]; congr 1; funext x; rw [filtT]
  have := t_lc2 (t := fun _ => true) (t1 := fun _ _ => true) (tt := mYes) (tt1 := mYes) (w1 := w1) (ys := ys) (f := f) (e' := e') (el := el) hw hl hg hg1 (fun x _ ρ hs => rfl) (fun x hx _ => hw1 x hx) (fun x hx _ => hl1 x hx) (fun x hx _ y hy ρ hs => rfl) (fun x hx _ y hy _ => he x hx y hy) (by rw [ef]; exact hz)
  rw [ef] at this
  exact this
/-- a test behind the second -/
theorem t_lc21 (hw : TM p w (xs.map e)) (hl : xs.length ≤ sizeLine) (hg : ∀ x, TG (wpP p vs) g (e x) (q x)) (hg1 : ∀ x y, TG (stillP (wpP (q x) vs1)) g1 (e1 y) (q1 x y)) (hw1 : ∀ x ∈ xs, TM (q x) w1 ((ys x).map e1)) (hl1 : ∀ x ∈ xs, (ys x).length ≤ sizeLine) (ht1 : ∀ x ∈ xs, ∀ y ∈ ys x, TM (q1 x y) tt1 (t1 x y)) (he : ∀ x ∈ xs, ∀ y ∈ ys x, t1 x y = true → TM (q1 x y) el (e' (f x y))) (hz : (xs.flatMap fun x => ((ys x).filter (t1 x)).map (f x)).length ≤ sizeLine) : TM p (mLc2 w g mYes w1 g1 tt1 el vs vs1) ((xs.flatMap fun x => ((ys x).filter (t1 x)).map (f x)).map e') := by
  have ef : ((xs.filter fun _ => true).flatMap fun x => ((ys x).filter (t1 x)).map (f x)) = xs.flatMap fun x => ((ys x).filter (t1 x)).map (f x) := by
    rw [filtT]
  have := t_lc2 (t := fun _ => true) (tt := mYes) (w1 := w1) (ys := ys) (f := f) (e' := e') (el := el) hw hl hg hg1 (fun x _ ρ hs => rfl) (fun x hx _ => hw1 x hx) (fun x hx _ => hl1 x hx) (fun x hx _ y hy => ht1 x hx y hy) (fun x hx _ y hy h => he x hx y hy h) (by rw [ef]; exact hz)
  rw [ef] at this
  exact this
end
end PV
end
section
set_option Elab.async false
set_option linter.all false
set_option maxRecDepth 100000
set_option maxHeartbeats 4000000
set_option autoImplicit false
/-! V3: comparisons of four. -/

namespace PV
open PySem PySem.Spec PyProof.Rows L2
section
variable {X : Cx} {P : Pm} {a b c d : Expr} {pos : Pos}
def tChain3 (r r' r'' : R2) (ta tb tc td : TE) : TE := fun σ H Q => ta σ H fun x H1 => tb σ H1 fun y H2 => r x y H2 fun z H3 => ∃ k, z = .bl k ∧
  (if k = true then tc σ H3 fun w H4 => r' y w H4 fun z' H5 => ∃ k', z' = .bl k' ∧ (if k' = true then td σ H5 fun u H6 => r'' w u H6 Q else Q (.bl false) H5) else Q (.bl false) H3)
theorem pe_chain3 {op op' op'' : CmpOp} {r r' r'' : R2} {ta tb tc td : TE} (ho : OpR X (compareOp op) r) (ho' : OpR X (compareOp op') r') (ho'' : OpR X (compareOp op'') r'') (ha : PE X a ta) (hb : PE X b tb) (hc : PE X c tc) (hd : PE X d td)
    (hm : lastMarks [op, op', op''] [b, c, d] = false := by with_unfolding_all rfl) : PE X (.Compare a [op, op', op''] [b, c, d] pos) (tChain3 r r' r'' ta tb tc td) := by
  refine ⟨fun pins s σ H Q I h => ?_⟩
  refine Compare_chain (thn (ha.run pins s σ H _ I h) fun v s1 ⟨x, H1, I1, r1, q1⟩ => chain_link (thn (hb.run pins s1 σ H1 _ I1 q1) fun u s2 ⟨y, H2, I2, r2, q2⟩ =>
    thn (ho pins s2 σ H2 x y v u _ I2 r1 r2 q2) fun d s3 ⟨z, H3, I3, r3, k, e, q3⟩ => ?_)) hm
  subst e
  cases r3
  refine wpAny_truthy_bool ?_
  cases k with
  | false => exact ite_ff ⟨.bl false, H3, I3, rfl, q3⟩
  | true =>
    refine ite_tt (chain_link (thn (hc.run pins s3 σ H3 _ I3 q3) fun w' s4 ⟨z', H4, I4, r4, q4⟩ => thn (ho' pins s4 σ H4 y z' u w' _ I4 r2 r4 q4) fun d s5 ⟨z2, H5, I5, r5, k2, e2, q5⟩ => ?_))
    subst e2
    cases r5
    refine wpAny_truthy_bool ?_
    cases k2 with
    | false => exact ite_ff ⟨.bl false, H5, I5, rfl, q5⟩
    | true => exact ite_tt (chain_last (thn (hd.run pins s5 σ H5 _ I5 q5) fun w2 s6 ⟨z3, H6, I6, r6, q6⟩ => ho'' pins s6 σ H6 z' z3 w' w2 Q I6 r4 r6 q6))
theorem pt_chain3 {op op' op'' : CmpOp} {r r' r'' : R2} {ta tb tc td : TE} (ho : OpR X (compareOp op) r) (ho' : OpR X (compareOp op') r') (ho'' : OpR X (compareOp op'') r'') (ha : PE X a ta) (hb : PE X b tb) (hc : PE X c tc) (hd : PE X d td)
    (hm : lastMarks [op, op', op''] [b, c, d] = false := by with_unfolding_all rfl) : PT X (.Compare a [op, op', op''] [b, c, d] pos) (tTest (tChain3 r r' r'' ta tb tc td)) := by
  refine ⟨fun pins s σ H Q I h => ?_⟩
  refine isTrue_chain (thn (ha.run pins s σ H _ I h) fun v s1 ⟨x, H1, I1, r1, q1⟩ => test_link (thn (hb.run pins s1 σ H1 _ I1 q1) fun u s2 ⟨y, H2, I2, r2, q2⟩ =>
    thn (ho pins s2 σ H2 x y v u _ I2 r1 r2 q2) fun d s3 ⟨z, H3, I3, r3, k, e, q3⟩ => ?_)) hm
  subst e
  cases r3
  refine wpAny_truthy_bool ?_
  cases k with
  | false =>
    obtain ⟨k', e', q'⟩ := q3
    cases e'
    exact ite_ff ⟨H3, I3, q'⟩
  | true =>
    refine ite_tt (test_link (thn (hc.run pins s3 σ H3 _ I3 q3) fun w' s4 ⟨z', H4, I4, r4, q4⟩ => thn (ho' pins s4 σ H4 y z' u w' _ I4 r2 r4 q4) fun d s5 ⟨z2, H5, I5, r5, k2, e2, q5⟩ => ?_))
    subst e2
    cases r5
    refine wpAny_truthy_bool ?_
    cases k2 with
    | false =>
      obtain ⟨k', e', q'⟩ := q5
      cases e'
      exact ite_ff ⟨H5, I5, q'⟩
    | true =>
      refine ite_tt (test_last (thn (hd.run pins s5 σ H5 _ I5 q5) fun w2 s6 ⟨z3, H6, I6, r6, q6⟩ => thn (ho'' pins s6 σ H6 z' z3 w' w2 _ I6 r4 r6 q6) fun d' s7 ⟨z4, H7, I7, r7, k3, e3, q7⟩ => ?_))
      subst e3
      cases r7
      exact wpAny_truthy_bool ⟨H7, I7, q7⟩
/-- a op b op' c op'' d -/
def mChain3 (g g' g'' : PyData → PyData → Option PyData) (fa fb fc fd : Evn → RE PyData) (ρ : Evn) : RE PyData :=
  (fa ρ).bind fun x => (fb ρ).bind fun y => (ofO (g x y)).bind fun z => (ofO (toB z)).bind fun k => if k then (fc ρ).bind fun w => (ofO (g' y w)).bind fun z' => (ofO (toB z')).bind fun k' => if k' then (fd ρ).bind fun u => ofO (g'' w u) else .ok (.bool false) else .ok (.bool false)
theorem rdChain3 {g g' g'' : PyData → PyData → Option PyData} {fa fb fc fd : Evn → RE PyData} {σ : Sg} {H : Hp} {Q : VK} (h : tV X P (mChain3 g g' g'' fa fb fc fd) σ H Q) : tChain3 (rV X g) (rV X g') (rV X g'') (tV X P fa) (tV X P fb) (tV X P fc) (tV X P fd) σ H Q := by
  obtain ⟨ρ, F, hR, h⟩ := h
  refine Out.first hR h fun d v F1 H1 e1 hv R1 h1 => ?_
  refine Out.first R1 h1 fun d2 v2 F2 H2 e2 hv2 R2 h2 => ?_
  cases hg : g d d2 with
  | none => rw [hg] at h2; exact h2.elim
  | some z =>
    rw [hg] at h2
    refine ⟨F2, d, d2, z, R2.fh, Vd.mono e2.ff d v hv, hv2, hg, fun v' H' F' e3 hv3 => ?_⟩
    obtain ⟨k, rfl, h3⟩ := toB_of hv3 (Out.step h2 e3)
    refine ⟨k, rfl, ?_⟩
    have R3 := R2.step e3
    cases k with
    | false => rw [if_neg (by decide)]; exact h3 _ H' F' (Ext.refl R3.fh) (.bl _)
    | true =>
      rw [if_pos rfl]
      have h3' : Out X P σ Q F' H' ((fc ρ).bind fun w => (ofO (g' d2 w)).bind fun z' => (ofO (toB z')).bind fun k' => if k' then (fd ρ).bind fun u => ofO (g'' w u) else .ok (.bool false)) := h3
      refine Out.first R3 h3' fun d3 v3 F3 H3 e4 hv4 R4 h4 => ?_
      cases hg2 : g' d2 d3 with
      | none => rw [hg2] at h4; exact h4.elim
      | some z2 =>
        rw [hg2] at h4
        refine ⟨F3, d2, d3, z2, R4.fh, Vd.mono e4.ff d2 v2 (Vd.mono e3.ff d2 v2 hv2), hv4, hg2, fun v5 H5 F5 e5 hv5 => ?_⟩
        obtain ⟨k2, rfl, h5⟩ := toB_of hv5 (Out.step h4 e5)
        refine ⟨k2, rfl, ?_⟩
        have R5 := R4.step e5
        cases k2 with
        | false => rw [if_neg (by decide)]; exact h5 _ H5 F5 (Ext.refl R5.fh) (.bl _)
        | true =>
          rw [if_pos rfl]
          have h5' : Out X P σ Q F5 H5 ((fd ρ).bind fun u => ofO (g'' d3 u)) := h5
          refine Out.first R5 h5' fun d6 v6 F6 H6 e6 hv6 R6 h6 => ?_
          obtain ⟨r, hr, hq⟩ := h6.ofO
          exact ⟨F6, d3, d6, r, R6.fh, Vd.mono e6.ff d3 v3 (Vd.mono e5.ff d3 v3 hv4), hv6, hr, hq⟩
theorem ve_chain3 {op op' op'' : CmpOp} {g g' g'' : PyData → PyData → Option PyData} {fa fb fc fd : Evn → RE PyData} (ho : OpV X (compareOp op) g) (ho' : OpV X (compareOp op') g') (ho'' : OpV X (compareOp op'') g'') (ha : VE X P a fa) (hb : VE X P b fb) (hc : VE X P c fc) (hd : VE X P d fd)
    (hm : lastMarks [op, op', op''] [b, c, d] = false := by with_unfolding_all rfl) : VE X P (.Compare a [op, op', op''] [b, c, d] pos) (mChain3 g g' g'' fa fb fc fd) := PE_mono (pe_chain3 ho.r ho'.r ho''.r ha hb hc hd hm) fun _ _ _ h => rdChain3 h
theorem vt_chain3 {op op' op'' : CmpOp} {g g' g'' : PyData → PyData → Option PyData} {fa fb fc fd : Evn → RE PyData} (ho : OpV X (compareOp op) g) (ho' : OpV X (compareOp op') g') (ho'' : OpV X (compareOp op'') g'') (ha : VE X P a fa) (hb : VE X P b fb) (hc : VE X P c fc) (hd : VE X P d fd)
    (hm : lastMarks [op, op', op''] [b, c, d] = false := by with_unfolding_all rfl) : VT X P (.Compare a [op, op', op''] [b, c, d] pos) (mB (mChain3 g g' g'' fa fb fc fd)) :=
  PT_mono (pt_chain3 ho.r ho'.r ho''.r ha hb hc hd hm) fun σ H Q h => rdB (t := tChain3 (rV X g) (rV X g') (rV X g'') (tV X P fa) (tV X P fb) (tV X P fc) (tV X P fd)) (fun Q => rdChain3) h
end
/-! tuples of ints in order -/
def intsOf : List PyData → Option (List Int)
  | [] => some []
  | .int n :: r => (intsOf r).map (n :: ·)
  | _ :: _ => none
theorem intsOf_vd {K : PySem.W.Frag} {F : Hp} : ∀ {ds : List PyData} {xs : List V} {ns : List Int}, VdAll K F xs ds → intsOf ds = some ns → xs = ns.map V.int
  | [], _, _, h, e => by cases h; cases e; rfl
  | d :: r, _, _, h, e => by
    cases h with
    | cons h1 h2 =>
      cases d with
      | int n =>
        cases q : intsOf r with
        | none => simp [intsOf, q] at e
        | some ms =>
          simp [intsOf, q] at e
          subst e
          cases h1
          rw [intsOf_vd h2 q]; rfl
      | _ => cases e
def leNs (ns ms : List Int) : Bool := Ob.lexAt (fun j => decide (ns.getD j 0 = ms.getD j 0)) (fun j => decide (ns.getD j 0 ≤ ms.getD j 0)) (decide (ns.length ≤ ms.length)) 0 (min ns.length ms.length)
def pLeT : PyData → PyData → Option PyData
  | .tuple as, .tuple bs => match intsOf as, intsOf bs with
    | some ns, some ms => some (.bool (leNs ns ms))
    | _, _ => none
  | _, _ => none
theorem opv_leT {X : Cx} {k : Nat} (hr : Room k X.A) : OpV X (compareOp .LtE) pLeT := by
  intro pins s σ H x y v u Q I rx ry F d e r sf hx hy hg hq
  cases d with
  | tuple as =>
    cases e with
    | tuple bs =>
      cases h1 : intsOf as with
      | none => simp [pLeT, h1] at hg
      | some ns =>
        cases h2 : intsOf bs with
        | none => simp [pLeT, h1, h2] at hg
        | some ms =>
          have e0 : pLeT (.tuple as) (.tuple bs) = some (.bool (leNs ns ms)) := by simp only [pLeT, h1, h2]
          rw [e0] at hg
          cases hg
          cases hx with
          | tup a1 a2 a3 =>
            cases hy with
            | tup b1 b2 b3 =>
              have e1 := intsOf_vd a3 h1
              have e2 := intsOf_vd b3 h2
              subst e1
              subst e2
              exact op_leT (by have := hr.units; omega) pins s σ H _ _ v u Q I rx ry ⟨_, _, ns, ms, rfl, rfl, same_sqT sf a1, same_sqT sf b1, hq _ _ F (Ext.refl sf) (.bl (leNs ns ms))⟩
    | _ => cases hg
  | _ => cases e <;> cases hg
theorem leT2 (a b c d : Int) : pLeT (.tuple [.int a, .int b]) (.tuple [.int c, .int d]) = some (.bool (decide (a < c ∨ a = c ∧ b ≤ d))) := by
  show some (PyData.bool (if decide (a = c) = true then (if decide (b = d) = true then true else decide (b ≤ d)) else decide (a ≤ c))) = _
  congr 2
  by_cases h1 : a = c
  · by_cases h2 : b = d
    · simp [h1, h2]
    · simp [h1, h2]
  · have : (a ≤ c) ↔ (a < c) := by omega
    simp [h1, this]
/-! str of an int -/
theorem strOk_of (x : String) : PyData.strOk (Str.ofString x) = true := by
  unfold PyData.strOk
  rw [Str.ofString_eq_toList]
  simp only [List.all_toArray, List.all_map, List.all_eq_true]
  intro c _
  have := c.valid
  show decide (c.toNat < 0x110000) = true
  refine decide_eq_true ?_
  rcases this with h | h
  · have h : c.val.toNat < 55296 := h
    show c.val.toNat < 1114112
    omega
  · have h : 57343 < c.val.toNat ∧ c.val.toNat < 1114112 := h
    exact h.2
def bStr : List PyData → Option PyData
  | [.int i] => if i.natAbs.log2 < 1920 then some (.str (toString i)) else none
  | _ => none
section
variable {X : Cx}
theorem cb_str : CallR X (.type "str") (rCV X bStr) := by
  intro pins s σ H xs us Q I r h
  obtain ⟨F, ds, d, sf, hv, hg, hq⟩ := h
  unfold bStr at hg
  split at hg
  · rename_i i
    by_cases hi : i.natAbs.log2 < 1920
    · rw [if_pos hi] at hg
      cases hg
      obtain ⟨v, rfl, h1⟩ := vd1 hv
      cases h1
      exact call_str_int pins s σ H _ us Q I r ⟨_, rfl, hi, hq _ _ F (Ext.refl sf) (.str _ (strOk_of _))⟩
    · rw [if_neg hi] at hg
      cases hg
  · cases hg
end
section
variable {p : Pt} {fa fb fc fd : Evn → RE PyData} {x y z u : PyData}
theorem t_chain3 {o o' o'' : PyData → PyData → Option PyData} {b c e : Bool} (ha : TM p fa x) (hb : TM p fb y) (h : o x y = some (.bool b)) (hc : b = true → TM p fc z) (h' : b = true → o' y z = some (.bool c)) (hd : b = true → c = true → TM p fd u) (h'' : b = true → c = true → o'' z u = some (.bool e)) : TM p (mChain3 o o' o'' fa fb fc fd) (.bool (b && (c && e))) := fun ρ hs => by
  unfold mChain3
  rw [ha ρ hs, bind_ok, hb ρ hs, bind_ok, h, ofO_some, bind_ok, d_toB, ofO_some, bind_ok]
  cases b with
  | true =>
    rw [if_pos rfl, hc rfl ρ hs, bind_ok, h' rfl, ofO_some, bind_ok, d_toB, ofO_some, bind_ok, Bool.true_and]
    cases c with
    | true => rw [if_pos rfl, hd rfl rfl ρ hs, bind_ok, h'' rfl rfl, ofO_some, Bool.true_and]
    | false => rw [if_neg (by decide), Bool.false_and]
  | false => rw [if_neg (by decide), Bool.false_and]
end
/-! insert, pop at a place -/
def insD (ds : List PyData) (k d : PyData) : Option (List PyData) := match k with
  | .int j => if 0 ≤ j ∧ j < 2 ^ 63 ∧ ds.length < sizeLine then some (ds.take j.toNat ++ [d] ++ ds.drop j.toNat) else none
  | _ => none
theorem insD_of {K : PySem.W.Frag} {F : Hp} {xs : List V} {ds es : List PyData} {kv v : V} {k d : PyData} (hx : VdAll K F xs ds) (hk : Vd K F kv k) (hv : Vd K F v d) (e : insD ds k d = some es) : ∃ j : Int, kv = .int j ∧ xs.length < sizeLine ∧ 0 ≤ j ∧ j < 2 ^ 63 ∧ VdAll K F (xs.take j.toNat ++ [v] ++ xs.drop j.toNat) es := by
  cases hk with
  | int j =>
    unfold insD at e
    by_cases q : 0 ≤ j ∧ j < 2 ^ 63 ∧ ds.length < sizeLine
    · simp only [if_pos q, Option.some.injEq] at e
      subst e
      exact ⟨j, rfl, by rw [hx.length]; exact q.2.2, q.1, q.2.1, ((hx.take _).append (.cons hv .nil)).append (hx.drop _)⟩
    · simp only [if_neg q] at e
      cases e
  | _ => cases e
/-- the element at a place, and the list without it -/
def popD (ds : List PyData) (k : PyData) : Option (PyData × List PyData) := match k with
  | .int j => if -(2 ^ 63) ≤ j ∧ j < 2 ^ 63 then (ixN ds.length j).bind fun n => ds[n]?.map fun d => (d, ds.eraseIdx n) else none
  | _ => none
theorem VdAll.eraseIdx {K : PySem.W.Frag} {F : Hp} {vs : List V} {ds : List PyData} (h : VdAll K F vs ds) (n : Nat) : VdAll K F (vs.eraseIdx n) (ds.eraseIdx n) := by
  rw [List.eraseIdx_eq_take_drop_succ, List.eraseIdx_eq_take_drop_succ]
  exact (h.take _).append (h.drop _)
theorem popD_of {K : PySem.W.Frag} {F : Hp} {xs : List V} {ds : List PyData} {r : PyData × List PyData} {kv : V} {k : PyData} (hx : VdAll K F xs ds) (hk : Vd K F kv k) (e : popD ds k = some r) : ∃ (j : Int) (n : Nat) (y : V), kv = .int j ∧ -(2 ^ 63) ≤ j ∧ j < 2 ^ 63 ∧ seqIndex? j xs.length = some n ∧ xs[n]? = some y ∧ Vd K F y r.1 ∧ VdAll K F (xs.eraseIdx n) r.2 := by
  cases hk with
  | int j =>
    unfold popD at e
    by_cases q : -(2 ^ 63) ≤ j ∧ j < 2 ^ 63
    · simp only [if_pos q] at e
      cases q2 : ixN ds.length j with
      | none => rw [q2] at e; cases e
      | some n =>
        rw [q2, Option.bind_some] at e
        cases q3 : ds[n]? with
        | none => rw [q3] at e; cases e
        | some d =>
          rw [q3] at e
          cases e
          obtain ⟨y, h1, h2⟩ := hx.get q3
          exact ⟨j, n, y, rfl, q.1, q.2, by rw [hx.length]; exact (ixN_seq q2).1, h1, h2, hx.eraseIdx n⟩
    · simp only [if_neg q] at e
      cases e
  | _ => cases e
/-- x.insert(k, e) -/
def sIns (i : Nat) (fk fe : Evn → RE PyData) (ρ : Evn) : RS := match ownAt i ρ with
  | some ds => ((fk ρ).at ρ).bind fun k => ((fe ρ).at ρ).bind fun d => (oS (insD ds k d)).bind fun es => .ok (.nx, ρ.set i (some (.own es)))
  | none => .bad
/-- x.pop(k), x = y.pop(k), x.append(y.pop(k)), x.append(y.pop()) -/
def sPopAt (i : Nat) (fk : Evn → RE PyData) (ρ : Evn) : RS := match ownAt i ρ with
  | some ds => ((fk ρ).at ρ).bind fun k => (oS (popD ds k)).bind fun r => .ok (.nx, ρ.set i (some (.own r.2)))
  | none => .bad
def sPopAtTo (i j : Nat) (fk : Evn → RE PyData) (ρ : Evn) : RS := match ownAt i ρ with
  | some ds => ((fk ρ).at ρ).bind fun k => (oS (popD ds k)).bind fun r => .ok (.nx, (ρ.set i (some (.own r.2))).set j (some (.val r.1)))
  | none => .bad
section
variable {X : Cx} {P : Pm} {pos apos spos ipos iapos : Pos} {e k : Expr} {fe fk : Evn → RE PyData} {x y : Str}
theorem vs_insert (i : Nat) {p : Pos} (hk : VE X P k fk) (he : VE X P e fe) (hN : X.N[i]? = some x := by rfl) (hv : Vis X.env.scope x := by first | exact Or.inl rfl | exact Or.inr (Or.inl rfl) | exact Or.inr (Or.inr rfl)) (hd : (x == ("__debug__" : Str)) = false := by decide) (hcd : (x == ("__classdict__" : Str)) = false := by decide)
    (hbase : attributeBase (.Name x p) "insert" X.env (eval (.Name x p) X.env) = eval (.Name x p) X.env := by rfl)
    (hfew : ((backTo pos (starEach [k, e] X.env)).all (fun x => !x.1) && (backToKw pos (keywordEach [] X.env)).all (fun x => x.1.isSome)
      && decide ([k, e].length + ([] : List Keyword).length + (if ([] : List Keyword).isEmpty then 0 else 1) < 30)) = true := by rfl)
    (hline : (apos.endLine == pos.line) = true := by rfl) (hs : starEach [k, e] X.env = (false, eval k X.env) :: starEach [e] X.env := by rfl) (hs2 : starEach [e] X.env = (false, eval e X.env) :: starEach [] X.env := by rfl) (hplain : (backTo pos (starEach [e] X.env)).any (·.1) = false := by rfl) (hsw : swapsWith (.Call (.Attribute (.Name x p) "insert" apos) [k, e] [] pos) none spos.line X.env = pure false := by rfl) :
    VS X P (.Expr (.Call (.Attribute (.Name x p) "insert" apos) [k, e] [] pos) spos) (sIns i fk fe) :=
  PS_mono (ps_expr (pe_bm PySem.F.plainAttrs_list PySem.F.slot_list_insert PySem.F.type_list_insert mt_insert (pe_var (i := i) hN hv hd hcd) (pa_cons hk (pa_cons he pa_nil hs2) hs) hbase hfew hline hs hplain) hsw) fun D σ H h => by
    obtain ⟨ρ, F, hR, h⟩ := h
    obtain ⟨a, xs, ds, q, h1, h2, h3, h4, h5, h6, h⟩ := rdOwn hR h
    refine ⟨_, h1, .inl ⟨rfl, _, SqL.of h4⟩, ?_⟩
    refine OutS.first hR h fun kd kv F1 H1 e1 hkv R1 h => ?_
    refine OutS.first R1 h fun d v F2 H2 e2 hv R2 h => ?_
    obtain ⟨xs', g3, g4, g5, g6⟩ := R2.own_at q h1
    cases q2 : insD ds kd d with
    | none => rw [q2] at h; exact h.elim
    | some es =>
      rw [q2] at h
      obtain ⟨j, rfl, z1, z2, z3, z4⟩ := insD_of g6 (Vd.mono e2.ff kd kv hkv) hv q2
      exact ⟨_, _, _, _, rfl, rfl, g4, z1, z2, z3, h σ _ F2 (Same.refl _) (R2.mutate q h1 h2 g3 (by simp only [List.length_append, List.length_take, List.length_drop, List.length_singleton]; omega) z4)⟩
theorem vs_popAt (i : Nat) {p : Pos} (hk : VE X P k fk) (hN : X.N[i]? = some x := by rfl) (hv : Vis X.env.scope x := by first | exact Or.inl rfl | exact Or.inr (Or.inl rfl) | exact Or.inr (Or.inr rfl)) (hd : (x == ("__debug__" : Str)) = false := by decide) (hcd : (x == ("__classdict__" : Str)) = false := by decide)
    (hbase : attributeBase (.Name x p) "pop" X.env (eval (.Name x p) X.env) = eval (.Name x p) X.env := by rfl)
    (hfew : ((backTo pos (starEach [k] X.env)).all (fun x => !x.1) && (backToKw pos (keywordEach [] X.env)).all (fun x => x.1.isSome)
      && decide ([k].length + ([] : List Keyword).length + (if ([] : List Keyword).isEmpty then 0 else 1) < 30)) = true := by rfl)
    (hline : (apos.endLine == pos.line) = true := by rfl) (hs : starEach [k] X.env = (false, eval k X.env) :: starEach [] X.env := by rfl) (hplain : (backTo pos (starEach [] X.env)).any (·.1) = false := by rfl) (hsw : swapsWith (.Call (.Attribute (.Name x p) "pop" apos) [k] [] pos) none spos.line X.env = pure false := by rfl) :
    VS X P (.Expr (.Call (.Attribute (.Name x p) "pop" apos) [k] [] pos) spos) (sPopAt i fk) :=
  PS_mono (ps_expr (pe_bm PySem.F.plainAttrs_list PySem.F.slot_list_pop PySem.F.type_list_pop mt_popAt (pe_var (i := i) hN hv hd hcd) (pa_cons hk pa_nil hs) hbase hfew hline hs hplain) hsw) fun D σ H h => by
    obtain ⟨ρ, F, hR, h⟩ := h
    obtain ⟨a, xs, ds, q, h1, h2, h3, h4, h5, h6, h⟩ := rdOwn hR h
    refine ⟨_, h1, .inl ⟨rfl, _, SqL.of h4⟩, ?_⟩
    refine OutS.first hR h fun kd kv F1 H1 e1 hkv R1 h => ?_
    obtain ⟨xs', g3, g4, g5, g6⟩ := R1.own_at q h1
    cases q2 : popD ds kd with
    | none => rw [q2] at h; exact h.elim
    | some r =>
      rw [q2] at h
      obtain ⟨j, n, y, rfl, z1, z2, z3, z4, z5, z6⟩ := popD_of g6 hkv q2
      exact ⟨_, _, _, n, y, rfl, rfl, g4, z1, z2, z3, z4, h σ _ F1 (Same.refl _) (R1.mutate q h1 h2 g3 (by have := List.length_eraseIdx_le xs' n; omega) z6)⟩
theorem vs_popAtTo (i j : Nat) {p py : Pos} (nd : X.N.Nodup) (hk : VE X P k fk) (hN : X.N[i]? = some x := by rfl) (hv : Vis X.env.scope x := by first | exact Or.inl rfl | exact Or.inr (Or.inl rfl) | exact Or.inr (Or.inr rfl)) (hd : (x == ("__debug__" : Str)) = false := by decide) (hcd : (x == ("__classdict__" : Str)) = false := by decide) (hj : X.N[j]? = some y := by rfl)
    (hbase : attributeBase (.Name x p) "pop" X.env (eval (.Name x p) X.env) = eval (.Name x p) X.env := by rfl)
    (hfew : ((backTo pos (starEach [k] X.env)).all (fun x => !x.1) && (backToKw pos (keywordEach [] X.env)).all (fun x => x.1.isSome)
      && decide ([k].length + ([] : List Keyword).length + (if ([] : List Keyword).isEmpty then 0 else 1) < 30)) = true := by rfl)
    (hline : (apos.endLine == pos.line) = true := by rfl) (hs : starEach [k] X.env = (false, eval k X.env) :: starEach [] X.env := by rfl) (hplain : (backTo pos (starEach [] X.env)).any (·.1) = false := by rfl) (hy : Loc X.env.scope y := by first | exact Or.inl rfl | exact Or.inr rfl) (hsw : swapsWith (.Call (.Attribute (.Name x p) "pop" apos) [k] [] pos) (some (.Name y py)) spos.line X.env = pure false := by rfl) (hf : X.fn y = true ∨ X.env.scope.names.lookup y = some .local := by first | exact .inl rfl | exact .inr rfl) :
    VS X P (.Assign [.Name y py] (.Call (.Attribute (.Name x p) "pop" apos) [k] [] pos) spos) (sPopAtTo i j fk) :=
  PS_mono (ps_set nd hj hy (pe_bm PySem.F.plainAttrs_list PySem.F.slot_list_pop PySem.F.type_list_pop mt_popAt (pe_var (i := i) hN hv hd hcd) (pa_cons hk pa_nil hs) hbase hfew hline hs hplain) hsw hf) fun D σ H h => by
    obtain ⟨ρ, F, hR, h⟩ := h
    obtain ⟨a, xs, ds, q, h1, h2, h3, h4, h5, h6, h⟩ := rdOwn hR h
    refine ⟨_, h1, .inl ⟨rfl, _, SqL.of h4⟩, ?_⟩
    refine OutS.first hR h fun kd kv F1 H1 e1 hkv R1 h => ?_
    obtain ⟨xs', g3, g4, g5, g6⟩ := R1.own_at q h1
    cases q2 : popD ds kd with
    | none => rw [q2] at h; exact h.elim
    | some r =>
      rw [q2] at h
      obtain ⟨j, n, y, rfl, z1, z2, z3, z4, z5, z6⟩ := popD_of g6 hkv q2
      exact ⟨_, _, _, n, y, rfl, rfl, g4, z1, z2, z3, z4, h _ _ F1 (Same.refl _) ((R1.mutate q h1 h2 g3 (by have := List.length_eraseIdx_le xs' n; omega) z6).setVal z5)⟩
def sAppPopAt (i j : Nat) (fk : Evn → RE PyData) (ρ : Evn) : RS := match ownAt i ρ, ownAt j ρ with
  | some es, some ds => ((fk ρ).at ρ).bind fun k => (oS (popD ds k)).bind fun r => if es.length < sizeLine then .ok (.nx, (ρ.set j (some (.own r.2))).set i (some (.own (es ++ [r.1])))) else .bad
  | _, _ => .bad
theorem vs_appPopAt (i j : Nat) {p py : Pos} (hk : VE X P k fk) (hij : i ≠ j := by decide) (hN : X.N[i]? = some x := by rfl) (hv : Vis X.env.scope x := by first | exact Or.inl rfl | exact Or.inr (Or.inl rfl) | exact Or.inr (Or.inr rfl)) (hd : (x == ("__debug__" : Str)) = false := by decide) (hcd : (x == ("__classdict__" : Str)) = false := by decide) (hN2 : X.N[j]? = some y := by rfl) (hv2 : Vis X.env.scope y := by first | exact Or.inl rfl | exact Or.inr (Or.inl rfl) | exact Or.inr (Or.inr rfl)) (hd2 : (y == ("__debug__" : Str)) = false := by decide) (hcd2 : (y == ("__classdict__" : Str)) = false := by decide)
    (hbase : attributeBase (.Name x p) "append" X.env (eval (.Name x p) X.env) = eval (.Name x p) X.env := by rfl) (hbase2 : attributeBase (.Name y py) "pop" X.env (eval (.Name y py) X.env) = eval (.Name y py) X.env := by rfl)
    (hfew : ((backTo pos (starEach [(Expr.Call (.Attribute (.Name y py) "pop" iapos) [k] [] ipos)] X.env)).all (fun x => !x.1) && (backToKw pos (keywordEach [] X.env)).all (fun x => x.1.isSome)
      && decide ([(Expr.Call (.Attribute (.Name y py) "pop" iapos) [k] [] ipos)].length + ([] : List Keyword).length + (if ([] : List Keyword).isEmpty then 0 else 1) < 30)) = true := by rfl)
    (hfew2 : ((backTo ipos (starEach [k] X.env)).all (fun x => !x.1) && (backToKw ipos (keywordEach [] X.env)).all (fun x => x.1.isSome)
      && decide ([k].length + ([] : List Keyword).length + (if ([] : List Keyword).isEmpty then 0 else 1) < 30)) = true := by rfl)
    (hline : (apos.endLine == pos.line) = true := by rfl) (hs : starEach [(Expr.Call (.Attribute (.Name y py) "pop" iapos) [k] [] ipos)] X.env = (false, eval (.Call (.Attribute (.Name y py) "pop" iapos) [k] [] ipos) X.env) :: starEach [] X.env := by rfl) (hplain : (backTo pos (starEach [] X.env)).any (·.1) = false := by rfl) (hline2 : (iapos.endLine == ipos.line) = true := by rfl) (hs2 : starEach [k] X.env = (false, eval k X.env) :: starEach [] X.env := by rfl) (hplain2 : (backTo ipos (starEach [] X.env)).any (·.1) = false := by rfl) (hsw : swapsWith (.Call (.Attribute (.Name x p) "append" apos) [(Expr.Call (.Attribute (.Name y py) "pop" iapos) [k] [] ipos)] [] pos) none spos.line X.env = pure false := by rfl) :
    VS X P (.Expr (.Call (.Attribute (.Name x p) "append" apos) [(Expr.Call (.Attribute (.Name y py) "pop" iapos) [k] [] ipos)] [] pos) spos) (sAppPopAt i j fk) :=
  PS_mono (ps_expr (pe_bm PySem.F.plainAttrs_list PySem.F.slot_list_append PySem.F.type_list_append mt_append (pe_var (i := i) hN hv hd hcd) (pa_cons (pe_bm PySem.F.plainAttrs_list PySem.F.slot_list_pop PySem.F.type_list_pop mt_popAt (pe_var (i := j) hN2 hv2 hd2 hcd2) (pa_cons hk pa_nil hs2) hbase2 hfew2 hline2 hs2 hplain2) pa_nil hs) hbase hfew hline hs hplain) hsw) fun D σ H h => by
    obtain ⟨ρ, F, hR, h⟩ := h
    obtain ⟨es, ds, qi, qj, h⟩ : ∃ es ds, ownAt i ρ = some es ∧ ownAt j ρ = some ds ∧ OutS X P D F (((fk ρ).at ρ).bind fun k => (oS (popD ds k)).bind fun r => if es.length < sizeLine then .ok (.nx, (ρ.set j (some (.own r.2))).set i (some (.own (es ++ [r.1])))) else .bad) := by
      unfold sAppPopAt at h
      cases qi : ownAt i ρ with
      | none => rw [qi] at h; exact h.elim
      | some es =>
        cases qj : ownAt j ρ with
        | none => rw [qi, qj] at h; exact h.elim
        | some ds => rw [qi, qj] at h; exact ⟨es, ds, rfl, rfl, h⟩
    obtain ⟨a, xs, h1, h2, h3, h4, h5, h6⟩ := hR.own (ownAt_eq qi)
    obtain ⟨b, ys, k1, k2, k3, k4, k5, k6⟩ := hR.own (ownAt_eq qj)
    refine ⟨_, h1, .inl ⟨rfl, _, SqL.of h4⟩, ?_⟩
    refine ⟨_, k1, .inl ⟨rfl, _, SqL.of k4⟩, ?_⟩
    refine OutS.first hR h fun kd kv F1 H1 e1 hkv R1 h => ?_
    obtain ⟨ys', g3, g4, g5, g6⟩ := R1.own_at (ownAt_eq qj) k1
    cases q2 : popD ds kd with
    | none => rw [q2] at h; exact h.elim
    | some r =>
      rw [q2] at h
      obtain ⟨jj, n, y, rfl, z1, z2, z3, z4, z5, z6⟩ := popD_of g6 hkv q2
      refine ⟨_, _, _, n, y, rfl, rfl, g4, z1, z2, z3, z4, ?_⟩
      have R2 := R1.mutate (ownAt_eq qj) k1 k2 g3 (by have := List.length_eraseIdx_le ys' n; omega) z6
      have qi2 : (ρ.set j (some (.own r.2)))[i]? = some (some (.own es)) := by rw [List.getElem?_set_ne (Ne.symm hij)]; exact ownAt_eq qi
      obtain ⟨xs', g3', g4', g5', g6'⟩ := R2.own_at qi2 h1
      by_cases hz : es.length < sizeLine
      · have h : OutS X P D F1 (if es.length < sizeLine then .ok (.nx, (ρ.set j (some (.own r.2))).set i (some (.own (es ++ [r.1])))) else .bad) := h
        rw [if_pos hz] at h
        have hl := g6'.length
        exact ⟨_, _, _, rfl, rfl, g4', by omega, h σ _ F1 (Same.refl _) (R2.mutate qi2 h1 h2 g3' (by rw [List.length_append]; show _ + 1 ≤ _; omega) (g6'.append (.cons z5 .nil)))⟩
      · have h : OutS X P D F1 (if es.length < sizeLine then .ok (.nx, (ρ.set j (some (.own r.2))).set i (some (.own (es ++ [r.1])))) else .bad) := h
        rw [if_neg hz] at h
        exact h.elim
def sAppPop (i j : Nat) (ρ : Evn) : RS := match ownAt i ρ, ownAt j ρ with
  | some es, some ds => (oS ds.getLast?).bind fun d => if es.length < sizeLine then .ok (.nx, (ρ.set j (some (.own ds.dropLast))).set i (some (.own (es ++ [d])))) else .bad
  | _, _ => .bad
theorem vs_appPop (i j : Nat) {p py : Pos} (hij : i ≠ j := by decide) (hN : X.N[i]? = some x := by rfl) (hv : Vis X.env.scope x := by first | exact Or.inl rfl | exact Or.inr (Or.inl rfl) | exact Or.inr (Or.inr rfl)) (hd : (x == ("__debug__" : Str)) = false := by decide) (hcd : (x == ("__classdict__" : Str)) = false := by decide) (hN2 : X.N[j]? = some y := by rfl) (hv2 : Vis X.env.scope y := by first | exact Or.inl rfl | exact Or.inr (Or.inl rfl) | exact Or.inr (Or.inr rfl)) (hd2 : (y == ("__debug__" : Str)) = false := by decide) (hcd2 : (y == ("__classdict__" : Str)) = false := by decide)
    (hbase : attributeBase (.Name x p) "append" X.env (eval (.Name x p) X.env) = eval (.Name x p) X.env := by rfl) (hbase2 : attributeBase (.Name y py) "pop" X.env (eval (.Name y py) X.env) = eval (.Name y py) X.env := by rfl)
    (hfew : ((backTo pos (starEach [(Expr.Call (.Attribute (.Name y py) "pop" iapos) [] [] ipos)] X.env)).all (fun x => !x.1) && (backToKw pos (keywordEach [] X.env)).all (fun x => x.1.isSome)
      && decide ([(Expr.Call (.Attribute (.Name y py) "pop" iapos) [] [] ipos)].length + ([] : List Keyword).length + (if ([] : List Keyword).isEmpty then 0 else 1) < 30)) = true := by rfl)
    
    (hline : (apos.endLine == pos.line) = true := by rfl) (hs : starEach [(Expr.Call (.Attribute (.Name y py) "pop" iapos) [] [] ipos)] X.env = (false, eval (.Call (.Attribute (.Name y py) "pop" iapos) [] [] ipos) X.env) :: starEach [] X.env := by rfl) (hplain : (backTo pos (starEach [] X.env)).any (·.1) = false := by rfl) (hline2 : (iapos.endLine == ipos.line) = true := by rfl) (hsw : swapsWith (.Call (.Attribute (.Name x p) "append" apos) [(Expr.Call (.Attribute (.Name y py) "pop" iapos) [] [] ipos)] [] pos) none spos.line X.env = pure false := by rfl) :
    VS X P (.Expr (.Call (.Attribute (.Name x p) "append" apos) [(Expr.Call (.Attribute (.Name y py) "pop" iapos) [] [] ipos)] [] pos) spos) (sAppPop i j ) :=
  PS_mono (ps_expr (pe_bm PySem.F.plainAttrs_list PySem.F.slot_list_append PySem.F.type_list_append mt_append (pe_var (i := i) hN hv hd hcd) (pa_cons (pe_bm0 PySem.F.plainAttrs_list PySem.F.slot_list_pop PySem.F.type_list_pop mt_pop (pe_var (i := j) hN2 hv2 hd2 hcd2) hbase2 hline2) pa_nil hs) hbase hfew hline hs hplain) hsw) fun D σ H h => by
    obtain ⟨ρ, F, hR, h⟩ := h
    obtain ⟨es, ds, qi, qj, h⟩ : ∃ es ds, ownAt i ρ = some es ∧ ownAt j ρ = some ds ∧ OutS X P D F ((oS ds.getLast?).bind fun d => if es.length < sizeLine then .ok (.nx, (ρ.set j (some (.own ds.dropLast))).set i (some (.own (es ++ [d])))) else .bad) := by
      unfold sAppPop at h
      cases qi : ownAt i ρ with
      | none => rw [qi] at h; exact h.elim
      | some es =>
        cases qj : ownAt j ρ with
        | none => rw [qi, qj] at h; exact h.elim
        | some ds => rw [qi, qj] at h; exact ⟨es, ds, rfl, rfl, h⟩
    obtain ⟨a, xs, h1, h2, h3, h4, h5, h6⟩ := hR.own (ownAt_eq qi)
    obtain ⟨b, ys, k1, k2, k3, k4, k5, k6⟩ := hR.own (ownAt_eq qj)
    refine ⟨_, h1, .inl ⟨rfl, _, SqL.of h4⟩, ?_⟩
    refine ⟨_, k1, .inl ⟨rfl, _, SqL.of k4⟩, ?_⟩
    cases q2 : ds.getLast? with
    | none => rw [q2] at h; exact h.elim
    | some d =>
      rw [q2] at h
      obtain ⟨y, hy, z5⟩ := rdPop (i := j) (ρ := ρ) (H := H) (σ := σ) (a := b) k6 q2
      refine ⟨_, _, y, rfl, rfl, k4, hy, ?_⟩
      have R2 := hR.mutate (ownAt_eq qj) k1 k2 k3 (by rw [List.length_dropLast]; omega) k6.dropLast
      have qi2 : (ρ.set j (some (.own ds.dropLast)))[i]? = some (some (.own es)) := by rw [List.getElem?_set_ne (Ne.symm hij)]; exact ownAt_eq qi
      obtain ⟨xs', g3', g4', g5', g6'⟩ := R2.own_at qi2 h1
      have h : OutS X P D F (if es.length < sizeLine then .ok (.nx, (ρ.set j (some (.own ds.dropLast))).set i (some (.own (es ++ [d])))) else .bad) := h
      by_cases hz : es.length < sizeLine
      · rw [if_pos hz] at h
        have hl := g6'.length
        exact ⟨_, _, _, rfl, rfl, g4', by omega, h σ _ F (Same.refl _) (R2.mutate qi2 h1 h2 g3' (by rw [List.length_append]; show _ + 1 ≤ _; omega) (g6'.append (.cons z5 .nil)))⟩
      · rw [if_neg hz] at h
        exact h.elim
end
end PV
end
section
set_option Elab.async false
set_option linter.all false
set_option maxRecDepth 100000
set_option maxHeartbeats 4000000
set_option autoImplicit false
/-! V4: dicts that a body makes and changes. -/
namespace PV
open PySem PySem.Spec PyProof.Rows L2

abbrev KeyD := Key
def dicAt (i : Nat) (ρ : Evn) : Option (List (Key × PyData)) := match ρ[i]? with
  | some (some (.dic es)) => some es
  | _ => none
theorem dicAt_eq {i : Nat} {ρ : Evn} {es : List (Key × PyData)} (h : dicAt i ρ = some es) : ρ[i]? = some (some (.dic es)) := by
  unfold dicAt at h
  split at h
  · cases h; assumption
  · cases h
def keyD : PyData → Option Key
  | .int i => some (.inl i)
  | .str x => some (.inr x)
  | _ => none
def valD (es : List (Key × PyData)) (k : Key) : Option PyData := (es.find? fun kv => decide (kv.1 = k)).map (·.2)
def putD (es : List (Key × PyData)) (k : Key) (d : PyData) : List (Key × PyData) :=
  if (es.any fun kv => decide (kv.1 = k)) = true then es.map (fun kv => if kv.1 = k then (kv.1, d) else kv) else es ++ [(k, d)]
section
variable {K : PySem.W.Frag} {F : Hp}
theorem EsAll.val (k : Key) : ∀ {kvs : List (Key × V)} {es : List (Key × PyData)}, EsAll K F kvs es → (valD es k = none ∧ valV kvs k = none) ∨ ∃ v d, valD es k = some d ∧ valV kvs k = some v ∧ Vd K F v d
  | _, _, .nil => .inl ⟨rfl, rfl⟩
  | _, _, .cons (k := j) (v := v) (d := d) h t => by
    by_cases e : j = k
    · exact .inr ⟨v, d, by simp [valD, List.find?_cons, e], valV_pos e, h⟩
    · have e1 : ∀ es : List (Key × PyData), valD ((j, d) :: es) k = valD es k := fun es => by simp [valD, List.find?_cons, e]
      rw [e1, valV_neg (p := (j, v)) e]
      exact EsAll.val k t
theorem EsAll.some {k : Key} {kvs : List (Key × V)} {es : List (Key × PyData)} {d : PyData} (h : EsAll K F kvs es) (e : valD es k = some d) : ∃ v, valV kvs k = some v ∧ Vd K F v d := by
  rcases h.val k with ⟨q, _⟩ | ⟨v, d', q1, q2, q3⟩
  · rw [q] at e; cases e
  · rw [q1] at e; cases e; exact ⟨v, q2, q3⟩
theorem EsAll.is {k : Key} {kvs : List (Key × V)} {es : List (Key × PyData)} (h : EsAll K F kvs es) : (valV kvs k).isSome = (valD es k).isSome := by
  rcases h.val k with ⟨q1, q2⟩ | ⟨v, d', q1, q2, _⟩ <;> rw [q1, q2] <;> rfl
theorem EsAll.len : ∀ {kvs : List (Key × V)} {es : List (Key × PyData)}, EsAll K F kvs es → kvs.length = es.length
  | _, _, .nil => rfl
  | _, _, .cons _ t => by rw [List.length_cons, List.length_cons, EsAll.len t]
theorem EsAll.any (k : Key) : ∀ {kvs : List (Key × V)} {es : List (Key × PyData)}, EsAll K F kvs es → (kvs.any fun kv => decide (kv.1 = k)) = es.any fun kv => decide (kv.1 = k)
  | _, _, .nil => rfl
  | _, _, .cons _ t => by rw [List.any_cons, List.any_cons, EsAll.any k t]
theorem EsAll.rep {k : Key} {v : V} {d : PyData} (hv : Vd K F v d) : ∀ {kvs : List (Key × V)} {es : List (Key × PyData)}, EsAll K F kvs es → EsAll K F (kvs.map fun kv => if kv.1 = k then (kv.1, v) else kv) (es.map fun kv => if kv.1 = k then (kv.1, d) else kv)
  | _, _, .nil => .nil
  | _, _, .cons (k := j) h t => by
    rw [List.map_cons, List.map_cons]
    by_cases e : j = k
    · rw [if_pos e, if_pos e]; exact .cons hv (EsAll.rep hv t)
    · rw [if_neg e, if_neg e]; exact .cons h (EsAll.rep hv t)
theorem EsAll.snoc {k : Key} {v : V} {d : PyData} (hv : Vd K F v d) : ∀ {kvs : List (Key × V)} {es : List (Key × PyData)}, EsAll K F kvs es → EsAll K F (kvs ++ [(k, v)]) (es ++ [(k, d)])
  | _, _, .nil => .cons hv .nil
  | _, _, .cons h t => .cons h (EsAll.snoc hv t)
theorem EsAll.put {k : Key} {v : V} {d : PyData} {kvs : List (Key × V)} {es : List (Key × PyData)} (h : EsAll K F kvs es) (hv : Vd K F v d) : EsAll K F (putK kvs k v) (putD es k d) := by
  unfold putK putD
  rw [h.any k]
  by_cases e : (es.any fun kv => decide (kv.1 = k)) = true
  · rw [if_pos e, if_pos e]; exact h.rep hv
  · rw [if_neg e, if_neg e]; exact h.snoc hv
theorem keyV {v : V} {d : PyData} {k : Key} (h : Vd K F v d) (e : keyD d = some k) : v = kV k := by
  cases h <;> cases e <;> rfl
theorem Rep.dic {P : Pm} {ρ : Evn} {H : Hp} {σ : Sg} {i : Nat} {es : List (Key × PyData)} (r : Rep K P ρ F σ H) (q : ρ[i]? = some (some (.dic es))) :
    ∃ a kvs, σ[i]? = some (some (.ref a)) ∧ P.B a = none ∧ F a = none ∧ H a = some (.dK kvs) ∧ kvs.length ≤ sizeLine ∧ EsAll K F kvs es := by
  obtain ⟨v, h1, a, xs, e, h⟩ := r.slot i _ q
  subst e
  exact ⟨a, xs, h1, h⟩
theorem Rep.dic_at {P : Pm} {ρ : Evn} {H : Hp} {σ : Sg} {i : Nat} {es : List (Key × PyData)} {a : Addr} (r : Rep K P ρ F σ H) (q : ρ[i]? = some (some (.dic es))) (hσ : σ[i]? = some (some (.ref a))) :
    ∃ kvs, P.B a = none ∧ F a = none ∧ H a = some (.dK kvs) ∧ kvs.length ≤ sizeLine ∧ EsAll K F kvs es := by
  obtain ⟨b, kvs, h1, h⟩ := r.dic q
  rw [hσ] at h1
  cases h1
  exact ⟨kvs, h⟩
end
theorem vdB {K : PySem.W.Frag} {F : Hp} {b c : Bool} (h : b = c) : Vd K F (.bl b) (.bool c) := by subst h; exact .bl _
/-- x = {} -/
def sDNew (i : Nat) (ρ : Evn) : RS := .ok (.nx, ρ.set i (some (.dic [])))
/-- x[k] = e -/
def sDPut (i : Nat) (fk fe : Evn → RE PyData) (ρ : Evn) : RS := match dicAt i ρ with
  | some es => ((fe ρ).at ρ).bind fun d => ((fk ρ).at ρ).bind fun k => (oS (keyD k)).bind fun q => if es.length < sizeLine then .ok (.nx, ρ.set i (some (.dic (putD es q d)))) else .bad
  | none => .bad
/-- k in x, k not in x -/
def mDIn (pos : Bool) (i : Nat) (fk : Evn → RE PyData) (ρ : Evn) : RE PyData := match dicAt i ρ with
  | some es => (fk ρ).bind fun k => ofO ((keyD k).map fun q => .bool ((valD es q).isSome == pos))
  | none => .bad
/-- x[k] -/
def mDGet (i : Nat) (fk : Evn → RE PyData) (ρ : Evn) : RE PyData := match dicAt i ρ with
  | some es => (fk ρ).bind fun k => ofO ((keyD k).bind fun q => valD es q)
  | none => .bad
/-- x.get(k, e) -/
def mDGet2 (i : Nat) (fk fe : Evn → RE PyData) (ρ : Evn) : RE PyData := match dicAt i ρ with
  | some es => (fk ρ).bind fun k => (fe ρ).bind fun d => ofO ((keyD k).map fun q => (valD es q).getD d)
  | none => .bad
section
variable {X : Cx} {P : Pm} {pos apos spos tpos : Pos} {e k : Expr} {fe fk : Evn → RE PyData} {x : Str}
theorem vs_dNew (i : Nat) {pos' p : Pos} (hN : X.N.Nodup) (hi : X.N[i]? = some x := by rfl) (hx : Loc X.env.scope x := by first | exact Or.inl rfl | exact Or.inr rfl) (hs : swapsWith (.Dict [] [] p) (some (.Name x pos')) pos.line X.env = pure false := by rfl)
    (hf : X.fn x = true ∨ X.env.scope.names.lookup x = some .local := by first | exact .inl rfl | exact .inr rfl) : VS X P (.Assign [.Name x pos'] (.Dict [] [] p) pos) (sDNew i) := PS_mono (ps_set hN hi hx pe_dnewK hs hf) fun D σ H h => by
  obtain ⟨ρ, F, hR, h⟩ := h
  intro p n
  have ex : Ext F H F (upd H p (.dK [])) := Ext.beside hR.fh n
  exact h _ _ F (Same.refl _) ((hR.step ex).setMine ⟨p, [], rfl, hR.ext.hh.free n, hR.fh.free n, upd_same, Nat.zero_le _, .nil⟩ fun j es m _ q => hR.isNew n j es m q)
theorem rdDic {i : Nat} {σ : Sg} {H : Hp} {g : List (Key × PyData) → RE PyData} {Q : VK} {ρ : Evn} {F : Hp} (hR : Rep X.K P ρ F σ H) (h : Out X P σ Q F H (match dicAt i ρ with | some es => g es | none => .bad)) :
    ∃ es a, ρ[i]? = some (some (.dic es)) ∧ σ[i]? = some (some (.ref a)) ∧ Out X P σ Q F H (g es) := by
  cases q : dicAt i ρ with
  | none => rw [q] at h; exact h.elim
  | some es =>
    rw [q] at h
    obtain ⟨a, _, h1, _⟩ := hR.dic (dicAt_eq q)
    exact ⟨es, a, dicAt_eq q, h1, h⟩
theorem vs_dPut {j : Nat} (hr : Room j X.A) (i : Nat) {p : Pos} (hk : VE X P k fk) (he : VE X P e fe) (hN : X.N[i]? = some x := by rfl) (hv : Vis X.env.scope x := by first | exact Or.inl rfl | exact Or.inr (Or.inl rfl) | exact Or.inr (Or.inr rfl)) (hd : (x == ("__debug__" : Str)) = false := by decide) (hcd : (x == ("__classdict__" : Str)) = false := by decide)
    (hs : swapsWith e (some (.Subscript (.Name x p) k tpos)) spos.line X.env = pure false := by rfl) :
    VS X P (.Assign [.Subscript (.Name x p) k tpos] e spos) (sDPut i fk fe) :=
  PS_mono (ps_dput (by have := hr.units; omega) (pe_var (i := i) hN hv hd hcd) hk he hs) fun D σ H h => by
    obtain ⟨ρ, F, hR, h⟩ := h
    unfold sDPut at h
    cases q : dicAt i ρ with
    | none => rw [q] at h; exact h.elim
    | some es =>
      rw [q] at h
      have q := dicAt_eq q
      obtain ⟨a, _, h1, _⟩ := hR.dic q
      refine OutS.first hR h fun d v F1 H1 e1 hv R1 h => ?_
      refine ⟨_, h1, ?_⟩
      refine OutS.first R1 h fun kd kv F2 H2 e2 hkv R2 h => ?_
      obtain ⟨kvs, hb, hf, hh, hz, hE⟩ := R2.dic_at q h1
      cases q2 : keyD kd with
      | none => rw [q2] at h; exact h.elim
      | some kk =>
        rw [q2] at h
        have h : OutS X P D F2 (if es.length < sizeLine then .ok (.nx, ρ.set i (some (.dic (putD es kk d)))) else .bad) := h
        by_cases hl : es.length < sizeLine
        · rw [if_pos hl] at h
          have hl' : kvs.length < sizeLine := by rw [hE.len]; exact hl
          obtain rfl := keyV hkv q2
          exact ⟨a, _, rfl, DPut.k hh hl', h σ _ F2 (Same.refl _) (R2.mutateC rfl q h1 hb hf ⟨a, _, rfl, hb, hf, upd_same, Nat.le_trans (length_putK kvs kk v) hl', hE.put (Vd.mono e2.ff d v hv)⟩)⟩
        · rw [if_neg hl] at h; exact h.elim
theorem rdDIn {i : Nat} {σ : Sg} {H : Hp} {Q : VK} (h : tV X P (mDIn true i fk) σ H Q) : tDIn (tV X P fk) (tVar i) σ H Q := by
  obtain ⟨ρ, F, hR, h⟩ := h
  obtain ⟨es, a, q, h1, h⟩ := rdDic hR h
  refine Out.first hR h fun kd kv F1 H1 e1 hkv R1 h9 => ?_
  obtain ⟨r, hr, hq⟩ := h9.ofO
  obtain ⟨kvs, hb, hf, hh, hz, hE⟩ := R1.dic_at q h1
  cases q2 : keyD kd with
  | none => rw [q2] at hr; cases hr
  | some kk =>
    rw [q2] at hr
    cases hr
    obtain rfl := keyV hkv q2
    exact ⟨_, h1, a, _, rfl, DGet.k hh, by rw [hE.is]; exact hq (.bl (valD es kk).isSome) H1 F1 (Ext.refl R1.fh) (vdB (by cases (valD es kk).isSome <;> rfl))⟩
theorem rdDNot {i : Nat} {σ : Sg} {H : Hp} {Q : VK} (h : tV X P (mDIn false i fk) σ H Q) : tDNotIn (tV X P fk) (tVar i) σ H Q := by
  obtain ⟨ρ, F, hR, h⟩ := h
  obtain ⟨es, a, q, h1, h⟩ := rdDic hR h
  refine Out.first hR h fun kd kv F1 H1 e1 hkv R1 h9 => ?_
  obtain ⟨r, hr, hq⟩ := h9.ofO
  obtain ⟨kvs, hb, hf, hh, hz, hE⟩ := R1.dic_at q h1
  cases q2 : keyD kd with
  | none => rw [q2] at hr; cases hr
  | some kk =>
    rw [q2] at hr
    cases hr
    obtain rfl := keyV hkv q2
    exact ⟨_, h1, a, _, rfl, DGet.k hh, by rw [hE.is]; exact hq (.bl (!(valD es kk).isSome)) H1 F1 (Ext.refl R1.fh) (vdB (by cases (valD es kk).isSome <;> rfl))⟩
theorem ve_dIn {j : Nat} (hr : Room j X.A) (i : Nat) {p : Pos} (hk : VE X P k fk) (hN : X.N[i]? = some x := by rfl) (hv : Vis X.env.scope x := by first | exact Or.inl rfl | exact Or.inr (Or.inl rfl) | exact Or.inr (Or.inr rfl)) (hd : (x == ("__debug__" : Str)) = false := by decide) (hcd : (x == ("__classdict__" : Str)) = false := by decide) :
    VE X P (.Compare k [.In] [.Name x p] pos) (mDIn true i fk) := PE_mono (pe_cmp (pc_din (by have := hr.units; omega) hk (pe_var (i := i) hN hv hd hcd)) (by rfl)) fun σ H Q h => rdDIn h
theorem ve_dNot {j : Nat} (hr : Room j X.A) (i : Nat) {p : Pos} (hk : VE X P k fk) (hN : X.N[i]? = some x := by rfl) (hv : Vis X.env.scope x := by first | exact Or.inl rfl | exact Or.inr (Or.inl rfl) | exact Or.inr (Or.inr rfl)) (hd : (x == ("__debug__" : Str)) = false := by decide) (hcd : (x == ("__classdict__" : Str)) = false := by decide) :
    VE X P (.Compare k [.NotIn] [.Name x p] pos) (mDIn false i fk) := PE_mono (pe_cmp (pc_dnotin (by have := hr.units; omega) hk (pe_var (i := i) hN hv hd hcd)) (by rfl)) fun σ H Q h => rdDNot h
theorem vt_dIn {j : Nat} (hr : Room j X.A) (i : Nat) {p : Pos} (hk : VE X P k fk) (hN : X.N[i]? = some x := by rfl) (hv : Vis X.env.scope x := by first | exact Or.inl rfl | exact Or.inr (Or.inl rfl) | exact Or.inr (Or.inr rfl)) (hd : (x == ("__debug__" : Str)) = false := by decide) (hcd : (x == ("__classdict__" : Str)) = false := by decide) :
    VT X P (.Compare k [.In] [.Name x p] pos) (mB (mDIn true i fk)) := PT_mono (pt_cmp (pc_din (by have := hr.units; omega) hk (pe_var (i := i) hN hv hd hcd)) (by rfl)) fun σ H Q h => rdB (t := tDIn (tV X P fk) (tVar i)) (fun Q => rdDIn) h
theorem vt_dNot {j : Nat} (hr : Room j X.A) (i : Nat) {p : Pos} (hk : VE X P k fk) (hN : X.N[i]? = some x := by rfl) (hv : Vis X.env.scope x := by first | exact Or.inl rfl | exact Or.inr (Or.inl rfl) | exact Or.inr (Or.inr rfl)) (hd : (x == ("__debug__" : Str)) = false := by decide) (hcd : (x == ("__classdict__" : Str)) = false := by decide) :
    VT X P (.Compare k [.NotIn] [.Name x p] pos) (mB (mDIn false i fk)) := PT_mono (pt_cmp (pc_dnotin (by have := hr.units; omega) hk (pe_var (i := i) hN hv hd hcd)) (by rfl)) fun σ H Q h => rdB (t := tDNotIn (tV X P fk) (tVar i)) (fun Q => rdDNot) h
theorem ve_dGet {j : Nat} (hr : Room j X.A) (i : Nat) {p : Pos} (hk : VE X P k fk) (hN : X.N[i]? = some x := by rfl) (hv : Vis X.env.scope x := by first | exact Or.inl rfl | exact Or.inr (Or.inl rfl) | exact Or.inr (Or.inr rfl)) (hs : NoSl k := by first | exact (fun _ _ => rfl) | (intro _ _; rfl)) (hd : (x == ("__debug__" : Str)) = false := by decide) (hcd : (x == ("__classdict__" : Str)) = false := by decide) :
    VE X P (.Subscript (.Name x p) k pos) (mDGet i fk) := PE_mono (pe_dget (by have := hr.units; omega) (pe_var (i := i) hN hv hd hcd) hk hs) fun σ H Q h => by
  obtain ⟨ρ, F, hR, h⟩ := h
  obtain ⟨es, a, q, h1, h⟩ := rdDic hR h
  refine ⟨_, h1, ?_⟩
  refine Out.first hR h fun kd kv F1 H1 e1 hkv R1 h9 => ?_
  obtain ⟨r, hr, hq⟩ := h9.ofO
  obtain ⟨kvs, hb, hf, hh, hz, hE⟩ := R1.dic_at q h1
  cases q2 : keyD kd with
  | none => rw [q2] at hr; cases hr
  | some kk =>
    rw [q2] at hr
    obtain ⟨v, w1, w2⟩ := hE.some (k := kk) hr
    obtain rfl := keyV hkv q2
    exact ⟨a, v, rfl, by rw [← w1]; exact DGet.k hh, hq v H1 F1 (Ext.refl R1.fh) w2⟩
theorem ve_dGet2 {j : Nat} (hr : Room j X.A) (i : Nat) {p : Pos} (hk : VE X P k fk) (he : VE X P e fe) (m : M2 X (.Name x p) "get" apos k e pos := by exact ⟨rfl, rfl, rfl, rfl⟩) (hN : X.N[i]? = some x := by rfl) (hv : Vis X.env.scope x := by first | exact Or.inl rfl | exact Or.inr (Or.inl rfl) | exact Or.inr (Or.inr rfl)) (hd : (x == ("__debug__" : Str)) = false := by decide) (hcd : (x == ("__classdict__" : Str)) = false := by decide) :
    VE X P (.Call (.Attribute (.Name x p) "get" apos) [k, e] [] pos) (mDGet2 i fk fe) := PE_mono (pe_dget2 (by have := hr.units; omega) (pe_var (i := i) hN hv hd hcd) hk he m) fun σ H Q h => by
  obtain ⟨ρ, F, hR, h⟩ := h
  obtain ⟨es, a, q, h1, h⟩ := rdDic hR h
  obtain ⟨kvs0, hb0, hf0, hh0, _⟩ := hR.dic_at q h1
  refine ⟨_, h1, a, rfl, .inl ⟨kvs0, .inl hh0⟩, ?_⟩
  refine Out.first hR h fun kd kv F1 H1 e1 hkv R1 h9 => ?_
  refine Out.first R1 h9 fun d v F2 H2 e2 hv R2 h9 => ?_
  obtain ⟨r, hr, hq⟩ := h9.ofO
  obtain ⟨kvs, hb, hf, hh, hz, hE⟩ := R2.dic_at q h1
  cases q2 : keyD kd with
  | none => rw [q2] at hr; cases hr
  | some kk =>
    rw [q2] at hr
    cases hr
    obtain rfl := keyV hkv q2
    refine ⟨valV kvs kk, DGet.k hh, ?_⟩
    rcases hE.val kk with ⟨q3, q4⟩ | ⟨w, d', q3, q4, q5⟩
    · rw [q4]; exact hq v H2 F2 (Ext.refl R2.fh) (by show Vd X.K F2 v ((valD es kk).getD d); rw [q3]; exact hv)
    · rw [q4]; exact hq w H2 F2 (Ext.refl R2.fh) (by show Vd X.K F2 w ((valD es kk).getD d); rw [q3]; exact q5)
end
end PV
end
section
set_option Elab.async false
set_option linter.all false
set_option maxRecDepth 100000
set_option maxHeartbeats 4000000
set_option autoImplicit false
/-! VJ: defs that raise, try, data of any form. -/

namespace PV
open PySem
/-- what a def gives or raises -/
inductive Ex (τ : Type) where
  | ok (v : τ)
  | exc (c : Str)
def Ex.re {τ : Type} (e : τ → PyData) : Ex τ → RE PyData
  | .ok v => .ok (e v)
  | .exc c => .exc c ()
def Ex.el {τ V : Type} (r : Ex τ) (g : τ → V) (k : Str → V) : V := match r with
  | .ok v => g v
  | .exc c => k c
def Ex.isOk {τ : Type} : Ex τ → Bool
  | .ok _ => true
  | .exc _ => false
def Ex.get {τ : Type} (r : Ex τ) (d : τ) : τ := match r with
  | .ok v => v
  | .exc _ => d
section
variable {τ : Type} {e : τ → PyData} {m : RE PyData} {r : Ex τ}
theorem re_ok {v : τ} (h : m = r.re e) (q : r = .ok v) : m = .ok (e v) := by rw [h, q]; rfl
theorem re_exc {c : Str} (h : m = r.re e) (q : r = .exc c) : m = .exc c () := by rw [h, q]; rfl
theorem re_get {d : τ} (h : m = r.re e) (q : r.isOk = true) : m = .ok (e (r.get d)) := by
  cases r with
  | ok v => exact h
  | exc c => cases q
end
def OutX {τ : Type} (X0 : Pt) (e : τ → PyData) (r : Ex τ) (o : RS) : Prop := match r with
  | .ok v => ∃ ρ', o = .ok (.rt (e v), ρ')
  | .exc c => ∃ ρ', o = .exc c ρ' ∧ Sh X0 ρ'
def QFx {τ : Type} (e : τ → PyData) (r : Ex τ) (o : RS) : Prop := bodyOut o = r.re e
def QLx {σ τ : Type} (E : σ → Pt) (X0 : Pt) (e : τ → PyData) (r : Stp σ (Ex τ)) (o : RS) : Prop := match r with
  | .nx s => ∃ fl ρ', o = .ok (fl, ρ') ∧ (fl = .nx ∨ fl = .ct) ∧ Sh (E s) ρ'
  | .bk s => ∃ ρ', o = .ok (.bk, ρ') ∧ Sh (E s) ρ'
  | .rt v => OutX X0 e v o
def QRx {σ τ : Type} (E : σ → Pt) (X0 : Pt) (e : τ → PyData) (r : Lp σ (Ex τ)) (o : RS) : Prop := match r with
  | .nx s => ∃ ρ', o = .ok (.nx, ρ') ∧ Sh (E s) ρ'
  | .rt v => OutX X0 e v o
/-- an expression, a statement that raises -/
def TX {α : Type} (p : Pt) (f : Evn → RE α) (c : Str) : Prop := ∀ ρ, Sh p ρ → f ρ = .exc c ()
def XS (p : Pt) (m : Evn → RS) (c : Str) : Prop := ∀ ρ, Sh p ρ → m ρ = .exc c ρ
section
variable {p : Pt} {σ τ γ α V : Type} {Q : RS → Prop} {QQ : V → RS → Prop} {m a b c : Evn → RS} {f fa fb : Evn → RE PyData} {d x y : PyData} {ds : List PyData} {E : σ → Pt} {X0 : Pt} {eτ : τ → PyData} {e : α → PyData} {i : Nat} {xs : List α} {cl : Str}
theorem kFx {v : Ex τ} {o : RS} (h : OutX X0 eτ v o) : QFx eτ v o := by
  cases v with
  | ok v => obtain ⟨ρ', rfl⟩ := h; rfl
  | exc c => obtain ⟨ρ', rfl, _⟩ := h; rfl
theorem kLx {v : Ex τ} {o : RS} (h : OutX X0 eτ v o) : QLx E X0 eτ (.rt v) o := h
theorem kRx {v : Ex τ} {o : RS} (h : OutX X0 eτ v o) : QRx E X0 eτ (.rt v) o := h
theorem at_x {α : Type} (c : Str) (ρ : Evn) : R.at (.exc c () : RE α) ρ = .exc c ρ := rfl
theorem bind_x {ε α β : Type} (c : Str) (e : ε) (f : α → R ε β) : (R.exc c e : R ε α).bind f = .exc c e := rfl
theorem ts_retx {v : τ} (h : TM p f (eτ v)) (hq : ∀ o, OutX X0 eτ (.ok v) o → Q o) : TS p (sThen (sRet f) c) Q := fun ρ hs => by
  rw [then_ret h c hs]; exact hq _ ⟨ρ, rfl⟩
theorem ts_retNx {v : τ} (h : eτ v = .none) (hq : ∀ o, OutX X0 eτ (.ok v) o → Q o) : TS p (sThen (fun ρ => .ok (.rt .none, ρ)) c) Q := fun ρ hs => by
  refine hq _ ⟨ρ, ?_⟩
  rw [h]; rfl
theorem ts_finFx {v : τ} (h : eτ v = .none) : TS p sNx (QFx eτ (.ok v)) := fun ρ hs => by
  show bodyOut (.ok (.nx, ρ)) = .ok (eτ v)
  rw [h]; rfl
theorem ts_raisex {v : Unit} (hb : Sb p X0) (hq : ∀ o, OutX X0 eτ (.exc cl) o → Q o) : TS p (sThen (fun ρ => .exc cl ρ) c) Q := fun ρ hs => hq _ ⟨ρ, rfl, hb.sh hs⟩
theorem ts_bkx {s : σ} (h : Sb p (E s)) : TS p (sThen (fun ρ => .ok (.bk, ρ)) c) (QLx E X0 eτ (.bk s)) := fun ρ hs => ⟨_, rfl, h.sh hs⟩
theorem ts_ctx {s : σ} (h : Sb p (E s)) : TS p (sThen (fun ρ => .ok (.ct, ρ)) c) (QLx E X0 eτ (.nx s)) := fun ρ hs => ⟨_, _, rfl, .inr rfl, h.sh hs⟩
theorem ts_finLx {s : σ} (h : Sb p (E s)) : TS p sNx (QLx E X0 eτ (.nx s)) := fun ρ hs => ⟨_, _, rfl, .inl rfl, h.sh hs⟩
theorem ts_finRx {s : σ} (h : Sb p (E s)) : TS p sNx (QRx E X0 eτ (.nx s)) := fun ρ hs => ⟨_, rfl, h.sh hs⟩
/-- a statement in which a def is asked that may raise -/
theorem ts_ex {r : Ex γ} {G : γ → V} {Kx : Str → V} (hok : ∀ v, r = .ok v → TS p (sThen m c) (QQ (G v))) (hx : ∀ cl, r = .exc cl → XS p m cl) (hb : Sb p X0) (hq : ∀ cl o, OutX X0 eτ (.exc cl) o → QQ (Kx cl) o) : TS p (sThen m c) (QQ (r.el G Kx)) := fun ρ hs => by
  cases r with
  | ok v => exact hok v rfl ρ hs
  | exc cl =>
    have : sThen m c ρ = .exc cl ρ := by rw [e_sThen, hx cl rfl ρ hs]; rfl
    rw [this]
    exact hq cl _ ⟨ρ, rfl, hb.sh hs⟩
theorem xs_drop (h : TX p f cl) : XS p (sDrop f) cl := fun ρ hs => by unfold sDrop; rw [h ρ hs, at_x, bind_x]
theorem xs_set (h : TX p f cl) : XS p (sSet i f) cl := fun ρ hs => by unfold sSet; rw [h ρ hs, at_x, bind_x]
theorem xs_ret (h : TX p f cl) : XS p (sRet f) cl := fun ρ hs => by unfold sRet; rw [h ρ hs, at_x, bind_x]
theorem xs_asg {g : PyData → Evn → Option Evn} (h : TX p f cl) : XS p (sAsg f g) cl := fun ρ hs => by unfold sAsg; rw [h ρ hs, at_x, bind_x]
theorem xs_if {t : Evn → RE Bool} (h : TX p t cl) : XS p (sIf t a b) cl := fun ρ hs => by unfold sIf; rw [h ρ hs, at_x, bind_x]
theorem tx_call {k : List PyData → RE PyData} {g : Evn → RE (List PyData)} (hk : k ds = .exc cl ()) (h : TM p g ds) : TX p (mSeq k g) cl := fun ρ hs => by rw [e_mSeq, h ρ hs, bind_ok, hk]
theorem tx_call0 {k : List PyData → RE PyData} (hk : k [] = .exc cl ()) : TX p (fun _ => k []) cl := fun ρ hs => hk
theorem tx_2l {o : PyData → PyData → Option PyData} (h : TX p fa cl) : TX p (m2 o fa fb) cl := fun ρ hs => by rw [e_m2, h ρ hs, bind_x]
theorem tx_2r {o : PyData → PyData → Option PyData} (ha : TM p fa x) (h : TX p fb cl) : TX p (m2 o fa fb) cl := fun ρ hs => by rw [e_m2, ha ρ hs, bind_ok, h ρ hs, bind_x]
theorem tx_1 {o : PyData → Option PyData} (h : TX p fa cl) : TX p (m1 o fa) cl := fun ρ hs => by rw [e_m1, h ρ hs, bind_x]
theorem tx_consl {g : Evn → RE (List PyData)} (h : TX p f cl) : TX p (mCons f g) cl := fun ρ hs => by rw [e_mCons, h ρ hs, bind_x]
theorem tx_consr {g : Evn → RE (List PyData)} (ha : TM p f x) (h : TX p g cl) : TX p (mCons f g) cl := fun ρ hs => by rw [e_mCons, ha ρ hs, bind_ok, h ρ hs, bind_x]
theorem tx_seq {k : List PyData → RE PyData} {g : Evn → RE (List PyData)} (h : TX p g cl) : TX p (mSeq k g) cl := fun ρ hs => by rw [e_mSeq, h ρ hs, bind_x]
theorem tx_bi {k : List PyData → Option PyData} {g : Evn → RE (List PyData)} (h : TX p g cl) : TX p (mCall k g) cl := fun ρ hs => by rw [e_mCall, h ρ hs, bind_x]
theorem tx_B (h : TX p f cl) : TX p (mB f) cl := fun ρ hs => by rw [e_mB, h ρ hs, bind_x]
theorem tx_T (h : TX p f cl) : TX p (mT f) cl := fun ρ hs => by rw [e_mT, h ρ hs, bind_x]
theorem tx_not {t : Evn → RE Bool} (h : TX p t cl) : TX p (mNotB t) cl := fun ρ hs => by rw [e_mNotB, h ρ hs, bind_x]
theorem tx_and {t t' : Evn → RE Bool} (h : TX p t cl) : TX p (mAndB t t') cl := fun ρ hs => by rw [e_mAndB, h ρ hs, bind_x]
theorem tx_or {t t' : Evn → RE Bool} (h : TX p t cl) : TX p (mOrB t t') cl := fun ρ hs => by rw [e_mOrB, h ρ hs, bind_x]
end
/-! loops -/
section
variable {p : Pt} {σ τ α V : Type} {Q : RS → Prop} {QQ : V → RS → Prop} {body c : Evn → RS} {w : Evn → RE (List PyData)} {g : PyData → Evn → Option Evn} {E : σ → Pt} {X0 : Pt} {eτ : τ → PyData} {e : α → PyData} {xs : List α} {s0 : σ} {q : σ → α → Pt} {K : Ex τ → V} {G : σ → V}
theorem thru {v : Ex τ} {o : RS} (h : OutX X0 eτ v o) (k : Evn → RS) : (o.bind fun p => match p.1 with | .nx => k p.2 | _ => .ok p) = o := by
  cases v with
  | ok v => obtain ⟨ρ', rfl⟩ := h; rfl
  | exc c => obtain ⟨ρ', rfl, _⟩ := h; rfl
theorem for_Rx {S : σ → α → Prop} {F : σ → α → Stp σ (Ex τ)} (hg : ∀ s x, TG (E s) g (e x) (q s x)) (hb : ∀ s x, x ∈ xs → S s x → TS (q s x) body (QLx E X0 eτ (F s x))) : ∀ (ys : List α) (s : σ) (ρ : Evn), (∀ y ∈ ys, y ∈ xs) → LpR S F ys s → Sh (E s) ρ → QRx E X0 eτ (loopR F ys s) (forM g body (ys.map e) ρ)
  | [], s, ρ, _, _, h => ⟨ρ, rfl, h⟩
  | y :: r, s, ρ, hm, hl, h => by
    obtain ⟨ρ1, h1, h2⟩ := hg s y ρ h
    have h3 := hb s y (hm y (List.mem_cons_self ..)) hl.hd ρ1 h2
    rw [loopR_cons, List.map_cons, forM_cons, h1, oS_some, bind_ok]
    cases k : F s y with
    | nx s' =>
      rw [k] at h3
      obtain ⟨fl, ρ2, h4, h5, h6⟩ := h3
      have ih := for_Rx hg hb r s' ρ2 (fun z hz => hm z (List.mem_cons_of_mem _ hz)) (hl.tl k) h6
      rw [h4, bind_ok]
      rcases h5 with rfl | rfl <;> exact ih
    | bk s' =>
      rw [k] at h3
      obtain ⟨ρ2, h4, h5⟩ := h3
      rw [h4, bind_ok]
      exact ⟨ρ2, rfl, h5⟩
    | rt v =>
      rw [k] at h3
      have h3 : OutX X0 eτ v (body ρ1) := h3
      show OutX X0 eτ v _
      cases v with
      | ok v => obtain ⟨ρ', h4⟩ := h3; rw [h4, bind_ok]; exact ⟨ρ', rfl⟩
      | exc cl => obtain ⟨ρ', h4, h5⟩ := h3; rw [h4, bind_x]; exact ⟨ρ', rfl, h5⟩
theorem endRx {r : Lp σ (Ex τ)} {o : RS} (h : QRx E X0 eτ r o) (hK : ∀ v o, OutX X0 eτ v o → QQ (K v) o) (hr : ∀ s, r = .nx s → TS (E s) c (QQ (G s))) : QQ (r.el K G) (o.bind fun p => match p.1 with | .nx => c p.2 | _ => .ok p) := by
  cases r with
  | nx s =>
    obtain ⟨ρ', rfl, h3⟩ := h
    exact hr s rfl ρ' h3
  | rt v =>
    have h : OutX X0 eτ v o := h
    rw [thru h]
    exact hK v _ h
theorem ts_forRx {S : σ → α → Prop} {F : σ → α → Stp σ (Ex τ)} (hK : ∀ v o, OutX X0 eτ v o → QQ (K v) o) (h0 : Sb p (E s0)) (hw : TM p w (xs.map e)) (hl : LpR S F xs s0) (hg : ∀ s x, TG (E s) g (e x) (q s x)) (hb : ∀ s x, x ∈ xs → S s x → TS (q s x) body (QLx E X0 eτ (F s x))) (hr : ∀ s, loopR F xs s0 = .nx s → TS (E s) c (QQ (G s))) : TS p (sThen (sFor w g body) c) (QQ ((loopR F xs s0).el K G)) := fun ρ hs => by
  have h := for_Rx hg hb xs s0 ρ (fun _ h => h) hl (h0.sh hs)
  have k : sThen (sFor w g body) c ρ = (forM g body (xs.map e) ρ).bind fun p => match p.1 with | .nx => c p.2 | _ => .ok p := by
    (rw [e_sThen, e_sFor, hw ρ hs, at_ok, bind_ok]) <;> rfl
  rw [k]
  exact endRx h hK hr
theorem ts_joinRx {A C : Evn → RS} {t : Evn → RE Bool} {k : Bool} {u v : Lp σ (Ex τ)} (hK : ∀ v o, OutX X0 eτ v o → QQ (K v) o) (hc : TM p t k) (ha : k = true → TS p A (QRx E X0 eτ u)) (hb : k = false → TS p C (QRx E X0 eτ v)) (hr : ∀ s, (if k = true then u else v) = .nx s → TS (E s) c (QQ (G s))) : TS p (sThen (sIf t A C) c) (QQ ((if k = true then u else v).el K G)) := fun ρ hs => by
  rw [then_if hc hs]
  cases k with
  | true =>
    rw [if_pos rfl] at hr
    rw [if_pos rfl, if_pos rfl]
    have := endRx (c := c) (ha rfl ρ hs) hK hr
    rw [e_sThen]; exact this
  | false =>
    rw [if_neg (by decide)] at hr
    rw [if_neg (by decide), if_neg (by decide)]
    have := endRx (c := c) (hb rfl ρ hs) hK hr
    rw [e_sThen]; exact this
theorem wh_Rx {tt : Evn → RE Bool} {St Sbo : σ → Prop} {t : σ → Bool} {F : σ → Stp σ (Ex τ)} (ht : ∀ s, St s → TM (E s) tt (t s)) (hb : ∀ s, t s = true → Sbo s → TS (E s) body (QLx E X0 eτ (F s))) : ∀ (n : Nat) (s : σ) (ρ : Evn), whS St Sbo t F n s → Sh (E s) ρ → QRx E X0 eτ (whR t F n s) (whileM tt body n ρ)
  | 0, s, ρ, hl, _ => by cases hl
  | n + 1, s, ρ, hl, h => by
    cases hl with
    | step hl1 hl2 hl5 =>
    have e0 := ht s hl1 ρ h
    unfold whileM
    rw [whR_succ, e0, at_ok, bind_ok]
    by_cases k : t s = true
    · rw [if_pos k, if_pos k]
      have h3 := hb s k (hl2 k) ρ h
      cases k2 : F s with
      | nx s' =>
        rw [k2] at h3
        obtain ⟨fl, ρ2, h4, h5, h6⟩ := h3
        have ih := wh_Rx ht hb n s' ρ2 (hl5 k s' k2) h6
        rw [h4, bind_ok]
        rcases h5 with rfl | rfl <;> exact ih
      | bk s' =>
        rw [k2] at h3
        obtain ⟨ρ2, h4, h5⟩ := h3
        rw [h4, bind_ok]
        exact ⟨ρ2, rfl, h5⟩
      | rt v =>
        rw [k2] at h3
        have h3 : OutX X0 eτ v (body ρ) := h3
        show OutX X0 eτ v _
        cases v with
        | ok v => obtain ⟨ρ', h4⟩ := h3; rw [h4, bind_ok]; exact ⟨ρ', rfl⟩
        | exc cl => obtain ⟨ρ', h4, h5⟩ := h3; rw [h4, bind_x]; exact ⟨ρ', rfl, h5⟩
    · rw [if_neg k, if_neg k]
      exact ⟨ρ, rfl, h⟩
theorem ts_whileUx {tt : Evn → RE Bool} {n : Nat} {St Sbo : σ → Prop} {t : σ → Bool} {F : σ → Stp σ (Ex τ)} (hK : ∀ v o, OutX X0 eτ v o → QQ (K v) o) (h0 : Sb p (E s0)) (hl : whS St Sbo t F n s0) (ht : ∀ s, St s → TM (E s) tt (t s)) (hb : ∀ s, t s = true → Sbo s → TS (E s) body (QLx E X0 eτ (F s))) (hr : ∀ s, whR t F n s0 = .nx s → TS (E s) c (QQ (G s))) : TS p (sThen (whileM tt body n) c) (QQ ((whR t F n s0).el K G)) := fun ρ hs => by
  have h := wh_Rx ht hb n s0 ρ hl (h0.sh hs)
  rw [e_sThen]
  exact endRx h hK hr
end
theorem t_fnx {τ : Type} {eτ : τ → PyData} {n N : Nat} {b : Evn → RS} {ds : List PyData} {v : Ex τ} (h : ds.length = n) (hb : TS (ptE N ds) b (QFx eτ v)) : fnM n N b ds = v.re eτ := by
  rw [fn_go h]
  exact hb _ (sh_start N ds)
/-! try -/
def tryE {σ τ V : Type} (r : Lp σ (Ex τ)) (G : σ → V) (K : τ → V) (H : Str → V) : V := match r with
  | .nx s => G s
  | .rt (.ok v) => K v
  | .rt (.exc c) => H c
def Lv (o : RS) : Prop := (∃ d ρ, o = .ok (.rt d, ρ)) ∨ ∃ c ρ, o = .exc c ρ
theorem Lv.thru {o : RS} (h : Lv o) (k : Evn → RS) : (o.bind fun p => match p.1 with | .nx => k p.2 | _ => .ok p) = o := by
  rcases h with ⟨d, ρ, rfl⟩ | ⟨c, ρ, rfl⟩ <;> rfl
def CH (sub : Str → Str → Bool) (hs : List (Str × Option Nat × (Evn → RS))) (Xt : Pt) (cl : Str) (Q : RS → Prop) : Prop := ∀ ρ, Sh Xt ρ → Q (catchM sub hs cl ρ) ∧ Lv (catchM sub hs cl ρ)
/-- of a clause's suite -/
def QH {V : Type} (QQ : V → RS → Prop) (u : V) (o : RS) : Prop := ∃ d ρ, o = .ok (.rt d, ρ) ∧ ∀ ρ', QQ u (.ok (.rt d, ρ'))
section
variable {p : Pt} {σ τ τ2 V : Type} {QQ : V → RS → Prop} {c fs fb : Evn → RS} {f : Evn → RE PyData} {E : σ → Pt} {Xt X0 : Pt} {eτ : τ → PyData} {e2 : τ2 → PyData} {sub : Str → Str → Bool} {cl h : Str} {i : Nat} {hs : List (Str × Option Nat × (Evn → RS))} {L : List Str}
theorem Sh.len {p : Pt} {ρ : Evn} (h : Sh p ρ) : ρ.length = p.length := by
  induction h with
  | nil => rfl
  | any _ ih => rw [List.length_cons, List.length_cons, ih]
  | is _ ih => rw [List.length_cons, List.length_cons, ih]
theorem ts_retH {u : V} {d : PyData} (h : TM p f d) (hq : ∀ ρ, QQ u (.ok (.rt d, ρ))) : TS p (sThen (sRet f) c) (QH QQ u) := fun ρ hs => by
  rw [then_ret h c hs]; exact ⟨d, ρ, rfl, hq⟩
theorem ts_retNH {u : V} (hq : ∀ ρ, QQ u (.ok (.rt .none, ρ))) : TS p (sThen (fun ρ => .ok (.rt .none, ρ)) c) (QH QQ u) := fun ρ hs => ⟨.none, ρ, rfl, hq⟩
theorem ch_cons {u v : V} {N : Nat} (hN : Xt.length = N) (hi : i < N) (h1 : sub cl h = true → TS (stP Xt i (some (.exn cl))) fs (QH QQ u)) (h2 : sub cl h = false → CH sub hs Xt cl (QQ v)) : CH sub ((h, some i, fs) :: hs) Xt cl (QQ (if sub cl h = true then u else v)) := fun ρ hs => by
  unfold catchM
  by_cases k : sub cl h = true
  · rw [if_pos k, if_pos k, if_pos (by rw [hs.len, hN]; exact hi)]
    obtain ⟨d, ρ', h3, h4⟩ := h1 k _ (hs.st (i := i) (c := .exn cl))
    rw [h3]
    exact ⟨h4 _, .inl ⟨_, _, rfl⟩⟩
  · have k' : sub cl h = false := by simpa using k
    rw [if_neg k, if_neg k]
    exact h2 k' ρ hs
theorem ch_consN {u v : V} (h1 : sub cl h = true → TS Xt fs (QH QQ u)) (h2 : sub cl h = false → CH sub hs Xt cl (QQ v)) : CH sub ((h, none, fs) :: hs) Xt cl (QQ (if sub cl h = true then u else v)) := fun ρ hs => by
  unfold catchM
  by_cases k : sub cl h = true
  · rw [if_pos k, if_pos k]
    obtain ⟨d, ρ', h3, h4⟩ := h1 k _ hs
    rw [h3]
    exact ⟨h4 _, .inl ⟨_, _, rfl⟩⟩
  · have k' : sub cl h = false := by simpa using k
    rw [if_neg k, if_neg k]
    exact h2 k' ρ hs
theorem ch_none {u : V} (hf : False) : CH sub [] Xt cl (QQ u) := hf.elim
theorem ch_nil {u : V} (hb : Sb Xt X0) (hq : ∀ o, OutX X0 e2 (.exc cl) o → QQ u o) : CH sub [] Xt cl (QQ u) := fun ρ hs => ⟨hq _ ⟨ρ, rfl, hb.sh hs⟩, .inr ⟨_, _, rfl⟩⟩
theorem ts_tryx {r : Lp σ (Ex τ)} {G : σ → V} {K : τ → V} {H : Str → V} (hb : TS p fb (QRx E Xt eτ r)) (hn : ∀ s, r = .nx s → TS (E s) c (QQ (G s))) (hv : ∀ v ρ', QQ (K v) (.ok (.rt (eτ v), ρ'))) (hL : ∀ cl, r = .rt (.exc cl) → cl ∈ L) (hc : ∀ cl, r = .rt (.exc cl) → CH sub hs Xt cl (QQ (H cl))) : TS p (sThen (sTry L sub hs fb) c) (QQ (tryE r G K H)) := fun ρ sh => by
  have h := hb ρ sh
  rw [e_sThen, e_sTry]
  cases r with
  | nx s =>
    obtain ⟨ρ', h1, h2⟩ := h
    rw [h1]
    exact hn s rfl ρ' h2
  | rt z =>
    cases z with
    | ok v =>
      obtain ⟨ρ', h1⟩ := h
      rw [h1]
      exact hv v ρ'
    | exc cl =>
      obtain ⟨ρ', h1, h2⟩ := h
      obtain ⟨h3, h4⟩ := hc cl rfl ρ' h2
      rw [h1]
      have : tryC L sub hs (R.exc cl ρ') = catchM sub hs cl ρ' := if_pos (hL cl rfl)
      (try rw [this])
      exact Eq.mpr (congrArg (QQ (H cl)) (h4.thru c)) h3
theorem t_isX {x : Str} (h : atP p i = some (.exn cl)) : TM p (mIsX sub i x) (.bool (sub cl x)) := fun ρ hs => by
  have : ρ[i]? = some (some (.exn cl)) := hs.get h
  unfold mIsX
  rw [this]
end
/-! data of any form -/
def isI (x : PyData) : Prop := ∃ n : Int, x = .int n
def asI : PyData → Int
  | .int n => n
  | _ => 0
def isSq : PyData → Bool
  | .list _ => true
  | .tuple _ => true
  | _ => false
def seqD : PyData → List PyData
  | .list xs => xs
  | .tuple xs => xs
  | _ => []
def cmpA (o : PyData → PyData → Option PyData) (x y : PyData) : Bool := match o x y with
  | some (.bool b) => b
  | _ => false
def cmpOk (o : PyData → PyData → Option PyData) (x y : PyData) : Prop := ∃ b, o x y = some (.bool b)
def cutD (x : PyData) (lo hi : Option Int) : PyData := match x with
  | .list xs => .list (cutA xs lo hi)
  | .tuple xs => .tuple (cutA xs lo hi)
  | x => x
section
variable {p : Pt} {f : Evn → RE PyData} {x y : PyData}
theorem t_asI (h : isI x) (d : TM p f (idD x)) : TM p f (PyData.int (asI x)) := by
  obtain ⟨n, rfl⟩ := h; exact d
theorem f_lenA (h : isSq x = true) : bLen [idD x] = some (.int (seqD x).length) := by
  cases x <;> first | rfl | cases h
theorem f_idxA {i : Int} (h : isSq x = true) (hi : ixOk (seqD x).length i) : pIdx (idD x) (.int i) = some (idD ((seqD x).getD i.toNat .none)) := by
  have key : ∀ xs : List PyData, ixOk xs.length i → pIdx (.list xs) (.int i) = some (xs.getD i.toNat .none) := fun xs hi => by
    have := f_idxL (e := idD) (d := PyData.none) hi
    rw [show encL idD xs = .list xs from by show PyData.list (xs.map idD) = _; rw [show xs.map idD = xs from List.map_id _]] at this
    exact this
  cases x with
  | list xs => exact key xs hi
  | tuple xs => exact key xs hi
  | _ => cases h
theorem f_idxAK {j : Int} (n : Nat) (hj : j = (n : Int)) (h : isSq x = true) (hi : n < (seqD x).length) : pIdx (idD x) (.int j) = some (idD ((seqD x).getD n .none)) := by
  subst hj
  exact f_idxA h ⟨by omega, by omega⟩
theorem f_itemsA (h : isSq x = true) : itemsOf (idD x) = some ((seqD x).map idD) := by
  have key : ∀ xs : List PyData, xs.map idD = xs := fun xs => List.map_id _
  cases x with
  | list xs => show some xs = some (xs.map idD); rw [key]
  | tuple xs => show some xs = some (xs.map idD); rw [key]
  | _ => cases h
theorem f_cmpA {o : PyData → PyData → Option PyData} (h : cmpOk o x y) : o (idD x) (idD y) = some (.bool (cmpA o x y)) := by
  obtain ⟨b, hb⟩ := h
  show o x y = _
  unfold cmpA
  rw [hb]
theorem f_cutA {lo hi : Option Int} (h : isSq x = true) : pCut (idD x) lo hi = some (idD (cutD x lo hi)) := by
  cases x <;> first | rfl | cases h
theorem list_range (xs : List PyData) : ∀ {n : Nat}, xs.length = n → xs = (List.range n).map fun i => xs.getD i .none := fun {n} hn => by
  apply List.ext_getElem
  · rw [List.length_map, List.length_range, hn]
  · intro i h1 h2
    rw [List.getElem_map, List.getElem_range, List.getD_eq_getElem?_getD, List.getElem?_eq_getElem h1]; rfl
/-- unpacking data -/
theorem tg_A {q : Pt} {n : Nat} {ms : List PyData → Evn → Option Evn} (h : isSq x = true) (hl : (seqD x).length = n) (hg : TGs p ms ((List.range n).map fun i => (seqD x).getD i .none) q) : TG p (gT n ms) (idD x) q := by
  cases x with
  | list xs =>
    have e := list_range xs hl
    have hg : TGs p ms _ q := hg
    rw [show (List.range n).map (fun i => (seqD (.list xs)).getD i .none) = xs from e.symm] at hg
    exact tg_l hg hl
  | tuple xs =>
    have e := list_range xs hl
    rw [show (List.range n).map (fun i => (seqD (.tuple xs)).getD i .none) = xs from e.symm] at hg
    exact tg_t hg hl
  | _ => cases h
theorem ix_bool {n : Nat} {c : Bool} (h : 2 ≤ n) : ixOk n (if c = true then (1 : Int) else 0) := by cases c <;> exact ⟨by decide, by simp; omega⟩
theorem scal_O {α : Type} {e : α → PyData} (h : ∀ x, scal (e x) = true) (o : Option α) : scal (encO e o) = true := by
  cases o with
  | none => rfl
  | some x => exact h x
theorem eqOk_r {x y : PyData} (h : y.depth ≤ 64) : eqOk x y := .inr h
theorem eqOk_l {x y : PyData} (h : x.depth ≤ 64) : eqOk x y := .inl h
theorem t_Qneg {q : Rat} (h : TM p f (enc2 PyData.int PyData.int ((0 - q.num), (q.den : Int)))) : TM p f (encQ (-q)) := t_Qab (by show -q.num = 0 - q.num; omega) rfl h
theorem f_mulS {s : Str} {n : Int} (h : n = 1) : pMul (.str s) (.int n) = some (.str s) := by subst h; rfl
end
/-! insert, pop at a place -/
section
variable {p : Pt} {i j : Nat} {α : Type} {e : α → PyData} {xs ys : List α} {f fk : Evn → RE PyData} {c : Evn → RS} {Q : RS → Prop}
theorem ts_ins {x : α} {k : Int} (h0 : atP p i = some (.own (xs.map e))) (hk : TM p fk (.int k)) (h : TM p f (e x)) (hg : 0 ≤ k ∧ k < 2 ^ 63 ∧ xs.length < sizeLine) (hm : TS (stP p i (some (.own ((xs.take k.toNat ++ [x] ++ xs.drop k.toNat).map e)))) c Q) : TS p (sThen (sIns i fk f) c) Q := fun ρ hs => by
  have q : sThen (sIns i fk f) c ρ = c (ρ.set i (some (.own ((xs.take k.toNat ++ [x] ++ xs.drop k.toNat).map e)))) := by
    rw [e_sThen]; unfold sIns; rw [own_at hs h0]
    show (((((fk ρ).at ρ).bind fun k => ((f ρ).at ρ).bind fun d => (oS (insD (xs.map e) k d)).bind fun es => (.ok (.nx, ρ.set i (some (.own es))) : RS))).bind _) = _
    rw [hk ρ hs, at_ok, bind_ok, h ρ hs, at_ok, bind_ok]
    have q2 : insD (xs.map e) (.int k) (e x) = some ((xs.take k.toNat ++ [x] ++ xs.drop k.toNat).map e) := by
      show (if 0 ≤ k ∧ k < 2 ^ 63 ∧ (xs.map e).length < sizeLine then some ((xs.map e).take k.toNat ++ [e x] ++ (xs.map e).drop k.toNat) else none) = _
      rw [List.length_map, if_pos hg]
      simp only [List.map_append, List.map_take, List.map_drop, List.map_cons, List.map_nil]
    rw [q2, oS_some, bind_ok, bind_ok]
  rw [q]
  exact hm _ hs.st
theorem popD_ok {xs : List α} {k : Int} (d : α) (h : ixOk xs.length k) (h2 : k < 2 ^ 63) : popD (xs.map e) (.int k) = some (e (xs.getD k.toNat d), (xs.eraseIdx k.toNat).map e) := by
  have hk : k.toNat < xs.length := by have := h.1; have := h.2; omega
  show (if -(2 ^ 63) ≤ k ∧ k < 2 ^ 63 then (L2.ixN (xs.map e).length k).bind fun n => (xs.map e)[n]?.map fun d => (d, (xs.map e).eraseIdx n) else none) = _
  rw [if_pos ⟨by have := h.1; omega, h2⟩, List.length_map, ixN_ok h.1 h.2, Option.bind_some, List.getElem?_map, List.getElem?_eq_getElem hk, List.getD_eq_getElem?_getD, List.getElem?_eq_getElem hk]
  simp only [Option.map_some, Option.getD_some]
  congr 2
  rw [List.eraseIdx_eq_take_drop_succ, List.eraseIdx_eq_take_drop_succ, List.map_append, List.map_take, List.map_drop]
theorem ts_popAt {k : Int} (d : α) (h0 : atP p i = some (.own (xs.map e))) (hk : TM p fk (.int k)) (hg : ixOk xs.length k) (hg2 : k < 2 ^ 63) (hm : TS (stP p i (some (.own ((xs.eraseIdx k.toNat).map e)))) c Q) : TS p (sThen (sPopAt i fk) c) Q := fun ρ hs => by
  have q : sThen (sPopAt i fk) c ρ = c (ρ.set i (some (.own ((xs.eraseIdx k.toNat).map e)))) := by
    rw [e_sThen]; unfold sPopAt; rw [own_at hs h0]
    show ((((fk ρ).at ρ).bind fun k => (oS (popD (xs.map e) k)).bind fun r => (.ok (.nx, ρ.set i (some (.own r.2))) : RS)).bind _) = _
    rw [hk ρ hs, at_ok, bind_ok, popD_ok d hg hg2, oS_some, bind_ok, bind_ok]
  rw [q]
  exact hm _ hs.st
theorem ts_popAtTo {k : Int} (d : α) (h0 : atP p i = some (.own (xs.map e))) (hk : TM p fk (.int k)) (hg : ixOk xs.length k) (hg2 : k < 2 ^ 63) (hm : TS (stP (stP p i (some (.own ((xs.eraseIdx k.toNat).map e)))) j (some (.val (e (xs.getD k.toNat d))))) c Q) : TS p (sThen (sPopAtTo i j fk) c) Q := fun ρ hs => by
  have q : sThen (sPopAtTo i j fk) c ρ = c ((ρ.set i (some (.own ((xs.eraseIdx k.toNat).map e)))).set j (some (.val (e (xs.getD k.toNat d))))) := by
    rw [e_sThen]; unfold sPopAtTo; rw [own_at hs h0]
    show ((((fk ρ).at ρ).bind fun k => (oS (popD (xs.map e) k)).bind fun r => (.ok (.nx, (ρ.set i (some (.own r.2))).set j (some (.val r.1))) : RS)).bind _) = _
    rw [hk ρ hs, at_ok, bind_ok, popD_ok d hg hg2, oS_some, bind_ok, bind_ok]
  rw [q]
  exact hm _ hs.st.st
theorem ts_appPopAt {k : Int} (d : α) (h0 : atP p i = some (.own (xs.map e))) (h1 : atP p j = some (.own (ys.map e))) (hk : TM p fk (.int k)) (hg : ixOk ys.length k) (hg2 : k < 2 ^ 63) (hl : xs.length < sizeLine) (hm : TS (stP (stP p j (some (.own ((ys.eraseIdx k.toNat).map e)))) i (some (.own ((xs ++ [ys.getD k.toNat d]).map e)))) c Q) : TS p (sThen (sAppPopAt i j fk) c) Q := fun ρ hs => by
  have q : sThen (sAppPopAt i j fk) c ρ = c ((ρ.set j (some (.own ((ys.eraseIdx k.toNat).map e)))).set i (some (.own ((xs ++ [ys.getD k.toNat d]).map e)))) := by
    rw [e_sThen]; unfold sAppPopAt; rw [own_at hs h0, own_at hs h1]
    show ((((fk ρ).at ρ).bind fun k => (oS (popD (ys.map e) k)).bind fun r => if (xs.map e).length < sizeLine then (.ok (.nx, (ρ.set j (some (.own r.2))).set i (some (.own (xs.map e ++ [r.1])))) : RS) else .bad).bind _) = _
    rw [hk ρ hs, at_ok, bind_ok, popD_ok d hg hg2, oS_some, bind_ok, if_pos (by rw [List.length_map]; exact hl), bind_ok, List.map_append]; rfl
  rw [q]
  exact hm _ hs.st.st
theorem ts_appPop (d : α) (h0 : atP p i = some (.own (xs.map e))) (h1 : atP p j = some (.own (ys.map e))) (hg : ys ≠ []) (hl : xs.length < sizeLine) (hm : TS (stP (stP p j (some (.own (ys.dropLast.map e)))) i (some (.own ((xs ++ [ys.getLastD d]).map e)))) c Q) : TS p (sThen (sAppPop i j) c) Q := fun ρ hs => by
  have q : sThen (sAppPop i j) c ρ = c ((ρ.set j (some (.own (ys.dropLast.map e)))).set i (some (.own ((xs ++ [ys.getLastD d]).map e)))) := by
    rw [e_sThen]; unfold sAppPop; rw [own_at hs h0, own_at hs h1]
    show (((oS (ys.map e).getLast?).bind fun d => if (xs.map e).length < sizeLine then (.ok (.nx, (ρ.set j (some (.own (ys.map e).dropLast))).set i (some (.own (xs.map e ++ [d])))) : RS) else .bad).bind _) = _
    rw [getLast_map e d hg, oS_some, bind_ok, if_pos (by rw [List.length_map]; exact hl), bind_ok, List.map_append, List.map_dropLast]; rfl
  rw [q]
  exact hm _ hs.st.st
end
/-! the least of pairs -/
def minP : List (Int × Int) → Int × Int
  | [] => (0, 0)
  | [x] => x
  | x :: y :: r => if leP x (minP (y :: r)) = true then x else minP (y :: r)
theorem lePQ_iff {a b : Int × Int} : leP a b = true ↔ a.1 < b.1 ∨ (a.1 = b.1 ∧ a.2 ≤ b.2) := by
  unfold leP
  rw [Bool.or_eq_true, Bool.and_eq_true, decide_eq_true_eq, decide_eq_true_eq, decide_eq_true_eq]
theorem minP_ok : ∀ {xs : List (Int × Int)}, xs ≠ [] → minP xs ∈ xs ∧ ∀ y ∈ xs, leP (minP xs) y = true
  | [], h => absurd rfl h
  | [x], _ => ⟨List.mem_singleton.mpr rfl, fun y hy => by rw [List.mem_singleton] at hy; subst hy; exact lePQ_iff.mpr (.inr ⟨rfl, Int.le_refl _⟩)⟩
  | x :: y :: r, _ => by
    obtain ⟨h1, h2⟩ := minP_ok (xs := y :: r) (fun q => nomatch q)
    unfold minP
    by_cases c : leP x (minP (y :: r)) = true
    · rw [if_pos c]
      refine ⟨List.mem_cons_self .., fun z hz => ?_⟩
      rcases List.mem_cons.mp hz with rfl | hz
      · exact lePQ_iff.mpr (.inr ⟨rfl, Int.le_refl _⟩)
      · have a := lePQ_iff.mp c
        have b := lePQ_iff.mp (h2 z hz)
        exact lePQ_iff.mpr (by omega)
    · rw [if_neg c]
      refine ⟨List.mem_cons_of_mem _ h1, fun z hz => ?_⟩
      rcases List.mem_cons.mp hz with rfl | hz
      · have a := mt lePQ_iff.mpr c
        exact lePQ_iff.mpr (by omega)
      · exact h2 z hz
theorem f_minP {xs : List (Int × Int)} (h : xs ≠ []) : bMinD [encL (enc2 PyData.int PyData.int) xs] = some (enc2 PyData.int PyData.int (minP xs)) := by
  obtain ⟨m, h1, h2, h3⟩ := min_pr h
  obtain ⟨g1, g2⟩ := minP_ok h
  have a := lePQ_iff.mp (h3 _ g1)
  have b := lePQ_iff.mp (g2 _ h1)
  have e : m = minP xs := Prod.ext (by omega) (by omega)
  rw [← e]; exact h2
end PV
end
section
set_option Elab.async false
set_option linter.all false
set_option maxRecDepth 100000
set_option maxHeartbeats 4000000
set_option autoImplicit false
/-! V5: typed rules for dicts that a body makes. -/
namespace PV
open PySem
abbrev kI : Int → KeyD := Sum.inl
abbrev kS : Str → KeyD := Sum.inr
/-- a kind of keys -/
structure DK {κ : Type} (eκ : κ → PyData) (ek : κ → KeyD) : Prop where
  ok : ∀ k, keyD (eκ k) = some (ek k)
  inj : ∀ a b, ek a = ek b → a = b
theorem dkI : DK PyData.int kI := ⟨fun _ => rfl, fun _ _ h => Sum.inl.inj h⟩
theorem dkS : DK PyData.str kS := ⟨fun _ => rfl, fun _ _ h => Sum.inr.inj h⟩
def encD {κ α : Type} (ek : κ → KeyD) (e : α → PyData) (es : List (κ × α)) : List (KeyD × PyData) := es.map fun p => (ek p.1, e p.2)
abbrev vd {κ α : Type} (ek : κ → KeyD) (e : α → PyData) (es : List (κ × α)) : Option Cel := some (.dic (encD ek e es))
section
variable {κ α : Type} [DecidableEq κ]
def valT (es : List (κ × α)) (k : κ) : Option α := (es.find? fun p => decide (p.1 = k)).map (·.2)
def putT (es : List (κ × α)) (k : κ) (x : α) : List (κ × α) := if (es.any fun p => decide (p.1 = k)) = true then es.map (fun p => if p.1 = k then (p.1, x) else p) else es ++ [(k, x)]
theorem valT_nil (k : κ) : valT ([] : List (κ × α)) k = none := rfl
theorem valT_pos {j k : κ} {x : α} {es : List (κ × α)} (h : j = k) : valT ((j, x) :: es) k = some x := by simp [valT, List.find?_cons, h]
theorem valT_neg {j k : κ} {x : α} {es : List (κ × α)} (h : ¬ j = k) : valT ((j, x) :: es) k = valT es k := by simp [valT, List.find?_cons, h]
theorem valT_any (k : κ) : ∀ es : List (κ × α), (es.any fun p => decide (p.1 = k)) = (valT es k).isSome
  | [] => rfl
  | (j, x) :: r => by
    rw [List.any_cons]
    by_cases e : j = k
    · simp only [valT_pos e, decide_eq_true e, Bool.true_or, Option.isSome_some]
    · rw [valT_neg e, decide_eq_false e, Bool.false_or]; exact valT_any k r
theorem valT_map (k j : κ) (y : α) : ∀ es : List (κ × α), valT (es.map fun p => if p.1 = k then (p.1, y) else p) j = (valT es j).map fun x => if j = k then y else x
  | [] => rfl
  | (i, x) :: r => by
    have ih := valT_map k j y r
    rw [List.map_cons]
    by_cases h : i = k
    · rw [if_pos (show (i, x).1 = k from h)]
      by_cases e : i = j
      · rw [valT_pos (show (i, x).1 = j from e), valT_pos e, Option.map_some, if_pos (e.symm.trans h)]
      · rw [valT_neg (show ¬ (i, x).1 = j from e), valT_neg e, ih]
    · rw [if_neg (show ¬ (i, x).1 = k from h)]
      by_cases e : i = j
      · rw [valT_pos e, valT_pos e, Option.map_some, if_neg (fun z => h (e.trans z))]
      · rw [valT_neg e, valT_neg e, ih]
theorem valT_app (j : κ) : ∀ (es fs : List (κ × α)), valT (es ++ fs) j = (valT es j).orElse fun _ => valT fs j
  | [], fs => rfl
  | (i, x) :: r, fs => by
    rw [List.cons_append]
    by_cases e : i = j
    · rw [valT_pos e, valT_pos e]; rfl
    · rw [valT_neg e, valT_neg e]; exact valT_app j r fs
theorem valT_put (es : List (κ × α)) (k j : κ) (y : α) : valT (putT es k y) j = if j = k then some y else valT es j := by
  unfold putT
  rw [valT_any]
  cases q : valT es k with
  | some x =>
    rw [if_pos (show (some x : Option α).isSome = true from rfl), valT_map]
    by_cases e : j = k
    · subst e; rw [q, if_pos rfl, Option.map_some, if_pos rfl]
    · rw [if_neg e]; cases valT es j <;> simp [e]
  | none =>
    rw [if_neg (show ¬ (none : Option α).isSome = true by simp), valT_app]
    by_cases e : j = k
    · subst e; rw [q, if_pos rfl]; exact valT_pos rfl
    · rw [if_neg e]
      cases valT es j with
      | some x => rfl
      | none => exact (valT_neg (fun z => e z.symm)).trans (valT_nil j)
theorem putT_len (es : List (κ × α)) (k : κ) (x : α) : (putT es k x).length ≤ es.length + 1 := by
  unfold putT
  split <;> simp
theorem putT_new {es : List (κ × α)} {k : κ} (x : α) (h : valT es k = none) : putT es k x = es ++ [(k, x)] := by
  unfold putT
  rw [valT_any, h, if_neg (by simp)]
variable {eκ : κ → PyData} {ek : κ → KeyD} {e : α → PyData}
theorem valD_enc (h : DK eκ ek) (k : κ) : ∀ es : List (κ × α), valD (encD ek e es) (ek k) = (valT es k).map e
  | [] => rfl
  | (j, x) :: r => by
    by_cases q : j = k
    · subst q
      rw [valT_pos rfl]
      simp [valD, encD]
    · have : ¬ ek j = ek k := fun z => q (h.inj _ _ z)
      rw [valT_neg q, ← valD_enc h k r]
      simp [valD, encD, this]
theorem putD_enc (h : DK eκ ek) (k : κ) (x : α) (es : List (κ × α)) : putD (encD ek e es) (ek k) (e x) = encD ek e (putT es k x) := by
  have hk : ∀ j, decide (ek j = ek k) = decide (j = k) := fun j => by
    by_cases q : j = k
    · subst q; simp
    · have : ¬ ek j = ek k := fun z => q (h.inj _ _ z)
      rw [decide_eq_false this, decide_eq_false q]
  have ha : ((encD ek e es).any fun kv => decide (kv.1 = ek k)) = es.any fun p => decide (p.1 = k) := by
    unfold encD
    rw [List.any_map]
    congr 1
    funext p
    exact hk p.1
  unfold putD putT
  rw [ha]
  by_cases q : (es.any fun p => decide (p.1 = k)) = true
  · rw [if_pos q, if_pos q]
    unfold encD
    rw [List.map_map, List.map_map]
    refine List.map_congr_left fun p _ => ?_
    show (if ek p.1 = ek k then (ek p.1, e x) else (ek p.1, e p.2)) = _
    by_cases z : p.1 = k
    · simp [Function.comp, z]
    · have z2 : ¬ ek p.1 = ek k := fun y => z (h.inj _ _ y)
      simp [Function.comp, z, z2]
  · rw [if_neg q, if_neg q]
    unfold encD
    rw [List.map_append]; rfl
theorem encD_len (es : List (κ × α)) : (encD ek e es).length = es.length := List.length_map _
end
section
variable {p : Pt} {i : Nat} {κ α : Type} [DecidableEq κ] {eκ : κ → PyData} {ek : κ → KeyD} {e : α → PyData} {es : List (κ × α)} {f fk fe : Evn → RE PyData} {c : Evn → RS} {Q : RS → Prop} {k : κ} {x : α}
theorem dic_at {ρ : Evn} {ds : List (KeyD × PyData)} (hs : Sh p ρ) (h : atP p i = some (.dic ds)) : dicAt i ρ = some ds := by
  unfold dicAt; rw [hs.get h]
theorem ts_dNew (ek : κ → KeyD) (e : α → PyData) (hm : TS (stP p i (some (.dic (encD ek e ([] : List (κ × α)))))) c Q) : TS p (sThen (sDNew i) c) Q := fun ρ hs => by
  have q : sThen (sDNew i) c ρ = c (ρ.set i (some (.dic (encD ek e ([] : List (κ × α)))))) := by
    rw [e_sThen]; unfold sDNew; rw [bind_ok]; rfl
  rw [q]
  exact hm _ hs.st
theorem ts_dPut (hK : DK eκ ek) (h0 : atP p i = some (.dic (encD ek e es))) (hk : TM p fk (eκ k)) (h : TM p fe (e x)) (hl : es.length < sizeLine) (hm : TS (stP p i (some (.dic (encD ek e (putT es k x))))) c Q) : TS p (sThen (sDPut i fk fe) c) Q := fun ρ hs => by
  have q : sThen (sDPut i fk fe) c ρ = c (ρ.set i (some (.dic (encD ek e (putT es k x))))) := by
    rw [e_sThen]; unfold sDPut; rw [dic_at hs h0]
    show ((((fe ρ).at ρ).bind fun d => ((fk ρ).at ρ).bind fun k => (oS (keyD k)).bind fun q => if (encD ek e es).length < sizeLine then (.ok (.nx, ρ.set i (some (.dic (putD (encD ek e es) q d)))) : RS) else .bad).bind _) = _
    rw [h ρ hs, at_ok, bind_ok, hk ρ hs, at_ok, bind_ok, hK.ok, oS_some, bind_ok, if_pos (by rw [encD_len]; exact hl), bind_ok, putD_enc hK]
  rw [q]
  exact hm _ hs.st
theorem t_dIn (hK : DK eκ ek) (h0 : atP p i = some (.dic (encD ek e es))) (hk : TM p fk (eκ k)) : TM p (mDIn true i fk) (.bool (valT es k).isSome) := fun ρ hs => by
  unfold mDIn; rw [dic_at hs h0]
  show ((fk ρ).bind fun k => ofO ((keyD k).map fun q => PyData.bool ((valD (encD ek e es) q).isSome == true))) = _
  rw [hk ρ hs, bind_ok, hK.ok, Option.map_some, ofO_some, valD_enc hK]
  cases valT es k <;> rfl
theorem t_dNot (hK : DK eκ ek) (h0 : atP p i = some (.dic (encD ek e es))) (hk : TM p fk (eκ k)) : TM p (mDIn false i fk) (.bool (!(valT es k).isSome)) := fun ρ hs => by
  unfold mDIn; rw [dic_at hs h0]
  show ((fk ρ).bind fun k => ofO ((keyD k).map fun q => PyData.bool ((valD (encD ek e es) q).isSome == false))) = _
  rw [hk ρ hs, bind_ok, hK.ok, Option.map_some, ofO_some, valD_enc hK]
  cases valT es k <;> rfl
theorem t_dGet (d : α) (hK : DK eκ ek) (h0 : atP p i = some (.dic (encD ek e es))) (hk : TM p fk (eκ k)) (hg : (valT es k).isSome = true) : TM p (mDGet i fk) (e ((valT es k).getD d)) := fun ρ hs => by
  unfold mDGet; rw [dic_at hs h0]
  show ((fk ρ).bind fun k => ofO ((keyD k).bind fun q => valD (encD ek e es) q)) = _
  rw [hk ρ hs, bind_ok, hK.ok, Option.bind_some, valD_enc hK]
  cases q : valT es k with
  | none => rw [q] at hg; cases hg
  | some y => rfl
theorem t_dGet2 (hK : DK eκ ek) (h0 : atP p i = some (.dic (encD ek e es))) (hk : TM p fk (eκ k)) (h : TM p fe (e x)) : TM p (mDGet2 i fk fe) (e ((valT es k).getD x)) := fun ρ hs => by
  unfold mDGet2; rw [dic_at hs h0]
  show ((fk ρ).bind fun k => (fe ρ).bind fun d => ofO ((keyD k).map fun q => (valD (encD ek e es) q).getD d)) = _
  rw [hk ρ hs, bind_ok, h ρ hs, bind_ok, hK.ok, Option.map_some, ofO_some, valD_enc hK]
  cases valT es k <;> rfl
end
end PV
end
section
set_option Elab.async false
set_option linter.all false
set_option maxRecDepth 100000
set_option maxHeartbeats 4000000
/-! V1: fractions by their sizes; ropes, plainly. -/
/-! ### sizes of fractions: D a bottom, 2 ^ k more than its amount -/
namespace PV
def pw (k : Nat) : Rat := ((2 ^ k : Nat) : Rat)
theorem pw_add (a b : Nat) : pw (a + b) = pw a * pw b := by unfold pw; rw [Nat.pow_add, Rat.natCast_mul]
theorem pw_pos (k : Nat) : 0 < pw k := by
  unfold pw
  have : 0 < 2 ^ k := Nat.pow_pos (by decide)
  exact Rat.natCast_pos.mpr this
theorem pw_one (k : Nat) : 1 ≤ pw k := by
  unfold pw
  have : 1 ≤ 2 ^ k := Nat.pow_pos (by decide)
  exact Rat.natCast_le_natCast.mpr this
theorem pw_mono {a b : Nat} (h : a ≤ b) : pw a ≤ pw b := Rat.natCast_le_natCast.mpr (Nat.pow_le_pow_right (by decide) h)
structure G (D k : Nat) (q : Rat) : Prop where
  n : ∃ n : Int, q * (D : Rat) = (n : Rat)
  lo : -pw k < q
  hi : q < pw k
theorem G.mono {D k l : Nat} {q : Rat} (h : G D k q) (hl : k ≤ l) : G D l q := by
  have := pw_mono hl
  exact ⟨h.n, by have := h.lo; grind, by have := h.hi; grind⟩
theorem G.val {D k l : Nat} {q : Rat} (h : G D k q) (h1 : -pw l < q) (h2 : q < pw l) : G D l q := ⟨h.n, h1, h2⟩
theorem int_lt {i : Int} {k : Nat} (h : i.natAbs < 2 ^ k) : -pw k < (i : Rat) ∧ (i : Rat) < pw k := by
  have e : pw k = (((2 ^ k : Nat) : Int) : Rat) := rfl
  rw [e, ← Rat.intCast_neg]
  exact ⟨Rat.intCast_lt_intCast.mpr (by omega), Rat.intCast_lt_intCast.mpr (by omega)⟩
theorem G.int {k : Nat} {i : Int} (h : i.natAbs < 2 ^ k) : G 1 k (i : Rat) := ⟨⟨i, by simp⟩, (int_lt h).1, (int_lt h).2⟩
theorem G.up {D k : Nat} {q : Rat} (h : G D k q) (c : Nat) : G (D * c) k q := by
  obtain ⟨n, h1⟩ := h.n
  refine ⟨⟨n * c, ?_⟩, h.lo, h.hi⟩
  rw [Rat.natCast_mul, ← Rat.mul_assoc, h1, Rat.intCast_mul]; rfl
theorem G.cast {D E k : Nat} {q : Rat} (h : G D k q) (e : D = E) : G E k q := e ▸ h
theorem G.dvd {D E k : Nat} {q : Rat} (h : G D k q) (e : D ∣ E) : G E k q := by
  obtain ⟨c, rfl⟩ := e; exact h.up c
theorem G.add {D k : Nat} {p q : Rat} (hp : G D k p) (hq : G D k q) : G D (k + 1) (p + q) := by
  obtain ⟨n, h1⟩ := hp.n
  obtain ⟨m, h3⟩ := hq.n
  have e : pw (k + 1) = pw k + pw k := by rw [pw_add]; have : pw 1 = 2 := by rfl
                                          rw [this]; grind
  have := hp.lo; have := hp.hi; have := hq.lo; have := hq.hi
  exact ⟨⟨n + m, by rw [Rat.add_mul, h1, h3, Rat.intCast_add]⟩, by grind, by grind⟩
theorem G.neg {D k : Nat} {q : Rat} (hq : G D k q) : G D k (-q) := by
  obtain ⟨m, h3⟩ := hq.n
  have := hq.lo; have := hq.hi
  exact ⟨⟨-m, by rw [Rat.neg_mul, h3, Rat.intCast_neg]⟩, by grind, by grind⟩
theorem G.sub {D k : Nat} {p q : Rat} (hp : G D k p) (hq : G D k q) : G D (k + 1) (p - q) := by
  rw [Rat.sub_eq_add_neg]; exact hp.add hq.neg
theorem abs_mul {p q A B : Rat} (h1 : -A < p) (h2 : p < A) (h3 : -B < q) (h4 : q < B) : -(A * B) < p * q ∧ p * q < A * B := by
  have a1 := Rat.mul_pos (show 0 < A - p by grind) (show 0 < B + q by grind)
  have a2 := Rat.mul_pos (show 0 < A + p by grind) (show 0 < B - q by grind)
  have a3 := Rat.mul_pos (show 0 < A - p by grind) (show 0 < B - q by grind)
  have a4 := Rat.mul_pos (show 0 < A + p by grind) (show 0 < B + q by grind)
  constructor <;> grind
theorem G.mul {D E k l : Nat} {p q : Rat} (hp : G D k p) (hq : G E l q) : G (D * E) (k + l) (p * q) := by
  obtain ⟨n, h1⟩ := hp.n
  obtain ⟨m, h3⟩ := hq.n
  have := abs_mul hp.lo hp.hi hq.lo hq.hi
  refine ⟨⟨n * m, ?_⟩, by rw [pw_add]; exact this.1, by rw [pw_add]; exact this.2⟩
  rw [Rat.natCast_mul, Rat.intCast_mul, ← h1, ← h3]; grind
theorem nat_ne {D : Nat} (hD : 0 < D) : (D : Rat) ≠ 0 := by
  intro h
  have : ((D : Int) : Rat) = ((0 : Int) : Rat) := h
  have := Rat.intCast_inj.mp this
  omega
theorem int_ne {m : Int} (hm : m ≠ 0) : (m : Rat) ≠ 0 := fun e => hm (Rat.intCast_inj.mp (by rw [e]; rfl))
/-- the amount of a quotient -/
theorem div_lt {p q A c : Rat} (h1 : -A < p) (h2 : p < A) (hc : 0 < c) (hq : 1 ≤ q * c ∨ q * c ≤ -1) : -(A * c) < p / q ∧ p / q < A * c := by
  have q0 : q ≠ 0 := by
    rintro rfl
    rcases hq with h | h <;> grind
  have e : p / q * q = p := by grind
  generalize hr : p / q = r at e ⊢
  constructor
  · by_cases h : -(A * c) < r
    · exact h
    · exfalso
      rcases hq with h3 | h3
      · have qp : 0 < q := by
          by_cases z : 0 < q
          · exact z
          · have := Rat.mul_nonneg (show 0 ≤ -q by grind) (show 0 ≤ c by grind); grind
        have := Rat.mul_nonneg (show 0 ≤ -(A * c) - r by grind) (show 0 ≤ q by grind)
        have := Rat.mul_nonneg (show 0 ≤ A by grind) (show 0 ≤ q * c - 1 by grind)
        grind
      · have qp : 0 < -q := by
          by_cases z : 0 < -q
          · exact z
          · have := Rat.mul_nonneg (show 0 ≤ q by grind) (show 0 ≤ c by grind); grind
        have := Rat.mul_nonneg (show 0 ≤ -(A * c) - r by grind) (show 0 ≤ -q by grind)
        have := Rat.mul_nonneg (show 0 ≤ A by grind) (show 0 ≤ -(q * c) - 1 by grind)
        grind
  · by_cases h : r < A * c
    · exact h
    · exfalso
      rcases hq with h3 | h3
      · have qp : 0 < q := by
          by_cases z : 0 < q
          · exact z
          · have := Rat.mul_nonneg (show 0 ≤ -q by grind) (show 0 ≤ c by grind); grind
        have := Rat.mul_nonneg (show 0 ≤ r - A * c by grind) (show 0 ≤ q by grind)
        have := Rat.mul_nonneg (show 0 ≤ A by grind) (show 0 ≤ q * c - 1 by grind)
        grind
      · have qp : 0 < -q := by
          by_cases z : 0 < -q
          · exact z
          · have := Rat.mul_nonneg (show 0 ≤ q by grind) (show 0 ≤ c by grind); grind
        have := Rat.mul_nonneg (show 0 ≤ r - A * c by grind) (show 0 ≤ -q by grind)
        have := Rat.mul_nonneg (show 0 ≤ A by grind) (show 0 ≤ -(q * c) - 1 by grind)
        grind
theorem int_one {m : Int} (h : m ≠ 0) : 1 ≤ (m : Rat) ∨ (m : Rat) ≤ -1 := by
  by_cases c : 0 < m
  · left
    have : ((1 : Int) : Rat) ≤ (m : Rat) := Rat.intCast_le_intCast.mpr (by omega)
    exact this
  · right
    have : (m : Rat) ≤ ((-1 : Int) : Rat) := Rat.intCast_le_intCast.mpr (by omega)
    exact this
/-- over a whole number -/
theorem G.divI {D k : Nat} {p : Rat} (hp : G D k p) {m : Int} (hm : m ≠ 0) : G (D * m.natAbs) k (p / (m : Rat)) := by
  obtain ⟨n, h1⟩ := hp.n
  have h0 := int_ne hm
  have hv := div_lt hp.lo hp.hi (c := 1) (q := (m : Rat)) (by grind) (by have := int_one hm; grind)
  rw [Rat.mul_one] at hv
  rcases Int.natAbs_eq m with e | e
  · refine ⟨⟨n, ?_⟩, hv.1, hv.2⟩
    have e' : ((m.natAbs : Nat) : Rat) = (m : Rat) := by
      have : ((m.natAbs : Int) : Rat) = (m : Rat) := by rw [← e]
      exact this
    rw [Rat.natCast_mul, e', ← h1]; grind
  · refine ⟨⟨-n, ?_⟩, hv.1, hv.2⟩
    have e' : ((m.natAbs : Nat) : Rat) = -(m : Rat) := by
      have : ((m.natAbs : Int) : Rat) = -(m : Rat) := by rw [← Rat.intCast_neg]; congr 1; omega
      exact this
    rw [Rat.natCast_mul, e', Rat.intCast_neg, ← h1]; grind
theorem top_ne {E : Nat} {q : Rat} {m : Int} (hE : 0 < E) (hm : q * (E : Rat) = (m : Rat)) (h0 : q ≠ 0) : m ≠ 0 := by
  intro e
  rw [e] at hm
  rcases Rat.mul_eq_zero.mp (hm.trans rfl) with z | z
  · exact h0 z
  · exact nat_ne hE z
/-- over a fraction that is not 0: E its bottom, m its top -/
theorem G.div {D E k l : Nat} {p q : Rat} (hp : G D k p) (hE : 0 < E) (hEl : E ≤ 2 ^ l) {m : Int} (hm : q * (E : Rat) = (m : Rat)) (h0 : q ≠ 0) : G (D * m.natAbs) (k + l) (p / q) := by
  have hE' := nat_ne hE
  have m0 := top_ne hE hm h0
  have hv := div_lt hp.lo hp.hi (c := (E : Rat)) (q := q) (Rat.natCast_pos.mpr hE) (by rw [hm]; exact int_one m0)
  have e : p / q = p * (E : Rat) / (m : Rat) := by
    have h1 := int_ne m0
    rw [← hm] at h1 ⊢
    grind
  have hpE : G D (k + l) (p * (E : Rat)) := by
    obtain ⟨n, h1⟩ := hp.n
    have hEl' : (E : Rat) ≤ pw l := Rat.natCast_le_natCast.mpr hEl
    have E0 : 0 < (E : Rat) := Rat.natCast_pos.mpr hE
    have kp := pw_pos k
    have a1 := Rat.mul_nonneg (show 0 ≤ pw k by grind) (show 0 ≤ pw l - (E : Rat) by grind)
    have a2 := Rat.mul_pos (show 0 < pw k - p by have := hp.hi; grind) E0
    have a3 := Rat.mul_pos (show 0 < pw k + p by have := hp.lo; grind) E0
    refine ⟨⟨n * E, ?_⟩, by rw [pw_add]; grind, by rw [pw_add]; grind⟩
    rw [Rat.intCast_mul, ← h1]
    have : (((E : Int)) : Rat) = (E : Rat) := rfl
    rw [this]; grind
  rw [e]
  exact hpE.divI m0
theorem G.zero {D k : Nat} : G D k 0 := ⟨⟨0, by rw [Rat.zero_mul]; rfl⟩, by have := pw_pos k; grind, by have := pw_pos k; grind⟩
end PV
/-! ### ropes, plainly -/
namespace PV
def sm : List Rat → Rat
  | [] => 0
  | x :: r => x + sm r
theorem foldl_sm : ∀ (xs : List Rat) (s : Rat), xs.foldl (fun f o => f + o) s = s + sm xs
  | [], s => by show s = s + 0; grind
  | x :: r, s => by rw [List.foldl_cons, foldl_sm r]; show _ = s + (x + sm r); grind
theorem sm_app : ∀ (xs ys : List Rat), sm (xs ++ ys) = sm xs + sm ys
  | [], ys => by show sm ys = 0 + sm ys; grind
  | x :: r, ys => by show x + sm (r ++ ys) = (x + sm r) + sm ys; rw [sm_app r ys]; grind
def nearQ (at_ p : Rat) : Rat := if at_ < p then at_ else p
def farQ (at_ p : Rat) : Rat := if at_ < p then p else at_
theorem nf_le {x p : Rat} (h : x ≤ p) : nearQ x p = x ∧ farQ x p = p := by
  unfold nearQ farQ
  split
  · exact ⟨rfl, rfl⟩
  · constructor <;> grind
theorem nf_ge {x p : Rat} (h : p ≤ x) : nearQ x p = p ∧ farQ x p = x := by
  unfold nearQ farQ
  rw [if_neg (by grind), if_neg (by grind)]; exact ⟨rfl, rfl⟩
def lm (a b p : Rat) (l : Rat × Int) : Rat := ((l.2 : Rat) * ((nearQ l.1 p - a) * (b - farQ l.1 p))) / (b - a)
def ins (a b : Rat) (l : Rat × Int) : Bool := decide (a < l.1) && decide (l.1 < b)
def mom (a b w2 : Rat) (ls : List (Rat × Int)) (p : Rat) : Rat := sm ((ls.filter (ins a b)).map (lm a b p)) + w2 * ((p - a) * (b - p))
theorem lm_piece {a b L R p : Rat} {l : Rat × Int} (hab : a < b) (hLR : L < R) (no : ¬ (L < l.1 ∧ l.1 < R)) (h1 : L ≤ p) (h2 : p ≤ R) : lm a b p l * (R - L) = lm a b L l * (R - p) + lm a b R l * (p - L) := by
  unfold lm
  have hd : b - a ≠ 0 := by grind
  by_cases c : l.1 ≤ L
  · rw [(nf_le (x := l.1) (p := p) (by grind)).1, (nf_le (x := l.1) (p := p) (by grind)).2, (nf_le (x := l.1) (p := L) c).1, (nf_le (x := l.1) (p := L) c).2, (nf_le (x := l.1) (p := R) (by grind)).1, (nf_le (x := l.1) (p := R) (by grind)).2]
    grind
  · have c' : R ≤ l.1 := by grind
    rw [(nf_ge (x := l.1) (p := p) (by grind)).1, (nf_ge (x := l.1) (p := p) (by grind)).2, (nf_ge (x := l.1) (p := L) (by grind)).1, (nf_ge (x := l.1) (p := L) (by grind)).2, (nf_ge (x := l.1) (p := R) c').1, (nf_ge (x := l.1) (p := R) c').2]
    grind
theorem sm_piece {a b L R p : Rat} (hab : a < b) (hLR : L < R) (h1 : L ≤ p) (h2 : p ≤ R) : ∀ {ls : List (Rat × Int)}, (∀ l ∈ ls, ¬ (L < l.1 ∧ l.1 < R)) → sm (ls.map (lm a b p)) * (R - L) = sm (ls.map (lm a b L)) * (R - p) + sm (ls.map (lm a b R)) * (p - L)
  | [], _ => by show (0 : Rat) * _ = 0 * _ + 0 * _; grind
  | l :: ls, no => by
    have i := sm_piece hab hLR h1 h2 (ls := ls) fun x hx => no x (List.mem_cons_of_mem _ hx)
    have j := lm_piece hab hLR (no l (List.mem_cons_self ..)) h1 h2
    show (lm a b p l + sm (ls.map (lm a b p))) * (R - L) = (lm a b L l + sm (ls.map (lm a b L))) * (R - p) + (lm a b R l + sm (ls.map (lm a b R))) * (p - L)
    grind
/-- between two marks the moment is a parabola -/
theorem mom_piece {a b w2 L R p : Rat} {ls : List (Rat × Int)} (hab : a < b) (hLR : L < R) (no : ∀ l ∈ ls, ¬ (L < l.1 ∧ l.1 < R)) (h1 : L ≤ p) (h2 : p ≤ R) : mom a b w2 ls p * (R - L) = mom a b w2 ls L * (R - p) + mom a b w2 ls R * (p - L) + w2 * ((p - L) * (R - p) * (R - L)) := by
  have := sm_piece hab hLR h1 h2 (ls := ls.filter (ins a b)) fun l hl => no l (List.mem_filter.mp hl).1
  unfold mom
  grind
theorem mom_a {a b w2 : Rat} {ls : List (Rat × Int)} : mom a b w2 ls a = 0 := by
  have key : ∀ {xs : List (Rat × Int)}, (∀ l ∈ xs, a ≤ l.1) → sm (xs.map (lm a b a)) = 0 := by
    intro xs
    induction xs with
    | nil => intro _; rfl
    | cons l r ih =>
      intro h
      show lm a b a l + sm (r.map (lm a b a)) = 0
      rw [ih fun x hx => h x (List.mem_cons_of_mem _ hx)]
      unfold lm
      rw [(nf_ge (x := l.1) (p := a) (h l (List.mem_cons_self ..))).1]
      rw [Rat.div_def]
      grind
  unfold mom
  rw [key fun l hl => by
    have := (List.mem_filter.mp hl).2
    unfold ins at this
    rw [Bool.and_eq_true, decide_eq_true_eq, decide_eq_true_eq] at this
    grind]
  grind
/-- a parabola's top -/
theorem top_case {L R p w2 mL mR mp : Rat} (hLR : L < R) (hw : 0 < w2) (h1 : L ≤ p) (h2 : p ≤ R) (e : mp * (R - L) = mL * (R - p) + mR * (p - L) + w2 * ((p - L) * (R - p) * (R - L))) {t : Rat} (ht : t = (L + R) / 2 + (mR - mL) / (2 * w2 * (R - L))) :
    mp = mL + w2 * ((t - L) * (t - L)) - w2 * ((p - t) * (p - t)) ∧ mp = mR + w2 * ((t - R) * (t - R)) - w2 * ((p - t) * (p - t)) := by
  have hd : R - L ≠ 0 := by grind
  have hw' : w2 ≠ 0 := by grind
  have e2 : (mR - mL) = (t - (L + R) / 2) * (2 * w2 * (R - L)) := by
    rw [ht]; grind
  constructor <;> grind
theorem sq_nonneg (x : Rat) : 0 ≤ x * x := by
  by_cases h : 0 ≤ x
  · exact Rat.mul_nonneg h h
  · have := Rat.mul_nonneg (a := -x) (b := -x) (by grind) (by grind)
    grind
theorem sq_pos {x : Rat} (h : x ≠ 0) : 0 < x * x := by
  by_cases h0 : 0 < x
  · exact Rat.mul_pos h0 h0
  · have := Rat.mul_pos (a := -x) (b := -x) (by grind) (by grind)
    grind
theorem mul_le {x y c : Rat} (h : x ≤ y) (hc : 0 ≤ c) : c * x ≤ c * y := Rat.mul_le_mul_of_nonneg_left h hc
theorem mul_lt {x y c : Rat} (h : x < y) (hc : 0 < c) : c * x < c * y := by
  have := Rat.mul_pos hc (show 0 < y - x by grind)
  grind
/-- the least place at which one is greatest: among the ends of a piece and its turn -/
theorem best_piece {L R p w2 mL mR mp : Rat} (hLR : L < R) (hw : 0 < w2) (h1 : L ≤ p) (h2 : p ≤ R) (e : mp * (R - L) = mL * (R - p) + mR * (p - L) + w2 * ((p - L) * (R - p) * (R - L))) {t mt : Rat} (ht : t = (L + R) / 2 + (mR - mL) / (2 * w2 * (R - L))) (hmt : L < t → t < R → mt = mL + w2 * ((t - L) * (t - L))) :
    (mp < mL ∨ mp ≤ mL ∧ L ≤ p) ∨ (mp < mR ∨ mp ≤ mR ∧ R ≤ p) ∨ (L < t ∧ t < R ∧ (mp < mt ∨ mp ≤ mt ∧ t ≤ p)) := by
  obtain ⟨eL, eR⟩ := top_case hLR hw h1 h2 e ht
  by_cases c1 : t ≤ L
  · left; right
    refine ⟨?_, h1⟩
    have : (t - L) * (t - L) ≤ (p - t) * (p - t) := by
      have := Rat.mul_nonneg (a := p - L) (b := (p - t) + (L - t)) (by grind) (by grind)
      grind
    have := mul_le this (c := w2) (by grind)
    grind
  · by_cases c2 : R ≤ t
    · right; left
      by_cases c3 : p = R
      · right; subst c3; exact ⟨by have hz : (t - p) * (t - p) = (p - t) * (p - t) := by grind
                                   grind, by grind⟩
      · left
        have : (t - R) * (t - R) < (p - t) * (p - t) := by
          have := Rat.mul_pos (a := R - p) (b := (t - p) + (t - R)) (by grind) (by grind)
          grind
        have := mul_lt this hw
        grind
    · right; right
      refine ⟨by grind, by grind, ?_⟩
      have hm := hmt (by grind) (by grind)
      by_cases c3 : p = t
      · right; subst c3; exact ⟨by grind, by grind⟩
      · left
        have := mul_lt (sq_pos (x := p - t) (by grind)) hw
        grind
/-- .. without a weight -/
theorem best_flat {L R p mL mR mp : Rat} (hLR : L < R) (h1 : L ≤ p) (h2 : p ≤ R) (e : mp * (R - L) = mL * (R - p) + mR * (p - L)) : (mp < mL ∨ mp ≤ mL ∧ L ≤ p) ∨ (mp < mR ∨ mp ≤ mR ∧ R ≤ p) := by
  by_cases c : mR ≤ mL
  · left; right
    refine ⟨?_, h1⟩
    by_cases q : mp ≤ mL
    · exact q
    · exfalso
      have a1 := mul_lt (show mL < mp by grind) (show 0 < R - L by grind)
      have a2 := mul_le c (show 0 ≤ p - L by grind)
      grind
  · right
    by_cases c3 : p = R
    · right; subst c3
      refine ⟨?_, by grind⟩
      have hd : p - L ≠ 0 := by grind
      by_cases q : mp ≤ mR
      · exact q
      · exfalso
        have a1 := mul_lt (show mR < mp by grind) (show 0 < p - L by grind)
        grind
    · left
      by_cases q : mp < mR
      · exact q
      · exfalso
        have a1 := mul_le (show mR ≤ mp by grind) (show 0 ≤ R - L by grind)
        have a2 := mul_lt (show mL < mR by grind) (show 0 < R - p by grind)
        grind
end PV
namespace PV
open PySem
theorem G.sz {D k d n : Nat} {q : Rat} (h : G D k q) (hD : 0 < D) (hd : D < 2 ^ d) (hn : k + d ≤ n) : Sz n q := by
  obtain ⟨t, h1⟩ := h.n
  have hD' := nat_ne hD
  have e : q = Rat.divInt t (D : Int) := by
    rw [Rat.divInt_eq_div, ← h1]
    have : (((D : Int)) : Rat) = (D : Rat) := rfl
    rw [this]; grind
  have ht : t.natAbs < 2 ^ n := by
    have D0 : 0 < (D : Rat) := Rat.natCast_pos.mpr hD
    have Dd : (D : Rat) < pw d := Rat.natCast_lt_natCast.mpr hd
    have kp := pw_pos k
    have a1 := Rat.mul_pos (show 0 < pw k by grind) (show 0 < pw d - (D : Rat) by grind)
    have a2 := Rat.mul_pos (show 0 < pw k - q by have := h.hi; grind) D0
    have a3 := Rat.mul_pos (show 0 < pw k + q by have := h.lo; grind) D0
    have b1 : (t : Rat) < pw (k + d) := by rw [pw_add, ← h1]; grind
    have b2 : -pw (k + d) < (t : Rat) := by rw [pw_add, ← h1]; grind
    have e2 : pw (k + d) = (((2 ^ (k + d) : Nat) : Int) : Rat) := rfl
    rw [e2] at b1 b2
    rw [← Rat.intCast_neg] at b2
    have c1 := Rat.intCast_lt_intCast.mp b1
    have c2 := Rat.intCast_lt_intCast.mp b2
    have : (2 : Nat) ^ (k + d) ≤ 2 ^ n := Nat.pow_le_pow_right (by decide) hn
    omega
  rw [e]
  refine divInt_sz (by omega) ht ?_
  rw [Int.natAbs_natCast]
  exact Nat.lt_of_lt_of_le hd (Nat.pow_le_pow_right (by decide) (by omega))
theorem sm_G {D k : Nat} : ∀ {xs : List Rat}, (∀ x ∈ xs, G D k x) → (∃ n : Int, sm xs * (D : Rat) = (n : Rat)) ∧ -((xs.length : Rat) * pw k) ≤ sm xs ∧ sm xs ≤ (xs.length : Rat) * pw k ∧ (xs ≠ [] → -((xs.length : Rat) * pw k) < sm xs ∧ sm xs < (xs.length : Rat) * pw k)
  | [], _ => ⟨⟨0, by show (0 : Rat) * _ = _; rw [Rat.zero_mul]; rfl⟩, by show -((0 : Rat) * _) ≤ 0; grind, by show (0 : Rat) ≤ 0 * _; grind, fun h => absurd rfl h⟩
  | x :: r, h => by
    obtain ⟨⟨n, h1⟩, h2, h3, _⟩ := sm_G (xs := r) fun y hy => h y (List.mem_cons_of_mem _ hy)
    have hx := h x (List.mem_cons_self ..)
    obtain ⟨m, h4⟩ := hx.n
    have e : (((x :: r).length : Nat) : Rat) = (r.length : Rat) + 1 := by rw [List.length_cons, Rat.natCast_add]; rfl
    have l := hx.lo
    have u := hx.hi
    refine ⟨⟨m + n, ?_⟩, ?_, ?_, fun _ => ⟨?_, ?_⟩⟩
    · show (x + sm r) * _ = _
      rw [Rat.add_mul, h1, h4, Rat.intCast_add]
    all_goals rw [e]; show _ ; simp only [sm]; grind
theorem G.sum {D k j : Nat} {xs : List Rat} (h : ∀ x ∈ xs, G D k x) (hl : xs.length ≤ 2 ^ j) : G D (k + j) (sm xs) := by
  obtain ⟨h1, h2, h3, h4⟩ := sm_G h
  have hj : (xs.length : Rat) ≤ pw j := Rat.natCast_le_natCast.mpr hl
  have := Rat.mul_nonneg (show 0 ≤ pw j - (xs.length : Rat) by grind) (show 0 ≤ pw k by have := pw_pos k; grind)
  by_cases c : xs = []
  · subst c
    show G D (k + j) 0
    exact G.zero
  · obtain ⟨a1, a2⟩ := h4 c
    exact ⟨h1, by rw [pw_add]; grind, by rw [pw_add]; grind⟩
end PV
end
section
set_option Elab.async false
set_option linter.all false
set_option maxRecDepth 100000
set_option maxHeartbeats 4000000
namespace Law
open PySem PySem.Spec PyProof.Rows L2 PV
def top (i : Nat) : Stmt := PySem.Challenge.pw_ropesbear_k64_loops_bent_beat_by_beat.main.body.getD i (.Pass ⟨0, 0, 0, 0⟩)
structure Bi (mg : Str → Option Value) : Prop where
  l_ValueError : mg "ValueError" = none
  l_all : mg "all" = none
  l_bool : mg "bool" = none
  l_int : mg "int" = none
  l_isinstance : mg "isinstance" = none
  l_len : mg "len" = none
  l_list : mg "list" = none
  l_max : mg "max" = none
  l_min : mg "min" = none
  l_range : mg "range" = none
  l_str : mg "str" = none
  l_sum : mg "sum" = none
  l_tuple : mg "tuple" = none
def exL : List Str := ["InvalidLoop", "RopeError"]
def exP : List (Str × Str) := [("InvalidLoop", "InvalidLoop"), ("InvalidLoop", "RopeError"), ("InvalidLoop", "ValueError"), ("RopeError", "RopeError"), ("RopeError", "ValueError")]
def subX (c x : Str) : Bool := decide ((c, x) ∈ exP)
theorem ml_InvalidLoop : ("InvalidLoop" : Str) ∈ exL := by decide +kernel
theorem sx_InvalidLoop_InvalidLoop : subX "InvalidLoop" "InvalidLoop" = true := by decide +kernel
theorem sx_InvalidLoop_RopeError : subX "InvalidLoop" "RopeError" = true := by decide +kernel
theorem sx_InvalidLoop_ValueError : subX "InvalidLoop" "ValueError" = true := by decide +kernel
theorem ml_RopeError : ("RopeError" : Str) ∈ exL := by decide +kernel
theorem sx_RopeError_InvalidLoop : subX "RopeError" "InvalidLoop" = false := by decide +kernel
theorem sx_RopeError_RopeError : subX "RopeError" "RopeError" = true := by decide +kernel
theorem sx_RopeError_ValueError : subX "RopeError" "ValueError" = true := by decide +kernel
abbrev s_law_draws : Stmt := top 22
abbrev N_law_draws : List Str := ["script", "at", "count", "cell", "great", "found", "k", "mixed"]
theorem sc_law_draws : FnScope N_law_draws ["script", "at", "count"] (defScope s_law_draws) := ⟨rfl, rfl, rfl, by decide +kernel, rfl, by decide +kernel, by decide +kernel⟩
noncomputable def l_law_draws_0 : Evn → RS :=
  (sIf (mT (mGet 4))
    (sThen (sApp 5 (m2 pMod (mCall bInt (mCons (mGet 3) mNil)) (mC (.int 5040))))
    (sSet 3 (m2 pDiv (mGet 3) (mC (.int 5040)))))
    (sThen (sSet 7 (m2 pMod (mCall bInt (mCons (m2 pAdd (m2 pAdd (m2 pMul (mGet 3) (mC (.int 69621))) (m2 pMul (m2 pAdd (mGet 6) (m2 pMul (mC (.int 64)) (mGet 1))) (mC (.int 48271)))) (mC (.int 13))) mNil)) (mC (.int 2147483647))))
    (sThen (sSet 7 (m2 pMod (mCall bInt (mCons (m2 pAdd (m2 pAdd (m2 pMul (mGet 7) (mGet 7)) (m2 pMul (mGet 7) (mC (.int 40014)))) (m2 pMul (mGet 6) (mC (.int 7919)))) mNil)) (mC (.int 2147483563))))
    (sApp 5 (m2 pMod (mCall bInt (mCons (m2 pDiv (mGet 7) (mC (.int 64))) mNil)) (mC (.int 5040)))))))
theorem u_law_draws_0 (ρ : Evn) : l_law_draws_0 ρ = (sIf (mT (mGet 4))
    (sThen (sApp 5 (m2 pMod (mCall bInt (mCons (mGet 3) mNil)) (mC (.int 5040))))
    (sSet 3 (m2 pDiv (mGet 3) (mC (.int 5040)))))
    (sThen (sSet 7 (m2 pMod (mCall bInt (mCons (m2 pAdd (m2 pAdd (m2 pMul (mGet 3) (mC (.int 69621))) (m2 pMul (m2 pAdd (mGet 6) (m2 pMul (mC (.int 64)) (mGet 1))) (mC (.int 48271)))) (mC (.int 13))) mNil)) (mC (.int 2147483647))))
    (sThen (sSet 7 (m2 pMod (mCall bInt (mCons (m2 pAdd (m2 pAdd (m2 pMul (mGet 7) (mGet 7)) (m2 pMul (mGet 7) (mC (.int 40014)))) (m2 pMul (mGet 6) (mC (.int 7919)))) mNil)) (mC (.int 2147483563))))
    (sApp 5 (m2 pMod (mCall bInt (mCons (m2 pDiv (mGet 7) (mC (.int 64))) mNil)) (mC (.int 5040))))))) ρ := nr rfl
noncomputable def b_law_draws : Evn → RS :=
  (sThen (sSet 3 (mC (.int 0)))
  (sThen (sIf (mB (m2 pLt (mGet 1) (mCall bLen (mCons (mGet 0) mNil))))
    (sSet 3 (mCall bInt (mCons (m2 pIdx (mGet 0) (mGet 1)) mNil)))
    sNx)
  (sThen (sSet 4 (m2 pGe (mGet 3) (m2 pPow (mC (.int 10)) (mC (.int 18)))))
  (sThen (sSetO 5 (mDsp mNil))
  (sThen (sFor (mWk rng1 (mCons (mGet 2) mNil)) (gN 6) l_law_draws_0)
  (fun ρ => (sRet (mGet 5)) (freeze 5 ρ)))))))
noncomputable def m_law_draws : List PyData → RE PyData := fnM 3 8 b_law_draws
theorem ok_law_draws {P : Program} {w : World} {K : PySem.W.Frag} {mg : Str → Option Value} {base : Heap} {f : Addr} {fd : FuncData} (F : FnP K "_law_draws" s_law_draws f fd) (gl : mg "_law_draws" = some (.ref f)) (bi : Bi mg) : Cal P w K mg base 1 "_law_draws" ["script", "at", "count"] m_law_draws :=
  Cal.of (k := 0) F gl sc_law_draws (fun _ _ _ _ _ _ us hl => match us, hl with | [_, _, _], _ => rfl) fun cdv A outer s H E F0 hr => by
    have nd := sc_law_draws.nd; have tk := takesD (P := P) (w := w) (K := K) (mg := mg) (base := base) (N := N_law_draws) (qual := "_law_draws") (scope := defScope s_law_draws) (f := f) (cdv := cdv) (A := A) (outer := outer) (s := s) (H := H) (E := E); have po := passes_of (X := cxOf (L2.CX P w) P w K mg base N_law_draws "_law_draws" (defScope s_law_draws) f cdv A outer s H E) rfl; exact
    (vs_cons (vs_set 3 nd ve_int)
  (vs_cons (vs_if (vt_cmp opv_lt (ve_var 1) (ve_callB cb_len rfl bi.l_len rfl (va_cons (ve_var 0) va_nil))) (vs_one (vs_set 3 nd (ve_callTy cb_int rfl bi.l_int rfl (va_cons (ve_ix (ve_var 0) (ve_var 1)) va_nil)))) vs_nil)
  (vs_cons (vs_set 4 nd (ve_cmp opv_ge (ve_var 3) (ve_op opv_pow ve_int ve_int)))
  (vs_cons (vs_setO 5 nd (vf_lst va_nil))
  (vs_cons (vs_for po rfl (vi_range1 rfl bi.l_range (va_cons (ve_var 2) va_nil)) (vg_name 6 nd) (vs_one (vs_if (vt_truth (ve_var 4)) (vs_cons (vs_append 5 (ve_op opv_mod (ve_callTy cb_int rfl bi.l_int rfl (va_cons (ve_var 3) va_nil)) ve_int))
    (vs_one (vs_set 3 nd (ve_op opv_div (ve_var 3) ve_int)))) (vs_cons (vs_set 7 nd (ve_op opv_mod (ve_callTy cb_int rfl bi.l_int rfl (va_cons (ve_op opv_add (ve_op opv_add (ve_op opv_mul (ve_var 3) ve_int) (ve_op opv_mul (ve_op opv_add (ve_var 6) (ve_op opv_mul ve_int (ve_var 1))) ve_int)) ve_int) va_nil)) ve_int))
    (vs_cons (vs_set 7 nd (ve_op opv_mod (ve_callTy cb_int rfl bi.l_int rfl (va_cons (ve_op opv_add (ve_op opv_add (ve_op opv_mul (ve_var 7) (ve_var 7)) (ve_op opv_mul (ve_var 7) ve_int)) (ve_op opv_mul (ve_var 6) ve_int)) va_nil)) ve_int))
    (vs_one (vs_append 5 (ve_op opv_mod (ve_callTy cb_int rfl bi.l_int rfl (va_cons (ve_op opv_div (ve_var 7) ve_int) va_nil)) ve_int))))))))
  (vs_one (vs_freeze 5 (vs_ret (ve_var 5)))))))))
abbrev s_law_loop : Stmt := top 25
abbrev N_law_loop : List Str := ["script", "at", "most", "picks", "pieces", "wheels", "place", "k", "grips", "piece"]
theorem sc_law_loop : FnScope N_law_loop ["script", "at", "most"] (defScope s_law_loop) := ⟨rfl, rfl, rfl, by decide +kernel, rfl, by decide +kernel, by decide +kernel⟩
noncomputable def l_law_loop_0 : Evn → RS :=
  (sIf (mAndB (mB (m2 pLt (mGet 6) (mGet 4))) (mB (m2 pLt (mBor 5 (mCall bLen (mCons (mGet 5) mNil))) (mC (.int 20)))))
    (sThen (sApp 5 (mSeq mTup (mCons (mGet 6) (mCons (m2 pAdd (mC (.int 1)) (m2 pMod (m2 pIdx (mGet 3) (m2 pAdd (mC (.int 3)) (m2 pMul (mC (.int 2)) (mGet 7)))) (m2 pIdx (mSeq mLst (mCons (mC (.int 1)) (mCons (mC (.int 3)) (mCons (mC (.int 900)) mNil)))) (m2 pMod (m2 pIdx (mGet 3) (mC (.int 15))) (mC (.int 3)))))) (mCons (m2 pMod (m2 pIdx (mGet 3) (m2 pAdd (mC (.int 4)) (m2 pMul (mC (.int 2)) (mGet 7)))) (m2 pIdx (mSeq mLst (mCons (mC (.int 1)) (mCons (mC (.int 4)) (mCons (mC (.int 50)) mNil)))) (m2 pMod (m2 pIdx (mGet 3) (mC (.int 16))) (mC (.int 3))))) mNil)))))
    (sSet 6 (m2 pAdd (m2 pAdd (mGet 6) (mC (.int 1))) (m2 pMod (m2 pIdx (mGet 3) (m2 pAdd (mC (.int 17)) (mGet 7))) (mCall bMax (mCons (mC (.int 1)) (mCons (m2 pDiv (mGet 4) (mC (.int 3))) mNil)))))))
    sNx)
theorem u_law_loop_0 (ρ : Evn) : l_law_loop_0 ρ = (sIf (mAndB (mB (m2 pLt (mGet 6) (mGet 4))) (mB (m2 pLt (mBor 5 (mCall bLen (mCons (mGet 5) mNil))) (mC (.int 20)))))
    (sThen (sApp 5 (mSeq mTup (mCons (mGet 6) (mCons (m2 pAdd (mC (.int 1)) (m2 pMod (m2 pIdx (mGet 3) (m2 pAdd (mC (.int 3)) (m2 pMul (mC (.int 2)) (mGet 7)))) (m2 pIdx (mSeq mLst (mCons (mC (.int 1)) (mCons (mC (.int 3)) (mCons (mC (.int 900)) mNil)))) (m2 pMod (m2 pIdx (mGet 3) (mC (.int 15))) (mC (.int 3)))))) (mCons (m2 pMod (m2 pIdx (mGet 3) (m2 pAdd (mC (.int 4)) (m2 pMul (mC (.int 2)) (mGet 7)))) (m2 pIdx (mSeq mLst (mCons (mC (.int 1)) (mCons (mC (.int 4)) (mCons (mC (.int 50)) mNil)))) (m2 pMod (m2 pIdx (mGet 3) (mC (.int 16))) (mC (.int 3))))) mNil)))))
    (sSet 6 (m2 pAdd (m2 pAdd (mGet 6) (mC (.int 1))) (m2 pMod (m2 pIdx (mGet 3) (m2 pAdd (mC (.int 17)) (mGet 7))) (mCall bMax (mCons (mC (.int 1)) (mCons (m2 pDiv (mGet 4) (mC (.int 3))) mNil)))))))
    sNx) ρ := nr rfl
noncomputable def b_law_loop : Evn → RS :=
  (sThen (sSet 3 (mSeq m_law_draws (mCons (mGet 0) (mCons (mGet 1) (mCons (mC (.int 60)) mNil)))))
  (sThen (sSet 4 (m2 pAdd (mC (.int 2)) (m2 pMod (m2 pIdx (mGet 3) (mC (.int 0))) (m2 pSub (mGet 2) (mC (.int 1))))))
  (sThen (sSetO 5 (mDsp mNil))
  (sThen (sSet 6 (m2 pMod (m2 pIdx (mGet 3) (mC (.int 1))) (mGet 4)))
  (sThen (sFor (mWk rng1 (mCons (m2 pAdd (mC (.int 1)) (m2 pMod (m2 pIdx (mGet 3) (mC (.int 2))) (mC (.int 6)))) mNil)) (gN 7) l_law_loop_0)
  (sThen (sSetL 8 (mLc (mWk rng1 (mCons (mGet 4) mNil)) (gN 9) (mB (m2 pEq (m2 pMod (m2 pIdx (mGet 3) (m2 pAdd (mC (.int 24)) (m2 pMod (mGet 9) (mC (.int 36))))) (m2 pIdx (mSeq mLst (mCons (mC (.int 2)) (mCons (mC (.int 5)) (mCons (mC (.int 40)) mNil)))) (m2 pMod (m2 pIdx (mGet 3) (mC (.int 18))) (mC (.int 3))))) (mC (.int 0)))) (mGet 9) [9]))
  (fun ρ => (sRet (mSeq mTup (mCons (mGet 4) (mCons (mGet 5) (mCons (mGet 8) mNil))))) (freeze 5 ρ))))))))
noncomputable def m_law_loop : List PyData → RE PyData := fnM 3 10 b_law_loop
theorem ok_law_loop {P : Program} {w : World} {K : PySem.W.Frag} {mg : Str → Option Value} {base : Heap} {f : Addr} {fd : FuncData} (F : FnP K "_law_loop" s_law_loop f fd) (gl : mg "_law_loop" = some (.ref f)) (bi : Bi mg) (C_law_draws : Cal P w K mg base 1 "_law_draws" ["script", "at", "count"] m_law_draws) : Cal P w K mg base 2 "_law_loop" ["script", "at", "most"] m_law_loop :=
  Cal.of (k := 1) F gl sc_law_loop (fun _ _ _ _ _ _ us hl => match us, hl with | [_, _, _], _ => rfl) fun cdv A outer s H E F0 hr => by
    have nd := sc_law_loop.nd; have tk := takesD (P := P) (w := w) (K := K) (mg := mg) (base := base) (N := N_law_loop) (qual := "_law_loop") (scope := defScope s_law_loop) (f := f) (cdv := cdv) (A := A) (outer := outer) (s := s) (H := H) (E := E); have po := passes_of (X := cxOf (L2.CX P w) P w K mg base N_law_loop "_law_loop" (defScope s_law_loop) f cdv A outer s H E) rfl; exact
    (vs_cons (vs_set 3 nd (ve_cal C_law_draws hr tk (va_cons (ve_var 0) (va_cons (ve_var 1) (va_cons ve_int va_nil)))))
  (vs_cons (vs_set 4 nd (ve_op opv_add ve_int (ve_op opv_mod (ve_ix (ve_var 3) ve_int) (ve_op opv_sub (ve_var 2) ve_int))))
  (vs_cons (vs_setO 5 nd (vf_lst va_nil))
  (vs_cons (vs_set 6 nd (ve_op opv_mod (ve_ix (ve_var 3) ve_int) (ve_var 4)))
  (vs_cons (vs_for po rfl (vi_range1 rfl bi.l_range (va_cons (ve_op opv_add ve_int (ve_op opv_mod (ve_ix (ve_var 3) ve_int) ve_int)) va_nil)) (vg_name 7 nd) (vs_one (vs_if (VW.t (vw_and (vt_cmp opv_lt (ve_var 6) (ve_var 4)) (vw_and1 (vt_cmp opv_lt (ve_bor 5 (ve_callB cb_len rfl bi.l_len rfl (va_cons (ve_var 5) va_nil))) ve_int)))) (vs_cons (vs_append 5 (ve_tup (va_cons (ve_var 6) (va_cons (ve_op opv_add ve_int (ve_op opv_mod (ve_ix (ve_var 3) (ve_op opv_add ve_int (ve_op opv_mul ve_int (ve_var 7)))) (ve_ix (ve_lst (va_cons ve_int (va_cons ve_int (va_cons ve_int va_nil)))) (ve_op opv_mod (ve_ix (ve_var 3) ve_int) ve_int)))) (va_cons (ve_op opv_mod (ve_ix (ve_var 3) (ve_op opv_add ve_int (ve_op opv_mul ve_int (ve_var 7)))) (ve_ix (ve_lst (va_cons ve_int (va_cons ve_int (va_cons ve_int va_nil)))) (ve_op opv_mod (ve_ix (ve_var 3) ve_int) ve_int))) va_nil)))))
    (vs_one (vs_set 6 nd (ve_op opv_add (ve_op opv_add (ve_var 6) ve_int) (ve_op opv_mod (ve_ix (ve_var 3) (ve_op opv_add ve_int (ve_var 7))) (ve_callB (cb_max rfl) (by rfl) bi.l_max (by rfl) (va_cons ve_int (va_cons (ve_op opv_div (ve_var 4) ve_int) va_nil)))))))) vs_nil)))
  (vs_cons (vs_lcL 8 rfl nd (vi_range1 rfl bi.l_range (va_cons (ve_var 4) va_nil)) (blkOk_by (own := [("piece", 9)]) (N := N_law_loop) (sc := defScope s_law_loop) (by decide +kernel)) (fun _ _ _ _ _ => (vg_name 9 nd)) (fun _ _ _ _ _ => (vts_one (vt_cmp (opv_eq hr) (ve_op opv_mod (ve_ix (ve_var 3) (ve_op opv_add ve_int (ve_op opv_mod (ve_var 9) ve_int))) (ve_ix (ve_lst (va_cons ve_int (va_cons ve_int (va_cons ve_int va_nil)))) (ve_op opv_mod (ve_ix (ve_var 3) ve_int) ve_int))) ve_int))) (fun _ _ _ _ _ => (ve_var 9)))
  (vs_one (vs_freeze 5 (vs_ret (ve_tup (va_cons (ve_var 4) (va_cons (ve_var 5) (va_cons (ve_var 8) va_nil)))))))))))))
abbrev s_law_others : Stmt := top 29
abbrev N_law_others : List Str := ["loop", "pick", "pieces", "wheels", "grips", "place", "bend", "more", "found", "k"]
theorem sc_law_others : FnScope N_law_others ["loop", "pick"] (defScope s_law_others) := ⟨rfl, rfl, rfl, by decide +kernel, rfl, by decide +kernel, by decide +kernel⟩
noncomputable def b_law_others : Evn → RS :=
  (sThen (sAsg (mGet 0) (gT 3 (gC (gN 2) (gC (gN 3) (gC (gN 4) gE)))))
  (sThen (sAsg (m2 pIdx (mGet 3) (mC (.int 0))) (gT 3 (gC (gN 5) (gC (gN 6) (gC (gN 7) gE)))))
  (sThen (sSet 8 (mSeq mLst (mCons (mSeq mTup (mCons (mC (.int 1)) (mCons (mSeq mLst (mCons (mSeq mTup (mCons (mC (.int 0)) (mCons (mC (.int 1)) (mCons (mC (.int 0)) mNil)))) mNil)) (mCons (mSeq mLst mNil) mNil)))) (mCons (mSeq mTup (mCons (mC (.int 501)) (mCons (mGet 3) (mCons (mGet 4) mNil)))) (mCons (mSeq mTup (mCons (mGet 2) (mCons (mSeq mLst mNil) (mCons (mGet 4) mNil)))) (mCons (mSeq mTup (mCons (mGet 2) (mCons (m2 pAdd (mGet 3) (mSeq mLst (mCons (m2 pIdx (mGet 3) (mC (.int 0))) mNil))) (mCons (mGet 4) mNil)))) mNil))))))
  (sThen (sSet 8 (m2 pAdd (mGet 8) (mSeq mLst (mCons (mSeq mTup (mCons (mC (.bool true)) (mCons (mGet 3) (mCons (mGet 4) mNil)))) (mCons (mSeq mTup (mCons (mGet 2) (mCons (mSeq mLst (mCons (mSeq mTup (mCons (mGet 5) (mCons (mC (.int 0)) (mCons (mGet 7) mNil)))) mNil)) (mCons (mGet 4) mNil)))) (mCons (mSeq mTup (mCons (mGet 2) (mCons (mSeq mLst (mCons (mSeq mTup (mCons (mGet 5) (mCons (mGet 6) (mCons (m1 pNeg (mC (.int 1))) mNil)))) mNil)) (mCons (mGet 4) mNil)))) mNil))))))
  (sThen (sSet 8 (m2 pAdd (mGet 8) (mSeq mLst (mCons (mSeq mTup (mCons (mGet 2) (mCons (mSeq mLst (mCons (mSeq mTup (mCons (mGet 5) (mCons (mGet 6) mNil))) mNil)) (mCons (mGet 4) mNil)))) (mCons (mSeq mTup (mCons (mGet 2) (mCons (mSeq mLst (mCons (mSeq mLst (mCons (mGet 5) (mCons (mGet 6) (mCons (mGet 7) mNil)))) mNil)) (mCons (mGet 4) mNil)))) (mCons (mSeq mTup (mCons (mGet 2) (mCons (mSeq mLst (mCons (mSeq mTup (mCons (mGet 2) (mCons (mC (.int 1)) (mCons (mC (.int 1)) mNil)))) mNil)) (mCons (mGet 4) mNil)))) mNil))))))
  (sThen (sSet 8 (m2 pAdd (mGet 8) (mSeq mLst (mCons (mSeq mTup (mCons (mGet 2) (mCons (mSeq mLst (mCons (mSeq mTup (mCons (m1 pNeg (mC (.int 1))) (mCons (mC (.int 1)) (mCons (mC (.int 1)) mNil)))) mNil)) (mCons (mGet 4) mNil)))) (mCons (mSeq mTup (mCons (mGet 2) (mCons (mGet 3) (mCons (mSeq mLst (mCons (mGet 2) mNil)) mNil)))) (mCons (mSeq mTup (mCons (mGet 2) (mCons (mGet 3) (mCons (mSeq mLst (mCons (m1 pNeg (mC (.int 1))) mNil)) mNil)))) (mCons (mSeq mTup (mCons (mGet 2) (mCons (mGet 3) (mCons (mSeq mLst (mCons (mC (.int 1)) (mCons (mC (.int 1)) mNil))) mNil)))) mNil)))))))
  (sThen (sSet 8 (m2 pAdd (mGet 8) (mSeq mLst (mCons (mSeq mTup (mCons (mGet 2) (mCons (mGet 3) (mCons (mSeq mLst (mCons (mC (.int 1)) (mCons (mC (.int 0)) mNil))) mNil)))) (mCons (mSeq mTup (mCons (mGet 2) (mCons (mGet 3) (mCons (mSeq mLst (mCons (mC (.str "0")) mNil)) mNil)))) (mCons (mSeq mTup (mCons (mGet 2) (mCons (mGet 3) (mCons (mSeq mLst (mCons (mC (.bool false)) (mCons (mC (.int 1)) mNil))) mNil)))) (mCons (mSeq mTup (mCons (mGet 2) (mCons (mSeq mLst (mCons (mSeq mTup (mCons (mC (.bool true)) (mCons (mC (.int 1)) (mCons (mC (.int 0)) mNil)))) mNil)) (mCons (mGet 4) mNil)))) mNil)))))))
  (sThen (sSet 8 (m2 pAdd (mGet 8) (mSeq mLst (mCons (mSeq mTup (mCons (mC .none) (mCons (mSeq mLst (mCons (mSeq mTup (mCons (mC (.int 0)) (mCons (mC (.int 1)) (mCons (mC (.int 0)) mNil)))) mNil)) (mCons (mSeq mLst mNil) mNil)))) (mCons (mSeq mTup (mCons (mC (.int 500)) (mCons (mL (mLc (mWk rng1 (mCons (mC (.int 21)) mNil)) (gN 9) mYes (mSeq mTup (mCons (mGet 9) (mCons (mC (.int 1)) (mCons (mC (.int 0)) mNil)))) [9])) (mCons (mSeq mLst mNil) mNil)))) (mCons (mSeq mTup (mCons (mC (.str "12")) (mCons (mGet 3) (mCons (mGet 4) mNil)))) mNil))))))
  (sRet (mL (mLc (mWk rng1 (mCons (mC (.int 6)) mNil)) (gN 9) mYes (m2 pIdx (mGet 8) (m2 pMod (mCall bInt (mCons (m2 pAdd (mGet 1) (m2 pMul (mC (.int 5)) (mGet 9))) mNil)) (mCall bLen (mCons (mGet 8) mNil)))) [9])))))))))))
noncomputable def m_law_others : List PyData → RE PyData := fnM 2 10 b_law_others
theorem ok_law_others {P : Program} {w : World} {K : PySem.W.Frag} {mg : Str → Option Value} {base : Heap} {f : Addr} {fd : FuncData} (F : FnP K "_law_others" s_law_others f fd) (gl : mg "_law_others" = some (.ref f)) (bi : Bi mg) : Cal P w K mg base 1 "_law_others" ["loop", "pick"] m_law_others :=
  Cal.of (k := 0) F gl sc_law_others (fun _ _ _ _ _ _ us hl => match us, hl with | [_, _], _ => rfl) fun cdv A outer s H E F0 hr => by
    have nd := sc_law_others.nd; have tk := takesD (P := P) (w := w) (K := K) (mg := mg) (base := base) (N := N_law_others) (qual := "_law_others") (scope := defScope s_law_others) (f := f) (cdv := cdv) (A := A) (outer := outer) (s := s) (H := H) (E := E); have po := passes_of (X := cxOf (L2.CX P w) P w K mg base N_law_others "_law_others" (defScope s_law_others) f cdv A outer s H E) rfl; exact
    (vs_cons (vs_asg (ve_var 0) (vg_tup rfl (vgs_cons (vg_name 2 nd) (vgs_cons (vg_name 3 nd) (vgs_cons (vg_name 4 nd) vgs_nil)))))
  (vs_cons (vs_asg (ve_ix (ve_var 3) ve_int) (vg_tup rfl (vgs_cons (vg_name 5 nd) (vgs_cons (vg_name 6 nd) (vgs_cons (vg_name 7 nd) vgs_nil)))))
  (vs_cons (vs_set 8 nd (ve_lst (va_cons (ve_tup (va_cons ve_int (va_cons (ve_lst (va_cons (ve_tup (va_cons ve_int (va_cons ve_int (va_cons ve_int va_nil)))) va_nil)) (va_cons (ve_lst va_nil) va_nil)))) (va_cons (ve_tup (va_cons ve_int (va_cons (ve_var 3) (va_cons (ve_var 4) va_nil)))) (va_cons (ve_tup (va_cons (ve_var 2) (va_cons (ve_lst va_nil) (va_cons (ve_var 4) va_nil)))) (va_cons (ve_tup (va_cons (ve_var 2) (va_cons (ve_op opv_add (ve_var 3) (ve_lst (va_cons (ve_ix (ve_var 3) ve_int) va_nil))) (va_cons (ve_var 4) va_nil)))) va_nil))))))
  (vs_cons (vs_set 8 nd (ve_op opv_add (ve_var 8) (ve_lst (va_cons (ve_tup (va_cons ve_bl (va_cons (ve_var 3) (va_cons (ve_var 4) va_nil)))) (va_cons (ve_tup (va_cons (ve_var 2) (va_cons (ve_lst (va_cons (ve_tup (va_cons (ve_var 5) (va_cons ve_int (va_cons (ve_var 7) va_nil)))) va_nil)) (va_cons (ve_var 4) va_nil)))) (va_cons (ve_tup (va_cons (ve_var 2) (va_cons (ve_lst (va_cons (ve_tup (va_cons (ve_var 5) (va_cons (ve_var 6) (va_cons (ve_neg ve_int) va_nil)))) va_nil)) (va_cons (ve_var 4) va_nil)))) va_nil))))))
  (vs_cons (vs_set 8 nd (ve_op opv_add (ve_var 8) (ve_lst (va_cons (ve_tup (va_cons (ve_var 2) (va_cons (ve_lst (va_cons (ve_tup (va_cons (ve_var 5) (va_cons (ve_var 6) va_nil))) va_nil)) (va_cons (ve_var 4) va_nil)))) (va_cons (ve_tup (va_cons (ve_var 2) (va_cons (ve_lst (va_cons (ve_lst (va_cons (ve_var 5) (va_cons (ve_var 6) (va_cons (ve_var 7) va_nil)))) va_nil)) (va_cons (ve_var 4) va_nil)))) (va_cons (ve_tup (va_cons (ve_var 2) (va_cons (ve_lst (va_cons (ve_tup (va_cons (ve_var 2) (va_cons ve_int (va_cons ve_int va_nil)))) va_nil)) (va_cons (ve_var 4) va_nil)))) va_nil))))))
  (vs_cons (vs_set 8 nd (ve_op opv_add (ve_var 8) (ve_lst (va_cons (ve_tup (va_cons (ve_var 2) (va_cons (ve_lst (va_cons (ve_tup (va_cons (ve_neg ve_int) (va_cons ve_int (va_cons ve_int va_nil)))) va_nil)) (va_cons (ve_var 4) va_nil)))) (va_cons (ve_tup (va_cons (ve_var 2) (va_cons (ve_var 3) (va_cons (ve_lst (va_cons (ve_var 2) va_nil)) va_nil)))) (va_cons (ve_tup (va_cons (ve_var 2) (va_cons (ve_var 3) (va_cons (ve_lst (va_cons (ve_neg ve_int) va_nil)) va_nil)))) (va_cons (ve_tup (va_cons (ve_var 2) (va_cons (ve_var 3) (va_cons (ve_lst (va_cons ve_int (va_cons ve_int va_nil))) va_nil)))) va_nil)))))))
  (vs_cons (vs_set 8 nd (ve_op opv_add (ve_var 8) (ve_lst (va_cons (ve_tup (va_cons (ve_var 2) (va_cons (ve_var 3) (va_cons (ve_lst (va_cons ve_int (va_cons ve_int va_nil))) va_nil)))) (va_cons (ve_tup (va_cons (ve_var 2) (va_cons (ve_var 3) (va_cons (ve_lst (va_cons (ve_str) va_nil)) va_nil)))) (va_cons (ve_tup (va_cons (ve_var 2) (va_cons (ve_var 3) (va_cons (ve_lst (va_cons ve_bl (va_cons ve_int va_nil))) va_nil)))) (va_cons (ve_tup (va_cons (ve_var 2) (va_cons (ve_lst (va_cons (ve_tup (va_cons ve_bl (va_cons ve_int (va_cons ve_int va_nil)))) va_nil)) (va_cons (ve_var 4) va_nil)))) va_nil)))))))
  (vs_cons (vs_set 8 nd (ve_op opv_add (ve_var 8) (ve_lst (va_cons (ve_tup (va_cons ve_non (va_cons (ve_lst (va_cons (ve_tup (va_cons ve_int (va_cons ve_int (va_cons ve_int va_nil)))) va_nil)) (va_cons (ve_lst va_nil) va_nil)))) (va_cons (ve_tup (va_cons ve_int (va_cons (VF.v (vf_lc rfl nd (vi_range1 rfl bi.l_range (va_cons ve_int va_nil)) (blkOk_by (own := [("k", 9)]) (N := N_law_others) (sc := defScope s_law_others) (by decide +kernel)) (fun _ _ _ _ _ => (vg_name 9 nd)) (fun _ _ _ _ _ => vts_nil) (fun _ _ _ _ _ => (ve_tup (va_cons (ve_var 9) (va_cons ve_int (va_cons ve_int va_nil))))))) (va_cons (ve_lst va_nil) va_nil)))) (va_cons (ve_tup (va_cons (ve_str) (va_cons (ve_var 3) (va_cons (ve_var 4) va_nil)))) va_nil))))))
  (vs_one (vs_ret (VF.v (vf_lc rfl nd (vi_range1 rfl bi.l_range (va_cons ve_int va_nil)) (blkOk_by (own := [("k", 9)]) (N := N_law_others) (sc := defScope s_law_others) (by decide +kernel)) (fun _ _ _ _ _ => (vg_name 9 nd)) (fun _ _ _ _ _ => vts_nil) (fun _ _ _ _ _ => (ve_ix (ve_var 8) (ve_op opv_mod (ve_callTy cb_int rfl bi.l_int rfl (va_cons (ve_op opv_add (ve_var 1) (ve_op opv_mul ve_int (ve_var 9))) va_nil)) (ve_callB cb_len rfl bi.l_len rfl (va_cons (ve_var 8) va_nil)))))))))))))))))
abbrev s_rises : Stmt := top 6
abbrev N_rises : List Str := ["numbers", "k"]
theorem sc_rises : FnScope N_rises ["numbers"] (defScope s_rises) := ⟨rfl, rfl, rfl, by decide +kernel, rfl, by decide +kernel, by decide +kernel⟩
noncomputable def b_rises : Evn → RS :=
  (sRet (mCall bAll (mCons (mL (mLc (mWk rng1 (mCons (m2 pSub (mCall bLen (mCons (mGet 0) mNil)) (mC (.int 1))) mNil)) (gN 1) mYes (m2 pLt (m2 pIdx (mGet 0) (mGet 1)) (m2 pIdx (mGet 0) (m2 pAdd (mGet 1) (mC (.int 1))))) [1])) mNil)))
noncomputable def m_rises : List PyData → RE PyData := fnM 1 2 b_rises
theorem ok_rises {P : Program} {w : World} {K : PySem.W.Frag} {mg : Str → Option Value} {base : Heap} {f : Addr} {fd : FuncData} (F : FnP K "rises" s_rises f fd) (gl : mg "rises" = some (.ref f)) (bi : Bi mg) : Cal P w K mg base 1 "rises" ["numbers"] m_rises :=
  Cal.of (k := 0) F gl sc_rises (fun _ _ _ _ _ _ us hl => match us, hl with | [_], _ => rfl) fun cdv A outer s H E F0 hr => by
    have nd := sc_rises.nd; have tk := takesD (P := P) (w := w) (K := K) (mg := mg) (base := base) (N := N_rises) (qual := "rises") (scope := defScope s_rises) (f := f) (cdv := cdv) (A := A) (outer := outer) (s := s) (H := H) (E := E); have po := passes_of (X := cxOf (L2.CX P w) P w K mg base N_rises "rises" (defScope s_rises) f cdv A outer s H E) rfl; exact
    (vs_one (vs_ret (ve_callB (cb_all rfl) rfl bi.l_all rfl (va_cons (VF.v (vf_lc rfl nd (vi_range1 rfl bi.l_range (va_cons (ve_op opv_sub (ve_callB cb_len rfl bi.l_len rfl (va_cons (ve_var 0) va_nil)) ve_int) va_nil)) (blkOk_by (own := [("k", 1)]) (N := N_rises) (sc := defScope s_rises) (by decide +kernel)) (fun _ _ _ _ _ => (vg_name 1 nd)) (fun _ _ _ _ _ => vts_nil) (fun _ _ _ _ _ => (ve_cmp opv_lt (ve_ix (ve_var 0) (ve_var 1)) (ve_ix (ve_var 0) (ve_op opv_add (ve_var 1) ve_int)))))) va_nil))))
abbrev s_is_whole : Stmt := top 4
abbrev N_is_whole : List Str := ["value"]
theorem sc_is_whole : FnScope N_is_whole ["value"] (defScope s_is_whole) := ⟨rfl, rfl, rfl, by decide +kernel, rfl, by decide +kernel, by decide +kernel⟩
noncomputable def b_is_whole : Evn → RS :=
  (sRet (mAnd (mIs Ty.int (mGet 0)) (m1 pNot (mIs Ty.bool (mGet 0)))))
noncomputable def m_is_whole : List PyData → RE PyData := fnM 1 1 b_is_whole
theorem ok_is_whole {P : Program} {w : World} {K : PySem.W.Frag} {mg : Str → Option Value} {base : Heap} {f : Addr} {fd : FuncData} (F : FnP K "is_whole" s_is_whole f fd) (gl : mg "is_whole" = some (.ref f)) (bi : Bi mg) : Cal P w K mg base 1 "is_whole" ["value"] m_is_whole :=
  Cal.of (k := 0) F gl sc_is_whole (fun _ _ _ _ _ _ us hl => match us, hl with | [_], _ => rfl) fun cdv A outer s H E F0 hr => by
    have nd := sc_is_whole.nd; have tk := takesD (P := P) (w := w) (K := K) (mg := mg) (base := base) (N := N_is_whole) (qual := "is_whole") (scope := defScope s_is_whole) (f := f) (cdv := cdv) (A := A) (outer := outer) (s := s) (H := H) (E := E); have po := passes_of (X := cxOf (L2.CX P w) P w K mg base N_is_whole "is_whole" (defScope s_is_whole) f cdv A outer s H E) rfl; exact
    (vs_one (vs_ret (ve_and (ve_isi (T := Ty.int) (by decide) (ve_var 0) rfl bi.l_isinstance rfl bi.l_int rfl) (ve_one (ve_not (ve_isi (T := Ty.bool) (by decide) (ve_var 0) rfl bi.l_isinstance rfl bi.l_bool rfl))))))
abbrev s_is_wheel : Stmt := top 13
abbrev N_is_wheel : List Str := ["pieces", "wheel", "number", "place", "bend", "more"]
theorem sc_is_wheel : FnScope N_is_wheel ["pieces", "wheel"] (defScope s_is_wheel) := ⟨rfl, rfl, rfl, by decide +kernel, rfl, by decide +kernel, by decide +kernel⟩
noncomputable def b_is_wheel : Evn → RS :=
  (sThen (sIf (mOrB (mNotB (mT (mIs Ty.tuple (mGet 1)))) (mOrB (mB (m2 pNe (mCall bLen (mCons (mGet 1) mNil)) (mC (.int 3)))) (mNotB (mT (mCall bAll (mCons (mL (mLc (mItems (mGet 1)) (gN 2) mYes (mSeq m_is_whole (mCons (mGet 2) mNil)) [2])) mNil))))))
    (sRet (mC (.bool false)))
    sNx)
  (sThen (sAsg (mGet 1) (gT 3 (gC (gN 3) (gC (gN 4) (gC (gN 5) gE)))))
  (sRet (mAnd (mChain pLe pLt (mC (.int 0)) (mGet 3) (mGet 0)) (mAnd (m2 pGe (mGet 4) (mC (.int 1))) (m2 pGe (mGet 5) (mC (.int 0))))))))
noncomputable def m_is_wheel : List PyData → RE PyData := fnM 2 6 b_is_wheel
theorem ok_is_wheel {P : Program} {w : World} {K : PySem.W.Frag} {mg : Str → Option Value} {base : Heap} {f : Addr} {fd : FuncData} (F : FnP K "is_wheel" s_is_wheel f fd) (gl : mg "is_wheel" = some (.ref f)) (bi : Bi mg) (C_is_whole : Cal P w K mg base 1 "is_whole" ["value"] m_is_whole) : Cal P w K mg base 2 "is_wheel" ["pieces", "wheel"] m_is_wheel :=
  Cal.of (k := 1) F gl sc_is_wheel (fun _ _ _ _ _ _ us hl => match us, hl with | [_, _], _ => rfl) fun cdv A outer s H E F0 hr => by
    have nd := sc_is_wheel.nd; have tk := takesD (P := P) (w := w) (K := K) (mg := mg) (base := base) (N := N_is_wheel) (qual := "is_wheel") (scope := defScope s_is_wheel) (f := f) (cdv := cdv) (A := A) (outer := outer) (s := s) (H := H) (E := E); have po := passes_of (X := cxOf (L2.CX P w) P w K mg base N_is_wheel "is_wheel" (defScope s_is_wheel) f cdv A outer s H E) rfl; exact
    (vs_cons (vs_if (VW.t (vw_or (vt_not (vt_truth (ve_isi (T := Ty.tuple) (by decide) (ve_var 1) rfl bi.l_isinstance rfl bi.l_tuple rfl))) (vw_or (vt_cmp (opv_ne hr) (ve_callB cb_len rfl bi.l_len rfl (va_cons (ve_var 1) va_nil)) ve_int) (vw_or1 (vt_not (vt_truth (ve_callB (cb_all rfl) rfl bi.l_all rfl (va_cons (VF.v (vf_lc rfl nd (vi_items (ve_var 1)) (blkOk_by (own := [("number", 2)]) (N := N_is_wheel) (sc := defScope s_is_wheel) (by decide +kernel)) (fun _ _ _ _ _ => (vg_name 2 nd)) (fun _ _ _ _ _ => vts_nil) (fun _ _ _ _ _ => (ve_cal C_is_whole hr takesN (va_cons (ve_var 2) va_nil))))) va_nil)))))))) (vs_one (vs_ret ve_bl)) vs_nil)
  (vs_cons (vs_asg (ve_var 1) (vg_tup rfl (vgs_cons (vg_name 3 nd) (vgs_cons (vg_name 4 nd) (vgs_cons (vg_name 5 nd) vgs_nil)))))
  (vs_one (vs_ret (ve_and (ve_chain opv_le opv_lt ve_int (ve_var 3) (ve_var 0)) (ve_and (ve_cmp opv_ge (ve_var 4) ve_int) (ve_one (ve_cmp opv_ge (ve_var 5) ve_int))))))))
abbrev s_are_wheels : Stmt := top 14
abbrev N_are_wheels : List Str := ["pieces", "wheels", "wheel"]
theorem sc_are_wheels : FnScope N_are_wheels ["pieces", "wheels"] (defScope s_are_wheels) := ⟨rfl, rfl, rfl, by decide +kernel, rfl, by decide +kernel, by decide +kernel⟩
noncomputable def b_are_wheels : Evn → RS :=
  (sThen (sIf (mOrB (mNotB (mB (mChain pLe pLe (mC (.int 1)) (mCall bLen (mCons (mGet 1) mNil)) (mC (.int 20))))) (mNotB (mT (mCall bAll (mCons (mL (mLc (mItems (mGet 1)) (gN 2) mYes (mSeq m_is_wheel (mCons (mGet 0) (mCons (mGet 2) mNil))) [2])) mNil)))))
    (sRet (mC (.bool false)))
    sNx)
  (sRet (mSeq m_rises (mCons (mL (mLc (mItems (mGet 1)) (gN 2) mYes (m2 pIdx (mGet 2) (mC (.int 0))) [2])) mNil))))
noncomputable def m_are_wheels : List PyData → RE PyData := fnM 2 3 b_are_wheels
theorem ok_are_wheels {P : Program} {w : World} {K : PySem.W.Frag} {mg : Str → Option Value} {base : Heap} {f : Addr} {fd : FuncData} (F : FnP K "are_wheels" s_are_wheels f fd) (gl : mg "are_wheels" = some (.ref f)) (gi_MOST_WHEELS : ∃ t, mg "MOST_WHEELS" = some (.int 20 t)) (bi : Bi mg) (C_is_wheel : Cal P w K mg base 2 "is_wheel" ["pieces", "wheel"] m_is_wheel) (C_rises : Cal P w K mg base 1 "rises" ["numbers"] m_rises) : Cal P w K mg base 3 "are_wheels" ["pieces", "wheels"] m_are_wheels :=
  Cal.of (k := 2) F gl sc_are_wheels (fun _ _ _ _ _ _ us hl => match us, hl with | [_, _], _ => rfl) fun cdv A outer s H E F0 hr => by
    have nd := sc_are_wheels.nd; have tk := takesD (P := P) (w := w) (K := K) (mg := mg) (base := base) (N := N_are_wheels) (qual := "are_wheels") (scope := defScope s_are_wheels) (f := f) (cdv := cdv) (A := A) (outer := outer) (s := s) (H := H) (E := E); have po := passes_of (X := cxOf (L2.CX P w) P w K mg base N_are_wheels "are_wheels" (defScope s_are_wheels) f cdv A outer s H E) rfl; exact
    (vs_cons (vs_if (VW.t (vw_or (vt_not (vt_chain opv_le opv_le ve_int (ve_callB cb_len rfl bi.l_len rfl (va_cons (ve_var 1) va_nil)) (ve_gint gi_MOST_WHEELS))) (vw_or1 (vt_not (vt_truth (ve_callB (cb_all rfl) rfl bi.l_all rfl (va_cons (VF.v (vf_lc rfl nd (vi_items (ve_var 1)) (blkOk_by (own := [("wheel", 2)]) (N := N_are_wheels) (sc := defScope s_are_wheels) (by decide +kernel)) (fun _ _ _ _ _ => (vg_name 2 nd)) (fun _ _ _ _ _ => vts_nil) (fun _ _ _ _ _ => (ve_cal C_is_wheel hr takesN (va_cons (ve_var 0) (va_cons (ve_var 2) va_nil)))))) va_nil))))))) (vs_one (vs_ret ve_bl)) vs_nil)
  (vs_one (vs_ret (ve_cal C_rises hr tk (va_cons (VF.v (vf_lc rfl nd (vi_items (ve_var 1)) (blkOk_by (own := [("wheel", 2)]) (N := N_are_wheels) (sc := defScope s_are_wheels) (by decide +kernel)) (fun _ _ _ _ _ => (vg_name 2 nd)) (fun _ _ _ _ _ => vts_nil) (fun _ _ _ _ _ => (ve_ix (ve_var 2) ve_int)))) va_nil)))))
abbrev s_is_index : Stmt := top 7
abbrev N_is_index : List Str := ["value", "count"]
theorem sc_is_index : FnScope N_is_index ["value", "count"] (defScope s_is_index) := ⟨rfl, rfl, rfl, by decide +kernel, rfl, by decide +kernel, by decide +kernel⟩
noncomputable def b_is_index : Evn → RS :=
  (sRet (mAnd (mSeq m_is_whole (mCons (mGet 0) mNil)) (mChain pLe pLt (mC (.int 0)) (mGet 0) (mGet 1))))
noncomputable def m_is_index : List PyData → RE PyData := fnM 2 2 b_is_index
theorem ok_is_index {P : Program} {w : World} {K : PySem.W.Frag} {mg : Str → Option Value} {base : Heap} {f : Addr} {fd : FuncData} (F : FnP K "is_index" s_is_index f fd) (gl : mg "is_index" = some (.ref f)) (C_is_whole : Cal P w K mg base 1 "is_whole" ["value"] m_is_whole) : Cal P w K mg base 2 "is_index" ["value", "count"] m_is_index :=
  Cal.of (k := 1) F gl sc_is_index (fun _ _ _ _ _ _ us hl => match us, hl with | [_, _], _ => rfl) fun cdv A outer s H E F0 hr => by
    have nd := sc_is_index.nd; have tk := takesD (P := P) (w := w) (K := K) (mg := mg) (base := base) (N := N_is_index) (qual := "is_index") (scope := defScope s_is_index) (f := f) (cdv := cdv) (A := A) (outer := outer) (s := s) (H := H) (E := E); have po := passes_of (X := cxOf (L2.CX P w) P w K mg base N_is_index "is_index" (defScope s_is_index) f cdv A outer s H E) rfl; exact
    (vs_one (vs_ret (ve_and (ve_cal C_is_whole hr tk (va_cons (ve_var 0) va_nil)) (ve_one (ve_chain opv_le opv_lt ve_int (ve_var 0) (ve_var 1))))))
abbrev s_are_indexes : Stmt := top 8
abbrev N_are_indexes : List Str := ["values", "count", "value"]
theorem sc_are_indexes : FnScope N_are_indexes ["values", "count"] (defScope s_are_indexes) := ⟨rfl, rfl, rfl, by decide +kernel, rfl, by decide +kernel, by decide +kernel⟩
noncomputable def b_are_indexes : Evn → RS :=
  (sRet (mAnd (mCall bAll (mCons (mL (mLc (mItems (mGet 0)) (gN 2) mYes (mSeq m_is_index (mCons (mGet 2) (mCons (mGet 1) mNil))) [2])) mNil)) (mSeq m_rises (mCons (mGet 0) mNil))))
noncomputable def m_are_indexes : List PyData → RE PyData := fnM 2 3 b_are_indexes
theorem ok_are_indexes {P : Program} {w : World} {K : PySem.W.Frag} {mg : Str → Option Value} {base : Heap} {f : Addr} {fd : FuncData} (F : FnP K "are_indexes" s_are_indexes f fd) (gl : mg "are_indexes" = some (.ref f)) (bi : Bi mg) (C_rises : Cal P w K mg base 1 "rises" ["numbers"] m_rises) (C_is_index : Cal P w K mg base 2 "is_index" ["value", "count"] m_is_index) : Cal P w K mg base 3 "are_indexes" ["values", "count"] m_are_indexes :=
  Cal.of (k := 2) F gl sc_are_indexes (fun _ _ _ _ _ _ us hl => match us, hl with | [_, _], _ => rfl) fun cdv A outer s H E F0 hr => by
    have nd := sc_are_indexes.nd; have tk := takesD (P := P) (w := w) (K := K) (mg := mg) (base := base) (N := N_are_indexes) (qual := "are_indexes") (scope := defScope s_are_indexes) (f := f) (cdv := cdv) (A := A) (outer := outer) (s := s) (H := H) (E := E); have po := passes_of (X := cxOf (L2.CX P w) P w K mg base N_are_indexes "are_indexes" (defScope s_are_indexes) f cdv A outer s H E) rfl; exact
    (vs_one (vs_ret (ve_and (ve_callB (cb_all rfl) rfl bi.l_all rfl (va_cons (VF.v (vf_lc rfl nd (vi_items (ve_var 0)) (blkOk_by (own := [("value", 2)]) (N := N_are_indexes) (sc := defScope s_are_indexes) (by decide +kernel)) (fun _ _ _ _ _ => (vg_name 2 nd)) (fun _ _ _ _ _ => vts_nil) (fun _ _ _ _ _ => (ve_cal C_is_index hr takesN (va_cons (ve_var 2) (va_cons (ve_var 1) va_nil)))))) va_nil)) (ve_one (ve_cal C_rises hr tk (va_cons (ve_var 0) va_nil))))))
abbrev s_check_loop : Stmt := top 15
abbrev N_check_loop : List Str := ["loop", "pieces", "wheels", "grips"]
theorem sc_check_loop : FnScope N_check_loop ["loop"] (defScope s_check_loop) := ⟨rfl, rfl, rfl, by decide +kernel, rfl, by decide +kernel, by decide +kernel⟩
noncomputable def b_check_loop : Evn → RS :=
  (sThen (sAsg (mGet 0) (gT 3 (gC (gN 1) (gC (gN 2) (gC (gN 3) gE)))))
  (sThen (sIf (mOrB (mNotB (mT (mSeq m_is_whole (mCons (mGet 1) mNil)))) (mNotB (mB (mChain pLe pLe (mC (.int 2)) (mGet 1) (mC (.int 500))))))
    (fun ρ => .exc "InvalidLoop" ρ)
    sNx)
  (sThen (sIf (mNotB (mT (mSeq m_are_wheels (mCons (mGet 1) (mCons (mGet 2) mNil)))))
    (fun ρ => .exc "InvalidLoop" ρ)
    sNx)
  (sIf (mNotB (mT (mSeq m_are_indexes (mCons (mGet 3) (mCons (mGet 1) mNil)))))
    (fun ρ => .exc "InvalidLoop" ρ)
    sNx))))
noncomputable def m_check_loop : List PyData → RE PyData := fnM 1 4 b_check_loop
theorem ok_check_loop {P : Program} {w : World} {K : PySem.W.Frag} {mg : Str → Option Value} {base : Heap} {f : Addr} {fd : FuncData} (F : FnP K "check_loop" s_check_loop f fd) (gl : mg "check_loop" = some (.ref f)) (gi_FEWEST_PIECES : ∃ t, mg "FEWEST_PIECES" = some (.int 2 t)) (gi_MOST_PIECES : ∃ t, mg "MOST_PIECES" = some (.int 500 t)) (ex : ExAll K mg exL subX) (C_is_whole : Cal P w K mg base 1 "is_whole" ["value"] m_is_whole) (C_are_wheels : Cal P w K mg base 3 "are_wheels" ["pieces", "wheels"] m_are_wheels) (C_are_indexes : Cal P w K mg base 3 "are_indexes" ["values", "count"] m_are_indexes) : Cal P w K mg base 4 "check_loop" ["loop"] m_check_loop :=
  Cal.of (k := 3) F gl sc_check_loop (fun _ _ _ _ _ _ us hl => match us, hl with | [_], _ => rfl) fun cdv A outer s H E F0 hr => by
    have nd := sc_check_loop.nd; have tk := takesD (P := P) (w := w) (K := K) (mg := mg) (base := base) (N := N_check_loop) (qual := "check_loop") (scope := defScope s_check_loop) (f := f) (cdv := cdv) (A := A) (outer := outer) (s := s) (H := H) (E := E); have po := passes_of (X := cxOf (L2.CX P w) P w K mg base N_check_loop "check_loop" (defScope s_check_loop) f cdv A outer s H E) rfl; exact
    (vs_cons (vs_asg (ve_var 0) (vg_tup rfl (vgs_cons (vg_name 1 nd) (vgs_cons (vg_name 2 nd) (vgs_cons (vg_name 3 nd) vgs_nil)))))
  (vs_cons (vs_if (VW.t (vw_or (vt_not (vt_truth (ve_cal C_is_whole hr tk (va_cons (ve_var 1) va_nil)))) (vw_or1 (vt_not (vt_chain opv_le opv_le (ve_gint gi_FEWEST_PIECES) (ve_var 1) (ve_gint gi_MOST_PIECES)))))) (vs_one (vs_rai rfl tk ex (by decide +kernel) rfl)) vs_nil)
  (vs_cons (vs_if (vt_not (vt_truth (ve_cal C_are_wheels hr tk (va_cons (ve_var 1) (va_cons (ve_var 2) va_nil))))) (vs_one (vs_rai rfl tk ex (by decide +kernel) rfl)) vs_nil)
  (vs_one (vs_if (vt_not (vt_truth (ve_cal C_are_indexes hr tk (va_cons (ve_var 3) (va_cons (ve_var 1) va_nil))))) (vs_one (vs_rai rfl tk ex (by decide +kernel) rfl)) vs_nil)))))
abbrev s_law_walked : Stmt := top 26
abbrev N_law_walked : List Str := ["loop", "beats", "pieces", "wheels", "grips", "bends", "place", "bend", "more", "found", "piece", "beat"]
theorem sc_law_walked : FnScope N_law_walked ["loop", "beats"] (defScope s_law_walked) := ⟨rfl, rfl, rfl, by decide +kernel, rfl, by decide +kernel, by decide +kernel⟩
noncomputable def l_law_walked_0 : Evn → RS :=
  (sDPut 5 (mGet 6) (mSeq mTup (mCons (mGet 7) (mCons (m2 pAdd (mGet 7) (mGet 8)) mNil))))
theorem u_law_walked_0 (ρ : Evn) : l_law_walked_0 ρ = (sDPut 5 (mGet 6) (mSeq mTup (mCons (mGet 7) (mCons (m2 pAdd (mGet 7) (mGet 8)) mNil)))) ρ := nr rfl
noncomputable def l_law_walked_1 : Evn → RS :=
  (sThen (sSet 6 (m2 pMod (mCall bInt (mCons (m2 pAdd (mGet 10) (mGet 11)) mNil)) (mGet 2)))
  (sIf (mB (mDIn true 5 (mGet 6)))
    (sSetIx 9 (mGet 10) (m2 pAdd (mIxO 9 (mGet 10)) (m2 pIdx (mDGet 5 (mGet 6)) (mCall bInt (mCons (m2 pIn (mGet 10) (mGet 4)) mNil)))))
    sNx))
theorem u_law_walked_1 (ρ : Evn) : l_law_walked_1 ρ = (sThen (sSet 6 (m2 pMod (mCall bInt (mCons (m2 pAdd (mGet 10) (mGet 11)) mNil)) (mGet 2)))
  (sIf (mB (mDIn true 5 (mGet 6)))
    (sSetIx 9 (mGet 10) (m2 pAdd (mIxO 9 (mGet 10)) (m2 pIdx (mDGet 5 (mGet 6)) (mCall bInt (mCons (m2 pIn (mGet 10) (mGet 4)) mNil)))))
    sNx)) ρ := nr rfl
noncomputable def l_law_walked_2 : Evn → RS :=
  (sFor (mWk rng1 (mCons (mGet 2) mNil)) (gN 10) l_law_walked_1)
theorem u_law_walked_2 (ρ : Evn) : l_law_walked_2 ρ = (sFor (mWk rng1 (mCons (mGet 2) mNil)) (gN 10) l_law_walked_1) ρ := nr rfl
noncomputable def b_law_walked : Evn → RS :=
  (sThen (sAsg (mGet 0) (gT 3 (gC (gN 2) (gC (gN 3) (gC (gN 4) gE)))))
  (sThen (sDNew 5)
  (sThen (sFor (mItems (mGet 3)) (gT 3 (gC (gN 6) (gC (gN 7) (gC (gN 8) gE)))) l_law_walked_0)
  (sThen (sSetO 9 (mLc (mWk rng1 (mCons (mGet 2) mNil)) (gN 10) mYes (mC (.int 0)) [10]))
  (sThen (sFor (mWk rng2 (mCons (mC (.int 1)) (mCons (m2 pAdd (mGet 1) (mC (.int 1))) mNil))) (gN 11) l_law_walked_2)
  (fun ρ => (sRet (mGet 9)) (freeze 9 ρ)))))))
noncomputable def m_law_walked : List PyData → RE PyData := fnM 2 12 b_law_walked
theorem ok_law_walked {P : Program} {w : World} {K : PySem.W.Frag} {mg : Str → Option Value} {base : Heap} {f : Addr} {fd : FuncData} (F : FnP K "_law_walked" s_law_walked f fd) (gl : mg "_law_walked" = some (.ref f)) (bi : Bi mg) : Cal P w K mg base 1 "_law_walked" ["loop", "beats"] m_law_walked :=
  Cal.of (k := 0) F gl sc_law_walked (fun _ _ _ _ _ _ us hl => match us, hl with | [_, _], _ => rfl) fun cdv A outer s H E F0 hr => by
    have nd := sc_law_walked.nd; have tk := takesD (P := P) (w := w) (K := K) (mg := mg) (base := base) (N := N_law_walked) (qual := "_law_walked") (scope := defScope s_law_walked) (f := f) (cdv := cdv) (A := A) (outer := outer) (s := s) (H := H) (E := E); have po := passes_of (X := cxOf (L2.CX P w) P w K mg base N_law_walked "_law_walked" (defScope s_law_walked) f cdv A outer s H E) rfl; exact
    (vs_cons (vs_asg (ve_var 0) (vg_tup rfl (vgs_cons (vg_name 2 nd) (vgs_cons (vg_name 3 nd) (vgs_cons (vg_name 4 nd) vgs_nil)))))
  (vs_cons (vs_dNew 5 nd)
  (vs_cons (vs_for po rfl (vi_items (ve_var 3)) (vg_tup rfl (vgs_cons (vg_name 6 nd) (vgs_cons (vg_name 7 nd) (vgs_cons (vg_name 8 nd) vgs_nil)))) (vs_one (vs_dPut hr 5 (ve_var 6) (ve_tup (va_cons (ve_var 7) (va_cons (ve_op opv_add (ve_var 7) (ve_var 8)) va_nil))))))
  (vs_cons (vs_lcO 9 rfl nd (vi_range1 rfl bi.l_range (va_cons (ve_var 2) va_nil)) (blkOk_by (own := [("piece", 10)]) (N := N_law_walked) (sc := defScope s_law_walked) (by decide +kernel)) (fun _ _ _ _ _ => (vg_name 10 nd)) (fun _ _ _ _ _ => vts_nil) (fun _ _ _ _ _ => ve_int))
  (vs_cons (vs_for po rfl (vi_range2 rfl bi.l_range (va_cons ve_int (va_cons (ve_op opv_add (ve_var 1) ve_int) va_nil))) (vg_name 11 nd) (vs_one (vs_for po rfl (vi_range1 rfl bi.l_range (va_cons (ve_var 2) va_nil)) (vg_name 10 nd) (vs_cons (vs_set 6 nd (ve_op opv_mod (ve_callTy cb_int rfl bi.l_int rfl (va_cons (ve_op opv_add (ve_var 10) (ve_var 11)) va_nil)) (ve_var 2)))
  (vs_one (vs_if (vt_dIn hr 5 (ve_var 6)) (vs_one (vs_setIx 9 (ve_var 10) (ve_op opv_add (ve_ixO 9 (ve_var 10)) (ve_ix (ve_dGet hr 5 (ve_var 6)) (ve_callTy cb_int rfl bi.l_int rfl (va_cons (ve_cmp (opv_in hr) (ve_var 10) (ve_var 4)) va_nil)))))) vs_nil))))))
  (vs_one (vs_freeze 9 (vs_ret (ve_var 9)))))))))
abbrev s_law_like : Stmt := top 23
abbrev N_law_like : List Str := ["told", "due", "k"]
theorem sc_law_like : FnScope N_law_like ["told", "due"] (defScope s_law_like) := ⟨rfl, rfl, rfl, by decide +kernel, rfl, by decide +kernel, by decide +kernel⟩
noncomputable def l_law_like_0 (self : List PyData → RE PyData) : Evn → RS :=
  (sIf (mNotB (mT (mSeq self (mCons (m2 pIdx (mGet 0) (mGet 2)) (mCons (m2 pIdx (mGet 1) (mGet 2)) mNil)))))
    (sRet (mC (.bool false)))
    sNx)
theorem u_law_like_0 (self : List PyData → RE PyData) (ρ : Evn) : l_law_like_0 self ρ = (sIf (mNotB (mT (mSeq self (mCons (m2 pIdx (mGet 0) (mGet 2)) (mCons (m2 pIdx (mGet 1) (mGet 2)) mNil)))))
    (sRet (mC (.bool false)))
    sNx) ρ := nr rfl
noncomputable def b_law_like (self : List PyData → RE PyData) : Evn → RS :=
  (sThen (sIf (mT (mIs2 Ty.list Ty.tuple (mGet 1)))
    (sThen (sIf (mOrB (mB (m2 pNe (mIs Ty.list (mGet 0)) (mIs Ty.list (mGet 1)))) (mB (m2 pNe (mIs Ty.tuple (mGet 0)) (mIs Ty.tuple (mGet 1)))))
      (sRet (mC (.bool false)))
      sNx)
    (sThen (sIf (mB (m2 pNe (mCall bLen (mCons (mGet 0) mNil)) (mCall bLen (mCons (mGet 1) mNil))))
      (sRet (mC (.bool false)))
      sNx)
    (sThen (sFor (mWk rng1 (mCons (mCall bLen (mCons (mGet 1) mNil)) mNil)) (gN 2) (l_law_like_0 self))
    (sRet (mC (.bool true))))))
    sNx)
  (sThen (sIf (mB (m2 pIsN (mGet 1) (mC .none)))
    (sRet (m2 pIsN (mGet 0) (mC .none)))
    sNx)
  (sThen (sIf (mT (mIs Ty.bool (mGet 1)))
    (sRet (mAnd (mIs Ty.bool (mGet 0)) (m2 pEq (mGet 0) (mGet 1))))
    sNx)
  (sThen (sIf (mT (mIs Ty.int (mGet 1)))
    (sRet (mAnd (mIs Ty.int (mGet 0)) (mAnd (m1 pNot (mIs Ty.bool (mGet 0))) (m2 pEq (mGet 0) (mGet 1)))))
    sNx)
  (sRet (mAnd (mIs Ty.str (mGet 0)) (m2 pEq (mGet 0) (mGet 1))))))))
noncomputable def m_law_like : Nat → List PyData → RE PyData
  | 0 => fun _ => .bad
  | k + 1 => fnM 2 3 (b_law_like (m_law_like k))
theorem okr_law_like {P : Program} {w : World} {K : PySem.W.Frag} {mg : Str → Option Value} {base : Heap} {f : Addr} {fd : FuncData} (F : FnP K "_law_like" s_law_like f fd) (gl : mg "_law_like" = some (.ref f)) (bi : Bi mg) (j : Nat) (C_self : Cal P w K mg base (1 + j) "_law_like" ["told", "due"] (m_law_like j)) : Cal P w K mg base (1 + (j + 1)) "_law_like" ["told", "due"] (m_law_like (j + 1)) :=
  Cal.of (k := 1 + j) F gl sc_law_like (fun _ _ _ _ _ _ us hl => match us, hl with | [_, _], _ => rfl) fun cdv A outer s H E F0 hr => by
    have nd := sc_law_like.nd; have tk := takesD (P := P) (w := w) (K := K) (mg := mg) (base := base) (N := N_law_like) (qual := "_law_like") (scope := defScope s_law_like) (f := f) (cdv := cdv) (A := A) (outer := outer) (s := s) (H := H) (E := E); have po := passes_of (X := cxOf (L2.CX P w) P w K mg base N_law_like "_law_like" (defScope s_law_like) f cdv A outer s H E) rfl; exact
    (vs_cons (vs_if (vt_truth (ve_isi2 (T := Ty.list) (U := Ty.tuple) (by decide) (by decide) (ve_var 1) rfl bi.l_isinstance rfl bi.l_list rfl rfl bi.l_tuple rfl)) (vs_cons (vs_if (VW.t (vw_or (vt_cmp (opv_ne hr) (ve_isi (T := Ty.list) (by decide) (ve_var 0) rfl bi.l_isinstance rfl bi.l_list rfl) (ve_isi (T := Ty.list) (by decide) (ve_var 1) rfl bi.l_isinstance rfl bi.l_list rfl)) (vw_or1 (vt_cmp (opv_ne hr) (ve_isi (T := Ty.tuple) (by decide) (ve_var 0) rfl bi.l_isinstance rfl bi.l_tuple rfl) (ve_isi (T := Ty.tuple) (by decide) (ve_var 1) rfl bi.l_isinstance rfl bi.l_tuple rfl))))) (vs_one (vs_ret ve_bl)) vs_nil)
    (vs_cons (vs_if (vt_cmp (opv_ne hr) (ve_callB cb_len rfl bi.l_len rfl (va_cons (ve_var 0) va_nil)) (ve_callB cb_len rfl bi.l_len rfl (va_cons (ve_var 1) va_nil))) (vs_one (vs_ret ve_bl)) vs_nil)
    (vs_cons (vs_for po rfl (vi_range1 rfl bi.l_range (va_cons (ve_callB cb_len rfl bi.l_len rfl (va_cons (ve_var 1) va_nil)) va_nil)) (vg_name 2 nd) (vs_one (vs_if (vt_not (vt_truth (ve_cal C_self hr tk (va_cons (ve_ix (ve_var 0) (ve_var 2)) (va_cons (ve_ix (ve_var 1) (ve_var 2)) va_nil))))) (vs_one (vs_ret ve_bl)) vs_nil)))
    (vs_one (vs_ret ve_bl))))) vs_nil)
  (vs_cons (vs_if (vt_cmp opv_is (ve_var 1) ve_non) (vs_one (vs_ret (ve_cmp opv_is (ve_var 0) ve_non))) vs_nil)
  (vs_cons (vs_if (vt_truth (ve_isi (T := Ty.bool) (by decide) (ve_var 1) rfl bi.l_isinstance rfl bi.l_bool rfl)) (vs_one (vs_ret (ve_and (ve_isi (T := Ty.bool) (by decide) (ve_var 0) rfl bi.l_isinstance rfl bi.l_bool rfl) (ve_one (ve_cmp (opv_eq hr) (ve_var 0) (ve_var 1)))))) vs_nil)
  (vs_cons (vs_if (vt_truth (ve_isi (T := Ty.int) (by decide) (ve_var 1) rfl bi.l_isinstance rfl bi.l_int rfl)) (vs_one (vs_ret (ve_and (ve_isi (T := Ty.int) (by decide) (ve_var 0) rfl bi.l_isinstance rfl bi.l_int rfl) (ve_and (ve_not (ve_isi (T := Ty.bool) (by decide) (ve_var 0) rfl bi.l_isinstance rfl bi.l_bool rfl)) (ve_one (ve_cmp (opv_eq hr) (ve_var 0) (ve_var 1))))))) vs_nil)
  (vs_one (vs_ret (ve_and (ve_isi (T := Ty.str) (by decide) (ve_var 0) rfl bi.l_isinstance rfl bi.l_str rfl) (ve_one (ve_cmp (opv_eq hr) (ve_var 0) (ve_var 1))))))))))
theorem ok_law_like {P : Program} {w : World} {K : PySem.W.Frag} {mg : Str → Option Value} {base : Heap} {f : Addr} {fd : FuncData} (F : FnP K "_law_like" s_law_like f fd) (gl : mg "_law_like" = some (.ref f)) (bi : Bi mg) : ∀ j : Nat, Cal P w K mg base (1 + j) "_law_like" ["told", "due"] (m_law_like j)
  | 0 => Cal.none F gl (fun _ _ _ _ _ _ us hl => match us, hl with | [_, _], _ => rfl)
  | j + 1 => okr_law_like F gl bi j (ok_law_like F gl bi j)
abbrev s_law_refused : Stmt := top 28
abbrev N_law_refused : List Str := ["loop", "e"]
theorem sc_law_refused : FnScope N_law_refused ["loop"] (defScope s_law_refused) := ⟨rfl, rfl, rfl, by decide +kernel, rfl, by decide +kernel, by decide +kernel⟩
noncomputable def b_law_refused : Evn → RS :=
  (sThen (sTry exL subX [("InvalidLoop", some 1, (sRet (mAnd (mIsX subX 1 "RopeError") (mIsX subX 1 "ValueError"))))] (sDrop (mSeq m_check_loop (mCons (mGet 0) mNil))))
  (sRet (mC (.bool false))))
noncomputable def m_law_refused : List PyData → RE PyData := fnM 1 2 b_law_refused
theorem ok_law_refused {P : Program} {w : World} {K : PySem.W.Frag} {mg : Str → Option Value} {base : Heap} {f : Addr} {fd : FuncData} (F : FnP K "_law_refused" s_law_refused f fd) (gl : mg "_law_refused" = some (.ref f)) (ex : ExAll K mg exL subX) (bi : Bi mg) (C_check_loop : Cal P w K mg base 4 "check_loop" ["loop"] m_check_loop) : Cal P w K mg base 5 "_law_refused" ["loop"] m_law_refused :=
  Cal.of (k := 4) F gl sc_law_refused (fun _ _ _ _ _ _ us hl => match us, hl with | [_], _ => rfl) fun cdv A outer s H E F0 hr => by
    have nd := sc_law_refused.nd; have tk := takesD (P := P) (w := w) (K := K) (mg := mg) (base := base) (N := N_law_refused) (qual := "_law_refused") (scope := defScope s_law_refused) (f := f) (cdv := cdv) (A := A) (outer := outer) (s := s) (H := H) (E := E); have po := passes_of (X := cxOf (L2.CX P w) P w K mg base N_law_refused "_law_refused" (defScope s_law_refused) f cdv A outer s H E) rfl; exact
    (vs_cons (vs_try rfl nd tk (hv_cons (i := 1) ex (by decide +kernel) rfl rfl rfl (fun a o c C pn hcL hC hz hf => (vs_one (vs_ret (ve_and (ve_isx 1 ex (by decide +kernel) hcL hC hz hf rfl bi.l_isinstance rfl) (ve_one (ve_isv 1 ex hcL hC hz hf rfl bi.l_isinstance rfl bi.l_ValueError)))))) hv_nil) (fun W pn xe tk po => (vs_one (vs_expr (ve_cal C_check_loop hr tk (va_cons (ve_var 0) va_nil))))))
  (vs_one (vs_ret ve_bl)))
abbrev s_bends_at : Stmt := top 17
abbrev N_bends_at : List Str := ["loop", "wheel", "piece", "_", "bend", "more"]
theorem sc_bends_at : FnScope N_bends_at ["loop", "wheel", "piece"] (defScope s_bends_at) := ⟨rfl, rfl, rfl, by decide +kernel, rfl, by decide +kernel, by decide +kernel⟩
noncomputable def b_bends_at : Evn → RS :=
  (sThen (sAsg (mGet 1) (gT 3 (gC (gN 3) (gC (gN 4) (gC (gN 5) gE)))))
  (sThen (sIf (mB (m2 pIn (mGet 2) (m2 pIdx (mGet 0) (mC (.int 2)))))
    (sRet (m2 pAdd (mGet 4) (mGet 5)))
    sNx)
  (sRet (mGet 4))))
noncomputable def m_bends_at : List PyData → RE PyData := fnM 3 6 b_bends_at
theorem ok_bends_at {P : Program} {w : World} {K : PySem.W.Frag} {mg : Str → Option Value} {base : Heap} {f : Addr} {fd : FuncData} (F : FnP K "bends_at" s_bends_at f fd) (gl : mg "bends_at" = some (.ref f)) : Cal P w K mg base 1 "bends_at" ["loop", "wheel", "piece"] m_bends_at :=
  Cal.of (k := 0) F gl sc_bends_at (fun _ _ _ _ _ _ us hl => match us, hl with | [_, _, _], _ => rfl) fun cdv A outer s H E F0 hr => by
    have nd := sc_bends_at.nd; have tk := takesD (P := P) (w := w) (K := K) (mg := mg) (base := base) (N := N_bends_at) (qual := "bends_at") (scope := defScope s_bends_at) (f := f) (cdv := cdv) (A := A) (outer := outer) (s := s) (H := H) (E := E); have po := passes_of (X := cxOf (L2.CX P w) P w K mg base N_bends_at "bends_at" (defScope s_bends_at) f cdv A outer s H E) rfl; exact
    (vs_cons (vs_asg (ve_var 1) (vg_tup rfl (vgs_cons (vg_name 3 nd) (vgs_cons (vg_name 4 nd) (vgs_cons (vg_name 5 nd) vgs_nil)))))
  (vs_cons (vs_if (vt_cmp (opv_in hr) (ve_var 2) (ve_ix (ve_var 0) ve_int)) (vs_one (vs_ret (ve_op opv_add (ve_var 4) (ve_var 5)))) vs_nil)
  (vs_one (vs_ret (ve_var 4)))))
abbrev s_comings : Stmt := top 16
abbrev N_comings : List Str := ["pieces", "piece", "place", "beats"]
theorem sc_comings : FnScope N_comings ["pieces", "piece", "place", "beats"] (defScope s_comings) := ⟨rfl, rfl, rfl, by decide +kernel, rfl, by decide +kernel, by decide +kernel⟩
noncomputable def b_comings : Evn → RS :=
  (sRet (m2 pSub (m2 pDiv (m2 pSub (m2 pAdd (mGet 1) (mGet 3)) (mGet 2)) (mGet 0)) (m2 pDiv (m2 pSub (mGet 1) (mGet 2)) (mGet 0))))
noncomputable def m_comings : List PyData → RE PyData := fnM 4 4 b_comings
theorem ok_comings {P : Program} {w : World} {K : PySem.W.Frag} {mg : Str → Option Value} {base : Heap} {f : Addr} {fd : FuncData} (F : FnP K "comings" s_comings f fd) (gl : mg "comings" = some (.ref f)) : Cal P w K mg base 1 "comings" ["pieces", "piece", "place", "beats"] m_comings :=
  Cal.of (k := 0) F gl sc_comings (fun _ _ _ _ _ _ us hl => match us, hl with | [_, _, _, _], _ => rfl) fun cdv A outer s H E F0 hr => by
    have nd := sc_comings.nd; have tk := takesD (P := P) (w := w) (K := K) (mg := mg) (base := base) (N := N_comings) (qual := "comings") (scope := defScope s_comings) (f := f) (cdv := cdv) (A := A) (outer := outer) (s := s) (H := H) (E := E); have po := passes_of (X := cxOf (L2.CX P w) P w K mg base N_comings "comings" (defScope s_comings) f cdv A outer s H E) rfl; exact
    (vs_one (vs_ret (ve_op opv_sub (ve_op opv_div (ve_op opv_sub (ve_op opv_add (ve_var 1) (ve_var 3)) (ve_var 2)) (ve_var 0)) (ve_op opv_div (ve_op opv_sub (ve_var 1) (ve_var 2)) (ve_var 0)))))
abbrev s_wear : Stmt := top 18
abbrev N_wear : List Str := ["loop", "piece", "beats", "pieces", "wheels", "_", "some", "wheel"]
theorem sc_wear : FnScope N_wear ["loop", "piece", "beats"] (defScope s_wear) := ⟨rfl, rfl, rfl, by decide +kernel, rfl, by decide +kernel, by decide +kernel⟩
noncomputable def b_wear : Evn → RS :=
  (sThen (sAsg (mGet 0) (gT 3 (gC (gN 3) (gC (gN 4) (gC (gN 5) gE)))))
  (sThen (sSetL 6 (mLc (mItems (mGet 4)) (gN 7) mYes (m2 pMul (mSeq m_bends_at (mCons (mGet 0) (mCons (mGet 7) (mCons (mGet 1) mNil)))) (mSeq m_comings (mCons (mGet 3) (mCons (mGet 1) (mCons (m2 pIdx (mGet 7) (mC (.int 0))) (mCons (mGet 2) mNil)))))) [7]))
  (sRet (mCall bSum (mCons (mGet 6) mNil)))))
noncomputable def m_wear : List PyData → RE PyData := fnM 3 8 b_wear
theorem ok_wear {P : Program} {w : World} {K : PySem.W.Frag} {mg : Str → Option Value} {base : Heap} {f : Addr} {fd : FuncData} (F : FnP K "wear" s_wear f fd) (gl : mg "wear" = some (.ref f)) (bi : Bi mg) (C_bends_at : Cal P w K mg base 1 "bends_at" ["loop", "wheel", "piece"] m_bends_at) (C_comings : Cal P w K mg base 1 "comings" ["pieces", "piece", "place", "beats"] m_comings) : Cal P w K mg base 2 "wear" ["loop", "piece", "beats"] m_wear :=
  Cal.of (k := 1) F gl sc_wear (fun _ _ _ _ _ _ us hl => match us, hl with | [_, _, _], _ => rfl) fun cdv A outer s H E F0 hr => by
    have nd := sc_wear.nd; have tk := takesD (P := P) (w := w) (K := K) (mg := mg) (base := base) (N := N_wear) (qual := "wear") (scope := defScope s_wear) (f := f) (cdv := cdv) (A := A) (outer := outer) (s := s) (H := H) (E := E); have po := passes_of (X := cxOf (L2.CX P w) P w K mg base N_wear "wear" (defScope s_wear) f cdv A outer s H E) rfl; exact
    (vs_cons (vs_asg (ve_var 0) (vg_tup rfl (vgs_cons (vg_name 3 nd) (vgs_cons (vg_name 4 nd) (vgs_cons (vg_name 5 nd) vgs_nil)))))
  (vs_cons (vs_lcL 6 rfl nd (vi_items (ve_var 4)) (blkOk_by (own := [("wheel", 7)]) (N := N_wear) (sc := defScope s_wear) (by decide +kernel)) (fun _ _ _ _ _ => (vg_name 7 nd)) (fun _ _ _ _ _ => vts_nil) (fun _ _ _ _ _ => (ve_op opv_mul (ve_cal C_bends_at hr takesN (va_cons (ve_var 0) (va_cons (ve_var 7) (va_cons (ve_var 1) va_nil)))) (ve_cal C_comings hr takesN (va_cons (ve_var 3) (va_cons (ve_var 1) (va_cons (ve_ix (ve_var 7) ve_int) (va_cons (ve_var 2) va_nil))))))))
  (vs_one (vs_ret (ve_callB (cb_sum rfl) rfl bi.l_sum rfl (va_cons (ve_var 6) va_nil))))))
abbrev s_all_wear : Stmt := top 19
abbrev N_all_wear : List Str := ["loop", "beats", "piece"]
theorem sc_all_wear : FnScope N_all_wear ["loop", "beats"] (defScope s_all_wear) := ⟨rfl, rfl, rfl, by decide +kernel, rfl, by decide +kernel, by decide +kernel⟩
noncomputable def b_all_wear : Evn → RS :=
  (sRet (mL (mLc (mWk rng1 (mCons (m2 pIdx (mGet 0) (mC (.int 0))) mNil)) (gN 2) mYes (mSeq m_wear (mCons (mGet 0) (mCons (mGet 2) (mCons (mGet 1) mNil)))) [2])))
noncomputable def m_all_wear : List PyData → RE PyData := fnM 2 3 b_all_wear
theorem ok_all_wear {P : Program} {w : World} {K : PySem.W.Frag} {mg : Str → Option Value} {base : Heap} {f : Addr} {fd : FuncData} (F : FnP K "all_wear" s_all_wear f fd) (gl : mg "all_wear" = some (.ref f)) (bi : Bi mg) (C_wear : Cal P w K mg base 2 "wear" ["loop", "piece", "beats"] m_wear) : Cal P w K mg base 3 "all_wear" ["loop", "beats"] m_all_wear :=
  Cal.of (k := 2) F gl sc_all_wear (fun _ _ _ _ _ _ us hl => match us, hl with | [_, _], _ => rfl) fun cdv A outer s H E F0 hr => by
    have nd := sc_all_wear.nd; have tk := takesD (P := P) (w := w) (K := K) (mg := mg) (base := base) (N := N_all_wear) (qual := "all_wear") (scope := defScope s_all_wear) (f := f) (cdv := cdv) (A := A) (outer := outer) (s := s) (H := H) (E := E); have po := passes_of (X := cxOf (L2.CX P w) P w K mg base N_all_wear "all_wear" (defScope s_all_wear) f cdv A outer s H E) rfl; exact
    (vs_one (vs_ret (VF.v (vf_lc rfl nd (vi_range1 rfl bi.l_range (va_cons (ve_ix (ve_var 0) ve_int) va_nil)) (blkOk_by (own := [("piece", 2)]) (N := N_all_wear) (sc := defScope s_all_wear) (by decide +kernel)) (fun _ _ _ _ _ => (vg_name 2 nd)) (fun _ _ _ _ _ => vts_nil) (fun _ _ _ _ _ => (ve_cal C_wear hr takesN (va_cons (ve_var 0) (va_cons (ve_var 2) (va_cons (ve_var 1) va_nil)))))))))
abbrev s_law_wear : Stmt := top 24
abbrev N_law_wear : List Str := ["loop", "piece", "beats", "pieces", "wheels", "grips", "total", "place", "bend", "more", "first"]
theorem sc_law_wear : FnScope N_law_wear ["loop", "piece", "beats"] (defScope s_law_wear) := ⟨rfl, rfl, rfl, by decide +kernel, rfl, by decide +kernel, by decide +kernel⟩
noncomputable def l_law_wear_0 : Evn → RS :=
  (sThen (sSet 10 (m2 pAdd (m2 pMod (mCall bInt (mCons (m2 pSub (m2 pSub (mGet 7) (mGet 1)) (mC (.int 1))) mNil)) (mGet 3)) (mC (.int 1))))
  (sIf (mB (m2 pGe (mGet 2) (mGet 10)))
    (sSet 6 (m2 pAdd (mGet 6) (m2 pMul (m2 pAdd (m2 pDiv (m2 pSub (mGet 2) (mGet 10)) (mGet 3)) (mC (.int 1))) (m2 pAdd (mGet 8) (m2 pMul (mGet 9) (mCall bInt (mCons (m2 pIn (mGet 1) (mGet 5)) mNil)))))))
    sNx))
theorem u_law_wear_0 (ρ : Evn) : l_law_wear_0 ρ = (sThen (sSet 10 (m2 pAdd (m2 pMod (mCall bInt (mCons (m2 pSub (m2 pSub (mGet 7) (mGet 1)) (mC (.int 1))) mNil)) (mGet 3)) (mC (.int 1))))
  (sIf (mB (m2 pGe (mGet 2) (mGet 10)))
    (sSet 6 (m2 pAdd (mGet 6) (m2 pMul (m2 pAdd (m2 pDiv (m2 pSub (mGet 2) (mGet 10)) (mGet 3)) (mC (.int 1))) (m2 pAdd (mGet 8) (m2 pMul (mGet 9) (mCall bInt (mCons (m2 pIn (mGet 1) (mGet 5)) mNil)))))))
    sNx)) ρ := nr rfl
noncomputable def b_law_wear : Evn → RS :=
  (sThen (sAsg (mGet 0) (gT 3 (gC (gN 3) (gC (gN 4) (gC (gN 5) gE)))))
  (sThen (sSet 6 (mC (.int 0)))
  (sThen (sFor (mItems (mGet 4)) (gT 3 (gC (gN 7) (gC (gN 8) (gC (gN 9) gE)))) l_law_wear_0)
  (sRet (mGet 6)))))
noncomputable def m_law_wear : List PyData → RE PyData := fnM 3 11 b_law_wear
theorem ok_law_wear {P : Program} {w : World} {K : PySem.W.Frag} {mg : Str → Option Value} {base : Heap} {f : Addr} {fd : FuncData} (F : FnP K "_law_wear" s_law_wear f fd) (gl : mg "_law_wear" = some (.ref f)) (bi : Bi mg) : Cal P w K mg base 1 "_law_wear" ["loop", "piece", "beats"] m_law_wear :=
  Cal.of (k := 0) F gl sc_law_wear (fun _ _ _ _ _ _ us hl => match us, hl with | [_, _, _], _ => rfl) fun cdv A outer s H E F0 hr => by
    have nd := sc_law_wear.nd; have tk := takesD (P := P) (w := w) (K := K) (mg := mg) (base := base) (N := N_law_wear) (qual := "_law_wear") (scope := defScope s_law_wear) (f := f) (cdv := cdv) (A := A) (outer := outer) (s := s) (H := H) (E := E); have po := passes_of (X := cxOf (L2.CX P w) P w K mg base N_law_wear "_law_wear" (defScope s_law_wear) f cdv A outer s H E) rfl; exact
    (vs_cons (vs_asg (ve_var 0) (vg_tup rfl (vgs_cons (vg_name 3 nd) (vgs_cons (vg_name 4 nd) (vgs_cons (vg_name 5 nd) vgs_nil)))))
  (vs_cons (vs_set 6 nd ve_int)
  (vs_cons (vs_for po rfl (vi_items (ve_var 4)) (vg_tup rfl (vgs_cons (vg_name 7 nd) (vgs_cons (vg_name 8 nd) (vgs_cons (vg_name 9 nd) vgs_nil)))) (vs_cons (vs_set 10 nd (ve_op opv_add (ve_op opv_mod (ve_callTy cb_int rfl bi.l_int rfl (va_cons (ve_op opv_sub (ve_op opv_sub (ve_var 7) (ve_var 1)) ve_int) va_nil)) (ve_var 3)) ve_int))
  (vs_one (vs_if (vt_cmp opv_ge (ve_var 2) (ve_var 10)) (vs_one (vs_set 6 nd (ve_op opv_add (ve_var 6) (ve_op opv_mul (ve_op opv_add (ve_op opv_div (ve_op opv_sub (ve_var 2) (ve_var 10)) (ve_var 3)) ve_int) (ve_op opv_add (ve_var 8) (ve_op opv_mul (ve_var 9) (ve_callTy cb_int rfl bi.l_int rfl (va_cons (ve_cmp (opv_in hr) (ve_var 1) (ve_var 5)) va_nil)))))))) vs_nil))))
  (vs_one (vs_ret (ve_var 6))))))
abbrev s_law_came : Stmt := top 27
abbrev N_law_came : List Str := ["pieces", "piece", "place", "beats", "beat"]
theorem sc_law_came : FnScope N_law_came ["pieces", "piece", "place", "beats"] (defScope s_law_came) := ⟨rfl, rfl, rfl, by decide +kernel, rfl, by decide +kernel, by decide +kernel⟩
noncomputable def b_law_came : Evn → RS :=
  (sRet (mCall bLen (mCons (mL (mLc (mWk rng2 (mCons (mC (.int 1)) (mCons (m2 pAdd (mGet 3) (mC (.int 1))) mNil))) (gN 4) (mB (m2 pEq (m2 pMod (mCall bInt (mCons (m2 pAdd (mGet 1) (mGet 4)) mNil)) (mGet 0)) (mGet 2))) (mGet 4) [4])) mNil)))
noncomputable def m_law_came : List PyData → RE PyData := fnM 4 5 b_law_came
theorem ok_law_came {P : Program} {w : World} {K : PySem.W.Frag} {mg : Str → Option Value} {base : Heap} {f : Addr} {fd : FuncData} (F : FnP K "_law_came" s_law_came f fd) (gl : mg "_law_came" = some (.ref f)) (bi : Bi mg) : Cal P w K mg base 1 "_law_came" ["pieces", "piece", "place", "beats"] m_law_came :=
  Cal.of (k := 0) F gl sc_law_came (fun _ _ _ _ _ _ us hl => match us, hl with | [_, _, _, _], _ => rfl) fun cdv A outer s H E F0 hr => by
    have nd := sc_law_came.nd; have tk := takesD (P := P) (w := w) (K := K) (mg := mg) (base := base) (N := N_law_came) (qual := "_law_came") (scope := defScope s_law_came) (f := f) (cdv := cdv) (A := A) (outer := outer) (s := s) (H := H) (E := E); have po := passes_of (X := cxOf (L2.CX P w) P w K mg base N_law_came "_law_came" (defScope s_law_came) f cdv A outer s H E) rfl; exact
    (vs_one (vs_ret (ve_callB cb_len rfl bi.l_len rfl (va_cons (VF.v (vf_lc rfl nd (vi_range2 rfl bi.l_range (va_cons ve_int (va_cons (ve_op opv_add (ve_var 3) ve_int) va_nil))) (blkOk_by (own := [("beat", 4)]) (N := N_law_came) (sc := defScope s_law_came) (by decide +kernel)) (fun _ _ _ _ _ => (vg_name 4 nd)) (fun _ _ _ _ _ => (vts_one (vt_cmp (opv_eq hr) (ve_op opv_mod (ve_callTy cb_int rfl bi.l_int rfl (va_cons (ve_op opv_add (ve_var 1) (ve_var 4)) va_nil)) (ve_var 0)) (ve_var 2)))) (fun _ _ _ _ _ => (ve_var 4)))) va_nil))))
abbrev s_turn_wear : Stmt := top 20
abbrev N_turn_wear : List Str := ["loop", "piece", "wheel"]
theorem sc_turn_wear : FnScope N_turn_wear ["loop", "piece"] (defScope s_turn_wear) := ⟨rfl, rfl, rfl, by decide +kernel, rfl, by decide +kernel, by decide +kernel⟩
noncomputable def b_turn_wear : Evn → RS :=
  (sRet (mCall bSum (mCons (mL (mLc (mItems (m2 pIdx (mGet 0) (mC (.int 1)))) (gN 2) mYes (mSeq m_bends_at (mCons (mGet 0) (mCons (mGet 2) (mCons (mGet 1) mNil)))) [2])) mNil)))
noncomputable def m_turn_wear : List PyData → RE PyData := fnM 2 3 b_turn_wear
theorem ok_turn_wear {P : Program} {w : World} {K : PySem.W.Frag} {mg : Str → Option Value} {base : Heap} {f : Addr} {fd : FuncData} (F : FnP K "turn_wear" s_turn_wear f fd) (gl : mg "turn_wear" = some (.ref f)) (bi : Bi mg) (C_bends_at : Cal P w K mg base 1 "bends_at" ["loop", "wheel", "piece"] m_bends_at) : Cal P w K mg base 2 "turn_wear" ["loop", "piece"] m_turn_wear :=
  Cal.of (k := 1) F gl sc_turn_wear (fun _ _ _ _ _ _ us hl => match us, hl with | [_, _], _ => rfl) fun cdv A outer s H E F0 hr => by
    have nd := sc_turn_wear.nd; have tk := takesD (P := P) (w := w) (K := K) (mg := mg) (base := base) (N := N_turn_wear) (qual := "turn_wear") (scope := defScope s_turn_wear) (f := f) (cdv := cdv) (A := A) (outer := outer) (s := s) (H := H) (E := E); have po := passes_of (X := cxOf (L2.CX P w) P w K mg base N_turn_wear "turn_wear" (defScope s_turn_wear) f cdv A outer s H E) rfl; exact
    (vs_one (vs_ret (ve_callB (cb_sum rfl) rfl bi.l_sum rfl (va_cons (VF.v (vf_lc rfl nd (vi_items (ve_ix (ve_var 0) ve_int)) (blkOk_by (own := [("wheel", 2)]) (N := N_turn_wear) (sc := defScope s_turn_wear) (by decide +kernel)) (fun _ _ _ _ _ => (vg_name 2 nd)) (fun _ _ _ _ _ => vts_nil) (fun _ _ _ _ _ => (ve_cal C_bends_at hr takesN (va_cons (ve_var 0) (va_cons (ve_var 2) (va_cons (ve_var 1) va_nil))))))) va_nil))))
abbrev s_law : Stmt := top 30
abbrev N_law : List Str := ["script", "picks", "loop", "pieces", "wheels", "grips", "kept", "beats", "due", "piece", "place", "many", "once", "where", "bend", "more", "other"]
theorem sc_law : FnScope N_law ["script"] (defScope s_law) := ⟨rfl, rfl, rfl, by decide +kernel, rfl, by decide +kernel, by decide +kernel⟩
noncomputable def l_law_0 : Evn → RS :=
  (sThen (sIf (mB (m2 pGt (mGet 3) (mC (.int 60))))
    (sSet 7 (m2 pMod (mCall bInt (mCons (mGet 7) mNil)) (mC (.int 40))))
    sNx)
  (sThen (sSet 8 (mSeq m_law_walked (mCons (mGet 2) (mCons (mGet 7) mNil))))
  (sThen (sIf (mNotB (mT (mSeq (m_law_like 8) (mCons (mSeq m_all_wear (mCons (mGet 2) (mCons (mGet 7) mNil))) (mCons (mGet 8) mNil)))))
    (sRet (mC (.bool false)))
    sNx)
  (sThen (sSet 9 (m2 pMod (m2 pIdx (mGet 1) (mC (.int 4))) (mGet 3)))
  (sThen (sIf (mOrB (mNotB (mT (mSeq (m_law_like 8) (mCons (mSeq m_wear (mCons (mGet 2) (mCons (mGet 9) (mCons (mGet 7) mNil)))) (mCons (m2 pIdx (mGet 8) (mGet 9)) mNil))))) (mB (m2 pNe (mSeq m_law_wear (mCons (mGet 2) (mCons (mGet 9) (mCons (mGet 7) mNil)))) (m2 pIdx (mGet 8) (mGet 9)))))
    (sRet (mC (.bool false)))
    sNx)
  (sThen (sSet 10 (m2 pMod (m2 pIdx (mGet 1) (mC (.int 5))) (mGet 3)))
  (sThen (sIf (mNotB (mT (mSeq (m_law_like 8) (mCons (mSeq m_comings (mCons (mGet 3) (mCons (mGet 9) (mCons (mGet 10) (mCons (mGet 7) mNil))))) (mCons (mSeq m_law_came (mCons (mGet 3) (mCons (mGet 9) (mCons (mGet 10) (mCons (mGet 7) mNil))))) mNil)))))
    (sRet (mC (.bool false)))
    sNx)
  (sThen (sSet 11 (m2 pIdx (mSeq mLst (mCons (mC (.int 1)) (mCons (m2 pIdx (mGet 1) (mC (.int 6))) (mCons (m2 pAdd (m2 pPow (mC (.int 10)) (mC (.int 27))) (m2 pIdx (mGet 1) (mC (.int 7)))) mNil)))) (m2 pMod (m2 pIdx (mGet 1) (mC (.int 8))) (mC (.int 3)))))
  (sThen (sSet 12 (mCall bSum (mCons (mL (mLc (mItems (mGet 4)) (gT 3 (gC (gN 13) (gC (gN 14) (gC (gN 15) gE)))) mYes (m2 pAdd (mGet 14) (m2 pMul (mGet 15) (mCall bInt (mCons (m2 pIn (mGet 9) (mGet 5)) mNil)))) [13, 14, 15])) mNil)))
  (sThen (sIf (mNotB (mT (mSeq (m_law_like 8) (mCons (mSeq m_turn_wear (mCons (mGet 2) (mCons (mGet 9) mNil))) (mCons (mGet 12) mNil)))))
    (sRet (mC (.bool false)))
    sNx)
  (sThen (sIf (mNotB (mT (mSeq (m_law_like 8) (mCons (mSeq m_wear (mCons (mGet 2) (mCons (mGet 9) (mCons (m2 pAdd (mGet 7) (m2 pMul (mGet 11) (mGet 3))) mNil)))) (mCons (m2 pAdd (m2 pIdx (mGet 8) (mGet 9)) (m2 pMul (mGet 11) (mGet 12))) mNil)))))
    (sRet (mC (.bool false)))
    sNx)
  (sIf (mNotB (mT (mSeq (m_law_like 8) (mCons (mSeq m_comings (mCons (mGet 3) (mCons (mGet 9) (mCons (mGet 10) (mCons (m2 pAdd (mGet 7) (m2 pMul (mGet 11) (mGet 3))) mNil))))) (mCons (m2 pAdd (mSeq m_law_came (mCons (mGet 3) (mCons (mGet 9) (mCons (mGet 10) (mCons (mGet 7) mNil))))) (mGet 11)) mNil)))))
    (sRet (mC (.bool false)))
    sNx))))))))))))
theorem u_law_0 (ρ : Evn) : l_law_0 ρ = (sThen (sIf (mB (m2 pGt (mGet 3) (mC (.int 60))))
    (sSet 7 (m2 pMod (mCall bInt (mCons (mGet 7) mNil)) (mC (.int 40))))
    sNx)
  (sThen (sSet 8 (mSeq m_law_walked (mCons (mGet 2) (mCons (mGet 7) mNil))))
  (sThen (sIf (mNotB (mT (mSeq (m_law_like 8) (mCons (mSeq m_all_wear (mCons (mGet 2) (mCons (mGet 7) mNil))) (mCons (mGet 8) mNil)))))
    (sRet (mC (.bool false)))
    sNx)
  (sThen (sSet 9 (m2 pMod (m2 pIdx (mGet 1) (mC (.int 4))) (mGet 3)))
  (sThen (sIf (mOrB (mNotB (mT (mSeq (m_law_like 8) (mCons (mSeq m_wear (mCons (mGet 2) (mCons (mGet 9) (mCons (mGet 7) mNil)))) (mCons (m2 pIdx (mGet 8) (mGet 9)) mNil))))) (mB (m2 pNe (mSeq m_law_wear (mCons (mGet 2) (mCons (mGet 9) (mCons (mGet 7) mNil)))) (m2 pIdx (mGet 8) (mGet 9)))))
    (sRet (mC (.bool false)))
    sNx)
  (sThen (sSet 10 (m2 pMod (m2 pIdx (mGet 1) (mC (.int 5))) (mGet 3)))
  (sThen (sIf (mNotB (mT (mSeq (m_law_like 8) (mCons (mSeq m_comings (mCons (mGet 3) (mCons (mGet 9) (mCons (mGet 10) (mCons (mGet 7) mNil))))) (mCons (mSeq m_law_came (mCons (mGet 3) (mCons (mGet 9) (mCons (mGet 10) (mCons (mGet 7) mNil))))) mNil)))))
    (sRet (mC (.bool false)))
    sNx)
  (sThen (sSet 11 (m2 pIdx (mSeq mLst (mCons (mC (.int 1)) (mCons (m2 pIdx (mGet 1) (mC (.int 6))) (mCons (m2 pAdd (m2 pPow (mC (.int 10)) (mC (.int 27))) (m2 pIdx (mGet 1) (mC (.int 7)))) mNil)))) (m2 pMod (m2 pIdx (mGet 1) (mC (.int 8))) (mC (.int 3)))))
  (sThen (sSet 12 (mCall bSum (mCons (mL (mLc (mItems (mGet 4)) (gT 3 (gC (gN 13) (gC (gN 14) (gC (gN 15) gE)))) mYes (m2 pAdd (mGet 14) (m2 pMul (mGet 15) (mCall bInt (mCons (m2 pIn (mGet 9) (mGet 5)) mNil)))) [13, 14, 15])) mNil)))
  (sThen (sIf (mNotB (mT (mSeq (m_law_like 8) (mCons (mSeq m_turn_wear (mCons (mGet 2) (mCons (mGet 9) mNil))) (mCons (mGet 12) mNil)))))
    (sRet (mC (.bool false)))
    sNx)
  (sThen (sIf (mNotB (mT (mSeq (m_law_like 8) (mCons (mSeq m_wear (mCons (mGet 2) (mCons (mGet 9) (mCons (m2 pAdd (mGet 7) (m2 pMul (mGet 11) (mGet 3))) mNil)))) (mCons (m2 pAdd (m2 pIdx (mGet 8) (mGet 9)) (m2 pMul (mGet 11) (mGet 12))) mNil)))))
    (sRet (mC (.bool false)))
    sNx)
  (sIf (mNotB (mT (mSeq (m_law_like 8) (mCons (mSeq m_comings (mCons (mGet 3) (mCons (mGet 9) (mCons (mGet 10) (mCons (m2 pAdd (mGet 7) (m2 pMul (mGet 11) (mGet 3))) mNil))))) (mCons (m2 pAdd (mSeq m_law_came (mCons (mGet 3) (mCons (mGet 9) (mCons (mGet 10) (mCons (mGet 7) mNil))))) (mGet 11)) mNil)))))
    (sRet (mC (.bool false)))
    sNx)))))))))))) ρ := nr rfl
noncomputable def l_law_1 : Evn → RS :=
  (sIf (mNotB (mT (mSeq m_law_refused (mCons (mGet 16) mNil))))
    (sRet (mC (.bool false)))
    sNx)
theorem u_law_1 (ρ : Evn) : l_law_1 ρ = (sIf (mNotB (mT (mSeq m_law_refused (mCons (mGet 16) mNil))))
    (sRet (mC (.bool false)))
    sNx) ρ := nr rfl
noncomputable def b_law : Evn → RS :=
  (sThen (sSet 1 (mSeq m_law_draws (mCons (mGet 0) (mCons (mC (.int 0)) (mCons (mC (.int 12)) mNil)))))
  (sThen (sSet 2 (mSeq m_law_loop (mCons (mGet 0) (mCons (mC (.int 1)) (mCons (m2 pIdx (mSeq mLst (mCons (mC (.int 12)) (mCons (mC (.int 40)) (mCons (mC (.int 12)) (mCons (mC (.int 40)) (mCons (mC (.int 24)) (mCons (mC (.int 500)) mNil))))))) (m2 pMul (m2 pMod (m2 pIdx (mGet 1) (mC (.int 0))) (mC (.int 6))) (mCall bInt (mCons (m2 pEq (m2 pMod (m2 pIdx (mGet 1) (mC (.int 1))) (mC (.int 3))) (mC (.int 0))) mNil)))) mNil)))))
  (sThen (sAsg (mGet 2) (gT 3 (gC (gN 3) (gC (gN 4) (gC (gN 5) gE)))))
  (sThen (sSet 6 (mSeq mTup (mCons (mGet 3) (mCons (mCall bList (mCons (mGet 4) mNil)) (mCons (mCall bList (mCons (mGet 5) mNil)) mNil)))))
  (sThen (sIf (mB (m2 pIsNotN (mSeq m_check_loop (mCons (mGet 2) mNil)) (mC .none)))
    (sRet (mC (.bool false)))
    sNx)
  (sThen (sFor (mItems (mSeq mLst (mCons (mC (.int 0)) (mCons (mC (.int 1)) (mCons (m2 pMod (m2 pIdx (mGet 1) (mC (.int 2))) (m2 pAdd (mGet 3) (mC (.int 1)))) (mCons (mCall bMin (mCons (m2 pAdd (m2 pMul (mC (.int 2)) (mGet 3)) (mC (.int 3))) (mCons (m2 pAdd (mGet 3) (m2 pMod (m2 pIdx (mGet 1) (mC (.int 3))) (m2 pAdd (mGet 3) (mC (.int 9))))) mNil))) mNil)))))) (gN 7) l_law_0)
  (sThen (sFor (mItems (mSeq m_law_others (mCons (mGet 2) (mCons (m2 pIdx (mGet 1) (mC (.int 9))) mNil)))) (gN 16) l_law_1)
  (sRet (m2 pEq (mGet 2) (mGet 6))))))))))
noncomputable def m_law : List PyData → RE PyData := fnM 1 17 b_law
theorem ok_law {P : Program} {w : World} {K : PySem.W.Frag} {mg : Str → Option Value} {base : Heap} {f : Addr} {fd : FuncData} (F : FnP K "law" s_law f fd) (bi : Bi mg) (C_law_draws : Cal P w K mg base 1 "_law_draws" ["script", "at", "count"] m_law_draws) (C_law_loop : Cal P w K mg base 2 "_law_loop" ["script", "at", "most"] m_law_loop) (C_check_loop : Cal P w K mg base 4 "check_loop" ["loop"] m_check_loop) (C_law_walked : Cal P w K mg base 1 "_law_walked" ["loop", "beats"] m_law_walked) (C_all_wear : Cal P w K mg base 3 "all_wear" ["loop", "beats"] m_all_wear) (C_law_like : Cal P w K mg base 9 "_law_like" ["told", "due"] (m_law_like 8)) (C_law_wear : Cal P w K mg base 1 "_law_wear" ["loop", "piece", "beats"] m_law_wear) (C_wear : Cal P w K mg base 2 "wear" ["loop", "piece", "beats"] m_wear) (C_law_came : Cal P w K mg base 1 "_law_came" ["pieces", "piece", "place", "beats"] m_law_came) (C_comings : Cal P w K mg base 1 "comings" ["pieces", "piece", "place", "beats"] m_comings) (C_turn_wear : Cal P w K mg base 2 "turn_wear" ["loop", "piece"] m_turn_wear) (C_law_others : Cal P w K mg base 1 "_law_others" ["loop", "pick"] m_law_others) (C_law_refused : Cal P w K mg base 5 "_law_refused" ["loop"] m_law_refused) : FnV P w K mg base 10 f fd ["script"] m_law :=
  FnV.ofP (k := 9) F sc_law fun cdv A outer s H E F0 hr => by
    have nd := sc_law.nd; have tk := takesD (P := P) (w := w) (K := K) (mg := mg) (base := base) (N := N_law) (qual := "law") (scope := defScope s_law) (f := f) (cdv := cdv) (A := A) (outer := outer) (s := s) (H := H) (E := E); have po := passes_of (X := cxOf (L2.CX P w) P w K mg base N_law "law" (defScope s_law) f cdv A outer s H E) rfl; exact
    (vs_cons (vs_set 1 nd (ve_cal C_law_draws hr tk (va_cons (ve_var 0) (va_cons ve_int (va_cons ve_int va_nil)))))
  (vs_cons (vs_set 2 nd (ve_cal C_law_loop hr tk (va_cons (ve_var 0) (va_cons ve_int (va_cons (ve_ix (ve_lst (va_cons ve_int (va_cons ve_int (va_cons ve_int (va_cons ve_int (va_cons ve_int (va_cons ve_int va_nil))))))) (ve_op opv_mul (ve_op opv_mod (ve_ix (ve_var 1) ve_int) ve_int) (ve_callTy cb_int rfl bi.l_int rfl (va_cons (ve_cmp (opv_eq hr) (ve_op opv_mod (ve_ix (ve_var 1) ve_int) ve_int) ve_int) va_nil)))) va_nil)))))
  (vs_cons (vs_asg (ve_var 2) (vg_tup rfl (vgs_cons (vg_name 3 nd) (vgs_cons (vg_name 4 nd) (vgs_cons (vg_name 5 nd) vgs_nil)))))
  (vs_cons (vs_set 6 nd (ve_tup (va_cons (ve_var 3) (va_cons (ve_callTy cb_list rfl bi.l_list rfl (va_cons (ve_var 4) va_nil)) (va_cons (ve_callTy cb_list rfl bi.l_list rfl (va_cons (ve_var 5) va_nil)) va_nil)))))
  (vs_cons (vs_if (vt_cmp opv_isnot (ve_cal C_check_loop hr tk (va_cons (ve_var 2) va_nil)) ve_non) (vs_one (vs_ret ve_bl)) vs_nil)
  (vs_cons (vs_for po rfl (vi_items (ve_lst (va_cons ve_int (va_cons ve_int (va_cons (ve_op opv_mod (ve_ix (ve_var 1) ve_int) (ve_op opv_add (ve_var 3) ve_int)) (va_cons (ve_callB (cb_min rfl) (by rfl) bi.l_min (by rfl) (va_cons (ve_op opv_add (ve_op opv_mul ve_int (ve_var 3)) ve_int) (va_cons (ve_op opv_add (ve_var 3) (ve_op opv_mod (ve_ix (ve_var 1) ve_int) (ve_op opv_add (ve_var 3) ve_int))) va_nil))) va_nil)))))) (vg_name 7 nd) (vs_cons (vs_if (vt_cmp opv_gt (ve_var 3) ve_int) (vs_one (vs_set 7 nd (ve_op opv_mod (ve_callTy cb_int rfl bi.l_int rfl (va_cons (ve_var 7) va_nil)) ve_int))) vs_nil)
  (vs_cons (vs_set 8 nd (ve_cal C_law_walked hr tk (va_cons (ve_var 2) (va_cons (ve_var 7) va_nil))))
  (vs_cons (vs_if (vt_not (vt_truth (ve_cal C_law_like hr tk (va_cons (ve_cal C_all_wear hr tk (va_cons (ve_var 2) (va_cons (ve_var 7) va_nil))) (va_cons (ve_var 8) va_nil))))) (vs_one (vs_ret ve_bl)) vs_nil)
  (vs_cons (vs_set 9 nd (ve_op opv_mod (ve_ix (ve_var 1) ve_int) (ve_var 3)))
  (vs_cons (vs_if (VW.t (vw_or (vt_not (vt_truth (ve_cal C_law_like hr tk (va_cons (ve_cal C_wear hr tk (va_cons (ve_var 2) (va_cons (ve_var 9) (va_cons (ve_var 7) va_nil)))) (va_cons (ve_ix (ve_var 8) (ve_var 9)) va_nil))))) (vw_or1 (vt_cmp (opv_ne hr) (ve_cal C_law_wear hr tk (va_cons (ve_var 2) (va_cons (ve_var 9) (va_cons (ve_var 7) va_nil)))) (ve_ix (ve_var 8) (ve_var 9)))))) (vs_one (vs_ret ve_bl)) vs_nil)
  (vs_cons (vs_set 10 nd (ve_op opv_mod (ve_ix (ve_var 1) ve_int) (ve_var 3)))
  (vs_cons (vs_if (vt_not (vt_truth (ve_cal C_law_like hr tk (va_cons (ve_cal C_comings hr tk (va_cons (ve_var 3) (va_cons (ve_var 9) (va_cons (ve_var 10) (va_cons (ve_var 7) va_nil))))) (va_cons (ve_cal C_law_came hr tk (va_cons (ve_var 3) (va_cons (ve_var 9) (va_cons (ve_var 10) (va_cons (ve_var 7) va_nil))))) va_nil))))) (vs_one (vs_ret ve_bl)) vs_nil)
  (vs_cons (vs_set 11 nd (ve_ix (ve_lst (va_cons ve_int (va_cons (ve_ix (ve_var 1) ve_int) (va_cons (ve_op opv_add (ve_op opv_pow ve_int ve_int) (ve_ix (ve_var 1) ve_int)) va_nil)))) (ve_op opv_mod (ve_ix (ve_var 1) ve_int) ve_int)))
  (vs_cons (vs_set 12 nd (ve_callB (cb_sum rfl) rfl bi.l_sum rfl (va_cons (VF.v (vf_lc rfl nd (vi_items (ve_var 4)) (blkOk_by (own := [("where", 13), ("bend", 14), ("more", 15)]) (N := N_law) (sc := defScope s_law) (by decide +kernel)) (fun _ _ _ _ _ => (vg_tup rfl (vgs_cons (vg_name 13 nd) (vgs_cons (vg_name 14 nd) (vgs_cons (vg_name 15 nd) vgs_nil))))) (fun _ _ _ _ _ => vts_nil) (fun _ _ _ _ _ => (ve_op opv_add (ve_var 14) (ve_op opv_mul (ve_var 15) (ve_callTy cb_int rfl bi.l_int rfl (va_cons (ve_cmp (opv_in hr) (ve_var 9) (ve_var 5)) va_nil))))))) va_nil)))
  (vs_cons (vs_if (vt_not (vt_truth (ve_cal C_law_like hr tk (va_cons (ve_cal C_turn_wear hr tk (va_cons (ve_var 2) (va_cons (ve_var 9) va_nil))) (va_cons (ve_var 12) va_nil))))) (vs_one (vs_ret ve_bl)) vs_nil)
  (vs_cons (vs_if (vt_not (vt_truth (ve_cal C_law_like hr tk (va_cons (ve_cal C_wear hr tk (va_cons (ve_var 2) (va_cons (ve_var 9) (va_cons (ve_op opv_add (ve_var 7) (ve_op opv_mul (ve_var 11) (ve_var 3))) va_nil)))) (va_cons (ve_op opv_add (ve_ix (ve_var 8) (ve_var 9)) (ve_op opv_mul (ve_var 11) (ve_var 12))) va_nil))))) (vs_one (vs_ret ve_bl)) vs_nil)
  (vs_one (vs_if (vt_not (vt_truth (ve_cal C_law_like hr tk (va_cons (ve_cal C_comings hr tk (va_cons (ve_var 3) (va_cons (ve_var 9) (va_cons (ve_var 10) (va_cons (ve_op opv_add (ve_var 7) (ve_op opv_mul (ve_var 11) (ve_var 3))) va_nil))))) (va_cons (ve_op opv_add (ve_cal C_law_came hr tk (va_cons (ve_var 3) (va_cons (ve_var 9) (va_cons (ve_var 10) (va_cons (ve_var 7) va_nil))))) (ve_var 11)) va_nil))))) (vs_one (vs_ret ve_bl)) vs_nil))))))))))))))
  (vs_cons (vs_for po rfl (vi_items (ve_cal C_law_others hr tk (va_cons (ve_var 2) (va_cons (ve_ix (ve_var 1) ve_int) va_nil)))) (vg_name 16 nd) (vs_one (vs_if (vt_not (vt_truth (ve_cal C_law_refused hr tk (va_cons (ve_var 16) va_nil)))) (vs_one (vs_ret ve_bl)) vs_nil)))
  (vs_one (vs_ret (ve_cmp (opv_eq hr) (ve_var 2) (ve_var 6)))))))))))
/-! ### the head -/
def d_law_draws : He.DefD := ⟨("_law_draws", none), "_law_draws", "_law_draws", defArgs s_law_draws, defBody s_law_draws, defScope s_law_draws, [], []⟩
def d_law_loop : He.DefD := ⟨("_law_loop", none), "_law_loop", "_law_loop", defArgs s_law_loop, defBody s_law_loop, defScope s_law_loop, [], []⟩
def d_law_others : He.DefD := ⟨("_law_others", none), "_law_others", "_law_others", defArgs s_law_others, defBody s_law_others, defScope s_law_others, [], []⟩
def d_rises : He.DefD := ⟨("rises", none), "rises", "rises", defArgs s_rises, defBody s_rises, defScope s_rises, [], []⟩
def d_is_whole : He.DefD := ⟨("is_whole", none), "is_whole", "is_whole", defArgs s_is_whole, defBody s_is_whole, defScope s_is_whole, [], []⟩
def d_is_wheel : He.DefD := ⟨("is_wheel", none), "is_wheel", "is_wheel", defArgs s_is_wheel, defBody s_is_wheel, defScope s_is_wheel, [], []⟩
def d_are_wheels : He.DefD := ⟨("are_wheels", none), "are_wheels", "are_wheels", defArgs s_are_wheels, defBody s_are_wheels, defScope s_are_wheels, [], []⟩
def d_is_index : He.DefD := ⟨("is_index", none), "is_index", "is_index", defArgs s_is_index, defBody s_is_index, defScope s_is_index, [], []⟩
def d_are_indexes : He.DefD := ⟨("are_indexes", none), "are_indexes", "are_indexes", defArgs s_are_indexes, defBody s_are_indexes, defScope s_are_indexes, [], []⟩
def d_check_loop : He.DefD := ⟨("check_loop", none), "check_loop", "check_loop", defArgs s_check_loop, defBody s_check_loop, defScope s_check_loop, [], []⟩
def d_law_walked : He.DefD := ⟨("_law_walked", none), "_law_walked", "_law_walked", defArgs s_law_walked, defBody s_law_walked, defScope s_law_walked, [], []⟩
def d_law_like : He.DefD := ⟨("_law_like", none), "_law_like", "_law_like", defArgs s_law_like, defBody s_law_like, defScope s_law_like, [], []⟩
def d_law_refused : He.DefD := ⟨("_law_refused", none), "_law_refused", "_law_refused", defArgs s_law_refused, defBody s_law_refused, defScope s_law_refused, [], []⟩
def d_bends_at : He.DefD := ⟨("bends_at", none), "bends_at", "bends_at", defArgs s_bends_at, defBody s_bends_at, defScope s_bends_at, [], []⟩
def d_comings : He.DefD := ⟨("comings", none), "comings", "comings", defArgs s_comings, defBody s_comings, defScope s_comings, [], []⟩
def d_wear : He.DefD := ⟨("wear", none), "wear", "wear", defArgs s_wear, defBody s_wear, defScope s_wear, [], []⟩
def d_all_wear : He.DefD := ⟨("all_wear", none), "all_wear", "all_wear", defArgs s_all_wear, defBody s_all_wear, defScope s_all_wear, [], []⟩
def d_law_wear : He.DefD := ⟨("_law_wear", none), "_law_wear", "_law_wear", defArgs s_law_wear, defBody s_law_wear, defScope s_law_wear, [], []⟩
def d_law_came : He.DefD := ⟨("_law_came", none), "_law_came", "_law_came", defArgs s_law_came, defBody s_law_came, defScope s_law_came, [], []⟩
def d_turn_wear : He.DefD := ⟨("turn_wear", none), "turn_wear", "turn_wear", defArgs s_turn_wear, defBody s_turn_wear, defScope s_turn_wear, [], []⟩
def d_law : He.DefD := ⟨("law", none), "law", "law", defArgs s_law, defBody s_law, defScope s_law, [], []⟩
def fn : List He.DefD := [d_law_draws, d_law_loop, d_law_others, d_rises, d_is_whole, d_is_wheel, d_are_wheels, d_is_index, d_are_indexes, d_check_loop, d_law_walked, d_law_like, d_law_refused, d_bends_at, d_comings, d_wear, d_all_wear, d_law_wear, d_law_came, d_turn_wear, d_law]
def fa : List He.Fa := [.glo "_law_draws", .glo "_law_loop", .glo "_law_others", .glo "rises", .glo "is_whole", .glo "is_wheel", .glo "are_wheels", .glo "is_index", .glo "are_indexes", .glo "check_loop", .glo "_law_walked", .glo "_law_like", .glo "_law_refused", .glo "bends_at", .glo "comings", .glo "wear", .glo "all_wear", .glo "_law_wear", .glo "_law_came", .glo "turn_wear", .glo "law", .free "ValueError", .free "all", .free "bool", .free "int", .free "isinstance", .free "len", .free "list", .free "max", .free "min", .free "range", .free "str", .free "sum", .free "tuple", .glo "InvalidLoop", .glo "RopeError", .int "MOST_WHEELS" 20, .int "FEWEST_PIECES" 2, .int "MOST_PIECES" 500]
abbrev Rw : PySem.W.OpenRow := PySem.W.OpenLaw.row PySem.Challenge.rw_ropesbear_k64_loops_bent_beat_by_beat
def exb (K : PySem.W.Frag) : Bool := (excsB exL subX K && true)
abbrev hk : PySem.W.Hook := He.hookX 4 fa fn [] [] exb
def ob (s : PySem.W.SharedT) : He.AlX := He.obsX 4 fa fn [] [] exb (HandSHeadRun.getT s)
theorem ob_eq (s : PySem.W.SharedT) : ob s = hk.obs s.abs := He.obsX_eq (HandSHeadRun.getT_eq s)
def loose : List Str := [("is_whole" : Str), ("rises" : Str), ("is_index" : Str), ("are_indexes" : Str), ("is_wheel" : Str), ("are_wheels" : Str), ("check_loop" : Str), ("comings" : Str), ("bends_at" : Str), ("wear" : Str), ("all_wear" : Str), ("turn_wear" : Str), ("_law_draws" : Str), ("_law_like" : Str), ("_law_wear" : Str), ("_law_loop" : Str), ("_law_walked" : Str), ("_law_came" : Str), ("_law_refused" : Str), ("_law_others" : Str), ("RopeError" : Str), ("InvalidLoop" : Str), ("FEWEST_PIECES" : Str), ("MOST_PIECES" : Str), ("MOST_WHEELS" : Str)]
theorem run (w : World) : HandSHeadRun.RunEq Rw (PySem.W.view Rw.prog [30]) hk ob 2260 loose w := by
  intro os
  kernel_rfl
theorem facts {P : Program} {w : World} {K : PySem.W.Frag} {h : Heap} {mg : Str → Option Value} {f : Addr} (X : K.In h) (G : h.Ns mainGlobals mg) (hfa : mg ("law" : Str) = some (.ref f)) (c : He.SaysX fa fn [] [] exb w h K) :
    ∃ fd : FuncData, (∀ (s : Shared) (v : Value), BindsTo s fd ⟨[v], []⟩ [("script", v)]) ∧ ∀ base : Heap, K.In base → base.Ns mainGlobals mg → FnOk P w K mg base (L2.CX P w) 10 f fd ["script"] (SpV K mg 1 m_law) := by
  have cd := c.t.d
  obtain ⟨fd_law_draws, F_law_draws⟩ := cd.def_ 0 (d := d_law_draws) rfl
  have gl_law_draws := He.glo_ok X G (cd.fact 0 (f := .glo "_law_draws") rfl)
  obtain ⟨fd_law_loop, F_law_loop⟩ := cd.def_ 1 (d := d_law_loop) rfl
  have gl_law_loop := He.glo_ok X G (cd.fact 1 (f := .glo "_law_loop") rfl)
  obtain ⟨fd_law_others, F_law_others⟩ := cd.def_ 2 (d := d_law_others) rfl
  have gl_law_others := He.glo_ok X G (cd.fact 2 (f := .glo "_law_others") rfl)
  obtain ⟨fd_rises, F_rises⟩ := cd.def_ 3 (d := d_rises) rfl
  have gl_rises := He.glo_ok X G (cd.fact 3 (f := .glo "rises") rfl)
  obtain ⟨fd_is_whole, F_is_whole⟩ := cd.def_ 4 (d := d_is_whole) rfl
  have gl_is_whole := He.glo_ok X G (cd.fact 4 (f := .glo "is_whole") rfl)
  obtain ⟨fd_is_wheel, F_is_wheel⟩ := cd.def_ 5 (d := d_is_wheel) rfl
  have gl_is_wheel := He.glo_ok X G (cd.fact 5 (f := .glo "is_wheel") rfl)
  obtain ⟨fd_are_wheels, F_are_wheels⟩ := cd.def_ 6 (d := d_are_wheels) rfl
  have gl_are_wheels := He.glo_ok X G (cd.fact 6 (f := .glo "are_wheels") rfl)
  obtain ⟨fd_is_index, F_is_index⟩ := cd.def_ 7 (d := d_is_index) rfl
  have gl_is_index := He.glo_ok X G (cd.fact 7 (f := .glo "is_index") rfl)
  obtain ⟨fd_are_indexes, F_are_indexes⟩ := cd.def_ 8 (d := d_are_indexes) rfl
  have gl_are_indexes := He.glo_ok X G (cd.fact 8 (f := .glo "are_indexes") rfl)
  obtain ⟨fd_check_loop, F_check_loop⟩ := cd.def_ 9 (d := d_check_loop) rfl
  have gl_check_loop := He.glo_ok X G (cd.fact 9 (f := .glo "check_loop") rfl)
  obtain ⟨fd_law_walked, F_law_walked⟩ := cd.def_ 10 (d := d_law_walked) rfl
  have gl_law_walked := He.glo_ok X G (cd.fact 10 (f := .glo "_law_walked") rfl)
  obtain ⟨fd_law_like, F_law_like⟩ := cd.def_ 11 (d := d_law_like) rfl
  have gl_law_like := He.glo_ok X G (cd.fact 11 (f := .glo "_law_like") rfl)
  obtain ⟨fd_law_refused, F_law_refused⟩ := cd.def_ 12 (d := d_law_refused) rfl
  have gl_law_refused := He.glo_ok X G (cd.fact 12 (f := .glo "_law_refused") rfl)
  obtain ⟨fd_bends_at, F_bends_at⟩ := cd.def_ 13 (d := d_bends_at) rfl
  have gl_bends_at := He.glo_ok X G (cd.fact 13 (f := .glo "bends_at") rfl)
  obtain ⟨fd_comings, F_comings⟩ := cd.def_ 14 (d := d_comings) rfl
  have gl_comings := He.glo_ok X G (cd.fact 14 (f := .glo "comings") rfl)
  obtain ⟨fd_wear, F_wear⟩ := cd.def_ 15 (d := d_wear) rfl
  have gl_wear := He.glo_ok X G (cd.fact 15 (f := .glo "wear") rfl)
  obtain ⟨fd_all_wear, F_all_wear⟩ := cd.def_ 16 (d := d_all_wear) rfl
  have gl_all_wear := He.glo_ok X G (cd.fact 16 (f := .glo "all_wear") rfl)
  obtain ⟨fd_law_wear, F_law_wear⟩ := cd.def_ 17 (d := d_law_wear) rfl
  have gl_law_wear := He.glo_ok X G (cd.fact 17 (f := .glo "_law_wear") rfl)
  obtain ⟨fd_law_came, F_law_came⟩ := cd.def_ 18 (d := d_law_came) rfl
  have gl_law_came := He.glo_ok X G (cd.fact 18 (f := .glo "_law_came") rfl)
  obtain ⟨fd_turn_wear, F_turn_wear⟩ := cd.def_ 19 (d := d_turn_wear) rfl
  have gl_turn_wear := He.glo_ok X G (cd.fact 19 (f := .glo "turn_wear") rfl)
  obtain ⟨fd_law, F_law⟩ := cd.def_ 20 (d := d_law) rfl
  have gl_law := He.glo_ok X G (cd.fact 20 (f := .glo "law") rfl)
  have bi : Bi mg := ⟨He.free_ok X G (cd.fact 21 (f := .free "ValueError") rfl), He.free_ok X G (cd.fact 22 (f := .free "all") rfl), He.free_ok X G (cd.fact 23 (f := .free "bool") rfl), He.free_ok X G (cd.fact 24 (f := .free "int") rfl), He.free_ok X G (cd.fact 25 (f := .free "isinstance") rfl), He.free_ok X G (cd.fact 26 (f := .free "len") rfl), He.free_ok X G (cd.fact 27 (f := .free "list") rfl), He.free_ok X G (cd.fact 28 (f := .free "max") rfl), He.free_ok X G (cd.fact 29 (f := .free "min") rfl), He.free_ok X G (cd.fact 30 (f := .free "range") rfl), He.free_ok X G (cd.fact 31 (f := .free "str") rfl), He.free_ok X G (cd.fact 32 (f := .free "sum") rfl), He.free_ok X G (cd.fact 33 (f := .free "tuple") rfl)⟩
  have gi_FEWEST_PIECES := He.int_ok X G (cd.fact 37 (f := .int "FEWEST_PIECES" 2) rfl)
  have gi_MOST_PIECES := He.int_ok X G (cd.fact 38 (f := .int "MOST_PIECES" 500) rfl)
  have gi_MOST_WHEELS := He.int_ok X G (cd.fact 36 (f := .int "MOST_WHEELS" 20) rfl)
  have hex : exb K = true := c.more
  simp only [exb, Bool.and_eq_true] at hex
  have ex : ExAll K mg exL subX := exAll_of hex.1 (fun c hc => by
    simp only [exL, List.mem_cons, List.not_mem_nil, or_false] at hc
    rcases hc with rfl | rfl
    · exact He.glo_ok X G (cd.fact 34 (f := .glo "InvalidLoop") rfl)
    · exact He.glo_ok X G (cd.fact 35 (f := .glo "RopeError") rfl)
    )
  have e := hfa.symm.trans gl_law
  cases e
  have b := FunD.bindsA (ps := ["script"]) F_law fun _ _ _ _ _ _ us hl => match us, hl with | [_], _ => rfl
  refine ⟨fd_law, fun s v => b s [v] rfl, fun base _ _ => ?_⟩
  have C_law_draws := ok_law_draws (P := P) (w := w) (base := base) F_law_draws gl_law_draws bi
  have C_law_loop := ok_law_loop (P := P) (w := w) (base := base) F_law_loop gl_law_loop bi C_law_draws
  have C_law_others := ok_law_others (P := P) (w := w) (base := base) F_law_others gl_law_others bi
  have C_rises := ok_rises (P := P) (w := w) (base := base) F_rises gl_rises bi
  have C_is_whole := ok_is_whole (P := P) (w := w) (base := base) F_is_whole gl_is_whole bi
  have C_is_wheel := ok_is_wheel (P := P) (w := w) (base := base) F_is_wheel gl_is_wheel bi C_is_whole
  have C_are_wheels := ok_are_wheels (P := P) (w := w) (base := base) F_are_wheels gl_are_wheels gi_MOST_WHEELS bi C_is_wheel C_rises
  have C_is_index := ok_is_index (P := P) (w := w) (base := base) F_is_index gl_is_index C_is_whole
  have C_are_indexes := ok_are_indexes (P := P) (w := w) (base := base) F_are_indexes gl_are_indexes bi C_rises C_is_index
  have C_check_loop := ok_check_loop (P := P) (w := w) (base := base) F_check_loop gl_check_loop gi_FEWEST_PIECES gi_MOST_PIECES ex C_is_whole C_are_wheels C_are_indexes
  have C_law_walked := ok_law_walked (P := P) (w := w) (base := base) F_law_walked gl_law_walked bi
  have C_law_like := ok_law_like (P := P) (w := w) (base := base) F_law_like gl_law_like bi 8
  have C_law_refused := ok_law_refused (P := P) (w := w) (base := base) F_law_refused gl_law_refused ex bi C_check_loop
  have C_bends_at := ok_bends_at (P := P) (w := w) (base := base) F_bends_at gl_bends_at
  have C_comings := ok_comings (P := P) (w := w) (base := base) F_comings gl_comings
  have C_wear := ok_wear (P := P) (w := w) (base := base) F_wear gl_wear bi C_bends_at C_comings
  have C_all_wear := ok_all_wear (P := P) (w := w) (base := base) F_all_wear gl_all_wear bi C_wear
  have C_law_wear := ok_law_wear (P := P) (w := w) (base := base) F_law_wear gl_law_wear bi
  have C_law_came := ok_law_came (P := P) (w := w) (base := base) F_law_came gl_law_came bi
  have C_turn_wear := ok_turn_wear (P := P) (w := w) (base := base) F_turn_wear gl_turn_wear bi C_bends_at
  exact (ok_law (P := P) (w := w) (base := base) F_law bi C_law_draws C_law_loop C_check_loop C_law_walked C_all_wear C_law_like C_law_wear C_wear C_law_came C_comings C_turn_wear C_law_others C_law_refused).ok
end Law
end
section
set_option Elab.async false
set_option linter.all false
set_option maxRecDepth 100000
set_option maxHeartbeats 2000000
set_option autoImplicit false
set_option synthInstance.maxHeartbeats 1000000
set_option synthInstance.maxSize 1000
open PySem PV
namespace Law
/-! likeness of data that have a type -/
theorem like_nl (k : Nat) (u d : PyData) (h1 : isTy Ty.list d = false) (h2 : isTy Ty.tuple d = false) : m_law_like (k + 1) [u, d] = m_law_like 1 [u, d] := by
  unfold m_law_like
  rw [fn_go (n := 2) rfl, fn_go (n := 2) rfl]
  unfold b_law_like
  change bodyOut (sThen _ _ [some (.val u), some (.val d), none]) = bodyOut (sThen _ _ [some (.val u), some (.val d), none])
  have c : ∀ {s : List PyData → RE PyData} {g : Evn → RS}, sThen (sIf (mT (mIs2 Ty.list Ty.tuple (mGet 1))) (sThen (sIf (mOrB (mB (m2 pNe (mIs Ty.list (mGet 0)) (mIs Ty.list (mGet 1)))) (mB (m2 pNe (mIs Ty.tuple (mGet 0)) (mIs Ty.tuple (mGet 1))))) (sRet (mC (.bool false))) sNx) (sThen (sIf (mB (m2 pNe (mCall bLen (mCons (mGet 0) mNil)) (mCall bLen (mCons (mGet 1) mNil)))) (sRet (mC (.bool false))) sNx) (sThen (sFor (mWk rng1 (mCons (mCall bLen (mCons (mGet 1) mNil)) mNil)) (gN 2) (l_law_like_0 s)) (sRet (mC (.bool true)))))) sNx) g [some (.val u), some (.val d), none] = g [some (.val u), some (.val d), none] := fun {s g} => st_no (by simp (disch := omega) only [h1, h2, bind_ok, bind_bad, bind_exc, at_ok, at_exc, ofO_some, oS_some, nox_okk, g_v, g_s, go_v, go_s, ga_v, ga_o, ga_s, s_z, s_s, fz_o, fz_v, fz_s, e_mGet, e_mC, e_m2, e_m1, e_mT, e_mB, e_mAndB, e_mOrB, e_mNotB, e_mAnd, e_mOr, e_mIf, e_mChain, e_mNil, e_mCons, e_mSeq, e_mCall, e_mNo, e_mPart, e_mCut, e_mIs, e_mIs2, e_mL, e_mDsp, e_mRep, e_mBind, e_mIxO, e_mBor, e_mBorB, e_mItems, e_mWk, e_mRev, e_mYes, e_mLc, e_gN, e_gE, e_gC, e_gTt, e_gTl, e_sNx, e_sThen, e_sDrop, e_sRet, e_sSet, e_sIf, e_sFor, e_sAsg, e_sPar, e_sSetO, e_sSetL, e_ownAt, e_freeze, e_sApp, e_sSetIx, e_sAugIx, e_sAug, e_sPop, e_sPopTo, e_fnM, e_bo_rt, e_bo_nx, e_bo_exc, e_startE, e_wipe0, e_wipe1, d_add, d_addib, d_addl, d_addt, d_sub, d_mul, d_mulS, d_div, d_mod, d_pow, d_cmp, d_neg, d_not, d_iadd, d_iop, d_toB, d_toI, d_trB, d_trI, d_trN, d_trL, d_trT, d_lenL, d_lenT, d_intI, d_intB, d_abs, d_gcd, d_max2, d_min2, d_sumI, d_anyB, d_allB, d_maxL, d_minL, d_listL, d_listT, d_tupL, d_tupT, d_idxL, d_idxT, d_lstL, d_lstT, d_revL, d_itL, d_itT, d_rng1, d_rng2, d_rng3, d_enum1, d_zip2, d_rev1L, d_rev1T, d_cutL, d_cutT, d_rep, d_mTup, d_mLst, d_setD, d_scN, d_scB, d_scI, d_scS, d_isN, d_isNN, d_isB, d_isNB, d_nN, d_nB, d_nI, d_nS, d_nL, d_nT, if_true, if_false, ite_true, ite_false, reduceIte, List.length_cons, List.length_nil, Nat.zero_add, Nat.reduceAdd, Nat.reduceSub, Nat.reduceEqDiff, List.map_cons, List.map_nil, List.cons_append, List.nil_append, List.replicate, Option.map_some, Option.bind_some, Option.some.injEq, Bool.not_true, Bool.not_false, ne_eq, Bool.false_eq_true, Int.reduceEq, Int.reduceLT, Int.reduceLE, Int.reduceNeg, Int.reduceAdd, Int.reduceSub, Int.reduceMul, Int.reduceToNat, Int.toNat_natCast, Nat.reduceLT, Nat.reduceLeDiff, not_false_eq_true, not_true_eq_false, decide_true, decide_false, List.length_map, List.map_append, fmod_pos, fdiv_pos, and_true, true_and, and_self, Bool.and_true, Bool.or_false, Bool.and_false, Bool.or_true, Bool.true_and, Bool.false_and, ty_li_none, ty_li_bool, ty_li_int, ty_li_str, ty_li_list, ty_li_tuple, ty_tu_none, ty_tu_bool, ty_tu_int, ty_tu_str, ty_tu_list, ty_tu_tuple, ty_bo_none, ty_bo_bool, ty_bo_int, ty_bo_str, ty_bo_list, ty_bo_tuple, ty_in_none, ty_in_bool, ty_in_int, ty_in_str, ty_in_list, ty_in_tuple, ty_st_none, ty_st_bool, ty_st_int, ty_st_str, ty_st_list, ty_st_tuple, eq_int, ne_int, eq_bl, ne_bl, eq_st, ne_st, eq_li, ne_li, at_0, at_1, at_2, at_3, at_4, at_5, in_li, notin_li, c_z, c_s, gx_v, gx_s, e_mIsX, e_sTry, tc_ok, tc_exc, cm_nil, cm_cons, ex_ok, dx_nil, dx_v, dx_o, dx_x, dx_n, at_exx, Int.cast_ofNat_Int, e_mLrg1, e_mLrg2, d_lrg, e_mCat])
  rw [c, c]
theorem like_loop {k : Nat} {u v : PyData} {r : Int → Bool} : ∀ (is : List Int), (∀ i ∈ is, ∃ x y, pIdx u (.int i) = some x ∧ pIdx v (.int i) = some y ∧ m_law_like k [x, y] = .ok (.bool (r i))) → ∀ z, ∃ ρ', PV.forM (gN 2) (l_law_like_0 (m_law_like k)) (is.map PyData.int) [some (.val u), some (.val v), z] = .ok (if is.all r then .nx else .rt (.bool false), ρ')
  | [], _, z => ⟨_, rfl⟩
  | i :: is, h, z => by
    obtain ⟨x, y, h1, h2, h3⟩ := h i (List.mem_cons_self ..)
    obtain ⟨ρ', ih⟩ := like_loop is (fun j hj => h j (List.mem_cons_of_mem _ hj)) (some (.val (.int i)))
    rw [List.map_cons, forM_cons]
    cases c : r i with
    | true =>
      refine ⟨ρ', ?_⟩
      rw [c] at h3
      simp (disch := omega) only [u_law_like_0, h1, h2, h3, bind_ok, bind_bad, bind_exc, at_ok, at_exc, ofO_some, oS_some, nox_okk, g_v, g_s, go_v, go_s, ga_v, ga_o, ga_s, s_z, s_s, fz_o, fz_v, fz_s, e_mGet, e_mC, e_m2, e_m1, e_mT, e_mB, e_mAndB, e_mOrB, e_mNotB, e_mAnd, e_mOr, e_mIf, e_mChain, e_mNil, e_mCons, e_mSeq, e_mCall, e_mNo, e_mPart, e_mCut, e_mIs, e_mIs2, e_mL, e_mDsp, e_mRep, e_mBind, e_mIxO, e_mBor, e_mBorB, e_mItems, e_mWk, e_mRev, e_mYes, e_mLc, e_gN, e_gE, e_gC, e_gTt, e_gTl, e_sNx, e_sThen, e_sDrop, e_sRet, e_sSet, e_sIf, e_sFor, e_sAsg, e_sPar, e_sSetO, e_sSetL, e_ownAt, e_freeze, e_sApp, e_sSetIx, e_sAugIx, e_sAug, e_sPop, e_sPopTo, e_fnM, e_bo_rt, e_bo_nx, e_bo_exc, e_startE, e_wipe0, e_wipe1, d_add, d_addib, d_addl, d_addt, d_sub, d_mul, d_mulS, d_div, d_mod, d_pow, d_cmp, d_neg, d_not, d_iadd, d_iop, d_toB, d_toI, d_trB, d_trI, d_trN, d_trL, d_trT, d_lenL, d_lenT, d_intI, d_intB, d_abs, d_gcd, d_max2, d_min2, d_sumI, d_anyB, d_allB, d_maxL, d_minL, d_listL, d_listT, d_tupL, d_tupT, d_idxL, d_idxT, d_lstL, d_lstT, d_revL, d_itL, d_itT, d_rng1, d_rng2, d_rng3, d_enum1, d_zip2, d_rev1L, d_rev1T, d_cutL, d_cutT, d_rep, d_mTup, d_mLst, d_setD, d_scN, d_scB, d_scI, d_scS, d_isN, d_isNN, d_isB, d_isNB, d_nN, d_nB, d_nI, d_nS, d_nL, d_nT, if_true, if_false, ite_true, ite_false, reduceIte, List.length_cons, List.length_nil, Nat.zero_add, Nat.reduceAdd, Nat.reduceSub, Nat.reduceEqDiff, List.map_cons, List.map_nil, List.cons_append, List.nil_append, List.replicate, Option.map_some, Option.bind_some, Option.some.injEq, Bool.not_true, Bool.not_false, ne_eq, Bool.false_eq_true, Int.reduceEq, Int.reduceLT, Int.reduceLE, Int.reduceNeg, Int.reduceAdd, Int.reduceSub, Int.reduceMul, Int.reduceToNat, Int.toNat_natCast, Nat.reduceLT, Nat.reduceLeDiff, not_false_eq_true, not_true_eq_false, decide_true, decide_false, List.length_map, List.map_append, fmod_pos, fdiv_pos, and_true, true_and, and_self, Bool.and_true, Bool.or_false, Bool.and_false, Bool.or_true, Bool.true_and, Bool.false_and, ty_li_none, ty_li_bool, ty_li_int, ty_li_str, ty_li_list, ty_li_tuple, ty_tu_none, ty_tu_bool, ty_tu_int, ty_tu_str, ty_tu_list, ty_tu_tuple, ty_bo_none, ty_bo_bool, ty_bo_int, ty_bo_str, ty_bo_list, ty_bo_tuple, ty_in_none, ty_in_bool, ty_in_int, ty_in_str, ty_in_list, ty_in_tuple, ty_st_none, ty_st_bool, ty_st_int, ty_st_str, ty_st_list, ty_st_tuple, eq_int, ne_int, eq_bl, ne_bl, eq_st, ne_st, eq_li, ne_li, at_0, at_1, at_2, at_3, at_4, at_5, in_li, notin_li, c_z, c_s, gx_v, gx_s, e_mIsX, e_sTry, tc_ok, tc_exc, cm_nil, cm_cons, ex_ok, dx_nil, dx_v, dx_o, dx_x, dx_n, at_exx, Int.cast_ofNat_Int, e_mLrg1, e_mLrg2, d_lrg, e_mCat]
      rw [ih, List.all_cons, c]; rfl
    | false =>
      refine ⟨[some (.val u), some (.val v), some (.val (.int i))], ?_⟩
      rw [c] at h3
      simp (disch := omega) only [u_law_like_0, h1, h2, h3, bind_ok, bind_bad, bind_exc, at_ok, at_exc, ofO_some, oS_some, nox_okk, g_v, g_s, go_v, go_s, ga_v, ga_o, ga_s, s_z, s_s, fz_o, fz_v, fz_s, e_mGet, e_mC, e_m2, e_m1, e_mT, e_mB, e_mAndB, e_mOrB, e_mNotB, e_mAnd, e_mOr, e_mIf, e_mChain, e_mNil, e_mCons, e_mSeq, e_mCall, e_mNo, e_mPart, e_mCut, e_mIs, e_mIs2, e_mL, e_mDsp, e_mRep, e_mBind, e_mIxO, e_mBor, e_mBorB, e_mItems, e_mWk, e_mRev, e_mYes, e_mLc, e_gN, e_gE, e_gC, e_gTt, e_gTl, e_sNx, e_sThen, e_sDrop, e_sRet, e_sSet, e_sIf, e_sFor, e_sAsg, e_sPar, e_sSetO, e_sSetL, e_ownAt, e_freeze, e_sApp, e_sSetIx, e_sAugIx, e_sAug, e_sPop, e_sPopTo, e_fnM, e_bo_rt, e_bo_nx, e_bo_exc, e_startE, e_wipe0, e_wipe1, d_add, d_addib, d_addl, d_addt, d_sub, d_mul, d_mulS, d_div, d_mod, d_pow, d_cmp, d_neg, d_not, d_iadd, d_iop, d_toB, d_toI, d_trB, d_trI, d_trN, d_trL, d_trT, d_lenL, d_lenT, d_intI, d_intB, d_abs, d_gcd, d_max2, d_min2, d_sumI, d_anyB, d_allB, d_maxL, d_minL, d_listL, d_listT, d_tupL, d_tupT, d_idxL, d_idxT, d_lstL, d_lstT, d_revL, d_itL, d_itT, d_rng1, d_rng2, d_rng3, d_enum1, d_zip2, d_rev1L, d_rev1T, d_cutL, d_cutT, d_rep, d_mTup, d_mLst, d_setD, d_scN, d_scB, d_scI, d_scS, d_isN, d_isNN, d_isB, d_isNB, d_nN, d_nB, d_nI, d_nS, d_nL, d_nT, if_true, if_false, ite_true, ite_false, reduceIte, List.length_cons, List.length_nil, Nat.zero_add, Nat.reduceAdd, Nat.reduceSub, Nat.reduceEqDiff, List.map_cons, List.map_nil, List.cons_append, List.nil_append, List.replicate, Option.map_some, Option.bind_some, Option.some.injEq, Bool.not_true, Bool.not_false, ne_eq, Bool.false_eq_true, Int.reduceEq, Int.reduceLT, Int.reduceLE, Int.reduceNeg, Int.reduceAdd, Int.reduceSub, Int.reduceMul, Int.reduceToNat, Int.toNat_natCast, Nat.reduceLT, Nat.reduceLeDiff, not_false_eq_true, not_true_eq_false, decide_true, decide_false, List.length_map, List.map_append, fmod_pos, fdiv_pos, and_true, true_and, and_self, Bool.and_true, Bool.or_false, Bool.and_false, Bool.or_true, Bool.true_and, Bool.false_and, ty_li_none, ty_li_bool, ty_li_int, ty_li_str, ty_li_list, ty_li_tuple, ty_tu_none, ty_tu_bool, ty_tu_int, ty_tu_str, ty_tu_list, ty_tu_tuple, ty_bo_none, ty_bo_bool, ty_bo_int, ty_bo_str, ty_bo_list, ty_bo_tuple, ty_in_none, ty_in_bool, ty_in_int, ty_in_str, ty_in_list, ty_in_tuple, ty_st_none, ty_st_bool, ty_st_int, ty_st_str, ty_st_list, ty_st_tuple, eq_int, ne_int, eq_bl, ne_bl, eq_st, ne_st, eq_li, ne_li, at_0, at_1, at_2, at_3, at_4, at_5, in_li, notin_li, c_z, c_s, gx_v, gx_s, e_mIsX, e_sTry, tc_ok, tc_exc, cm_nil, cm_cons, ex_ok, dx_nil, dx_v, dx_o, dx_x, dx_n, at_exx, Int.cast_ofNat_Int, e_mLrg1, e_mLrg2, d_lrg, e_mCat]
      rw [List.all_cons, c]; rfl
theorem like_seq {k : Nat} {us vs : List PyData} {r : Int → Bool} (hl : us.length = vs.length) (hz : vs.length < 2 ^ 62) (h : ∀ i : Nat, ∀ (hu : i < us.length) (hv : i < vs.length), m_law_like k [us[i], vs[i]] = .ok (.bool (r i))) :
    m_law_like (k + 1) [.list us, .list vs] = .ok (.bool ((rngI 0 vs.length).all r)) ∧ m_law_like (k + 1) [.tuple us, .tuple vs] = .ok (.bool ((rngI 0 vs.length).all r)) := by
  have hr : r62 (vs.length : Int) := r62_s (by omega) (by omega)
  have key : ∀ (u v : PyData), (∀ i, pIdx u (.int i) = L2.atI us i) → (∀ i, pIdx v (.int i) = L2.atI vs i) → ∃ ρ', PV.forM (gN 2) (l_law_like_0 (m_law_like k)) (rangeL 0 vs.length) [some (.val u), some (.val v), none] = .ok (if (rngI 0 vs.length).all r then .nx else .rt (.bool false), ρ') := by
    intro u v hu hv
    have e : rangeL 0 vs.length = (rngI 0 vs.length).map PyData.int := by rw [← rngL_eq, Int.sub_zero, Int.toNat_natCast]
    rw [e]
    refine like_loop _ (fun i hi => ?_) none
    obtain ⟨i0, i1⟩ := rngI_mem.mp hi
    have a1 : i.toNat < us.length := by omega
    have a2 : i.toNat < vs.length := by omega
    refine ⟨us[i.toNat], vs[i.toNat], by rw [hu]; exact atI_ok i0 (List.getElem?_eq_getElem a1), by rw [hv]; exact atI_ok i0 (List.getElem?_eq_getElem a2), ?_⟩
    rw [h i.toNat a1 a2]
    have : ((i.toNat : Nat) : Int) = i := by omega
    rw [this]
  constructor
  · obtain ⟨ρ', h1⟩ := key (.list us) (.list vs) (fun _ => rfl) (fun _ => rfl)
    unfold m_law_like
    rw [fn_go (n := 2) rfl]
    unfold b_law_like
    change bodyOut (sThen _ _ [some (.val (.list us)), some (.val (.list vs)), none]) = _
    simp (disch := omega) only [hr, h1, hl, bind_ok, bind_bad, bind_exc, at_ok, at_exc, ofO_some, oS_some, nox_okk, g_v, g_s, go_v, go_s, ga_v, ga_o, ga_s, s_z, s_s, fz_o, fz_v, fz_s, e_mGet, e_mC, e_m2, e_m1, e_mT, e_mB, e_mAndB, e_mOrB, e_mNotB, e_mAnd, e_mOr, e_mIf, e_mChain, e_mNil, e_mCons, e_mSeq, e_mCall, e_mNo, e_mPart, e_mCut, e_mIs, e_mIs2, e_mL, e_mDsp, e_mRep, e_mBind, e_mIxO, e_mBor, e_mBorB, e_mItems, e_mWk, e_mRev, e_mYes, e_mLc, e_gN, e_gE, e_gC, e_gTt, e_gTl, e_sNx, e_sThen, e_sDrop, e_sRet, e_sSet, e_sIf, e_sFor, e_sAsg, e_sPar, e_sSetO, e_sSetL, e_ownAt, e_freeze, e_sApp, e_sSetIx, e_sAugIx, e_sAug, e_sPop, e_sPopTo, e_fnM, e_bo_rt, e_bo_nx, e_bo_exc, e_startE, e_wipe0, e_wipe1, d_add, d_addib, d_addl, d_addt, d_sub, d_mul, d_mulS, d_div, d_mod, d_pow, d_cmp, d_neg, d_not, d_iadd, d_iop, d_toB, d_toI, d_trB, d_trI, d_trN, d_trL, d_trT, d_lenL, d_lenT, d_intI, d_intB, d_abs, d_gcd, d_max2, d_min2, d_sumI, d_anyB, d_allB, d_maxL, d_minL, d_listL, d_listT, d_tupL, d_tupT, d_idxL, d_idxT, d_lstL, d_lstT, d_revL, d_itL, d_itT, d_rng1, d_rng2, d_rng3, d_enum1, d_zip2, d_rev1L, d_rev1T, d_cutL, d_cutT, d_rep, d_mTup, d_mLst, d_setD, d_scN, d_scB, d_scI, d_scS, d_isN, d_isNN, d_isB, d_isNB, d_nN, d_nB, d_nI, d_nS, d_nL, d_nT, if_true, if_false, ite_true, ite_false, reduceIte, List.length_cons, List.length_nil, Nat.zero_add, Nat.reduceAdd, Nat.reduceSub, Nat.reduceEqDiff, List.map_cons, List.map_nil, List.cons_append, List.nil_append, List.replicate, Option.map_some, Option.bind_some, Option.some.injEq, Bool.not_true, Bool.not_false, ne_eq, Bool.false_eq_true, Int.reduceEq, Int.reduceLT, Int.reduceLE, Int.reduceNeg, Int.reduceAdd, Int.reduceSub, Int.reduceMul, Int.reduceToNat, Int.toNat_natCast, Nat.reduceLT, Nat.reduceLeDiff, not_false_eq_true, not_true_eq_false, decide_true, decide_false, List.length_map, List.map_append, fmod_pos, fdiv_pos, and_true, true_and, and_self, Bool.and_true, Bool.or_false, Bool.and_false, Bool.or_true, Bool.true_and, Bool.false_and, ty_li_none, ty_li_bool, ty_li_int, ty_li_str, ty_li_list, ty_li_tuple, ty_tu_none, ty_tu_bool, ty_tu_int, ty_tu_str, ty_tu_list, ty_tu_tuple, ty_bo_none, ty_bo_bool, ty_bo_int, ty_bo_str, ty_bo_list, ty_bo_tuple, ty_in_none, ty_in_bool, ty_in_int, ty_in_str, ty_in_list, ty_in_tuple, ty_st_none, ty_st_bool, ty_st_int, ty_st_str, ty_st_list, ty_st_tuple, eq_int, ne_int, eq_bl, ne_bl, eq_st, ne_st, eq_li, ne_li, at_0, at_1, at_2, at_3, at_4, at_5, in_li, notin_li, c_z, c_s, gx_v, gx_s, e_mIsX, e_sTry, tc_ok, tc_exc, cm_nil, cm_cons, ex_ok, dx_nil, dx_v, dx_o, dx_x, dx_n, at_exx, Int.cast_ofNat_Int, e_mLrg1, e_mLrg2, d_lrg, e_mCat]
    cases c : (rngI 0 vs.length).all r <;> simp (disch := omega) only [c, bind_ok, bind_bad, bind_exc, at_ok, at_exc, ofO_some, oS_some, nox_okk, g_v, g_s, go_v, go_s, ga_v, ga_o, ga_s, s_z, s_s, fz_o, fz_v, fz_s, e_mGet, e_mC, e_m2, e_m1, e_mT, e_mB, e_mAndB, e_mOrB, e_mNotB, e_mAnd, e_mOr, e_mIf, e_mChain, e_mNil, e_mCons, e_mSeq, e_mCall, e_mNo, e_mPart, e_mCut, e_mIs, e_mIs2, e_mL, e_mDsp, e_mRep, e_mBind, e_mIxO, e_mBor, e_mBorB, e_mItems, e_mWk, e_mRev, e_mYes, e_mLc, e_gN, e_gE, e_gC, e_gTt, e_gTl, e_sNx, e_sThen, e_sDrop, e_sRet, e_sSet, e_sIf, e_sFor, e_sAsg, e_sPar, e_sSetO, e_sSetL, e_ownAt, e_freeze, e_sApp, e_sSetIx, e_sAugIx, e_sAug, e_sPop, e_sPopTo, e_fnM, e_bo_rt, e_bo_nx, e_bo_exc, e_startE, e_wipe0, e_wipe1, d_add, d_addib, d_addl, d_addt, d_sub, d_mul, d_mulS, d_div, d_mod, d_pow, d_cmp, d_neg, d_not, d_iadd, d_iop, d_toB, d_toI, d_trB, d_trI, d_trN, d_trL, d_trT, d_lenL, d_lenT, d_intI, d_intB, d_abs, d_gcd, d_max2, d_min2, d_sumI, d_anyB, d_allB, d_maxL, d_minL, d_listL, d_listT, d_tupL, d_tupT, d_idxL, d_idxT, d_lstL, d_lstT, d_revL, d_itL, d_itT, d_rng1, d_rng2, d_rng3, d_enum1, d_zip2, d_rev1L, d_rev1T, d_cutL, d_cutT, d_rep, d_mTup, d_mLst, d_setD, d_scN, d_scB, d_scI, d_scS, d_isN, d_isNN, d_isB, d_isNB, d_nN, d_nB, d_nI, d_nS, d_nL, d_nT, if_true, if_false, ite_true, ite_false, reduceIte, List.length_cons, List.length_nil, Nat.zero_add, Nat.reduceAdd, Nat.reduceSub, Nat.reduceEqDiff, List.map_cons, List.map_nil, List.cons_append, List.nil_append, List.replicate, Option.map_some, Option.bind_some, Option.some.injEq, Bool.not_true, Bool.not_false, ne_eq, Bool.false_eq_true, Int.reduceEq, Int.reduceLT, Int.reduceLE, Int.reduceNeg, Int.reduceAdd, Int.reduceSub, Int.reduceMul, Int.reduceToNat, Int.toNat_natCast, Nat.reduceLT, Nat.reduceLeDiff, not_false_eq_true, not_true_eq_false, decide_true, decide_false, List.length_map, List.map_append, fmod_pos, fdiv_pos, and_true, true_and, and_self, Bool.and_true, Bool.or_false, Bool.and_false, Bool.or_true, Bool.true_and, Bool.false_and, ty_li_none, ty_li_bool, ty_li_int, ty_li_str, ty_li_list, ty_li_tuple, ty_tu_none, ty_tu_bool, ty_tu_int, ty_tu_str, ty_tu_list, ty_tu_tuple, ty_bo_none, ty_bo_bool, ty_bo_int, ty_bo_str, ty_bo_list, ty_bo_tuple, ty_in_none, ty_in_bool, ty_in_int, ty_in_str, ty_in_list, ty_in_tuple, ty_st_none, ty_st_bool, ty_st_int, ty_st_str, ty_st_list, ty_st_tuple, eq_int, ne_int, eq_bl, ne_bl, eq_st, ne_st, eq_li, ne_li, at_0, at_1, at_2, at_3, at_4, at_5, in_li, notin_li, c_z, c_s, gx_v, gx_s, e_mIsX, e_sTry, tc_ok, tc_exc, cm_nil, cm_cons, ex_ok, dx_nil, dx_v, dx_o, dx_x, dx_n, at_exx, Int.cast_ofNat_Int, e_mLrg1, e_mLrg2, d_lrg, e_mCat]
  · obtain ⟨ρ', h1⟩ := key (.tuple us) (.tuple vs) (fun _ => rfl) (fun _ => rfl)
    unfold m_law_like
    rw [fn_go (n := 2) rfl]
    unfold b_law_like
    change bodyOut (sThen _ _ [some (.val (.tuple us)), some (.val (.tuple vs)), none]) = _
    simp (disch := omega) only [hr, h1, hl, bind_ok, bind_bad, bind_exc, at_ok, at_exc, ofO_some, oS_some, nox_okk, g_v, g_s, go_v, go_s, ga_v, ga_o, ga_s, s_z, s_s, fz_o, fz_v, fz_s, e_mGet, e_mC, e_m2, e_m1, e_mT, e_mB, e_mAndB, e_mOrB, e_mNotB, e_mAnd, e_mOr, e_mIf, e_mChain, e_mNil, e_mCons, e_mSeq, e_mCall, e_mNo, e_mPart, e_mCut, e_mIs, e_mIs2, e_mL, e_mDsp, e_mRep, e_mBind, e_mIxO, e_mBor, e_mBorB, e_mItems, e_mWk, e_mRev, e_mYes, e_mLc, e_gN, e_gE, e_gC, e_gTt, e_gTl, e_sNx, e_sThen, e_sDrop, e_sRet, e_sSet, e_sIf, e_sFor, e_sAsg, e_sPar, e_sSetO, e_sSetL, e_ownAt, e_freeze, e_sApp, e_sSetIx, e_sAugIx, e_sAug, e_sPop, e_sPopTo, e_fnM, e_bo_rt, e_bo_nx, e_bo_exc, e_startE, e_wipe0, e_wipe1, d_add, d_addib, d_addl, d_addt, d_sub, d_mul, d_mulS, d_div, d_mod, d_pow, d_cmp, d_neg, d_not, d_iadd, d_iop, d_toB, d_toI, d_trB, d_trI, d_trN, d_trL, d_trT, d_lenL, d_lenT, d_intI, d_intB, d_abs, d_gcd, d_max2, d_min2, d_sumI, d_anyB, d_allB, d_maxL, d_minL, d_listL, d_listT, d_tupL, d_tupT, d_idxL, d_idxT, d_lstL, d_lstT, d_revL, d_itL, d_itT, d_rng1, d_rng2, d_rng3, d_enum1, d_zip2, d_rev1L, d_rev1T, d_cutL, d_cutT, d_rep, d_mTup, d_mLst, d_setD, d_scN, d_scB, d_scI, d_scS, d_isN, d_isNN, d_isB, d_isNB, d_nN, d_nB, d_nI, d_nS, d_nL, d_nT, if_true, if_false, ite_true, ite_false, reduceIte, List.length_cons, List.length_nil, Nat.zero_add, Nat.reduceAdd, Nat.reduceSub, Nat.reduceEqDiff, List.map_cons, List.map_nil, List.cons_append, List.nil_append, List.replicate, Option.map_some, Option.bind_some, Option.some.injEq, Bool.not_true, Bool.not_false, ne_eq, Bool.false_eq_true, Int.reduceEq, Int.reduceLT, Int.reduceLE, Int.reduceNeg, Int.reduceAdd, Int.reduceSub, Int.reduceMul, Int.reduceToNat, Int.toNat_natCast, Nat.reduceLT, Nat.reduceLeDiff, not_false_eq_true, not_true_eq_false, decide_true, decide_false, List.length_map, List.map_append, fmod_pos, fdiv_pos, and_true, true_and, and_self, Bool.and_true, Bool.or_false, Bool.and_false, Bool.or_true, Bool.true_and, Bool.false_and, ty_li_none, ty_li_bool, ty_li_int, ty_li_str, ty_li_list, ty_li_tuple, ty_tu_none, ty_tu_bool, ty_tu_int, ty_tu_str, ty_tu_list, ty_tu_tuple, ty_bo_none, ty_bo_bool, ty_bo_int, ty_bo_str, ty_bo_list, ty_bo_tuple, ty_in_none, ty_in_bool, ty_in_int, ty_in_str, ty_in_list, ty_in_tuple, ty_st_none, ty_st_bool, ty_st_int, ty_st_str, ty_st_list, ty_st_tuple, eq_int, ne_int, eq_bl, ne_bl, eq_st, ne_st, eq_li, ne_li, at_0, at_1, at_2, at_3, at_4, at_5, in_li, notin_li, c_z, c_s, gx_v, gx_s, e_mIsX, e_sTry, tc_ok, tc_exc, cm_nil, cm_cons, ex_ok, dx_nil, dx_v, dx_o, dx_x, dx_n, at_exx, Int.cast_ofNat_Int, e_mLrg1, e_mLrg2, d_lrg, e_mCat]
    cases c : (rngI 0 vs.length).all r <;> simp (disch := omega) only [c, bind_ok, bind_bad, bind_exc, at_ok, at_exc, ofO_some, oS_some, nox_okk, g_v, g_s, go_v, go_s, ga_v, ga_o, ga_s, s_z, s_s, fz_o, fz_v, fz_s, e_mGet, e_mC, e_m2, e_m1, e_mT, e_mB, e_mAndB, e_mOrB, e_mNotB, e_mAnd, e_mOr, e_mIf, e_mChain, e_mNil, e_mCons, e_mSeq, e_mCall, e_mNo, e_mPart, e_mCut, e_mIs, e_mIs2, e_mL, e_mDsp, e_mRep, e_mBind, e_mIxO, e_mBor, e_mBorB, e_mItems, e_mWk, e_mRev, e_mYes, e_mLc, e_gN, e_gE, e_gC, e_gTt, e_gTl, e_sNx, e_sThen, e_sDrop, e_sRet, e_sSet, e_sIf, e_sFor, e_sAsg, e_sPar, e_sSetO, e_sSetL, e_ownAt, e_freeze, e_sApp, e_sSetIx, e_sAugIx, e_sAug, e_sPop, e_sPopTo, e_fnM, e_bo_rt, e_bo_nx, e_bo_exc, e_startE, e_wipe0, e_wipe1, d_add, d_addib, d_addl, d_addt, d_sub, d_mul, d_mulS, d_div, d_mod, d_pow, d_cmp, d_neg, d_not, d_iadd, d_iop, d_toB, d_toI, d_trB, d_trI, d_trN, d_trL, d_trT, d_lenL, d_lenT, d_intI, d_intB, d_abs, d_gcd, d_max2, d_min2, d_sumI, d_anyB, d_allB, d_maxL, d_minL, d_listL, d_listT, d_tupL, d_tupT, d_idxL, d_idxT, d_lstL, d_lstT, d_revL, d_itL, d_itT, d_rng1, d_rng2, d_rng3, d_enum1, d_zip2, d_rev1L, d_rev1T, d_cutL, d_cutT, d_rep, d_mTup, d_mLst, d_setD, d_scN, d_scB, d_scI, d_scS, d_isN, d_isNN, d_isB, d_isNB, d_nN, d_nB, d_nI, d_nS, d_nL, d_nT, if_true, if_false, ite_true, ite_false, reduceIte, List.length_cons, List.length_nil, Nat.zero_add, Nat.reduceAdd, Nat.reduceSub, Nat.reduceEqDiff, List.map_cons, List.map_nil, List.cons_append, List.nil_append, List.replicate, Option.map_some, Option.bind_some, Option.some.injEq, Bool.not_true, Bool.not_false, ne_eq, Bool.false_eq_true, Int.reduceEq, Int.reduceLT, Int.reduceLE, Int.reduceNeg, Int.reduceAdd, Int.reduceSub, Int.reduceMul, Int.reduceToNat, Int.toNat_natCast, Nat.reduceLT, Nat.reduceLeDiff, not_false_eq_true, not_true_eq_false, decide_true, decide_false, List.length_map, List.map_append, fmod_pos, fdiv_pos, and_true, true_and, and_self, Bool.and_true, Bool.or_false, Bool.and_false, Bool.or_true, Bool.true_and, Bool.false_and, ty_li_none, ty_li_bool, ty_li_int, ty_li_str, ty_li_list, ty_li_tuple, ty_tu_none, ty_tu_bool, ty_tu_int, ty_tu_str, ty_tu_list, ty_tu_tuple, ty_bo_none, ty_bo_bool, ty_bo_int, ty_bo_str, ty_bo_list, ty_bo_tuple, ty_in_none, ty_in_bool, ty_in_int, ty_in_str, ty_in_list, ty_in_tuple, ty_st_none, ty_st_bool, ty_st_int, ty_st_str, ty_st_list, ty_st_tuple, eq_int, ne_int, eq_bl, ne_bl, eq_st, ne_st, eq_li, ne_li, at_0, at_1, at_2, at_3, at_4, at_5, in_li, notin_li, c_z, c_s, gx_v, gx_s, e_mIsX, e_sTry, tc_ok, tc_exc, cm_nil, cm_cons, ex_ok, dx_nil, dx_v, dx_o, dx_x, dx_n, at_exx, Int.cast_ofNat_Int, e_mLrg1, e_mLrg2, d_lrg, e_mCat]
theorem like_len {k : Nat} {us vs : List PyData} (hl : us.length ≠ vs.length) : m_law_like (k + 1) [.list us, .list vs] = .ok (.bool false) := by
  have hl' : ¬ ((us.length : Int) = vs.length) := by omega
  unfold m_law_like
  rw [fn_go (n := 2) rfl]
  unfold b_law_like
  change bodyOut (sThen _ _ [some (.val (.list us)), some (.val (.list vs)), none]) = _
  simp (disch := omega) only [hl', bind_ok, bind_bad, bind_exc, at_ok, at_exc, ofO_some, oS_some, nox_okk, g_v, g_s, go_v, go_s, ga_v, ga_o, ga_s, s_z, s_s, fz_o, fz_v, fz_s, e_mGet, e_mC, e_m2, e_m1, e_mT, e_mB, e_mAndB, e_mOrB, e_mNotB, e_mAnd, e_mOr, e_mIf, e_mChain, e_mNil, e_mCons, e_mSeq, e_mCall, e_mNo, e_mPart, e_mCut, e_mIs, e_mIs2, e_mL, e_mDsp, e_mRep, e_mBind, e_mIxO, e_mBor, e_mBorB, e_mItems, e_mWk, e_mRev, e_mYes, e_mLc, e_gN, e_gE, e_gC, e_gTt, e_gTl, e_sNx, e_sThen, e_sDrop, e_sRet, e_sSet, e_sIf, e_sFor, e_sAsg, e_sPar, e_sSetO, e_sSetL, e_ownAt, e_freeze, e_sApp, e_sSetIx, e_sAugIx, e_sAug, e_sPop, e_sPopTo, e_fnM, e_bo_rt, e_bo_nx, e_bo_exc, e_startE, e_wipe0, e_wipe1, d_add, d_addib, d_addl, d_addt, d_sub, d_mul, d_mulS, d_div, d_mod, d_pow, d_cmp, d_neg, d_not, d_iadd, d_iop, d_toB, d_toI, d_trB, d_trI, d_trN, d_trL, d_trT, d_lenL, d_lenT, d_intI, d_intB, d_abs, d_gcd, d_max2, d_min2, d_sumI, d_anyB, d_allB, d_maxL, d_minL, d_listL, d_listT, d_tupL, d_tupT, d_idxL, d_idxT, d_lstL, d_lstT, d_revL, d_itL, d_itT, d_rng1, d_rng2, d_rng3, d_enum1, d_zip2, d_rev1L, d_rev1T, d_cutL, d_cutT, d_rep, d_mTup, d_mLst, d_setD, d_scN, d_scB, d_scI, d_scS, d_isN, d_isNN, d_isB, d_isNB, d_nN, d_nB, d_nI, d_nS, d_nL, d_nT, if_true, if_false, ite_true, ite_false, reduceIte, List.length_cons, List.length_nil, Nat.zero_add, Nat.reduceAdd, Nat.reduceSub, Nat.reduceEqDiff, List.map_cons, List.map_nil, List.cons_append, List.nil_append, List.replicate, Option.map_some, Option.bind_some, Option.some.injEq, Bool.not_true, Bool.not_false, ne_eq, Bool.false_eq_true, Int.reduceEq, Int.reduceLT, Int.reduceLE, Int.reduceNeg, Int.reduceAdd, Int.reduceSub, Int.reduceMul, Int.reduceToNat, Int.toNat_natCast, Nat.reduceLT, Nat.reduceLeDiff, not_false_eq_true, not_true_eq_false, decide_true, decide_false, List.length_map, List.map_append, fmod_pos, fdiv_pos, and_true, true_and, and_self, Bool.and_true, Bool.or_false, Bool.and_false, Bool.or_true, Bool.true_and, Bool.false_and, ty_li_none, ty_li_bool, ty_li_int, ty_li_str, ty_li_list, ty_li_tuple, ty_tu_none, ty_tu_bool, ty_tu_int, ty_tu_str, ty_tu_list, ty_tu_tuple, ty_bo_none, ty_bo_bool, ty_bo_int, ty_bo_str, ty_bo_list, ty_bo_tuple, ty_in_none, ty_in_bool, ty_in_int, ty_in_str, ty_in_list, ty_in_tuple, ty_st_none, ty_st_bool, ty_st_int, ty_st_str, ty_st_list, ty_st_tuple, eq_int, ne_int, eq_bl, ne_bl, eq_st, ne_st, eq_li, ne_li, at_0, at_1, at_2, at_3, at_4, at_5, in_li, notin_li, c_z, c_s, gx_v, gx_s, e_mIsX, e_sTry, tc_ok, tc_exc, cm_nil, cm_cons, ex_ok, dx_nil, dx_v, dx_o, dx_x, dx_n, at_exx, Int.cast_ofNat_Int, e_mLrg1, e_mLrg2, d_lrg, e_mCat]
structure LkE {α : Type} [DecidableEq α] (e : α → PyData) : Prop where
  lk : ∀ (k : Nat) (a b : α), plainD k (e b) → m_law_like k [e a, e b] = .ok (.bool (decide (a = b)))
theorem like_ok {α : Type} [DecidableEq α] {e : α → PyData} {a b : α} {k : Nat} (h : LkE e) (hp : plainD k (e b)) : m_law_like k [e a, e b] = .ok (.bool (decide (a = b))) := h.lk k a b hp
theorem lke_I : LkE PyData.int := ⟨fun k a b hp => by
  obtain ⟨k, rfl⟩ : ∃ j, k = j + 1 := by cases k with
    | zero => exact hp.elim
    | succ j => exact ⟨j, rfl⟩
  rw [like_nl k _ _ rfl rfl]
  unfold m_law_like
  rw [fn_go (n := 2) rfl]
  unfold b_law_like
  change bodyOut (sThen _ _ [some (.val (.int a)), some (.val (.int b)), none]) = _
  simp (disch := omega) only [bind_ok, bind_bad, bind_exc, at_ok, at_exc, ofO_some, oS_some, nox_okk, g_v, g_s, go_v, go_s, ga_v, ga_o, ga_s, s_z, s_s, fz_o, fz_v, fz_s, e_mGet, e_mC, e_m2, e_m1, e_mT, e_mB, e_mAndB, e_mOrB, e_mNotB, e_mAnd, e_mOr, e_mIf, e_mChain, e_mNil, e_mCons, e_mSeq, e_mCall, e_mNo, e_mPart, e_mCut, e_mIs, e_mIs2, e_mL, e_mDsp, e_mRep, e_mBind, e_mIxO, e_mBor, e_mBorB, e_mItems, e_mWk, e_mRev, e_mYes, e_mLc, e_gN, e_gE, e_gC, e_gTt, e_gTl, e_sNx, e_sThen, e_sDrop, e_sRet, e_sSet, e_sIf, e_sFor, e_sAsg, e_sPar, e_sSetO, e_sSetL, e_ownAt, e_freeze, e_sApp, e_sSetIx, e_sAugIx, e_sAug, e_sPop, e_sPopTo, e_fnM, e_bo_rt, e_bo_nx, e_bo_exc, e_startE, e_wipe0, e_wipe1, d_add, d_addib, d_addl, d_addt, d_sub, d_mul, d_mulS, d_div, d_mod, d_pow, d_cmp, d_neg, d_not, d_iadd, d_iop, d_toB, d_toI, d_trB, d_trI, d_trN, d_trL, d_trT, d_lenL, d_lenT, d_intI, d_intB, d_abs, d_gcd, d_max2, d_min2, d_sumI, d_anyB, d_allB, d_maxL, d_minL, d_listL, d_listT, d_tupL, d_tupT, d_idxL, d_idxT, d_lstL, d_lstT, d_revL, d_itL, d_itT, d_rng1, d_rng2, d_rng3, d_enum1, d_zip2, d_rev1L, d_rev1T, d_cutL, d_cutT, d_rep, d_mTup, d_mLst, d_setD, d_scN, d_scB, d_scI, d_scS, d_isN, d_isNN, d_isB, d_isNB, d_nN, d_nB, d_nI, d_nS, d_nL, d_nT, if_true, if_false, ite_true, ite_false, reduceIte, List.length_cons, List.length_nil, Nat.zero_add, Nat.reduceAdd, Nat.reduceSub, Nat.reduceEqDiff, List.map_cons, List.map_nil, List.cons_append, List.nil_append, List.replicate, Option.map_some, Option.bind_some, Option.some.injEq, Bool.not_true, Bool.not_false, ne_eq, Bool.false_eq_true, Int.reduceEq, Int.reduceLT, Int.reduceLE, Int.reduceNeg, Int.reduceAdd, Int.reduceSub, Int.reduceMul, Int.reduceToNat, Int.toNat_natCast, Nat.reduceLT, Nat.reduceLeDiff, not_false_eq_true, not_true_eq_false, decide_true, decide_false, List.length_map, List.map_append, fmod_pos, fdiv_pos, and_true, true_and, and_self, Bool.and_true, Bool.or_false, Bool.and_false, Bool.or_true, Bool.true_and, Bool.false_and, ty_li_none, ty_li_bool, ty_li_int, ty_li_str, ty_li_list, ty_li_tuple, ty_tu_none, ty_tu_bool, ty_tu_int, ty_tu_str, ty_tu_list, ty_tu_tuple, ty_bo_none, ty_bo_bool, ty_bo_int, ty_bo_str, ty_bo_list, ty_bo_tuple, ty_in_none, ty_in_bool, ty_in_int, ty_in_str, ty_in_list, ty_in_tuple, ty_st_none, ty_st_bool, ty_st_int, ty_st_str, ty_st_list, ty_st_tuple, eq_int, ne_int, eq_bl, ne_bl, eq_st, ne_st, eq_li, ne_li, at_0, at_1, at_2, at_3, at_4, at_5, in_li, notin_li, c_z, c_s, gx_v, gx_s, e_mIsX, e_sTry, tc_ok, tc_exc, cm_nil, cm_cons, ex_ok, dx_nil, dx_v, dx_o, dx_x, dx_n, at_exx, Int.cast_ofNat_Int, e_mLrg1, e_mLrg2, d_lrg, e_mCat]⟩
theorem lke_B : LkE PyData.bool := ⟨fun k a b hp => by
  obtain ⟨k, rfl⟩ : ∃ j, k = j + 1 := by cases k with
    | zero => exact hp.elim
    | succ j => exact ⟨j, rfl⟩
  rw [like_nl k _ _ rfl rfl]
  unfold m_law_like
  rw [fn_go (n := 2) rfl]
  unfold b_law_like
  change bodyOut (sThen _ _ [some (.val (.bool a)), some (.val (.bool b)), none]) = _
  simp (disch := omega) only [bind_ok, bind_bad, bind_exc, at_ok, at_exc, ofO_some, oS_some, nox_okk, g_v, g_s, go_v, go_s, ga_v, ga_o, ga_s, s_z, s_s, fz_o, fz_v, fz_s, e_mGet, e_mC, e_m2, e_m1, e_mT, e_mB, e_mAndB, e_mOrB, e_mNotB, e_mAnd, e_mOr, e_mIf, e_mChain, e_mNil, e_mCons, e_mSeq, e_mCall, e_mNo, e_mPart, e_mCut, e_mIs, e_mIs2, e_mL, e_mDsp, e_mRep, e_mBind, e_mIxO, e_mBor, e_mBorB, e_mItems, e_mWk, e_mRev, e_mYes, e_mLc, e_gN, e_gE, e_gC, e_gTt, e_gTl, e_sNx, e_sThen, e_sDrop, e_sRet, e_sSet, e_sIf, e_sFor, e_sAsg, e_sPar, e_sSetO, e_sSetL, e_ownAt, e_freeze, e_sApp, e_sSetIx, e_sAugIx, e_sAug, e_sPop, e_sPopTo, e_fnM, e_bo_rt, e_bo_nx, e_bo_exc, e_startE, e_wipe0, e_wipe1, d_add, d_addib, d_addl, d_addt, d_sub, d_mul, d_mulS, d_div, d_mod, d_pow, d_cmp, d_neg, d_not, d_iadd, d_iop, d_toB, d_toI, d_trB, d_trI, d_trN, d_trL, d_trT, d_lenL, d_lenT, d_intI, d_intB, d_abs, d_gcd, d_max2, d_min2, d_sumI, d_anyB, d_allB, d_maxL, d_minL, d_listL, d_listT, d_tupL, d_tupT, d_idxL, d_idxT, d_lstL, d_lstT, d_revL, d_itL, d_itT, d_rng1, d_rng2, d_rng3, d_enum1, d_zip2, d_rev1L, d_rev1T, d_cutL, d_cutT, d_rep, d_mTup, d_mLst, d_setD, d_scN, d_scB, d_scI, d_scS, d_isN, d_isNN, d_isB, d_isNB, d_nN, d_nB, d_nI, d_nS, d_nL, d_nT, if_true, if_false, ite_true, ite_false, reduceIte, List.length_cons, List.length_nil, Nat.zero_add, Nat.reduceAdd, Nat.reduceSub, Nat.reduceEqDiff, List.map_cons, List.map_nil, List.cons_append, List.nil_append, List.replicate, Option.map_some, Option.bind_some, Option.some.injEq, Bool.not_true, Bool.not_false, ne_eq, Bool.false_eq_true, Int.reduceEq, Int.reduceLT, Int.reduceLE, Int.reduceNeg, Int.reduceAdd, Int.reduceSub, Int.reduceMul, Int.reduceToNat, Int.toNat_natCast, Nat.reduceLT, Nat.reduceLeDiff, not_false_eq_true, not_true_eq_false, decide_true, decide_false, List.length_map, List.map_append, fmod_pos, fdiv_pos, and_true, true_and, and_self, Bool.and_true, Bool.or_false, Bool.and_false, Bool.or_true, Bool.true_and, Bool.false_and, ty_li_none, ty_li_bool, ty_li_int, ty_li_str, ty_li_list, ty_li_tuple, ty_tu_none, ty_tu_bool, ty_tu_int, ty_tu_str, ty_tu_list, ty_tu_tuple, ty_bo_none, ty_bo_bool, ty_bo_int, ty_bo_str, ty_bo_list, ty_bo_tuple, ty_in_none, ty_in_bool, ty_in_int, ty_in_str, ty_in_list, ty_in_tuple, ty_st_none, ty_st_bool, ty_st_int, ty_st_str, ty_st_list, ty_st_tuple, eq_int, ne_int, eq_bl, ne_bl, eq_st, ne_st, eq_li, ne_li, at_0, at_1, at_2, at_3, at_4, at_5, in_li, notin_li, c_z, c_s, gx_v, gx_s, e_mIsX, e_sTry, tc_ok, tc_exc, cm_nil, cm_cons, ex_ok, dx_nil, dx_v, dx_o, dx_x, dx_n, at_exx, Int.cast_ofNat_Int, e_mLrg1, e_mLrg2, d_lrg, e_mCat]⟩
theorem lke_S : LkE PyData.str := ⟨fun k a b hp => by
  obtain ⟨k, rfl⟩ : ∃ j, k = j + 1 := by cases k with
    | zero => exact hp.elim
    | succ j => exact ⟨j, rfl⟩
  rw [like_nl k _ _ rfl rfl]
  unfold m_law_like
  rw [fn_go (n := 2) rfl]
  unfold b_law_like
  change bodyOut (sThen _ _ [some (.val (.str a)), some (.val (.str b)), none]) = _
  simp (disch := omega) only [bind_ok, bind_bad, bind_exc, at_ok, at_exc, ofO_some, oS_some, nox_okk, g_v, g_s, go_v, go_s, ga_v, ga_o, ga_s, s_z, s_s, fz_o, fz_v, fz_s, e_mGet, e_mC, e_m2, e_m1, e_mT, e_mB, e_mAndB, e_mOrB, e_mNotB, e_mAnd, e_mOr, e_mIf, e_mChain, e_mNil, e_mCons, e_mSeq, e_mCall, e_mNo, e_mPart, e_mCut, e_mIs, e_mIs2, e_mL, e_mDsp, e_mRep, e_mBind, e_mIxO, e_mBor, e_mBorB, e_mItems, e_mWk, e_mRev, e_mYes, e_mLc, e_gN, e_gE, e_gC, e_gTt, e_gTl, e_sNx, e_sThen, e_sDrop, e_sRet, e_sSet, e_sIf, e_sFor, e_sAsg, e_sPar, e_sSetO, e_sSetL, e_ownAt, e_freeze, e_sApp, e_sSetIx, e_sAugIx, e_sAug, e_sPop, e_sPopTo, e_fnM, e_bo_rt, e_bo_nx, e_bo_exc, e_startE, e_wipe0, e_wipe1, d_add, d_addib, d_addl, d_addt, d_sub, d_mul, d_mulS, d_div, d_mod, d_pow, d_cmp, d_neg, d_not, d_iadd, d_iop, d_toB, d_toI, d_trB, d_trI, d_trN, d_trL, d_trT, d_lenL, d_lenT, d_intI, d_intB, d_abs, d_gcd, d_max2, d_min2, d_sumI, d_anyB, d_allB, d_maxL, d_minL, d_listL, d_listT, d_tupL, d_tupT, d_idxL, d_idxT, d_lstL, d_lstT, d_revL, d_itL, d_itT, d_rng1, d_rng2, d_rng3, d_enum1, d_zip2, d_rev1L, d_rev1T, d_cutL, d_cutT, d_rep, d_mTup, d_mLst, d_setD, d_scN, d_scB, d_scI, d_scS, d_isN, d_isNN, d_isB, d_isNB, d_nN, d_nB, d_nI, d_nS, d_nL, d_nT, if_true, if_false, ite_true, ite_false, reduceIte, List.length_cons, List.length_nil, Nat.zero_add, Nat.reduceAdd, Nat.reduceSub, Nat.reduceEqDiff, List.map_cons, List.map_nil, List.cons_append, List.nil_append, List.replicate, Option.map_some, Option.bind_some, Option.some.injEq, Bool.not_true, Bool.not_false, ne_eq, Bool.false_eq_true, Int.reduceEq, Int.reduceLT, Int.reduceLE, Int.reduceNeg, Int.reduceAdd, Int.reduceSub, Int.reduceMul, Int.reduceToNat, Int.toNat_natCast, Nat.reduceLT, Nat.reduceLeDiff, not_false_eq_true, not_true_eq_false, decide_true, decide_false, List.length_map, List.map_append, fmod_pos, fdiv_pos, and_true, true_and, and_self, Bool.and_true, Bool.or_false, Bool.and_false, Bool.or_true, Bool.true_and, Bool.false_and, ty_li_none, ty_li_bool, ty_li_int, ty_li_str, ty_li_list, ty_li_tuple, ty_tu_none, ty_tu_bool, ty_tu_int, ty_tu_str, ty_tu_list, ty_tu_tuple, ty_bo_none, ty_bo_bool, ty_bo_int, ty_bo_str, ty_bo_list, ty_bo_tuple, ty_in_none, ty_in_bool, ty_in_int, ty_in_str, ty_in_list, ty_in_tuple, ty_st_none, ty_st_bool, ty_st_int, ty_st_str, ty_st_list, ty_st_tuple, eq_int, ne_int, eq_bl, ne_bl, eq_st, ne_st, eq_li, ne_li, at_0, at_1, at_2, at_3, at_4, at_5, in_li, notin_li, c_z, c_s, gx_v, gx_s, e_mIsX, e_sTry, tc_ok, tc_exc, cm_nil, cm_cons, ex_ok, dx_nil, dx_v, dx_o, dx_x, dx_n, at_exx, Int.cast_ofNat_Int, e_mLrg1, e_mLrg2, d_lrg, e_mCat]⟩
theorem like_none (k : Nat) (d : PyData) : m_law_like (k + 1) [d, .none] = .ok (.bool (isNone d)) := by
  rw [like_nl k _ _ rfl rfl]
  unfold m_law_like
  rw [fn_go (n := 2) rfl]
  unfold b_law_like
  change bodyOut (sThen _ _ [some (.val d), some (.val .none), none]) = _
  simp (disch := omega) only [bind_ok, bind_bad, bind_exc, at_ok, at_exc, ofO_some, oS_some, nox_okk, g_v, g_s, go_v, go_s, ga_v, ga_o, ga_s, s_z, s_s, fz_o, fz_v, fz_s, e_mGet, e_mC, e_m2, e_m1, e_mT, e_mB, e_mAndB, e_mOrB, e_mNotB, e_mAnd, e_mOr, e_mIf, e_mChain, e_mNil, e_mCons, e_mSeq, e_mCall, e_mNo, e_mPart, e_mCut, e_mIs, e_mIs2, e_mL, e_mDsp, e_mRep, e_mBind, e_mIxO, e_mBor, e_mBorB, e_mItems, e_mWk, e_mRev, e_mYes, e_mLc, e_gN, e_gE, e_gC, e_gTt, e_gTl, e_sNx, e_sThen, e_sDrop, e_sRet, e_sSet, e_sIf, e_sFor, e_sAsg, e_sPar, e_sSetO, e_sSetL, e_ownAt, e_freeze, e_sApp, e_sSetIx, e_sAugIx, e_sAug, e_sPop, e_sPopTo, e_fnM, e_bo_rt, e_bo_nx, e_bo_exc, e_startE, e_wipe0, e_wipe1, d_add, d_addib, d_addl, d_addt, d_sub, d_mul, d_mulS, d_div, d_mod, d_pow, d_cmp, d_neg, d_not, d_iadd, d_iop, d_toB, d_toI, d_trB, d_trI, d_trN, d_trL, d_trT, d_lenL, d_lenT, d_intI, d_intB, d_abs, d_gcd, d_max2, d_min2, d_sumI, d_anyB, d_allB, d_maxL, d_minL, d_listL, d_listT, d_tupL, d_tupT, d_idxL, d_idxT, d_lstL, d_lstT, d_revL, d_itL, d_itT, d_rng1, d_rng2, d_rng3, d_enum1, d_zip2, d_rev1L, d_rev1T, d_cutL, d_cutT, d_rep, d_mTup, d_mLst, d_setD, d_scN, d_scB, d_scI, d_scS, d_isN, d_isNN, d_isB, d_isNB, d_nN, d_nB, d_nI, d_nS, d_nL, d_nT, if_true, if_false, ite_true, ite_false, reduceIte, List.length_cons, List.length_nil, Nat.zero_add, Nat.reduceAdd, Nat.reduceSub, Nat.reduceEqDiff, List.map_cons, List.map_nil, List.cons_append, List.nil_append, List.replicate, Option.map_some, Option.bind_some, Option.some.injEq, Bool.not_true, Bool.not_false, ne_eq, Bool.false_eq_true, Int.reduceEq, Int.reduceLT, Int.reduceLE, Int.reduceNeg, Int.reduceAdd, Int.reduceSub, Int.reduceMul, Int.reduceToNat, Int.toNat_natCast, Nat.reduceLT, Nat.reduceLeDiff, not_false_eq_true, not_true_eq_false, decide_true, decide_false, List.length_map, List.map_append, fmod_pos, fdiv_pos, and_true, true_and, and_self, Bool.and_true, Bool.or_false, Bool.and_false, Bool.or_true, Bool.true_and, Bool.false_and, ty_li_none, ty_li_bool, ty_li_int, ty_li_str, ty_li_list, ty_li_tuple, ty_tu_none, ty_tu_bool, ty_tu_int, ty_tu_str, ty_tu_list, ty_tu_tuple, ty_bo_none, ty_bo_bool, ty_bo_int, ty_bo_str, ty_bo_list, ty_bo_tuple, ty_in_none, ty_in_bool, ty_in_int, ty_in_str, ty_in_list, ty_in_tuple, ty_st_none, ty_st_bool, ty_st_int, ty_st_str, ty_st_list, ty_st_tuple, eq_int, ne_int, eq_bl, ne_bl, eq_st, ne_st, eq_li, ne_li, at_0, at_1, at_2, at_3, at_4, at_5, in_li, notin_li, c_z, c_s, gx_v, gx_s, e_mIsX, e_sTry, tc_ok, tc_exc, cm_nil, cm_cons, ex_ok, dx_nil, dx_v, dx_o, dx_x, dx_n, at_exx, Int.cast_ofNat_Int, e_mLrg1, e_mLrg2, d_lrg, e_mCat]
theorem lke_N : LkE eN := ⟨fun k a b hp => by
  obtain ⟨k, rfl⟩ : ∃ j, k = j + 1 := by cases k with
    | zero => exact hp.elim
    | succ j => exact ⟨j, rfl⟩
  rw [like_none]; rfl⟩
theorem all_rng {α : Type} [DecidableEq α] {xs ys : List α} {r : Int → Bool} (hl : xs.length = ys.length) (h : ∀ i : Nat, ∀ (hu : i < xs.length) (hv : i < ys.length), r i = decide (xs[i] = ys[i])) : (rngI 0 ys.length).all r = decide (xs = ys) := by
  rw [Bool.eq_iff_iff, List.all_eq_true, decide_eq_true_eq]
  constructor
  · intro a
    apply List.ext_getElem hl
    intro i h1 h2
    have := a i (rngI_mem.mpr (by omega))
    rw [h i h1 h2] at this
    exact of_decide_eq_true this
  · rintro rfl i hi
    obtain ⟨i0, i1⟩ := rngI_mem.mp hi
    have e : ((i.toNat : Nat) : Int) = i := by omega
    rw [← e, h i.toNat (by omega) (by omega)]
    simp
theorem lke_L {α : Type} [DecidableEq α] {e : α → PyData} (h : LkE e) : LkE (encL e) := ⟨fun k xs ys hp => by
  obtain ⟨k, rfl⟩ : ∃ j, k = j + 1 := by cases k with
    | zero => exact hp.elim
    | succ j => exact ⟨j, rfl⟩
  by_cases hl : xs.length = ys.length
  · have hz := hp.1
    rw [(like_seq (r := fun i => decide (xs[i.toNat]? = ys[i.toNat]?)) (by rw [List.length_map, List.length_map]; exact hl) hz (fun i hu hv => by
      rw [List.getElem_map, List.getElem_map]
      rw [List.length_map] at hu hv
      rw [h.lk k _ _ (hp.2 _ (List.mem_map.mpr ⟨_, List.getElem_mem hv, rfl⟩)), Int.toNat_natCast, List.getElem?_eq_getElem hu, List.getElem?_eq_getElem hv]
      simp)).1]
    rw [List.length_map, all_rng hl (fun i hu hv => by rw [Int.toNat_natCast, List.getElem?_eq_getElem hu, List.getElem?_eq_getElem hv]; simp)]
  · rw [like_len (by rw [List.length_map, List.length_map]; exact hl), decide_eq_false (fun q => hl (by rw [q]))]⟩
theorem lke_U {α : Type} [DecidableEq α] {e : α → PyData} (h : LkE e) (n : Nat) : ∀ (k : Nat) (a b : List α), a.length = n → b.length = n → plainD k (encU e b) → m_law_like k [encU e a, encU e b] = .ok (.bool (decide (a = b))) := fun k xs ys h1 h2 hp => by
  obtain ⟨k, rfl⟩ : ∃ j, k = j + 1 := by cases k with
    | zero => exact hp.elim
    | succ j => exact ⟨j, rfl⟩
  have hl : xs.length = ys.length := by omega
  have hz := hp.1
  rw [(like_seq (r := fun i => decide (xs[i.toNat]? = ys[i.toNat]?)) (by rw [List.length_map, List.length_map]; exact hl) hz (fun i hu hv => by
    rw [List.getElem_map, List.getElem_map]
    rw [List.length_map] at hu hv
    rw [h.lk k _ _ (hp.2 _ (List.mem_map.mpr ⟨_, List.getElem_mem hv, rfl⟩)), Int.toNat_natCast, List.getElem?_eq_getElem hu, List.getElem?_eq_getElem hv]
    simp)).2]
  rw [List.length_map, all_rng hl (fun i hu hv => by rw [Int.toNat_natCast, List.getElem?_eq_getElem hu, List.getElem?_eq_getElem hv]; simp)]
section
variable {α β γ δ : Type} [DecidableEq α] [DecidableEq β] [DecidableEq γ] [DecidableEq δ] {e : α → PyData} {f : β → PyData} {g : γ → PyData} {h : δ → PyData}
theorem lke_O (he : LkE e) (hn : ∀ a, isNone (e a) = false) : LkE (encO e) := ⟨fun k a b hp => by
  cases b with
  | none =>
    obtain ⟨k, rfl⟩ : ∃ j, k = j + 1 := by cases k with
      | zero => exact hp.elim
      | succ j => exact ⟨j, rfl⟩
    show m_law_like (k + 1) [encO e a, .none] = _
    rw [like_none]
    cases a with
    | none => rfl
    | some a => show R.ok (PyData.bool (isNone (e a))) = _; rw [hn a]; rfl
  | some b =>
    cases a with
    | some a =>
      have := he.lk k a b hp
      show m_law_like k [e a, e b] = _
      rw [this]; simp
    | none =>
      obtain ⟨k, rfl⟩ : ∃ j, k = j + 1 := by cases k with
        | zero => exact hp.elim
        | succ j => exact ⟨j, rfl⟩
      show m_law_like (k + 1) [.none, e b] = _
      rw [show decide (none = some b) = false from rfl]
      have hb := hn b
      have hp' : plainD (k + 1) (e b) := hp
      generalize e b = d at hb hp' ⊢
      unfold m_law_like
      rw [fn_go (n := 2) rfl]
      unfold b_law_like
      change bodyOut (sThen _ _ [some (.val .none), some (.val d), none]) = _
      cases d with
      | none => cases hb
      | dict _ => exact hp'.elim
      | bool x => simp (disch := omega) only [bind_ok, bind_bad, bind_exc, at_ok, at_exc, ofO_some, oS_some, nox_okk, g_v, g_s, go_v, go_s, ga_v, ga_o, ga_s, s_z, s_s, fz_o, fz_v, fz_s, e_mGet, e_mC, e_m2, e_m1, e_mT, e_mB, e_mAndB, e_mOrB, e_mNotB, e_mAnd, e_mOr, e_mIf, e_mChain, e_mNil, e_mCons, e_mSeq, e_mCall, e_mNo, e_mPart, e_mCut, e_mIs, e_mIs2, e_mL, e_mDsp, e_mRep, e_mBind, e_mIxO, e_mBor, e_mBorB, e_mItems, e_mWk, e_mRev, e_mYes, e_mLc, e_gN, e_gE, e_gC, e_gTt, e_gTl, e_sNx, e_sThen, e_sDrop, e_sRet, e_sSet, e_sIf, e_sFor, e_sAsg, e_sPar, e_sSetO, e_sSetL, e_ownAt, e_freeze, e_sApp, e_sSetIx, e_sAugIx, e_sAug, e_sPop, e_sPopTo, e_fnM, e_bo_rt, e_bo_nx, e_bo_exc, e_startE, e_wipe0, e_wipe1, d_add, d_addib, d_addl, d_addt, d_sub, d_mul, d_mulS, d_div, d_mod, d_pow, d_cmp, d_neg, d_not, d_iadd, d_iop, d_toB, d_toI, d_trB, d_trI, d_trN, d_trL, d_trT, d_lenL, d_lenT, d_intI, d_intB, d_abs, d_gcd, d_max2, d_min2, d_sumI, d_anyB, d_allB, d_maxL, d_minL, d_listL, d_listT, d_tupL, d_tupT, d_idxL, d_idxT, d_lstL, d_lstT, d_revL, d_itL, d_itT, d_rng1, d_rng2, d_rng3, d_enum1, d_zip2, d_rev1L, d_rev1T, d_cutL, d_cutT, d_rep, d_mTup, d_mLst, d_setD, d_scN, d_scB, d_scI, d_scS, d_isN, d_isNN, d_isB, d_isNB, d_nN, d_nB, d_nI, d_nS, d_nL, d_nT, if_true, if_false, ite_true, ite_false, reduceIte, List.length_cons, List.length_nil, Nat.zero_add, Nat.reduceAdd, Nat.reduceSub, Nat.reduceEqDiff, List.map_cons, List.map_nil, List.cons_append, List.nil_append, List.replicate, Option.map_some, Option.bind_some, Option.some.injEq, Bool.not_true, Bool.not_false, ne_eq, Bool.false_eq_true, Int.reduceEq, Int.reduceLT, Int.reduceLE, Int.reduceNeg, Int.reduceAdd, Int.reduceSub, Int.reduceMul, Int.reduceToNat, Int.toNat_natCast, Nat.reduceLT, Nat.reduceLeDiff, not_false_eq_true, not_true_eq_false, decide_true, decide_false, List.length_map, List.map_append, fmod_pos, fdiv_pos, and_true, true_and, and_self, Bool.and_true, Bool.or_false, Bool.and_false, Bool.or_true, Bool.true_and, Bool.false_and, ty_li_none, ty_li_bool, ty_li_int, ty_li_str, ty_li_list, ty_li_tuple, ty_tu_none, ty_tu_bool, ty_tu_int, ty_tu_str, ty_tu_list, ty_tu_tuple, ty_bo_none, ty_bo_bool, ty_bo_int, ty_bo_str, ty_bo_list, ty_bo_tuple, ty_in_none, ty_in_bool, ty_in_int, ty_in_str, ty_in_list, ty_in_tuple, ty_st_none, ty_st_bool, ty_st_int, ty_st_str, ty_st_list, ty_st_tuple, eq_int, ne_int, eq_bl, ne_bl, eq_st, ne_st, eq_li, ne_li, at_0, at_1, at_2, at_3, at_4, at_5, in_li, notin_li, c_z, c_s, gx_v, gx_s, e_mIsX, e_sTry, tc_ok, tc_exc, cm_nil, cm_cons, ex_ok, dx_nil, dx_v, dx_o, dx_x, dx_n, at_exx, Int.cast_ofNat_Int, e_mLrg1, e_mLrg2, d_lrg, e_mCat]
      | int x => simp (disch := omega) only [bind_ok, bind_bad, bind_exc, at_ok, at_exc, ofO_some, oS_some, nox_okk, g_v, g_s, go_v, go_s, ga_v, ga_o, ga_s, s_z, s_s, fz_o, fz_v, fz_s, e_mGet, e_mC, e_m2, e_m1, e_mT, e_mB, e_mAndB, e_mOrB, e_mNotB, e_mAnd, e_mOr, e_mIf, e_mChain, e_mNil, e_mCons, e_mSeq, e_mCall, e_mNo, e_mPart, e_mCut, e_mIs, e_mIs2, e_mL, e_mDsp, e_mRep, e_mBind, e_mIxO, e_mBor, e_mBorB, e_mItems, e_mWk, e_mRev, e_mYes, e_mLc, e_gN, e_gE, e_gC, e_gTt, e_gTl, e_sNx, e_sThen, e_sDrop, e_sRet, e_sSet, e_sIf, e_sFor, e_sAsg, e_sPar, e_sSetO, e_sSetL, e_ownAt, e_freeze, e_sApp, e_sSetIx, e_sAugIx, e_sAug, e_sPop, e_sPopTo, e_fnM, e_bo_rt, e_bo_nx, e_bo_exc, e_startE, e_wipe0, e_wipe1, d_add, d_addib, d_addl, d_addt, d_sub, d_mul, d_mulS, d_div, d_mod, d_pow, d_cmp, d_neg, d_not, d_iadd, d_iop, d_toB, d_toI, d_trB, d_trI, d_trN, d_trL, d_trT, d_lenL, d_lenT, d_intI, d_intB, d_abs, d_gcd, d_max2, d_min2, d_sumI, d_anyB, d_allB, d_maxL, d_minL, d_listL, d_listT, d_tupL, d_tupT, d_idxL, d_idxT, d_lstL, d_lstT, d_revL, d_itL, d_itT, d_rng1, d_rng2, d_rng3, d_enum1, d_zip2, d_rev1L, d_rev1T, d_cutL, d_cutT, d_rep, d_mTup, d_mLst, d_setD, d_scN, d_scB, d_scI, d_scS, d_isN, d_isNN, d_isB, d_isNB, d_nN, d_nB, d_nI, d_nS, d_nL, d_nT, if_true, if_false, ite_true, ite_false, reduceIte, List.length_cons, List.length_nil, Nat.zero_add, Nat.reduceAdd, Nat.reduceSub, Nat.reduceEqDiff, List.map_cons, List.map_nil, List.cons_append, List.nil_append, List.replicate, Option.map_some, Option.bind_some, Option.some.injEq, Bool.not_true, Bool.not_false, ne_eq, Bool.false_eq_true, Int.reduceEq, Int.reduceLT, Int.reduceLE, Int.reduceNeg, Int.reduceAdd, Int.reduceSub, Int.reduceMul, Int.reduceToNat, Int.toNat_natCast, Nat.reduceLT, Nat.reduceLeDiff, not_false_eq_true, not_true_eq_false, decide_true, decide_false, List.length_map, List.map_append, fmod_pos, fdiv_pos, and_true, true_and, and_self, Bool.and_true, Bool.or_false, Bool.and_false, Bool.or_true, Bool.true_and, Bool.false_and, ty_li_none, ty_li_bool, ty_li_int, ty_li_str, ty_li_list, ty_li_tuple, ty_tu_none, ty_tu_bool, ty_tu_int, ty_tu_str, ty_tu_list, ty_tu_tuple, ty_bo_none, ty_bo_bool, ty_bo_int, ty_bo_str, ty_bo_list, ty_bo_tuple, ty_in_none, ty_in_bool, ty_in_int, ty_in_str, ty_in_list, ty_in_tuple, ty_st_none, ty_st_bool, ty_st_int, ty_st_str, ty_st_list, ty_st_tuple, eq_int, ne_int, eq_bl, ne_bl, eq_st, ne_st, eq_li, ne_li, at_0, at_1, at_2, at_3, at_4, at_5, in_li, notin_li, c_z, c_s, gx_v, gx_s, e_mIsX, e_sTry, tc_ok, tc_exc, cm_nil, cm_cons, ex_ok, dx_nil, dx_v, dx_o, dx_x, dx_n, at_exx, Int.cast_ofNat_Int, e_mLrg1, e_mLrg2, d_lrg, e_mCat]
      | str x => simp (disch := omega) only [bind_ok, bind_bad, bind_exc, at_ok, at_exc, ofO_some, oS_some, nox_okk, g_v, g_s, go_v, go_s, ga_v, ga_o, ga_s, s_z, s_s, fz_o, fz_v, fz_s, e_mGet, e_mC, e_m2, e_m1, e_mT, e_mB, e_mAndB, e_mOrB, e_mNotB, e_mAnd, e_mOr, e_mIf, e_mChain, e_mNil, e_mCons, e_mSeq, e_mCall, e_mNo, e_mPart, e_mCut, e_mIs, e_mIs2, e_mL, e_mDsp, e_mRep, e_mBind, e_mIxO, e_mBor, e_mBorB, e_mItems, e_mWk, e_mRev, e_mYes, e_mLc, e_gN, e_gE, e_gC, e_gTt, e_gTl, e_sNx, e_sThen, e_sDrop, e_sRet, e_sSet, e_sIf, e_sFor, e_sAsg, e_sPar, e_sSetO, e_sSetL, e_ownAt, e_freeze, e_sApp, e_sSetIx, e_sAugIx, e_sAug, e_sPop, e_sPopTo, e_fnM, e_bo_rt, e_bo_nx, e_bo_exc, e_startE, e_wipe0, e_wipe1, d_add, d_addib, d_addl, d_addt, d_sub, d_mul, d_mulS, d_div, d_mod, d_pow, d_cmp, d_neg, d_not, d_iadd, d_iop, d_toB, d_toI, d_trB, d_trI, d_trN, d_trL, d_trT, d_lenL, d_lenT, d_intI, d_intB, d_abs, d_gcd, d_max2, d_min2, d_sumI, d_anyB, d_allB, d_maxL, d_minL, d_listL, d_listT, d_tupL, d_tupT, d_idxL, d_idxT, d_lstL, d_lstT, d_revL, d_itL, d_itT, d_rng1, d_rng2, d_rng3, d_enum1, d_zip2, d_rev1L, d_rev1T, d_cutL, d_cutT, d_rep, d_mTup, d_mLst, d_setD, d_scN, d_scB, d_scI, d_scS, d_isN, d_isNN, d_isB, d_isNB, d_nN, d_nB, d_nI, d_nS, d_nL, d_nT, if_true, if_false, ite_true, ite_false, reduceIte, List.length_cons, List.length_nil, Nat.zero_add, Nat.reduceAdd, Nat.reduceSub, Nat.reduceEqDiff, List.map_cons, List.map_nil, List.cons_append, List.nil_append, List.replicate, Option.map_some, Option.bind_some, Option.some.injEq, Bool.not_true, Bool.not_false, ne_eq, Bool.false_eq_true, Int.reduceEq, Int.reduceLT, Int.reduceLE, Int.reduceNeg, Int.reduceAdd, Int.reduceSub, Int.reduceMul, Int.reduceToNat, Int.toNat_natCast, Nat.reduceLT, Nat.reduceLeDiff, not_false_eq_true, not_true_eq_false, decide_true, decide_false, List.length_map, List.map_append, fmod_pos, fdiv_pos, and_true, true_and, and_self, Bool.and_true, Bool.or_false, Bool.and_false, Bool.or_true, Bool.true_and, Bool.false_and, ty_li_none, ty_li_bool, ty_li_int, ty_li_str, ty_li_list, ty_li_tuple, ty_tu_none, ty_tu_bool, ty_tu_int, ty_tu_str, ty_tu_list, ty_tu_tuple, ty_bo_none, ty_bo_bool, ty_bo_int, ty_bo_str, ty_bo_list, ty_bo_tuple, ty_in_none, ty_in_bool, ty_in_int, ty_in_str, ty_in_list, ty_in_tuple, ty_st_none, ty_st_bool, ty_st_int, ty_st_str, ty_st_list, ty_st_tuple, eq_int, ne_int, eq_bl, ne_bl, eq_st, ne_st, eq_li, ne_li, at_0, at_1, at_2, at_3, at_4, at_5, in_li, notin_li, c_z, c_s, gx_v, gx_s, e_mIsX, e_sTry, tc_ok, tc_exc, cm_nil, cm_cons, ex_ok, dx_nil, dx_v, dx_o, dx_x, dx_n, at_exx, Int.cast_ofNat_Int, e_mLrg1, e_mLrg2, d_lrg, e_mCat]
      | list x => simp (disch := omega) only [bind_ok, bind_bad, bind_exc, at_ok, at_exc, ofO_some, oS_some, nox_okk, g_v, g_s, go_v, go_s, ga_v, ga_o, ga_s, s_z, s_s, fz_o, fz_v, fz_s, e_mGet, e_mC, e_m2, e_m1, e_mT, e_mB, e_mAndB, e_mOrB, e_mNotB, e_mAnd, e_mOr, e_mIf, e_mChain, e_mNil, e_mCons, e_mSeq, e_mCall, e_mNo, e_mPart, e_mCut, e_mIs, e_mIs2, e_mL, e_mDsp, e_mRep, e_mBind, e_mIxO, e_mBor, e_mBorB, e_mItems, e_mWk, e_mRev, e_mYes, e_mLc, e_gN, e_gE, e_gC, e_gTt, e_gTl, e_sNx, e_sThen, e_sDrop, e_sRet, e_sSet, e_sIf, e_sFor, e_sAsg, e_sPar, e_sSetO, e_sSetL, e_ownAt, e_freeze, e_sApp, e_sSetIx, e_sAugIx, e_sAug, e_sPop, e_sPopTo, e_fnM, e_bo_rt, e_bo_nx, e_bo_exc, e_startE, e_wipe0, e_wipe1, d_add, d_addib, d_addl, d_addt, d_sub, d_mul, d_mulS, d_div, d_mod, d_pow, d_cmp, d_neg, d_not, d_iadd, d_iop, d_toB, d_toI, d_trB, d_trI, d_trN, d_trL, d_trT, d_lenL, d_lenT, d_intI, d_intB, d_abs, d_gcd, d_max2, d_min2, d_sumI, d_anyB, d_allB, d_maxL, d_minL, d_listL, d_listT, d_tupL, d_tupT, d_idxL, d_idxT, d_lstL, d_lstT, d_revL, d_itL, d_itT, d_rng1, d_rng2, d_rng3, d_enum1, d_zip2, d_rev1L, d_rev1T, d_cutL, d_cutT, d_rep, d_mTup, d_mLst, d_setD, d_scN, d_scB, d_scI, d_scS, d_isN, d_isNN, d_isB, d_isNB, d_nN, d_nB, d_nI, d_nS, d_nL, d_nT, if_true, if_false, ite_true, ite_false, reduceIte, List.length_cons, List.length_nil, Nat.zero_add, Nat.reduceAdd, Nat.reduceSub, Nat.reduceEqDiff, List.map_cons, List.map_nil, List.cons_append, List.nil_append, List.replicate, Option.map_some, Option.bind_some, Option.some.injEq, Bool.not_true, Bool.not_false, ne_eq, Bool.false_eq_true, Int.reduceEq, Int.reduceLT, Int.reduceLE, Int.reduceNeg, Int.reduceAdd, Int.reduceSub, Int.reduceMul, Int.reduceToNat, Int.toNat_natCast, Nat.reduceLT, Nat.reduceLeDiff, not_false_eq_true, not_true_eq_false, decide_true, decide_false, List.length_map, List.map_append, fmod_pos, fdiv_pos, and_true, true_and, and_self, Bool.and_true, Bool.or_false, Bool.and_false, Bool.or_true, Bool.true_and, Bool.false_and, ty_li_none, ty_li_bool, ty_li_int, ty_li_str, ty_li_list, ty_li_tuple, ty_tu_none, ty_tu_bool, ty_tu_int, ty_tu_str, ty_tu_list, ty_tu_tuple, ty_bo_none, ty_bo_bool, ty_bo_int, ty_bo_str, ty_bo_list, ty_bo_tuple, ty_in_none, ty_in_bool, ty_in_int, ty_in_str, ty_in_list, ty_in_tuple, ty_st_none, ty_st_bool, ty_st_int, ty_st_str, ty_st_list, ty_st_tuple, eq_int, ne_int, eq_bl, ne_bl, eq_st, ne_st, eq_li, ne_li, at_0, at_1, at_2, at_3, at_4, at_5, in_li, notin_li, c_z, c_s, gx_v, gx_s, e_mIsX, e_sTry, tc_ok, tc_exc, cm_nil, cm_cons, ex_ok, dx_nil, dx_v, dx_o, dx_x, dx_n, at_exx, Int.cast_ofNat_Int, e_mLrg1, e_mLrg2, d_lrg, e_mCat]
      | tuple x => simp (disch := omega) only [bind_ok, bind_bad, bind_exc, at_ok, at_exc, ofO_some, oS_some, nox_okk, g_v, g_s, go_v, go_s, ga_v, ga_o, ga_s, s_z, s_s, fz_o, fz_v, fz_s, e_mGet, e_mC, e_m2, e_m1, e_mT, e_mB, e_mAndB, e_mOrB, e_mNotB, e_mAnd, e_mOr, e_mIf, e_mChain, e_mNil, e_mCons, e_mSeq, e_mCall, e_mNo, e_mPart, e_mCut, e_mIs, e_mIs2, e_mL, e_mDsp, e_mRep, e_mBind, e_mIxO, e_mBor, e_mBorB, e_mItems, e_mWk, e_mRev, e_mYes, e_mLc, e_gN, e_gE, e_gC, e_gTt, e_gTl, e_sNx, e_sThen, e_sDrop, e_sRet, e_sSet, e_sIf, e_sFor, e_sAsg, e_sPar, e_sSetO, e_sSetL, e_ownAt, e_freeze, e_sApp, e_sSetIx, e_sAugIx, e_sAug, e_sPop, e_sPopTo, e_fnM, e_bo_rt, e_bo_nx, e_bo_exc, e_startE, e_wipe0, e_wipe1, d_add, d_addib, d_addl, d_addt, d_sub, d_mul, d_mulS, d_div, d_mod, d_pow, d_cmp, d_neg, d_not, d_iadd, d_iop, d_toB, d_toI, d_trB, d_trI, d_trN, d_trL, d_trT, d_lenL, d_lenT, d_intI, d_intB, d_abs, d_gcd, d_max2, d_min2, d_sumI, d_anyB, d_allB, d_maxL, d_minL, d_listL, d_listT, d_tupL, d_tupT, d_idxL, d_idxT, d_lstL, d_lstT, d_revL, d_itL, d_itT, d_rng1, d_rng2, d_rng3, d_enum1, d_zip2, d_rev1L, d_rev1T, d_cutL, d_cutT, d_rep, d_mTup, d_mLst, d_setD, d_scN, d_scB, d_scI, d_scS, d_isN, d_isNN, d_isB, d_isNB, d_nN, d_nB, d_nI, d_nS, d_nL, d_nT, if_true, if_false, ite_true, ite_false, reduceIte, List.length_cons, List.length_nil, Nat.zero_add, Nat.reduceAdd, Nat.reduceSub, Nat.reduceEqDiff, List.map_cons, List.map_nil, List.cons_append, List.nil_append, List.replicate, Option.map_some, Option.bind_some, Option.some.injEq, Bool.not_true, Bool.not_false, ne_eq, Bool.false_eq_true, Int.reduceEq, Int.reduceLT, Int.reduceLE, Int.reduceNeg, Int.reduceAdd, Int.reduceSub, Int.reduceMul, Int.reduceToNat, Int.toNat_natCast, Nat.reduceLT, Nat.reduceLeDiff, not_false_eq_true, not_true_eq_false, decide_true, decide_false, List.length_map, List.map_append, fmod_pos, fdiv_pos, and_true, true_and, and_self, Bool.and_true, Bool.or_false, Bool.and_false, Bool.or_true, Bool.true_and, Bool.false_and, ty_li_none, ty_li_bool, ty_li_int, ty_li_str, ty_li_list, ty_li_tuple, ty_tu_none, ty_tu_bool, ty_tu_int, ty_tu_str, ty_tu_list, ty_tu_tuple, ty_bo_none, ty_bo_bool, ty_bo_int, ty_bo_str, ty_bo_list, ty_bo_tuple, ty_in_none, ty_in_bool, ty_in_int, ty_in_str, ty_in_list, ty_in_tuple, ty_st_none, ty_st_bool, ty_st_int, ty_st_str, ty_st_list, ty_st_tuple, eq_int, ne_int, eq_bl, ne_bl, eq_st, ne_st, eq_li, ne_li, at_0, at_1, at_2, at_3, at_4, at_5, in_li, notin_li, c_z, c_s, gx_v, gx_s, e_mIsX, e_sTry, tc_ok, tc_exc, cm_nil, cm_cons, ex_ok, dx_nil, dx_v, dx_o, dx_x, dx_n, at_exx, Int.cast_ofNat_Int, e_mLrg1, e_mLrg2, d_lrg, e_mCat]⟩
theorem lke_2 (he : LkE e) (hf : LkE f) : LkE (enc2 e f) := ⟨fun k a b hp => by
  obtain ⟨k, rfl⟩ : ∃ j, k = j + 1 := by cases k with
    | zero => exact hp.elim
    | succ j => exact ⟨j, rfl⟩
  have p0 := hp.2 (e b.1) (by simp)
  have p1 := hp.2 (f b.2) (by simp)
  show m_law_like (k + 1) [.tuple [e a.1, f a.2], .tuple [e b.1, f b.2]] = _
  rw [(like_seq (us := [e a.1, f a.2]) (vs := [e b.1, f b.2]) (r := fun i => if i = 0 then decide (a.1 = b.1) else decide (a.2 = b.2)) rfl hp.1 (fun i hu hv => by
    match i, hu, hv with
    | 0, _, _ => exact he.lk k _ _ p0
    | 1, _, _ => exact hf.lk k _ _ p1)).2]
  have : rngI 0 (([e b.1, f b.2] : List PyData).length : Nat) = [0, 1] := rfl
  rw [this]
  obtain ⟨a1, a2⟩ := a
  obtain ⟨b1, b2⟩ := b
  by_cases h1 : a1 = b1 <;> by_cases h2 : a2 = b2 <;> simp [h1, h2]⟩
theorem lke_3 (he : LkE e) (hf : LkE f) (hg : LkE g) : LkE (enc3 e f g) := ⟨fun k a b hp => by
  obtain ⟨k, rfl⟩ : ∃ j, k = j + 1 := by cases k with
    | zero => exact hp.elim
    | succ j => exact ⟨j, rfl⟩
  have p0 := hp.2 (e b.1) (by simp)
  have p1 := hp.2 (f b.2.1) (by simp)
  have p2 := hp.2 (g b.2.2) (by simp)
  show m_law_like (k + 1) [.tuple [e a.1, f a.2.1, g a.2.2], .tuple [e b.1, f b.2.1, g b.2.2]] = _
  rw [(like_seq (us := [e a.1, f a.2.1, g a.2.2]) (vs := [e b.1, f b.2.1, g b.2.2]) (r := fun i => if i = 0 then decide (a.1 = b.1) else if i = 1 then decide (a.2.1 = b.2.1) else decide (a.2.2 = b.2.2)) rfl hp.1 (fun i hu hv => by
    match i, hu, hv with
    | 0, _, _ => exact he.lk k _ _ p0
    | 1, _, _ => exact hf.lk k _ _ p1
    | 2, _, _ => exact hg.lk k _ _ p2)).2]
  have : rngI 0 (([e b.1, f b.2.1, g b.2.2] : List PyData).length : Nat) = [0, 1, 2] := rfl
  rw [this]
  obtain ⟨a1, a2, a3⟩ := a
  obtain ⟨b1, b2, b3⟩ := b
  by_cases h1 : a1 = b1 <;> by_cases h2 : a2 = b2 <;> by_cases h3 : a3 = b3 <;> simp [h1, h2, h3]⟩
theorem lke_4 (he : LkE e) (hf : LkE f) (hg : LkE g) (hh : LkE h) : LkE (enc4 e f g h) := ⟨fun k a b hp => by
  obtain ⟨k, rfl⟩ : ∃ j, k = j + 1 := by cases k with
    | zero => exact hp.elim
    | succ j => exact ⟨j, rfl⟩
  have p0 := hp.2 (e b.1) (by simp)
  have p1 := hp.2 (f b.2.1) (by simp)
  have p2 := hp.2 (g b.2.2.1) (by simp)
  have p3 := hp.2 (h b.2.2.2) (by simp)
  show m_law_like (k + 1) [.tuple [e a.1, f a.2.1, g a.2.2.1, h a.2.2.2], .tuple [e b.1, f b.2.1, g b.2.2.1, h b.2.2.2]] = _
  rw [(like_seq (us := [e a.1, f a.2.1, g a.2.2.1, h a.2.2.2]) (vs := [e b.1, f b.2.1, g b.2.2.1, h b.2.2.2]) (r := fun i => if i = 0 then decide (a.1 = b.1) else if i = 1 then decide (a.2.1 = b.2.1) else if i = 2 then decide (a.2.2.1 = b.2.2.1) else decide (a.2.2.2 = b.2.2.2)) rfl hp.1 (fun i hu hv => by
    match i, hu, hv with
    | 0, _, _ => exact he.lk k _ _ p0
    | 1, _, _ => exact hf.lk k _ _ p1
    | 2, _, _ => exact hg.lk k _ _ p2
    | 3, _, _ => exact hh.lk k _ _ p3)).2]
  have : rngI 0 (([e b.1, f b.2.1, g b.2.2.1, h b.2.2.2] : List PyData).length : Nat) = [0, 1, 2, 3] := rfl
  rw [this]
  obtain ⟨a1, a2, a3, a4⟩ := a
  obtain ⟨b1, b2, b3, b4⟩ := b
  by_cases h1 : a1 = b1 <;> by_cases h2 : a2 = b2 <;> by_cases h3 : a3 = b3 <;> by_cases h4 : a4 = b4 <;> simp [h1, h2, h3, h4]⟩
end

noncomputable def F_law_draws (script : (List Int)) (at_ : Int) (count : Int) : (List Int) :=
  (bnd (if (decide (at_ < (script.length : Int))) = true then (bnd (script.getD (at_).toNat 0) fun (cell2 : Int) =>
  cell2) else 0) fun (cell : Int) =>
  (bnd (decide ((10 ^ 18) ≤ cell)) fun (great : Bool) =>
  (bnd ((rngI 0 count).foldl (fun (s : Int × (List Int)) (k : Int) =>
  (if great = true then (bnd (s.1 / 5040) fun (cell3 : Int) =>
  (cell3, (s.2 ++ [(s.1 % 5040)])))
  else (bnd ((((s.1 * 69621) + ((k + (64 * at_)) * 48271)) + 13) % 2147483647) fun (mixed : Int) =>
  (bnd ((((mixed * mixed) + (mixed * 40014)) + (k * 7919)) % 2147483563) fun (mixed2 : Int) =>
  (s.1, (s.2 ++ [((mixed2 / 64) % 5040)])))))) (cell, [])) fun (s2 : Int × (List Int)) =>
  s2.2)))
def S_law_draws (script : (List Int)) (at_ : Int) (count : Int) : Prop :=
  ((decide (at_ < (script.length : Int))) = true → ixOk script.length at_) ∧ (bnd (if (decide (at_ < (script.length : Int))) = true then (bnd (script.getD (at_).toNat 0) fun (cell2 : Int) =>
  cell2) else 0) fun (cell : Int) => (bnd (decide ((10 ^ 18) ≤ cell)) fun (great : Bool) => r62 count ∧ LpS (fun (s : Int × (List Int)) (k : Int) => (great = true → s.2.length < sizeLine) ∧ (great = false → (bnd ((((s.1 * 69621) + ((k + (64 * at_)) * 48271)) + 13) % 2147483647) fun (mixed : Int) => mulOk mixed mixed ∧ (bnd ((((mixed * mixed) + (mixed * 40014)) + (k * 7919)) % 2147483563) fun (mixed2 : Int) => s.2.length < sizeLine)))) (fun (s : Int × (List Int)) (k : Int) =>
  (if great = true then (bnd (s.1 / 5040) fun (cell3 : Int) =>
  (cell3, (s.2 ++ [(s.1 % 5040)])))
  else (bnd ((((s.1 * 69621) + ((k + (64 * at_)) * 48271)) + 13) % 2147483647) fun (mixed : Int) =>
  (bnd ((((mixed * mixed) + (mixed * 40014)) + (k * 7919)) % 2147483563) fun (mixed2 : Int) =>
  (s.1, (s.2 ++ [((mixed2 / 64) % 5040)])))))) (rngI 0 count) (cell, [])))
theorem T_law_draws (script : (List Int)) (at_ : Int) (count : Int) (h : S_law_draws script at_ count) : m_law_draws [(encL PyData.int) script, PyData.int at_, PyData.int count] = .ok ((encL PyData.int) (F_law_draws script at_ count)) :=
  t_fn (b := b_law_draws) (eτ := (encL PyData.int)) rfl
  ((ts_p [vv (encL PyData.int) script, vv PyData.int at_, vv PyData.int count, none, none, none, none, none] rfl (ts_set t_c (ts_p [vv (encL PyData.int) script, vv PyData.int at_, vv PyData.int count, vv PyData.int 0, none, none, none, none] rfl (ts_joinG (QQ := QF (encL PyData.int)) (E := fun (cell : Int) => [vv (encL PyData.int) script, vv PyData.int at_, vv PyData.int count, vv PyData.int cell, none, none, none, none]) (t_B (t_2 (t_get rfl) (t_call (t_cons (t_get rfl) t_nil) f_lenL) f_lt)) (fun hc1 => (ts_p [vv (encL PyData.int) script, vv PyData.int at_, vv PyData.int count, vv PyData.int 0, none, none, none, none] rfl (ts_end (ts_setG (QQ := QJ _) (eγ := PyData.int) (t_call (t_cons (t_2 (t_get rfl) (t_get rfl) (f_idxL (d := 0) (h.1 hc1))) t_nil) f_intI) (show bnd _ (fun _ => True) from trivial) (fun cell2 hb2 =>
  (ts_p [vv (encL PyData.int) script, vv PyData.int at_, vv PyData.int count, vv PyData.int cell2, none, none, none, none] rfl (ts_finJ (.is (.is (.is (.is (.is (.is (.is (.is .nil))))))))))))))) (fun hc1 => (ts_p [vv (encL PyData.int) script, vv PyData.int at_, vv PyData.int count, vv PyData.int 0, none, none, none, none] rfl (ts_finJ (.is (.is (.is (.is (.is (.is (.is (.is .nil))))))))))) h.2 (fun cell hb3 =>
  (ts_p [vv (encL PyData.int) script, vv PyData.int at_, vv PyData.int count, vv PyData.int cell, none, none, none, none] rfl (ts_setG (QQ := QF (encL PyData.int)) (eγ := PyData.bool) (t_2 (t_get rfl) (t_2 t_c t_c (f_pow (k := 18) (by decide) rfl)) f_ge) hb3 (fun great hb4 =>
  (ts_p [vv (encL PyData.int) script, vv PyData.int at_, vv PyData.int count, vv PyData.int cell, vv PyData.bool great, none, none, none] rfl (ts_setO (t_coM0 (t_dsp t_nil (ln_r rfl))) (ts_p [vv (encL PyData.int) script, vv PyData.int at_, vv PyData.int count, vv PyData.int cell, vv PyData.bool great, vo PyData.int [], none, none] rfl (ts_forG (QQ := QF (encL PyData.int)) (e := PyData.int) (xs := (rngI 0 count)) (eτ := eE) (F := (fun (s : Int × (List Int)) (k : Int) =>
  (if great = true then (bnd (s.1 / 5040) fun (cell3 : Int) =>
  (cell3, (s.2 ++ [(s.1 % 5040)])))
  else (bnd ((((s.1 * 69621) + ((k + (64 * at_)) * 48271)) + 13) % 2147483647) fun (mixed : Int) =>
  (bnd ((((mixed * mixed) + (mixed * 40014)) + (k * 7919)) % 2147483563) fun (mixed2 : Int) =>
  (s.1, (s.2 ++ [((mixed2 / 64) % 5040)]))))))) (S := (fun (s : Int × (List Int)) (k : Int) => (great = true → s.2.length < sizeLine) ∧ (great = false → (bnd ((((s.1 * 69621) + ((k + (64 * at_)) * 48271)) + 13) % 2147483647) fun (mixed : Int) => mulOk mixed mixed ∧ (bnd ((((mixed * mixed) + (mixed * 40014)) + (k * 7919)) % 2147483563) fun (mixed2 : Int) => s.2.length < sizeLine))))) (E := fun (s : Int × (List Int)) => [vv (encL PyData.int) script, vv PyData.int at_, vv PyData.int count, vv PyData.int s.1, vv PyData.bool great, vo PyData.int s.2, none, none]) (.is (.is (.is (.is (.is (.is (.any (.any .nil)))))))) (t_wk (t_cons (t_get rfl) t_nil) (f_rng1 hb4.1)) hb4.2 (fun s k => tg_n) (fun s k hx6 hb5 =>
  (ts_p [vv (encL PyData.int) script, vv PyData.int at_, vv PyData.int count, vv PyData.int s.1, vv PyData.bool great, vo PyData.int s.2, vv PyData.int k, none] rfl (ts_end (ts_if (QQ := fun z => QL _ eE (Stp.nx z)) (t_T (t_get rfl) f_truB) (fun hc7 => (ts_as (ts_app (e := PyData.int) rfl (t_2 (t_call (t_cons (t_get rfl) t_nil) f_intI) t_c (f_mod (by decide))) (hb5.1 hc7) (ts_p [vv (encL PyData.int) script, vv PyData.int at_, vv PyData.int count, vv PyData.int s.1, vv PyData.bool great, vo PyData.int (s.2 ++ [(s.1 % 5040)]), vv PyData.int k, none] rfl (ts_setG (QQ := fun z => QL _ eE (Stp.nx z)) (eγ := PyData.int) (t_2 (t_get rfl) t_c (f_div (dvOk_s (by decide) (by decide)))) (show bnd _ (fun _ => True) from trivial) (fun cell3 hb8 =>
  (ts_p [vv (encL PyData.int) script, vv PyData.int at_, vv PyData.int count, vv PyData.int cell3, vv PyData.bool great, vo PyData.int (s.2 ++ [(s.1 % 5040)]), vv PyData.int k, none] rfl (ts_finL (.is (.is (.is (.is (.is (.is (.any (.any .nil))))))))))))))))
  (fun hc7 => (ts_as (ts_setG (QQ := fun z => QL _ eE (Stp.nx z)) (eγ := PyData.int) (t_2 (t_call (t_cons (t_2 (t_2 (t_2 (t_get rfl) t_c (f_mul (mulOk_r (by decide) (by decide)))) (t_2 (t_2 (t_get rfl) (t_2 t_c (t_get rfl) (f_mul (mulOk_l (by decide) (by decide)))) f_add) t_c (f_mul (mulOk_r (by decide) (by decide)))) f_add) t_c f_add) t_nil) f_intI) t_c (f_mod (by decide))) (hb5.2 hc7) (fun mixed hb9 =>
  (ts_p [vv (encL PyData.int) script, vv PyData.int at_, vv PyData.int count, vv PyData.int s.1, vv PyData.bool great, vo PyData.int s.2, vv PyData.int k, vv PyData.int mixed] rfl (ts_as (ts_setG (QQ := fun z => QL _ eE (Stp.nx z)) (eγ := PyData.int) (t_2 (t_call (t_cons (t_2 (t_2 (t_2 (t_get rfl) (t_get rfl) (f_mul hb9.1)) (t_2 (t_get rfl) t_c (f_mul (mulOk_r (by decide) (by decide)))) f_add) (t_2 (t_get rfl) t_c (f_mul (mulOk_r (by decide) (by decide)))) f_add) t_nil) f_intI) t_c (f_mod (by decide))) hb9.2 (fun mixed2 hb10 =>
  (ts_p [vv (encL PyData.int) script, vv PyData.int at_, vv PyData.int count, vv PyData.int s.1, vv PyData.bool great, vo PyData.int s.2, vv PyData.int k, vv PyData.int mixed2] rfl (ts_app (e := PyData.int) rfl (t_2 (t_call (t_cons (t_2 (t_get rfl) t_c (f_div (dvOk_s (by decide) (by decide)))) t_nil) f_intI) t_c (f_mod (by decide))) hb10 (ts_p [vv (encL PyData.int) script, vv PyData.int at_, vv PyData.int count, vv PyData.int s.1, vv PyData.bool great, vo PyData.int (s.2 ++ [((mixed2 / 64) % 5040)]), vv PyData.int k, vv PyData.int mixed2] rfl (ts_finL (.is (.is (.is (.is (.is (.is (.any (.any .nil)))))))))))))))))))))))) (show bnd _ (fun _ => True) from trivial) (fun s2 hb11 =>
  (ts_p [vv (encL PyData.int) script, vv PyData.int at_, vv PyData.int count, vv PyData.int s2.1, vv PyData.bool great, vo PyData.int s2.2, none, none] rfl (ts_end (ts_fz (ts_p [vv (encL PyData.int) script, vv PyData.int at_, vv PyData.int count, vv PyData.int s2.1, vv PyData.bool great, vv (encL PyData.int) s2.2, none, none] rfl (ts_retF (t_get rfl))))))))))))))))))))
noncomputable def F_law_loop (script : (List Int)) (at_ : Int) (most : Int) : (Int × (List (Int × Int × Int)) × (List Int)) :=
  (bnd (F_law_draws script at_ 60) fun (picks : (List Int)) =>
  (bnd (2 + ((picks.getD 0 0) % (most - 1))) fun (pieces : Int) =>
  (bnd ((picks.getD 1 0) % pieces) fun (place : Int) =>
  (bnd ((rngI 0 (1 + ((picks.getD 2 0) % 6))).foldl (fun (s : (List (Int × Int × Int)) × Int) (k : Int) =>
  (if ((decide (s.2 < pieces)) && (decide ((s.1.length : Int) < 20))) = true then (bnd ((s.2 + 1) + ((picks.getD ((17 + k)).toNat 0) % (max 1 (pieces / 3)))) fun (place2 : Int) =>
  ((s.1 ++ [(s.2, (1 + ((picks.getD ((3 + (2 * k))).toNat 0) % (([1, 3, 900] : List Int).getD (((picks.getD 15 0) % 3)).toNat 0))), ((picks.getD ((4 + (2 * k))).toNat 0) % (([1, 4, 50] : List Int).getD (((picks.getD 16 0) % 3)).toNat 0)))]), place2))
  else (s.1, s.2))) ([], place)) fun (s2 : (List (Int × Int × Int)) × Int) =>
  (bnd (((rngI 0 pieces).filter fun (piece : Int) => (decide (((picks.getD ((24 + (piece % 36))).toNat 0) % (([2, 5, 40] : List Int).getD (((picks.getD 18 0) % 3)).toNat 0)) = 0))).map fun (piece : Int) => piece) fun (grips : (List Int)) =>
  (pieces, s2.1, grips))))))
def S_law_loop (script : (List Int)) (at_ : Int) (most : Int) : Prop :=
  S_law_draws script at_ 60 ∧ (bnd (F_law_draws script at_ 60) fun (picks : (List Int)) => 0 < picks.length ∧ 0 < (most - 1) ∧ (bnd (2 + ((picks.getD 0 0) % (most - 1))) fun (pieces : Int) => 1 < picks.length ∧ 0 < pieces ∧ (bnd ((picks.getD 1 0) % pieces) fun (place : Int) => 2 < picks.length ∧ r62 (1 + ((picks.getD 2 0) % 6)) ∧ LpS (fun (s : (List (Int × Int × Int)) × Int) (k : Int) => (((decide (s.2 < pieces)) && (decide ((s.1.length : Int) < 20))) = true → ixOk picks.length (3 + (2 * k)) ∧ 15 < picks.length ∧ 0 < (([1, 3, 900] : List Int).getD (((picks.getD 15 0) % 3)).toNat 0) ∧ ixOk picks.length (4 + (2 * k)) ∧ 16 < picks.length ∧ 0 < (([1, 4, 50] : List Int).getD (((picks.getD 16 0) % 3)).toNat 0) ∧ s.1.length < sizeLine ∧ ixOk picks.length (17 + k) ∧ 0 < (max 1 (pieces / 3)))) (fun (s : (List (Int × Int × Int)) × Int) (k : Int) =>
  (if ((decide (s.2 < pieces)) && (decide ((s.1.length : Int) < 20))) = true then (bnd ((s.2 + 1) + ((picks.getD ((17 + k)).toNat 0) % (max 1 (pieces / 3)))) fun (place2 : Int) =>
  ((s.1 ++ [(s.2, (1 + ((picks.getD ((3 + (2 * k))).toNat 0) % (([1, 3, 900] : List Int).getD (((picks.getD 15 0) % 3)).toNat 0))), ((picks.getD ((4 + (2 * k))).toNat 0) % (([1, 4, 50] : List Int).getD (((picks.getD 16 0) % 3)).toNat 0)))]), place2))
  else (s.1, s.2))) (rngI 0 (1 + ((picks.getD 2 0) % 6))) ([], place) ∧ (bnd ((rngI 0 (1 + ((picks.getD 2 0) % 6))).foldl (fun (s : (List (Int × Int × Int)) × Int) (k : Int) =>
  (if ((decide (s.2 < pieces)) && (decide ((s.1.length : Int) < 20))) = true then (bnd ((s.2 + 1) + ((picks.getD ((17 + k)).toNat 0) % (max 1 (pieces / 3)))) fun (place2 : Int) =>
  ((s.1 ++ [(s.2, (1 + ((picks.getD ((3 + (2 * k))).toNat 0) % (([1, 3, 900] : List Int).getD (((picks.getD 15 0) % 3)).toNat 0))), ((picks.getD ((4 + (2 * k))).toNat 0) % (([1, 4, 50] : List Int).getD (((picks.getD 16 0) % 3)).toNat 0)))]), place2))
  else (s.1, s.2))) ([], place)) fun (s2 : (List (Int × Int × Int)) × Int) => r62 pieces ∧ (rngI 0 pieces).length ≤ sizeLine ∧ (∀ piece ∈ (rngI 0 pieces), ixOk picks.length (24 + (piece % 36)) ∧ 18 < picks.length ∧ 0 < (([2, 5, 40] : List Int).getD (((picks.getD 18 0) % 3)).toNat 0))))))
theorem T_law_loop (script : (List Int)) (at_ : Int) (most : Int) (h : S_law_loop script at_ most) : m_law_loop [(encL PyData.int) script, PyData.int at_, PyData.int most] = .ok ((enc3 PyData.int (encL (enc3 PyData.int PyData.int PyData.int)) (encL PyData.int)) (F_law_loop script at_ most)) :=
  t_fn (b := b_law_loop) (eτ := (enc3 PyData.int (encL (enc3 PyData.int PyData.int PyData.int)) (encL PyData.int))) rfl
  ((ts_p [vv (encL PyData.int) script, vv PyData.int at_, vv PyData.int most, none, none, none, none, none, none, none] rfl (ts_setG (QQ := QF (enc3 PyData.int (encL (enc3 PyData.int PyData.int PyData.int)) (encL PyData.int))) (eγ := (encL PyData.int)) (t_seq (t_cons (t_get rfl) (t_cons (t_get rfl) (t_cons t_c t_nil))) (T_law_draws _ _ _ h.1)) h.2 (fun picks hb1 =>
  (ts_p [vv (encL PyData.int) script, vv PyData.int at_, vv PyData.int most, vv (encL PyData.int) picks, none, none, none, none, none, none] rfl (ts_setG (QQ := QF (enc3 PyData.int (encL (enc3 PyData.int PyData.int PyData.int)) (encL PyData.int))) (eγ := PyData.int) (t_2 t_c (t_2 (t_2 (t_get rfl) t_c (f_idxK (d := 0) 0 rfl hb1.1)) (t_2 (t_get rfl) t_c f_sub) (f_mod hb1.2.1)) f_add) hb1.2.2 (fun pieces hb2 =>
  (ts_p [vv (encL PyData.int) script, vv PyData.int at_, vv PyData.int most, vv (encL PyData.int) picks, vv PyData.int pieces, none, none, none, none, none] rfl (ts_setO (t_coM0 (t_dsp t_nil (ln_r rfl))) (ts_p [vv (encL PyData.int) script, vv PyData.int at_, vv PyData.int most, vv (encL PyData.int) picks, vv PyData.int pieces, vo (enc3 PyData.int PyData.int PyData.int) [], none, none, none, none] rfl (ts_setG (QQ := QF (enc3 PyData.int (encL (enc3 PyData.int PyData.int PyData.int)) (encL PyData.int))) (eγ := PyData.int) (t_2 (t_2 (t_get rfl) t_c (f_idxK (d := 0) 1 rfl hb2.1)) (t_get rfl) (f_mod hb2.2.1)) hb2.2.2 (fun place hb3 =>
  (ts_p [vv (encL PyData.int) script, vv PyData.int at_, vv PyData.int most, vv (encL PyData.int) picks, vv PyData.int pieces, vo (enc3 PyData.int PyData.int PyData.int) [], vv PyData.int place, none, none, none] rfl (ts_forG (QQ := QF (enc3 PyData.int (encL (enc3 PyData.int PyData.int PyData.int)) (encL PyData.int))) (e := PyData.int) (xs := (rngI 0 (1 + ((picks.getD 2 0) % 6)))) (eτ := eE) (F := (fun (s : (List (Int × Int × Int)) × Int) (k : Int) =>
  (if ((decide (s.2 < pieces)) && (decide ((s.1.length : Int) < 20))) = true then (bnd ((s.2 + 1) + ((picks.getD ((17 + k)).toNat 0) % (max 1 (pieces / 3)))) fun (place2 : Int) =>
  ((s.1 ++ [(s.2, (1 + ((picks.getD ((3 + (2 * k))).toNat 0) % (([1, 3, 900] : List Int).getD (((picks.getD 15 0) % 3)).toNat 0))), ((picks.getD ((4 + (2 * k))).toNat 0) % (([1, 4, 50] : List Int).getD (((picks.getD 16 0) % 3)).toNat 0)))]), place2))
  else (s.1, s.2)))) (S := (fun (s : (List (Int × Int × Int)) × Int) (k : Int) => (((decide (s.2 < pieces)) && (decide ((s.1.length : Int) < 20))) = true → ixOk picks.length (3 + (2 * k)) ∧ 15 < picks.length ∧ 0 < (([1, 3, 900] : List Int).getD (((picks.getD 15 0) % 3)).toNat 0) ∧ ixOk picks.length (4 + (2 * k)) ∧ 16 < picks.length ∧ 0 < (([1, 4, 50] : List Int).getD (((picks.getD 16 0) % 3)).toNat 0) ∧ s.1.length < sizeLine ∧ ixOk picks.length (17 + k) ∧ 0 < (max 1 (pieces / 3))))) (E := fun (s : (List (Int × Int × Int)) × Int) => [vv (encL PyData.int) script, vv PyData.int at_, vv PyData.int most, vv (encL PyData.int) picks, vv PyData.int pieces, vo (enc3 PyData.int PyData.int PyData.int) s.1, vv PyData.int s.2, none, none, none]) (.is (.is (.is (.is (.is (.is (.is (.any (.is (.is .nil)))))))))) (t_wk (t_cons (t_2 t_c (t_2 (t_2 (t_get rfl) t_c (f_idxK (d := 0) 2 rfl hb3.1)) t_c (f_mod (by decide))) f_add) t_nil) (f_rng1 hb3.2.1)) hb3.2.2.1 (fun s k => tg_n) (fun s k hx5 hb4 =>
  (ts_p [vv (encL PyData.int) script, vv PyData.int at_, vv PyData.int most, vv (encL PyData.int) picks, vv PyData.int pieces, vo (enc3 PyData.int PyData.int PyData.int) s.1, vv PyData.int s.2, vv PyData.int k, none, none] rfl (ts_end (ts_if (QQ := fun z => QL _ eE (Stp.nx z)) (t_andB (t_B (t_2 (t_get rfl) (t_get rfl) f_lt)) fun hc6 => (t_B (t_2 (t_bor (tm_p [vv (encL PyData.int) script, vv PyData.int at_, vv PyData.int most, vv (encL PyData.int) picks, vv PyData.int pieces, vv (encL (enc3 PyData.int PyData.int PyData.int)) s.1, vv PyData.int s.2, vv PyData.int k, none, none] rfl (t_call (t_cons (t_get rfl) t_nil) f_lenL)) ((fun _ => rfl) _)) t_c f_lt))) (fun hc7 => (ts_as (ts_app (e := (enc3 PyData.int PyData.int PyData.int)) rfl (t_as (enc3 PyData.int PyData.int PyData.int) (s.2, (1 + ((picks.getD ((3 + (2 * k))).toNat 0) % (([1, 3, 900] : List Int).getD (((picks.getD 15 0) % 3)).toNat 0))), ((picks.getD ((4 + (2 * k))).toNat 0) % (([1, 4, 50] : List Int).getD (((picks.getD 16 0) % 3)).toNat 0))) (t_seq (t_cons (t_get rfl) (t_cons (t_2 t_c (t_2 (t_2 (t_get rfl) (t_2 t_c (t_2 t_c (t_get rfl) (f_mul (mulOk_l (by decide) (by decide)))) f_add) (f_idxL (d := 0) (hb4 hc7).1)) (t_2 (t_as (encL PyData.int) ([1, 3, 900] : List Int) (t_seq (t_cons t_c (t_cons t_c (t_cons t_c t_nil))) (mLst_ok rfl))) (t_2 (t_2 (t_get rfl) t_c (f_idxK (d := 0) 15 rfl (hb4 hc7).2.1)) t_c (f_mod (by decide))) (f_idxL (e := PyData.int) (xs := ([1, 3, 900] : List Int)) (d := 0) (ix_mod (n := 3) (by decide) (by decide)))) (f_mod (hb4 hc7).2.2.1)) f_add) (t_cons (t_2 (t_2 (t_get rfl) (t_2 t_c (t_2 t_c (t_get rfl) (f_mul (mulOk_l (by decide) (by decide)))) f_add) (f_idxL (d := 0) (hb4 hc7).2.2.2.1)) (t_2 (t_as (encL PyData.int) ([1, 4, 50] : List Int) (t_seq (t_cons t_c (t_cons t_c (t_cons t_c t_nil))) (mLst_ok rfl))) (t_2 (t_2 (t_get rfl) t_c (f_idxK (d := 0) 16 rfl (hb4 hc7).2.2.2.2.1)) t_c (f_mod (by decide))) (f_idxL (e := PyData.int) (xs := ([1, 4, 50] : List Int)) (d := 0) (ix_mod (n := 3) (by decide) (by decide)))) (f_mod (hb4 hc7).2.2.2.2.2.1)) t_nil))) (mTup_ok rfl))) (hb4 hc7).2.2.2.2.2.2.1 (ts_p [vv (encL PyData.int) script, vv PyData.int at_, vv PyData.int most, vv (encL PyData.int) picks, vv PyData.int pieces, vo (enc3 PyData.int PyData.int PyData.int) (s.1 ++ [(s.2, (1 + ((picks.getD ((3 + (2 * k))).toNat 0) % (([1, 3, 900] : List Int).getD (((picks.getD 15 0) % 3)).toNat 0))), ((picks.getD ((4 + (2 * k))).toNat 0) % (([1, 4, 50] : List Int).getD (((picks.getD 16 0) % 3)).toNat 0)))]), vv PyData.int s.2, vv PyData.int k, none, none] rfl (ts_setG (QQ := fun z => QL _ eE (Stp.nx z)) (eγ := PyData.int) (t_2 (t_2 (t_get rfl) t_c f_add) (t_2 (t_2 (t_get rfl) (t_2 t_c (t_get rfl) f_add) (f_idxL (d := 0) (hb4 hc7).2.2.2.2.2.2.2.1)) (t_call (t_cons t_c (t_cons (t_2 (t_get rfl) t_c (f_div (dvOk_s (by decide) (by decide)))) t_nil)) f_max2) (f_mod (hb4 hc7).2.2.2.2.2.2.2.2)) f_add) (show bnd _ (fun _ => True) from trivial) (fun place2 hb8 =>
  (ts_p [vv (encL PyData.int) script, vv PyData.int at_, vv PyData.int most, vv (encL PyData.int) picks, vv PyData.int pieces, vo (enc3 PyData.int PyData.int PyData.int) (s.1 ++ [(s.2, (1 + ((picks.getD ((3 + (2 * k))).toNat 0) % (([1, 3, 900] : List Int).getD (((picks.getD 15 0) % 3)).toNat 0))), ((picks.getD ((4 + (2 * k))).toNat 0) % (([1, 4, 50] : List Int).getD (((picks.getD 16 0) % 3)).toNat 0)))]), vv PyData.int place2, vv PyData.int k, none, none] rfl (ts_finL (.is (.is (.is (.is (.is (.is (.is (.any (.is (.is .nil))))))))))))))))))
  (fun hc7 => (ts_nx (ts_p [vv (encL PyData.int) script, vv PyData.int at_, vv PyData.int most, vv (encL PyData.int) picks, vv PyData.int pieces, vo (enc3 PyData.int PyData.int PyData.int) s.1, vv PyData.int s.2, vv PyData.int k, none, none] rfl (ts_finL (.is (.is (.is (.is (.is (.is (.is (.any (.is (.is .nil)))))))))))))))))) hb3.2.2.2 (fun s2 hb9 =>
  (ts_p [vv (encL PyData.int) script, vv PyData.int at_, vv PyData.int most, vv (encL PyData.int) picks, vv PyData.int pieces, vo (enc3 PyData.int PyData.int PyData.int) s2.1, vv PyData.int s2.2, none, none, none] rfl (ts_setLG (QQ := QF (enc3 PyData.int (encL (enc3 PyData.int PyData.int PyData.int)) (encL PyData.int))) (eγ := PyData.int) (t_lc (e := PyData.int) (xs := (rngI 0 pieces)) (e' := PyData.int) (t_wk (t_cons (t_get rfl) t_nil) (f_rng1 hb9.1)) hb9.2.1 (fun piece => tg_n) (fun piece hx10 => (tm_p [vv (encL PyData.int) script, vv PyData.int at_, vv PyData.int most, vv (encL PyData.int) picks, vv PyData.int pieces, vo (enc3 PyData.int PyData.int PyData.int) s2.1, vv PyData.int s2.2, none, none, vv PyData.int piece] rfl (t_B (t_2 (t_2 (t_2 (t_get rfl) (t_2 t_c (t_2 (t_get rfl) t_c (f_mod (by decide))) f_add) (f_idxL (d := 0) (hb9.2.2 piece hx10).1)) (t_2 (t_as (encL PyData.int) ([2, 5, 40] : List Int) (t_seq (t_cons t_c (t_cons t_c (t_cons t_c t_nil))) (mLst_ok rfl))) (t_2 (t_2 (t_get rfl) t_c (f_idxK (d := 0) 18 rfl (hb9.2.2 piece hx10).2.1)) t_c (f_mod (by decide))) (f_idxL (e := PyData.int) (xs := ([2, 5, 40] : List Int)) (d := 0) (ix_mod (n := 3) (by decide) (by decide)))) (f_mod (hb9.2.2 piece hx10).2.2)) t_c (f_eq eqe_I))))) (fun piece hx10 hc11 => (tm_p [vv (encL PyData.int) script, vv PyData.int at_, vv PyData.int most, vv (encL PyData.int) picks, vv PyData.int pieces, vo (enc3 PyData.int PyData.int PyData.int) s2.1, vv PyData.int s2.2, none, none, vv PyData.int piece] rfl (t_get rfl)))) (show bnd _ (fun _ => True) from trivial) (fun grips hb12 =>
  (ts_p [vv (encL PyData.int) script, vv PyData.int at_, vv PyData.int most, vv (encL PyData.int) picks, vv PyData.int pieces, vo (enc3 PyData.int PyData.int PyData.int) s2.1, vv PyData.int s2.2, none, vv (encL PyData.int) grips, none] rfl (ts_end (ts_fz (ts_p [vv (encL PyData.int) script, vv PyData.int at_, vv PyData.int most, vv (encL PyData.int) picks, vv PyData.int pieces, vv (encL (enc3 PyData.int PyData.int PyData.int)) s2.1, vv PyData.int s2.2, none, vv (encL PyData.int) grips, none] rfl (ts_retF (t_as (enc3 PyData.int (encL (enc3 PyData.int PyData.int PyData.int)) (encL PyData.int)) (pieces, s2.1, grips) (t_seq (t_cons (t_get rfl) (t_cons (t_get rfl) (t_cons (t_get rfl) t_nil))) (mTup_ok rfl))))))))))))))))))))))))))
noncomputable def F_is_whole (value : Int) : Bool :=
  (true && (!false))
theorem T_is_whole (value : Int) : m_is_whole [PyData.int value] = .ok (PyData.bool (F_is_whole value)) :=
  t_fn (b := b_is_whole) (eτ := PyData.bool) rfl
  ((ts_p [vv PyData.int value] rfl (ts_end (ts_retF (t_and (t_is (t_get rfl) rfl) fun hc1 => (t_1 (t_is (t_get rfl) rfl) f_not))))))
noncomputable def F_is_wheel (pieces : Int) (wheel : (Int × Int × Int)) : Bool :=
  (if ((!true) || ((!decide (3 = 3)) || (!((([wheel.1, wheel.2.1, wheel.2.2] : List Int).map fun (number : Int) => (F_is_whole number)).all id)))) = true then false
  else (((decide (0 ≤ wheel.1)) && (decide (wheel.1 < pieces))) && ((decide (1 ≤ wheel.2.1)) && (decide (0 ≤ wheel.2.2)))))
theorem T_is_wheel (pieces : Int) (wheel : (Int × Int × Int)) : m_is_wheel [PyData.int pieces, (enc3 PyData.int PyData.int PyData.int) wheel] = .ok (PyData.bool (F_is_wheel pieces wheel)) :=
  t_fn (b := b_is_wheel) (eτ := PyData.bool) rfl
  ((ts_p [vv PyData.int pieces, vv (enc3 PyData.int PyData.int PyData.int) wheel, none, none, none, none] rfl (ts_if (QQ := QF PyData.bool) (t_orB (t_notB (t_T (t_is (t_get rfl) rfl) f_truB)) fun hc1 => (t_orB (t_B (t_2 (t_as PyData.int 3 (t_call (t_cons (t_get rfl) t_nil) rfl)) t_c (f_ne eqe_I))) fun hc2 => (t_notB (t_T (t_call (t_cons (t_L (t_lc0 (e := PyData.int) (xs := ([wheel.1, wheel.2.1, wheel.2.2] : List Int)) (e' := PyData.bool) (t_items (t_get rfl) rfl) (ln_r rfl) (fun number => tg_n) (fun number hx3 => (tm_p [vv PyData.int pieces, vv (enc3 PyData.int PyData.int PyData.int) wheel, vv PyData.int number, none, none, none] rfl (t_seq (t_cons (t_get rfl) t_nil) (T_is_whole _)))))) t_nil) f_all) f_truB)))) (fun hc4 => (ts_retF t_c))
  (fun hc4 => (ts_nx (ts_p [vv PyData.int pieces, vv (enc3 PyData.int PyData.int PyData.int) wheel, none, none, none, none] rfl (ts_asg (t_get rfl) (tg_t (tg_c tg_n (tg_c tg_n (tg_c tg_n tg_e))) rfl) (ts_p [vv PyData.int pieces, vv (enc3 PyData.int PyData.int PyData.int) wheel, none, vv PyData.int wheel.1, vv PyData.int wheel.2.1, vv PyData.int wheel.2.2] rfl (ts_end (ts_retF (t_and (t_chain t_c (t_get rfl) f_le (fun hc5 => (t_get rfl)) (fun hc5 => f_lt)) fun hc6 => (t_and (t_2 (t_get rfl) t_c f_ge) fun hc7 => (t_2 (t_get rfl) t_c f_ge)))))))))))))
noncomputable def F_rises (numbers : (List Int)) : Bool :=
  (((rngI 0 ((numbers.length : Int) - 1)).map fun (k : Int) => (decide ((numbers.getD (k).toNat 0) < (numbers.getD ((k + 1)).toNat 0)))).all id)
def S_rises (numbers : (List Int)) : Prop :=
  r62 ((numbers.length : Int) - 1) ∧ (rngI 0 ((numbers.length : Int) - 1)).length ≤ sizeLine ∧ (∀ k ∈ (rngI 0 ((numbers.length : Int) - 1)), ixOk numbers.length k ∧ ixOk numbers.length (k + 1))
theorem T_rises (numbers : (List Int)) (h : S_rises numbers) : m_rises [(encL PyData.int) numbers] = .ok (PyData.bool (F_rises numbers)) :=
  t_fn (b := b_rises) (eτ := PyData.bool) rfl
  ((ts_p [vv (encL PyData.int) numbers, none] rfl (ts_end (ts_retF (t_call (t_cons (t_L (t_lc0 (e := PyData.int) (xs := (rngI 0 ((numbers.length : Int) - 1))) (e' := PyData.bool) (t_wk (t_cons (t_2 (t_call (t_cons (t_get rfl) t_nil) f_lenL) t_c f_sub) t_nil) (f_rng1 h.1)) h.2.1 (fun k => tg_n) (fun k hx1 => (tm_p [vv (encL PyData.int) numbers, vv PyData.int k] rfl (t_2 (t_2 (t_get rfl) (t_get rfl) (f_idxL (d := 0) (h.2.2 k hx1).1)) (t_2 (t_get rfl) (t_2 (t_get rfl) t_c f_add) (f_idxL (d := 0) (h.2.2 k hx1).2)) f_lt))))) t_nil) f_all)))))
noncomputable def F_are_wheels (pieces : Int) (wheels : (List (Int × Int × Int))) : Bool :=
  (if ((!((decide (1 ≤ (wheels.length : Int))) && (decide ((wheels.length : Int) ≤ 20)))) || (!((wheels.map fun (wheel : (Int × Int × Int)) => (F_is_wheel pieces wheel)).all id))) = true then false
  else (F_rises (wheels.map fun (wheel2 : (Int × Int × Int)) => wheel2.1)))
def S_are_wheels (pieces : Int) (wheels : (List (Int × Int × Int))) : Prop :=
  ((!((decide (1 ≤ (wheels.length : Int))) && (decide ((wheels.length : Int) ≤ 20)))) = false → wheels.length ≤ sizeLine) ∧ (((!((decide (1 ≤ (wheels.length : Int))) && (decide ((wheels.length : Int) ≤ 20)))) || (!((wheels.map fun (wheel : (Int × Int × Int)) => (F_is_wheel pieces wheel)).all id))) = false → wheels.length ≤ sizeLine ∧ (S_rises (wheels.map fun (wheel2 : (Int × Int × Int)) => wheel2.1)))
theorem T_are_wheels (pieces : Int) (wheels : (List (Int × Int × Int))) (h : S_are_wheels pieces wheels) : m_are_wheels [PyData.int pieces, (encL (enc3 PyData.int PyData.int PyData.int)) wheels] = .ok (PyData.bool (F_are_wheels pieces wheels)) :=
  t_fn (b := b_are_wheels) (eτ := PyData.bool) rfl
  ((ts_p [vv PyData.int pieces, vv (encL (enc3 PyData.int PyData.int PyData.int)) wheels, none] rfl (ts_if (QQ := QF PyData.bool) (t_orB (t_notB (t_B (t_chain t_c (t_call (t_cons (t_get rfl) t_nil) f_lenL) f_le (fun hc1 => t_c) (fun hc1 => f_le)))) fun hc2 => (t_notB (t_T (t_call (t_cons (t_L (t_lc0 (e := (enc3 PyData.int PyData.int PyData.int)) (xs := wheels) (e' := PyData.bool) (t_items (t_get rfl) f_items) (h.1 hc2) (fun wheel => tg_n) (fun wheel hx3 => (tm_p [vv PyData.int pieces, vv (encL (enc3 PyData.int PyData.int PyData.int)) wheels, vv (enc3 PyData.int PyData.int PyData.int) wheel] rfl (t_seq (t_cons (t_get rfl) (t_cons (t_get rfl) t_nil)) (T_is_wheel _ _)))))) t_nil) f_all) f_truB))) (fun hc4 => (ts_retF t_c))
  (fun hc4 => (ts_nx (ts_p [vv PyData.int pieces, vv (encL (enc3 PyData.int PyData.int PyData.int)) wheels, none] rfl (ts_end (ts_retF (t_seq (t_cons (t_L (t_lc0 (e := (enc3 PyData.int PyData.int PyData.int)) (xs := wheels) (e' := PyData.int) (t_items (t_get rfl) f_items) (h.2 hc4).1 (fun wheel2 => tg_n) (fun wheel2 hx5 => (tm_p [vv PyData.int pieces, vv (encL (enc3 PyData.int PyData.int PyData.int)) wheels, vv (enc3 PyData.int PyData.int PyData.int) wheel2] rfl (t_2 (t_get rfl) t_c (f_i0 _ _)))))) t_nil) (T_rises _ (h.2 hc4).2))))))))))
noncomputable def F_is_index (value : Int) (count : Int) : Bool :=
  ((F_is_whole value) && ((decide (0 ≤ value)) && (decide (value < count))))
theorem T_is_index (value : Int) (count : Int) : m_is_index [PyData.int value, PyData.int count] = .ok (PyData.bool (F_is_index value count)) :=
  t_fn (b := b_is_index) (eτ := PyData.bool) rfl
  ((ts_p [vv PyData.int value, vv PyData.int count] rfl (ts_end (ts_retF (t_and (t_seq (t_cons (t_get rfl) t_nil) (T_is_whole _)) fun hc1 => (t_chain t_c (t_get rfl) f_le (fun hc2 => (t_get rfl)) (fun hc2 => f_lt)))))))
noncomputable def F_are_indexes (values : (List Int)) (count : Int) : Bool :=
  (((values.map fun (value : Int) => (F_is_index value count)).all id) && (F_rises values))
def S_are_indexes (values : (List Int)) (count : Int) : Prop :=
  values.length ≤ sizeLine ∧ (((values.map fun (value : Int) => (F_is_index value count)).all id) = true → S_rises values)
theorem T_are_indexes (values : (List Int)) (count : Int) (h : S_are_indexes values count) : m_are_indexes [(encL PyData.int) values, PyData.int count] = .ok (PyData.bool (F_are_indexes values count)) :=
  t_fn (b := b_are_indexes) (eτ := PyData.bool) rfl
  ((ts_p [vv (encL PyData.int) values, vv PyData.int count, none] rfl (ts_end (ts_retF (t_and (t_call (t_cons (t_L (t_lc0 (e := PyData.int) (xs := values) (e' := PyData.bool) (t_items (t_get rfl) f_items) h.1 (fun value => tg_n) (fun value hx1 => (tm_p [vv (encL PyData.int) values, vv PyData.int count, vv PyData.int value] rfl (t_seq (t_cons (t_get rfl) (t_cons (t_get rfl) t_nil)) (T_is_index _ _)))))) t_nil) f_all) fun hc2 => (t_seq (t_cons (t_get rfl) t_nil) (T_rises _ (h.2 hc2))))))))
noncomputable def F_check_loop (loop : (Int × (List (Int × Int × Int)) × (List Int))) : Ex Unit :=
  (if ((!(F_is_whole loop.1)) || (!((decide (2 ≤ loop.1)) && (decide (loop.1 ≤ 500))))) = true then (Ex.exc "InvalidLoop")
  else (if (!(F_are_wheels loop.1 loop.2.1)) = true then (Ex.exc "InvalidLoop")
  else (if (!(F_are_indexes loop.2.2 loop.1)) = true then (Ex.exc "InvalidLoop")
  else (Ex.ok ()))))
def S_check_loop (loop : (Int × (List (Int × Int × Int)) × (List Int))) : Prop :=
  (((!(F_is_whole loop.1)) || (!((decide (2 ≤ loop.1)) && (decide (loop.1 ≤ 500))))) = false → S_are_wheels loop.1 loop.2.1 ∧ ((!(F_are_wheels loop.1 loop.2.1)) = false → S_are_indexes loop.2.2 loop.1))
theorem T_check_loop (loop : (Int × (List (Int × Int × Int)) × (List Int))) (h : S_check_loop loop) : m_check_loop [(enc3 PyData.int (encL (enc3 PyData.int PyData.int PyData.int)) (encL PyData.int)) loop] = (F_check_loop loop).re eN :=
  t_fnx (b := b_check_loop) (eτ := eN) rfl
  ((ts_p [vv (enc3 PyData.int (encL (enc3 PyData.int PyData.int PyData.int)) (encL PyData.int)) loop, none, none, none] rfl (ts_asg (t_get rfl) (tg_t (tg_c tg_n (tg_c tg_n (tg_c tg_n tg_e))) rfl) (ts_p [vv (enc3 PyData.int (encL (enc3 PyData.int PyData.int PyData.int)) (encL PyData.int)) loop, vv PyData.int loop.1, vv (encL (enc3 PyData.int PyData.int PyData.int)) loop.2.1, vv (encL PyData.int) loop.2.2] rfl (ts_if (QQ := QFx eN) (t_orB (t_notB (t_T (t_seq (t_cons (t_get rfl) t_nil) (T_is_whole _)) f_truB)) fun hc1 => (t_notB (t_B (t_chain t_c (t_get rfl) f_le (fun hc2 => t_c) (fun hc2 => f_le))))) (fun hc3 => (ts_raisex (eτ := eN) (X0 := [none, none, none, none]) (v := ()) (.any (.any (.any (.any .nil)))) (fun _ h => kFx h)))
  (fun hc3 => (ts_nx (ts_p [vv (enc3 PyData.int (encL (enc3 PyData.int PyData.int PyData.int)) (encL PyData.int)) loop, vv PyData.int loop.1, vv (encL (enc3 PyData.int PyData.int PyData.int)) loop.2.1, vv (encL PyData.int) loop.2.2] rfl (ts_if (QQ := QFx eN) (t_notB (t_T (t_seq (t_cons (t_get rfl) (t_cons (t_get rfl) t_nil)) (T_are_wheels _ _ (h hc3).1)) f_truB)) (fun hc4 => (ts_raisex (eτ := eN) (X0 := [none, none, none, none]) (v := ()) (.any (.any (.any (.any .nil)))) (fun _ h => kFx h)))
  (fun hc4 => (ts_nx (ts_p [vv (enc3 PyData.int (encL (enc3 PyData.int PyData.int PyData.int)) (encL PyData.int)) loop, vv PyData.int loop.1, vv (encL (enc3 PyData.int PyData.int PyData.int)) loop.2.1, vv (encL PyData.int) loop.2.2] rfl (ts_end (ts_if (QQ := QFx eN) (t_notB (t_T (t_seq (t_cons (t_get rfl) (t_cons (t_get rfl) t_nil)) (T_are_indexes _ _ ((h hc3).2 hc4))) f_truB)) (fun hc5 => (ts_raisex (eτ := eN) (X0 := [none, none, none, none]) (v := ()) (.any (.any (.any (.any .nil)))) (fun _ h => kFx h)))
  (fun hc5 => (ts_nx (ts_p [vv (enc3 PyData.int (encL (enc3 PyData.int PyData.int PyData.int)) (encL PyData.int)) loop, vv PyData.int loop.1, vv (encL (enc3 PyData.int PyData.int PyData.int)) loop.2.1, vv (encL PyData.int) loop.2.2] rfl (ts_finFx rfl))))))))))))))))))
noncomputable def F_law_walked (loop : (Int × (List (Int × Int × Int)) × (List Int))) (beats : Int) : (List Int) :=
  (bnd (loop.2.1.foldl (fun (bends : (List (Int × (Int × Int)))) (place_bend_more : (Int × Int × Int)) =>
  (putT bends place_bend_more.1 (place_bend_more.2.1, (place_bend_more.2.1 + place_bend_more.2.2)))) []) fun (bends2 : (List (Int × (Int × Int)))) =>
  (bnd ((rngI 0 loop.1).map fun (piece : Int) => (0 : Int)) fun (found : (List Int)) =>
  (bnd ((rngI 1 (beats + 1)).foldl (fun (found2 : (List Int)) (beat : Int) =>
  (bnd ((rngI 0 loop.1).foldl (fun (found3 : (List Int)) (piece2 : Int) =>
  (bnd ((piece2 + beat) % loop.1) fun (place : Int) =>
  (if (valT bends2 place).isSome = true then (bnd (found3.set (piece2).toNat ((found3.getD (piece2).toNat 0) + (([((valT bends2 place).getD (0, 0)).1, ((valT bends2 place).getD (0, 0)).2] : List Int).getD ((if (decide (piece2 ∈ loop.2.2)) = true then (1 : Int) else 0)).toNat 0))) fun (found4 : (List Int)) =>
  found4)
  else found3))) found2) fun (found32 : (List Int)) =>
  found32)) found) fun (found22 : (List Int)) =>
  found22)))
def S_law_walked (loop : (Int × (List (Int × Int × Int)) × (List Int))) (beats : Int) : Prop :=
  LpS (fun (bends : (List (Int × (Int × Int)))) (place_bend_more : (Int × Int × Int)) => bends.length < sizeLine) (fun (bends : (List (Int × (Int × Int)))) (place_bend_more : (Int × Int × Int)) =>
  (putT bends place_bend_more.1 (place_bend_more.2.1, (place_bend_more.2.1 + place_bend_more.2.2)))) loop.2.1 [] ∧ (bnd (loop.2.1.foldl (fun (bends : (List (Int × (Int × Int)))) (place_bend_more : (Int × Int × Int)) =>
  (putT bends place_bend_more.1 (place_bend_more.2.1, (place_bend_more.2.1 + place_bend_more.2.2)))) []) fun (bends2 : (List (Int × (Int × Int)))) => r62 loop.1 ∧ (rngI 0 loop.1).length ≤ sizeLine ∧ (bnd ((rngI 0 loop.1).map fun (piece : Int) => (0 : Int)) fun (found : (List Int)) => r62 (beats + 1) ∧ LpS (fun (found2 : (List Int)) (beat : Int) => LpS (fun (found3 : (List Int)) (piece2 : Int) => 0 < loop.1 ∧ (bnd ((piece2 + beat) % loop.1) fun (place : Int) => ((valT bends2 place).isSome = true → ixOk found3.length piece2 ∧ (valT bends2 place).isSome = true ∧ ixOk 2 (if (decide (piece2 ∈ loop.2.2)) = true then (1 : Int) else 0)))) (fun (found3 : (List Int)) (piece2 : Int) =>
  (bnd ((piece2 + beat) % loop.1) fun (place : Int) =>
  (if (valT bends2 place).isSome = true then (bnd (found3.set (piece2).toNat ((found3.getD (piece2).toNat 0) + (([((valT bends2 place).getD (0, 0)).1, ((valT bends2 place).getD (0, 0)).2] : List Int).getD ((if (decide (piece2 ∈ loop.2.2)) = true then (1 : Int) else 0)).toNat 0))) fun (found4 : (List Int)) =>
  found4)
  else found3))) (rngI 0 loop.1) found2) (fun (found2 : (List Int)) (beat : Int) =>
  (bnd ((rngI 0 loop.1).foldl (fun (found3 : (List Int)) (piece2 : Int) =>
  (bnd ((piece2 + beat) % loop.1) fun (place : Int) =>
  (if (valT bends2 place).isSome = true then (bnd (found3.set (piece2).toNat ((found3.getD (piece2).toNat 0) + (([((valT bends2 place).getD (0, 0)).1, ((valT bends2 place).getD (0, 0)).2] : List Int).getD ((if (decide (piece2 ∈ loop.2.2)) = true then (1 : Int) else 0)).toNat 0))) fun (found4 : (List Int)) =>
  found4)
  else found3))) found2) fun (found32 : (List Int)) =>
  found32)) (rngI 1 (beats + 1)) found))
theorem T_law_walked (loop : (Int × (List (Int × Int × Int)) × (List Int))) (beats : Int) (h : S_law_walked loop beats) : m_law_walked [(enc3 PyData.int (encL (enc3 PyData.int PyData.int PyData.int)) (encL PyData.int)) loop, PyData.int beats] = .ok ((encL PyData.int) (F_law_walked loop beats)) :=
  t_fn (b := b_law_walked) (eτ := (encL PyData.int)) rfl
  ((ts_p [vv (enc3 PyData.int (encL (enc3 PyData.int PyData.int PyData.int)) (encL PyData.int)) loop, vv PyData.int beats, none, none, none, none, none, none, none, none, none, none] rfl (ts_asg (t_get rfl) (tg_t (tg_c tg_n (tg_c tg_n (tg_c tg_n tg_e))) rfl) (ts_p [vv (enc3 PyData.int (encL (enc3 PyData.int PyData.int PyData.int)) (encL PyData.int)) loop, vv PyData.int beats, vv PyData.int loop.1, vv (encL (enc3 PyData.int PyData.int PyData.int)) loop.2.1, vv (encL PyData.int) loop.2.2, none, none, none, none, none, none, none] rfl (ts_dNew (κ := Int) (α := (Int × Int)) kI (enc2 PyData.int PyData.int) (ts_p [vv (enc3 PyData.int (encL (enc3 PyData.int PyData.int PyData.int)) (encL PyData.int)) loop, vv PyData.int beats, vv PyData.int loop.1, vv (encL (enc3 PyData.int PyData.int PyData.int)) loop.2.1, vv (encL PyData.int) loop.2.2, vd kI (enc2 PyData.int PyData.int) [], none, none, none, none, none, none] rfl (ts_forG (QQ := QF (encL PyData.int)) (e := (enc3 PyData.int PyData.int PyData.int)) (xs := loop.2.1) (eτ := eE) (F := (fun (bends : (List (Int × (Int × Int)))) (place_bend_more : (Int × Int × Int)) =>
  (putT bends place_bend_more.1 (place_bend_more.2.1, (place_bend_more.2.1 + place_bend_more.2.2))))) (S := (fun (bends : (List (Int × (Int × Int)))) (place_bend_more : (Int × Int × Int)) => bends.length < sizeLine)) (E := fun (bends : (List (Int × (Int × Int)))) => [vv (enc3 PyData.int (encL (enc3 PyData.int PyData.int PyData.int)) (encL PyData.int)) loop, vv PyData.int beats, vv PyData.int loop.1, vv (encL (enc3 PyData.int PyData.int PyData.int)) loop.2.1, vv (encL PyData.int) loop.2.2, vd kI (enc2 PyData.int PyData.int) bends, none, none, none, none, none, none]) (.is (.is (.is (.is (.is (.is (.any (.any (.any (.is (.is (.is .nil)))))))))))) (t_items (t_get rfl) f_items) h.1 (fun bends place_bend_more => (tg_t (tg_c tg_n (tg_c tg_n (tg_c tg_n tg_e))) rfl)) (fun bends place_bend_more hx2 hb1 =>
  (ts_p [vv (enc3 PyData.int (encL (enc3 PyData.int PyData.int PyData.int)) (encL PyData.int)) loop, vv PyData.int beats, vv PyData.int loop.1, vv (encL (enc3 PyData.int PyData.int PyData.int)) loop.2.1, vv (encL PyData.int) loop.2.2, vd kI (enc2 PyData.int PyData.int) bends, vv PyData.int place_bend_more.1, vv PyData.int place_bend_more.2.1, vv PyData.int place_bend_more.2.2, none, none, none] rfl (ts_end (ts_dPut (e := (enc2 PyData.int PyData.int)) (es := bends) dkI rfl (t_get rfl) (t_as (enc2 PyData.int PyData.int) (place_bend_more.2.1, (place_bend_more.2.1 + place_bend_more.2.2)) (t_seq (t_cons (t_get rfl) (t_cons (t_2 (t_get rfl) (t_get rfl) f_add) t_nil)) (mTup_ok rfl))) hb1 (ts_p [vv (enc3 PyData.int (encL (enc3 PyData.int PyData.int PyData.int)) (encL PyData.int)) loop, vv PyData.int beats, vv PyData.int loop.1, vv (encL (enc3 PyData.int PyData.int PyData.int)) loop.2.1, vv (encL PyData.int) loop.2.2, vd kI (enc2 PyData.int PyData.int) (putT bends place_bend_more.1 (place_bend_more.2.1, (place_bend_more.2.1 + place_bend_more.2.2))), vv PyData.int place_bend_more.1, vv PyData.int place_bend_more.2.1, vv PyData.int place_bend_more.2.2, none, none, none] rfl (ts_finL (.is (.is (.is (.is (.is (.is (.any (.any (.any (.is (.is (.is .nil)))))))))))))))))) h.2 (fun bends2 hb3 =>
  (ts_p [vv (enc3 PyData.int (encL (enc3 PyData.int PyData.int PyData.int)) (encL PyData.int)) loop, vv PyData.int beats, vv PyData.int loop.1, vv (encL (enc3 PyData.int PyData.int PyData.int)) loop.2.1, vv (encL PyData.int) loop.2.2, vd kI (enc2 PyData.int PyData.int) bends2, none, none, none, none, none, none] rfl (ts_setOG (QQ := QF (encL PyData.int)) (eγ := PyData.int) (t_lc0 (e := PyData.int) (xs := (rngI 0 loop.1)) (e' := PyData.int) (t_wk (t_cons (t_get rfl) t_nil) (f_rng1 hb3.1)) hb3.2.1 (fun piece => tg_n) (fun piece hx4 => (tm_p [vv (enc3 PyData.int (encL (enc3 PyData.int PyData.int PyData.int)) (encL PyData.int)) loop, vv PyData.int beats, vv PyData.int loop.1, vv (encL (enc3 PyData.int PyData.int PyData.int)) loop.2.1, vv (encL PyData.int) loop.2.2, vd kI (enc2 PyData.int PyData.int) bends2, none, none, none, none, vv PyData.int piece, none] rfl t_c))) hb3.2.2 (fun found hb5 =>
  (ts_p [vv (enc3 PyData.int (encL (enc3 PyData.int PyData.int PyData.int)) (encL PyData.int)) loop, vv PyData.int beats, vv PyData.int loop.1, vv (encL (enc3 PyData.int PyData.int PyData.int)) loop.2.1, vv (encL PyData.int) loop.2.2, vd kI (enc2 PyData.int PyData.int) bends2, none, none, none, vo PyData.int found, none, none] rfl (ts_forG (QQ := QF (encL PyData.int)) (e := PyData.int) (xs := (rngI 1 (beats + 1))) (eτ := eE) (F := (fun (found2 : (List Int)) (beat : Int) =>
  (bnd ((rngI 0 loop.1).foldl (fun (found3 : (List Int)) (piece2 : Int) =>
  (bnd ((piece2 + beat) % loop.1) fun (place : Int) =>
  (if (valT bends2 place).isSome = true then (bnd (found3.set (piece2).toNat ((found3.getD (piece2).toNat 0) + (([((valT bends2 place).getD (0, 0)).1, ((valT bends2 place).getD (0, 0)).2] : List Int).getD ((if (decide (piece2 ∈ loop.2.2)) = true then (1 : Int) else 0)).toNat 0))) fun (found4 : (List Int)) =>
  found4)
  else found3))) found2) fun (found32 : (List Int)) =>
  found32))) (S := (fun (found2 : (List Int)) (beat : Int) => LpS (fun (found3 : (List Int)) (piece2 : Int) => 0 < loop.1 ∧ (bnd ((piece2 + beat) % loop.1) fun (place : Int) => ((valT bends2 place).isSome = true → ixOk found3.length piece2 ∧ (valT bends2 place).isSome = true ∧ ixOk 2 (if (decide (piece2 ∈ loop.2.2)) = true then (1 : Int) else 0)))) (fun (found3 : (List Int)) (piece2 : Int) =>
  (bnd ((piece2 + beat) % loop.1) fun (place : Int) =>
  (if (valT bends2 place).isSome = true then (bnd (found3.set (piece2).toNat ((found3.getD (piece2).toNat 0) + (([((valT bends2 place).getD (0, 0)).1, ((valT bends2 place).getD (0, 0)).2] : List Int).getD ((if (decide (piece2 ∈ loop.2.2)) = true then (1 : Int) else 0)).toNat 0))) fun (found4 : (List Int)) =>
  found4)
  else found3))) (rngI 0 loop.1) found2)) (E := fun (found2 : (List Int)) => [vv (enc3 PyData.int (encL (enc3 PyData.int PyData.int PyData.int)) (encL PyData.int)) loop, vv PyData.int beats, vv PyData.int loop.1, vv (encL (enc3 PyData.int PyData.int PyData.int)) loop.2.1, vv (encL PyData.int) loop.2.2, vd kI (enc2 PyData.int PyData.int) bends2, none, none, none, vo PyData.int found2, none, none]) (.is (.is (.is (.is (.is (.is (.any (.is (.is (.is (.any (.any .nil)))))))))))) (t_wk (t_cons t_c (t_cons (t_2 (t_get rfl) t_c f_add) t_nil)) (f_rng2 (by decide) hb5.1)) hb5.2 (fun found2 beat => tg_n) (fun found2 beat hx7 hb6 =>
  (ts_p [vv (enc3 PyData.int (encL (enc3 PyData.int PyData.int PyData.int)) (encL PyData.int)) loop, vv PyData.int beats, vv PyData.int loop.1, vv (encL (enc3 PyData.int PyData.int PyData.int)) loop.2.1, vv (encL PyData.int) loop.2.2, vd kI (enc2 PyData.int PyData.int) bends2, none, none, none, vo PyData.int found2, none, vv PyData.int beat] rfl (ts_end (ts_forG (QQ := fun z => QL _ eE (Stp.nx z)) (e := PyData.int) (xs := (rngI 0 loop.1)) (eτ := eE) (F := (fun (found3 : (List Int)) (piece2 : Int) =>
  (bnd ((piece2 + beat) % loop.1) fun (place : Int) =>
  (if (valT bends2 place).isSome = true then (bnd (found3.set (piece2).toNat ((found3.getD (piece2).toNat 0) + (([((valT bends2 place).getD (0, 0)).1, ((valT bends2 place).getD (0, 0)).2] : List Int).getD ((if (decide (piece2 ∈ loop.2.2)) = true then (1 : Int) else 0)).toNat 0))) fun (found4 : (List Int)) =>
  found4)
  else found3)))) (S := (fun (found3 : (List Int)) (piece2 : Int) => 0 < loop.1 ∧ (bnd ((piece2 + beat) % loop.1) fun (place : Int) => ((valT bends2 place).isSome = true → ixOk found3.length piece2 ∧ (valT bends2 place).isSome = true ∧ ixOk 2 (if (decide (piece2 ∈ loop.2.2)) = true then (1 : Int) else 0))))) (E := fun (found3 : (List Int)) => [vv (enc3 PyData.int (encL (enc3 PyData.int PyData.int PyData.int)) (encL PyData.int)) loop, vv PyData.int beats, vv PyData.int loop.1, vv (encL (enc3 PyData.int PyData.int PyData.int)) loop.2.1, vv (encL PyData.int) loop.2.2, vd kI (enc2 PyData.int PyData.int) bends2, none, none, none, vo PyData.int found3, none, vv PyData.int beat]) (.is (.is (.is (.is (.is (.is (.any (.is (.is (.is (.any (.is .nil)))))))))))) (t_wk (t_cons (t_get rfl) t_nil) (f_rng1 hb3.1)) hb6 (fun found3 piece2 => tg_n) (fun found3 piece2 hx9 hb8 =>
  (ts_p [vv (enc3 PyData.int (encL (enc3 PyData.int PyData.int PyData.int)) (encL PyData.int)) loop, vv PyData.int beats, vv PyData.int loop.1, vv (encL (enc3 PyData.int PyData.int PyData.int)) loop.2.1, vv (encL PyData.int) loop.2.2, vd kI (enc2 PyData.int PyData.int) bends2, none, none, none, vo PyData.int found3, vv PyData.int piece2, vv PyData.int beat] rfl (ts_setG (QQ := fun z => QL _ eE (Stp.nx z)) (eγ := PyData.int) (t_2 (t_call (t_cons (t_2 (t_get rfl) (t_get rfl) f_add) t_nil) f_intI) (t_get rfl) (f_mod hb8.1)) hb8.2 (fun place hb10 =>
  (ts_p [vv (enc3 PyData.int (encL (enc3 PyData.int PyData.int PyData.int)) (encL PyData.int)) loop, vv PyData.int beats, vv PyData.int loop.1, vv (encL (enc3 PyData.int PyData.int PyData.int)) loop.2.1, vv (encL PyData.int) loop.2.2, vd kI (enc2 PyData.int PyData.int) bends2, vv PyData.int place, none, none, vo PyData.int found3, vv PyData.int piece2, vv PyData.int beat] rfl (ts_end (ts_if (QQ := fun z => QL _ eE (Stp.nx z)) (t_B (t_dIn (e := (enc2 PyData.int PyData.int)) (es := bends2) dkI rfl (t_get rfl))) (fun hc11 => (ts_setIxG (QQ := fun z => QL _ eE (Stp.nx z)) (eγ := PyData.int) rfl (t_get rfl) (t_2 (t_ixO rfl (t_get rfl) (f_idxL (d := 0) (hb10 hc11).1)) (t_2 (t_dGet (e := (enc2 PyData.int PyData.int)) (es := bends2) (0, 0) dkI rfl (t_get rfl) (hb10 hc11).2.1) (t_call (t_cons (t_2 (t_get rfl) (t_get rfl) (f_in eqe_I)) t_nil) f_intB) (f_idxU (e := PyData.int) (xs := ([((valT bends2 place).getD (0, 0)).1, ((valT bends2 place).getD (0, 0)).2] : List Int)) (d := 0) (hb10 hc11).2.2)) f_add) (hb10 hc11).1 (show bnd _ (fun _ => True) from trivial) (fun found4 hb12 =>
  (ts_p [vv (enc3 PyData.int (encL (enc3 PyData.int PyData.int PyData.int)) (encL PyData.int)) loop, vv PyData.int beats, vv PyData.int loop.1, vv (encL (enc3 PyData.int PyData.int PyData.int)) loop.2.1, vv (encL PyData.int) loop.2.2, vd kI (enc2 PyData.int PyData.int) bends2, vv PyData.int place, none, none, vo PyData.int found4, vv PyData.int piece2, vv PyData.int beat] rfl (ts_finL (.is (.is (.is (.is (.is (.is (.any (.is (.is (.is (.any (.is .nil)))))))))))))))))
  (fun hc11 => (ts_nx (ts_p [vv (enc3 PyData.int (encL (enc3 PyData.int PyData.int PyData.int)) (encL PyData.int)) loop, vv PyData.int beats, vv PyData.int loop.1, vv (encL (enc3 PyData.int PyData.int PyData.int)) loop.2.1, vv (encL PyData.int) loop.2.2, vd kI (enc2 PyData.int PyData.int) bends2, vv PyData.int place, none, none, vo PyData.int found3, vv PyData.int piece2, vv PyData.int beat] rfl (ts_finL (.is (.is (.is (.is (.is (.is (.any (.is (.is (.is (.any (.is .nil))))))))))))))))))))))) (show bnd _ (fun _ => True) from trivial) (fun found32 hb13 =>
  (ts_p [vv (enc3 PyData.int (encL (enc3 PyData.int PyData.int PyData.int)) (encL PyData.int)) loop, vv PyData.int beats, vv PyData.int loop.1, vv (encL (enc3 PyData.int PyData.int PyData.int)) loop.2.1, vv (encL PyData.int) loop.2.2, vd kI (enc2 PyData.int PyData.int) bends2, none, none, none, vo PyData.int found32, none, vv PyData.int beat] rfl (ts_finL (.is (.is (.is (.is (.is (.is (.any (.is (.is (.is (.any (.any .nil))))))))))))))))))) (show bnd _ (fun _ => True) from trivial) (fun found22 hb14 =>
  (ts_p [vv (enc3 PyData.int (encL (enc3 PyData.int PyData.int PyData.int)) (encL PyData.int)) loop, vv PyData.int beats, vv PyData.int loop.1, vv (encL (enc3 PyData.int PyData.int PyData.int)) loop.2.1, vv (encL PyData.int) loop.2.2, vd kI (enc2 PyData.int PyData.int) bends2, none, none, none, vo PyData.int found22, none, none] rfl (ts_end (ts_fz (ts_p [vv (enc3 PyData.int (encL (enc3 PyData.int PyData.int PyData.int)) (encL PyData.int)) loop, vv PyData.int beats, vv PyData.int loop.1, vv (encL (enc3 PyData.int PyData.int PyData.int)) loop.2.1, vv (encL PyData.int) loop.2.2, vd kI (enc2 PyData.int PyData.int) bends2, none, none, none, vv (encL PyData.int) found22, none, none] rfl (ts_retF (t_get rfl))))))))))))))))))))
noncomputable def F_bends_at (loop : (Int × (List (Int × Int × Int)) × (List Int))) (wheel : (Int × Int × Int)) (piece : Int) : Int :=
  (if (decide (piece ∈ loop.2.2)) = true then (wheel.2.1 + wheel.2.2)
  else wheel.2.1)
theorem T_bends_at (loop : (Int × (List (Int × Int × Int)) × (List Int))) (wheel : (Int × Int × Int)) (piece : Int) : m_bends_at [(enc3 PyData.int (encL (enc3 PyData.int PyData.int PyData.int)) (encL PyData.int)) loop, (enc3 PyData.int PyData.int PyData.int) wheel, PyData.int piece] = .ok (PyData.int (F_bends_at loop wheel piece)) :=
  t_fn (b := b_bends_at) (eτ := PyData.int) rfl
  ((ts_p [vv (enc3 PyData.int (encL (enc3 PyData.int PyData.int PyData.int)) (encL PyData.int)) loop, vv (enc3 PyData.int PyData.int PyData.int) wheel, vv PyData.int piece, none, none, none] rfl (ts_asg (t_get rfl) (tg_t (tg_c tg_n (tg_c tg_n (tg_c tg_n tg_e))) rfl) (ts_p [vv (enc3 PyData.int (encL (enc3 PyData.int PyData.int PyData.int)) (encL PyData.int)) loop, vv (enc3 PyData.int PyData.int PyData.int) wheel, vv PyData.int piece, vv PyData.int wheel.1, vv PyData.int wheel.2.1, vv PyData.int wheel.2.2] rfl (ts_if (QQ := QF PyData.int) (t_B (t_2 (t_get rfl) (t_2 (t_get rfl) t_c (f_i2 _ _ _ _)) (f_in eqe_I))) (fun hc1 => (ts_retF (t_2 (t_get rfl) (t_get rfl) f_add)))
  (fun hc1 => (ts_nx (ts_p [vv (enc3 PyData.int (encL (enc3 PyData.int PyData.int PyData.int)) (encL PyData.int)) loop, vv (enc3 PyData.int PyData.int PyData.int) wheel, vv PyData.int piece, vv PyData.int wheel.1, vv PyData.int wheel.2.1, vv PyData.int wheel.2.2] rfl (ts_end (ts_retF (t_get rfl)))))))))))
noncomputable def F_comings (pieces : Int) (piece : Int) (place : Int) (beats : Int) : Int :=
  ((((piece + beats) - place) / pieces) - ((piece - place) / pieces))
def S_comings (pieces : Int) (piece : Int) (place : Int) (beats : Int) : Prop :=
  dvOk pieces
theorem T_comings (pieces : Int) (piece : Int) (place : Int) (beats : Int) (h : S_comings pieces piece place beats) : m_comings [PyData.int pieces, PyData.int piece, PyData.int place, PyData.int beats] = .ok (PyData.int (F_comings pieces piece place beats)) :=
  t_fn (b := b_comings) (eτ := PyData.int) rfl
  ((ts_p [vv PyData.int pieces, vv PyData.int piece, vv PyData.int place, vv PyData.int beats] rfl (ts_end (ts_retF (t_2 (t_2 (t_2 (t_2 (t_get rfl) (t_get rfl) f_add) (t_get rfl) f_sub) (t_get rfl) (f_div h)) (t_2 (t_2 (t_get rfl) (t_get rfl) f_sub) (t_get rfl) (f_div h)) f_sub)))))
noncomputable def F_wear (loop : (Int × (List (Int × Int × Int)) × (List Int))) (piece : Int) (beats : Int) : Int :=
  (bnd (loop.2.1.map fun (wheel : (Int × Int × Int)) => ((F_bends_at loop wheel piece) * (F_comings loop.1 piece wheel.1 beats))) fun (some_ : (List Int)) =>
  some_.sum)
def S_wear (loop : (Int × (List (Int × Int × Int)) × (List Int))) (piece : Int) (beats : Int) : Prop :=
  loop.2.1.length ≤ sizeLine ∧ (∀ wheel ∈ loop.2.1, S_comings loop.1 piece wheel.1 beats ∧ mulOk (F_bends_at loop wheel piece) (F_comings loop.1 piece wheel.1 beats))
theorem T_wear (loop : (Int × (List (Int × Int × Int)) × (List Int))) (piece : Int) (beats : Int) (h : S_wear loop piece beats) : m_wear [(enc3 PyData.int (encL (enc3 PyData.int PyData.int PyData.int)) (encL PyData.int)) loop, PyData.int piece, PyData.int beats] = .ok (PyData.int (F_wear loop piece beats)) :=
  t_fn (b := b_wear) (eτ := PyData.int) rfl
  ((ts_p [vv (enc3 PyData.int (encL (enc3 PyData.int PyData.int PyData.int)) (encL PyData.int)) loop, vv PyData.int piece, vv PyData.int beats, none, none, none, none, none] rfl (ts_asg (t_get rfl) (tg_t (tg_c tg_n (tg_c tg_n (tg_c tg_n tg_e))) rfl) (ts_p [vv (enc3 PyData.int (encL (enc3 PyData.int PyData.int PyData.int)) (encL PyData.int)) loop, vv PyData.int piece, vv PyData.int beats, vv PyData.int loop.1, vv (encL (enc3 PyData.int PyData.int PyData.int)) loop.2.1, vv (encL PyData.int) loop.2.2, none, none] rfl (ts_setLG (QQ := QF PyData.int) (eγ := PyData.int) (t_lc0 (e := (enc3 PyData.int PyData.int PyData.int)) (xs := loop.2.1) (e' := PyData.int) (t_items (t_get rfl) f_items) h.1 (fun wheel => tg_n) (fun wheel hx1 => (tm_p [vv (enc3 PyData.int (encL (enc3 PyData.int PyData.int PyData.int)) (encL PyData.int)) loop, vv PyData.int piece, vv PyData.int beats, vv PyData.int loop.1, vv (encL (enc3 PyData.int PyData.int PyData.int)) loop.2.1, vv (encL PyData.int) loop.2.2, none, vv (enc3 PyData.int PyData.int PyData.int) wheel] rfl (t_2 (t_seq (t_cons (t_get rfl) (t_cons (t_get rfl) (t_cons (t_get rfl) t_nil))) (T_bends_at _ _ _)) (t_seq (t_cons (t_get rfl) (t_cons (t_get rfl) (t_cons (t_2 (t_get rfl) t_c (f_i0 _ _)) (t_cons (t_get rfl) t_nil)))) (T_comings _ _ _ _ (h.2 wheel hx1).1)) (f_mul (h.2 wheel hx1).2))))) (show bnd _ (fun _ => True) from trivial) (fun some_ hb2 =>
  (ts_p [vv (enc3 PyData.int (encL (enc3 PyData.int PyData.int PyData.int)) (encL PyData.int)) loop, vv PyData.int piece, vv PyData.int beats, vv PyData.int loop.1, vv (encL (enc3 PyData.int PyData.int PyData.int)) loop.2.1, vv (encL PyData.int) loop.2.2, vv (encL PyData.int) some_, none] rfl (ts_end (ts_retF (t_call (t_cons (t_get rfl) t_nil) f_sum))))))))))
noncomputable def F_all_wear (loop : (Int × (List (Int × Int × Int)) × (List Int))) (beats : Int) : (List Int) :=
  ((rngI 0 loop.1).map fun (piece : Int) => (F_wear loop piece beats))
def S_all_wear (loop : (Int × (List (Int × Int × Int)) × (List Int))) (beats : Int) : Prop :=
  r62 loop.1 ∧ (rngI 0 loop.1).length ≤ sizeLine ∧ (∀ piece ∈ (rngI 0 loop.1), S_wear loop piece beats)
theorem T_all_wear (loop : (Int × (List (Int × Int × Int)) × (List Int))) (beats : Int) (h : S_all_wear loop beats) : m_all_wear [(enc3 PyData.int (encL (enc3 PyData.int PyData.int PyData.int)) (encL PyData.int)) loop, PyData.int beats] = .ok ((encL PyData.int) (F_all_wear loop beats)) :=
  t_fn (b := b_all_wear) (eτ := (encL PyData.int)) rfl
  ((ts_p [vv (enc3 PyData.int (encL (enc3 PyData.int PyData.int PyData.int)) (encL PyData.int)) loop, vv PyData.int beats, none] rfl (ts_end (ts_retF (t_L (t_lc0 (e := PyData.int) (xs := (rngI 0 loop.1)) (e' := PyData.int) (t_wk (t_cons (t_2 (t_get rfl) t_c (f_i0 _ _)) t_nil) (f_rng1 h.1)) h.2.1 (fun piece => tg_n) (fun piece hx1 => (tm_p [vv (enc3 PyData.int (encL (enc3 PyData.int PyData.int PyData.int)) (encL PyData.int)) loop, vv PyData.int beats, vv PyData.int piece] rfl (t_seq (t_cons (t_get rfl) (t_cons (t_get rfl) (t_cons (t_get rfl) t_nil))) (T_wear _ _ _ (h.2.2 piece hx1)))))))))))
noncomputable def F_law_wear (loop : (Int × (List (Int × Int × Int)) × (List Int))) (piece : Int) (beats : Int) : Int :=
  (bnd (loop.2.1.foldl (fun (total : Int) (place_bend_more : (Int × Int × Int)) =>
  (bnd ((((place_bend_more.1 - piece) - 1) % loop.1) + 1) fun (first : Int) =>
  (if (decide (first ≤ beats)) = true then (bnd (total + ((((beats - first) / loop.1) + 1) * (place_bend_more.2.1 + (place_bend_more.2.2 * (if (decide (piece ∈ loop.2.2)) = true then (1 : Int) else 0))))) fun (total2 : Int) =>
  total2)
  else total))) 0) fun (total3 : Int) =>
  total3)
def S_law_wear (loop : (Int × (List (Int × Int × Int)) × (List Int))) (piece : Int) (beats : Int) : Prop :=
  LpS (fun (total : Int) (place_bend_more : (Int × Int × Int)) => 0 < loop.1 ∧ (bnd ((((place_bend_more.1 - piece) - 1) % loop.1) + 1) fun (first : Int) => ((decide (first ≤ beats)) = true → dvOk loop.1 ∧ mulOk place_bend_more.2.2 (if (decide (piece ∈ loop.2.2)) = true then (1 : Int) else 0) ∧ mulOk (((beats - first) / loop.1) + 1) (place_bend_more.2.1 + (place_bend_more.2.2 * (if (decide (piece ∈ loop.2.2)) = true then (1 : Int) else 0)))))) (fun (total : Int) (place_bend_more : (Int × Int × Int)) =>
  (bnd ((((place_bend_more.1 - piece) - 1) % loop.1) + 1) fun (first : Int) =>
  (if (decide (first ≤ beats)) = true then (bnd (total + ((((beats - first) / loop.1) + 1) * (place_bend_more.2.1 + (place_bend_more.2.2 * (if (decide (piece ∈ loop.2.2)) = true then (1 : Int) else 0))))) fun (total2 : Int) =>
  total2)
  else total))) loop.2.1 0
theorem T_law_wear (loop : (Int × (List (Int × Int × Int)) × (List Int))) (piece : Int) (beats : Int) (h : S_law_wear loop piece beats) : m_law_wear [(enc3 PyData.int (encL (enc3 PyData.int PyData.int PyData.int)) (encL PyData.int)) loop, PyData.int piece, PyData.int beats] = .ok (PyData.int (F_law_wear loop piece beats)) :=
  t_fn (b := b_law_wear) (eτ := PyData.int) rfl
  ((ts_p [vv (enc3 PyData.int (encL (enc3 PyData.int PyData.int PyData.int)) (encL PyData.int)) loop, vv PyData.int piece, vv PyData.int beats, none, none, none, none, none, none, none, none] rfl (ts_asg (t_get rfl) (tg_t (tg_c tg_n (tg_c tg_n (tg_c tg_n tg_e))) rfl) (ts_p [vv (enc3 PyData.int (encL (enc3 PyData.int PyData.int PyData.int)) (encL PyData.int)) loop, vv PyData.int piece, vv PyData.int beats, vv PyData.int loop.1, vv (encL (enc3 PyData.int PyData.int PyData.int)) loop.2.1, vv (encL PyData.int) loop.2.2, none, none, none, none, none] rfl (ts_set t_c (ts_p [vv (enc3 PyData.int (encL (enc3 PyData.int PyData.int PyData.int)) (encL PyData.int)) loop, vv PyData.int piece, vv PyData.int beats, vv PyData.int loop.1, vv (encL (enc3 PyData.int PyData.int PyData.int)) loop.2.1, vv (encL PyData.int) loop.2.2, vv PyData.int 0, none, none, none, none] rfl (ts_forG (QQ := QF PyData.int) (e := (enc3 PyData.int PyData.int PyData.int)) (xs := loop.2.1) (eτ := eE) (F := (fun (total : Int) (place_bend_more : (Int × Int × Int)) =>
  (bnd ((((place_bend_more.1 - piece) - 1) % loop.1) + 1) fun (first : Int) =>
  (if (decide (first ≤ beats)) = true then (bnd (total + ((((beats - first) / loop.1) + 1) * (place_bend_more.2.1 + (place_bend_more.2.2 * (if (decide (piece ∈ loop.2.2)) = true then (1 : Int) else 0))))) fun (total2 : Int) =>
  total2)
  else total)))) (S := (fun (total : Int) (place_bend_more : (Int × Int × Int)) => 0 < loop.1 ∧ (bnd ((((place_bend_more.1 - piece) - 1) % loop.1) + 1) fun (first : Int) => ((decide (first ≤ beats)) = true → dvOk loop.1 ∧ mulOk place_bend_more.2.2 (if (decide (piece ∈ loop.2.2)) = true then (1 : Int) else 0) ∧ mulOk (((beats - first) / loop.1) + 1) (place_bend_more.2.1 + (place_bend_more.2.2 * (if (decide (piece ∈ loop.2.2)) = true then (1 : Int) else 0))))))) (E := fun (total : Int) => [vv (enc3 PyData.int (encL (enc3 PyData.int PyData.int PyData.int)) (encL PyData.int)) loop, vv PyData.int piece, vv PyData.int beats, vv PyData.int loop.1, vv (encL (enc3 PyData.int PyData.int PyData.int)) loop.2.1, vv (encL PyData.int) loop.2.2, vv PyData.int total, none, none, none, none]) (.is (.is (.is (.is (.is (.is (.is (.any (.any (.any (.any .nil))))))))))) (t_items (t_get rfl) f_items) h (fun total place_bend_more => (tg_t (tg_c tg_n (tg_c tg_n (tg_c tg_n tg_e))) rfl)) (fun total place_bend_more hx2 hb1 =>
  (ts_p [vv (enc3 PyData.int (encL (enc3 PyData.int PyData.int PyData.int)) (encL PyData.int)) loop, vv PyData.int piece, vv PyData.int beats, vv PyData.int loop.1, vv (encL (enc3 PyData.int PyData.int PyData.int)) loop.2.1, vv (encL PyData.int) loop.2.2, vv PyData.int total, vv PyData.int place_bend_more.1, vv PyData.int place_bend_more.2.1, vv PyData.int place_bend_more.2.2, none] rfl (ts_setG (QQ := fun z => QL _ eE (Stp.nx z)) (eγ := PyData.int) (t_2 (t_2 (t_call (t_cons (t_2 (t_2 (t_get rfl) (t_get rfl) f_sub) t_c f_sub) t_nil) f_intI) (t_get rfl) (f_mod hb1.1)) t_c f_add) hb1.2 (fun first hb3 =>
  (ts_p [vv (enc3 PyData.int (encL (enc3 PyData.int PyData.int PyData.int)) (encL PyData.int)) loop, vv PyData.int piece, vv PyData.int beats, vv PyData.int loop.1, vv (encL (enc3 PyData.int PyData.int PyData.int)) loop.2.1, vv (encL PyData.int) loop.2.2, vv PyData.int total, vv PyData.int place_bend_more.1, vv PyData.int place_bend_more.2.1, vv PyData.int place_bend_more.2.2, vv PyData.int first] rfl (ts_end (ts_if (QQ := fun z => QL _ eE (Stp.nx z)) (t_B (t_2 (t_get rfl) (t_get rfl) f_ge)) (fun hc4 => (ts_setG (QQ := fun z => QL _ eE (Stp.nx z)) (eγ := PyData.int) (t_2 (t_get rfl) (t_2 (t_2 (t_2 (t_2 (t_get rfl) (t_get rfl) f_sub) (t_get rfl) (f_div (hb3 hc4).1)) t_c f_add) (t_2 (t_get rfl) (t_2 (t_get rfl) (t_call (t_cons (t_2 (t_get rfl) (t_get rfl) (f_in eqe_I)) t_nil) f_intB) (f_mul (hb3 hc4).2.1)) f_add) (f_mul (hb3 hc4).2.2)) f_add) (show bnd _ (fun _ => True) from trivial) (fun total2 hb5 =>
  (ts_p [vv (enc3 PyData.int (encL (enc3 PyData.int PyData.int PyData.int)) (encL PyData.int)) loop, vv PyData.int piece, vv PyData.int beats, vv PyData.int loop.1, vv (encL (enc3 PyData.int PyData.int PyData.int)) loop.2.1, vv (encL PyData.int) loop.2.2, vv PyData.int total2, vv PyData.int place_bend_more.1, vv PyData.int place_bend_more.2.1, vv PyData.int place_bend_more.2.2, vv PyData.int first] rfl (ts_finL (.is (.is (.is (.is (.is (.is (.is (.any (.any (.any (.any .nil))))))))))))))))
  (fun hc4 => (ts_nx (ts_p [vv (enc3 PyData.int (encL (enc3 PyData.int PyData.int PyData.int)) (encL PyData.int)) loop, vv PyData.int piece, vv PyData.int beats, vv PyData.int loop.1, vv (encL (enc3 PyData.int PyData.int PyData.int)) loop.2.1, vv (encL PyData.int) loop.2.2, vv PyData.int total, vv PyData.int place_bend_more.1, vv PyData.int place_bend_more.2.1, vv PyData.int place_bend_more.2.2, vv PyData.int first] rfl (ts_finL (.is (.is (.is (.is (.is (.is (.is (.any (.any (.any (.any .nil)))))))))))))))))))))) (show bnd _ (fun _ => True) from trivial) (fun total3 hb6 =>
  (ts_p [vv (enc3 PyData.int (encL (enc3 PyData.int PyData.int PyData.int)) (encL PyData.int)) loop, vv PyData.int piece, vv PyData.int beats, vv PyData.int loop.1, vv (encL (enc3 PyData.int PyData.int PyData.int)) loop.2.1, vv (encL PyData.int) loop.2.2, vv PyData.int total3, none, none, none, none] rfl (ts_end (ts_retF (t_get rfl))))))))))))
noncomputable def F_law_came (pieces : Int) (piece : Int) (place : Int) (beats : Int) : Int :=
  ((((rngI 1 (beats + 1)).filter fun (beat : Int) => (decide (((piece + beat) % pieces) = place))).map fun (beat : Int) => beat).length : Int)
def S_law_came (pieces : Int) (piece : Int) (place : Int) (beats : Int) : Prop :=
  r62 (beats + 1) ∧ (rngI 1 (beats + 1)).length ≤ sizeLine ∧ (∀ beat ∈ (rngI 1 (beats + 1)), 0 < pieces)
theorem T_law_came (pieces : Int) (piece : Int) (place : Int) (beats : Int) (h : S_law_came pieces piece place beats) : m_law_came [PyData.int pieces, PyData.int piece, PyData.int place, PyData.int beats] = .ok (PyData.int (F_law_came pieces piece place beats)) :=
  t_fn (b := b_law_came) (eτ := PyData.int) rfl
  ((ts_p [vv PyData.int pieces, vv PyData.int piece, vv PyData.int place, vv PyData.int beats, none] rfl (ts_end (ts_retF (t_call (t_cons (t_L (t_lc (e := PyData.int) (xs := (rngI 1 (beats + 1))) (e' := PyData.int) (t_wk (t_cons t_c (t_cons (t_2 (t_get rfl) t_c f_add) t_nil)) (f_rng2 (by decide) h.1)) h.2.1 (fun beat => tg_n) (fun beat hx1 => (tm_p [vv PyData.int pieces, vv PyData.int piece, vv PyData.int place, vv PyData.int beats, vv PyData.int beat] rfl (t_B (t_2 (t_2 (t_call (t_cons (t_2 (t_get rfl) (t_get rfl) f_add) t_nil) f_intI) (t_get rfl) (f_mod (h.2.2 beat hx1))) (t_get rfl) (f_eq eqe_I))))) (fun beat hx1 hc2 => (tm_p [vv PyData.int pieces, vv PyData.int piece, vv PyData.int place, vv PyData.int beats, vv PyData.int beat] rfl (t_get rfl))))) t_nil) f_lenL)))))
noncomputable def F_turn_wear (loop : (Int × (List (Int × Int × Int)) × (List Int))) (piece : Int) : Int :=
  (loop.2.1.map fun (wheel : (Int × Int × Int)) => (F_bends_at loop wheel piece)).sum
def S_turn_wear (loop : (Int × (List (Int × Int × Int)) × (List Int))) (piece : Int) : Prop :=
  loop.2.1.length ≤ sizeLine
theorem T_turn_wear (loop : (Int × (List (Int × Int × Int)) × (List Int))) (piece : Int) (h : S_turn_wear loop piece) : m_turn_wear [(enc3 PyData.int (encL (enc3 PyData.int PyData.int PyData.int)) (encL PyData.int)) loop, PyData.int piece] = .ok (PyData.int (F_turn_wear loop piece)) :=
  t_fn (b := b_turn_wear) (eτ := PyData.int) rfl
  ((ts_p [vv (enc3 PyData.int (encL (enc3 PyData.int PyData.int PyData.int)) (encL PyData.int)) loop, vv PyData.int piece, none] rfl (ts_end (ts_retF (t_call (t_cons (t_L (t_lc0 (e := (enc3 PyData.int PyData.int PyData.int)) (xs := loop.2.1) (e' := PyData.int) (t_items (t_2 (t_get rfl) t_c (f_i1 _ _ _)) f_items) h (fun wheel => tg_n) (fun wheel hx1 => (tm_p [vv (enc3 PyData.int (encL (enc3 PyData.int PyData.int PyData.int)) (encL PyData.int)) loop, vv PyData.int piece, vv (enc3 PyData.int PyData.int PyData.int) wheel] rfl (t_seq (t_cons (t_get rfl) (t_cons (t_get rfl) (t_cons (t_get rfl) t_nil))) (T_bends_at _ _ _)))))) t_nil) f_sum)))))
noncomputable def F_law_others (loop : (Int × (List (Int × Int × Int)) × (List Int))) (pick : Int) : (List (PyData × (List PyData) × (List PyData))) :=
  (bnd (loop.2.1.getD 0 (0, 0, 0)) fun (place_bend_more : (Int × Int × Int)) =>
  (bnd ([(1, ([(0, 1, 0)] : List (Int × Int × Int)), []), (501, loop.2.1, loop.2.2), (loop.1, [], loop.2.2), (loop.1, (loop.2.1 ++ ([(loop.2.1.getD 0 (0, 0, 0))] : List (Int × Int × Int))), loop.2.2)] : List (Int × (List (Int × Int × Int)) × (List Int))) fun (found : (List (Int × (List (Int × Int × Int)) × (List Int)))) =>
  (bnd ((found.map fun y => ((PyData.int y.1), y.2.1, y.2.2)) ++ ([((PyData.bool true), loop.2.1, loop.2.2), ((PyData.int loop.1), ([(place_bend_more.1, 0, place_bend_more.2.2)] : List (Int × Int × Int)), loop.2.2), ((PyData.int loop.1), ([(place_bend_more.1, place_bend_more.2.1, (-1))] : List (Int × Int × Int)), loop.2.2)] : List (PyData × (List (Int × Int × Int)) × (List Int)))) fun (found2 : (List (PyData × (List (Int × Int × Int)) × (List Int)))) =>
  (bnd ((found2.map fun y5 => (y5.1, (y5.2.1.map fun y6 => ((enc3 PyData.int PyData.int PyData.int) y6)), y5.2.2)) ++ (([(loop.1, (([(place_bend_more.1, place_bend_more.2.1)] : List (Int × Int)).map fun y2 => ((enc2 PyData.int PyData.int) y2)), loop.2.2), (loop.1, (([([place_bend_more.1, place_bend_more.2.1, place_bend_more.2.2] : List Int)] : List (List Int)).map fun y3 => ((encL PyData.int) y3)), loop.2.2), (loop.1, (([(loop.1, 1, 1)] : List (Int × Int × Int)).map fun y4 => ((enc3 PyData.int PyData.int PyData.int) y4)), loop.2.2)] : List (Int × (List PyData) × (List Int))).map fun y7 => ((PyData.int y7.1), y7.2.1, y7.2.2))) fun (found3 : (List (PyData × (List PyData) × (List Int)))) =>
  (bnd (found3 ++ (([(loop.1, ([((-1), 1, 1)] : List (Int × Int × Int)), loop.2.2), (loop.1, loop.2.1, ([loop.1] : List Int)), (loop.1, loop.2.1, ([(-1)] : List Int)), (loop.1, loop.2.1, ([1, 1] : List Int))] : List (Int × (List (Int × Int × Int)) × (List Int))).map fun y8 => ((PyData.int y8.1), (y8.2.1.map fun y9 => ((enc3 PyData.int PyData.int PyData.int) y9)), y8.2.2))) fun (found4 : (List (PyData × (List PyData) × (List Int)))) =>
  (bnd ((found4.map fun y17 => (y17.1, y17.2.1, (y17.2.2.map fun y18 => (PyData.int y18)))) ++ (([(loop.1, (loop.2.1.map fun y10 => ((PyData.int y10.1), y10.2.1, y10.2.2)), (([1, 0] : List Int).map fun y11 => (PyData.int y11))), (loop.1, (loop.2.1.map fun y12 => ((PyData.int y12.1), y12.2.1, y12.2.2)), (([("0" : Str)] : List Str).map fun y13 => (PyData.str y13))), (loop.1, (loop.2.1.map fun y14 => ((PyData.int y14.1), y14.2.1, y14.2.2)), ([(PyData.bool false), (PyData.int 1)] : List PyData)), (loop.1, (([(true, 1, 0)] : List (Bool × Int × Int)).map fun y15 => ((PyData.bool y15.1), y15.2.1, y15.2.2)), (loop.2.2.map fun y16 => (PyData.int y16)))] : List (Int × (List (PyData × Int × Int)) × (List PyData))).map fun y19 => ((PyData.int y19.1), (y19.2.1.map fun y20 => ((enc3 idD PyData.int PyData.int) y20)), y19.2.2))) fun (found5 : (List (PyData × (List PyData) × (List PyData)))) =>
  (bnd (found5 ++ (([(PyData.none, ([(0, 1, 0)] : List (Int × Int × Int)), []), ((PyData.int 500), ((rngI 0 21).map fun (k : Int) => (k, 1, 0)), []), ((PyData.str ("12" : Str)), loop.2.1, loop.2.2)] : List (PyData × (List (Int × Int × Int)) × (List Int))).map fun y21 => (y21.1, (y21.2.1.map fun y22 => ((enc3 PyData.int PyData.int PyData.int) y22)), (y21.2.2.map fun y23 => (PyData.int y23))))) fun (found6 : (List (PyData × (List PyData) × (List PyData)))) =>
  ((rngI 0 6).map fun (k2 : Int) => (found6.getD (((pick + (5 * k2)) % (found6.length : Int))).toNat (PyData.none, [], []))))))))))
def S_law_others (loop : (Int × (List (Int × Int × Int)) × (List Int))) (pick : Int) : Prop :=
  0 < loop.2.1.length ∧ (bnd (loop.2.1.getD 0 (0, 0, 0)) fun (place_bend_more : (Int × Int × Int)) => loop.2.1.length + ([(loop.2.1.getD 0 (0, 0, 0))] : List (Int × Int × Int)).length ≤ sizeLine ∧ (bnd ([(1, ([(0, 1, 0)] : List (Int × Int × Int)), []), (501, loop.2.1, loop.2.2), (loop.1, [], loop.2.2), (loop.1, (loop.2.1 ++ ([(loop.2.1.getD 0 (0, 0, 0))] : List (Int × Int × Int))), loop.2.2)] : List (Int × (List (Int × Int × Int)) × (List Int))) fun (found : (List (Int × (List (Int × Int × Int)) × (List Int)))) => ((found.map fun y => ((PyData.int y.1), y.2.1, y.2.2)).length + ([((PyData.bool true), loop.2.1, loop.2.2), ((PyData.int loop.1), ([(place_bend_more.1, 0, place_bend_more.2.2)] : List (Int × Int × Int)), loop.2.2), ((PyData.int loop.1), ([(place_bend_more.1, place_bend_more.2.1, (-1))] : List (Int × Int × Int)), loop.2.2)] : List (PyData × (List (Int × Int × Int)) × (List Int))).length ≤ sizeLine) ∧ (bnd ((found.map fun y => ((PyData.int y.1), y.2.1, y.2.2)) ++ ([((PyData.bool true), loop.2.1, loop.2.2), ((PyData.int loop.1), ([(place_bend_more.1, 0, place_bend_more.2.2)] : List (Int × Int × Int)), loop.2.2), ((PyData.int loop.1), ([(place_bend_more.1, place_bend_more.2.1, (-1))] : List (Int × Int × Int)), loop.2.2)] : List (PyData × (List (Int × Int × Int)) × (List Int)))) fun (found2 : (List (PyData × (List (Int × Int × Int)) × (List Int)))) => ((found2.map fun y5 => (y5.1, (y5.2.1.map fun y6 => ((enc3 PyData.int PyData.int PyData.int) y6)), y5.2.2)).length + (([(loop.1, (([(place_bend_more.1, place_bend_more.2.1)] : List (Int × Int)).map fun y2 => ((enc2 PyData.int PyData.int) y2)), loop.2.2), (loop.1, (([([place_bend_more.1, place_bend_more.2.1, place_bend_more.2.2] : List Int)] : List (List Int)).map fun y3 => ((encL PyData.int) y3)), loop.2.2), (loop.1, (([(loop.1, 1, 1)] : List (Int × Int × Int)).map fun y4 => ((enc3 PyData.int PyData.int PyData.int) y4)), loop.2.2)] : List (Int × (List PyData) × (List Int))).map fun y7 => ((PyData.int y7.1), y7.2.1, y7.2.2)).length ≤ sizeLine) ∧ (bnd ((found2.map fun y5 => (y5.1, (y5.2.1.map fun y6 => ((enc3 PyData.int PyData.int PyData.int) y6)), y5.2.2)) ++ (([(loop.1, (([(place_bend_more.1, place_bend_more.2.1)] : List (Int × Int)).map fun y2 => ((enc2 PyData.int PyData.int) y2)), loop.2.2), (loop.1, (([([place_bend_more.1, place_bend_more.2.1, place_bend_more.2.2] : List Int)] : List (List Int)).map fun y3 => ((encL PyData.int) y3)), loop.2.2), (loop.1, (([(loop.1, 1, 1)] : List (Int × Int × Int)).map fun y4 => ((enc3 PyData.int PyData.int PyData.int) y4)), loop.2.2)] : List (Int × (List PyData) × (List Int))).map fun y7 => ((PyData.int y7.1), y7.2.1, y7.2.2))) fun (found3 : (List (PyData × (List PyData) × (List Int)))) => (found3.length + (([(loop.1, ([((-1), 1, 1)] : List (Int × Int × Int)), loop.2.2), (loop.1, loop.2.1, ([loop.1] : List Int)), (loop.1, loop.2.1, ([(-1)] : List Int)), (loop.1, loop.2.1, ([1, 1] : List Int))] : List (Int × (List (Int × Int × Int)) × (List Int))).map fun y8 => ((PyData.int y8.1), (y8.2.1.map fun y9 => ((enc3 PyData.int PyData.int PyData.int) y9)), y8.2.2)).length ≤ sizeLine) ∧ (bnd (found3 ++ (([(loop.1, ([((-1), 1, 1)] : List (Int × Int × Int)), loop.2.2), (loop.1, loop.2.1, ([loop.1] : List Int)), (loop.1, loop.2.1, ([(-1)] : List Int)), (loop.1, loop.2.1, ([1, 1] : List Int))] : List (Int × (List (Int × Int × Int)) × (List Int))).map fun y8 => ((PyData.int y8.1), (y8.2.1.map fun y9 => ((enc3 PyData.int PyData.int PyData.int) y9)), y8.2.2))) fun (found4 : (List (PyData × (List PyData) × (List Int)))) => ((found4.map fun y17 => (y17.1, y17.2.1, (y17.2.2.map fun y18 => (PyData.int y18)))).length + (([(loop.1, (loop.2.1.map fun y10 => ((PyData.int y10.1), y10.2.1, y10.2.2)), (([1, 0] : List Int).map fun y11 => (PyData.int y11))), (loop.1, (loop.2.1.map fun y12 => ((PyData.int y12.1), y12.2.1, y12.2.2)), (([("0" : Str)] : List Str).map fun y13 => (PyData.str y13))), (loop.1, (loop.2.1.map fun y14 => ((PyData.int y14.1), y14.2.1, y14.2.2)), ([(PyData.bool false), (PyData.int 1)] : List PyData)), (loop.1, (([(true, 1, 0)] : List (Bool × Int × Int)).map fun y15 => ((PyData.bool y15.1), y15.2.1, y15.2.2)), (loop.2.2.map fun y16 => (PyData.int y16)))] : List (Int × (List (PyData × Int × Int)) × (List PyData))).map fun y19 => ((PyData.int y19.1), (y19.2.1.map fun y20 => ((enc3 idD PyData.int PyData.int) y20)), y19.2.2)).length ≤ sizeLine) ∧ (bnd ((found4.map fun y17 => (y17.1, y17.2.1, (y17.2.2.map fun y18 => (PyData.int y18)))) ++ (([(loop.1, (loop.2.1.map fun y10 => ((PyData.int y10.1), y10.2.1, y10.2.2)), (([1, 0] : List Int).map fun y11 => (PyData.int y11))), (loop.1, (loop.2.1.map fun y12 => ((PyData.int y12.1), y12.2.1, y12.2.2)), (([("0" : Str)] : List Str).map fun y13 => (PyData.str y13))), (loop.1, (loop.2.1.map fun y14 => ((PyData.int y14.1), y14.2.1, y14.2.2)), ([(PyData.bool false), (PyData.int 1)] : List PyData)), (loop.1, (([(true, 1, 0)] : List (Bool × Int × Int)).map fun y15 => ((PyData.bool y15.1), y15.2.1, y15.2.2)), (loop.2.2.map fun y16 => (PyData.int y16)))] : List (Int × (List (PyData × Int × Int)) × (List PyData))).map fun y19 => ((PyData.int y19.1), (y19.2.1.map fun y20 => ((enc3 idD PyData.int PyData.int) y20)), y19.2.2))) fun (found5 : (List (PyData × (List PyData) × (List PyData)))) => (rngI 0 21).length ≤ sizeLine ∧ (found5.length + (([(PyData.none, ([(0, 1, 0)] : List (Int × Int × Int)), []), ((PyData.int 500), ((rngI 0 21).map fun (k : Int) => (k, 1, 0)), []), ((PyData.str ("12" : Str)), loop.2.1, loop.2.2)] : List (PyData × (List (Int × Int × Int)) × (List Int))).map fun y21 => (y21.1, (y21.2.1.map fun y22 => ((enc3 PyData.int PyData.int PyData.int) y22)), (y21.2.2.map fun y23 => (PyData.int y23)))).length ≤ sizeLine) ∧ (bnd (found5 ++ (([(PyData.none, ([(0, 1, 0)] : List (Int × Int × Int)), []), ((PyData.int 500), ((rngI 0 21).map fun (k : Int) => (k, 1, 0)), []), ((PyData.str ("12" : Str)), loop.2.1, loop.2.2)] : List (PyData × (List (Int × Int × Int)) × (List Int))).map fun y21 => (y21.1, (y21.2.1.map fun y22 => ((enc3 PyData.int PyData.int PyData.int) y22)), (y21.2.2.map fun y23 => (PyData.int y23))))) fun (found6 : (List (PyData × (List PyData) × (List PyData)))) => (rngI 0 6).length ≤ sizeLine ∧ (∀ k2 ∈ (rngI 0 6), 0 < (found6.length : Int) ∧ ixOk found6.length ((pick + (5 * k2)) % (found6.length : Int))))))))))
theorem T_law_others (loop : (Int × (List (Int × Int × Int)) × (List Int))) (pick : Int) (h : S_law_others loop pick) : m_law_others [(enc3 PyData.int (encL (enc3 PyData.int PyData.int PyData.int)) (encL PyData.int)) loop, PyData.int pick] = .ok ((encL (enc3 idD (encL idD) (encL idD))) (F_law_others loop pick)) :=
  t_fn (b := b_law_others) (eτ := (encL (enc3 idD (encL idD) (encL idD)))) rfl
  ((ts_p [vv (enc3 PyData.int (encL (enc3 PyData.int PyData.int PyData.int)) (encL PyData.int)) loop, vv PyData.int pick, none, none, none, none, none, none, none, none] rfl (ts_asg (t_get rfl) (tg_t (tg_c tg_n (tg_c tg_n (tg_c tg_n tg_e))) rfl) (ts_p [vv (enc3 PyData.int (encL (enc3 PyData.int PyData.int PyData.int)) (encL PyData.int)) loop, vv PyData.int pick, vv PyData.int loop.1, vv (encL (enc3 PyData.int PyData.int PyData.int)) loop.2.1, vv (encL PyData.int) loop.2.2, none, none, none, none, none] rfl (ts_asgG (QQ := QF (encL (enc3 idD (encL idD) (encL idD)))) (eγ := (enc3 PyData.int PyData.int PyData.int)) (t_2 (t_get rfl) t_c (f_idxK (d := (0, 0, 0)) 0 rfl h.1)) h.2 (fun place_bend_more => (tg_t (tg_c tg_n (tg_c tg_n (tg_c tg_n tg_e))) rfl)) (fun place_bend_more hb1 =>
  (ts_p [vv (enc3 PyData.int (encL (enc3 PyData.int PyData.int PyData.int)) (encL PyData.int)) loop, vv PyData.int pick, vv PyData.int loop.1, vv (encL (enc3 PyData.int PyData.int PyData.int)) loop.2.1, vv (encL PyData.int) loop.2.2, vv PyData.int place_bend_more.1, vv PyData.int place_bend_more.2.1, vv PyData.int place_bend_more.2.2, none, none] rfl (ts_setG (QQ := QF (encL (enc3 idD (encL idD) (encL idD)))) (eγ := (encL (enc3 PyData.int (encL (enc3 PyData.int PyData.int PyData.int)) (encL PyData.int)))) (t_as (encL (enc3 PyData.int (encL (enc3 PyData.int PyData.int PyData.int)) (encL PyData.int))) ([(1, ([(0, 1, 0)] : List (Int × Int × Int)), []), (501, loop.2.1, loop.2.2), (loop.1, [], loop.2.2), (loop.1, (loop.2.1 ++ ([(loop.2.1.getD 0 (0, 0, 0))] : List (Int × Int × Int))), loop.2.2)] : List (Int × (List (Int × Int × Int)) × (List Int))) (t_seq (t_cons (t_coE (e := (enc3 PyData.int (encL (enc3 PyData.int PyData.int PyData.int)) (encL PyData.int))) (e' := (enc3 PyData.int (encL (enc3 PyData.int PyData.int PyData.int)) (encL PyData.int))) (x := (1, ([(0, 1, 0)] : List (Int × Int × Int)), [])) (1, ([(0, 1, 0)] : List (Int × Int × Int)), []) (by first | rfl | (simp only [enc2, enc3, enc4, enc5, enc6, encL, encU, encO, idD, List.map_map, Function.comp_def]; rfl) | (simp only [enc2, enc3, enc4, enc5, enc6, encL, encU, encO, idD, List.map_map, Function.comp_def])) (t_as (enc3 PyData.int (encL (enc3 PyData.int PyData.int PyData.int)) (encL PyData.int)) (1, ([(0, 1, 0)] : List (Int × Int × Int)), []) (t_seq (t_cons t_c (t_cons (t_as (encL (enc3 PyData.int PyData.int PyData.int)) ([(0, 1, 0)] : List (Int × Int × Int)) (t_seq (t_cons (t_as (enc3 PyData.int PyData.int PyData.int) (0, 1, 0) (t_seq (t_cons t_c (t_cons t_c (t_cons t_c t_nil))) (mTup_ok rfl))) t_nil) (mLst_ok rfl))) (t_cons (t_as (encL PyData.int) [] (t_seq t_nil (mLst_ok rfl))) t_nil))) (mTup_ok rfl)))) (t_cons (t_as (enc3 PyData.int (encL (enc3 PyData.int PyData.int PyData.int)) (encL PyData.int)) (501, loop.2.1, loop.2.2) (t_seq (t_cons t_c (t_cons (t_get rfl) (t_cons (t_get rfl) t_nil))) (mTup_ok rfl))) (t_cons (t_coE (e := (enc3 PyData.int (encL PyData.int) (encL PyData.int))) (e' := (enc3 PyData.int (encL (enc3 PyData.int PyData.int PyData.int)) (encL PyData.int))) (x := (loop.1, [], loop.2.2)) (loop.1, [], loop.2.2) (by first | rfl | (simp only [enc2, enc3, enc4, enc5, enc6, encL, encU, encO, idD, List.map_map, Function.comp_def]; rfl) | (simp only [enc2, enc3, enc4, enc5, enc6, encL, encU, encO, idD, List.map_map, Function.comp_def])) (t_as (enc3 PyData.int (encL PyData.int) (encL PyData.int)) (loop.1, [], loop.2.2) (t_seq (t_cons (t_get rfl) (t_cons (t_as (encL PyData.int) [] (t_seq t_nil (mLst_ok rfl))) (t_cons (t_get rfl) t_nil))) (mTup_ok rfl)))) (t_cons (t_as (enc3 PyData.int (encL (enc3 PyData.int PyData.int PyData.int)) (encL PyData.int)) (loop.1, (loop.2.1 ++ ([(loop.2.1.getD 0 (0, 0, 0))] : List (Int × Int × Int))), loop.2.2) (t_seq (t_cons (t_get rfl) (t_cons (t_2 (t_get rfl) (t_as (encL (enc3 PyData.int PyData.int PyData.int)) ([(loop.2.1.getD 0 (0, 0, 0))] : List (Int × Int × Int)) (t_seq (t_cons (t_2 (t_get rfl) t_c (f_idxK (d := (0, 0, 0)) 0 rfl h.1)) t_nil) (mLst_ok rfl))) (f_addL hb1.1)) (t_cons (t_get rfl) t_nil))) (mTup_ok rfl))) t_nil)))) (mLst_ok rfl))) hb1.2 (fun found hb2 =>
  (ts_p [vv (enc3 PyData.int (encL (enc3 PyData.int PyData.int PyData.int)) (encL PyData.int)) loop, vv PyData.int pick, vv PyData.int loop.1, vv (encL (enc3 PyData.int PyData.int PyData.int)) loop.2.1, vv (encL PyData.int) loop.2.2, vv PyData.int place_bend_more.1, vv PyData.int place_bend_more.2.1, vv PyData.int place_bend_more.2.2, vv (encL (enc3 PyData.int (encL (enc3 PyData.int PyData.int PyData.int)) (encL PyData.int))) found, none] rfl (ts_setG (QQ := QF (encL (enc3 idD (encL idD) (encL idD)))) (eγ := (encL (enc3 idD (encL (enc3 PyData.int PyData.int PyData.int)) (encL PyData.int)))) (t_2 (t_coL (e := (enc3 PyData.int (encL (enc3 PyData.int PyData.int PyData.int)) (encL PyData.int))) (e' := (enc3 idD (encL (enc3 PyData.int PyData.int PyData.int)) (encL PyData.int))) (fun y => ((PyData.int y.1), y.2.1, y.2.2)) (fun _ => (by first | rfl | (simp only [enc2, enc3, enc4, enc5, enc6, encL, encU, encO, idD, List.map_map, Function.comp_def]; rfl) | (simp only [enc2, enc3, enc4, enc5, enc6, encL, encU, encO, idD, List.map_map, Function.comp_def]))) (t_get rfl)) (t_as (encL (enc3 idD (encL (enc3 PyData.int PyData.int PyData.int)) (encL PyData.int))) ([((PyData.bool true), loop.2.1, loop.2.2), ((PyData.int loop.1), ([(place_bend_more.1, 0, place_bend_more.2.2)] : List (Int × Int × Int)), loop.2.2), ((PyData.int loop.1), ([(place_bend_more.1, place_bend_more.2.1, (-1))] : List (Int × Int × Int)), loop.2.2)] : List (PyData × (List (Int × Int × Int)) × (List Int))) (t_seq (t_cons (t_coE (e := (enc3 PyData.bool (encL (enc3 PyData.int PyData.int PyData.int)) (encL PyData.int))) (e' := (enc3 idD (encL (enc3 PyData.int PyData.int PyData.int)) (encL PyData.int))) (x := (true, loop.2.1, loop.2.2)) ((PyData.bool true), loop.2.1, loop.2.2) (by first | rfl | (simp only [enc2, enc3, enc4, enc5, enc6, encL, encU, encO, idD, List.map_map, Function.comp_def]; rfl) | (simp only [enc2, enc3, enc4, enc5, enc6, encL, encU, encO, idD, List.map_map, Function.comp_def])) (t_as (enc3 PyData.bool (encL (enc3 PyData.int PyData.int PyData.int)) (encL PyData.int)) (true, loop.2.1, loop.2.2) (t_seq (t_cons t_c (t_cons (t_get rfl) (t_cons (t_get rfl) t_nil))) (mTup_ok rfl)))) (t_cons (t_coE (e := (enc3 PyData.int (encL (enc3 PyData.int PyData.int PyData.int)) (encL PyData.int))) (e' := (enc3 idD (encL (enc3 PyData.int PyData.int PyData.int)) (encL PyData.int))) (x := (loop.1, ([(place_bend_more.1, 0, place_bend_more.2.2)] : List (Int × Int × Int)), loop.2.2)) ((PyData.int loop.1), ([(place_bend_more.1, 0, place_bend_more.2.2)] : List (Int × Int × Int)), loop.2.2) (by first | rfl | (simp only [enc2, enc3, enc4, enc5, enc6, encL, encU, encO, idD, List.map_map, Function.comp_def]; rfl) | (simp only [enc2, enc3, enc4, enc5, enc6, encL, encU, encO, idD, List.map_map, Function.comp_def])) (t_as (enc3 PyData.int (encL (enc3 PyData.int PyData.int PyData.int)) (encL PyData.int)) (loop.1, ([(place_bend_more.1, 0, place_bend_more.2.2)] : List (Int × Int × Int)), loop.2.2) (t_seq (t_cons (t_get rfl) (t_cons (t_as (encL (enc3 PyData.int PyData.int PyData.int)) ([(place_bend_more.1, 0, place_bend_more.2.2)] : List (Int × Int × Int)) (t_seq (t_cons (t_as (enc3 PyData.int PyData.int PyData.int) (place_bend_more.1, 0, place_bend_more.2.2) (t_seq (t_cons (t_get rfl) (t_cons t_c (t_cons (t_get rfl) t_nil))) (mTup_ok rfl))) t_nil) (mLst_ok rfl))) (t_cons (t_get rfl) t_nil))) (mTup_ok rfl)))) (t_cons (t_coE (e := (enc3 PyData.int (encL (enc3 PyData.int PyData.int PyData.int)) (encL PyData.int))) (e' := (enc3 idD (encL (enc3 PyData.int PyData.int PyData.int)) (encL PyData.int))) (x := (loop.1, ([(place_bend_more.1, place_bend_more.2.1, (-1))] : List (Int × Int × Int)), loop.2.2)) ((PyData.int loop.1), ([(place_bend_more.1, place_bend_more.2.1, (-1))] : List (Int × Int × Int)), loop.2.2) (by first | rfl | (simp only [enc2, enc3, enc4, enc5, enc6, encL, encU, encO, idD, List.map_map, Function.comp_def]; rfl) | (simp only [enc2, enc3, enc4, enc5, enc6, encL, encU, encO, idD, List.map_map, Function.comp_def])) (t_as (enc3 PyData.int (encL (enc3 PyData.int PyData.int PyData.int)) (encL PyData.int)) (loop.1, ([(place_bend_more.1, place_bend_more.2.1, (-1))] : List (Int × Int × Int)), loop.2.2) (t_seq (t_cons (t_get rfl) (t_cons (t_as (encL (enc3 PyData.int PyData.int PyData.int)) ([(place_bend_more.1, place_bend_more.2.1, (-1))] : List (Int × Int × Int)) (t_seq (t_cons (t_as (enc3 PyData.int PyData.int PyData.int) (place_bend_more.1, place_bend_more.2.1, (-1)) (t_seq (t_cons (t_get rfl) (t_cons (t_get rfl) (t_cons (t_1 t_c f_neg) t_nil))) (mTup_ok rfl))) t_nil) (mLst_ok rfl))) (t_cons (t_get rfl) t_nil))) (mTup_ok rfl)))) t_nil))) (mLst_ok rfl))) (f_addL hb2.1)) hb2.2 (fun found2 hb3 =>
  (ts_p [vv (enc3 PyData.int (encL (enc3 PyData.int PyData.int PyData.int)) (encL PyData.int)) loop, vv PyData.int pick, vv PyData.int loop.1, vv (encL (enc3 PyData.int PyData.int PyData.int)) loop.2.1, vv (encL PyData.int) loop.2.2, vv PyData.int place_bend_more.1, vv PyData.int place_bend_more.2.1, vv PyData.int place_bend_more.2.2, vv (encL (enc3 idD (encL (enc3 PyData.int PyData.int PyData.int)) (encL PyData.int))) found2, none] rfl (ts_setG (QQ := QF (encL (enc3 idD (encL idD) (encL idD)))) (eγ := (encL (enc3 idD (encL idD) (encL PyData.int)))) (t_2 (t_coL (e := (enc3 idD (encL (enc3 PyData.int PyData.int PyData.int)) (encL PyData.int))) (e' := (enc3 idD (encL idD) (encL PyData.int))) (fun y5 => (y5.1, (y5.2.1.map fun y6 => ((enc3 PyData.int PyData.int PyData.int) y6)), y5.2.2)) (fun _ => (by first | rfl | (simp only [enc2, enc3, enc4, enc5, enc6, encL, encU, encO, idD, List.map_map, Function.comp_def]; rfl) | (simp only [enc2, enc3, enc4, enc5, enc6, encL, encU, encO, idD, List.map_map, Function.comp_def]))) (t_get rfl)) (t_coL (e := (enc3 PyData.int (encL idD) (encL PyData.int))) (e' := (enc3 idD (encL idD) (encL PyData.int))) (fun y7 => ((PyData.int y7.1), y7.2.1, y7.2.2)) (fun _ => (by first | rfl | (simp only [enc2, enc3, enc4, enc5, enc6, encL, encU, encO, idD, List.map_map, Function.comp_def]; rfl) | (simp only [enc2, enc3, enc4, enc5, enc6, encL, encU, encO, idD, List.map_map, Function.comp_def]))) (t_as (encL (enc3 PyData.int (encL idD) (encL PyData.int))) ([(loop.1, (([(place_bend_more.1, place_bend_more.2.1)] : List (Int × Int)).map fun y2 => ((enc2 PyData.int PyData.int) y2)), loop.2.2), (loop.1, (([([place_bend_more.1, place_bend_more.2.1, place_bend_more.2.2] : List Int)] : List (List Int)).map fun y3 => ((encL PyData.int) y3)), loop.2.2), (loop.1, (([(loop.1, 1, 1)] : List (Int × Int × Int)).map fun y4 => ((enc3 PyData.int PyData.int PyData.int) y4)), loop.2.2)] : List (Int × (List PyData) × (List Int))) (t_seq (t_cons (t_coE (e := (enc3 PyData.int (encL (enc2 PyData.int PyData.int)) (encL PyData.int))) (e' := (enc3 PyData.int (encL idD) (encL PyData.int))) (x := (loop.1, ([(place_bend_more.1, place_bend_more.2.1)] : List (Int × Int)), loop.2.2)) (loop.1, (([(place_bend_more.1, place_bend_more.2.1)] : List (Int × Int)).map fun y2 => ((enc2 PyData.int PyData.int) y2)), loop.2.2) (by first | rfl | (simp only [enc2, enc3, enc4, enc5, enc6, encL, encU, encO, idD, List.map_map, Function.comp_def]; rfl) | (simp only [enc2, enc3, enc4, enc5, enc6, encL, encU, encO, idD, List.map_map, Function.comp_def])) (t_as (enc3 PyData.int (encL (enc2 PyData.int PyData.int)) (encL PyData.int)) (loop.1, ([(place_bend_more.1, place_bend_more.2.1)] : List (Int × Int)), loop.2.2) (t_seq (t_cons (t_get rfl) (t_cons (t_as (encL (enc2 PyData.int PyData.int)) ([(place_bend_more.1, place_bend_more.2.1)] : List (Int × Int)) (t_seq (t_cons (t_as (enc2 PyData.int PyData.int) (place_bend_more.1, place_bend_more.2.1) (t_seq (t_cons (t_get rfl) (t_cons (t_get rfl) t_nil)) (mTup_ok rfl))) t_nil) (mLst_ok rfl))) (t_cons (t_get rfl) t_nil))) (mTup_ok rfl)))) (t_cons (t_coE (e := (enc3 PyData.int (encL (encL PyData.int)) (encL PyData.int))) (e' := (enc3 PyData.int (encL idD) (encL PyData.int))) (x := (loop.1, ([([place_bend_more.1, place_bend_more.2.1, place_bend_more.2.2] : List Int)] : List (List Int)), loop.2.2)) (loop.1, (([([place_bend_more.1, place_bend_more.2.1, place_bend_more.2.2] : List Int)] : List (List Int)).map fun y3 => ((encL PyData.int) y3)), loop.2.2) (by first | rfl | (simp only [enc2, enc3, enc4, enc5, enc6, encL, encU, encO, idD, List.map_map, Function.comp_def]; rfl) | (simp only [enc2, enc3, enc4, enc5, enc6, encL, encU, encO, idD, List.map_map, Function.comp_def])) (t_as (enc3 PyData.int (encL (encL PyData.int)) (encL PyData.int)) (loop.1, ([([place_bend_more.1, place_bend_more.2.1, place_bend_more.2.2] : List Int)] : List (List Int)), loop.2.2) (t_seq (t_cons (t_get rfl) (t_cons (t_as (encL (encL PyData.int)) ([([place_bend_more.1, place_bend_more.2.1, place_bend_more.2.2] : List Int)] : List (List Int)) (t_seq (t_cons (t_as (encL PyData.int) ([place_bend_more.1, place_bend_more.2.1, place_bend_more.2.2] : List Int) (t_seq (t_cons (t_get rfl) (t_cons (t_get rfl) (t_cons (t_get rfl) t_nil))) (mLst_ok rfl))) t_nil) (mLst_ok rfl))) (t_cons (t_get rfl) t_nil))) (mTup_ok rfl)))) (t_cons (t_coE (e := (enc3 PyData.int (encL (enc3 PyData.int PyData.int PyData.int)) (encL PyData.int))) (e' := (enc3 PyData.int (encL idD) (encL PyData.int))) (x := (loop.1, ([(loop.1, 1, 1)] : List (Int × Int × Int)), loop.2.2)) (loop.1, (([(loop.1, 1, 1)] : List (Int × Int × Int)).map fun y4 => ((enc3 PyData.int PyData.int PyData.int) y4)), loop.2.2) (by first | rfl | (simp only [enc2, enc3, enc4, enc5, enc6, encL, encU, encO, idD, List.map_map, Function.comp_def]; rfl) | (simp only [enc2, enc3, enc4, enc5, enc6, encL, encU, encO, idD, List.map_map, Function.comp_def])) (t_as (enc3 PyData.int (encL (enc3 PyData.int PyData.int PyData.int)) (encL PyData.int)) (loop.1, ([(loop.1, 1, 1)] : List (Int × Int × Int)), loop.2.2) (t_seq (t_cons (t_get rfl) (t_cons (t_as (encL (enc3 PyData.int PyData.int PyData.int)) ([(loop.1, 1, 1)] : List (Int × Int × Int)) (t_seq (t_cons (t_as (enc3 PyData.int PyData.int PyData.int) (loop.1, 1, 1) (t_seq (t_cons (t_get rfl) (t_cons t_c (t_cons t_c t_nil))) (mTup_ok rfl))) t_nil) (mLst_ok rfl))) (t_cons (t_get rfl) t_nil))) (mTup_ok rfl)))) t_nil))) (mLst_ok rfl)))) (f_addL hb3.1)) hb3.2 (fun found3 hb4 =>
  (ts_p [vv (enc3 PyData.int (encL (enc3 PyData.int PyData.int PyData.int)) (encL PyData.int)) loop, vv PyData.int pick, vv PyData.int loop.1, vv (encL (enc3 PyData.int PyData.int PyData.int)) loop.2.1, vv (encL PyData.int) loop.2.2, vv PyData.int place_bend_more.1, vv PyData.int place_bend_more.2.1, vv PyData.int place_bend_more.2.2, vv (encL (enc3 idD (encL idD) (encL PyData.int))) found3, none] rfl (ts_setG (QQ := QF (encL (enc3 idD (encL idD) (encL idD)))) (eγ := (encL (enc3 idD (encL idD) (encL PyData.int)))) (t_2 (t_get rfl) (t_coL (e := (enc3 PyData.int (encL (enc3 PyData.int PyData.int PyData.int)) (encL PyData.int))) (e' := (enc3 idD (encL idD) (encL PyData.int))) (fun y8 => ((PyData.int y8.1), (y8.2.1.map fun y9 => ((enc3 PyData.int PyData.int PyData.int) y9)), y8.2.2)) (fun _ => (by first | rfl | (simp only [enc2, enc3, enc4, enc5, enc6, encL, encU, encO, idD, List.map_map, Function.comp_def]; rfl) | (simp only [enc2, enc3, enc4, enc5, enc6, encL, encU, encO, idD, List.map_map, Function.comp_def]))) (t_as (encL (enc3 PyData.int (encL (enc3 PyData.int PyData.int PyData.int)) (encL PyData.int))) ([(loop.1, ([((-1), 1, 1)] : List (Int × Int × Int)), loop.2.2), (loop.1, loop.2.1, ([loop.1] : List Int)), (loop.1, loop.2.1, ([(-1)] : List Int)), (loop.1, loop.2.1, ([1, 1] : List Int))] : List (Int × (List (Int × Int × Int)) × (List Int))) (t_seq (t_cons (t_as (enc3 PyData.int (encL (enc3 PyData.int PyData.int PyData.int)) (encL PyData.int)) (loop.1, ([((-1), 1, 1)] : List (Int × Int × Int)), loop.2.2) (t_seq (t_cons (t_get rfl) (t_cons (t_as (encL (enc3 PyData.int PyData.int PyData.int)) ([((-1), 1, 1)] : List (Int × Int × Int)) (t_seq (t_cons (t_as (enc3 PyData.int PyData.int PyData.int) ((-1), 1, 1) (t_seq (t_cons (t_1 t_c f_neg) (t_cons t_c (t_cons t_c t_nil))) (mTup_ok rfl))) t_nil) (mLst_ok rfl))) (t_cons (t_get rfl) t_nil))) (mTup_ok rfl))) (t_cons (t_as (enc3 PyData.int (encL (enc3 PyData.int PyData.int PyData.int)) (encL PyData.int)) (loop.1, loop.2.1, ([loop.1] : List Int)) (t_seq (t_cons (t_get rfl) (t_cons (t_get rfl) (t_cons (t_as (encL PyData.int) ([loop.1] : List Int) (t_seq (t_cons (t_get rfl) t_nil) (mLst_ok rfl))) t_nil))) (mTup_ok rfl))) (t_cons (t_as (enc3 PyData.int (encL (enc3 PyData.int PyData.int PyData.int)) (encL PyData.int)) (loop.1, loop.2.1, ([(-1)] : List Int)) (t_seq (t_cons (t_get rfl) (t_cons (t_get rfl) (t_cons (t_as (encL PyData.int) ([(-1)] : List Int) (t_seq (t_cons (t_1 t_c f_neg) t_nil) (mLst_ok rfl))) t_nil))) (mTup_ok rfl))) (t_cons (t_as (enc3 PyData.int (encL (enc3 PyData.int PyData.int PyData.int)) (encL PyData.int)) (loop.1, loop.2.1, ([1, 1] : List Int)) (t_seq (t_cons (t_get rfl) (t_cons (t_get rfl) (t_cons (t_as (encL PyData.int) ([1, 1] : List Int) (t_seq (t_cons t_c (t_cons t_c t_nil)) (mLst_ok rfl))) t_nil))) (mTup_ok rfl))) t_nil)))) (mLst_ok rfl)))) (f_addL hb4.1)) hb4.2 (fun found4 hb5 =>
  (ts_p [vv (enc3 PyData.int (encL (enc3 PyData.int PyData.int PyData.int)) (encL PyData.int)) loop, vv PyData.int pick, vv PyData.int loop.1, vv (encL (enc3 PyData.int PyData.int PyData.int)) loop.2.1, vv (encL PyData.int) loop.2.2, vv PyData.int place_bend_more.1, vv PyData.int place_bend_more.2.1, vv PyData.int place_bend_more.2.2, vv (encL (enc3 idD (encL idD) (encL PyData.int))) found4, none] rfl (ts_setG (QQ := QF (encL (enc3 idD (encL idD) (encL idD)))) (eγ := (encL (enc3 idD (encL idD) (encL idD)))) (t_2 (t_coL (e := (enc3 idD (encL idD) (encL PyData.int))) (e' := (enc3 idD (encL idD) (encL idD))) (fun y17 => (y17.1, y17.2.1, (y17.2.2.map fun y18 => (PyData.int y18)))) (fun _ => (by first | rfl | (simp only [enc2, enc3, enc4, enc5, enc6, encL, encU, encO, idD, List.map_map, Function.comp_def]; rfl) | (simp only [enc2, enc3, enc4, enc5, enc6, encL, encU, encO, idD, List.map_map, Function.comp_def]))) (t_get rfl)) (t_coL (e := (enc3 PyData.int (encL (enc3 idD PyData.int PyData.int)) (encL idD))) (e' := (enc3 idD (encL idD) (encL idD))) (fun y19 => ((PyData.int y19.1), (y19.2.1.map fun y20 => ((enc3 idD PyData.int PyData.int) y20)), y19.2.2)) (fun _ => (by first | rfl | (simp only [enc2, enc3, enc4, enc5, enc6, encL, encU, encO, idD, List.map_map, Function.comp_def]; rfl) | (simp only [enc2, enc3, enc4, enc5, enc6, encL, encU, encO, idD, List.map_map, Function.comp_def]))) (t_as (encL (enc3 PyData.int (encL (enc3 idD PyData.int PyData.int)) (encL idD))) ([(loop.1, (loop.2.1.map fun y10 => ((PyData.int y10.1), y10.2.1, y10.2.2)), (([1, 0] : List Int).map fun y11 => (PyData.int y11))), (loop.1, (loop.2.1.map fun y12 => ((PyData.int y12.1), y12.2.1, y12.2.2)), (([("0" : Str)] : List Str).map fun y13 => (PyData.str y13))), (loop.1, (loop.2.1.map fun y14 => ((PyData.int y14.1), y14.2.1, y14.2.2)), ([(PyData.bool false), (PyData.int 1)] : List PyData)), (loop.1, (([(true, 1, 0)] : List (Bool × Int × Int)).map fun y15 => ((PyData.bool y15.1), y15.2.1, y15.2.2)), (loop.2.2.map fun y16 => (PyData.int y16)))] : List (Int × (List (PyData × Int × Int)) × (List PyData))) (t_seq (t_cons (t_coE (e := (enc3 PyData.int (encL (enc3 PyData.int PyData.int PyData.int)) (encL PyData.int))) (e' := (enc3 PyData.int (encL (enc3 idD PyData.int PyData.int)) (encL idD))) (x := (loop.1, loop.2.1, ([1, 0] : List Int))) (loop.1, (loop.2.1.map fun y10 => ((PyData.int y10.1), y10.2.1, y10.2.2)), (([1, 0] : List Int).map fun y11 => (PyData.int y11))) (by first | rfl | (simp only [enc2, enc3, enc4, enc5, enc6, encL, encU, encO, idD, List.map_map, Function.comp_def]; rfl) | (simp only [enc2, enc3, enc4, enc5, enc6, encL, encU, encO, idD, List.map_map, Function.comp_def])) (t_as (enc3 PyData.int (encL (enc3 PyData.int PyData.int PyData.int)) (encL PyData.int)) (loop.1, loop.2.1, ([1, 0] : List Int)) (t_seq (t_cons (t_get rfl) (t_cons (t_get rfl) (t_cons (t_as (encL PyData.int) ([1, 0] : List Int) (t_seq (t_cons t_c (t_cons t_c t_nil)) (mLst_ok rfl))) t_nil))) (mTup_ok rfl)))) (t_cons (t_coE (e := (enc3 PyData.int (encL (enc3 PyData.int PyData.int PyData.int)) (encL PyData.str))) (e' := (enc3 PyData.int (encL (enc3 idD PyData.int PyData.int)) (encL idD))) (x := (loop.1, loop.2.1, ([("0" : Str)] : List Str))) (loop.1, (loop.2.1.map fun y12 => ((PyData.int y12.1), y12.2.1, y12.2.2)), (([("0" : Str)] : List Str).map fun y13 => (PyData.str y13))) (by first | rfl | (simp only [enc2, enc3, enc4, enc5, enc6, encL, encU, encO, idD, List.map_map, Function.comp_def]; rfl) | (simp only [enc2, enc3, enc4, enc5, enc6, encL, encU, encO, idD, List.map_map, Function.comp_def])) (t_as (enc3 PyData.int (encL (enc3 PyData.int PyData.int PyData.int)) (encL PyData.str)) (loop.1, loop.2.1, ([("0" : Str)] : List Str)) (t_seq (t_cons (t_get rfl) (t_cons (t_get rfl) (t_cons (t_as (encL PyData.str) ([("0" : Str)] : List Str) (t_seq (t_cons t_c t_nil) (mLst_ok rfl))) t_nil))) (mTup_ok rfl)))) (t_cons (t_coE (e := (enc3 PyData.int (encL (enc3 PyData.int PyData.int PyData.int)) (encL idD))) (e' := (enc3 PyData.int (encL (enc3 idD PyData.int PyData.int)) (encL idD))) (x := (loop.1, loop.2.1, ([(PyData.bool false), (PyData.int 1)] : List PyData))) (loop.1, (loop.2.1.map fun y14 => ((PyData.int y14.1), y14.2.1, y14.2.2)), ([(PyData.bool false), (PyData.int 1)] : List PyData)) (by first | rfl | (simp only [enc2, enc3, enc4, enc5, enc6, encL, encU, encO, idD, List.map_map, Function.comp_def]; rfl) | (simp only [enc2, enc3, enc4, enc5, enc6, encL, encU, encO, idD, List.map_map, Function.comp_def])) (t_as (enc3 PyData.int (encL (enc3 PyData.int PyData.int PyData.int)) (encL idD)) (loop.1, loop.2.1, ([(PyData.bool false), (PyData.int 1)] : List PyData)) (t_seq (t_cons (t_get rfl) (t_cons (t_get rfl) (t_cons (t_as (encL idD) ([(PyData.bool false), (PyData.int 1)] : List PyData) (t_seq (t_cons t_c (t_cons t_c t_nil)) (mLst_ok rfl))) t_nil))) (mTup_ok rfl)))) (t_cons (t_coE (e := (enc3 PyData.int (encL (enc3 PyData.bool PyData.int PyData.int)) (encL PyData.int))) (e' := (enc3 PyData.int (encL (enc3 idD PyData.int PyData.int)) (encL idD))) (x := (loop.1, ([(true, 1, 0)] : List (Bool × Int × Int)), loop.2.2)) (loop.1, (([(true, 1, 0)] : List (Bool × Int × Int)).map fun y15 => ((PyData.bool y15.1), y15.2.1, y15.2.2)), (loop.2.2.map fun y16 => (PyData.int y16))) (by first | rfl | (simp only [enc2, enc3, enc4, enc5, enc6, encL, encU, encO, idD, List.map_map, Function.comp_def]; rfl) | (simp only [enc2, enc3, enc4, enc5, enc6, encL, encU, encO, idD, List.map_map, Function.comp_def])) (t_as (enc3 PyData.int (encL (enc3 PyData.bool PyData.int PyData.int)) (encL PyData.int)) (loop.1, ([(true, 1, 0)] : List (Bool × Int × Int)), loop.2.2) (t_seq (t_cons (t_get rfl) (t_cons (t_as (encL (enc3 PyData.bool PyData.int PyData.int)) ([(true, 1, 0)] : List (Bool × Int × Int)) (t_seq (t_cons (t_as (enc3 PyData.bool PyData.int PyData.int) (true, 1, 0) (t_seq (t_cons t_c (t_cons t_c (t_cons t_c t_nil))) (mTup_ok rfl))) t_nil) (mLst_ok rfl))) (t_cons (t_get rfl) t_nil))) (mTup_ok rfl)))) t_nil)))) (mLst_ok rfl)))) (f_addL hb5.1)) hb5.2 (fun found5 hb6 =>
  (ts_p [vv (enc3 PyData.int (encL (enc3 PyData.int PyData.int PyData.int)) (encL PyData.int)) loop, vv PyData.int pick, vv PyData.int loop.1, vv (encL (enc3 PyData.int PyData.int PyData.int)) loop.2.1, vv (encL PyData.int) loop.2.2, vv PyData.int place_bend_more.1, vv PyData.int place_bend_more.2.1, vv PyData.int place_bend_more.2.2, vv (encL (enc3 idD (encL idD) (encL idD))) found5, none] rfl (ts_setG (QQ := QF (encL (enc3 idD (encL idD) (encL idD)))) (eγ := (encL (enc3 idD (encL idD) (encL idD)))) (t_2 (t_get rfl) (t_coL (e := (enc3 idD (encL (enc3 PyData.int PyData.int PyData.int)) (encL PyData.int))) (e' := (enc3 idD (encL idD) (encL idD))) (fun y21 => (y21.1, (y21.2.1.map fun y22 => ((enc3 PyData.int PyData.int PyData.int) y22)), (y21.2.2.map fun y23 => (PyData.int y23)))) (fun _ => (by first | rfl | (simp only [enc2, enc3, enc4, enc5, enc6, encL, encU, encO, idD, List.map_map, Function.comp_def]; rfl) | (simp only [enc2, enc3, enc4, enc5, enc6, encL, encU, encO, idD, List.map_map, Function.comp_def]))) (t_as (encL (enc3 idD (encL (enc3 PyData.int PyData.int PyData.int)) (encL PyData.int))) ([(PyData.none, ([(0, 1, 0)] : List (Int × Int × Int)), []), ((PyData.int 500), ((rngI 0 21).map fun (k : Int) => (k, 1, 0)), []), ((PyData.str ("12" : Str)), loop.2.1, loop.2.2)] : List (PyData × (List (Int × Int × Int)) × (List Int))) (t_seq (t_cons (t_coE (e := (enc3 eN (encL (enc3 PyData.int PyData.int PyData.int)) (encL PyData.int))) (e' := (enc3 idD (encL (enc3 PyData.int PyData.int PyData.int)) (encL PyData.int))) (x := ((), ([(0, 1, 0)] : List (Int × Int × Int)), [])) (PyData.none, ([(0, 1, 0)] : List (Int × Int × Int)), []) (by first | rfl | (simp only [enc2, enc3, enc4, enc5, enc6, encL, encU, encO, idD, List.map_map, Function.comp_def]; rfl) | (simp only [enc2, enc3, enc4, enc5, enc6, encL, encU, encO, idD, List.map_map, Function.comp_def])) (t_as (enc3 eN (encL (enc3 PyData.int PyData.int PyData.int)) (encL PyData.int)) ((), ([(0, 1, 0)] : List (Int × Int × Int)), []) (t_seq (t_cons t_c (t_cons (t_as (encL (enc3 PyData.int PyData.int PyData.int)) ([(0, 1, 0)] : List (Int × Int × Int)) (t_seq (t_cons (t_as (enc3 PyData.int PyData.int PyData.int) (0, 1, 0) (t_seq (t_cons t_c (t_cons t_c (t_cons t_c t_nil))) (mTup_ok rfl))) t_nil) (mLst_ok rfl))) (t_cons (t_as (encL PyData.int) [] (t_seq t_nil (mLst_ok rfl))) t_nil))) (mTup_ok rfl)))) (t_cons (t_coE (e := (enc3 PyData.int (encL (enc3 PyData.int PyData.int PyData.int)) (encL PyData.int))) (e' := (enc3 idD (encL (enc3 PyData.int PyData.int PyData.int)) (encL PyData.int))) (x := (500, ((rngI 0 21).map fun (k : Int) => (k, 1, 0)), [])) ((PyData.int 500), ((rngI 0 21).map fun (k : Int) => (k, 1, 0)), []) (by first | rfl | (simp only [enc2, enc3, enc4, enc5, enc6, encL, encU, encO, idD, List.map_map, Function.comp_def]; rfl) | (simp only [enc2, enc3, enc4, enc5, enc6, encL, encU, encO, idD, List.map_map, Function.comp_def])) (t_as (enc3 PyData.int (encL (enc3 PyData.int PyData.int PyData.int)) (encL PyData.int)) (500, ((rngI 0 21).map fun (k : Int) => (k, 1, 0)), []) (t_seq (t_cons t_c (t_cons (t_L (t_lc0 (e := PyData.int) (xs := (rngI 0 21)) (e' := (enc3 PyData.int PyData.int PyData.int)) (t_wk (t_cons t_c t_nil) (f_rng1 (by decide))) hb6.1 (fun k => tg_n) (fun k hx7 => (tm_p [vv (enc3 PyData.int (encL (enc3 PyData.int PyData.int PyData.int)) (encL PyData.int)) loop, vv PyData.int pick, vv PyData.int loop.1, vv (encL (enc3 PyData.int PyData.int PyData.int)) loop.2.1, vv (encL PyData.int) loop.2.2, vv PyData.int place_bend_more.1, vv PyData.int place_bend_more.2.1, vv PyData.int place_bend_more.2.2, vv (encL (enc3 idD (encL idD) (encL idD))) found5, vv PyData.int k] rfl (t_as (enc3 PyData.int PyData.int PyData.int) (k, 1, 0) (t_seq (t_cons (t_get rfl) (t_cons t_c (t_cons t_c t_nil))) (mTup_ok rfl))))))) (t_cons (t_as (encL PyData.int) [] (t_seq t_nil (mLst_ok rfl))) t_nil))) (mTup_ok rfl)))) (t_cons (t_coE (e := (enc3 PyData.str (encL (enc3 PyData.int PyData.int PyData.int)) (encL PyData.int))) (e' := (enc3 idD (encL (enc3 PyData.int PyData.int PyData.int)) (encL PyData.int))) (x := (("12" : Str), loop.2.1, loop.2.2)) ((PyData.str ("12" : Str)), loop.2.1, loop.2.2) (by first | rfl | (simp only [enc2, enc3, enc4, enc5, enc6, encL, encU, encO, idD, List.map_map, Function.comp_def]; rfl) | (simp only [enc2, enc3, enc4, enc5, enc6, encL, encU, encO, idD, List.map_map, Function.comp_def])) (t_as (enc3 PyData.str (encL (enc3 PyData.int PyData.int PyData.int)) (encL PyData.int)) (("12" : Str), loop.2.1, loop.2.2) (t_seq (t_cons t_c (t_cons (t_get rfl) (t_cons (t_get rfl) t_nil))) (mTup_ok rfl)))) t_nil))) (mLst_ok rfl)))) (f_addL hb6.2.1)) hb6.2.2 (fun found6 hb8 =>
  (ts_p [vv (enc3 PyData.int (encL (enc3 PyData.int PyData.int PyData.int)) (encL PyData.int)) loop, vv PyData.int pick, vv PyData.int loop.1, vv (encL (enc3 PyData.int PyData.int PyData.int)) loop.2.1, vv (encL PyData.int) loop.2.2, vv PyData.int place_bend_more.1, vv PyData.int place_bend_more.2.1, vv PyData.int place_bend_more.2.2, vv (encL (enc3 idD (encL idD) (encL idD))) found6, none] rfl (ts_end (ts_retF (t_L (t_lc0 (e := PyData.int) (xs := (rngI 0 6)) (e' := (enc3 idD (encL idD) (encL idD))) (t_wk (t_cons t_c t_nil) (f_rng1 (by decide))) hb8.1 (fun k2 => tg_n) (fun k2 hx9 => (tm_p [vv (enc3 PyData.int (encL (enc3 PyData.int PyData.int PyData.int)) (encL PyData.int)) loop, vv PyData.int pick, vv PyData.int loop.1, vv (encL (enc3 PyData.int PyData.int PyData.int)) loop.2.1, vv (encL PyData.int) loop.2.2, vv PyData.int place_bend_more.1, vv PyData.int place_bend_more.2.1, vv PyData.int place_bend_more.2.2, vv (encL (enc3 idD (encL idD) (encL idD))) found6, vv PyData.int k2] rfl (t_2 (t_get rfl) (t_2 (t_call (t_cons (t_2 (t_get rfl) (t_2 t_c (t_get rfl) (f_mul (mulOk_l (by decide) (by decide)))) f_add) t_nil) f_intI) (t_call (t_cons (t_get rfl) t_nil) f_lenL) (f_mod (hb8.2 k2 hx9).1)) (f_idxL (d := (PyData.none, [], [])) (hb8.2 k2 hx9).2)))))))))))))))))))))))))))))))))
noncomputable def F_is_whole_2 (value : PyData) : Bool :=
  ((isTy Ty.int value) && (!(isTy Ty.bool value)))
theorem T_is_whole_2 (value : PyData) : m_is_whole [idD value] = .ok (PyData.bool (F_is_whole_2 value)) :=
  t_fn (b := b_is_whole) (eτ := PyData.bool) rfl
  ((ts_p [vv idD value] rfl (ts_end (ts_retF (t_and (t_is (t_get rfl) rfl) fun hc1 => (t_1 (t_is (t_get rfl) rfl) f_not))))))
noncomputable def F_is_wheel_2 (pieces : PyData) (wheel : PyData) : Bool :=
  (if ((!(isTy Ty.tuple wheel)) || ((!decide (((seqD wheel).length : Int) = 3)) || (!(((seqD wheel).map fun (number : PyData) => (F_is_whole_2 number)).all id)))) = true then false
  else (((decide (0 ≤ (asI ((seqD wheel).getD 0 PyData.none)))) && (decide ((asI ((seqD wheel).getD 0 PyData.none)) < (asI pieces)))) && ((decide (1 ≤ (asI ((seqD wheel).getD 1 PyData.none)))) && (decide (0 ≤ (asI ((seqD wheel).getD 2 PyData.none)))))))
def S_is_wheel_2 (pieces : PyData) (wheel : PyData) : Prop :=
  ((!(isTy Ty.tuple wheel)) = false → isSq wheel = true ∧ ((!decide (((seqD wheel).length : Int) = 3)) = false → (seqD wheel).length ≤ sizeLine)) ∧ (((!(isTy Ty.tuple wheel)) || ((!decide (((seqD wheel).length : Int) = 3)) || (!(((seqD wheel).map fun (number : PyData) => (F_is_whole_2 number)).all id)))) = false → isSq wheel = true ∧ (seqD wheel).length = 3 ∧ isI ((seqD wheel).getD 0 PyData.none) ∧ ((decide (0 ≤ (asI ((seqD wheel).getD 0 PyData.none)))) = true → isI pieces) ∧ (((decide (0 ≤ (asI ((seqD wheel).getD 0 PyData.none)))) && (decide ((asI ((seqD wheel).getD 0 PyData.none)) < (asI pieces)))) = true → isI ((seqD wheel).getD 1 PyData.none) ∧ ((decide (1 ≤ (asI ((seqD wheel).getD 1 PyData.none)))) = true → isI ((seqD wheel).getD 2 PyData.none))))
theorem T_is_wheel_2 (pieces : PyData) (wheel : PyData) (h : S_is_wheel_2 pieces wheel) : m_is_wheel [idD pieces, idD wheel] = .ok (PyData.bool (F_is_wheel_2 pieces wheel)) :=
  t_fn (b := b_is_wheel) (eτ := PyData.bool) rfl
  ((ts_p [vv idD pieces, vv idD wheel, none, none, none, none] rfl (ts_if (QQ := QF PyData.bool) (t_orB (t_notB (t_T (t_is (t_get rfl) rfl) f_truB)) fun hc1 => (t_orB (t_B (t_2 (t_call (t_cons (t_get rfl) t_nil) (f_lenA (h.1 hc1).1)) t_c (f_ne eqe_I))) fun hc2 => (t_notB (t_T (t_call (t_cons (t_L (t_lc0 (e := idD) (xs := (seqD wheel)) (e' := PyData.bool) (t_items (t_get rfl) (f_itemsA (h.1 hc1).1)) ((h.1 hc1).2 hc2) (fun number => tg_n) (fun number hx3 => (tm_p [vv idD pieces, vv idD wheel, vv idD number, none, none, none] rfl (t_seq (t_cons (t_get rfl) t_nil) (T_is_whole_2 _)))))) t_nil) f_all) f_truB)))) (fun hc4 => (ts_retF t_c))
  (fun hc4 => (ts_nx (ts_p [vv idD pieces, vv idD wheel, none, none, none, none] rfl (ts_asg (t_get rfl) (tg_A (n := 3) (h.2 hc4).1 (h.2 hc4).2.1 (tg_c tg_n (tg_c tg_n (tg_c tg_n tg_e)))) (ts_p [vv idD pieces, vv idD wheel, none, vv idD ((seqD wheel).getD 0 PyData.none), vv idD ((seqD wheel).getD 1 PyData.none), vv idD ((seqD wheel).getD 2 PyData.none)] rfl (ts_end (ts_retF (t_and (t_chain t_c (t_asI (h.2 hc4).2.2.1 (t_get rfl)) f_le (fun hc5 => (t_asI ((h.2 hc4).2.2.2.1 hc5) (t_get rfl))) (fun hc5 => f_lt)) fun hc6 => (t_and (t_2 (t_asI ((h.2 hc4).2.2.2.2 hc6).1 (t_get rfl)) t_c f_ge) fun hc7 => (t_2 (t_asI (((h.2 hc4).2.2.2.2 hc6).2 hc7) (t_get rfl)) t_c f_ge)))))))))))))
noncomputable def F_rises_2 (numbers : (List PyData)) : Bool :=
  (((rngI 0 ((numbers.length : Int) - 1)).map fun (k : Int) => (cmpA pLt (numbers.getD (k).toNat PyData.none) (numbers.getD ((k + 1)).toNat PyData.none))).all id)
def S_rises_2 (numbers : (List PyData)) : Prop :=
  r62 ((numbers.length : Int) - 1) ∧ (rngI 0 ((numbers.length : Int) - 1)).length ≤ sizeLine ∧ (∀ k ∈ (rngI 0 ((numbers.length : Int) - 1)), ixOk numbers.length k ∧ ixOk numbers.length (k + 1) ∧ cmpOk pLt (numbers.getD (k).toNat PyData.none) (numbers.getD ((k + 1)).toNat PyData.none))
theorem T_rises_2 (numbers : (List PyData)) (h : S_rises_2 numbers) : m_rises [(encL idD) numbers] = .ok (PyData.bool (F_rises_2 numbers)) :=
  t_fn (b := b_rises) (eτ := PyData.bool) rfl
  ((ts_p [vv (encL idD) numbers, none] rfl (ts_end (ts_retF (t_call (t_cons (t_L (t_lc0 (e := PyData.int) (xs := (rngI 0 ((numbers.length : Int) - 1))) (e' := PyData.bool) (t_wk (t_cons (t_2 (t_call (t_cons (t_get rfl) t_nil) f_lenL) t_c f_sub) t_nil) (f_rng1 h.1)) h.2.1 (fun k => tg_n) (fun k hx1 => (tm_p [vv (encL idD) numbers, vv PyData.int k] rfl (t_2 (t_2 (t_get rfl) (t_get rfl) (f_idxL (d := PyData.none) (h.2.2 k hx1).1)) (t_2 (t_get rfl) (t_2 (t_get rfl) t_c f_add) (f_idxL (d := PyData.none) (h.2.2 k hx1).2.1)) (f_cmpA (h.2.2 k hx1).2.2)))))) t_nil) f_all)))))
noncomputable def F_are_wheels_2 (pieces : PyData) (wheels : (List PyData)) : Bool :=
  (if ((!((decide (1 ≤ (wheels.length : Int))) && (decide ((wheels.length : Int) ≤ 20)))) || (!((wheels.map fun (wheel : PyData) => (F_is_wheel_2 pieces wheel)).all id))) = true then false
  else (F_rises_2 (wheels.map fun (wheel2 : PyData) => ((seqD wheel2).getD 0 PyData.none))))
def S_are_wheels_2 (pieces : PyData) (wheels : (List PyData)) : Prop :=
  ((!((decide (1 ≤ (wheels.length : Int))) && (decide ((wheels.length : Int) ≤ 20)))) = false → wheels.length ≤ sizeLine ∧ (∀ wheel ∈ wheels, S_is_wheel_2 pieces wheel)) ∧ (((!((decide (1 ≤ (wheels.length : Int))) && (decide ((wheels.length : Int) ≤ 20)))) || (!((wheels.map fun (wheel : PyData) => (F_is_wheel_2 pieces wheel)).all id))) = false → wheels.length ≤ sizeLine ∧ (∀ wheel2 ∈ wheels, isSq wheel2 = true ∧ 0 < (seqD wheel2).length) ∧ (S_rises_2 (wheels.map fun (wheel2 : PyData) => ((seqD wheel2).getD 0 PyData.none))))
theorem T_are_wheels_2 (pieces : PyData) (wheels : (List PyData)) (h : S_are_wheels_2 pieces wheels) : m_are_wheels [idD pieces, (encL idD) wheels] = .ok (PyData.bool (F_are_wheels_2 pieces wheels)) :=
  t_fn (b := b_are_wheels) (eτ := PyData.bool) rfl
  ((ts_p [vv idD pieces, vv (encL idD) wheels, none] rfl (ts_if (QQ := QF PyData.bool) (t_orB (t_notB (t_B (t_chain t_c (t_call (t_cons (t_get rfl) t_nil) f_lenL) f_le (fun hc1 => t_c) (fun hc1 => f_le)))) fun hc2 => (t_notB (t_T (t_call (t_cons (t_L (t_lc0 (e := idD) (xs := wheels) (e' := PyData.bool) (t_items (t_get rfl) f_items) (h.1 hc2).1 (fun wheel => tg_n) (fun wheel hx3 => (tm_p [vv idD pieces, vv (encL idD) wheels, vv idD wheel] rfl (t_seq (t_cons (t_get rfl) (t_cons (t_get rfl) t_nil)) (T_is_wheel_2 _ _ ((h.1 hc2).2 wheel hx3))))))) t_nil) f_all) f_truB))) (fun hc4 => (ts_retF t_c))
  (fun hc4 => (ts_nx (ts_p [vv idD pieces, vv (encL idD) wheels, none] rfl (ts_end (ts_retF (t_seq (t_cons (t_L (t_lc0 (e := idD) (xs := wheels) (e' := idD) (t_items (t_get rfl) f_items) (h.2 hc4).1 (fun wheel2 => tg_n) (fun wheel2 hx5 => (tm_p [vv idD pieces, vv (encL idD) wheels, vv idD wheel2] rfl (t_2 (t_get rfl) t_c (f_idxAK 0 rfl ((h.2 hc4).2.1 wheel2 hx5).1 ((h.2 hc4).2.1 wheel2 hx5).2)))))) t_nil) (T_rises_2 _ (h.2 hc4).2.2))))))))))
noncomputable def F_is_index_2 (value : PyData) (count : PyData) : Bool :=
  ((F_is_whole_2 value) && ((decide (0 ≤ (asI value))) && (decide ((asI value) < (asI count)))))
def S_is_index_2 (value : PyData) (count : PyData) : Prop :=
  ((F_is_whole_2 value) = true → isI value ∧ ((decide (0 ≤ (asI value))) = true → isI count))
theorem T_is_index_2 (value : PyData) (count : PyData) (h : S_is_index_2 value count) : m_is_index [idD value, idD count] = .ok (PyData.bool (F_is_index_2 value count)) :=
  t_fn (b := b_is_index) (eτ := PyData.bool) rfl
  ((ts_p [vv idD value, vv idD count] rfl (ts_end (ts_retF (t_and (t_seq (t_cons (t_get rfl) t_nil) (T_is_whole_2 _)) fun hc1 => (t_chain t_c (t_asI (h hc1).1 (t_get rfl)) f_le (fun hc2 => (t_asI ((h hc1).2 hc2) (t_get rfl))) (fun hc2 => f_lt)))))))
noncomputable def F_are_indexes_2 (values : (List PyData)) (count : PyData) : Bool :=
  (((values.map fun (value : PyData) => (F_is_index_2 value count)).all id) && (F_rises_2 values))
def S_are_indexes_2 (values : (List PyData)) (count : PyData) : Prop :=
  values.length ≤ sizeLine ∧ (∀ value ∈ values, S_is_index_2 value count) ∧ (((values.map fun (value : PyData) => (F_is_index_2 value count)).all id) = true → S_rises_2 values)
theorem T_are_indexes_2 (values : (List PyData)) (count : PyData) (h : S_are_indexes_2 values count) : m_are_indexes [(encL idD) values, idD count] = .ok (PyData.bool (F_are_indexes_2 values count)) :=
  t_fn (b := b_are_indexes) (eτ := PyData.bool) rfl
  ((ts_p [vv (encL idD) values, vv idD count, none] rfl (ts_end (ts_retF (t_and (t_call (t_cons (t_L (t_lc0 (e := idD) (xs := values) (e' := PyData.bool) (t_items (t_get rfl) f_items) h.1 (fun value => tg_n) (fun value hx1 => (tm_p [vv (encL idD) values, vv idD count, vv idD value] rfl (t_seq (t_cons (t_get rfl) (t_cons (t_get rfl) t_nil)) (T_is_index_2 _ _ (h.2.1 value hx1))))))) t_nil) f_all) fun hc2 => (t_seq (t_cons (t_get rfl) t_nil) (T_rises_2 _ (h.2.2 hc2))))))))
noncomputable def F_check_loop_2 (loop : (PyData × (List PyData) × (List PyData))) : Ex Unit :=
  (if ((!(F_is_whole_2 loop.1)) || (!((decide (2 ≤ (asI loop.1))) && (decide ((asI loop.1) ≤ 500))))) = true then (Ex.exc "InvalidLoop")
  else (if (!(F_are_wheels_2 loop.1 loop.2.1)) = true then (Ex.exc "InvalidLoop")
  else (if (!(F_are_indexes_2 loop.2.2 loop.1)) = true then (Ex.exc "InvalidLoop")
  else (Ex.ok ()))))
def S_check_loop_2 (loop : (PyData × (List PyData) × (List PyData))) : Prop :=
  ((!(F_is_whole_2 loop.1)) = false → isI loop.1) ∧ (((!(F_is_whole_2 loop.1)) || (!((decide (2 ≤ (asI loop.1))) && (decide ((asI loop.1) ≤ 500))))) = false → S_are_wheels_2 loop.1 loop.2.1 ∧ ((!(F_are_wheels_2 loop.1 loop.2.1)) = false → S_are_indexes_2 loop.2.2 loop.1))
theorem T_check_loop_2 (loop : (PyData × (List PyData) × (List PyData))) (h : S_check_loop_2 loop) : m_check_loop [(enc3 idD (encL idD) (encL idD)) loop] = (F_check_loop_2 loop).re eN :=
  t_fnx (b := b_check_loop) (eτ := eN) rfl
  ((ts_p [vv (enc3 idD (encL idD) (encL idD)) loop, none, none, none] rfl (ts_asg (t_get rfl) (tg_t (tg_c tg_n (tg_c tg_n (tg_c tg_n tg_e))) rfl) (ts_p [vv (enc3 idD (encL idD) (encL idD)) loop, vv idD loop.1, vv (encL idD) loop.2.1, vv (encL idD) loop.2.2] rfl (ts_if (QQ := QFx eN) (t_orB (t_notB (t_T (t_seq (t_cons (t_get rfl) t_nil) (T_is_whole_2 _)) f_truB)) fun hc1 => (t_notB (t_B (t_chain t_c (t_asI (h.1 hc1) (t_get rfl)) f_le (fun hc2 => t_c) (fun hc2 => f_le))))) (fun hc3 => (ts_raisex (eτ := eN) (X0 := [none, none, none, none]) (v := ()) (.any (.any (.any (.any .nil)))) (fun _ h => kFx h)))
  (fun hc3 => (ts_nx (ts_p [vv (enc3 idD (encL idD) (encL idD)) loop, vv idD loop.1, vv (encL idD) loop.2.1, vv (encL idD) loop.2.2] rfl (ts_if (QQ := QFx eN) (t_notB (t_T (t_seq (t_cons (t_get rfl) (t_cons (t_get rfl) t_nil)) (T_are_wheels_2 _ _ (h.2 hc3).1)) f_truB)) (fun hc4 => (ts_raisex (eτ := eN) (X0 := [none, none, none, none]) (v := ()) (.any (.any (.any (.any .nil)))) (fun _ h => kFx h)))
  (fun hc4 => (ts_nx (ts_p [vv (enc3 idD (encL idD) (encL idD)) loop, vv idD loop.1, vv (encL idD) loop.2.1, vv (encL idD) loop.2.2] rfl (ts_end (ts_if (QQ := QFx eN) (t_notB (t_T (t_seq (t_cons (t_get rfl) (t_cons (t_get rfl) t_nil)) (T_are_indexes_2 _ _ ((h.2 hc3).2 hc4))) f_truB)) (fun hc5 => (ts_raisex (eτ := eN) (X0 := [none, none, none, none]) (v := ()) (.any (.any (.any (.any .nil)))) (fun _ h => kFx h)))
  (fun hc5 => (ts_nx (ts_p [vv (enc3 idD (encL idD) (encL idD)) loop, vv idD loop.1, vv (encL idD) loop.2.1, vv (encL idD) loop.2.2] rfl (ts_finFx rfl))))))))))))))))))
noncomputable def F_law_refused (loop : (PyData × (List PyData) × (List PyData))) : Bool :=
  (tryE ((Ex.el (F_check_loop_2 loop) (fun (v : Unit) =>
  Lp.nx ()) (fun (cl : Str) => (Lp.rt (Ex.exc cl)))) : Lp (Unit) (Ex Bool)) (fun (st : Unit) =>
  false) (fun v => v) (fun (cl : Str) => (if subX cl "InvalidLoop" = true then ((subX cl "RopeError") && (subX cl "ValueError")) else false)))
def S_law_refused (loop : (PyData × (List PyData) × (List PyData))) : Prop :=
  S_check_loop_2 loop ∧ (∀ cl, ((Ex.el (F_check_loop_2 loop) (fun (v : Unit) =>
  Lp.nx ()) (fun (cl : Str) => (Lp.rt (Ex.exc cl)))) : Lp (Unit) (Ex Bool)) = Lp.rt (Ex.exc cl) → cl ∈ exL) ∧ (∀ cl, ((Ex.el (F_check_loop_2 loop) (fun (v : Unit) =>
  Lp.nx ()) (fun (cl : Str) => (Lp.rt (Ex.exc cl)))) : Lp (Unit) (Ex Bool)) = Lp.rt (Ex.exc cl) → (subX cl "InvalidLoop" = false → False))
theorem T_law_refused (loop : (PyData × (List PyData) × (List PyData))) (h : S_law_refused loop) : m_law_refused [(enc3 idD (encL idD) (encL idD)) loop] = .ok (PyData.bool (F_law_refused loop)) :=
  t_fn (b := b_law_refused) (eτ := PyData.bool) rfl
  ((ts_p [vv (enc3 idD (encL idD) (encL idD)) loop, none] rfl (ts_tryx (QQ := QF PyData.bool) (E := fun (st : Unit) => [vv (enc3 idD (encL idD) (encL idD)) loop, none]) (Xt := [vv (enc3 idD (encL idD) (encL idD)) loop, none]) (eτ := PyData.bool) (r := ((Ex.el (F_check_loop_2 loop) (fun (v : Unit) =>
  Lp.nx ()) (fun (cl : Str) => (Lp.rt (Ex.exc cl)))) : Lp (Unit) (Ex Bool))) (K := (fun v => v)) (ts_p [vv (enc3 idD (encL idD) (encL idD)) loop, none] rfl (ts_end (ts_ex (QQ := QRx _ [vv (enc3 idD (encL idD) (encL idD)) loop, none] PyData.bool) (eτ := PyData.bool) (X0 := [vv (enc3 idD (encL idD) (encL idD)) loop, none]) (r := (F_check_loop_2 loop)) (Kx := (fun (cl : Str) => (Lp.rt (Ex.exc cl)))) (fun v hv1 => (ts_drop (t_seq (t_cons (t_get rfl) t_nil) (re_ok (T_check_loop_2 _ h.1) hv1)) (ts_p [vv (enc3 idD (encL idD) (encL idD)) loop, none] rfl (ts_finRx (.is (.is .nil))))))
  (fun _ hx2 => xs_drop (tx_call (re_exc (T_check_loop_2 _ h.1) hx2) (t_cons (t_get rfl) t_nil))) (.is (.any .nil)) (fun _ _ h => kRx h)))) (fun st hb3 => (ts_p [vv (enc3 idD (encL idD) (encL idD)) loop, none] rfl (ts_end (ts_retF t_c)))) (fun _ _ => kF) h.2.1 (fun cl hx4 => (ch_cons (QQ := QF PyData.bool) (N := 2) rfl (by decide) (fun hc5 => (ts_p [vv (enc3 idD (encL idD) (encL idD)) loop, some (.exn cl)] rfl (ts_end (ts_retH (t_and (t_isX rfl) fun hc6 => (t_isX rfl)) (fun _ => kF))))) (fun hc5 => (ch_none ((h.2.2 cl hx4) hc5))))))))
noncomputable def F_law (script : (List Int)) : Bool :=
  (bnd (F_law_draws script 0 12) fun (picks : (List Int)) =>
  (bnd (F_law_loop script 1 (([12, 40, 12, 40, 24, 500] : List Int).getD ((((picks.getD 0 0) % 6) * (if (decide (((picks.getD 1 0) % 3) = 0)) = true then (1 : Int) else 0))).toNat 0)) fun (loop : (Int × (List (Int × Int × Int)) × (List Int))) =>
  (bnd (loop.1, loop.2.1, loop.2.2) fun (kept : (Int × (List (Int × Int × Int)) × (List Int))) =>
  (if false = true then false
  else (Lp.el (loopR (fun (s : Unit) (beats : Int) => ((bnd (if (decide (60 < loop.1)) = true then (bnd (beats % 40) fun (beats3 : Int) =>
  beats3) else beats) fun (beats2 : Int) =>
  (bnd (F_law_walked loop beats2) fun (due : (List Int)) =>
  (if (!(decide ((F_all_wear loop beats2) = due))) = true then Stp.rt false
  else (bnd ((picks.getD 4 0) % loop.1) fun (piece : Int) =>
  (if ((!(decide ((F_wear loop piece beats2) = (due.getD (piece).toNat 0)))) || (!decide ((F_law_wear loop piece beats2) = (due.getD (piece).toNat 0)))) = true then Stp.rt false
  else (bnd ((picks.getD 5 0) % loop.1) fun (place : Int) =>
  (if (!(decide ((F_comings loop.1 piece place beats2) = (F_law_came loop.1 piece place beats2)))) = true then Stp.rt false
  else (bnd (([1, (picks.getD 6 0), ((10 ^ 27) + (picks.getD 7 0))] : List Int).getD (((picks.getD 8 0) % 3)).toNat 0) fun (many : Int) =>
  (bnd (loop.2.1.map fun (where_bend_more : (Int × Int × Int)) => (where_bend_more.2.1 + (where_bend_more.2.2 * (if (decide (piece ∈ loop.2.2)) = true then (1 : Int) else 0)))).sum fun (once : Int) =>
  (if (!(decide ((F_turn_wear loop piece) = once))) = true then Stp.rt false
  else (if (!(decide ((F_wear loop piece (beats2 + (many * loop.1))) = ((due.getD (piece).toNat 0) + (many * once))))) = true then Stp.rt false
  else (if (!(decide ((F_comings loop.1 piece place (beats2 + (many * loop.1))) = ((F_law_came loop.1 piece place beats2) + many)))) = true then Stp.rt false
  else Stp.nx ())))))))))))) : Stp (Unit) Bool)) ([0, 1, ((picks.getD 2 0) % (loop.1 + 1)), (min ((2 * loop.1) + 3) (loop.1 + ((picks.getD 3 0) % (loop.1 + 9))))] : List Int) ()) (fun v => v) fun (s2 : Unit) =>
  (Lp.el (loopR (fun (s3 : Unit) (other : (PyData × (List PyData) × (List PyData))) => ((if (!(F_law_refused other)) = true then Stp.rt false
  else Stp.nx ()) : Stp (Unit) Bool)) (F_law_others loop (picks.getD 9 0)) ()) (fun v => v) fun (s32 : Unit) =>
  (decide (loop = kept))))))))
def S_law (script : (List Int)) : Prop :=
  S_law_draws script 0 12 ∧ (bnd (F_law_draws script 0 12) fun (picks : (List Int)) => 0 < picks.length ∧ 1 < picks.length ∧ mulOk ((picks.getD 0 0) % 6) (if (decide (((picks.getD 1 0) % 3) = 0)) = true then (1 : Int) else 0) ∧ ixOk 6 (((picks.getD 0 0) % 6) * (if (decide (((picks.getD 1 0) % 3) = 0)) = true then (1 : Int) else 0)) ∧ S_law_loop script 1 (([12, 40, 12, 40, 24, 500] : List Int).getD ((((picks.getD 0 0) % 6) * (if (decide (((picks.getD 1 0) % 3) = 0)) = true then (1 : Int) else 0))).toNat 0) ∧ (bnd (F_law_loop script 1 (([12, 40, 12, 40, 24, 500] : List Int).getD ((((picks.getD 0 0) % 6) * (if (decide (((picks.getD 1 0) % 3) = 0)) = true then (1 : Int) else 0))).toNat 0)) fun (loop : (Int × (List (Int × Int × Int)) × (List Int))) => (bnd (loop.1, loop.2.1, loop.2.2) fun (kept : (Int × (List (Int × Int × Int)) × (List Int))) => S_check_loop loop ∧ (F_check_loop loop).isOk = true ∧ (false = false → 2 < picks.length ∧ 0 < (loop.1 + 1) ∧ 3 < picks.length ∧ 0 < (loop.1 + 9) ∧ LpR (fun (s : Unit) (beats : Int) => (bnd (if (decide (60 < loop.1)) = true then (bnd (beats % 40) fun (beats3 : Int) =>
  beats3) else beats) fun (beats2 : Int) => S_law_walked loop beats2 ∧ (bnd (F_law_walked loop beats2) fun (due : (List Int)) => S_all_wear loop beats2 ∧ plainD 8 ((encL PyData.int) due) ∧ ((!(decide ((F_all_wear loop beats2) = due))) = false → 4 < picks.length ∧ 0 < loop.1 ∧ (bnd ((picks.getD 4 0) % loop.1) fun (piece : Int) => S_wear loop piece beats2 ∧ ixOk due.length piece ∧ ((!(decide ((F_wear loop piece beats2) = (due.getD (piece).toNat 0)))) = false → S_law_wear loop piece beats2) ∧ (((!(decide ((F_wear loop piece beats2) = (due.getD (piece).toNat 0)))) || (!decide ((F_law_wear loop piece beats2) = (due.getD (piece).toNat 0)))) = false → 5 < picks.length ∧ (bnd ((picks.getD 5 0) % loop.1) fun (place : Int) => S_comings loop.1 piece place beats2 ∧ S_law_came loop.1 piece place beats2 ∧ ((!(decide ((F_comings loop.1 piece place beats2) = (F_law_came loop.1 piece place beats2)))) = false → 6 < picks.length ∧ 7 < picks.length ∧ 8 < picks.length ∧ (bnd (([1, (picks.getD 6 0), ((10 ^ 27) + (picks.getD 7 0))] : List Int).getD (((picks.getD 8 0) % 3)).toNat 0) fun (many : Int) => loop.2.1.length ≤ sizeLine ∧ (∀ where_bend_more ∈ loop.2.1, mulOk where_bend_more.2.2 (if (decide (piece ∈ loop.2.2)) = true then (1 : Int) else 0)) ∧ (bnd (loop.2.1.map fun (where_bend_more : (Int × Int × Int)) => (where_bend_more.2.1 + (where_bend_more.2.2 * (if (decide (piece ∈ loop.2.2)) = true then (1 : Int) else 0)))).sum fun (once : Int) => S_turn_wear loop piece ∧ ((!(decide ((F_turn_wear loop piece) = once))) = false → mulOk many loop.1 ∧ S_wear loop piece (beats2 + (many * loop.1)) ∧ mulOk many once ∧ ((!(decide ((F_wear loop piece (beats2 + (many * loop.1))) = ((due.getD (piece).toNat 0) + (many * once))))) = false → S_comings loop.1 piece place (beats2 + (many * loop.1)))))))))))))) (fun (s : Unit) (beats : Int) => ((bnd (if (decide (60 < loop.1)) = true then (bnd (beats % 40) fun (beats3 : Int) =>
  beats3) else beats) fun (beats2 : Int) =>
  (bnd (F_law_walked loop beats2) fun (due : (List Int)) =>
  (if (!(decide ((F_all_wear loop beats2) = due))) = true then Stp.rt false
  else (bnd ((picks.getD 4 0) % loop.1) fun (piece : Int) =>
  (if ((!(decide ((F_wear loop piece beats2) = (due.getD (piece).toNat 0)))) || (!decide ((F_law_wear loop piece beats2) = (due.getD (piece).toNat 0)))) = true then Stp.rt false
  else (bnd ((picks.getD 5 0) % loop.1) fun (place : Int) =>
  (if (!(decide ((F_comings loop.1 piece place beats2) = (F_law_came loop.1 piece place beats2)))) = true then Stp.rt false
  else (bnd (([1, (picks.getD 6 0), ((10 ^ 27) + (picks.getD 7 0))] : List Int).getD (((picks.getD 8 0) % 3)).toNat 0) fun (many : Int) =>
  (bnd (loop.2.1.map fun (where_bend_more : (Int × Int × Int)) => (where_bend_more.2.1 + (where_bend_more.2.2 * (if (decide (piece ∈ loop.2.2)) = true then (1 : Int) else 0)))).sum fun (once : Int) =>
  (if (!(decide ((F_turn_wear loop piece) = once))) = true then Stp.rt false
  else (if (!(decide ((F_wear loop piece (beats2 + (many * loop.1))) = ((due.getD (piece).toNat 0) + (many * once))))) = true then Stp.rt false
  else (if (!(decide ((F_comings loop.1 piece place (beats2 + (many * loop.1))) = ((F_law_came loop.1 piece place beats2) + many)))) = true then Stp.rt false
  else Stp.nx ())))))))))))) : Stp (Unit) Bool)) ([0, 1, ((picks.getD 2 0) % (loop.1 + 1)), (min ((2 * loop.1) + 3) (loop.1 + ((picks.getD 3 0) % (loop.1 + 9))))] : List Int) () ∧ (∀ (s2 : Unit), (loopR (fun (s : Unit) (beats : Int) => ((bnd (if (decide (60 < loop.1)) = true then (bnd (beats % 40) fun (beats3 : Int) =>
  beats3) else beats) fun (beats2 : Int) =>
  (bnd (F_law_walked loop beats2) fun (due : (List Int)) =>
  (if (!(decide ((F_all_wear loop beats2) = due))) = true then Stp.rt false
  else (bnd ((picks.getD 4 0) % loop.1) fun (piece : Int) =>
  (if ((!(decide ((F_wear loop piece beats2) = (due.getD (piece).toNat 0)))) || (!decide ((F_law_wear loop piece beats2) = (due.getD (piece).toNat 0)))) = true then Stp.rt false
  else (bnd ((picks.getD 5 0) % loop.1) fun (place : Int) =>
  (if (!(decide ((F_comings loop.1 piece place beats2) = (F_law_came loop.1 piece place beats2)))) = true then Stp.rt false
  else (bnd (([1, (picks.getD 6 0), ((10 ^ 27) + (picks.getD 7 0))] : List Int).getD (((picks.getD 8 0) % 3)).toNat 0) fun (many : Int) =>
  (bnd (loop.2.1.map fun (where_bend_more : (Int × Int × Int)) => (where_bend_more.2.1 + (where_bend_more.2.2 * (if (decide (piece ∈ loop.2.2)) = true then (1 : Int) else 0)))).sum fun (once : Int) =>
  (if (!(decide ((F_turn_wear loop piece) = once))) = true then Stp.rt false
  else (if (!(decide ((F_wear loop piece (beats2 + (many * loop.1))) = ((due.getD (piece).toNat 0) + (many * once))))) = true then Stp.rt false
  else (if (!(decide ((F_comings loop.1 piece place (beats2 + (many * loop.1))) = ((F_law_came loop.1 piece place beats2) + many)))) = true then Stp.rt false
  else Stp.nx ())))))))))))) : Stp (Unit) Bool)) ([0, 1, ((picks.getD 2 0) % (loop.1 + 1)), (min ((2 * loop.1) + 3) (loop.1 + ((picks.getD 3 0) % (loop.1 + 9))))] : List Int) ()) = Lp.nx s2 → 9 < picks.length ∧ S_law_others loop (picks.getD 9 0) ∧ LpR (fun (s3 : Unit) (other : (PyData × (List PyData) × (List PyData))) => S_law_refused other) (fun (s3 : Unit) (other : (PyData × (List PyData) × (List PyData))) => ((if (!(F_law_refused other)) = true then Stp.rt false
  else Stp.nx ()) : Stp (Unit) Bool)) (F_law_others loop (picks.getD 9 0)) ())))))
theorem T_law (script : (List Int)) (h : S_law script) : m_law [(encL PyData.int) script] = .ok (PyData.bool (F_law script)) :=
  t_fn (b := b_law) (eτ := PyData.bool) rfl
  ((ts_p [vv (encL PyData.int) script, none, none, none, none, none, none, none, none, none, none, none, none, none, none, none, none] rfl (ts_setG (QQ := QF PyData.bool) (eγ := (encL PyData.int)) (t_seq (t_cons (t_get rfl) (t_cons t_c (t_cons t_c t_nil))) (T_law_draws _ _ _ h.1)) h.2 (fun picks hb1 =>
  (ts_p [vv (encL PyData.int) script, vv (encL PyData.int) picks, none, none, none, none, none, none, none, none, none, none, none, none, none, none, none] rfl (ts_setG (QQ := QF PyData.bool) (eγ := (enc3 PyData.int (encL (enc3 PyData.int PyData.int PyData.int)) (encL PyData.int))) (t_seq (t_cons (t_get rfl) (t_cons t_c (t_cons (t_2 (t_as (encL PyData.int) ([12, 40, 12, 40, 24, 500] : List Int) (t_seq (t_cons t_c (t_cons t_c (t_cons t_c (t_cons t_c (t_cons t_c (t_cons t_c t_nil)))))) (mLst_ok rfl))) (t_2 (t_2 (t_2 (t_get rfl) t_c (f_idxK (d := 0) 0 rfl hb1.1)) t_c (f_mod (by decide))) (t_call (t_cons (t_2 (t_2 (t_2 (t_get rfl) t_c (f_idxK (d := 0) 1 rfl hb1.2.1)) t_c (f_mod (by decide))) t_c (f_eq eqe_I)) t_nil) f_intB) (f_mul hb1.2.2.1)) (f_idxL (e := PyData.int) (xs := ([12, 40, 12, 40, 24, 500] : List Int)) (d := 0) hb1.2.2.2.1)) t_nil))) (T_law_loop _ _ _ hb1.2.2.2.2.1)) hb1.2.2.2.2.2 (fun loop hb2 =>
  (ts_p [vv (encL PyData.int) script, vv (encL PyData.int) picks, vv (enc3 PyData.int (encL (enc3 PyData.int PyData.int PyData.int)) (encL PyData.int)) loop, none, none, none, none, none, none, none, none, none, none, none, none, none, none] rfl (ts_asg (t_get rfl) (tg_t (tg_c tg_n (tg_c tg_n (tg_c tg_n tg_e))) rfl) (ts_p [vv (encL PyData.int) script, vv (encL PyData.int) picks, vv (enc3 PyData.int (encL (enc3 PyData.int PyData.int PyData.int)) (encL PyData.int)) loop, vv PyData.int loop.1, vv (encL (enc3 PyData.int PyData.int PyData.int)) loop.2.1, vv (encL PyData.int) loop.2.2, none, none, none, none, none, none, none, none, none, none, none] rfl (ts_setG (QQ := QF PyData.bool) (eγ := (enc3 PyData.int (encL (enc3 PyData.int PyData.int PyData.int)) (encL PyData.int))) (t_as (enc3 PyData.int (encL (enc3 PyData.int PyData.int PyData.int)) (encL PyData.int)) (loop.1, loop.2.1, loop.2.2) (t_seq (t_cons (t_get rfl) (t_cons (t_call (t_cons (t_get rfl) t_nil) f_listL) (t_cons (t_call (t_cons (t_get rfl) t_nil) f_listL) t_nil))) (mTup_ok rfl))) hb2 (fun kept hb3 =>
  (ts_p [vv (encL PyData.int) script, vv (encL PyData.int) picks, vv (enc3 PyData.int (encL (enc3 PyData.int PyData.int PyData.int)) (encL PyData.int)) loop, vv PyData.int loop.1, vv (encL (enc3 PyData.int PyData.int PyData.int)) loop.2.1, vv (encL PyData.int) loop.2.2, vv (enc3 PyData.int (encL (enc3 PyData.int PyData.int PyData.int)) (encL PyData.int)) kept, none, none, none, none, none, none, none, none, none, none] rfl (ts_if (QQ := QF PyData.bool) (t_B (t_2 (t_seq (t_cons (t_get rfl) t_nil) (re_get (d := ()) (T_check_loop _ hb3.1) hb3.2.1)) t_c f_isNNN0)) (fun hc4 => (ts_retF t_c))
  (fun hc4 => (ts_nx (ts_p [vv (encL PyData.int) script, vv (encL PyData.int) picks, vv (enc3 PyData.int (encL (enc3 PyData.int PyData.int PyData.int)) (encL PyData.int)) loop, vv PyData.int loop.1, vv (encL (enc3 PyData.int PyData.int PyData.int)) loop.2.1, vv (encL PyData.int) loop.2.2, vv (enc3 PyData.int (encL (enc3 PyData.int PyData.int PyData.int)) (encL PyData.int)) kept, none, none, none, none, none, none, none, none, none, none] rfl (ts_forRU (QQ := QF PyData.bool) (e := PyData.int) (xs := ([0, 1, ((picks.getD 2 0) % (loop.1 + 1)), (min ((2 * loop.1) + 3) (loop.1 + ((picks.getD 3 0) % (loop.1 + 9))))] : List Int)) (eτ := PyData.bool) (F := (fun (s : Unit) (beats : Int) => ((bnd (if (decide (60 < loop.1)) = true then (bnd (beats % 40) fun (beats3 : Int) =>
  beats3) else beats) fun (beats2 : Int) =>
  (bnd (F_law_walked loop beats2) fun (due : (List Int)) =>
  (if (!(decide ((F_all_wear loop beats2) = due))) = true then Stp.rt false
  else (bnd ((picks.getD 4 0) % loop.1) fun (piece : Int) =>
  (if ((!(decide ((F_wear loop piece beats2) = (due.getD (piece).toNat 0)))) || (!decide ((F_law_wear loop piece beats2) = (due.getD (piece).toNat 0)))) = true then Stp.rt false
  else (bnd ((picks.getD 5 0) % loop.1) fun (place : Int) =>
  (if (!(decide ((F_comings loop.1 piece place beats2) = (F_law_came loop.1 piece place beats2)))) = true then Stp.rt false
  else (bnd (([1, (picks.getD 6 0), ((10 ^ 27) + (picks.getD 7 0))] : List Int).getD (((picks.getD 8 0) % 3)).toNat 0) fun (many : Int) =>
  (bnd (loop.2.1.map fun (where_bend_more : (Int × Int × Int)) => (where_bend_more.2.1 + (where_bend_more.2.2 * (if (decide (piece ∈ loop.2.2)) = true then (1 : Int) else 0)))).sum fun (once : Int) =>
  (if (!(decide ((F_turn_wear loop piece) = once))) = true then Stp.rt false
  else (if (!(decide ((F_wear loop piece (beats2 + (many * loop.1))) = ((due.getD (piece).toNat 0) + (many * once))))) = true then Stp.rt false
  else (if (!(decide ((F_comings loop.1 piece place (beats2 + (many * loop.1))) = ((F_law_came loop.1 piece place beats2) + many)))) = true then Stp.rt false
  else Stp.nx ())))))))))))) : Stp (Unit) Bool))) (S := (fun (s : Unit) (beats : Int) => (bnd (if (decide (60 < loop.1)) = true then (bnd (beats % 40) fun (beats3 : Int) =>
  beats3) else beats) fun (beats2 : Int) => S_law_walked loop beats2 ∧ (bnd (F_law_walked loop beats2) fun (due : (List Int)) => S_all_wear loop beats2 ∧ plainD 8 ((encL PyData.int) due) ∧ ((!(decide ((F_all_wear loop beats2) = due))) = false → 4 < picks.length ∧ 0 < loop.1 ∧ (bnd ((picks.getD 4 0) % loop.1) fun (piece : Int) => S_wear loop piece beats2 ∧ ixOk due.length piece ∧ ((!(decide ((F_wear loop piece beats2) = (due.getD (piece).toNat 0)))) = false → S_law_wear loop piece beats2) ∧ (((!(decide ((F_wear loop piece beats2) = (due.getD (piece).toNat 0)))) || (!decide ((F_law_wear loop piece beats2) = (due.getD (piece).toNat 0)))) = false → 5 < picks.length ∧ (bnd ((picks.getD 5 0) % loop.1) fun (place : Int) => S_comings loop.1 piece place beats2 ∧ S_law_came loop.1 piece place beats2 ∧ ((!(decide ((F_comings loop.1 piece place beats2) = (F_law_came loop.1 piece place beats2)))) = false → 6 < picks.length ∧ 7 < picks.length ∧ 8 < picks.length ∧ (bnd (([1, (picks.getD 6 0), ((10 ^ 27) + (picks.getD 7 0))] : List Int).getD (((picks.getD 8 0) % 3)).toNat 0) fun (many : Int) => loop.2.1.length ≤ sizeLine ∧ (∀ where_bend_more ∈ loop.2.1, mulOk where_bend_more.2.2 (if (decide (piece ∈ loop.2.2)) = true then (1 : Int) else 0)) ∧ (bnd (loop.2.1.map fun (where_bend_more : (Int × Int × Int)) => (where_bend_more.2.1 + (where_bend_more.2.2 * (if (decide (piece ∈ loop.2.2)) = true then (1 : Int) else 0)))).sum fun (once : Int) => S_turn_wear loop piece ∧ ((!(decide ((F_turn_wear loop piece) = once))) = false → mulOk many loop.1 ∧ S_wear loop piece (beats2 + (many * loop.1)) ∧ mulOk many once ∧ ((!(decide ((F_wear loop piece (beats2 + (many * loop.1))) = ((due.getD (piece).toNat 0) + (many * once))))) = false → S_comings loop.1 piece place (beats2 + (many * loop.1))))))))))))))) (E := fun (s : Unit) => [vv (encL PyData.int) script, vv (encL PyData.int) picks, vv (enc3 PyData.int (encL (enc3 PyData.int PyData.int PyData.int)) (encL PyData.int)) loop, vv PyData.int loop.1, vv (encL (enc3 PyData.int PyData.int PyData.int)) loop.2.1, vv (encL PyData.int) loop.2.2, vv (enc3 PyData.int (encL (enc3 PyData.int PyData.int PyData.int)) (encL PyData.int)) kept, none, none, none, none, none, none, none, none, none, none]) (K := fun v => v) (fun _ _ => kF) (.is (.is (.is (.is (.is (.is (.is (.any (.any (.any (.any (.any (.any (.is (.is (.is (.is .nil))))))))))))))))) (t_items (t_as (encL PyData.int) ([0, 1, ((picks.getD 2 0) % (loop.1 + 1)), (min ((2 * loop.1) + 3) (loop.1 + ((picks.getD 3 0) % (loop.1 + 9))))] : List Int) (t_seq (t_cons t_c (t_cons t_c (t_cons (t_2 (t_2 (t_get rfl) t_c (f_idxK (d := 0) 2 rfl (hb3.2.2 hc4).1)) (t_2 (t_get rfl) t_c f_add) (f_mod (hb3.2.2 hc4).2.1)) (t_cons (t_call (t_cons (t_2 (t_2 t_c (t_get rfl) (f_mul (mulOk_l (by decide) (by decide)))) t_c f_add) (t_cons (t_2 (t_get rfl) (t_2 (t_2 (t_get rfl) t_c (f_idxK (d := 0) 3 rfl (hb3.2.2 hc4).2.2.1)) (t_2 (t_get rfl) t_c f_add) (f_mod (hb3.2.2 hc4).2.2.2.1)) f_add) t_nil)) f_min2) t_nil)))) (mLst_ok rfl))) f_items) (hb3.2.2 hc4).2.2.2.2.1 (fun s beats => tg_n) (fun s beats hx6 hb5 =>
  (ts_p [vv (encL PyData.int) script, vv (encL PyData.int) picks, vv (enc3 PyData.int (encL (enc3 PyData.int PyData.int PyData.int)) (encL PyData.int)) loop, vv PyData.int loop.1, vv (encL (enc3 PyData.int PyData.int PyData.int)) loop.2.1, vv (encL PyData.int) loop.2.2, vv (enc3 PyData.int (encL (enc3 PyData.int PyData.int PyData.int)) (encL PyData.int)) kept, vv PyData.int beats, none, none, none, none, none, none, none, none, none] rfl (ts_joinG (QQ := QL _ PyData.bool) (E := fun (beats2 : Int) => [vv (encL PyData.int) script, vv (encL PyData.int) picks, vv (enc3 PyData.int (encL (enc3 PyData.int PyData.int PyData.int)) (encL PyData.int)) loop, vv PyData.int loop.1, vv (encL (enc3 PyData.int PyData.int PyData.int)) loop.2.1, vv (encL PyData.int) loop.2.2, vv (enc3 PyData.int (encL (enc3 PyData.int PyData.int PyData.int)) (encL PyData.int)) kept, vv PyData.int beats2, none, none, none, none, none, none, none, none, none]) (t_B (t_2 (t_get rfl) t_c f_gt)) (fun hc7 => (ts_p [vv (encL PyData.int) script, vv (encL PyData.int) picks, vv (enc3 PyData.int (encL (enc3 PyData.int PyData.int PyData.int)) (encL PyData.int)) loop, vv PyData.int loop.1, vv (encL (enc3 PyData.int PyData.int PyData.int)) loop.2.1, vv (encL PyData.int) loop.2.2, vv (enc3 PyData.int (encL (enc3 PyData.int PyData.int PyData.int)) (encL PyData.int)) kept, vv PyData.int beats, none, none, none, none, none, none, none, none, none] rfl (ts_end (ts_setG (QQ := QJ _) (eγ := PyData.int) (t_2 (t_call (t_cons (t_get rfl) t_nil) f_intI) t_c (f_mod (by decide))) (show bnd _ (fun _ => True) from trivial) (fun beats3 hb8 =>
  (ts_p [vv (encL PyData.int) script, vv (encL PyData.int) picks, vv (enc3 PyData.int (encL (enc3 PyData.int PyData.int PyData.int)) (encL PyData.int)) loop, vv PyData.int loop.1, vv (encL (enc3 PyData.int PyData.int PyData.int)) loop.2.1, vv (encL PyData.int) loop.2.2, vv (enc3 PyData.int (encL (enc3 PyData.int PyData.int PyData.int)) (encL PyData.int)) kept, vv PyData.int beats3, none, none, none, none, none, none, none, none, none] rfl (ts_finJ (.is (.is (.is (.is (.is (.is (.is (.is (.is (.is (.is (.is (.is (.is (.is (.is (.is .nil)))))))))))))))))))))))) (fun hc7 => (ts_p [vv (encL PyData.int) script, vv (encL PyData.int) picks, vv (enc3 PyData.int (encL (enc3 PyData.int PyData.int PyData.int)) (encL PyData.int)) loop, vv PyData.int loop.1, vv (encL (enc3 PyData.int PyData.int PyData.int)) loop.2.1, vv (encL PyData.int) loop.2.2, vv (enc3 PyData.int (encL (enc3 PyData.int PyData.int PyData.int)) (encL PyData.int)) kept, vv PyData.int beats, none, none, none, none, none, none, none, none, none] rfl (ts_finJ (.is (.is (.is (.is (.is (.is (.is (.is (.is (.is (.is (.is (.is (.is (.is (.is (.is .nil)))))))))))))))))))) hb5 (fun beats2 hb9 =>
  (ts_p [vv (encL PyData.int) script, vv (encL PyData.int) picks, vv (enc3 PyData.int (encL (enc3 PyData.int PyData.int PyData.int)) (encL PyData.int)) loop, vv PyData.int loop.1, vv (encL (enc3 PyData.int PyData.int PyData.int)) loop.2.1, vv (encL PyData.int) loop.2.2, vv (enc3 PyData.int (encL (enc3 PyData.int PyData.int PyData.int)) (encL PyData.int)) kept, vv PyData.int beats2, none, none, none, none, none, none, none, none, none] rfl (ts_setG (QQ := QL _ PyData.bool) (eγ := (encL PyData.int)) (t_seq (t_cons (t_get rfl) (t_cons (t_get rfl) t_nil)) (T_law_walked _ _ hb9.1)) hb9.2 (fun due hb10 =>
  (ts_p [vv (encL PyData.int) script, vv (encL PyData.int) picks, vv (enc3 PyData.int (encL (enc3 PyData.int PyData.int PyData.int)) (encL PyData.int)) loop, vv PyData.int loop.1, vv (encL (enc3 PyData.int PyData.int PyData.int)) loop.2.1, vv (encL PyData.int) loop.2.2, vv (enc3 PyData.int (encL (enc3 PyData.int PyData.int PyData.int)) (encL PyData.int)) kept, vv PyData.int beats2, vv (encL PyData.int) due, none, none, none, none, none, none, none, none] rfl (ts_if (QQ := QL _ PyData.bool) (t_notB (t_T (t_seq (t_cons (t_seq (t_cons (t_get rfl) (t_cons (t_get rfl) t_nil)) (T_all_wear _ _ hb10.1)) (t_cons (t_get rfl) t_nil)) (like_ok (lke_L lke_I) hb10.2.1)) f_truB)) (fun hc11 => (ts_retL t_c))
  (fun hc11 => (ts_nx (ts_p [vv (encL PyData.int) script, vv (encL PyData.int) picks, vv (enc3 PyData.int (encL (enc3 PyData.int PyData.int PyData.int)) (encL PyData.int)) loop, vv PyData.int loop.1, vv (encL (enc3 PyData.int PyData.int PyData.int)) loop.2.1, vv (encL PyData.int) loop.2.2, vv (enc3 PyData.int (encL (enc3 PyData.int PyData.int PyData.int)) (encL PyData.int)) kept, vv PyData.int beats2, vv (encL PyData.int) due, none, none, none, none, none, none, none, none] rfl (ts_setG (QQ := QL _ PyData.bool) (eγ := PyData.int) (t_2 (t_2 (t_get rfl) t_c (f_idxK (d := 0) 4 rfl (hb10.2.2 hc11).1)) (t_get rfl) (f_mod (hb10.2.2 hc11).2.1)) (hb10.2.2 hc11).2.2 (fun piece hb12 =>
  (ts_p [vv (encL PyData.int) script, vv (encL PyData.int) picks, vv (enc3 PyData.int (encL (enc3 PyData.int PyData.int PyData.int)) (encL PyData.int)) loop, vv PyData.int loop.1, vv (encL (enc3 PyData.int PyData.int PyData.int)) loop.2.1, vv (encL PyData.int) loop.2.2, vv (enc3 PyData.int (encL (enc3 PyData.int PyData.int PyData.int)) (encL PyData.int)) kept, vv PyData.int beats2, vv (encL PyData.int) due, vv PyData.int piece, none, none, none, none, none, none, none] rfl (ts_if (QQ := QL _ PyData.bool) (t_orB (t_notB (t_T (t_seq (t_cons (t_seq (t_cons (t_get rfl) (t_cons (t_get rfl) (t_cons (t_get rfl) t_nil))) (T_wear _ _ _ hb12.1)) (t_cons (t_2 (t_get rfl) (t_get rfl) (f_idxL (d := 0) hb12.2.1)) t_nil)) (like_ok lke_I (PlE.ok ple_I _))) f_truB)) fun hc13 => (t_B (t_2 (t_seq (t_cons (t_get rfl) (t_cons (t_get rfl) (t_cons (t_get rfl) t_nil))) (T_law_wear _ _ _ (hb12.2.2.1 hc13))) (t_2 (t_get rfl) (t_get rfl) (f_idxL (d := 0) hb12.2.1)) (f_ne eqe_I)))) (fun hc14 => (ts_retL t_c))
  (fun hc14 => (ts_nx (ts_p [vv (encL PyData.int) script, vv (encL PyData.int) picks, vv (enc3 PyData.int (encL (enc3 PyData.int PyData.int PyData.int)) (encL PyData.int)) loop, vv PyData.int loop.1, vv (encL (enc3 PyData.int PyData.int PyData.int)) loop.2.1, vv (encL PyData.int) loop.2.2, vv (enc3 PyData.int (encL (enc3 PyData.int PyData.int PyData.int)) (encL PyData.int)) kept, vv PyData.int beats2, vv (encL PyData.int) due, vv PyData.int piece, none, none, none, none, none, none, none] rfl (ts_setG (QQ := QL _ PyData.bool) (eγ := PyData.int) (t_2 (t_2 (t_get rfl) t_c (f_idxK (d := 0) 5 rfl (hb12.2.2.2 hc14).1)) (t_get rfl) (f_mod (hb10.2.2 hc11).2.1)) (hb12.2.2.2 hc14).2 (fun place hb15 =>
  (ts_p [vv (encL PyData.int) script, vv (encL PyData.int) picks, vv (enc3 PyData.int (encL (enc3 PyData.int PyData.int PyData.int)) (encL PyData.int)) loop, vv PyData.int loop.1, vv (encL (enc3 PyData.int PyData.int PyData.int)) loop.2.1, vv (encL PyData.int) loop.2.2, vv (enc3 PyData.int (encL (enc3 PyData.int PyData.int PyData.int)) (encL PyData.int)) kept, vv PyData.int beats2, vv (encL PyData.int) due, vv PyData.int piece, vv PyData.int place, none, none, none, none, none, none] rfl (ts_if (QQ := QL _ PyData.bool) (t_notB (t_T (t_seq (t_cons (t_seq (t_cons (t_get rfl) (t_cons (t_get rfl) (t_cons (t_get rfl) (t_cons (t_get rfl) t_nil)))) (T_comings _ _ _ _ hb15.1)) (t_cons (t_seq (t_cons (t_get rfl) (t_cons (t_get rfl) (t_cons (t_get rfl) (t_cons (t_get rfl) t_nil)))) (T_law_came _ _ _ _ hb15.2.1)) t_nil)) (like_ok lke_I (PlE.ok ple_I _))) f_truB)) (fun hc16 => (ts_retL t_c))
  (fun hc16 => (ts_nx (ts_p [vv (encL PyData.int) script, vv (encL PyData.int) picks, vv (enc3 PyData.int (encL (enc3 PyData.int PyData.int PyData.int)) (encL PyData.int)) loop, vv PyData.int loop.1, vv (encL (enc3 PyData.int PyData.int PyData.int)) loop.2.1, vv (encL PyData.int) loop.2.2, vv (enc3 PyData.int (encL (enc3 PyData.int PyData.int PyData.int)) (encL PyData.int)) kept, vv PyData.int beats2, vv (encL PyData.int) due, vv PyData.int piece, vv PyData.int place, none, none, none, none, none, none] rfl (ts_setG (QQ := QL _ PyData.bool) (eγ := PyData.int) (t_2 (t_as (encL PyData.int) ([1, (picks.getD 6 0), ((10 ^ 27) + (picks.getD 7 0))] : List Int) (t_seq (t_cons t_c (t_cons (t_2 (t_get rfl) t_c (f_idxK (d := 0) 6 rfl (hb15.2.2 hc16).1)) (t_cons (t_2 (t_2 t_c t_c (f_pow (k := 27) (by decide) rfl)) (t_2 (t_get rfl) t_c (f_idxK (d := 0) 7 rfl (hb15.2.2 hc16).2.1)) f_add) t_nil))) (mLst_ok rfl))) (t_2 (t_2 (t_get rfl) t_c (f_idxK (d := 0) 8 rfl (hb15.2.2 hc16).2.2.1)) t_c (f_mod (by decide))) (f_idxL (e := PyData.int) (xs := ([1, (picks.getD 6 0), ((10 ^ 27) + (picks.getD 7 0))] : List Int)) (d := 0) (ix_mod (n := 3) (by decide) (by decide)))) (hb15.2.2 hc16).2.2.2 (fun many hb17 =>
  (ts_p [vv (encL PyData.int) script, vv (encL PyData.int) picks, vv (enc3 PyData.int (encL (enc3 PyData.int PyData.int PyData.int)) (encL PyData.int)) loop, vv PyData.int loop.1, vv (encL (enc3 PyData.int PyData.int PyData.int)) loop.2.1, vv (encL PyData.int) loop.2.2, vv (enc3 PyData.int (encL (enc3 PyData.int PyData.int PyData.int)) (encL PyData.int)) kept, vv PyData.int beats2, vv (encL PyData.int) due, vv PyData.int piece, vv PyData.int place, vv PyData.int many, none, none, none, none, none] rfl (ts_setG (QQ := QL _ PyData.bool) (eγ := PyData.int) (t_call (t_cons (t_L (t_lc0 (e := (enc3 PyData.int PyData.int PyData.int)) (xs := loop.2.1) (e' := PyData.int) (t_items (t_get rfl) f_items) hb17.1 (fun where_bend_more => (tg_t (tg_c tg_n (tg_c tg_n (tg_c tg_n tg_e))) rfl)) (fun where_bend_more hx18 => (tm_p [vv (encL PyData.int) script, vv (encL PyData.int) picks, vv (enc3 PyData.int (encL (enc3 PyData.int PyData.int PyData.int)) (encL PyData.int)) loop, vv PyData.int loop.1, vv (encL (enc3 PyData.int PyData.int PyData.int)) loop.2.1, vv (encL PyData.int) loop.2.2, vv (enc3 PyData.int (encL (enc3 PyData.int PyData.int PyData.int)) (encL PyData.int)) kept, vv PyData.int beats2, vv (encL PyData.int) due, vv PyData.int piece, vv PyData.int place, vv PyData.int many, none, vv PyData.int where_bend_more.1, vv PyData.int where_bend_more.2.1, vv PyData.int where_bend_more.2.2, none] rfl (t_2 (t_get rfl) (t_2 (t_get rfl) (t_call (t_cons (t_2 (t_get rfl) (t_get rfl) (f_in eqe_I)) t_nil) f_intB) (f_mul (hb17.2.1 where_bend_more hx18))) f_add))))) t_nil) f_sum) hb17.2.2 (fun once hb19 =>
  (ts_p [vv (encL PyData.int) script, vv (encL PyData.int) picks, vv (enc3 PyData.int (encL (enc3 PyData.int PyData.int PyData.int)) (encL PyData.int)) loop, vv PyData.int loop.1, vv (encL (enc3 PyData.int PyData.int PyData.int)) loop.2.1, vv (encL PyData.int) loop.2.2, vv (enc3 PyData.int (encL (enc3 PyData.int PyData.int PyData.int)) (encL PyData.int)) kept, vv PyData.int beats2, vv (encL PyData.int) due, vv PyData.int piece, vv PyData.int place, vv PyData.int many, vv PyData.int once, none, none, none, none] rfl (ts_if (QQ := QL _ PyData.bool) (t_notB (t_T (t_seq (t_cons (t_seq (t_cons (t_get rfl) (t_cons (t_get rfl) t_nil)) (T_turn_wear _ _ hb19.1)) (t_cons (t_get rfl) t_nil)) (like_ok lke_I (PlE.ok ple_I _))) f_truB)) (fun hc20 => (ts_retL t_c))
  (fun hc20 => (ts_nx (ts_p [vv (encL PyData.int) script, vv (encL PyData.int) picks, vv (enc3 PyData.int (encL (enc3 PyData.int PyData.int PyData.int)) (encL PyData.int)) loop, vv PyData.int loop.1, vv (encL (enc3 PyData.int PyData.int PyData.int)) loop.2.1, vv (encL PyData.int) loop.2.2, vv (enc3 PyData.int (encL (enc3 PyData.int PyData.int PyData.int)) (encL PyData.int)) kept, vv PyData.int beats2, vv (encL PyData.int) due, vv PyData.int piece, vv PyData.int place, vv PyData.int many, vv PyData.int once, none, none, none, none] rfl (ts_if (QQ := QL _ PyData.bool) (t_notB (t_T (t_seq (t_cons (t_seq (t_cons (t_get rfl) (t_cons (t_get rfl) (t_cons (t_2 (t_get rfl) (t_2 (t_get rfl) (t_get rfl) (f_mul (hb19.2 hc20).1)) f_add) t_nil))) (T_wear _ _ _ (hb19.2 hc20).2.1)) (t_cons (t_2 (t_2 (t_get rfl) (t_get rfl) (f_idxL (d := 0) hb12.2.1)) (t_2 (t_get rfl) (t_get rfl) (f_mul (hb19.2 hc20).2.2.1)) f_add) t_nil)) (like_ok lke_I (PlE.ok ple_I _))) f_truB)) (fun hc21 => (ts_retL t_c))
  (fun hc21 => (ts_nx (ts_p [vv (encL PyData.int) script, vv (encL PyData.int) picks, vv (enc3 PyData.int (encL (enc3 PyData.int PyData.int PyData.int)) (encL PyData.int)) loop, vv PyData.int loop.1, vv (encL (enc3 PyData.int PyData.int PyData.int)) loop.2.1, vv (encL PyData.int) loop.2.2, vv (enc3 PyData.int (encL (enc3 PyData.int PyData.int PyData.int)) (encL PyData.int)) kept, vv PyData.int beats2, vv (encL PyData.int) due, vv PyData.int piece, vv PyData.int place, vv PyData.int many, vv PyData.int once, none, none, none, none] rfl (ts_end (ts_if (QQ := QL _ PyData.bool) (t_notB (t_T (t_seq (t_cons (t_seq (t_cons (t_get rfl) (t_cons (t_get rfl) (t_cons (t_get rfl) (t_cons (t_2 (t_get rfl) (t_2 (t_get rfl) (t_get rfl) (f_mul (hb19.2 hc20).1)) f_add) t_nil)))) (T_comings _ _ _ _ ((hb19.2 hc20).2.2.2 hc21))) (t_cons (t_2 (t_seq (t_cons (t_get rfl) (t_cons (t_get rfl) (t_cons (t_get rfl) (t_cons (t_get rfl) t_nil)))) (T_law_came _ _ _ _ hb15.2.1)) (t_get rfl) f_add) t_nil)) (like_ok lke_I (PlE.ok ple_I _))) f_truB)) (fun hc22 => (ts_retL t_c))
  (fun hc22 => (ts_nx (ts_p [vv (encL PyData.int) script, vv (encL PyData.int) picks, vv (enc3 PyData.int (encL (enc3 PyData.int PyData.int PyData.int)) (encL PyData.int)) loop, vv PyData.int loop.1, vv (encL (enc3 PyData.int PyData.int PyData.int)) loop.2.1, vv (encL PyData.int) loop.2.2, vv (enc3 PyData.int (encL (enc3 PyData.int PyData.int PyData.int)) (encL PyData.int)) kept, vv PyData.int beats2, vv (encL PyData.int) due, vv PyData.int piece, vv PyData.int place, vv PyData.int many, vv PyData.int once, none, none, none, none] rfl (ts_finL (.is (.is (.is (.is (.is (.is (.is (.any (.any (.any (.any (.any (.any (.is (.is (.is (.is .nil))))))))))))))))))))))))))))))))))))))))))))))))))))))))))))))) (fun s2 hb23 =>
  (ts_p [vv (encL PyData.int) script, vv (encL PyData.int) picks, vv (enc3 PyData.int (encL (enc3 PyData.int PyData.int PyData.int)) (encL PyData.int)) loop, vv PyData.int loop.1, vv (encL (enc3 PyData.int PyData.int PyData.int)) loop.2.1, vv (encL PyData.int) loop.2.2, vv (enc3 PyData.int (encL (enc3 PyData.int PyData.int PyData.int)) (encL PyData.int)) kept, none, none, none, none, none, none, none, none, none, none] rfl (ts_forRU (QQ := QF PyData.bool) (e := (enc3 idD (encL idD) (encL idD))) (xs := (F_law_others loop (picks.getD 9 0))) (eτ := PyData.bool) (F := (fun (s3 : Unit) (other : (PyData × (List PyData) × (List PyData))) => ((if (!(F_law_refused other)) = true then Stp.rt false
  else Stp.nx ()) : Stp (Unit) Bool))) (S := (fun (s3 : Unit) (other : (PyData × (List PyData) × (List PyData))) => S_law_refused other)) (E := fun (s3 : Unit) => [vv (encL PyData.int) script, vv (encL PyData.int) picks, vv (enc3 PyData.int (encL (enc3 PyData.int PyData.int PyData.int)) (encL PyData.int)) loop, vv PyData.int loop.1, vv (encL (enc3 PyData.int PyData.int PyData.int)) loop.2.1, vv (encL PyData.int) loop.2.2, vv (enc3 PyData.int (encL (enc3 PyData.int PyData.int PyData.int)) (encL PyData.int)) kept, none, none, none, none, none, none, none, none, none, none]) (K := fun v => v) (fun _ _ => kF) (.is (.is (.is (.is (.is (.is (.is (.is (.is (.is (.is (.is (.is (.is (.is (.is (.any .nil))))))))))))))))) (t_items (t_seq (t_cons (t_get rfl) (t_cons (t_2 (t_get rfl) t_c (f_idxK (d := 0) 9 rfl ((hb3.2.2 hc4).2.2.2.2.2 s2 hb23).1)) t_nil)) (T_law_others _ _ ((hb3.2.2 hc4).2.2.2.2.2 s2 hb23).2.1)) f_items) ((hb3.2.2 hc4).2.2.2.2.2 s2 hb23).2.2 (fun s3 other => tg_n) (fun s3 other hx25 hb24 =>
  (ts_p [vv (encL PyData.int) script, vv (encL PyData.int) picks, vv (enc3 PyData.int (encL (enc3 PyData.int PyData.int PyData.int)) (encL PyData.int)) loop, vv PyData.int loop.1, vv (encL (enc3 PyData.int PyData.int PyData.int)) loop.2.1, vv (encL PyData.int) loop.2.2, vv (enc3 PyData.int (encL (enc3 PyData.int PyData.int PyData.int)) (encL PyData.int)) kept, none, none, none, none, none, none, none, none, none, vv (enc3 idD (encL idD) (encL idD)) other] rfl (ts_end (ts_if (QQ := QL _ PyData.bool) (t_notB (t_T (t_seq (t_cons (t_get rfl) t_nil) (T_law_refused _ hb24)) f_truB)) (fun hc26 => (ts_retL t_c))
  (fun hc26 => (ts_nx (ts_p [vv (encL PyData.int) script, vv (encL PyData.int) picks, vv (enc3 PyData.int (encL (enc3 PyData.int PyData.int PyData.int)) (encL PyData.int)) loop, vv PyData.int loop.1, vv (encL (enc3 PyData.int PyData.int PyData.int)) loop.2.1, vv (encL PyData.int) loop.2.2, vv (enc3 PyData.int (encL (enc3 PyData.int PyData.int PyData.int)) (encL PyData.int)) kept, none, none, none, none, none, none, none, none, none, vv (enc3 idD (encL idD) (encL idD)) other] rfl (ts_finL (.is (.is (.is (.is (.is (.is (.is (.is (.is (.is (.is (.is (.is (.is (.is (.is (.any .nil))))))))))))))))))))))))) (fun s32 hb27 =>
  (ts_p [vv (encL PyData.int) script, vv (encL PyData.int) picks, vv (enc3 PyData.int (encL (enc3 PyData.int PyData.int PyData.int)) (encL PyData.int)) loop, vv PyData.int loop.1, vv (encL (enc3 PyData.int PyData.int PyData.int)) loop.2.1, vv (encL PyData.int) loop.2.2, vv (enc3 PyData.int (encL (enc3 PyData.int PyData.int PyData.int)) (encL PyData.int)) kept, none, none, none, none, none, none, none, none, none, none] rfl (ts_end (ts_retF (t_2 (t_get rfl) (t_get rfl) (f_eq (eqe_3 eqe_I (eqe_L (eqe_3 eqe_I eqe_I eqe_I)) (eqe_L eqe_I)))))))))))))))))))))))))))))
end Law
end
section
set_option Elab.async false
set_option linter.all false
set_option maxRecDepth 100000
set_option maxHeartbeats 2000000
set_option autoImplicit false
set_option synthInstance.maxHeartbeats 1000000
set_option synthInstance.maxSize 1000
open PySem PV
namespace Law
theorem draws_T (ns : List Int) {a c : Int} (h0 : 0 ≤ a) (c0 : 0 ≤ c) (c1 : c < 2 ^ 20) : S_law_draws ns a c ∧ ((F_law_draws ns a c).length : Int) = c ∧ ∀ x ∈ F_law_draws ns a c, 0 ≤ x ∧ x < 5040 := by
  show Ok (S_law_draws ns a c) (F_law_draws ns a c) fun ds => (ds.length : Int) = c ∧ ∀ x ∈ ds, 0 ≤ x ∧ x < 5040
  unfold S_law_draws F_law_draws
  refine ok_g (fun h => ⟨h0, of_decide_eq_true h⟩) (ok_bnd (fun _ => True) trivial fun cell _ => ok_bnd (fun _ => True) trivial fun great _ => ok_g (r62_s (by omega) (by omega)) (ok_for0 (fun (s : Int × List Int) => (s.2.length : Int) = c ∧ ∀ x ∈ s.2, 0 ≤ x ∧ x < 5040) (LpS_rng (fun k (s : Int × List Int) => (s.2.length : Int) = k ∧ ∀ x ∈ s.2, 0 ≤ x ∧ x < 5040) ⟨rfl, fun x hx => nomatch hx⟩ c0 fun k s k0 k1 hs => ?_) fun s hs => hs))
  obtain ⟨hs1, hs2⟩ := hs
  have hlt : s.2.length < sizeLine := by rw [line_eq]; omega
  have sn : ∀ v : Int, 0 ≤ v → v < 5040 → ((s.2 ++ [v]).length : Int) = k + 1 ∧ ∀ x ∈ s.2 ++ [v], 0 ≤ x ∧ x < 5040 := fun v v0 v1 => by
    refine ⟨by rw [List.length_append, List.length_singleton]; omega, fun x hx => ?_⟩
    rcases List.mem_append.mp hx with hx | hx
    · exact hs2 x hx
    · rw [List.mem_singleton] at hx; omega
  cases great with
  | true => exact ⟨⟨fun _ => hlt, fun h => nomatch h⟩, sn _ (by omega) (by omega)⟩
  | false =>
    refine ⟨⟨(fun h => nomatch h), fun _ => ⟨mulOk_r (by omega) (by omega), hlt⟩⟩, sn _ (by omega) (by omega)⟩
abbrev Lpt := Int × List (Int × Int × Int) × List Int
structure LoopOk (l : Lpt) : Prop where
  p2 : 2 ≤ l.1
  p5 : l.1 ≤ 500
  w1 : 1 ≤ l.2.1.length
  w6 : l.2.1.length ≤ 6
  inc : List.Pairwise (fun a b : Int × Int × Int => a.1 < b.1) l.2.1
  wh : ∀ w ∈ l.2.1, 0 ≤ w.1 ∧ w.1 < l.1 ∧ 1 ≤ w.2.1 ∧ w.2.1 ≤ 5040 ∧ 0 ≤ w.2.2 ∧ w.2.2 ≤ 5040
  ginc : List.Pairwise (fun a b : Int => a < b) l.2.2
  gr : ∀ g ∈ l.2.2, 0 ≤ g ∧ g < l.1
theorem pwr {lo hi : Int} : List.Pairwise (fun a b : Int => a < b) (rngI lo hi) := by
  unfold rngI
  rw [List.pairwise_map]
  exact List.pairwise_lt_range.imp fun h => by omega
theorem law_loop_T (ns : List Int) {most : Int} (m0 : 12 ≤ most) (m1 : most ≤ 500) : Ok (S_law_loop ns 1 most) (F_law_loop ns 1 most) LoopOk := by
  have sz : ∀ n : Nat, n ≤ 20000 → n ≤ sizeLine := fun n hn => by rw [line_eq]; omega
  unfold S_law_loop F_law_loop
  obtain ⟨d1, d2, d3⟩ := draws_T ns (a := 1) (c := 60) (by omega) (by omega) (by omega)
  refine ok_g d1 (ok_bnd (fun l => (l.length : Int) = 60 ∧ ∀ x ∈ l, 0 ≤ x ∧ x < 5040) ⟨d2, d3⟩ fun picks ⟨l, hp⟩ => ?_)
  have q : ∀ i : Nat, i < 60 → 0 ≤ picks.getD i 0 ∧ picks.getD i 0 < 5040 := fun i hi => pk hp i (by omega)
  have e1 := Int.emod_nonneg (picks.getD 0 0) (b := most - 1) (by omega)
  have e2 := Int.emod_lt_of_pos (picks.getD 0 0) (b := most - 1) (by omega)
  refine ok_g (by omega) (ok_g (by omega) (ok_bnd (fun p : Int => 2 ≤ p ∧ p ≤ 500) ⟨by omega, by omega⟩ fun p ⟨p2, p5⟩ => ok_g (by omega) (ok_g (by omega) (ok_bnd (fun x : Int => 0 ≤ x ∧ x < p) ⟨Int.emod_nonneg _ (by omega), Int.emod_lt_of_pos _ (by omega)⟩ fun place ⟨a0, a1⟩ => ok_g (by omega) (ok_g (r62_s (by omega) (by omega)) ?_)))))
  have m15 : ∀ x : Int, 0 ≤ x % 3 ∧ x % 3 < 3 := fun x => by omega
  have g3 : ∀ {a b c x : Int}, 0 < a → a ≤ 900 → 0 < b → b ≤ 900 → 0 < c → c ≤ 900 → 0 < ([a, b, c] : List Int).getD (x % 3).toNat 0 ∧ ([a, b, c] : List Int).getD (x % 3).toNat 0 ≤ 900 := fun {a b c x} h1 h2 h3 h4 h5 h6 => get3P (P := fun v : Int => 0 < v ∧ v ≤ 900) (by omega) (by omega) ⟨h1, h2⟩ ⟨h3, h4⟩ ⟨h5, h6⟩
  refine ok_for (fun s : List (Int × Int × Int) × Int => 1 ≤ s.1.length ∧ s.1.length ≤ 6 ∧ List.Pairwise (fun a b : Int × Int × Int => a.1 < b.1) s.1 ∧ ∀ w ∈ s.1, 0 ≤ w.1 ∧ w.1 < p ∧ 1 ≤ w.2.1 ∧ w.2.1 ≤ 5040 ∧ 0 ≤ w.2.2 ∧ w.2.2 ≤ 5040)
    (And.imp_right (fun g => ⟨by have := g.2.2.2.2.2.1; omega, by have := g.1; omega, g.2.1, fun w hw => (g.2.2.1 w hw).2⟩)
      (LpS_rng (fun k (s : List (Int × Int × Int) × Int) => (s.1.length : Int) ≤ k ∧ List.Pairwise (fun a b : Int × Int × Int => a.1 < b.1) s.1 ∧ (∀ w ∈ s.1, w.1 < s.2 ∧ 0 ≤ w.1 ∧ w.1 < p ∧ 1 ≤ w.2.1 ∧ w.2.1 ≤ 5040 ∧ 0 ≤ w.2.2 ∧ w.2.2 ≤ 5040) ∧ 0 ≤ s.2 ∧ (k = 0 → s.2 < p) ∧ (1 ≤ k → 1 ≤ s.1.length) ∧ 0 ≤ k) ⟨by simp, .nil, by simp, a0, fun _ => a1, by omega, by omega⟩ (by omega) fun k s k0 k1 hs => ?_)) ?_
  rotate_left
  · rintro s ⟨s1, s2, s3, s4⟩
    refine ok_g (r62_s (by omega) (by omega)) (ok_g (sz _ (by rw [rngI_len]; omega)) ?_)
    refine ok_bnd0 (fun g : List Int => List.Pairwise (fun a b : Int => a < b) g ∧ ∀ x ∈ g, 0 ≤ x ∧ x < p) ⟨?_, fun x hx => ?_⟩ fun g ⟨g1, g2⟩ => ok_end (fun piece hx => ?_) ⟨p2, p5, s1, s2, s3, s4, g1, g2⟩
    · rw [List.map_id']
      exact pwr.filter _
    · rw [List.map_id'] at hx
      have := rngI_mem.mp (List.mem_filter.mp hx).1
      omega
    · exact ⟨⟨by omega, by omega⟩, by omega, (g3 (by omega) (by omega) (by omega) (by omega) (by omega) (by omega)).1⟩
  obtain ⟨h1, h2, h3, h4, h5, h6, _⟩ := hs
  have f15 := g3 (a := 1) (b := 3) (c := 900) (x := picks.getD 15 0) (by omega) (by omega) (by omega) (by omega) (by omega) (by omega)
  have f16 := g3 (a := 1) (b := 4) (c := 50) (x := picks.getD 16 0) (by omega) (by omega) (by omega) (by omega) (by omega) (by omega)
  have mp : 0 < max 1 (p / 3) := by omega
  refine ⟨fun hc => ⟨⟨by omega, by omega⟩, by omega, f15.1, ⟨by omega, by omega⟩, by omega, f16.1, by rw [line_eq]; omega, ⟨by omega, by omega⟩, mp⟩, ?_⟩
  by_cases hc : ((decide (s.2 < p)) && (decide ((s.1.length : Int) < 20))) = true
  · rw [if_pos hc]
    rw [Bool.and_eq_true, decide_eq_true_eq, decide_eq_true_eq] at hc
    have b1 := Int.emod_nonneg (picks.getD (3 + 2 * k).toNat 0) (b := ([1, 3, 900] : List Int).getD (picks.getD 15 0 % 3).toNat 0) (by omega)
    have b2 := Int.emod_lt_of_pos (picks.getD (3 + 2 * k).toNat 0) (b := ([1, 3, 900] : List Int).getD (picks.getD 15 0 % 3).toNat 0) (by omega)
    have c1 := Int.emod_nonneg (picks.getD (4 + 2 * k).toNat 0) (b := ([1, 4, 50] : List Int).getD (picks.getD 16 0 % 3).toNat 0) (by omega)
    have c2 := Int.emod_lt_of_pos (picks.getD (4 + 2 * k).toNat 0) (b := ([1, 4, 50] : List Int).getD (picks.getD 16 0 % 3).toNat 0) (by omega)
    have t1 := Int.emod_nonneg (picks.getD (17 + k).toNat 0) (b := max 1 (p / 3)) (by omega)
    simp only [bnd]
    refine ⟨by rw [List.length_append, List.length_singleton]; omega, ?_, fun w hw => ?_, by omega, by omega, fun _ => by rw [List.length_append, List.length_singleton]; omega, by omega⟩
    · refine List.pairwise_append.mpr ⟨h2, List.pairwise_singleton _ _, fun a ha b hb => ?_⟩
      rw [List.mem_singleton] at hb
      rw [hb]
      exact (h3 a ha).1
    · rcases List.mem_append.mp hw with hw | hw
      · have := h3 w hw
        exact ⟨by omega, this.2⟩
      · rw [List.mem_singleton] at hw
        rw [hw]
        refine ⟨?_, h4, hc.1, ?_, ?_, c1, ?_⟩ <;> (simp only; omega)
  · rw [if_neg hc]
    rw [Bool.and_eq_true, decide_eq_true_eq, decide_eq_true_eq] at hc
    refine ⟨by simp only; omega, h2, h3, h4, by omega, fun _ => ?_, by omega⟩
    by_cases kk : 1 ≤ k
    · exact h6 kk
    · have := h5 (by omega)
      exfalso
      apply hc
      exact ⟨this, by omega⟩
end Law
end
section
set_option Elab.async false
set_option linter.all false
set_option maxRecDepth 100000
set_option maxHeartbeats 2000000
set_option autoImplicit false
set_option synthInstance.maxHeartbeats 1000000
set_option synthInstance.maxSize 1000
open PySem PV
namespace Law
theorem div_step {x p : Int} (hp : 0 < p) : (x + 1) / p = x / p + (if (x + 1) % p = 0 then 1 else 0) := by
  have a := Int.emod_add_mul_ediv x p
  have a0 := Int.emod_nonneg x (b := p) (by omega)
  have a1 := Int.emod_lt_of_pos x hp
  by_cases h : x % p = p - 1
  · have e : x + 1 = 0 + p * (x / p + 1) := by rw [Int.mul_add]; omega
    obtain ⟨e1, e2⟩ := (Int.ediv_emod_unique (a := x + 1) (b := p) (r := 0) (q := x / p + 1) hp).mpr ⟨e.symm, Int.le_refl _, hp⟩
    rw [e1, e2, if_pos rfl]
  · have e : x + 1 = (x % p + 1) + p * (x / p) := by omega
    obtain ⟨e1, e2⟩ := (Int.ediv_emod_unique (a := x + 1) (b := p) (r := x % p + 1) (q := x / p) hp).mpr ⟨e.symm, by omega, by omega⟩
    rw [e1, e2, if_neg (by omega), Int.add_zero]
theorem mod_hit {y q p : Int} (h0 : 0 ≤ q) (h1 : q < p) : (y - q) % p = 0 ↔ y % p = q := by
  have hp : 0 < p := by omega
  have a := Int.emod_add_mul_ediv y p
  have a0 := Int.emod_nonneg y (b := p) (by omega)
  have a1 := Int.emod_lt_of_pos y hp
  constructor
  · intro h
    have b := Int.emod_add_mul_ediv (y - q) p
    rw [h] at b
    have e : q + p * ((y - q) / p) = y := by omega
    exact ((Int.ediv_emod_unique (a := y) (b := p) (r := q) (q := (y - q) / p) hp).mpr ⟨e, h0, h1⟩).2
  · intro h
    have e : 0 + p * (y / p) = y - q := by omega
    exact ((Int.ediv_emod_unique (a := y - q) (b := p) (r := 0) (q := y / p) hp).mpr ⟨e, Int.le_refl _, hp⟩).2
def com (p i q n : Int) : Int := (i + n - q) / p - (i - q) / p
theorem com_0 (p i q : Int) : com p i q 0 = 0 := by unfold com; rw [Int.add_zero]; omega
theorem com_s {p i q n : Int} (h0 : 0 ≤ q) (h1 : q < p) : com p i q (n + 1) = com p i q n + (if q = (i + (n + 1)) % p then 1 else 0) := by
  unfold com
  have e : i + (n + 1) - q = (i + n - q) + 1 := by omega
  rw [e, div_step (by omega : 0 < p)]
  have e2 : i + n - q + 1 = i + (n + 1) - q := by omega
  have : (if (i + n - q + 1) % p = 0 then (1 : Int) else 0) = if q = (i + (n + 1)) % p then 1 else 0 := by
    rw [e2]
    by_cases h : (i + (n + 1)) % p = q
    · rw [if_pos ((mod_hit h0 h1).mpr h), if_pos h.symm]
    · rw [if_neg (fun z => h ((mod_hit h0 h1).mp z)), if_neg (fun z => h z.symm)]
  rw [this]
  omega
theorem com_many {p i q n k : Int} (hp : 0 < p) : com p i q (n + k * p) = com p i q n + k := by
  unfold com
  have e : i + (n + k * p) - q = (i + n - q) + k * p := by omega
  rw [e, Int.add_mul_ediv_right _ _ (by omega)]
  omega
theorem com_first {p i q n : Int} (hp : 0 < p) (hn : 0 ≤ n) : com p i q n = if decide (((q - i) - 1) % p + 1 ≤ n) = true then (n - (((q - i) - 1) % p + 1)) / p + 1 else 0 := by
  have a := Int.emod_add_mul_ediv ((q - i) - 1) p
  have a0 := Int.emod_nonneg ((q - i) - 1) (b := p) (by omega)
  have a1 := Int.emod_lt_of_pos ((q - i) - 1) hp
  generalize ((q - i) - 1) % p = m at *
  generalize ((q - i) - 1) / p = d at *
  unfold com
  have e1 : i + n - q = (n - (m + 1)) + (-d) * p := by
    have : (-d) * p = -(p * d) := by rw [Int.neg_mul, Int.mul_comm]
    omega
  have e2 : i - q = (p - (m + 1)) + (-d - 1) * p := by
    have : (-d - 1) * p = -(p * d) - p := by rw [Int.sub_mul, Int.neg_mul, Int.mul_comm d p, Int.one_mul]
    omega
  rw [e1, e2, Int.add_mul_ediv_right _ _ (by omega), Int.add_mul_ediv_right _ _ (by omega)]
  have z : (p - (m + 1)) / p = 0 := Int.ediv_eq_zero_of_lt (by omega) (by omega)
  rw [z]
  by_cases h : m + 1 ≤ n
  · rw [if_pos (decide_eq_true h)]; omega
  · rw [if_neg (by rw [decide_eq_true_eq]; exact h)]
    have : (n - (m + 1)) / p = -1 := by
      have e : (p + (n - (m + 1))) + p * (-1) = n - (m + 1) := by omega
      exact ((Int.ediv_emod_unique (a := n - (m + 1)) (b := p) (r := p + (n - (m + 1))) (q := -1) hp).mpr ⟨e, by omega, by omega⟩).1
    rw [this]; omega
theorem came_eq {p i q : Int} (h0 : 0 ≤ q) (h1 : q < p) : ∀ n : Nat, F_law_came p i q (n : Int) = com p i q n := by
  intro n
  unfold F_law_came
  rw [List.map_id']
  have er : ∀ n : Nat, rngI 1 ((n : Int) + 1) = (List.range n).map fun t : Nat => 1 + (t : Int) := fun n => by
    unfold rngI
    have : ((n : Int) + 1 - 1).toNat = n := by omega
    rw [this]
  induction n with
  | zero => rw [er]; simp [com_0]
  | succ n ih =>
    rw [er] at ih ⊢
    rw [List.range_succ, List.map_append, List.filter_append, List.length_append]
    have e : ((n + 1 : Nat) : Int) = (n : Int) + 1 := by omega
    rw [e, com_s h0 h1, ← ih]
    have e2 : i + (1 + (n : Int)) = i + ((n : Int) + 1) := by omega
    by_cases h : (i + ((n : Int) + 1)) % p = q
    · rw [if_pos h.symm, List.map_cons, List.map_nil, List.filter_cons_of_pos (by rw [decide_eq_true_eq, e2]; exact h)]
      simp
    · rw [if_neg (fun z => h z.symm), List.map_cons, List.map_nil, List.filter_cons_of_neg (by rw [decide_eq_true_eq, e2]; exact h)]
      simp
/-- what piece i is bent by wheel w -/
def bdw (g : List Int) (i : Int) (w : Int × Int × Int) : Int := if (decide (i ∈ g)) = true then w.2.1 + w.2.2 else w.2.1
def Wr (l : Lpt) (i n : Int) : Int := (l.2.1.map fun w => bdw l.2.2 i w * com l.1 i w.1 n).sum
theorem bends_eq (l : Lpt) (w : Int × Int × Int) (i : Int) : F_bends_at l w i = bdw l.2.2 i w := rfl
theorem wear_eq (l : Lpt) (i n : Int) : F_wear l i n = Wr l i n := rfl
theorem bdw_m (g : List Int) (i : Int) (w : Int × Int × Int) : w.2.1 + w.2.2 * (if (decide (i ∈ g)) = true then (1 : Int) else 0) = bdw g i w := by
  unfold bdw
  by_cases h : (decide (i ∈ g)) = true
  · rw [if_pos h, if_pos h, Int.mul_one]
  · rw [if_neg h, if_neg h, Int.mul_zero, Int.add_zero]
def hitW (f : Int × Int × Int → Int) (ws : List (Int × Int × Int)) (q : Int) : Int := match ws.find? (fun w => decide (w.1 = q)) with
  | some w => f w
  | none => 0
theorem sum_hit (f : Int × Int × Int → Int) (q : Int) : ∀ ws : List (Int × Int × Int), List.Pairwise (fun a b : Int × Int × Int => a.1 < b.1) ws → (ws.map fun w => f w * (if w.1 = q then 1 else 0)).sum = hitW f ws q
  | [], _ => rfl
  | w :: r, h => by
    obtain ⟨h1, h2⟩ := List.pairwise_cons.mp h
    rw [List.map_cons, List.sum_cons, sum_hit f q r h2]
    unfold hitW
    by_cases e : w.1 = q
    · rw [if_pos e, List.find?_cons_of_pos (by rw [decide_eq_true_eq]; exact e)]
      have : r.find? (fun w => decide (w.1 = q)) = none := by
        rw [List.find?_eq_none]
        intro x hx
        rw [decide_eq_true_eq]
        have := h1 x hx
        omega
      rw [this]
      simp
    · rw [if_neg e, List.find?_cons_of_neg (by rw [decide_eq_true_eq]; exact e)]
      simp
theorem sum_add {α : Type} (f g : α → Int) : ∀ l : List α, (l.map fun x => f x + g x).sum = (l.map f).sum + (l.map g).sum
  | [] => rfl
  | x :: r => by rw [List.map_cons, List.map_cons, List.map_cons, List.sum_cons, List.sum_cons, List.sum_cons, sum_add f g r]; omega
theorem Wr_0 (l : Lpt) (i : Int) : Wr l i 0 = 0 := by
  unfold Wr
  rw [show (fun w : Int × Int × Int => bdw l.2.2 i w * com l.1 i w.1 0) = fun _ => 0 from funext fun w => by rw [com_0, Int.mul_zero]]
  induction l.2.1 with
  | nil => rfl
  | cons a r ih => rw [List.map_cons, List.sum_cons, ih]; rfl
theorem Wr_s {l : Lpt} (hl : LoopOk l) (i n : Int) : Wr l i (n + 1) = Wr l i n + hitW (bdw l.2.2 i) l.2.1 ((i + (n + 1)) % l.1) := by
  unfold Wr
  rw [← sum_hit (bdw l.2.2 i) _ l.2.1 hl.inc, ← sum_add]
  congr 1
  refine List.map_congr_left fun w hw => ?_
  have := hl.wh w hw
  rw [com_s (by omega) (by omega), Int.mul_add]
theorem Wr_many {l : Lpt} (hl : LoopOk l) (i n k : Int) : Wr l i (n + k * l.1) = Wr l i n + k * (l.2.1.map fun w => bdw l.2.2 i w).sum := by
  unfold Wr
  have hp := hl.p2
  induction l.2.1 with
  | nil => simp
  | cons a r ih =>
    rw [List.map_cons, List.sum_cons, ih, List.map_cons, List.sum_cons, List.map_cons, List.sum_cons, com_many (by omega), Int.mul_add, Int.mul_add, Int.mul_comm k (bdw _ _ _)]
    omega
end Law
end
section
set_option Elab.async false
set_option linter.all false
set_option maxRecDepth 100000
set_option maxHeartbeats 2000000
set_option autoImplicit false
set_option synthInstance.maxHeartbeats 1000000
set_option synthInstance.maxSize 1000
open PySem PV
namespace Law
theorem find_snoc {q : Int} {pre : List (Int × Int × Int)} {x : Int × Int × Int} (h : ∀ w ∈ pre, w.1 ≠ x.1) : (pre ++ [x]).find? (fun w => decide (w.1 = q)) = if q = x.1 then some x else pre.find? (fun w => decide (w.1 = q)) := by
  rw [List.find?_append]
  by_cases e : q = x.1
  · rw [if_pos e]
    have : pre.find? (fun w => decide (w.1 = q)) = none := by
      rw [List.find?_eq_none]
      intro w hw
      rw [decide_eq_true_eq, e]
      exact h w hw
    rw [this, List.find?_cons_of_pos (by rw [decide_eq_true_eq]; exact e.symm)]
    rfl
  · rw [if_neg e, List.find?_cons_of_neg (by rw [decide_eq_true_eq]; exact fun z => e z.symm)]
    simp
def WalkQ (l : Lpt) (n : Int) (f : List Int) : Prop := f.length = l.1.toNat ∧ ∀ i, 0 ≤ i → i < l.1 → f.getD i.toNat 0 = Wr l i n
theorem law_walked_T {l : Lpt} (hl : LoopOk l) {n : Int} (n0 : 0 ≤ n) (n1 : n ≤ 5000) : Ok (S_law_walked l n) (F_law_walked l n) (WalkQ l n) := by
  have sz : ∀ n : Nat, n ≤ 20000 → n ≤ sizeLine := fun n hn => by rw [line_eq]; omega
  have p2 := hl.p2
  have p5 := hl.p5
  have w6 := hl.w6
  unfold S_law_walked F_law_walked
  refine ok_for (fun s : List (Int × Int × Int) => ∀ q, valT s q = (l.2.1.find? fun w => decide (w.1 = q)).map fun w => (w.2.1, w.2.1 + w.2.2)) (And.imp_right (fun g => g.2) (LpS_pre (fun pre (s : List (Int × Int × Int)) => s.length ≤ pre.length ∧ ∀ q, valT s q = (pre.find? fun w => decide (w.1 = q)).map fun w => (w.2.1, w.2.1 + w.2.2)) ⟨Nat.zero_le _, fun q => rfl⟩ fun pre x post s hx ⟨h1, h2⟩ => ?_)) fun bends hb => ?_
  · have hlen := congrArg List.length hx
    rw [List.length_append, List.length_cons] at hlen
    refine ⟨by rw [line_eq]; omega, ?_, fun q => ?_⟩
    · have := putT_len s x.1 (x.2.1, x.2.1 + x.2.2)
      rw [List.length_append, List.length_singleton]
      omega
    · have hp := hl.inc
      rw [hx] at hp
      have hne : ∀ w ∈ pre, w.1 ≠ x.1 := fun w hw => by
        have := (List.pairwise_append.mp hp).2.2 w hw x (List.mem_cons_self ..)
        omega
      rw [valT_put, find_snoc hne]
      by_cases e : q = x.1
      · rw [if_pos e, if_pos e]; rfl
      · rw [if_neg e, if_neg e]; exact h2 q
  refine ok_g (r62_s (by omega) (by omega)) (ok_g (sz _ (by rw [rngI_len]; omega)) (ok_bnd (WalkQ l 0) ⟨by rw [List.length_map, rngI_len]; omega, fun i i0 i1 => ?_⟩ fun f hf => ok_g (r62_s (by omega) (by omega)) (ok_for0 (WalkQ l n) (And.imp_right (fun g => ?_) (LpS_pre (fun pre (f : List Int) => WalkQ l (pre.length : Int) f) hf fun pre x post f hx hf => ?_)) fun s hs => hs)))
  · rw [Wr_0, List.getD_eq_getElem?_getD, List.getElem?_map]
    cases (rngI 0 l.1)[i.toNat]? <;> rfl
  · rw [rngI_len] at g
    have e : (((n + 1 - 1).toNat : Nat) : Int) = n := by omega
    rw [e] at g
    exact g
  have hlen := congrArg List.length hx
  rw [List.length_append, List.length_cons, rngI_len] at hlen
  have ex : x = 1 + (pre.length : Int) := by
    have e1 : (rngI 1 (n + 1)).getD pre.length 0 = x := by rw [hx]; simp
    rw [getD_rngI (by omega)] at e1
    exact e1.symm
  have e9 : ((pre ++ [x]).length : Int) = (pre.length : Int) + 1 := by rw [List.length_append, List.length_singleton]; omega
  rw [e9]
  generalize (pre.length : Int) = t at *
  subst ex
  have key := LpS_rng (S := fun (found3 : List Int) (piece2 : Int) => 0 < l.1 ∧ (bnd ((piece2 + (1 + t)) % l.1) fun (place : Int) => ((valT bends place).isSome = true → ixOk found3.length piece2 ∧ (valT bends place).isSome = true ∧ ixOk 2 (if (decide (piece2 ∈ l.2.2)) = true then (1 : Int) else 0))))
    (F := fun (found3 : List Int) (piece2 : Int) => (bnd ((piece2 + (1 + t)) % l.1) fun (place : Int) =>
      (if (valT bends place).isSome = true then (bnd (found3.set (piece2).toNat ((found3.getD (piece2).toNat 0) + (([((valT bends place).getD (0, 0)).1, ((valT bends place).getD (0, 0)).2] : List Int).getD ((if (decide (piece2 ∈ l.2.2)) = true then (1 : Int) else 0)).toNat 0))) fun (found4 : (List Int)) => found4) else found3)))
    (n := l.1) (s0 := f) (fun k (f3 : List Int) => f3.length = l.1.toNat ∧ ∀ i, 0 ≤ i → i < l.1 → f3.getD i.toNat 0 = if i < k then Wr l i (t + 1) else Wr l i t)
    ⟨hf.1, fun i i0 i1 => by rw [if_neg (by omega)]; exact hf.2 i i0 i1⟩ (by omega) fun k f3 k0 k1 ⟨g1, g2⟩ => ?_
  · exact ⟨key.1, key.2.1, fun i i0 i1 => by have := key.2.2 i i0 i1; rw [if_pos i1] at this; exact this⟩
  have hs := Wr_s hl k t
  have e2 : k + (t + 1) = k + (1 + t) := by omega
  rw [e2] at hs
  simp only [bnd]
  generalize (k + (1 + t)) % l.1 = place at *
  have hv := hb place
  unfold hitW at hs
  refine ⟨⟨by omega, fun hh => ⟨⟨k0, by omega⟩, hh, by split <;> exact ⟨by omega, by omega⟩⟩⟩, ?_⟩
  cases q : l.2.1.find? (fun w => decide (w.1 = place)) with
  | none =>
    rw [q] at hs hv
    rw [hv, Option.map_none, if_neg (by simp)]
    refine ⟨g1, fun i i0 i1 => ?_⟩
    rw [g2 i i0 i1]
    by_cases e : i = k
    · subst e
      rw [if_neg (by omega), if_pos (by omega), hs, Int.add_zero]
    · by_cases e3 : i < k
      · rw [if_pos e3, if_pos (by omega)]
      · rw [if_neg e3, if_neg (by omega)]
  | some w =>
    rw [q] at hs hv
    rw [hv, Option.map_some, if_pos (by rfl)]
    refine ⟨by rw [List.length_set]; exact g1, fun i i0 i1 => ?_⟩
    have hset : ∀ v : Int, (f3.set k.toNat v).getD i.toNat 0 = if i = k then v else f3.getD i.toNat 0 := fun v => by
      rw [List.getD_eq_getElem?_getD, List.getD_eq_getElem?_getD, List.getElem?_set]
      by_cases e : i = k
      · subst e; rw [if_pos rfl, if_pos (by omega), if_pos rfl]; rfl
      · rw [if_neg (by omega), if_neg e]
    rw [hset]
    by_cases e : i = k
    · subst e
      have hw : ([((some (w.2.1, w.2.1 + w.2.2)).getD ((0 : Int), (0 : Int))).1, ((some (w.2.1, w.2.1 + w.2.2)).getD ((0 : Int), (0 : Int))).2] : List Int).getD ((if (decide (i ∈ l.2.2)) = true then (1 : Int) else 0)).toNat 0 = bdw l.2.2 i w := by
        unfold bdw
        by_cases m : (decide (i ∈ l.2.2)) = true
        · rw [if_pos m, if_pos m]; rfl
        · rw [if_neg m, if_neg m]; rfl
      rw [if_pos rfl, g2 i i0 i1, hw, if_neg (by omega), if_pos (by omega), hs]
    · rw [if_neg e, g2 i i0 i1]
      by_cases e3 : i < k
      · rw [if_pos e3, if_pos (by omega)]
      · rw [if_neg e3, if_neg (by omega)]
end Law
end
section
set_option Elab.async false
set_option linter.all false
set_option maxRecDepth 100000
set_option maxHeartbeats 2000000
set_option autoImplicit false
set_option synthInstance.maxHeartbeats 1000000
set_option synthInstance.maxSize 1000
open PySem PV
namespace Law
theorem pw_get {xs : List Int} (h : List.Pairwise (fun a b : Int => a < b) xs) {i j : Nat} (hij : i < j) (hj : j < xs.length) : xs.getD i 0 < xs.getD j 0 := by
  rw [List.getD_eq_getElem?_getD, List.getD_eq_getElem?_getD, List.getElem?_eq_getElem hj, List.getElem?_eq_getElem (by omega)]
  exact List.pairwise_iff_getElem.mp h i j (by omega) hj hij
theorem rises_T {xs : List Int} (hl : xs.length ≤ 1000) (h : List.Pairwise (fun a b : Int => a < b) xs) : S_rises xs ∧ F_rises xs = true := by
  have m : ∀ k ∈ rngI 0 ((xs.length : Int) - 1), 0 ≤ k ∧ k + 1 < xs.length := fun k hk => by have := rngI_mem.mp hk; omega
  refine ⟨⟨r62_s (by omega) (by omega), by rw [rngI_len, line_eq]; omega, fun k hk => ?_⟩, ?_⟩
  · have := m k hk
    exact ⟨⟨by omega, by omega⟩, ⟨by omega, by omega⟩⟩
  · unfold F_rises
    rw [all_map, List.all_eq_true]
    intro k hk
    have := m k hk
    rw [decide_eq_true_eq]
    exact pw_get h (by omega) (by omega)
theorem grips_len {l : Lpt} (hl : LoopOk l) : l.2.2.length ≤ 500 := by
  have p5 := hl.p5
  have hh : ∀ j : Nat, j < l.2.2.length → (j : Int) ≤ l.2.2.getD j 0 := by
    intro j
    induction j with
    | zero => intro hj; have := hl.gr _ (gd_mem (d := 0) hj); omega
    | succ j ih =>
      intro hj
      have := ih (by omega)
      have h9 : l.2.2.getD j 0 < l.2.2.getD (j + 1) 0 := pw_get hl.ginc (Nat.lt_succ_self j) hj
      omega
  by_cases z : l.2.2.length = 0
  · omega
  · have h1 := hh (l.2.2.length - 1) (by omega)
    have h2 := hl.gr _ (gd_mem (d := 0) (show l.2.2.length - 1 < l.2.2.length by omega))
    omega
theorem check_T {l : Lpt} (hl : LoopOk l) : S_check_loop l ∧ F_check_loop l = Ex.ok () := by
  have p2 := hl.p2
  have p5 := hl.p5
  have w1 := hl.w1
  have w6 := hl.w6
  have hw : F_are_wheels l.1 l.2.1 = true ∧ S_are_wheels l.1 l.2.1 := by
    have a1 : (!((decide (1 ≤ (l.2.1.length : Int))) && (decide ((l.2.1.length : Int) ≤ 20)))) = false := by
      rw [decide_eq_true (by omega), decide_eq_true (by omega)]; rfl
    have a2 : ((l.2.1.map fun (wheel : (Int × Int × Int)) => (F_is_wheel l.1 wheel)).all id) = true := by
      rw [all_map, List.all_eq_true]
      intro w hw
      have := hl.wh w hw
      unfold F_is_wheel
      rw [if_neg (by simp [F_is_whole]), decide_eq_true (by omega : 0 ≤ w.1), decide_eq_true (by omega : w.1 < l.1), decide_eq_true (by omega : 1 ≤ w.2.1), decide_eq_true (by omega : 0 ≤ w.2.2)]
      rfl
    have r := rises_T (xs := l.2.1.map fun (wheel2 : (Int × Int × Int)) => wheel2.1) (by rw [List.length_map]; omega) (List.pairwise_map.mpr hl.inc)
    have sz : l.2.1.length ≤ sizeLine := by rw [line_eq]; omega
    refine ⟨?_, fun _ => sz, fun _ => ⟨sz, r.1⟩⟩
    unfold F_are_wheels
    rw [a1, a2, if_neg (by decide)]
    exact r.2
  have lg := grips_len hl
  have hg : F_are_indexes l.2.2 l.1 = true ∧ S_are_indexes l.2.2 l.1 := by
    have r := rises_T (xs := l.2.2) (by omega) hl.ginc
    refine ⟨?_, by rw [line_eq]; omega, fun _ => r.1⟩
    unfold F_are_indexes
    rw [r.2, all_map, Bool.and_true, List.all_eq_true]
    intro g hg
    have := hl.gr g hg
    unfold F_is_index F_is_whole
    rw [decide_eq_true (by omega : 0 ≤ g), decide_eq_true (by omega : g < l.1)]
    rfl
  have c1 : ((!(F_is_whole l.1)) || (!((decide (2 ≤ l.1)) && (decide (l.1 ≤ 500))))) = false := by
    rw [decide_eq_true (by omega : 2 ≤ l.1), decide_eq_true (by omega : l.1 ≤ 500)]; rfl
  refine ⟨fun _ => ⟨hw.2, fun _ => hg.2⟩, ?_⟩
  unfold F_check_loop
  rw [c1, hw.1, hg.1]
  rfl
/-! of any form -/
theorem whole_I {d : PyData} (h : F_is_whole_2 d = true) : isI d := by
  unfold F_is_whole_2 at h
  cases d with
  | int n => exact ⟨n, rfl⟩
  | bool b => exact absurd h (by cases b <;> decide)
  | none => exact absurd h (by decide)
  | str s => rw [show isTy Ty.int (.str s) = false from rfl] at h; cases h
  | list s => rw [show isTy Ty.int (.list s) = false from rfl] at h; cases h
  | tuple s => rw [show isTy Ty.int (.tuple s) = false from rfl] at h; cases h
  | dict s => rw [show isTy Ty.int (.dict s) = false from rfl] at h; cases h
theorem tup_sq {d : PyData} (h : isTy Ty.tuple d = true) : isSq d = true := by
  cases d with
  | tuple s => rfl
  | list s => rfl
  | int n => rw [show isTy Ty.tuple (.int n) = false from rfl] at h; cases h
  | bool b => rw [show isTy Ty.tuple (.bool b) = false from rfl] at h; cases h
  | none => rw [show isTy Ty.tuple .none = false from rfl] at h; cases h
  | str s => rw [show isTy Ty.tuple (.str s) = false from rfl] at h; cases h
  | dict s => rw [show isTy Ty.tuple (.dict s) = false from rfl] at h; cases h
theorem or3 {a b c : Bool} (h : ((!a) || ((!b) || (!c))) = false) : a = true ∧ b = true ∧ c = true := by cases a <;> cases b <;> cases c <;> simp_all
theorem rises_S2 {xs : List PyData} (hl : xs.length ≤ 1000) (h : ∀ x ∈ xs, isI x) : S_rises_2 xs := by
  have m : ∀ k ∈ rngI 0 ((xs.length : Int) - 1), 0 ≤ k ∧ k + 1 < xs.length := fun k hk => by have := rngI_mem.mp hk; omega
  refine ⟨r62_s (by omega) (by omega), by rw [rngI_len, line_eq]; omega, fun k hk => ?_⟩
  have := m k hk
  refine ⟨⟨by omega, by omega⟩, ⟨by omega, by omega⟩, ?_⟩
  obtain ⟨a, ea⟩ := h _ (gd_mem (l := xs) (d := PyData.none) (i := k.toNat) (by omega))
  obtain ⟨b, eb⟩ := h _ (gd_mem (l := xs) (d := PyData.none) (i := (k + 1).toNat) (by omega))
  rw [ea, eb]
  exact ⟨_, f_lt⟩
theorem wheel_S {p : Int} {d : PyData} (h : (seqD d).length ≤ 1000) : S_is_wheel_2 (.int p) d := by
  refine ⟨fun h1 => ⟨tup_sq (by cases q : isTy Ty.tuple d <;> simp_all), fun _ => by rw [line_eq]; omega⟩, fun h1 => ?_⟩
  obtain ⟨a, b, c⟩ := or3 h1
  rw [decide_eq_true_eq] at b
  rw [all_map, List.all_eq_true] at c
  have hl : (seqD d).length = 3 := by omega
  exact ⟨tup_sq a, hl, whole_I (c _ (gd_mem (by omega))), fun _ => ⟨p, rfl⟩, fun _ => ⟨whole_I (c _ (gd_mem (by omega))), fun _ => whole_I (c _ (gd_mem (by omega)))⟩⟩
theorem wheel_t {p d : PyData} (h : F_is_wheel_2 p d = true) : isTy Ty.tuple d = true ∧ (seqD d).length = 3 ∧ ∀ x ∈ seqD d, F_is_whole_2 x = true := by
  unfold F_is_wheel_2 at h
  split at h
  · cases h
  · rename_i q
    have q := or3 (by simpa using q : ((!isTy Ty.tuple d) || ((!decide (((seqD d).length : Int) = 3)) || (!(((seqD d).map fun (number : PyData) => (F_is_whole_2 number)).all id)))) = false)
    obtain ⟨a, b, c⟩ := q
    rw [decide_eq_true_eq] at b
    rw [all_map, List.all_eq_true] at c
    exact ⟨a, by omega, c⟩
theorem wheels_S {p : Int} {ds : List PyData} (hl : ds.length ≤ 1000) (h : ∀ d ∈ ds, (seqD d).length ≤ 1000) : S_are_wheels_2 (.int p) ds := by
  have sz : ds.length ≤ sizeLine := by rw [line_eq]; omega
  refine ⟨fun _ => ⟨sz, fun d hd => wheel_S (h d hd)⟩, fun hc => ?_⟩
  have c : ∀ d ∈ ds, F_is_wheel_2 (.int p) d = true := by
    have : ((ds.map fun (wheel : PyData) => (F_is_wheel_2 (.int p) wheel)).all id) = true := by
      cases q : ((ds.map fun (wheel : PyData) => (F_is_wheel_2 (.int p) wheel)).all id) with
      | true => rfl
      | false => rw [q] at hc; simp at hc
    rw [all_map, List.all_eq_true] at this
    exact this
  refine ⟨sz, fun d hd => ?_, rises_S2 (by rw [List.length_map]; exact hl) fun x hx => ?_⟩
  · obtain ⟨a, b, _⟩ := wheel_t (c d hd)
    exact ⟨tup_sq a, by omega⟩
  · obtain ⟨d, hd, rfl⟩ := List.mem_map.mp hx
    obtain ⟨_, b, e⟩ := wheel_t (c d hd)
    exact whole_I (e _ (gd_mem (by omega)))
theorem idx_S {p : Int} {ds : List PyData} (hl : ds.length ≤ 1000) : S_are_indexes_2 ds (.int p) := by
  refine ⟨by rw [line_eq]; omega, fun d _ => fun h => ⟨whole_I h, fun _ => ⟨p, rfl⟩⟩, fun hc => rises_S2 hl fun x hx => ?_⟩
  rw [all_map, List.all_eq_true] at hc
  have := hc x hx
  unfold F_is_index_2 at this
  rw [Bool.and_eq_true] at this
  exact whole_I this.1
theorem chk_S {x : PyData × List PyData × List PyData} (h1 : x.2.1.length ≤ 1000) (h2 : ∀ d ∈ x.2.1, (seqD d).length ≤ 1000) (h3 : x.2.2.length ≤ 1000) : S_check_loop_2 x := by
  have w : ∀ {b : Bool}, (!b) = false → b = true := fun {b} h => by cases b <;> simp_all
  refine ⟨fun h => whole_I (w h), fun h => ?_⟩
  have hw : F_is_whole_2 x.1 = true := by
    cases q : F_is_whole_2 x.1 with
    | true => rfl
    | false => rw [q] at h; simp at h
  obtain ⟨p, ep⟩ := whole_I hw
  rw [ep]
  exact ⟨wheels_S h1 h2, fun _ => idx_S h3⟩
theorem chk_F {x : PyData × List PyData × List PyData} (h : F_is_whole_2 x.1 = false ∨ ((decide (2 ≤ (asI x.1))) && (decide ((asI x.1) ≤ 500))) = false ∨ F_are_wheels_2 x.1 x.2.1 = false ∨ F_are_indexes_2 x.2.2 x.1 = false) : F_check_loop_2 x = Ex.exc "InvalidLoop" := by
  unfold F_check_loop_2
  by_cases c1 : ((!(F_is_whole_2 x.1)) || (!((decide (2 ≤ (asI x.1))) && (decide ((asI x.1) ≤ 500))))) = true
  · rw [if_pos c1]
  · rw [if_neg c1]
    by_cases c2 : (!(F_are_wheels_2 x.1 x.2.1)) = true
    · rw [if_pos c2]
    · rw [if_neg c2]
      by_cases c3 : (!(F_are_indexes_2 x.2.2 x.1)) = true
      · rw [if_pos c3]
      · exfalso
        rcases h with h | h | h | h
        · rw [h] at c1; simp at c1
        · rw [h] at c1; simp at c1
        · rw [h] at c2; simp at c2
        · rw [h] at c3; simp at c3
theorem refused_T {x : PyData × List PyData × List PyData} (hs : S_check_loop_2 x) (hf : F_check_loop_2 x = Ex.exc "InvalidLoop") : S_law_refused x ∧ F_law_refused x = true := by
  unfold S_law_refused F_law_refused
  rw [hf]
  refine ⟨⟨hs, fun cl h => ?_, fun cl h hc => ?_⟩, ?_⟩
  · cases h; decide
  · cases h
    rw [sx_InvalidLoop_InvalidLoop] at hc
    cases hc
  · show (if subX "InvalidLoop" "InvalidLoop" = true then ((subX "InvalidLoop" "RopeError") && (subX "InvalidLoop" "ValueError")) else false) = true
    decide +kernel
end Law
end
section
set_option Elab.async false
set_option linter.all false
set_option maxRecDepth 100000
set_option maxHeartbeats 2000000
set_option autoImplicit false
set_option synthInstance.maxHeartbeats 1000000
set_option synthInstance.maxSize 1000
open PySem PV
namespace Law
def Bad (x : PyData × List PyData × List PyData) : Prop := S_check_loop_2 x ∧ F_check_loop_2 x = Ex.exc "InvalidLoop"
theorem bad_of {x : PyData × List PyData × List PyData} (h1 : x.2.1.length ≤ 1000) (h2 : ∀ d ∈ x.2.1, (seqD d).length ≤ 1000) (h3 : x.2.2.length ≤ 1000) (h : F_is_whole_2 x.1 = false ∨ ((decide (2 ≤ (asI x.1))) && (decide ((asI x.1) ≤ 500))) = false ∨ F_are_wheels_2 x.1 x.2.1 = false ∨ F_are_indexes_2 x.2.2 x.1 = false) : Bad x := ⟨chk_S h1 h2 h3, chk_F h⟩
theorem wheels_one {p d : PyData} (h : F_is_wheel_2 p d = false) : F_are_wheels_2 p [d] = false := by
  unfold F_are_wheels_2
  rw [if_pos]
  simp [h]
theorem wheel_no {p : PyData} {xs : List PyData} {a b c : Int} (hx : xs = [.int a, .int b, .int c]) (h : ¬ (0 ≤ a ∧ a < asI p ∧ 1 ≤ b ∧ 0 ≤ c)) : F_is_wheel_2 p (.tuple xs) = false := by
  subst hx
  unfold F_is_wheel_2
  refine (if_neg (fun z => (nomatch (show false = true from z)))).trans ?_
  show (((decide (0 ≤ a)) && (decide (a < asI p))) && ((decide (1 ≤ b)) && (decide (0 ≤ c)))) = false
  by_cases h0 : 0 ≤ a
  · by_cases h1 : a < asI p
    · by_cases h2 : 1 ≤ b
      · by_cases h3 : 0 ≤ c
        · exact absurd ⟨h0, h1, h2, h3⟩ h
        · rw [decide_eq_false h3, Bool.and_false, Bool.and_false]
      · rw [decide_eq_false h2, Bool.false_and, Bool.and_false]
    · rw [decide_eq_false h1, Bool.and_false, Bool.false_and]
  · rw [decide_eq_false h0, Bool.false_and, Bool.false_and]
theorem rises_no {xs : List PyData} {i : Nat} (hi : i + 1 < xs.length) (h : cmpA pLt (xs.getD i PyData.none) (xs.getD (i + 1) PyData.none) = false) : F_rises_2 xs = false := by
  unfold F_rises_2
  rw [all_map, Bool.eq_false_iff]
  intro hc
  rw [List.all_eq_true] at hc
  have := hc (i : Int) (rngI_mem.mpr ⟨by omega, by omega⟩)
  rw [show ((i : Int)).toNat = i by omega, show ((i : Int) + 1).toNat = i + 1 by omega, h] at this
  cases this
theorem idx_rises {p : PyData} {xs : List PyData} (h : F_rises_2 xs = false) : F_are_indexes_2 xs p = false := by
  unfold F_are_indexes_2
  rw [h, Bool.and_false]
theorem idx_one {p : PyData} {a : Int} (h : ¬ (0 ≤ a ∧ a < asI p)) : F_are_indexes_2 [.int a] p = false := by
  have hi : F_is_index_2 (.int a) p = false := by
    show (true && ((decide (0 ≤ a)) && (decide (a < asI p)))) = false
    by_cases h0 : 0 ≤ a
    · rw [decide_eq_false (fun z => h ⟨h0, z⟩), Bool.and_false, Bool.and_false]
    · rw [decide_eq_false h0, Bool.false_and, Bool.and_false]
  unfold F_are_indexes_2
  simp [hi]
abbrev eW (w : Int × Int × Int) : PyData := enc3 PyData.int PyData.int PyData.int w
theorem eW_len (w : Int × Int × Int) : (seqD (eW w)).length ≤ 1000 := by show 3 ≤ 1000; omega
theorem ws_len (ws : List (Int × Int × Int)) : ∀ d ∈ ws.map eW, (seqD d).length ≤ 1000 := fun d hd => by
  obtain ⟨w, _, rfl⟩ := List.mem_map.mp hd
  exact eW_len w
theorem law_others_T {l : Lpt} (hl : LoopOk l) {pick : Int} (k0 : 0 ≤ pick) : Ok (S_law_others l pick) (F_law_others l pick) (fun os => ∀ x ∈ os, Bad x) := by
  have sz : ∀ n : Nat, n ≤ 20000 → n ≤ sizeLine := fun n hn => by rw [line_eq]; omega
  have p2 := hl.p2
  have p5 := hl.p5
  have w1 := hl.w1
  have w6 := hl.w6
  have lg := grips_len hl
  have h0 := hl.wh _ (gd_mem (l := l.2.1) (d := (0, 0, 0)) (i := 0) (by omega))
  unfold S_law_others F_law_others
  refine ok_g (by omega) ?_
  obtain ⟨p, ws, gs⟩ := l
  have hinc : List.Pairwise (fun a b : Int × Int × Int => a.1 < b.1) ws := hl.inc
  simp only at *
  generalize hw0 : ws.getD 0 (0, 0, 0) = w0 at *
  obtain ⟨place, bend, more⟩ := w0
  simp only at h0
  refine ok_bnd (fun v => v = (place, bend, more)) rfl fun v hv => ?_
  subst hv
  refine ok_g (sz _ (by simp only [List.length_singleton]; omega)) (ok_bnd (fun f : List (Int × List (Int × Int × Int) × List Int) => f.length = 4 ∧ ∀ x ∈ f, Bad (.int x.1, x.2.1.map eW, x.2.2.map PyData.int)) ⟨rfl, fun x hx => ?_⟩ fun f ⟨f1, f2⟩ => ?_)
  · simp only [List.mem_cons, List.not_mem_nil, or_false] at hx
    rcases hx with rfl | rfl | rfl | rfl
    · exact bad_of (by simp) (ws_len _) (by simp) (.inr (.inl rfl))
    · exact bad_of (by simp only [List.length_map]; omega) (ws_len _) (by simp only [List.length_map]; omega) (.inr (.inl rfl))
    · exact bad_of (by simp) (ws_len _) (by simp only [List.length_map]; omega) (.inr (.inr (.inl rfl)))
    · refine bad_of (by simp only [List.length_map, List.length_append, List.length_singleton]; omega) (ws_len _) (by simp only [List.length_map]; omega) (.inr (.inr (.inl ?_)))
      have hr : F_rises_2 (((ws ++ [(place, bend, more)]).map eW).map fun wheel2 => (seqD wheel2).getD 0 PyData.none) = false := by
        rw [List.map_map]
        refine rises_no (i := ws.length - 1) (by simp only [List.length_map, List.length_append, List.length_singleton]; omega) ?_
        rw [List.getD_eq_getElem?_getD, List.getD_eq_getElem?_getD, List.getElem?_map, List.getElem?_map, List.getElem?_append_left (by omega), List.getElem?_append_right (by omega), List.getElem?_eq_getElem (by omega), show ws.length - 1 + 1 - ws.length = 0 by omega]
        show cmpA pLt (.int (ws[ws.length - 1]'(by omega)).1) (.int place) = false
        have e0 : place ≤ (ws[ws.length - 1]'(by omega)).1 := by
          have e1 : (ws[0]'(by omega)) = (place, bend, more) := by rw [← hw0, List.getD_eq_getElem?_getD, List.getElem?_eq_getElem (by omega)]; rfl
          by_cases z : ws.length = 1
          · have : (ws[ws.length - 1]'(by omega)) = ws[0]'(by omega) := by congr 1; omega
            rw [this, e1]
            exact Int.le_refl _
          · have := List.pairwise_iff_getElem.mp hinc 0 (ws.length - 1) (by omega) (by omega) (by omega)
            rw [e1] at this
            simp only at this
            omega
        unfold cmpA
        rw [f_lt]
        exact decide_eq_false (by omega)
      unfold F_are_wheels_2
      split
      · rfl
      · exact hr
  refine ok_g (sz _ (by simp [List.length_map, f1])) (ok_bnd (fun f : List (PyData × List (Int × Int × Int) × List Int) => f.length = 7 ∧ ∀ x ∈ f, Bad (x.1, x.2.1.map eW, x.2.2.map PyData.int)) ⟨by simp only [List.length_append, List.length_map, f1]; rfl, fun x hx => ?_⟩ fun f' ⟨g1, g2⟩ => ?_)
  · rcases List.mem_append.mp hx with hx | hx
    · obtain ⟨y, hy, rfl⟩ := List.mem_map.mp hx
      exact f2 y hy
    · simp only [List.mem_cons, List.not_mem_nil, or_false] at hx
      rcases hx with rfl | rfl | rfl
      · exact bad_of (by simp only [List.length_map]; omega) (ws_len _) (by simp only [List.length_map]; omega) (.inl rfl)
      · exact bad_of (by simp) (ws_len _) (by simp only [List.length_map]; omega) (.inr (.inr (.inl (wheels_one (wheel_no rfl (by simp only [asI]; omega))))))
      · exact bad_of (by simp) (ws_len _) (by simp only [List.length_map]; omega) (.inr (.inr (.inl (wheels_one (wheel_no rfl (by simp only [asI]; omega))))))
  refine ok_g (sz _ (by simp [List.length_map, g1])) (ok_bnd (fun f : List (PyData × List PyData × List Int) => f.length = 10 ∧ ∀ x ∈ f, Bad (x.1, x.2.1, x.2.2.map PyData.int)) ⟨by simp only [List.length_append, List.length_map, g1]; rfl, fun x hx => ?_⟩ fun f3 ⟨i1, i2⟩ => ?_)
  · rcases List.mem_append.mp hx with hx | hx
    · obtain ⟨y, hy, rfl⟩ := List.mem_map.mp hx
      exact g2 y hy
    · obtain ⟨y, hy, rfl⟩ := List.mem_map.mp hx
      simp only [List.mem_cons, List.not_mem_nil, or_false] at hy
      rcases hy with rfl | rfl | rfl
      · exact bad_of (by simp) (fun d hd => by simp only [List.map_cons, List.map_nil, List.mem_singleton] at hd; rw [hd]; show 2 ≤ 1000; omega) (by simp only [List.length_map]; omega) (.inr (.inr (.inl (wheels_one rfl))))
      · exact bad_of (by simp) (fun d hd => by simp only [List.map_cons, List.map_nil, List.mem_singleton] at hd; rw [hd]; show 3 ≤ 1000; omega) (by simp only [List.length_map]; omega) (.inr (.inr (.inl (wheels_one rfl))))
      · exact bad_of (by simp) (ws_len _) (by simp only [List.length_map]; omega) (.inr (.inr (.inl (wheels_one (wheel_no rfl (by simp only [asI]; omega))))))
  refine ok_g (sz _ (by simp [List.length_map, i1])) (ok_bnd (fun f : List (PyData × List PyData × List Int) => f.length = 14 ∧ ∀ x ∈ f, Bad (x.1, x.2.1, x.2.2.map PyData.int)) ⟨by simp only [List.length_append, List.length_map, i1]; rfl, fun x hx => ?_⟩ fun f4 ⟨j1, j2⟩ => ?_)
  · rcases List.mem_append.mp hx with hx | hx
    · exact i2 x hx
    · obtain ⟨y, hy, rfl⟩ := List.mem_map.mp hx
      simp only [List.mem_cons, List.not_mem_nil, or_false] at hy
      rcases hy with rfl | rfl | rfl | rfl
      · exact bad_of (by simp) (ws_len _) (by simp only [List.length_map]; omega) (.inr (.inr (.inl (wheels_one (wheel_no rfl (by simp only [asI]; omega))))))
      · exact bad_of (by simp only [List.length_map]; omega) (ws_len _) (by simp) (.inr (.inr (.inr (idx_one (by simp only [asI]; omega)))))
      · exact bad_of (by simp only [List.length_map]; omega) (ws_len _) (by simp) (.inr (.inr (.inr (idx_one (by simp only [asI]; omega)))))
      · exact bad_of (by simp only [List.length_map]; omega) (ws_len _) (by simp) (.inr (.inr (.inr (idx_rises (rises_no (i := 0) (by simp) rfl)))))
  refine ok_g (sz _ (by simp [List.length_map, j1])) (ok_bnd (fun f : List (PyData × List PyData × List PyData) => f.length = 18 ∧ ∀ x ∈ f, Bad x) ⟨by simp only [List.length_append, List.length_map, j1]; rfl, fun x hx => ?_⟩ fun f5 ⟨k1, k2⟩ => ?_)
  · rcases List.mem_append.mp hx with hx | hx
    · obtain ⟨y, hy, rfl⟩ := List.mem_map.mp hx
      exact j2 y hy
    · obtain ⟨y, hy, rfl⟩ := List.mem_map.mp hx
      simp only [List.mem_cons, List.not_mem_nil, or_false] at hy
      have tl : ∀ zs : List (PyData × Int × Int), ∀ d ∈ zs.map fun y20 => ((enc3 idD PyData.int PyData.int) y20), (seqD d).length ≤ 1000 := fun zs d hd => by
        obtain ⟨w, _, rfl⟩ := List.mem_map.mp hd
        show 3 ≤ 1000; omega
      rcases hy with rfl | rfl | rfl | rfl
      · exact bad_of (by simp only [List.length_map]; omega) (tl _) (by simp) (.inr (.inr (.inr (idx_rises (rises_no (i := 0) (by simp) rfl)))))
      · exact bad_of (by simp only [List.length_map]; omega) (tl _) (by simp) (.inr (.inr (.inr rfl)))
      · exact bad_of (by simp only [List.length_map]; omega) (tl _) (by simp) (.inr (.inr (.inr rfl)))
      · exact bad_of (by simp) (tl _) (by simp only [List.length_map]; omega) (.inr (.inr (.inl (wheels_one rfl))))
  refine ok_g (sz _ (by rw [rngI_len]; decide)) (ok_g (sz _ (by simp [List.length_map, k1])) (ok_bnd (fun f : List (PyData × List PyData × List PyData) => f.length = 21 ∧ ∀ x ∈ f, Bad x) ⟨by simp only [List.length_append, List.length_map, k1]; rfl, fun x hx => ?_⟩ fun f6 ⟨m1, m2⟩ => ?_))
  · rcases List.mem_append.mp hx with hx | hx
    · exact k2 x hx
    · obtain ⟨y, hy, rfl⟩ := List.mem_map.mp hx
      simp only [List.mem_cons, List.not_mem_nil, or_false] at hy
      rcases hy with rfl | rfl | rfl
      · exact bad_of (by simp) (ws_len _) (by simp) (.inl rfl)
      · exact bad_of (by simp only [List.length_map, rngI_len]; decide) (ws_len _) (by simp) (.inr (.inr (.inl rfl)))
      · exact bad_of (by simp only [List.length_map]; omega) (ws_len _) (by simp only [List.length_map]; omega) (.inl rfl)
  refine ok_end ⟨sz _ (by rw [rngI_len]; decide), fun k hk => ⟨by omega, by rw [m1]; exact ⟨by omega, by omega⟩⟩⟩ fun x hx => ?_
  obtain ⟨k, hk, rfl⟩ := List.mem_map.mp hx
  exact m2 _ (gd_mem (by rw [m1]; omega))
end Law
end
section
set_option Elab.async false
set_option linter.all false
set_option maxRecDepth 100000
set_option maxHeartbeats 2000000
set_option autoImplicit false
set_option synthInstance.maxHeartbeats 1000000
set_option synthInstance.maxSize 1000
open PySem PV
namespace Law
theorem walk_eq {l : Lpt} {n : Int} {f : List Int} (h : WalkQ l n f) : (rngI 0 l.1).map (fun i => Wr l i n) = f := by
  refine List.ext_getElem (by rw [List.length_map, rngI_len, h.1]; omega) fun j h1 h2 => ?_
  rw [List.length_map, rngI_len] at h1
  have e := h.2 (j : Int) (by omega) (by omega)
  rw [show ((j : Int)).toNat = j by omega, List.getD_eq_getElem?_getD, List.getElem?_eq_getElem h2] at e
  have g := getD_rngI (lo := 0) (hi := l.1) (i := j) (d := 0) (by omega)
  rw [List.getD_eq_getElem?_getD, List.getElem?_eq_getElem (by rw [rngI_len]; omega)] at g
  simp only [Option.getD_some] at e g
  rw [List.getElem_map, g, e]
  congr 1
  omega
theorem bdw_b {l : Lpt} (hl : LoopOk l) {w : Int × Int × Int} (hw : w ∈ l.2.1) (i : Int) : 1 ≤ bdw l.2.2 i w ∧ bdw l.2.2 i w ≤ 10080 := by
  have := hl.wh w hw
  unfold bdw
  split <;> omega
theorem wear_S {l : Lpt} (hl : LoopOk l) (i n : Int) : S_wear l i n := by
  have := hl.w6
  have := hl.p2
  have := hl.p5
  refine ⟨by rw [line_eq]; omega, fun w hw => ⟨dvOk_s (by omega) (by omega), mulOk_l ?_ ?_⟩⟩
  · have := bdw_b hl hw i
    show _ < bdw l.2.2 i w
    omega
  · have := bdw_b hl hw i
    show bdw l.2.2 i w < _
    omega
theorem law_wear_T {l : Lpt} (hl : LoopOk l) {i n : Int} (n0 : 0 ≤ n) (n1 : n ≤ 5000) : S_law_wear l i n ∧ F_law_wear l i n = Wr l i n := by
  show Ok (S_law_wear l i n) (F_law_wear l i n) fun r => r = Wr l i n
  have p2 := hl.p2
  have p5 := hl.p5
  unfold S_law_wear F_law_wear
  refine ok_for0 (fun s => s = Wr l i n) (LpS_pre (fun pre (s : Int) => s = (pre.map fun w => bdw l.2.2 i w * com l.1 i w.1 n).sum) rfl fun pre w post s hx hs => ?_) fun s hs => hs
  have hw : w ∈ l.2.1 := by rw [hx]; exact List.mem_append_right _ (List.mem_cons_self ..)
  have hb := bdw_b hl hw i
  have hc := com_first (p := l.1) (i := i) (q := w.1) (n := n) (by omega) n0
  simp only [bnd]
  rw [bdw_m]
  refine ⟨⟨by omega, fun _ => ⟨dvOk_s (by omega) (by omega), mulOk_r (by split <;> omega) (by split <;> omega), mulOk_r (by omega) (by omega)⟩⟩, ?_⟩
  rw [List.map_append, List.sum_append, List.map_cons, List.map_nil, List.sum_cons, List.sum_nil, hc, hs]
  split
  · rw [Int.mul_comm]; omega
  · omega
theorem sum_b {α : Type} (f : α → Int) (B : Int) : ∀ ws : List α, (∀ w ∈ ws, 0 ≤ f w ∧ f w ≤ B) → 0 ≤ (ws.map f).sum ∧ (ws.map f).sum ≤ B * ws.length
  | [], _ => by simp
  | w :: r, h => by
    have h1 := h w (List.mem_cons_self ..)
    have h2 := sum_b f B r fun x hx => h x (List.mem_cons_of_mem _ hx)
    rw [List.map_cons, List.sum_cons, List.length_cons]
    have : B * ((r.length + 1 : Nat) : Int) = B * r.length + B := by rw [Int.natCast_add, Int.mul_add]; simp
    omega
end Law
end
section
set_option Elab.async false
set_option linter.all false
set_option maxRecDepth 100000
set_option maxHeartbeats 2000000
set_option autoImplicit false
set_option synthInstance.maxHeartbeats 1000000
set_option synthInstance.maxSize 1000
open PySem PV
namespace Law
theorem law_ok (ns : List Int) : Ok (S_law ns) (F_law ns) fun b => b = true := by
  have sz : ∀ n : Nat, n ≤ 20000 → n ≤ sizeLine := fun n hn => by rw [line_eq]; omega
  unfold S_law F_law
  obtain ⟨d1, d2, d3⟩ := draws_T ns (a := 0) (c := 12) (by omega) (by omega) (by omega)
  refine ok_g d1 (ok_bnd (fun l => (l.length : Int) = 12 ∧ ∀ x ∈ l, 0 ≤ x ∧ x < 5040) ⟨d2, d3⟩ fun picks ⟨pl, hp⟩ => ?_)
  have q : ∀ i : Nat, i < 12 → 0 ≤ picks.getD i 0 ∧ picks.getD i 0 < 5040 := fun i hi => pk hp i (by omega)
  have b01 : 0 ≤ (if (decide (((picks.getD 1 0) % 3) = 0)) = true then (1 : Int) else 0) ∧ (if (decide (((picks.getD 1 0) % 3) = 0)) = true then (1 : Int) else 0) ≤ 1 := by split <;> omega
  generalize (if (decide (((picks.getD 1 0) % 3) = 0)) = true then (1 : Int) else 0) = b at *
  have hix : 0 ≤ (picks.getD 0 0) % 6 * b ∧ (picks.getD 0 0) % 6 * b < 6 := by
    have : b = 0 ∨ b = 1 := by omega
    rcases this with h | h <;> rw [h] <;> omega
  generalize (picks.getD 0 0) % 6 * b = ix at *
  have hm : 12 ≤ ([12, 40, 12, 40, 24, 500] : List Int).getD ix.toNat 0 ∧ ([12, 40, 12, 40, 24, 500] : List Int).getD ix.toNat 0 ≤ 500 :=
    get6P (P := fun v : Int => 12 ≤ v ∧ v ≤ 500) hix.1 hix.2 (by omega) (by omega) (by omega) (by omega) (by omega) (by omega)
  have T := law_loop_T ns hm.1 hm.2
  refine ok_g (by omega) (ok_g (by omega) (ok_g (mulOk_r (by omega) (by omega)) (ok_g ⟨hix.1, hix.2⟩ (ok_g T.1 (ok_bnd LoopOk T.2 fun l hl => ok_bnd (fun k : Lpt => l = k) rfl fun kept hk => ?_)))))
  have C := check_T hl
  have p2 := hl.p2
  have p5 := hl.p5
  have w6 := hl.w6
  refine ok_g C.1 (ok_g (by rw [C.2]; rfl) (ok_no rfl (ok_g (by omega) (ok_g (by omega) (ok_g (by omega) (ok_g (by omega) (ok_walk (fun x hx => ?_) ?_)))))))
  rotate_left
  · have q9 := q 9 (by omega)
    have O := law_others_T hl q9.1
    refine ok_g (by omega) (ok_g O.1 (ok_walk0 (fun x hx => ?_) (decide_eq_true hk)))
    have B := O.2 x hx
    have R := refused_T B.1 B.2
    refine ⟨R.1, ?_⟩
    rw [R.2]
    rfl
  have hx1 : 0 ≤ x ∧ x ≤ 1100 := by
    simp only [List.mem_cons, List.not_mem_nil, or_false] at hx
    have e1 := Int.emod_nonneg (picks.getD 2 0) (b := l.1 + 1) (by omega)
    have e2 := Int.emod_lt_of_pos (picks.getD 2 0) (b := l.1 + 1) (by omega)
    have e3 := Int.emod_nonneg (picks.getD 3 0) (b := l.1 + 9) (by omega)
    have e4 := Int.emod_lt_of_pos (picks.getD 3 0) (b := l.1 + 9) (by omega)
    omega
  refine (show Ok _ _ (fun r => r = Stp.nx ()) from ?_)
  refine ok_bnd (fun n : Int => 0 ≤ n ∧ n ≤ 1100) ?_ fun n ⟨n0, n1⟩ => ?_
  · split
    · simp only [bnd]; omega
    · exact hx1
  have W := law_walked_T hl n0 (show n ≤ 5000 by omega)
  refine ok_g W.1 (ok_bnd (WalkQ l n) W.2 fun due hd => ?_)
  have dl : due.length ≤ 500 := by have := hd.1; omega
  refine ok_g ⟨r62_s (by omega) (by omega), sz _ (by rw [rngI_len]; omega), fun i _ => wear_S hl i n⟩ (ok_g ⟨by rw [List.length_map]; omega, fun y hy => by obtain ⟨z, _, rfl⟩ := List.mem_map.mp hy; exact ple_I.ok z⟩ (ok_no (rfl_eq (walk_eq hd)) (ok_g (by omega) (ok_g (by omega) (ok_bnd (fun i : Int => 0 ≤ i ∧ i < l.1) ⟨Int.emod_nonneg _ (by omega), Int.emod_lt_of_pos _ (by omega)⟩ fun i ⟨i0, i1⟩ => ?_)))))
  have hw : F_wear l i n = due.getD i.toNat 0 := (hd.2 i i0 i1).symm
  have LW := law_wear_T hl (i := i) n0 (show n ≤ 5000 by omega)
  have hlw : F_law_wear l i n = due.getD i.toNat 0 := by rw [LW.2]; exact hw
  refine ok_g (wear_S hl i n) (ok_g ⟨i0, by have := hd.1; omega⟩ (ok_g (fun _ => LW.1) (ok_no (by rw [rfl_eq hw, rfl_eq hlw]; rfl) (ok_g (by omega) (ok_bnd (fun x : Int => 0 ≤ x ∧ x < l.1) ⟨Int.emod_nonneg _ (by omega), Int.emod_lt_of_pos _ (by omega)⟩ fun pl ⟨q0, q1⟩ => ?_)))))
  have hcm : F_law_came l.1 i pl n = com l.1 i pl n := by
    have := came_eq (p := l.1) (i := i) q0 q1 n.toNat
    rwa [show ((n.toNat : Nat) : Int) = n by omega] at this
  have hdv : dvOk l.1 := dvOk_s (by omega) (by omega)
  refine ok_g hdv (ok_g ⟨r62_s (by omega) (by omega), sz _ (by rw [rngI_len]; omega), fun _ _ => by omega⟩ (ok_no (rfl_eq hcm.symm) (ok_g (by omega) (ok_g (by omega) (ok_g (by omega) (ok_bnd (fun _ => True) trivial fun many _ => ?_))))))
  have eb : ∀ w ∈ l.2.1, 0 ≤ bdw l.2.2 i w ∧ bdw l.2.2 i w ≤ 10080 := fun w hw => by have := bdw_b hl hw i; omega
  have sb := sum_b (fun w => bdw l.2.2 i w) 10080 l.2.1 eb
  refine ok_g (sz _ (by omega)) (ok_g (fun w hw => mulOk_r (by split <;> omega) (by split <;> omega)) (ok_bnd (fun o => o = (l.2.1.map fun w => bdw l.2.2 i w).sum) ?_ fun once ho => ?_))
  · congr 1
    exact List.map_congr_left fun w _ => bdw_m _ _ _
  have ob : 0 ≤ once ∧ once ≤ 60480 := by rw [ho]; omega
  refine ok_g (sz _ (by omega)) (ok_no (rfl_eq ho.symm) (ok_g (mulOk_r (by omega) (by omega)) (ok_g (wear_S hl i _) (ok_g (mulOk_r (by omega) (by omega)) (ok_no (rfl_eq ?_) (ok_no0 (rfl_eq ?_) (ok_end hdv rfl)))))))
  · rw [wear_eq, Wr_many hl, ← ho, ← hw]; rfl
  · rw [hcm]; exact com_many (by omega)
theorem law_true : ∀ ns : List Int, ns.length ≤ 63 → m_law [.list (ns.map .int)] = .ok (.bool true) := fun ns h => by
  have := T_law ns (law_ok ns).1
  rw [(law_ok ns).2] at this
  exact this
end Law
end
section
open PySem PySem.W PySem.Calls PyProof.Rows
set_option maxHeartbeats 0 in
theorem PySem.Challenge.cw_ropesbear_k64_loops_bent_beat_by_beat_holds : PySem.Challenge.rw_ropesbear_k64_loops_bent_beat_by_beat.Holds := by
  w_on; o_law
  refine HandSHeadRun.head_any (r := OpenLaw.row PySem.Challenge.rw_ropesbear_k64_loops_bent_beat_by_beat) (q := view (OpenLaw.row PySem.Challenge.rw_ropesbear_k64_loops_bent_beat_by_beat).prog [30]) (H := Law.hk) (ob := Law.ob) (M := 2260) (loose := Law.loose) (d := HandSHeadRun.topDef (OpenLaw.row PySem.Challenge.rw_ropesbear_k64_loops_bent_beat_by_beat).prog 30) (kwd := []) Law.ob_eq
    (by kernel_rfl) (fun s => by kernel_rfl) Law.run (by kernel_rfl) (by kernel_rfl) (by kernel_rfl) (by rfl) (by first | assumption | decide +kernel) (by decide +kernel) ⟨rfl, rfl, rfl, rfl, rfl, by decide +kernel⟩ ?hw ?hc
  case hw => w_witness2
  case hc =>
    refine PV.walk_world (l := PySem.Challenge.rw_ropesbear_k64_loops_bent_beat_by_beat) (n := 63) (k := 10) (x := "script") rfl (by decide) (by kernel_rfl) ⟨rfl, by decide, by decide⟩ ?_
    intro w mg fa h Y G hmg0
    obtain ⟨K, KX, c⟩ := Y
    have hmg : mg ("law" : PySem.Str) = some (.ref fa) := by
      have e : (HandSHeadRun.topDef (OpenLaw.row PySem.Challenge.rw_ropesbear_k64_loops_bent_beat_by_beat).prog 30).name = ("law" : PySem.Str) := by kernel_rfl
      rw [← e]
      exact hmg0
    obtain ⟨fd, hb, hF⟩ := Law.facts (P := (PySem.Challenge.rw_ropesbear_k64_loops_bent_beat_by_beat).prog) (w := w) KX G hmg c
    exact ⟨K, fd, PV.SpV K mg 1 Law.m_law, KX, hb, fun H a ns hl hS => PV.law_end (n := 63) (by decide) Law.law_true H a ns hl hS, hF⟩
end
