import PyProof.Rows.All
import Wide.All
import OpenK.AllK
import Wide.FinOn
import HandS.ForMost
import HandS.Walk
import HandS.Zip
import HandS.TupAny
import HandS.TupMul
import HandS.Wide
import HandS.IsInst
import HandS.Style
import HandS.Conv
import HandS.Defaults
import HandS.Deep
import KE.GoesNew
import HandS.NoneIn
import KE.KStateDown
import HandS.Ends
import HandS.More
import HandS.Exc
import HandS.Head0
import HandS.Head1
import HandS.Head2
import HandS.HeadEnd
import HandS.HeadHook1
import HandS.HeadHook2
import KE.KRevSl
import KE.KDictZip
import HandS.GenList
import HandS.ExcOwn
import HandS.TryOnly
import HandS.Flow
import HandS.Lambda
import HandS.ExcIs
import HandS.EndOwn
import HandS.HeadWalk
import HandS.HeadHook3
import KE.DataEq
import PySem.Challenge.RW_drawways_k01_things
set_option Elab.async false
set_option linter.all false
set_option maxRecDepth 100000
/-! The walk as data: what an expression, a statement, a def of immutable data is worth. -/
namespace Dw
open PySem PySem.Spec L2

/-! ### heaps -/
/-- F: the part of H that never changes again -/
structure Ext (F H F' H' : Hp) : Prop where
  ff : Same F F'
  hh : Same H H'
  fh : Same F' H'
  new : ∀ a o, F' a = some o → F a = none → H a = none
theorem Ext.refl {F H : Hp} (h : Same F H) : Ext F H F H := ⟨.refl _, .refl _, h, fun a o e n => by rw [n] at e; cases e⟩
theorem Ext.trans {F H F1 H1 F2 H2 : Hp} (a : Ext F H F1 H1) (b : Ext F1 H1 F2 H2) : Ext F H F2 H2 := by
  refine ⟨a.ff.trans b.ff, a.hh.trans b.hh, b.fh, fun x o e n => ?_⟩
  cases q : F1 x with
  | none => exact a.hh.free (b.new x o e q)
  | some u => exact a.new x u q n
theorem same_upd {H : Hp} {p : Addr} {o : HO} (h : H p = none) : Same H (upd H p o) := fun b x e => by
  rw [upd_ne (ne_of_none e h)]
  exact e
theorem same_upd2 {F H : Hp} {p : Addr} {o : HO} (h : Same F H) : Same (upd F p o) (upd H p o) := fun b x e => by
  unfold upd at e ⊢
  split at e
  · rename_i hb
    rw [if_pos hb]
    exact e
  · rename_i hb
    rw [if_neg hb]
    exact h b x e
theorem same_updR {F H : Hp} {p : Addr} {o : HO} (h : Same F H) (n : F p = none) : Same F (upd H p o) := fun b x e => by
  rw [upd_ne (ne_of_none e n)]
  exact h b x e
/-- a new object, never to change -/
theorem Ext.alloc {F H : Hp} {p : Addr} {o : HO} (h : Same F H) (n : H p = none) : Ext F H (upd F p o) (upd H p o) := by
  refine ⟨same_upd (h.free n), same_upd n, same_upd2 h, fun a u e nf => ?_⟩
  by_cases q : a = p
  · rw [q]; exact n
  · rw [upd_ne q, nf] at e; cases e
/-- a new object that may change -/
theorem Ext.keep {F H : Hp} {p : Addr} {o : HO} (h : Same F H) (n : H p = none) : Ext F H F (upd H p o) :=
  ⟨.refl _, same_upd n, same_updR h (h.free n), fun a u e nf => by rw [nf] at e; cases e⟩
end Dw
namespace L2
open PySem PySem.Spec
theorem SqT.same {K : PySem.W.Frag} {H H' : Hp} {a : Addr} {xs : List V} (e : Same H H') (h : SqT K H a xs) : SqT K H' a xs := by
  rcases h with (h | ⟨o, h⟩) | h
  · exact .inl (.inl (e _ _ h))
  · exact .inl (.inr ⟨o, e _ _ h⟩)
  · exact .inr h
mutual
theorem dp_same {K : PySem.W.Frag} {F F' : Hp} (e : Same F F') : ∀ (d : PyData) (v : V), Dp K F v d → Dp K F' v d
  | .none, _, h => by cases h; exact .non
  | .bool _, _, h => by cases h; exact .bl _
  | .int _, _, h => by cases h; exact .int _
  | .str _, _, h => by cases h; exact .str _
  | .list ds, _, h => by
    cases h with
    | lst hs ha => exact .lst (e.seq hs) (dpAll_same e ds _ ha)
  | .tuple ds, _, h => by
    cases h with
    | tup hs ha => exact .tup (SqT.same e hs) (dpAll_same e ds _ ha)
  | .dict _, _, h => by cases h
theorem dpAll_same {K : PySem.W.Frag} {F F' : Hp} (e : Same F F') : ∀ (ds : List PyData) (vs : List V), DpAll K F vs ds → DpAll K F' vs ds
  | [], _, h => by cases h; exact .nil
  | d :: ds, _, h => by
    cases h with
    | cons h1 h2 => exact .cons (dp_same e d _ h1) (dpAll_same e ds _ h2)
end
theorem Dp.same {K : PySem.W.Frag} {F F' : Hp} {v : V} {d : PyData} (h : Dp K F v d) (e : Same F F') : Dp K F' v d := dp_same e d v h
theorem DpAll.same {K : PySem.W.Frag} {F F' : Hp} {vs : List V} {ds : List PyData} (h : DpAll K F vs ds) (e : Same F F') : DpAll K F' vs ds := dpAll_same e ds vs h
theorem DpAll.len {K : PySem.W.Frag} {F : Hp} : ∀ {vs : List V} {ds : List PyData}, DpAll K F vs ds → vs.length = ds.length
  | _, _, .nil => rfl
  | _, _, .cons _ t => congrArg (· + 1) (DpAll.len t)
theorem DpAll.get {K : PySem.W.Frag} {F : Hp} : ∀ {vs : List V} {ds : List PyData} {i : Nat} {d : PyData}, DpAll K F vs ds → ds[i]? = some d → ∃ v, vs[i]? = some v ∧ Dp K F v d
  | _, _, _, _, .nil, e => by simp at e
  | _, _, 0, _, .cons h _, e => by simp at e; subst e; exact ⟨_, rfl, h⟩
  | _, _, i + 1, d, .cons _ t, e => by
    obtain ⟨v, h1, h2⟩ := DpAll.get (i := i) (d := d) t (by simpa using e)
    exact ⟨v, by simpa using h1, h2⟩
theorem DpAll.getV {K : PySem.W.Frag} {F : Hp} : ∀ {vs : List V} {ds : List PyData} {i : Nat} {v : V}, DpAll K F vs ds → vs[i]? = some v → ∃ d, ds[i]? = some d ∧ Dp K F v d
  | _, _, _, _, .nil, e => by simp at e
  | _, _, 0, _, .cons h _, e => by simp at e; subst e; exact ⟨_, rfl, h⟩
  | _, _, i + 1, d, .cons _ t, e => by
    obtain ⟨v, h1, h2⟩ := DpAll.getV (i := i) (v := d) t (by simpa using e)
    exact ⟨v, by simpa using h1, h2⟩
theorem DpAll.app {K : PySem.W.Frag} {F : Hp} : ∀ {vs ws : List V} {ds es : List PyData}, DpAll K F vs ds → DpAll K F ws es → DpAll K F (vs ++ ws) (ds ++ es)
  | _, _, _, _, .nil, s => s
  | _, _, _, _, .cons r t, s => .cons r (DpAll.app t s)
theorem DpAll.take {K : PySem.W.Frag} {F : Hp} : ∀ {vs : List V} {ds : List PyData} (n : Nat), DpAll K F vs ds → DpAll K F (vs.take n) (ds.take n)
  | _, _, 0, _ => .nil
  | _, _, _ + 1, .nil => .nil
  | _, _, n + 1, .cons r t => .cons r (DpAll.take n t)
theorem DpAll.drop {K : PySem.W.Frag} {F : Hp} : ∀ {vs : List V} {ds : List PyData} (n : Nat), DpAll K F vs ds → DpAll K F (vs.drop n) (ds.drop n)
  | _, _, 0, r => r
  | _, _, _ + 1, .nil => .nil
  | _, _, n + 1, .cons _ t => DpAll.drop n t
theorem DpAll.rev {K : PySem.W.Frag} {F : Hp} : ∀ {vs : List V} {ds : List PyData}, DpAll K F vs ds → DpAll K F vs.reverse ds.reverse
  | _, _, .nil => .nil
  | _, _, .cons r t => by
    rw [List.reverse_cons, List.reverse_cons]
    exact (DpAll.rev t).app (.cons r .nil)
theorem DpAll.set {K : PySem.W.Frag} {F : Hp} {v : V} {d : PyData} (h : Dp K F v d) : ∀ {vs : List V} {ds : List PyData} (i : Nat), DpAll K F vs ds → DpAll K F (vs.set i v) (ds.set i d)
  | _, _, _, .nil => .nil
  | _, _, 0, .cons _ t => .cons h t
  | _, _, i + 1, .cons q t => .cons q (DpAll.set h i t)
theorem DpAll.rep {K : PySem.W.Frag} {F : Hp} {vs : List V} {ds : List PyData} (h : DpAll K F vs ds) : ∀ k : Nat, DpAll K F (List.replicate k vs).flatten (List.replicate k ds).flatten
  | 0 => .nil
  | k + 1 => by
    rw [List.replicate_succ, List.replicate_succ, List.flatten_cons, List.flatten_cons]
    exact h.app (DpAll.rep h k)

end L2
namespace Dw
open PySem PySem.Spec L2
/-! ### names: what they stand for -/
inductive Slt where
  | frz (d : PyData)
  | own (ds : List PyData)
  | raw (v : V)
abbrev Rho := List (Option Slt)
structure Rl (K : PySem.W.Frag) (F0 H0 : Hp) (ρ : Rho) (σ : St) (H F : Hp) : Prop where
  ext : Ext F0 H0 F H
  len : ρ.length = σ.length
  frz : ∀ (i : Nat) (d : PyData), ρ[i]? = some (some (.frz d)) → ∃ v, σ[i]? = some (some v) ∧ Dp K F v d
  own : ∀ (i : Nat) (ds : List PyData), ρ[i]? = some (some (.own ds)) → ∃ a vs, σ[i]? = some (some (.ref a)) ∧ H a = some (.lst vs) ∧ F a = none ∧ H0 a = none ∧ DpAll K F vs ds
  dis : ∀ (i j : Nat) (a : Addr) (ds es : List PyData), ρ[i]? = some (some (.own ds)) → ρ[j]? = some (some (.own es)) → σ[i]? = some (some (.ref a)) → σ[j]? = some (some (.ref a)) → i = j
  raw : ∀ (i : Nat) (v : V), ρ[i]? = some (some (.raw v)) → σ[i]? = some (some v)
section
variable {K : PySem.W.Frag} {F0 H0 F H F' H' : Hp} {ρ : Rho} {σ : St}
theorem raw_old {ρ : Rho} {i j : Nat} {y : Option Slt} {v : V} (hy : ∀ v, y ≠ some (.raw v)) (e : (ρ.set i y)[j]? = some (some (.raw v))) : i ≠ j ∧ ρ[j]? = some (some (.raw v)) := by
  by_cases hij : i = j
  · subst hij
    by_cases hl : i < ρ.length
    · rw [List.getElem?_set_self hl] at e
      exact absurd (Option.some.inj e) (hy v)
    · rw [List.getElem?_eq_none (by simpa using hl)] at e; cases e
  · rw [List.getElem?_set_ne hij] at e
    exact ⟨hij, e⟩
theorem Rl.fh (r : Rl K F0 H0 ρ σ H F) : Same F H := r.ext.fh
theorem Rl.more (r : Rl K F0 H0 ρ σ H F) (e : Ext F H F' H') : Rl K F0 H0 ρ σ H' F' := by
  refine ⟨r.ext.trans e, r.len, fun i d h => ?_, fun i ds h => ?_, r.dis, r.raw⟩
  · obtain ⟨v, h1, h2⟩ := r.frz i d h
    exact ⟨v, h1, h2.same e.ff⟩
  · obtain ⟨a, vs, h1, h2, h3, h4, h5⟩ := r.own i ds h
    refine ⟨a, vs, h1, e.hh _ _ h2, ?_, h4, h5.same e.ff⟩
    cases q : F' a with
    | none => rfl
    | some o =>
      have := e.new a o q h3
      rw [h2] at this
      cases this
/-- a name is stored -/
theorem Rl.put (r : Rl K F0 H0 ρ σ H F) (i : Nat) {v : V} {d : PyData} (h : Dp K F v d) : Rl K F0 H0 (ρ.set i (some (.frz d))) (σ.set i (some v)) H F := by
  have old : ∀ {j : Nat} {ds : List PyData}, (ρ.set i (some (.frz d)))[j]? = some (some (.own ds)) → i ≠ j ∧ ρ[j]? = some (some (.own ds)) := fun {j ds} e => by
    by_cases hij : i = j
    · subst hij
      by_cases hl : i < ρ.length
      · rw [List.getElem?_set_self hl] at e; cases e
      · rw [List.getElem?_eq_none (by simpa using hl)] at e; cases e
    · rw [List.getElem?_set_ne hij] at e
      exact ⟨hij, e⟩
  refine ⟨r.ext, by simpa using r.len, fun j d' e => ?_, fun j ds e => ?_, fun j k a ds es e1 e2 e3 e4 => ?_, fun j v e => by
    obtain ⟨hij, e⟩ := raw_old (fun v z => by cases z) e
    rw [List.getElem?_set_ne hij]
    exact r.raw j v e⟩
  · by_cases hij : i = j
    · subst hij
      by_cases hl : i < ρ.length
      · rw [List.getElem?_set_self hl] at e
        cases e
        exact ⟨v, List.getElem?_set_self (by rw [← r.len]; exact hl), h⟩
      · rw [List.getElem?_eq_none (by simpa using hl)] at e; cases e
    · rw [List.getElem?_set_ne hij] at e
      rw [List.getElem?_set_ne hij]
      exact r.frz j d' e
  · obtain ⟨hij, e⟩ := old e
    rw [List.getElem?_set_ne hij]
    exact r.own j ds e
  · obtain ⟨h1, e1⟩ := old e1
    obtain ⟨h2, e2⟩ := old e2
    rw [List.getElem?_set_ne h1] at e3
    rw [List.getElem?_set_ne h2] at e4
    exact r.dis j k a ds es e1 e2 e3 e4
/-- a name is stored: a new list that may change -/
theorem Rl.putOwn (r : Rl K F0 H0 ρ σ H F) (i : Nat) {p : Addr} {vs : List V} {ds : List PyData} (e : Ext F H F' H') (n : H p = none) (hp : H' p = some (.lst vs)) (hf : F' p = none) (h : DpAll K F' vs ds) :
    Rl K F0 H0 (ρ.set i (some (.own ds))) (σ.set i (some (.ref p))) H' F' := by
  have r' := r.more e
  have h0 : H0 p = none := r.ext.hh.free n
  have np : ∀ {j : Nat} {es : List PyData}, ρ[j]? = some (some (.own es)) → σ[j]? ≠ some (some (.ref p)) := fun {j es} q z => by
    obtain ⟨a, ws, h1, h2, _⟩ := r.own j es q
    rw [z] at h1
    cases h1
    rw [n] at h2
    cases h2
  refine ⟨r'.ext, by simpa using r.len, fun j d' q => ?_, fun j es q => ?_, fun j k a es gs e1 e2 e3 e4 => ?_, fun j v e => by
    obtain ⟨hij, e⟩ := raw_old (fun v z => by cases z) e
    rw [List.getElem?_set_ne hij]
    exact r.raw j v e⟩
  · by_cases hij : i = j
    · subst hij
      by_cases hl : i < ρ.length
      · rw [List.getElem?_set_self hl] at q; cases q
      · rw [List.getElem?_eq_none (by simpa using hl)] at q; cases q
    · rw [List.getElem?_set_ne hij] at q
      rw [List.getElem?_set_ne hij]
      exact r'.frz j d' q
  · by_cases hij : i = j
    · subst hij
      by_cases hl : i < ρ.length
      · rw [List.getElem?_set_self hl] at q
        cases q
        exact ⟨p, vs, List.getElem?_set_self (by rw [← r.len]; exact hl), hp, hf, h0, h⟩
      · rw [List.getElem?_eq_none (by simpa using hl)] at q; cases q
    · rw [List.getElem?_set_ne hij] at q
      rw [List.getElem?_set_ne hij]
      exact r'.own j es q
  · by_cases hj : i = j
    · by_cases hk : i = k
      · exact hj.symm.trans hk
      · subst hj
        rw [List.getElem?_set_ne hk] at e2 e4
        by_cases hl : i < ρ.length
        · rw [List.getElem?_set_self (by rw [← r.len]; exact hl)] at e3
          cases e3
          exact absurd e4 (np e2)
        · rw [List.getElem?_eq_none (by simpa using hl)] at e1; cases e1
    · rw [List.getElem?_set_ne hj] at e1 e3
      by_cases hk : i = k
      · subst hk
        by_cases hl : i < ρ.length
        · rw [List.getElem?_set_self (by rw [← r.len]; exact hl)] at e4
          cases e4
          exact absurd e3 (np e1)
        · rw [List.getElem?_eq_none (by simpa using hl)] at e2; cases e2
      · rw [List.getElem?_set_ne hk] at e2 e4
        exact r.dis j k a es gs e1 e2 e3 e4
/-- a list of one's own is changed -/
theorem Rl.write (r : Rl K F0 H0 ρ σ H F) {i : Nat} {ds es : List PyData} {a : Addr} {ws : List V} (hi : ρ[i]? = some (some (.own ds))) (ha : σ[i]? = some (some (.ref a))) (h : DpAll K F ws es) :
    Rl K F0 H0 (ρ.set i (some (.own es))) σ (upd H a (.lst ws)) F := by
  obtain ⟨a', vs, h1, h2, h3, h4, h5⟩ := r.own i ds hi
  rw [ha] at h1
  cases h1
  have hl : i < ρ.length := (List.getElem?_eq_some_iff.mp hi).1
  refine ⟨⟨r.ext.ff, ?_, same_updR r.fh h3, r.ext.new⟩, by simpa using r.len, fun j d' q => ?_, fun j gs q => ?_, fun j k b gs ks e1 e2 e3 e4 => ?_, fun j v e => r.raw j v (raw_old (fun v z => by cases z) e).2⟩
  · exact same_updR r.ext.hh h4
  · by_cases hij : i = j
    · subst hij
      rw [List.getElem?_set_self hl] at q; cases q
    · rw [List.getElem?_set_ne hij] at q
      exact r.frz j d' q
  · by_cases hij : i = j
    · subst hij
      rw [List.getElem?_set_self hl] at q
      cases q
      exact ⟨a, ws, ha, upd_same, h3, h4, h⟩
    · rw [List.getElem?_set_ne hij] at q
      obtain ⟨b, us, g1, g2, g3, g4, g5⟩ := r.own j gs q
      refine ⟨b, us, g1, ?_, g3, g4, g5⟩
      have : b ≠ a := fun z => by
        subst z
        exact hij (r.dis i j b ds gs hi q ha g1)
      rw [upd_ne this]
      exact g2
  · have old : ∀ {j : Nat} {ks : List PyData}, (ρ.set i (some (.own es)))[j]? = some (some (.own ks)) → ∃ gs, ρ[j]? = some (some (.own gs)) := fun {j ks} e => by
      by_cases hij : i = j
      · subst hij; exact ⟨ds, hi⟩
      · rw [List.getElem?_set_ne hij] at e; exact ⟨ks, e⟩
    obtain ⟨_, e1⟩ := old e1
    obtain ⟨_, e2⟩ := old e2
    exact r.dis j k b _ _ e1 e2 e3 e4
/-- a list of one's own is not changed from now on -/
theorem Rl.freeze (r : Rl K F0 H0 ρ σ H F) {i : Nat} {ds : List PyData} (hi : ρ[i]? = some (some (.own ds))) : ∃ F', Same F F' ∧ Rl K F0 H0 (ρ.set i (some (.frz (.list ds)))) σ H F' := by
  obtain ⟨a, vs, h1, h2, h3, h4, h5⟩ := r.own i ds hi
  have hl : i < ρ.length := (List.getElem?_eq_some_iff.mp hi).1
  have sf : Same F (upd F a (.lst vs)) := same_upd h3
  refine ⟨upd F a (.lst vs), sf, ⟨r.ext.ff.trans sf, r.ext.hh, ?_, ?_⟩, by simpa using r.len, fun j d' q => ?_, fun j gs q => ?_, fun j k b gs ks e1 e2 e3 e4 => ?_, fun j v e => r.raw j v (raw_old (fun v z => by cases z) e).2⟩
  · intro b o e
    by_cases hb : b = a
    · subst hb; rw [upd_same] at e; cases e; exact h2
    · rw [upd_ne hb] at e; exact r.fh b o e
  · intro b o e n
    by_cases hb : b = a
    · rw [hb]; exact h4
    · rw [upd_ne hb] at e; exact r.ext.new b o e n
  · by_cases hij : i = j
    · subst hij
      rw [List.getElem?_set_self hl] at q
      cases q
      exact ⟨.ref a, h1, .lst (.inl (.inl upd_same)) (h5.same sf)⟩
    · rw [List.getElem?_set_ne hij] at q
      obtain ⟨v, g1, g2⟩ := r.frz j d' q
      exact ⟨v, g1, g2.same sf⟩
  · by_cases hij : i = j
    · subst hij
      rw [List.getElem?_set_self hl] at q; cases q
    · rw [List.getElem?_set_ne hij] at q
      obtain ⟨b, us, g1, g2, g3, g4, g5⟩ := r.own j gs q
      refine ⟨b, us, g1, g2, ?_, g4, g5.same sf⟩
      have : b ≠ a := fun z => by
        subst z
        exact hij (r.dis i j b ds gs hi q h1 g1)
      rw [upd_ne this]
      exact g3
  · have old : ∀ {j : Nat} {ks : List PyData}, (ρ.set i (some (.frz (.list ds))))[j]? = some (some (.own ks)) → ρ[j]? = some (some (.own ks)) := fun {j ks} e => by
      by_cases hij : i = j
      · subst hij; rw [List.getElem?_set_self hl] at e; cases e
      · rw [List.getElem?_set_ne hij] at e; exact e
    exact r.dis j k b _ _ (old e1) (old e2) e3 e4
/-- slots forgotten -/
def wipeR (ρ : Rho) : List Nat → Rho
  | [] => ρ
  | v :: vs => (wipeR ρ vs).set v none
theorem Rl.forget (r : Rl K F0 H0 ρ σ H F) (i : Nat) : Rl K F0 H0 (ρ.set i none) (σ.set i none) H F := by
  have old : ∀ {j : Nat} {x : Slt}, (ρ.set i none)[j]? = some (some x) → i ≠ j ∧ ρ[j]? = some (some x) := fun {j x} e => by
    by_cases hij : i = j
    · subst hij
      by_cases hl : i < ρ.length
      · rw [List.getElem?_set_self hl] at e; cases e
      · rw [List.getElem?_eq_none (by simpa using hl)] at e; cases e
    · rw [List.getElem?_set_ne hij] at e
      exact ⟨hij, e⟩
  refine ⟨r.ext, by simpa using r.len, fun j d' e => ?_, fun j ds e => ?_, fun j k a ds es e1 e2 e3 e4 => ?_, fun j v e => by
    obtain ⟨hij, e⟩ := raw_old (fun v z => by cases z) e
    rw [List.getElem?_set_ne hij]
    exact r.raw j v e⟩
  · obtain ⟨hij, e⟩ := old e
    rw [List.getElem?_set_ne hij]
    exact r.frz j d' e
  · obtain ⟨hij, e⟩ := old e
    rw [List.getElem?_set_ne hij]
    exact r.own j ds e
  · obtain ⟨h1, e1⟩ := old e1
    obtain ⟨h2, e2⟩ := old e2
    rw [List.getElem?_set_ne h1] at e3
    rw [List.getElem?_set_ne h2] at e4
    exact r.dis j k a ds es e1 e2 e3 e4
theorem Rl.wipe (r : Rl K F0 H0 ρ σ H F) : ∀ vs : List Nat, Rl K F0 H0 (wipeR ρ vs) (L2.wipe σ vs) H F
  | [] => r
  | v :: vs => (Rl.wipe r vs).forget v
/-- all lists of one's own are not changed from now on -/
def frzS : Option Slt → Option Slt
  | some (.own ds) => some (.frz (.list ds))
  | s => s
def frzTo (ρ : Rho) : Nat → Rho
  | 0 => ρ
  | n + 1 => let ρ' := frzTo ρ n; match ρ'[n]? with
    | some (some (.own ds)) => ρ'.set n (some (.frz (.list ds)))
    | _ => ρ'
theorem Rl.frzTo (r : Rl K F0 H0 ρ σ H F) : ∀ n : Nat, ∃ F', Same F F' ∧ Rl K F0 H0 (frzTo ρ n) σ H F'
  | 0 => ⟨F, .refl _, r⟩
  | n + 1 => by
    obtain ⟨F1, s1, r1⟩ := Rl.frzTo r n
    show ∃ F', Same F F' ∧ Rl K F0 H0 (let ρ' := Dw.frzTo ρ n; match ρ'[n]? with
    | some (some (.own ds)) => ρ'.set n (some (.frz (.list ds)))
    | _ => ρ') σ H F'
    dsimp only
    split
    · rename_i ds e
      obtain ⟨F2, s2, r2⟩ := r1.freeze e
      exact ⟨F2, s1.trans s2, r2⟩
    · exact ⟨F1, s1, r1⟩
end
end Dw

set_option Elab.async false
set_option linter.all false
set_option maxRecDepth 100000
namespace Dw
open PySem PySem.Spec L2

/-! ### the widest readings -/
def WE (X : Cx) (e : Expr) : TE := fun σ H Q => ∀ pins s, Inv X pins σ H s → wpAny (model X.prog X.w) X.A (eval e X.env) (EP X pins σ Q) X.xe s
theorem pe_we {X : Cx} {e : Expr} : PE X e (WE X e) := ⟨fun pins s _ _ _ I h => h pins s I⟩
theorem we_of {X : Cx} {e : Expr} {t : TE} {σ : St} {H : Hp} {Q : VK} (h : PE X e t) (ht : t σ H Q) : WE X e σ H Q := fun pins s I => h.run pins s σ H Q I ht
def WT (X : Cx) (e : Expr) : TT := fun σ H Q => ∀ pins s, Inv X pins σ H s → wpAny (model X.prog X.w) X.A (isTrue e X.env (eval e X.env)) (TP X pins σ Q) X.xe s
theorem pt_wt {X : Cx} {e : Expr} : PT X e (WT X e) := ⟨fun pins s _ _ _ I h => h pins s I⟩
theorem wt_of {X : Cx} {e : Expr} {t : TT} {σ : St} {H : Hp} {Q : Bool → Hp → Prop} (h : PT X e t) (ht : t σ H Q) : WT X e σ H Q := fun pins s I => h.run pins s σ H Q I ht
def WW (X : Cx) (e : Expr) : TT := fun σ H Q => ∀ whole pins s, Inv X pins σ H s → wpAny (model X.prog X.w) X.A (isTrue e X.env whole) (TP X pins σ Q) X.xe s
theorem pw_ww {X : Cx} {e : Expr} : PW X e (WW X e) := ⟨fun wh pins s _ _ _ I h => h wh pins s I⟩
theorem ww_of {X : Cx} {e : Expr} {t : TT} {σ : St} {H : Hp} {Q : Bool → Hp → Prop} (h : PW X e t) (ht : t σ H Q) : WW X e σ H Q := fun wh pins s I => h.run wh pins s σ H Q I ht
def WA (X : Cx) (es : List Expr) : TA := fun σ H Q => ∀ pos pins s, Inv X pins σ H s → wpAny (model X.prog X.w) X.A (spliced (backTo pos (starEach es X.env))) (AP X pins σ Q) X.xe s
theorem pa_wa {X : Cx} {es : List Expr} : PA X es (WA X es) := ⟨fun pos pins s _ _ _ I h => h pos pins s I⟩
theorem wa_of {X : Cx} {es : List Expr} {t : TA} {σ : St} {H : Hp} {Q : List V → Hp → Prop} (h : PA X es t) (ht : t σ H Q) : WA X es σ H Q := fun pos pins s I => h.run pos pins s σ H Q I ht
def WO (X : Cx) (e : Option Expr) : TO := fun σ H Q => ∀ pins s, Inv X pins σ H s → wpAny (model X.prog X.w) X.A (evalPart e X.env) (fun u s' => ∃ o H', Inv X pins σ H' s' ∧ IsPart u o ∧ Q o H') X.xe s
theorem po_wo {X : Cx} {e : Option Expr} : PO X e (WO X e) := ⟨fun pins s _ _ _ I h => h pins s I⟩
theorem wo_of {X : Cx} {e : Option Expr} {t : TO} {σ : St} {H : Hp} {Q : Option Int → Hp → Prop} (h : PO X e t) (ht : t σ H Q) : WO X e σ H Q := fun pins s I => h.run pins s σ H Q I ht

/-! ### no stars -/
def noStar : Expr → Bool
  | .Starred _ _ => false
  | _ => true
theorem star_cons {e : Expr} {es : List Expr} {env : Env} (h : noStar e = true) : starEach (e :: es) env = (false, eval e env) :: starEach es env := by
  cases e <;> first | rfl | cases h
theorem star_any {env : Env} {pos : Pos} : ∀ {es : List Expr}, es.all noStar = true → (backTo pos (starEach es env)).any (·.1) = false
  | [], _ => rfl
  | e :: es, h => by
    rw [List.all_cons, Bool.and_eq_true] at h
    have ih := star_any (env := env) (pos := pos) h.2
    rw [star_cons h.1]
    unfold backTo at ih ⊢
    simp only [List.map_cons, List.any_cons, Bool.false_or]
    exact ih
/-! ### what an expression is worth -/
abbrev Mr (α : Type) := Rho → Option α
/-- e is worth f: where f tells a datum, e gives it, makes new things alone, and raises nothing -/
structure DE (X : Cx) (e : Expr) (f : Mr PyData) : Prop where
  run : ∀ F0 H0 ρ σ H F d (Q : VK), Rl X.K F0 H0 ρ σ H F → f ρ = some d → (∀ v H' F', Ext F H F' H' → Dp X.K F' v d → Q v H') → WE X e σ H Q
structure DT (X : Cx) (e : Expr) (f : Mr Bool) : Prop where
  run : ∀ F0 H0 ρ σ H F b (Q : Bool → Hp → Prop), Rl X.K F0 H0 ρ σ H F → f ρ = some b → (∀ H' F', Ext F H F' H' → Q b H') → WT X e σ H Q
structure DW (X : Cx) (e : Expr) (f : Mr Bool) : Prop where
  run : ∀ F0 H0 ρ σ H F b (Q : Bool → Hp → Prop), Rl X.K F0 H0 ρ σ H F → f ρ = some b → (∀ H' F', Ext F H F' H' → Q b H') → WW X e σ H Q
structure DA (X : Cx) (es : List Expr) (f : Mr (List PyData)) : Prop where
  run : ∀ F0 H0 ρ σ H F ds (Q : List V → Hp → Prop), Rl X.K F0 H0 ρ σ H F → f ρ = some ds → (∀ vs H' F', Ext F H F' H' → DpAll X.K F' vs ds → Q vs H') → WA X es σ H Q
structure DO (X : Cx) (e : Option Expr) (f : Mr (Option Int)) : Prop where
  run : ∀ F0 H0 ρ σ H F o (Q : Option Int → Hp → Prop), Rl X.K F0 H0 ρ σ H F → f ρ = some o → (∀ H' F', Ext F H F' H' → Q o H') → WO X e σ H Q
/-- e gives a new list, that nothing else holds -/
structure DL (X : Cx) (e : Expr) (f : Mr (List PyData)) : Prop where
  run : ∀ F0 H0 ρ σ H F ds (Q : VK), Rl X.K F0 H0 ρ σ H F → f ρ = some ds → (∀ p vs H' F', Ext F H F' H' → H p = none → H' p = some (.lst vs) → F' p = none → DpAll X.K F' vs ds → Q (.ref p) H') → WE X e σ H Q
theorem Ext.lift {F H F' H' : Hp} {p : Addr} {o : HO} (e : Ext F H F' H') (n : H p = none) (hp : H' p = some o) (hf : F' p = none) : Ext F H (upd F' p o) H' := by
  refine ⟨e.ff.trans (same_upd hf), e.hh, fun b x q => ?_, fun b x q nb => ?_⟩
  · by_cases hb : b = p
    · subst hb; rw [upd_same] at q; cases q; exact hp
    · rw [upd_ne hb] at q; exact e.fh b x q
  · by_cases hb : b = p
    · rw [hb]; exact n
    · rw [upd_ne hb] at q; exact e.new b x q nb
def mLst (f : Mr (List PyData)) : Mr PyData := fun ρ => (f ρ).bind fun ds => some (.list ds)
theorem DL.de {X : Cx} {e : Expr} {f : Mr (List PyData)} (h : DL X e f) : DE X e (mLst f) := by
  refine ⟨?_⟩
  intro F0 H0 ρ σ H F d Q r hf q
  obtain ⟨ds, h1, h2⟩ := Option.bind_eq_some_iff.mp hf
  cases h2
  refine h.run F0 H0 ρ σ H F ds Q r h1 fun p vs H' F' e n hp hf ha => ?_
  exact q _ H' _ (e.lift n hp hf) (.lst (.inl (.inl upd_same)) (ha.same (same_upd hf)))

section
variable {X : Cx} {a b c : Expr} {fa fb fc : Mr PyData} {pos : Pos}
/-! ### names and constants -/
def mVar (i : Nat) : Mr PyData := fun ρ => match ρ[i]? with
  | some (some (.frz d)) => some d
  | _ => none
theorem mVar_some {i : Nat} {ρ : Rho} {d : PyData} (h : mVar i ρ = some d) : ρ[i]? = some (some (.frz d)) := by
  unfold mVar at h
  split at h
  · cases h; assumption
  · cases h
theorem de_var (i : Nat) {x : Str} (hN : X.N[i]? = some x := by rfl) (hv : Vis X.env.scope x := by first | exact Or.inl rfl | exact Or.inr (Or.inl rfl) | exact Or.inr (Or.inr rfl)) (hd : (x == ("__debug__" : Str)) = false := by decide)
    (hcd : (x == ("__classdict__" : Str)) = false := by decide) : DE X (.Name x pos) (mVar i) := by
  refine ⟨?_⟩
  intro F0 H0 ρ σ H F d Q r hf q
  obtain ⟨v, h1, h2⟩ := r.frz i d (mVar_some hf)
  exact we_of (pe_var hN hv hd hcd) ⟨v, h1, q v H F (.refl r.fh) h2⟩
def mK (d : PyData) : Mr PyData := fun _ => some d
theorem de_int {i j} : DE X (.Constant (.int i) j pos) (mK (.int i)) := by
  refine ⟨?_⟩
  intro F0 H0 ρ σ H F d Q r hf q; cases hf
  exact we_of pe_int (q _ H F (.refl r.fh) (.int i))
theorem de_bl {i j} : DE X (.Constant (.bool i) j pos) (mK (.bool i)) := by
  refine ⟨?_⟩
  intro F0 H0 ρ σ H F d Q r hf q; cases hf
  exact we_of pe_bl (q _ H F (.refl r.fh) (.bl i))
theorem de_str {i j} : DE X (.Constant (.str i) j pos) (mK (.str i)) := by
  refine ⟨?_⟩
  intro F0 H0 ρ σ H F d Q r hf q; cases hf
  exact we_of pe_str (q _ H F (.refl r.fh) (.str i))
theorem de_non {j} : DE X (.Constant .none j pos) (mK .none) := by
  refine ⟨?_⟩
  intro F0 H0 ρ σ H F d Q r hf q; cases hf
  exact we_of pe_non (q _ H F (.refl r.fh) .non)
/-- a module's constant -/
def GlobD (K : PySem.W.Frag) (mg : Str → Option Value) (x : Str) (d : PyData) : Prop := ∃ v u, mg x = some u ∧ RelV v u ∧ ∀ F, Dp K F v d
theorem de_glob {x : Str} {d : PyData} (h : GlobD X.K X.mg x d) (hg : Gl X x := by rfl) (hd : (x == ("__debug__" : Str)) = false := by decide) : DE X (.Name x pos) (mK d) := by
  refine ⟨?_⟩
  intro F0 H0 ρ σ H F d' Q r hf q; cases hf
  obtain ⟨v, u, h1, h2, h3⟩ := h
  exact we_of (pe_glob hg h1 h2 hd) (q _ H F (.refl r.fh) (h3 F))

/-! ### operators -/
def mBin (g : PyData → PyData → Option PyData) (fa fb : Mr PyData) : Mr PyData := fun ρ => (fa ρ).bind fun x => (fb ρ).bind fun y => g x y
def Op2 (X : Cx) (f : Value → Value → Sem Value) (g : PyData → PyData → Option PyData) : Prop :=
  ∃ r : R2, OpR X f r ∧ ∀ F H x y d e z (Q : VK), Same F H → Dp X.K F x d → Dp X.K F y e → g d e = some z → (∀ v H' F', Ext F H F' H' → Dp X.K F' v z → Q v H') → r x y H Q
/-- two in a row -/
theorem two {Q : VK} {F0 H0 : Hp} {ρ : Rho} {σ : St} {H F : Hp} {x y : PyData} {k : V → V → Hp → Prop} (ha : DE X a fa) (hb : DE X b fb) (r : Rl X.K F0 H0 ρ σ H F) (h1 : fa ρ = some x) (h2 : fb ρ = some y)
    (h : ∀ v u H' F', Ext F H F' H' → Dp X.K F' v x → Dp X.K F' u y → k v u H') : WE X a σ H fun v H1 => WE X b σ H1 fun u H2 => k v u H2 := by
  refine ha.run F0 H0 ρ σ H F x _ r h1 fun v H1 F1 e1 d1 => ?_
  refine hb.run F0 H0 ρ σ H1 F1 y _ (r.more e1) h2 fun u H2 F2 e2 d2 => ?_
  exact h v u H2 F2 (e1.trans e2) (d1.same e2.ff) d2
theorem bind2 {α β γ : Type} {x : Option α} {y : Option β} {g : α → β → Option γ} {z : γ} (h : (x.bind fun a => y.bind fun b => g a b) = some z) : ∃ a b, x = some a ∧ y = some b ∧ g a b = some z := by
  obtain ⟨a, h1, h2⟩ := Option.bind_eq_some_iff.mp h
  obtain ⟨b, h3, h4⟩ := Option.bind_eq_some_iff.mp h2
  exact ⟨a, b, h1, h3, h4⟩
theorem de_op {op : Operator} {g : PyData → PyData → Option PyData} (ho : Op2 X (binaryOp op) g) (ha : DE X a fa) (hb : DE X b fb) : DE X (.BinOp a op b pos) (mBin g fa fb) := by
  refine ⟨?_⟩
  intro F0 H0 ρ σ H F d Q r hf q
  obtain ⟨x, y, h1, h2, h3⟩ := bind2 hf
  obtain ⟨rr, ho, hv⟩ := ho
  refine we_of (pe_op ho pe_we pe_we) ?_
  refine two (Q := Q) ha hb r h1 h2 fun v u H' F' e d1 d2 => ?_
  exact hv F' H' v u x y d Q e.fh d1 d2 h3 fun v2 H2 F2 e2 d3 => q v2 H2 F2 (e.trans e2) d3
theorem de_cmp {op : CmpOp} {g : PyData → PyData → Option PyData} (ho : Op2 X (compareOp op) g) (ha : DE X a fa) (hb : DE X b fb) (hm : behindInMarks op b = false) : DE X (.Compare a [op] [b] pos) (mBin g fa fb) := by
  refine ⟨?_⟩
  intro F0 H0 ρ σ H F d Q r hf q
  obtain ⟨x, y, h1, h2, h3⟩ := bind2 hf
  obtain ⟨rr, ho, hv⟩ := ho
  refine we_of (pe_cmpR ho pe_we pe_we hm) ?_
  refine two (Q := Q) ha hb r h1 h2 fun v u H' F' e d1 d2 => ?_
  exact hv F' H' v u x y d Q e.fh d1 d2 h3 fun v2 H2 F2 e2 d3 => q v2 H2 F2 (e.trans e2) d3
def asB : PyData → Option Bool
  | .bool b => some b
  | _ => none
def mTest (f : Mr PyData) : Mr Bool := fun ρ => (f ρ).bind asB
theorem asB_some {d : PyData} {b : Bool} (h : asB d = some b) : d = .bool b := by
  cases d <;> first | (cases h; rfl) | cases h
theorem dt_cmp {op : CmpOp} {g : PyData → PyData → Option PyData} (ho : Op2 X (compareOp op) g) (ha : DE X a fa) (hb : DE X b fb) (hm : behindInMarks op b = false) : DT X (.Compare a [op] [b] pos) (mTest (mBin g fa fb)) := by
  refine ⟨?_⟩
  intro F0 H0 ρ σ H F d Q r hf q
  obtain ⟨z, h0, hz⟩ := Option.bind_eq_some_iff.mp hf
  have hz := asB_some hz
  subst hz
  obtain ⟨x, y, h1, h2, h3⟩ := bind2 h0
  obtain ⟨rr, ho, hv⟩ := ho
  refine wt_of (pt_cmpR ho pe_we pe_we hm) ?_
  refine two (Q := fun x H' => ∃ k, x = .bl k ∧ Q k H') ha hb r h1 h2 fun v u H' F' e d1 d2 => ?_
  refine hv F' H' v u x y _ _ e.fh d1 d2 h3 fun v2 H2 F2 e2 d3 => ?_
  cases d3
  exact ⟨d, rfl, q H2 F2 (e.trans e2)⟩
/-- an expression that gives a bool, as a test -/
theorem dt_val (ha : DE X a fa) (he : ∀ whole, isTrue a X.env whole = (do let v ← whole; standAt a.pos; holding [v] (truthy v)) := by intro _; rfl) : DT X a (mTest fa) := by
  refine ⟨?_⟩
  intro F0 H0 ρ σ H F d Q r hf q
  obtain ⟨z, h0, hz⟩ := Option.bind_eq_some_iff.mp hf
  have hz := asB_some hz
  subst hz
  refine wt_of (pt_val pe_we he) ?_
  refine ha.run F0 H0 ρ σ H F _ _ r h0 fun v H1 F1 e1 d1 => ?_
  cases d1
  exact ⟨d, rfl, q H1 F1 e1⟩
/-! ### and, or, not -/
def mAnd (f g : Mr Bool) : Mr Bool := fun ρ => (f ρ).bind fun b => if b = true then g ρ else some false
def mOr (f g : Mr Bool) : Mr Bool := fun ρ => (f ρ).bind fun b => if b = true then some true else g ρ
def mNot (f : Mr Bool) : Mr Bool := fun ρ => (f ρ).bind fun b => some (!b)
variable {ta tb : Mr Bool} {rest : List Expr}
theorem DW.dt (h : DW X a ta) : DT X a ta := ⟨fun F0 H0 ρ σ H F b Q r hf q => wt_of (PW.pt pw_ww) (h.run F0 H0 ρ σ H F b Q r hf q)⟩
theorem dw_and1 (ha : DT X a ta) : DW X (.BoolOp .And [a] pos) ta := ⟨fun F0 H0 ρ σ H F b Q r hf q => ww_of (pw_and1 pt_wt) (ha.run F0 H0 ρ σ H F b Q r hf q)⟩
theorem dw_or1 (ha : DT X a ta) : DW X (.BoolOp .Or [a] pos) ta := ⟨fun F0 H0 ρ σ H F b Q r hf q => ww_of (pw_or1 pt_wt) (ha.run F0 H0 ρ σ H F b Q r hf q)⟩
theorem dw_and (ha : DT X a ta) (hb : DW X (.BoolOp .And (b :: rest) pos) tb) : DW X (.BoolOp .And (a :: b :: rest) pos) (mAnd ta tb) := by
  refine ⟨?_⟩
  intro F0 H0 ρ σ H F z Q r hf q
  obtain ⟨x, h1, h2⟩ := Option.bind_eq_some_iff.mp hf
  refine ww_of (pw_and pt_wt pw_ww) ?_
  refine ha.run F0 H0 ρ σ H F x _ r h1 fun H1 F1 e1 => ?_
  cases x with
  | true =>
    rw [if_pos rfl] at h2 ⊢
    exact hb.run F0 H0 ρ σ H1 F1 z Q (r.more e1) h2 fun H2 F2 e2 => q H2 F2 (e1.trans e2)
  | false =>
    rw [if_neg Bool.false_ne_true] at h2 ⊢
    cases h2
    exact q H1 F1 e1
theorem dw_or (ha : DT X a ta) (hb : DW X (.BoolOp .Or (b :: rest) pos) tb) : DW X (.BoolOp .Or (a :: b :: rest) pos) (mOr ta tb) := by
  refine ⟨?_⟩
  intro F0 H0 ρ σ H F z Q r hf q
  obtain ⟨x, h1, h2⟩ := Option.bind_eq_some_iff.mp hf
  refine ww_of (pw_or pt_wt pw_ww) ?_
  refine ha.run F0 H0 ρ σ H F x _ r h1 fun H1 F1 e1 => ?_
  cases x with
  | true =>
    rw [if_pos rfl] at h2 ⊢
    cases h2
    exact q H1 F1 e1
  | false =>
    rw [if_neg Bool.false_ne_true] at h2 ⊢
    exact hb.run F0 H0 ρ σ H1 F1 z Q (r.more e1) h2 fun H2 F2 e2 => q H2 F2 (e1.trans e2)
theorem dt_not (ha : DT X a ta) : DT X (.UnaryOp .Not a pos) (mNot ta) := by
  refine ⟨?_⟩
  intro F0 H0 ρ σ H F z Q r hf q
  obtain ⟨x, h1, h2⟩ := Option.bind_eq_some_iff.mp hf
  cases h2
  exact wt_of (pt_not pt_wt) (ha.run F0 H0 ρ σ H F x _ r h1 q)
/-- as values -/
def mAndV (f g : Mr PyData) : Mr PyData := fun ρ => (f ρ).bind fun x => (asB x).bind fun b => if b = true then g ρ else some (.bool false)
def mOrV (f g : Mr PyData) : Mr PyData := fun ρ => (f ρ).bind fun x => (asB x).bind fun b => if b = true then some (.bool true) else g ρ
def mNotV (f : Mr PyData) : Mr PyData := fun ρ => (f ρ).bind fun x => (asB x).bind fun b => some (.bool (!b))
theorem de_one {op} (h : DE X a fa) : DE X (.BoolOp op [a] pos) fa := ⟨fun F0 H0 ρ σ H F d Q r hf q => we_of (pe_one pe_we) (h.run F0 H0 ρ σ H F d Q r hf q)⟩
theorem de_and (ha : DE X a fa) (hb : DE X (.BoolOp .And (b :: rest) pos) fb) : DE X (.BoolOp .And (a :: b :: rest) pos) (mAndV fa fb) := by
  refine ⟨?_⟩
  intro F0 H0 ρ σ H F z Q r hf q
  obtain ⟨x, h1, h2⟩ := Option.bind_eq_some_iff.mp hf
  obtain ⟨y, h3, h4⟩ := Option.bind_eq_some_iff.mp h2
  clear h2
  have h3 := asB_some h3
  subst h3
  refine we_of (pe_and pe_we pe_we) ?_
  refine ha.run F0 H0 ρ σ H F _ _ r h1 fun v H1 F1 e1 d1 => ?_
  cases d1
  refine ⟨y, rfl, ?_⟩
  cases y with
  | true =>
    rw [if_pos rfl] at h4 ⊢
    exact hb.run F0 H0 ρ σ H1 F1 z Q (r.more e1) h4 fun v2 H2 F2 e2 => q v2 H2 F2 (e1.trans e2)
  | false =>
    rw [if_neg Bool.false_ne_true] at h4 ⊢
    cases h4
    exact q _ H1 F1 e1 (.bl _)
theorem de_or (ha : DE X a fa) (hb : DE X (.BoolOp .Or (b :: rest) pos) fb) : DE X (.BoolOp .Or (a :: b :: rest) pos) (mOrV fa fb) := by
  refine ⟨?_⟩
  intro F0 H0 ρ σ H F z Q r hf q
  obtain ⟨x, h1, h2⟩ := Option.bind_eq_some_iff.mp hf
  obtain ⟨y, h3, h4⟩ := Option.bind_eq_some_iff.mp h2
  clear h2
  have h3 := asB_some h3
  subst h3
  refine we_of (pe_or pe_we pe_we) ?_
  refine ha.run F0 H0 ρ σ H F _ _ r h1 fun v H1 F1 e1 d1 => ?_
  cases d1
  refine ⟨y, rfl, ?_⟩
  cases y with
  | true =>
    rw [if_pos rfl] at h4 ⊢
    cases h4
    exact q _ H1 F1 e1 (.bl _)
  | false =>
    rw [if_neg Bool.false_ne_true] at h4 ⊢
    exact hb.run F0 H0 ρ σ H1 F1 z Q (r.more e1) h4 fun v2 H2 F2 e2 => q v2 H2 F2 (e1.trans e2)
theorem de_not (ha : DE X a fa) : DE X (.UnaryOp .Not a pos) (mNotV fa) := by
  refine ⟨?_⟩
  intro F0 H0 ρ σ H F z Q r hf q
  obtain ⟨x, h1, h2⟩ := Option.bind_eq_some_iff.mp hf
  obtain ⟨y, h3, h2⟩ := Option.bind_eq_some_iff.mp h2
  have h3 := asB_some h3
  subst h3
  cases h2
  refine we_of (pe_not pe_we) ?_
  refine ha.run F0 H0 ρ σ H F _ _ r h1 fun v H1 F1 e1 d1 => ?_
  cases d1
  exact ⟨y, rfl, q _ H1 F1 e1 (.bl _)⟩
/-- -a -/
def pNeg : PyData → Option PyData
  | .int i => some (.int (-i))
  | _ => none
def mUn (g : PyData → Option PyData) (f : Mr PyData) : Mr PyData := fun ρ => (f ρ).bind g
theorem de_neg (ha : DE X a fa) : DE X (.UnaryOp .USub a pos) (mUn pNeg fa) := by
  refine ⟨?_⟩
  intro F0 H0 ρ σ H F z Q r hf q
  obtain ⟨x, h1, h2⟩ := Option.bind_eq_some_iff.mp hf
  refine we_of (pe_un un_neg pe_we) ?_
  refine ha.run F0 H0 ρ σ H F _ _ r h1 fun v H1 F1 e1 d1 => ?_
  cases d1 <;> first | (cases h2; exact ⟨_, rfl, q _ H1 F1 e1 (.int _)⟩) | cases h2

/-! ### arguments, tuples, lists -/
def mNil : Mr (List PyData) := fun _ => some []
def mCons (f : Mr PyData) (g : Mr (List PyData)) : Mr (List PyData) := fun ρ => (f ρ).bind fun x => (g ρ).bind fun xs => some (x :: xs)
variable {e : Expr} {es : List Expr} {ge : Mr (List PyData)}
theorem da_nil : DA X [] mNil := by
  refine ⟨?_⟩
  intro F0 H0 ρ σ H F ds Q r hf q
  cases hf
  exact wa_of pa_nil (q [] H F (.refl r.fh) .nil)
theorem da_cons (ha : DE X e fa) (hb : DA X es ge) (hn : noStar e = true := by rfl) : DA X (e :: es) (mCons fa ge) := by
  refine ⟨?_⟩
  intro F0 H0 ρ σ H F ds Q r hf q
  obtain ⟨x, xs, h1, h2, h3⟩ := bind2 hf
  cases h3
  refine wa_of (pa_cons pe_we pa_wa (star_cons hn)) ?_
  refine ha.run F0 H0 ρ σ H F _ _ r h1 fun v H1 F1 e1 d1 => ?_
  refine hb.run F0 H0 ρ σ H1 F1 _ _ (r.more e1) h2 fun vs H2 F2 e2 d2 => ?_
  exact q (v :: vs) H2 F2 (e1.trans e2) (.cons (d1.same e2.ff) d2)
def mTup (f : Mr (List PyData)) : Mr PyData := fun ρ => (f ρ).bind fun ds => some (.tuple ds)
theorem de_tup {x1} {n : Nat} (hl : ∀ ρ ds, ge ρ = some ds → ds.length = n) (ha : DA X es ge) (hn : n ≤ 1000 := by decide) : DE X (.Tuple es x1 pos) (mTup ge) := by
  refine ⟨?_⟩
  intro F0 H0 ρ σ H F d Q r hf q
  obtain ⟨ds, h1, h2⟩ := Option.bind_eq_some_iff.mp hf
  cases h2
  refine we_of (pe_tup pa_wa) ?_
  refine ha.run F0 H0 ρ σ H F ds _ r h1 fun vs H1 F1 e1 d1 => ?_
  refine ⟨?_, fun p hp => ?_⟩
  · rw [d1.len, hl ρ ds h1, sizeLine_eq]
    omega
  · exact q _ _ _ (e1.trans (.alloc e1.fh hp)) (.tup (.inl (.inl upd_same)) (d1.same (same_upd (e1.fh.free hp))))
theorem dl_lst {n : Nat} (hl : ∀ ρ ds, ge ρ = some ds → ds.length = n) (ha : DA X es ge) (hn : n ≤ 1000 := by decide) : DL X (.List es pos) ge := by
  refine ⟨?_⟩
  intro F0 H0 ρ σ H F ds Q r h1 q
  refine we_of (pe_lst pa_wa) ?_
  refine ha.run F0 H0 ρ σ H F ds _ r h1 fun vs H1 F1 e1 d1 => ?_
  refine ⟨?_, fun p hp => ?_⟩
  · rw [d1.len, hl ρ ds h1, sizeLine_eq]
    omega
  · exact q p vs _ F1 (e1.trans (.keep e1.fh hp)) (e1.hh.free hp) upd_same (e1.fh.free hp) d1
theorem ln_nil : ∀ ρ ds, mNil ρ = some ds → ds.length = 0 := fun ρ ds h => by cases h; rfl
theorem ln_cons {n : Nat} (h : ∀ ρ ds, ge ρ = some ds → ds.length = n) : ∀ ρ ds, mCons fa ge ρ = some ds → ds.length = n + 1 := fun ρ ds q => by
  obtain ⟨x, xs, h1, h2, h3⟩ := bind2 q
  cases h3
  rw [List.length_cons, h ρ xs h2]

/-! ### subscripts -/
def IxD (X : Cx) (g : PyData → PyData → Option PyData) : Prop :=
  ∃ r : R2, IxR X r ∧ ∀ F H x y d e z (Q : VK), Same F H → Dp X.K F x d → Dp X.K F y e → g d e = some z → (∀ v H' F', Ext F H F' H' → Dp X.K F' v z → Q v H') → r x y H Q
noncomputable def pIx : PyData → PyData → Option PyData
  | .tuple xs, .int i => atI xs i
  | .list xs, .int i => atI xs i
  | .str z, .int i => @ite _ (z.length ≤ sizeLine) (Classical.propDecidable _) ((atI z.cps.toList i).bind fun c => some (.str ⟨#[c]⟩)) none
  | _, _ => none
theorem atI_dp {K : PySem.W.Frag} {F : Hp} {vs : List V} {ds : List PyData} {i : Int} {d : PyData} (h : DpAll K F vs ds) (e : atI ds i = some d) : ∃ v, atI vs i = some v ∧ Dp K F v d := by
  unfold atI at e ⊢
  obtain ⟨j, h1, h2⟩ := Option.bind_eq_some_iff.mp e
  obtain ⟨v, h3, h4⟩ := h.get h2
  exact ⟨v, by rw [h.len, h1]; exact h3, h4⟩
theorem ixd : IxD X pIx := by
  refine ⟨_, ix_seq, fun F H x y d e z Q fh d1 d2 h q => ?_⟩
  unfold pIx at h
  split at h
  · rename_i xs i
    cases d2
    cases d1 with
    | tup hs ha =>
      obtain ⟨v, h1, h2⟩ := atI_dp ha h
      exact .inr (.inl ⟨_, _, i, v, rfl, rfl, hs.same fh, h1, q v H F (.refl fh) h2⟩)
  · rename_i xs i
    cases d2
    cases d1 with
    | lst hs ha =>
      obtain ⟨v, h1, h2⟩ := atI_dp ha h
      exact .inl ⟨_, _, i, v, rfl, rfl, fh.seq hs, h1, q v H F (.refl fh) h2⟩
  · rename_i s i
    split at h
    · rename_i hz
      obtain ⟨c, h1, h2⟩ := Option.bind_eq_some_iff.mp h
      cases h2
      cases d1
      cases d2
      exact .inr (.inr ⟨s, i, c, rfl, rfl, hz, h1, q _ H F (.refl fh) (.str _)⟩)
    · cases h
  · cases h
def noSlice : Expr → Bool
  | .Slice _ _ _ _ => false
  | _ => true
theorem plain_ix {b : Expr} (h : noSlice b = true) : PlainIx b := by
  intro o i
  cases b <;> first | rfl | cases h
theorem de_ix (ha : DE X a fa) (hb : DE X b fb) (hn : noSlice b = true := by rfl) : DE X (.Subscript a b pos) (mBin pIx fa fb) := by
  refine ⟨?_⟩
  intro F0 H0 ρ σ H F d Q r hf q
  obtain ⟨x, y, h1, h2, h3⟩ := bind2 hf
  obtain ⟨rr, ho, hv⟩ := ixd (X := X)
  refine we_of (pe_ix ho pe_we pe_we (plain_ix hn)) ?_
  refine two (Q := Q) ha hb r h1 h2 fun v u H' F' e d1 d2 => ?_
  exact hv F' H' v u x y d Q e.fh d1 d2 h3 fun v2 H2 F2 e2 d3 => q v2 H2 F2 (e.trans e2) d3
/-! ### slices -/
def asI : PyData → Option Int
  | .int i => some i
  | _ => none
theorem asI_some {d : PyData} {b : Int} (h : asI d = some b) : d = .int b := by
  cases d <;> first | (cases h; rfl) | cases h
def oNo : Mr (Option Int) := fun _ => some none
def oAt (f : Mr PyData) : Mr (Option Int) := fun ρ => (f ρ).bind fun x => (asI x).bind fun i => some (some i)
theorem do_no : DO X none oNo := by
  refine ⟨?_⟩
  intro F0 H0 ρ σ H F o Q r hf q
  cases hf
  exact wo_of po_none (q H F (.refl r.fh))
theorem do_at (ha : DE X a fa) : DO X (some a) (oAt fa) := by
  refine ⟨?_⟩
  intro F0 H0 ρ σ H F o Q r hf q
  obtain ⟨x, h1, h2⟩ := Option.bind_eq_some_iff.mp hf
  obtain ⟨i, h3, h2⟩ := Option.bind_eq_some_iff.mp h2
  have h3 := asI_some h3
  subst h3
  cases h2
  refine wo_of (po_some pe_we) ?_
  refine ha.run F0 H0 ρ σ H F _ _ r h1 fun v H1 F1 e1 d1 => ?_
  cases d1
  exact ⟨i, rfl, q H1 F1 e1⟩
def cutD {α : Type} (xs : List α) (lo hi : Option Int) : List α := (xs.drop (HT.sIx xs.length 0 lo)).take (HT.sIx xs.length xs.length hi - HT.sIx xs.length 0 lo)
theorem cut_dp {K : PySem.W.Frag} {F : Hp} {vs : List V} {ds : List PyData} (h : DpAll K F vs ds) (lo hi : Option Int) : DpAll K F (cutV vs lo hi) (cutD ds lo hi) := by
  unfold cutV cutD
  rw [h.len]
  exact (h.drop _).take _
noncomputable def pSl : PyData → Option Int → Option Int → Option PyData
  | .tuple xs, lo, hi => some (.tuple (cutD xs lo hi))
  | .list xs, lo, hi => some (.list (cutD xs lo hi))
  | .str z, lo, hi => @ite _ (z.length ≤ sizeLine) (Classical.propDecidable _) (some (.str (cutS z lo hi))) none
  | _, _, _ => none
noncomputable def mSl (f : Mr PyData) (lo hi : Mr (Option Int)) : Mr PyData := fun ρ => (f ρ).bind fun x => (lo ρ).bind fun l => (hi ρ).bind fun h => pSl x l h
theorem cutD_whole {α : Type} {xs : List α} {lo hi : Option Int} (h : HT.sIx xs.length 0 lo = 0 ∧ HT.sIx xs.length xs.length hi = xs.length) : cutD xs lo hi = xs := by
  unfold cutD
  rw [h.1, h.2, List.drop_zero, Nat.sub_zero, List.take_length]
variable {lo hi : Option Expr} {fl fh : Mr (Option Int)} {p2 : Pos}
theorem de_sl (ha : DE X a fa) (hl : DO X lo fl) (hh : DO X hi fh) : DE X (.Subscript a (.Slice lo hi none p2) pos) (mSl fa fl fh) := by
  refine ⟨?_⟩
  intro F0 H0 ρ σ H F d Q r hf q
  obtain ⟨x, h1, hf⟩ := Option.bind_eq_some_iff.mp hf
  obtain ⟨l, u, h2, h3, h4⟩ := bind2 hf
  refine we_of (pe_slice (sl_tupA.or (sl_list.or sl_str)) pe_we po_wo po_wo) ?_
  refine ha.run F0 H0 ρ σ H F _ _ r h1 fun v H1 F1 e1 d1 => ?_
  refine hl.run F0 H0 ρ σ H1 F1 _ _ (r.more e1) h2 fun H2 F2 e2 => ?_
  refine hh.run F0 H0 ρ σ H2 F2 _ _ (r.more (e1.trans e2)) h3 fun H3 F3 e3 => ?_
  have d1 := d1.same (e2.ff.trans e3.ff)
  have e := (e1.trans e2).trans e3
  unfold pSl at h4
  split at h4
  · cases h4
    cases d1 with
    | tup hs ha =>
      refine .inl ⟨_, _, rfl, hs.same e3.fh, fun hw => ?_, fun hw p hp => ?_⟩
      · rw [ha.len] at hw
        rw [cutD_whole hw] at q
        exact q _ H3 F3 e (.tup hs ha)
      · exact q _ _ _ (e.trans (.alloc e3.fh hp)) (.tup (.inl (.inl upd_same)) ((cut_dp ha l u).same (same_upd (e3.fh.free hp))))
  · cases h4
    cases d1 with
    | lst hs ha => exact .inr (.inl ⟨_, _, rfl, e3.fh.seq hs, fun p hp => q _ _ _ (e.trans (.alloc e3.fh hp)) (.lst (.inl (.inl upd_same)) ((cut_dp ha l u).same (same_upd (e3.fh.free hp))))⟩)
  · split at h4
    · rename_i hz
      cases h4
      cases d1
      exact .inr (.inr ⟨_, rfl, hz, q _ H3 F3 e (.str _)⟩)
    · cases h4
  · cases h4
def pRev : PyData → Option PyData
  | .tuple xs => some (.tuple xs.reverse)
  | .list xs => some (.list xs.reverse)
  | _ => none
end
end Dw

set_option Elab.async false
set_option linter.all false
set_option maxRecDepth 100000
namespace Dw
open PySem PySem.Spec L2
section
variable {X : Cx}
/-! ### arithmetic -/
theorem op_catL : OpR X (binaryOp .Add) (fun x y H Q => ∃ l b xs zs, x = .ref l ∧ y = .ref b ∧ SqL X.K H l xs ∧ SqL X.K H b zs ∧ xs.length + zs.length ≤ sizeLine ∧ ∀ p, H p = none → Q (.ref p) (upd H p (.lst (xs ++ zs)))) := by
  intro pins s σ H x y v u Q I rx ry h
  obtain ⟨l, b, xs, zs, rfl, rfl, hH, hB, hz, q⟩ := h
  cases rx
  cases ry
  obtain ⟨its, r, p1, z1⟩ := I.list hH
  obtain ⟨its2, r2, p2, z2⟩ := I.list hB
  have hl := r.length
  have hl2 := r2.length
  obtain ⟨⟨c1, d1, t1, s1⟩, n1, e1, f1, g1, h1⟩ := p1
  obtain ⟨⟨c2, d2, t2, s2⟩, n2, e2, f2, g2, h2⟩ := p2
  simp only at f1 g1 h1 f2 g2 h2
  subst f1 g1 h1 f2 g2 h2
  have ea : its.toArray ++ its2.toArray = (its ++ its2).toArray := by simp
  refine concat_meets ⟨_, e1, rfl⟩ ⟨_, e2, rfl⟩ noFill_list_add seq_list_add PySem.F.slot_list_add PySem.F.entry_list_add (PySem.F.args_list_add_2 _ _) (PyProof.Rows.list_addW l b its.toArray its2.toArray n1 n2 _ _ s1 s2 (by rw [List.size_toArray, List.size_toArray]; omega)) ⟨e1, e2, ?_⟩
  rw [ea]
  exact ⟨.ref _, _, I.lnew (t' := s.toks) (r.append r2) (by rw [List.length_append]; omega), rfl, q _ I.fresh⟩
noncomputable def pAdd : PyData → PyData → Option PyData
  | .int i, .int j => some (.int (i + j))
  | .str a, .str b => @ite _ (a.length + b.length ≤ sizeLine) (Classical.propDecidable _) (some (.str (a ++ b))) none
  | .tuple a, .tuple b => @ite _ (a.length + b.length ≤ sizeLine) (Classical.propDecidable _) (some (.tuple (a ++ b))) none
  | .list a, .list b => @ite _ (a.length + b.length ≤ sizeLine) (Classical.propDecidable _) (some (.list (a ++ b))) none
  | _, _ => none
theorem op_add2 : Op2 X (binaryOp .Add) pAdd := by
  refine ⟨_, op_add.or (op_add_str.or (op_catA.or op_catL)), fun F H x y d e z Q fh d1 d2 h q => ?_⟩
  unfold pAdd at h
  split at h
  · cases h; cases d1; cases d2
    exact .inl ⟨_, _, rfl, rfl, q _ H F (.refl fh) (.int _)⟩
  · split at h
    · cases h; cases d1; cases d2
      exact .inr (.inl ⟨_, _, rfl, rfl, by assumption, q _ H F (.refl fh) (.str _)⟩)
    · cases h
  · split at h
    · rename_i hz
      cases h
      cases d1 with
      | tup s1 a1 =>
        cases d2 with
        | tup s2 a2 =>
          have l1 := a1.len
          have l2 := a2.len
          refine .inr (.inr (.inl ⟨_, _, _, _, rfl, rfl, s1.same fh, s2.same fh, by omega, fun e => ?_, fun n e => ?_, fun n m p hp => ?_⟩))
          · subst e; cases a1
            exact q _ H F (.refl fh) (.tup s2 a2)
          · subst e; cases a2
            rw [List.append_nil] at q
            exact q _ H F (.refl fh) (.tup s1 a1)
          · exact q _ _ _ (.alloc fh hp) (.tup (.inl (.inl upd_same)) ((a1.app a2).same (same_upd (fh.free hp))))
    · cases h
  · split at h
    · rename_i hz
      cases h
      cases d1 with
      | lst s1 a1 =>
        cases d2 with
        | lst s2 a2 =>
          have l1 := a1.len
          have l2 := a2.len
          refine .inr (.inr (.inr ⟨_, _, _, _, rfl, rfl, fh.seq s1, fh.seq s2, by omega, fun p hp => ?_⟩))
          exact q _ _ _ (.alloc fh hp) (.lst (.inl (.inl upd_same)) ((a1.app a2).same (same_upd (fh.free hp))))
    · cases h
  · cases h
def pI (g : Int → Int → Option PyData) : PyData → PyData → Option PyData
  | .int i, .int j => g i j
  | _, _ => none
theorem op2I {f : Value → Value → Sem Value} {C : Int → Int → Prop} {v : Int → Int → Int} (h : OpR X f (rI C fun i j => .int (v i j))) : Op2 X f (pI fun i j => @ite _ (C i j) (Classical.propDecidable _) (some (.int (v i j))) none) := by
  refine ⟨_, h, fun F H x y d e z Q fh d1 d2 h q => ?_⟩
  unfold pI at h
  split at h
  · dsimp only at h
    split at h
    · cases h; cases d1; cases d2
      exact ⟨_, _, rfl, rfl, by assumption, q _ H F (.refl fh) (.int _)⟩
    · cases h
  · cases h
theorem op2I0 {f : Value → Value → Sem Value} {v : Int → Int → Int} (h : OpR X f (rI0 fun i j => .int (v i j))) : Op2 X f (pI fun i j => some (.int (v i j))) := by
  refine ⟨_, h, fun F H x y d e z Q fh d1 d2 h q => ?_⟩
  unfold pI at h
  split at h
  · cases h; cases d1; cases d2
    exact ⟨_, _, rfl, rfl, q _ H F (.refl fh) (.int _)⟩
  · cases h
theorem op2B0 {f : Value → Value → Sem Value} {v : Int → Int → Bool} (h : OpR X f (rI0 fun i j => .bl (v i j))) : Op2 X f (pI fun i j => some (.bool (v i j))) := by
  refine ⟨_, h, fun F H x y d e z Q fh d1 d2 h q => ?_⟩
  unfold pI at h
  split at h
  · cases h; cases d1; cases d2
    exact ⟨_, _, rfl, rfl, q _ H F (.refl fh) (.bl _)⟩
  · cases h
def pSub := pI fun i j => some (.int (i - j))
theorem op_sub2 : Op2 X (binaryOp .Sub) pSub := op2I0 op_sub
def cDiv (_ j : Int) : Prop := j ≠ 0 ∧ j.natAbs.log2 < 9000
noncomputable def pDiv := pI fun i j => @ite _ (cDiv i j) (Classical.propDecidable _) (some (.int (i.fdiv j))) none
theorem op_div2 : Op2 X (binaryOp .FloorDiv) pDiv := op2I (C := cDiv) (v := fun i j => i.fdiv j) (opI fun i j _ _ _ _ _ hc q => PyProof.Rows.floordiv_int hc.1 q (.inl (PyProof.noPylong_of_log2 hc.2)))
def cMod (_ j : Int) : Prop := j ≠ 0
noncomputable def pMod := pI fun i j => @ite _ (cMod i j) (Classical.propDecidable _) (some (.int (i.fmod j))) none
theorem op_mod2 : Op2 X (binaryOp .Mod) pMod := op2I (C := cMod) (v := fun i j => i.fmod j) op_modN
def cMul (i j : Int) : Prop := CMul i j ∨ CMulW i j
noncomputable def pMul := pI fun i j => @ite _ (cMul i j) (Classical.propDecidable _) (some (.int (i * j))) none
theorem op_mul2 : Op2 X (binaryOp .Mult) pMul := op2I (C := cMul) (v := fun i j => i * j) (opI fun _ _ _ _ _ _ _ hc q => PyProof.Rows.mul_int q (hc.elim CMul.ok CMulW.ok))
/-! ### comparisons -/
def pLt := pI fun i j => some (.bool (decide (i < j)))
def pLe := pI fun i j => some (.bool (decide (i ≤ j)))
def pGt := pI fun i j => some (.bool (decide (j < i)))
def pGe := pI fun i j => some (.bool (decide (j ≤ i)))
theorem op_lt2 : Op2 X (compareOp .Lt) pLt := op2B0 op_lt
theorem op_le2 : Op2 X (compareOp .LtE) pLe := op2B0 op_le
theorem op_gt2 : Op2 X (compareOp .Gt) pGt := op2B0 op_gt
theorem op_ge2 : Op2 X (compareOp .GtE) pGe := op2B0 op_ge
def eqOk (d e : PyData) : Bool := d.canLay0 && (e.canLay0 && decide (min d.depth e.depth ≤ 64))
def pEq : PyData → PyData → Option PyData
  | .str a, .str b => some (.bool (a == b))
  | .int a, .int b => some (.bool (a == b))
  | d, e => if eqOk d e = true then some (.bool (PyData.eqv d e)) else none
def pNe (d e : PyData) : Option PyData := (pEq d e).bind fun x => (asB x).bind fun b => some (.bool (!b))
theorem op_eqM (hu : X.A.units + 64 < cLine) : OpR X (compareOp .Eq) (fun x y H Q => ∃ d e, Dp X.K H x d ∧ Dp X.K H y e ∧ eqOk d e = true ∧ Q (.bl (PyData.eqv d e)) H) := by
  intro pins s σ H x y v u Q I rx ry h
  obtain ⟨d, e, hd, he, ok, q⟩ := h
  obtain ⟨as, r1⟩ := Dp.reads I d x v hd rx
  obtain ⟨bs, r2⟩ := Dp.reads I e y u he ry
  obtain ⟨o1, o2⟩ := Bool.and_eq_true_iff.mp ok
  obtain ⟨o2, o3⟩ := Bool.and_eq_true_iff.mp o2
  have o3 := of_decide_eq_true o3
  exact SeqAt.compareEq_reads r1 r2 o1 o2 (by omega) ⟨.bl _, H, I, rfl, q⟩
theorem op_neM (hu : X.A.units + 64 < cLine) : OpR X (compareOp .NotEq) (fun x y H Q => ∃ d e, Dp X.K H x d ∧ Dp X.K H y e ∧ eqOk d e = true ∧ Q (.bl (!PyData.eqv d e)) H) := by
  intro pins s σ H x y v u Q I rx ry h
  obtain ⟨d, e, hd, he, ok, q⟩ := h
  obtain ⟨as, r1⟩ := Dp.reads I d x v hd rx
  obtain ⟨bs, r2⟩ := Dp.reads I e y u he ry
  obtain ⟨o1, o2⟩ := Bool.and_eq_true_iff.mp ok
  obtain ⟨o2, o3⟩ := Bool.and_eq_true_iff.mp o2
  have o3 := of_decide_eq_true o3
  exact SeqAt.compareNe_reads r1 r2 o1 o2 (by omega) ⟨.bl _, H, I, rfl, q⟩
theorem op_eq2 (hu : X.A.units + 64 < cLine) : Op2 X (compareOp .Eq) pEq := by
  refine ⟨_, op_eq.or (op_eqM hu), fun F H x y d e z Q fh d1 d2 h q => ?_⟩
  unfold pEq at h
  split at h
  · cases h; cases d1; cases d2
    exact .inl ⟨rfl, by rw [dec_str]; exact q _ H F (.refl fh) (.bl _)⟩
  · cases h; cases d1; cases d2
    exact .inl ⟨rfl, by rw [dec_int]; exact q _ H F (.refl fh) (.bl _)⟩
  · split at h
    · cases h
      exact .inr ⟨d, e, d1.same fh, d2.same fh, by assumption, q _ H F (.refl fh) (.bl _)⟩
    · cases h
theorem op_ne2 (hu : X.A.units + 64 < cLine) : Op2 X (compareOp .NotEq) pNe := by
  refine ⟨_, op_ne.or (op_neM hu), fun F H x y d e z Q fh d1 d2 h q => ?_⟩
  obtain ⟨w, h1, h2⟩ := Option.bind_eq_some_iff.mp h
  obtain ⟨b, h3, h4⟩ := Option.bind_eq_some_iff.mp h2
  have h3 := asB_some h3
  subst h3
  cases h4
  unfold pEq at h1
  split at h1
  · cases h1; cases d1; cases d2
    exact .inl ⟨rfl, by rw [dec_str]; exact q _ H F (.refl fh) (.bl _)⟩
  · cases h1; cases d1; cases d2
    exact .inl ⟨rfl, by rw [dec_int]; exact q _ H F (.refl fh) (.bl _)⟩
  · split at h1
    · cases h1
      exact .inr ⟨d, e, d1.same fh, d2.same fh, by assumption, q _ H F (.refl fh) (.bl _)⟩
    · cases h1
/-- is, is not: of None, of bools -/
def isN : PyData → Bool
  | .none => true
  | _ => false
def pIs : PyData → PyData → Option PyData
  | d, .none => some (.bool (isN d))
  | .bool a, .bool b => some (.bool (decide (a = b)))
  | _, _ => none
def pIsNot : PyData → PyData → Option PyData
  | d, .none => some (.bool (!isN d))
  | .bool a, .bool b => some (.bool (!decide (a = b)))
  | _, _ => none
theorem isN_dp {K : PySem.W.Frag} {F : Hp} {x : V} {d : PyData} (h : Dp K F x d) : decide (x = .non) = isN d := by
  cases h <;> rfl
theorem op_is2 : Op2 X (compareOp .Is) pIs := by
  refine ⟨_, op_isN.or op_isBl, fun F H x y d e z Q fh d1 d2 h q => ?_⟩
  unfold pIs at h
  split at h
  · cases h; cases d2
    exact .inl ⟨rfl, by rw [isN_dp d1]; exact q _ H F (.refl fh) (.bl _)⟩
  · cases h; cases d1; cases d2
    exact .inr ⟨_, _, rfl, rfl, q _ H F (.refl fh) (.bl _)⟩
  · cases h
theorem op_isnot2 : Op2 X (compareOp .IsNot) pIsNot := by
  refine ⟨_, op_notN.or op_notBl, fun F H x y d e z Q fh d1 d2 h q => ?_⟩
  unfold pIsNot at h
  split at h
  · cases h; cases d2
    exact .inl ⟨rfl, by rw [isN_dp d1]; exact q _ H F (.refl fh) (.bl _)⟩
  · cases h; cases d1; cases d2
    exact .inr ⟨_, _, rfl, rfl, q _ H F (.refl fh) (.bl _)⟩
  · cases h
/-- in, not in: lists of any data, tuples of flat data, texts -/
def inOk (d : PyData) (ds : List PyData) : Bool := d.canLay0 && (PyData.canLayAll0 ds && decide (min (PyData.depthAll ds) d.depth ≤ 64))
def pIn : PyData → PyData → Option PyData
  | .str a, .str b => some (.bool (!(Builtin.Str.occurrences b a 0 b.length 1).isEmpty))
  | d, .list ds => if inOk d ds = true then some (.bool (ds.any fun z => PyData.eqv z d)) else none
  | d, .tuple ds => if inOk d ds = true then some (.bool (ds.any fun z => PyData.eqv z d)) else none
  | _, _ => none
def pNotIn (d e : PyData) : Option PyData := (pIn d e).bind fun x => (asB x).bind fun b => some (.bool (!b))
theorem op_inM (hu : X.A.units + 66 < cLine) : OpR X (compareOp .In) (fun x y H Q => ∃ d ds, Dp X.K H x d ∧ (Dp X.K H y (.list ds) ∨ Dp X.K H y (.tuple ds)) ∧ inOk d ds = true ∧ Q (.bl (ds.any fun z => PyData.eqv z d)) H) := by
  intro pins s σ H x y v u Q I rx ry h
  obtain ⟨d, ds, hd, he, ok, q⟩ := h
  obtain ⟨as, r1⟩ := Dp.reads I d x v hd rx
  obtain ⟨o1, o2⟩ := Bool.and_eq_true_iff.mp ok
  obtain ⟨o2, o3⟩ := Bool.and_eq_true_iff.mp o2
  have o3 := of_decide_eq_true o3
  rcases he with he | he
  · obtain ⟨bs, r2⟩ := Dp.reads I (.list ds) y u he ry
    exact SeqAt.in_list_reads r2 r1 o2 o1 (by omega) ⟨.bl _, H, I, rfl, q⟩
  · obtain ⟨bs, r2⟩ := Dp.reads I (.tuple ds) y u he ry
    exact SeqAt.in_tuple_reads r2 r1 o2 o1 (by omega) ⟨.bl _, H, I, rfl, q⟩
theorem op_notInM (hu : X.A.units + 66 < cLine) : OpR X (compareOp .NotIn) (fun x y H Q => ∃ d ds, Dp X.K H x d ∧ (Dp X.K H y (.list ds) ∨ Dp X.K H y (.tuple ds)) ∧ inOk d ds = true ∧ Q (.bl (!ds.any fun z => PyData.eqv z d)) H) := by
  intro pins s σ H x y v u Q I rx ry h
  obtain ⟨d, ds, hd, he, ok, q⟩ := h
  obtain ⟨as, r1⟩ := Dp.reads I d x v hd rx
  obtain ⟨o1, o2⟩ := Bool.and_eq_true_iff.mp ok
  obtain ⟨o2, o3⟩ := Bool.and_eq_true_iff.mp o2
  have o3 := of_decide_eq_true o3
  rcases he with he | he
  · obtain ⟨bs, r2⟩ := Dp.reads I (.list ds) y u he ry
    exact SeqAt.notIn_list_reads r2 r1 o2 o1 (by omega) ⟨.bl _, H, I, rfl, q⟩
  · obtain ⟨bs, r2⟩ := Dp.reads I (.tuple ds) y u he ry
    exact SeqAt.notIn_tuple_reads r2 r1 o2 o1 (by omega) ⟨.bl _, H, I, rfl, q⟩
theorem op_in2 (hu : X.A.units + 66 < cLine) : Op2 X (compareOp .In) pIn := by
  refine ⟨_, op_in_str.or (op_inM hu), fun F H x y d e z Q fh d1 d2 h q => ?_⟩
  unfold pIn at h
  split at h
  · cases h; cases d1; cases d2
    exact .inl ⟨_, _, rfl, rfl, q _ H F (.refl fh) (.bl _)⟩
  · split at h
    · cases h
      exact .inr ⟨_, _, d1.same fh, .inl (d2.same fh), by assumption, q _ H F (.refl fh) (.bl _)⟩
    · cases h
  · split at h
    · cases h
      exact .inr ⟨_, _, d1.same fh, .inr (d2.same fh), by assumption, q _ H F (.refl fh) (.bl _)⟩
    · cases h
  · cases h
theorem op_notin2 (hu : X.A.units + 66 < cLine) : Op2 X (compareOp .NotIn) pNotIn := by
  refine ⟨_, op_notin_str.or (op_notInM hu), fun F H x y d e z Q fh d1 d2 h q => ?_⟩
  obtain ⟨w, h1, h2⟩ := Option.bind_eq_some_iff.mp h
  obtain ⟨b, h3, h4⟩ := Option.bind_eq_some_iff.mp h2
  have h3 := asB_some h3
  subst h3
  cases h4
  unfold pIn at h1
  split at h1
  · cases h1; cases d1; cases d2
    exact .inl ⟨_, _, rfl, rfl, q _ H F (.refl fh) (.bl _)⟩
  · split at h1
    · cases h1
      exact .inr ⟨_, _, d1.same fh, .inl (d2.same fh), by assumption, q _ H F (.refl fh) (.bl _)⟩
    · cases h1
  · split at h1
    · cases h1
      exact .inr ⟨_, _, d1.same fh, .inr (d2.same fh), by assumption, q _ H F (.refl fh) (.bl _)⟩
    · cases h1
  · cases h1
end
end Dw

set_option Elab.async false
set_option linter.all false
set_option maxRecDepth 100000
namespace Dw
open PySem PySem.Spec L2
/-! ### a list or a tuple, walked in pairs -/
def SqB (b : Bool) (K : PySem.W.Frag) (H : Hp) (a : Addr) (xs : List V) : Prop := match b with
  | true => SqL K H a xs
  | false => SqT K H a xs
def ItB (b : Bool) (h : Heap) (it a : Addr) (i : Nat) : Prop := match b with
  | true => h.IsListIter it a i
  | false => h.IsTupleIter it a i
def IsB (b : Bool) (h : Heap) (a : Addr) (items : Array Value) : Prop := match b with
  | true => h.IsList a items
  | false => h.IsTuple a items
def itO (b : Bool) (a : Addr) : Obj := match b with
  | true => { cls := .type "list_iterator", data := .fields #[.ref a, .int 0 0] }
  | false => { cls := .type "tuple_iterator", data := .fields #[.ref a, .int 0 0] }
theorem ItB.new {b : Bool} {h : Heap} {it a : Addr} (e : h.get? it = some (itO b a)) : ItB b h it a 0 := by
  cases b with
  | true => exact ⟨_, e, rfl, rfl⟩
  | false => exact ⟨_, e, rfl, rfl⟩
theorem ItB.obj {b : Bool} {h : Heap} {it a : Addr} {i : Nat} (e : ItB b h it a i) : ∃ o, h.get? it = some o ∧ ∀ v, o.data ≠ .cell v := by
  cases b with
  | true => obtain ⟨o, ho, hc, hd⟩ := e; exact ⟨o, ho, fun v q => by rw [hd] at q; cases q⟩
  | false => obtain ⟨o, ho, hc, hd⟩ := e; exact ⟨o, ho, fun v q => by rw [hd] at q; cases q⟩
theorem ItB.at {b : Bool} {h h' : Heap} {it a : Addr} {i : Nat} (e : ItB b h it a i) (k : ∀ o, h.get? it = some o → h'.get? it = some o) : ItB b h' it a i := by
  cases b with
  | true => exact Heap.IsListIter.at e k
  | false => exact Heap.IsTupleIter.at e k
theorem drawsB {prog : Program} {w : World} {A : Around} (b : Bool) (hh : A.handled = none) (it a : Addr) (hne : a ≠ it) (items : Array Value) :
    Draws prog w A it [it, a] items.size (fun i v => items[i]? = some v) (fun i h => ItB b h it a i ∧ IsB b h a items) := by
  cases b with
  | true => exact Draws.list hh it a hne items
  | false => exact Draws.tuple hh it a hne items
theorem beginsB (b : Bool) (a : Addr) (items : Array Value) : Begins (.ref a) (itO b a) fun h => IsB b h a items := by
  cases b with
  | true => exact begins_list a items
  | false => exact begins_tuple a items
section
variable {X : Cx} {pins : List (Addr × Obj)} {σ : St} {H : Hp} {s : Shared} {a : Addr} {xs ys : List V} {b : Bool}
theorem seqB (I : Inv X pins σ H s) (h : SqB b X.K H a xs) : ∃ its : List Value, Vals xs its ∧ IsB b s.heap a its.toArray ∧ xs.length ≤ sizeLine := by
  cases b with
  | true =>
    obtain ⟨its, r, p, z⟩ := I.list h
    exact ⟨its, r, p.isList, z⟩
  | false =>
    obtain ⟨its, r, p, z⟩ := I.tuple h
    exact ⟨its, r, p, z⟩
theorem seqB_inj (I : Inv X pins σ H s) (h : SqB b X.K H a xs) (h' : SqB b X.K H a ys) : xs = ys := by
  cases b with
  | true => exact I.list_inj h h'
  | false => exact I.tuple_inj h h'
theorem IsB.lt {h : Heap} {items : Array Value} (e : IsB b h a items) : a < h.objs.size := by
  cases b with
  | true => obtain ⟨o, ho, _⟩ := e; exact Heap.lt_size ho
  | false => obtain ⟨o, ho, _⟩ := e; exact Heap.lt_size ho
theorem SqB.same {K : PySem.W.Frag} {H H' : Hp} (e : Same H H') (h : SqB b K H a xs) : SqB b K H' a xs := by
  cases b with
  | true => exact e.seq h
  | false => exact SqT.same e h
end
theorem isB_ne {b : Bool} {h : Heap} {a it : Addr} {items : Array Value} {i : Nat} {c : Bool} {a' : Addr} (e : IsB b h a items) (q : ItB c h it a' i) : a ≠ it := fun z => by
  subst z
  cases b with
  | true =>
    obtain ⟨o, ho, hc, _⟩ := e
    cases c with
    | true => obtain ⟨o', ho', hc', _⟩ := q; rw [ho] at ho'; cases ho'; rw [hc] at hc'; exact absurd hc' (by decide)
    | false => obtain ⟨o', ho', hc', _⟩ := q; rw [ho] at ho'; cases ho'; rw [hc] at hc'; exact absurd hc' (by decide)
  | false =>
    obtain ⟨o, ho, hc, _⟩ := e
    cases c with
    | true => obtain ⟨o', ho', hc', _⟩ := q; rw [ho] at ho'; cases ho'; rw [hc] at hc'; exact absurd hc' (by decide)
    | false => obtain ⟨o', ho', hc', _⟩ := q; rw [ho] at ho'; cases ho'; rw [hc] at hc'; exact absurd hc' (by decide)
/-! ### enumerate -/
set_option maxHeartbeats 1000000 in
theorem meets_enumerate_newB1 {v : Value} {o : Obj} {H : Heap → Prop} (B : Begins v o H) :
    Meets (Builtin.«enumerate.__new__» ⟨[.type "enumerate", v], []⟩) (fun _ R s => H s.heap ∧
      R (.ok (.ret (.ref (s.heap.push o).objs.size))) { s with heap := (s.heap.push o).push { cls := .type "enumerate", data := .fields #[.none, .bool false, .ref s.heap.objs.size, rawInt 0, .none, .none] } }) :=
  .of_wp fun prog w A R s h => by
    obtain ⟨hp, g, d, tk, os⟩ := s; obtain ⟨h1, h⟩ := h
    have hsub := sub_enumerate
    have q1 : ∀ {A' : Around} {E : Value → Shared → Prop} {Q : Value → Shared → Prop}, Q (.ref hp.objs.size) ⟨hp.push o, g, d, tk, os⟩ → wpAny (model prog w) A' (pyIter v) Q E ⟨hp, g, d, tk, os⟩ :=
      fun q => B.iter prog w _ _ ⟨hp, g, d, tk, os⟩ _ h1 q
    wp_walk using q1
    refine wpAny_stack_any fun st => wpAny_pure ?_
    split
    · rename_i c _ _ _ _ _
      cases (c == Value.type "enumerate")
      · wp_walk using q1
        exact ⟨_, rfl, h⟩
      · wp_walk using q1
        exact ⟨_, rfl, h⟩
    · wp_walk using q1
      exact ⟨_, rfl, h⟩
theorem enum_begins1 {prog : Program} {w : World} {A : Around} {E : Value → Shared → Prop} {s : Shared} {v : Value} {o : Obj} {H : Heap → Prop} {Q : Value → Shared → Prop} (B : Begins v o H) (h1 : H s.heap)
    (h : ∀ h', IsEnum h' (s.heap.objs.size + 1) s.heap.objs.size 0 .none → h'.get? s.heap.objs.size = some o → h'.objs.size = s.heap.objs.size + 2 →
      (∀ b o, s.heap.get? b = some o → h'.get? b = some o) → Q (.ref (s.heap.objs.size + 1)) { s with heap := h' }) :
    wpAny (model prog w) A (call (.type "enumerate") [v]) Q E s := by
  refine callType_new F.called_enumerate (by decide) (F.typeCall_enumerate_1 _) (F.newCall_enumerate_1 _) (fun obj => F.args_object_init_2 obj _) F.entry_enumerate_new
    (meets_enumerate_newB1 B) ⟨h1, ?_⟩
  have hz : (s.heap.push o).objs.size = s.heap.objs.size + 1 := Heap.size_push ..
  show _ ∧ _
  rw [hz]
  have he : IsEnum ((s.heap.push o).push { cls := .type "enumerate", data := .fields #[.none, .bool false, .ref s.heap.objs.size, rawInt 0, .none, .none] }) (s.heap.objs.size + 1) s.heap.objs.size 0 .none := by
    have := Heap.get?_push_size (s.heap.push o) (o := { cls := .type "enumerate", data := .fields #[.none, .bool false, .ref s.heap.objs.size, rawInt 0, .none, .none] }) rfl
    rw [hz] at this; exact this
  refine ⟨⟨_, he, rfl⟩, h _ he (Heap.get?_push_of_some _ (Heap.get?_push_size _ B.free)) (by rw [Heap.size_push, hz]) fun b o x => Heap.get?_push_of_some _ (Heap.get?_push_of_some _ x)⟩
/-- pairs: new tuples of two -/
def ItPr (go : Nat → Hp → Prop) (yl : Nat → Hp → V → V → Prop) (stop : Nat → Hp → Prop) : It :=
  ⟨go, fun i H v H' => ∃ T x y, v = .ref T ∧ H T = none ∧ H' = upd H T (.tup [x, y]) ∧ yl i H x y, stop⟩
def IteB (b : Bool) (K : PySem.W.Frag) (a : Addr) : It := ItPr (fun i H => ∃ (xs : List V) (x : V), SqB b K H a xs ∧ xs[i]? = some x) (fun i H x y => x = .int (i : Nat) ∧ ∀ xs, SqB b K H a xs → xs[i]? = some y) (fun i H => ∃ xs : List V, SqB b K H a xs ∧ xs.length = i)
theorem turn_enumB {P : Program} {w : World} {K : PySem.W.Frag} {elts : List Expr} {kk : Nat} {tpos : Pos} (b : Bool) (a e it : Addr) :
    Turn P w K (.Tuple elts kk tpos) (IteB b K a) [e, it] e (fun i h => (∃ old, IsEnum h e it ((i : Nat) : Int) old) ∧ ItB b h it a i ∧ e ≠ it) where
  mem := by simp
  obj := fun i h st c hb => by
    obtain ⟨⟨old, he⟩, q, _⟩ := st
    have e' : c = e ∨ c = it := by simpa using hb
    rcases e' with z | z
    · rw [z]; exact ⟨_, he, fun v q => nomatch q⟩
    · rw [z]; exact q.obj
  keep := fun i h h' st k => let ⟨⟨old, he⟩, hi, hne⟩ := st; ⟨⟨old, k e (by simp) _ he⟩, hi.at fun o q => k it (by simp) o q, hne⟩
  item := by
    intro X hP hw hK hc i pins s σ H E I hf st hg
    subst hP hw hK
    obtain ⟨⟨old, he⟩, hit, hne⟩ := st
    obtain ⟨xs, x, hq, hx⟩ := hg
    obtain ⟨its, rv, p, hz⟩ := seqB I hq
    obtain ⟨u, hu, ru⟩ := rv.get hx
    have hel : e < s.heap.objs.size := Heap.lt_size he
    have hil : it < s.heap.objs.size := by obtain ⟨_, q, _⟩ := hit.obj; exact Heap.lt_size q
    have hai : a ≠ it := isB_ne p hit
    have hae : e ≠ a := fun z => by
      subst z
      cases b with
      | true => obtain ⟨o, ho, hc', _⟩ := p; rw [show s.heap.get? e = some _ from he] at ho; cases ho; exact absurd hc' (show ¬ Value.type "enumerate" = Value.type "list" by decide)
      | false => obtain ⟨o, ho, hc', _⟩ := p; rw [show s.heap.get? e = some _ from he] at ho; cases ho; exact absurd hc' (show ¬ Value.type "enumerate" = Value.type "tuple" by decide)
    have W := GoesN.enumFrom (prog := X.prog) (w := X.w) (A := X.A) (elts := elts) (x1 := kk) (pos := tpos) 0 (drawsB b (show X.A.in1.handled = none from I.ok.hd hc) it a hai its.toArray) e hne (by simp [hne, hae]) (by simp)
    have hlt : i < its.toArray.size := by
      rw [List.size_toArray, ← rv.length]
      exact (List.getElem?_eq_some_iff.mp hx).1
    refine thn (W.goes i s (fun v s2 => ∃ x H', Inv X pins σ H' s2 ∧ RelV x v ∧ (IteB b X.K a).yld i H x H' ∧ ((∃ old, IsEnum s2.heap e it (((i + 1 : Nat) : Nat) : Int) old) ∧ ItB b s2.heap it a (i + 1) ∧ e ≠ it) ∧ ∀ c ∈ [e, it], H' c = none) E hlt ⟨⟨old, by rw [Int.zero_add]; exact he⟩, hit, p⟩ fun v h' tk hY st' hk htk => ?_) fun r s1 hr => hr
    obtain ⟨T, t, y, rfl, hT, hy, hTt⟩ := hY
    obtain ⟨⟨old', he'⟩, hit', _⟩ := st'
    have ey : y = u := by
      have h1 : its[i]? = some y := by simpa using hy
      rw [hu] at h1; exact (Option.some.inj h1).symm
    subst ey
    have new : ObjOk X.prog X.w (upd H T (.tup [.int (i : Nat), x])) h' T (.tup [.int (i : Nat), x]) :=
      ⟨by show 2 ≤ sizeLine; decide, [.int (0 + (i : Int)) t, y], .cons ⟨t, by rw [Int.zero_add]⟩ (.cons ru .nil), hTt⟩
    have I1 : Inv X pins σ (upd H T (.tup [.int (i : Nat), x])) { s with heap := h', toks := tk } :=
      I.turnedNew (ch := [e, it]) (fun c ob hb q => hk c ob hb q) hf hT new
    refine ⟨.ref T, _, I1, rfl, ⟨T, .int (i : Nat), x, rfl, I.hok.fresh hT, rfl, rfl, fun ys hy2 => by rw [seqB_inj I hy2 hq]; exact hx⟩, ⟨⟨old', ?_⟩, hit', hne⟩, fun c hb => ?_⟩
    · have e1 : ((i + 1 : Nat) : Int) = 0 + ((i + 1 : Nat) : Int) := by omega
      rw [e1]; exact he'
    · have hb' : c < s.heap.objs.size := by
        have e' : c = e ∨ c = it := by simpa using hb
        rcases e' with z | z
        · rw [z]; exact hel
        · rw [z]; exact hil
      rw [upd_ne (Nat.ne_of_lt (Nat.lt_of_lt_of_le hb' hT))]
      exact (hf c hb).1
  done := by
    intro X hP hw hK hc i pins s σ H E I hf st hg
    subst hP hw hK
    obtain ⟨⟨old, he⟩, hit, hne⟩ := st
    obtain ⟨xs, hq, hx⟩ := hg
    obtain ⟨its, rv, p, hz⟩ := seqB I hq
    have hai : a ≠ it := isB_ne p hit
    have hae : e ≠ a := fun z => by
      subst z
      cases b with
      | true => obtain ⟨o, ho, hc', _⟩ := p; rw [show s.heap.get? e = some _ from he] at ho; cases ho; exact absurd hc' (show ¬ Value.type "enumerate" = Value.type "list" by decide)
      | false => obtain ⟨o, ho, hc', _⟩ := p; rw [show s.heap.get? e = some _ from he] at ho; cases ho; exact absurd hc' (show ¬ Value.type "enumerate" = Value.type "tuple" by decide)
    have W := GoesN.enumFrom (prog := X.prog) (w := X.w) (A := X.A) (elts := elts) (x1 := kk) (pos := tpos) 0 (drawsB b (show X.A.in1.handled = none from I.ok.hd hc) it a hai its.toArray) e hne (by simp [hne, hae]) (by simp)
    have hn : its.toArray.size = i := by rw [List.size_toArray, ← rv.length]; exact hx
    refine W.stops s (fun s1 => Inv X pins σ H s1) E ?_ fun h' tk hk htk => ?_
    · rw [hn]
      exact ⟨⟨old, by rw [Int.zero_add]; exact he⟩, hit, p⟩
    · exact I.turnedL (ch := [e, it]) (fun c o hb q => hk c o hb q) hf
  self := fun A i s Q E st h => let ⟨⟨_, he⟩, _⟩ := st; wpAny_pyIter_enum he h
def iEnumB (K : PySem.W.Frag) (ta : TA) : TI := fun σ H R => ta σ H fun vs H1 => ∃ b a xs, vs = [.ref a] ∧ SqB b K H1 a xs ∧ R (IteB b K a) H1
theorem pi_enumB {X : Cx} {e : Expr} {ta : TA} {p pos tpos : Pos} {elts : List Expr} {kk : Nat} (hg : Gl X "enumerate") (hm : X.mg "enumerate" = none) (ha : PA X [e] ta) (hs : starEach [e] X.env = [(false, eval e X.env)] := by rfl) :
    PI X (.Tuple elts kk tpos) (.Call (.Name "enumerate" p) [e] [] pos) (iEnumB X.K ta) := by
  refine ⟨fun pins s σ H R I h => ?_⟩
  refine PyProof.Rows.Call_ (ld_blt I hg hm PyProof.Rows.boot_enumerate (PyProof.Rows.callWith_type1 (thn (ha.run pos pins s σ H _ I h) fun us s1 ⟨vs, H1, I1, r1, q1⟩ => ?_) hs rfl))
  obtain ⟨b, a, xs, ex, hq, q⟩ := q1
  subst ex
  cases r1 with
  | cons r rr =>
    cases rr
    cases r
    obtain ⟨its, rv, p', hz⟩ := seqB I1 hq
    refine enum_begins1 (beginsB b a its.toArray) p' fun h' he hit hsz hk => wpAny_pyIter_enum he ?_
    have I2 : Inv X pins σ H1 { s1 with heap := h' } := I1.kept (t' := s1.toks) hk
    refine ⟨s1.heap.objs.size + 1, [s1.heap.objs.size + 1, s1.heap.objs.size], _, _, H1, rfl, I2, turn_enumB b a (s1.heap.objs.size + 1) s1.heap.objs.size, ⟨⟨.none, he⟩, ItB.new hit, Nat.succ_ne_self _⟩, fun c hb => ?_, q⟩
    have e' : c = s1.heap.objs.size + 1 ∨ c = s1.heap.objs.size := by simpa using hb
    have hle : s1.heap.objs.size ≤ c := by
      rcases e' with z | z
      · rw [z]; exact Nat.le_add_right _ _
      · rw [z]; exact Nat.le_refl _
    exact I1.fpOk hle (I1.hok.fresh hle)
/-! ### zip of two -/
theorem isB_nz {b : Bool} {h : Heap} {a z : Addr} {items : Array Value} {o : Obj} (e : IsB b h a items) (q : h.get? z = some o) (n : o.cls ≠ .type "list" ∧ o.cls ≠ .type "tuple") : z ≠ a := fun w => by
  subst w
  cases b with
  | true => obtain ⟨o', ho, hc, _⟩ := e; rw [q] at ho; cases ho; exact n.1 hc
  | false => obtain ⟨o', ho, hc, _⟩ := e; rw [q] at ho; cases ho; exact n.2 hc
def ItzB (b c : Bool) (K : PySem.W.Frag) (a d : Addr) : It := ItPr (fun i H => ∃ (xs ys : List V) (x y : V), SqB b K H a xs ∧ SqB c K H d ys ∧ xs[i]? = some x ∧ ys[i]? = some y)
  (fun i H x y => (∀ xs, SqB b K H a xs → xs[i]? = some x) ∧ ∀ ys, SqB c K H d ys → ys[i]? = some y) (fun i H => ∃ xs ys : List V, SqB b K H a xs ∧ SqB c K H d ys ∧ min xs.length ys.length = i)
/-- the iterators' cells and what they walk lie apart -/
structure ZipAp (z TI TO i1 i2 a d : Addr) : Prop where
  s : ZipSep2 z TI TO i1 i2 [i1, a] [i2, d]
  a1 : a ≠ i1
  d2 : d ≠ i2
theorem turn_zipB {P : Program} {w : World} {K : PySem.W.Frag} {elts : List Expr} {kk : Nat} {tpos : Pos} {z TI TO i1 i2 a d : Addr} (b c : Bool) (S : ZipAp z TI TO i1 i2 a d) :
    Turn P w K (.Tuple elts kk tpos) (ItzB b c K a d) [z, TI, TO, i1, i2] z (fun i h => IsZip h z TI TO .none ∧ IsTupOf2 h TI (.ref i1) (.ref i2) ∧ (∃ a1 a2, IsTupOf2 h TO a1 a2) ∧ ItB b h i1 a i ∧ ItB c h i2 d i) where
  mem := by simp
  obj := fun i h st e hb => by
    obtain ⟨hz, hTI, ⟨_, _, hTO⟩, q1, q2⟩ := st
    have e' : e = z ∨ e = TI ∨ e = TO ∨ e = i1 ∨ e = i2 := by simpa using hb
    rcases e' with q | q | q | q | q
    · rw [q]; exact ⟨_, hz, fun v q => nomatch q⟩
    · rw [q]; exact ⟨_, hTI, fun v q => nomatch q⟩
    · rw [q]; exact ⟨_, hTO, fun v q => nomatch q⟩
    · rw [q]; exact q1.obj
    · rw [q]; exact q2.obj
  keep := fun i h h' st k => let ⟨hz, hTI, ⟨a1, a2, hTO⟩, q1, q2⟩ := st; ⟨k z (by simp) _ hz, k TI (by simp) _ hTI, ⟨a1, a2, k TO (by simp) _ hTO⟩, q1.at fun o q => k i1 (by simp) o q, q2.at fun o q => k i2 (by simp) o q⟩
  item := by
    intro X hP hw hK hc i pins s σ H E I hf st hg
    subst hP hw hK
    obtain ⟨xs, ys, x, y, hq1, hq2, hx, hy⟩ := hg
    obtain ⟨its1, rv1, p1, _⟩ := seqB I hq1
    obtain ⟨its2, rv2, p2, _⟩ := seqB I hq2
    obtain ⟨u1, hu1, ru1⟩ := rv1.get hx
    obtain ⟨u2, hu2, ru2⟩ := rv2.get hy
    have hh : X.A.in1.handled = none := I.ok.hd hc
    have W := GoesN.zip2 (prog := X.prog) (w := X.w) (A := X.A) (elts := elts) (x1 := kk) (pos := tpos) S.s (drawsB b hh i1 a S.a1 its1.toArray) (drawsB c hh i2 d S.d2 its2.toArray)
    have hlt : i < min its1.toArray.size its2.toArray.size := by
      have l1 := (List.getElem?_eq_some_iff.mp hx).1
      have l2 := (List.getElem?_eq_some_iff.mp hy).1
      rw [rv1.length] at l1
      rw [rv2.length] at l2
      simp only [List.size_toArray]
      omega
    obtain ⟨hz, hTI, hTO, hi1, hi2⟩ := st
    refine thn (W.goes i s (fun v s2 => ∃ x H', Inv X pins σ H' s2 ∧ RelV x v ∧ (ItzB b c X.K a d).yld i H x H' ∧ (IsZip s2.heap z TI TO .none ∧ IsTupOf2 s2.heap TI (.ref i1) (.ref i2) ∧ (∃ a1 a2, IsTupOf2 s2.heap TO a1 a2) ∧ ItB b s2.heap i1 a (i + 1) ∧ ItB c s2.heap i2 d (i + 1)) ∧ ∀ c ∈ [z, TI, TO, i1, i2], H' c = none) E hlt ⟨hz, hTI, hTO, ⟨hi1, p1⟩, hi2, p2⟩ fun v h' tk hY st' hk htk => ?_) fun r s1 hr => hr
    obtain ⟨T, v1, v2, rfl, hT, hv1, hv2, hTt⟩ := hY
    obtain ⟨hz', hTI', hTO', ⟨hi1', _⟩, hi2', _⟩ := st'
    have e1 : v1 = u1 := by
      have h1 : its1[i]? = some v1 := by simpa using hv1
      rw [hu1] at h1; exact (Option.some.inj h1).symm
    have e2 : v2 = u2 := by
      have h1 : its2[i]? = some v2 := by simpa using hv2
      rw [hu2] at h1; exact (Option.some.inj h1).symm
    subst e1 e2
    have new : ObjOk X.prog X.w (upd H T (.tup [x, y])) h' T (.tup [x, y]) := ⟨by show 2 ≤ sizeLine; decide, [v1, v2], .cons ru1 (.cons ru2 .nil), hTt⟩
    have I1 : Inv X pins σ (upd H T (.tup [x, y])) { s with heap := h', toks := tk } :=
      I.turnedNew (ch := [z, TI, TO, i1, i2]) (fun c ob hb q => hk c ob (fun hm => hb (by
        have e' : c = z ∨ c = TO ∨ c = i1 ∨ c = i2 := by simpa using hm
        rcases e' with q | q | q | q <;> simp [q])) q) hf hT new
    refine ⟨.ref T, _, I1, rfl, ⟨T, x, y, rfl, I.hok.fresh hT, rfl, fun ws hw2 => by rw [seqB_inj I hw2 hq1]; exact hx, fun ws hw2 => by rw [seqB_inj I hw2 hq2]; exact hy⟩, ⟨hz', hTI', hTO', hi1', hi2'⟩, fun e hb => ?_⟩
    have hb' : e < s.heap.objs.size := by
      obtain ⟨a1, a2, hTO⟩ := hTO
      have e' : e = z ∨ e = TI ∨ e = TO ∨ e = i1 ∨ e = i2 := by simpa using hb
      rcases e' with q | q | q | q | q
      · rw [q]; exact Heap.lt_size hz
      · rw [q]; exact Heap.lt_size hTI
      · rw [q]; exact Heap.lt_size hTO
      · rw [q]; obtain ⟨_, q, _⟩ := hi1.obj; exact Heap.lt_size q
      · rw [q]; obtain ⟨_, q, _⟩ := hi2.obj; exact Heap.lt_size q
    rw [upd_ne (Nat.ne_of_lt (Nat.lt_of_lt_of_le hb' hT))]
    exact (hf e hb).1
  done := by
    intro X hP hw hK hc i pins s σ H E I hf st hg
    subst hP hw hK
    obtain ⟨xs, ys, hq1, hq2, hx⟩ := hg
    obtain ⟨its1, rv1, p1, _⟩ := seqB I hq1
    obtain ⟨its2, rv2, p2, _⟩ := seqB I hq2
    have hh : X.A.in1.handled = none := I.ok.hd hc
    have W := GoesN.zip2 (prog := X.prog) (w := X.w) (A := X.A) (elts := elts) (x1 := kk) (pos := tpos) S.s (drawsB b hh i1 a S.a1 its1.toArray) (drawsB c hh i2 d S.d2 its2.toArray)
    have hn : min its1.toArray.size its2.toArray.size = i := by simp only [List.size_toArray]; rw [← rv1.length, ← rv2.length]; exact hx
    obtain ⟨hz, hTI, hTO, hi1, hi2⟩ := st
    refine W.stops s (fun s1 => Inv X pins σ H s1) E ?_ fun h' tk hk htk => ?_
    · rw [hn]
      exact ⟨hz, hTI, hTO, ⟨hi1, p1⟩, hi2, p2⟩
    · exact I.turnedL (ch := [z, TI, TO, i1, i2]) (fun c o hb q => hk c o (fun hm => hb (by
        have e' : c = z ∨ c = TO ∨ c = i1 ∨ c = i2 := by simpa using hm
        rcases e' with q | q | q | q <;> simp [q])) q) hf
  self := fun A i s Q E st h => let ⟨hz, _⟩ := st; wpAny_pyIter_zip hz h
def iZipB (K : PySem.W.Frag) (ta : TA) : TI := fun σ H R => ta σ H fun vs H1 => ∃ b c a d xs ys, vs = [.ref a, .ref d] ∧ SqB b K H1 a xs ∧ SqB c K H1 d ys ∧ R (ItzB b c K a d) H1
theorem pi_zipB {X : Cx} {e e2 : Expr} {ta : TA} {p pos tpos : Pos} {elts : List Expr} {kk : Nat} (hg : Gl X "zip") (hm : X.mg "zip" = none) (ha : PA X [e, e2] ta)
    (hs : starEach [e, e2] X.env = (false, eval e X.env) :: starEach [e2] X.env := by rfl) (hpl : (backTo pos (starEach [e2] X.env)).any (·.1) = false := by rfl) :
    PI X (.Tuple elts kk tpos) (.Call (.Name "zip" p) [e, e2] [] pos) (iZipB X.K ta) := by
  refine ⟨fun pins s σ H R I h => ?_⟩
  refine PyProof.Rows.Call_ (ld_blt I hg hm PyProof.Rows.boot_zip (PyProof.Rows.callWith_type1 (thn (ha.run pos pins s σ H _ I h) fun us s1 ⟨vs, H1, I1, r1, q1⟩ => ?_) hs hpl))
  obtain ⟨b, c, a, d, xs, ys, ex, hq1, hq2, q⟩ := q1
  subst ex
  cases r1 with
  | cons r rr =>
    cases rr with
    | cons r' rr =>
      cases rr
      cases r
      cases r'
      obtain ⟨its1, rv1, p1, _⟩ := seqB I1 hq1
      obtain ⟨its2, rv2, p2, _⟩ := seqB I1 hq2
      refine zip_begins2 (beginsB b a its1.toArray) (beginsB c d its2.toArray) p1 p2 fun h' hz hTI hTO h1 h2 hsz hk => wpAny_pyIter_zip hz ?_
      have I2 : Inv X pins σ H1 { s1 with heap := h' } := I1.kept (t' := s1.toks) hk
      have la : a < s1.heap.objs.size := p1.lt
      have ld : d < s1.heap.objs.size := p2.lt
      have S : ZipAp (s1.heap.objs.size + 4) (s1.heap.objs.size + 2) (s1.heap.objs.size + 3) s1.heap.objs.size (s1.heap.objs.size + 1) a d :=
        ⟨zip_sep2 (fun e hb => by have : e = a := by simpa using hb
                                  rw [this]; exact la) (fun e hb => by have : e = d := by simpa using hb
                                                                       rw [this]; exact ld), Nat.ne_of_lt la, Nat.ne_of_lt (Nat.lt_succ_of_lt ld)⟩
      refine ⟨s1.heap.objs.size + 4, [s1.heap.objs.size + 4, s1.heap.objs.size + 2, s1.heap.objs.size + 3, s1.heap.objs.size, s1.heap.objs.size + 1], _, _, H1, rfl, I2, turn_zipB b c S, ⟨hz, hTI, ⟨_, _, hTO⟩, ItB.new h1, ItB.new h2⟩, fun e hb => ?_, q⟩
      have e' : e = s1.heap.objs.size + 4 ∨ e = s1.heap.objs.size + 2 ∨ e = s1.heap.objs.size + 3 ∨ e = s1.heap.objs.size ∨ e = s1.heap.objs.size + 1 := by simpa using hb
      have hle : s1.heap.objs.size ≤ e := by
        rcases e' with z | z | z | z | z
        · rw [z]; exact Nat.le_add_right _ _
        · rw [z]; exact Nat.le_add_right _ _
        · rw [z]; exact Nat.le_add_right _ _
        · rw [z]; exact Nat.le_refl _
        · rw [z]; exact Nat.le_add_right _ _
      exact I1.fpOk hle (I1.hok.fresh hle)
end Dw

set_option Elab.async false
set_option linter.all false
set_option maxRecDepth 100000
namespace Dw
open PySem PySem.Spec L2
/-! ### what is walked -/
def WI (X : Cx) (tg e : Expr) : TI := fun σ H R => ∀ pins s, Inv X pins σ H s → wpAny (model X.prog X.w) X.A (eval e X.env) (fun v s1 => wpAny (model X.prog X.w) X.A (pyIter v) (PIE X pins σ tg R) X.xe s1) X.xe s
theorem pi_wi {X : Cx} {tg e : Expr} : PI X tg e (WI X tg e) := ⟨fun pins s _ _ _ I h => h pins s I⟩
theorem wi_of {X : Cx} {tg e : Expr} {t : TI} {σ : St} {H : Hp} {R : It → Hp → Prop} (h : PI X tg e t) (ht : t σ H R) : WI X tg e σ H R := fun pins s I => h.run pins s σ H R I ht
/-- J walks the data ds, that stand in F -/
def Wk (K : PySem.W.Frag) (J : It) (F : Hp) (ds : List PyData) : Prop := ∃ G Y, Walk J ds.length G Y ∧ (∀ H, Same F H → G H) ∧
  ∀ i H x H' F1, i < ds.length → Same F F1 → Same F1 H → Y i H x H' → ∃ F2 d, ds[i]? = some d ∧ Ext F1 H F2 H' ∧ Dp K F2 x d
structure DI (X : Cx) (tg e : Expr) (f : Mr (List PyData)) : Prop where
  run : ∀ F0 H0 ρ σ H F ds (R : It → Hp → Prop), Rl X.K F0 H0 ρ σ H F → f ρ = some ds → (∀ J H' F', Ext F H F' H' → Wk X.K J F' ds → R J H') → WI X tg e σ H R
section
variable {X : Cx} {a b tg : Expr} {fa fb : Mr PyData} {pos p tpos : Pos}
theorem wk_list {K : PySem.W.Frag} {F : Hp} {a : Addr} {vs : List V} {ds : List PyData} (hs : SqL K F a vs) (ha : DpAll K F vs ds) : Wk K (Itl K a) F ds := by
  refine ⟨_, _, by rw [← ha.len]; exact walk_list (xs := vs), fun H s => s.seq hs, fun i H x H' F1 hi s1 s2 y => ?_⟩
  obtain ⟨rfl, hx⟩ := y
  obtain ⟨d, h1, h2⟩ := ha.getV hx
  exact ⟨F1, d, h1, .refl s2, h2.same s1⟩
theorem wk_tup {K : PySem.W.Frag} {F : Hp} {a : Addr} {vs : List V} {ds : List PyData} (hs : SqT K F a vs) (ha : DpAll K F vs ds) : Wk K (Itt K a) F ds := by
  refine ⟨_, _, by rw [← ha.len]; exact walk_tup (xs := vs), fun H s => hs.same s, fun i H x H' F1 hi s1 s2 y => ?_⟩
  obtain ⟨rfl, hx⟩ := y
  obtain ⟨d, h1, h2⟩ := ha.getV hx
  exact ⟨F1, d, h1, .refl s2, h2.same s1⟩
def items : PyData → Option (List PyData)
  | .list ds => some ds
  | .tuple ds => some ds
  | _ => none
def mItems (f : Mr PyData) : Mr (List PyData) := fun ρ => (f ρ).bind items
theorem di_val (h : DE X a fa) : DI X tg a (mItems fa) := by
  refine ⟨?_⟩
  intro F0 H0 ρ σ H F ds R r hf q
  obtain ⟨x, h1, h2⟩ := Option.bind_eq_some_iff.mp hf
  cases x <;> first | cases h2 | skip
  · refine wi_of (pi_list pe_we) (h.run F0 H0 ρ σ H F _ _ r h1 fun v H1 F1 e1 d1 => ?_)
    cases d1 with
    | lst hs ha => exact ⟨_, rfl, ⟨_, e1.fh.seq hs⟩, q _ H1 F1 e1 (wk_list hs ha)⟩
  · refine wi_of (pi_tup pe_we) (h.run F0 H0 ρ σ H F _ _ r h1 fun v H1 F1 e1 d1 => ?_)
    cases d1 with
    | tup hs ha => exact ⟨_, rfl, ⟨_, hs.same e1.fh⟩, q _ H1 F1 e1 (wk_tup hs ha)⟩
def rng (lo : Int) (n : Nat) : List PyData := (List.range n).map fun i => .int (lo + (i : Nat))
theorem rng_len (lo : Int) (n : Nat) : (rng lo n).length = n := by simp [rng]
theorem wk_rng {K : PySem.W.Frag} {F : Hp} {lo : Int} {n : Nat} : Wk K (Itr lo n) F (rng lo n) := by
  refine ⟨_, _, by rw [rng_len]; exact walk_range, fun H s => trivial, fun i H x H' F1 hi s1 s2 y => ?_⟩
  obtain ⟨rfl, rfl⟩ := y
  rw [rng_len] at hi
  exact ⟨F1, .int (lo + i), by simp [rng, hi], .refl s2, .int _⟩
def rOk (i : Int) : Bool := decide (-(2 ^ 62) ≤ i) && decide (i < 2 ^ 62)
theorem rOk_ok {i : Int} (h : rOk i = true) : -(2 ^ 62) ≤ i ∧ i < 2 ^ 62 := by
  obtain ⟨h1, h2⟩ := Bool.and_eq_true_iff.mp h
  exact ⟨of_decide_eq_true h1, of_decide_eq_true h2⟩
def mIt (g : List PyData → Option (List PyData)) (f : Mr (List PyData)) : Mr (List PyData) := fun ρ => (f ρ).bind g
noncomputable def pRng1 : List PyData → Option (List PyData)
  | [.int n] => @ite _ (rOk n = true) (Classical.propDecidable _) (some (rng 0 n.toNat)) none
  | _ => none
noncomputable def pRng2 : List PyData → Option (List PyData)
  | [.int m, .int n] => @ite _ ((rOk m && rOk n) = true) (Classical.propDecidable _) (some (rng m (n - m).toNat)) none
  | _ => none
variable {ga : Mr (List PyData)}
theorem di_rng1 (hm : X.mg "range" = none) (h : DA X [a] ga) (hg : Gl X "range" := by rfl) (hn1 : noStar a = true := by rfl) : DI X tg (.Call (.Name "range" p) [a] [] pos) (mIt pRng1 ga) := by
  refine ⟨?_⟩
  intro F0 H0 ρ σ H F ds R r hf q
  obtain ⟨x, h1, h2⟩ := Option.bind_eq_some_iff.mp hf
  unfold pRng1 at h2
  split at h2
  · rename_i n
    split at h2
    · rename_i hk
      cases h2
      refine wi_of (pi_range1 hg hm pa_wa (star_cons hn1)) (h.run F0 H0 ρ σ H F _ _ r h1 fun v H1 F1 e1 d1 => ?_)
      cases d1 with
      | cons d1 d2 =>
        cases d2
        cases d1
        exact ⟨n, rfl, (rOk_ok hk).1, (rOk_ok hk).2, q _ H1 F1 e1 wk_rng⟩
    · cases h2
  · cases h2
theorem di_rng2 (hm : X.mg "range" = none) (h : DA X [a, b] ga) (hg : Gl X "range" := by rfl) (hn1 : noStar a = true := by rfl) (hn2 : noStar b = true := by rfl) :
    DI X tg (.Call (.Name "range" p) [a, b] [] pos) (mIt pRng2 ga) := by
  refine ⟨?_⟩
  intro F0 H0 ρ σ H F ds R r hf q
  obtain ⟨x, h1, h2⟩ := Option.bind_eq_some_iff.mp hf
  unfold pRng2 at h2
  split at h2
  · rename_i m n
    split at h2
    · rename_i hk
      cases h2
      obtain ⟨k1, k2⟩ := Bool.and_eq_true_iff.mp hk
      refine wi_of (pi_range2 hg hm pa_wa ((star_cons hn1).trans (congrArg _ (star_cons hn2))) (star_cons hn2)) (h.run F0 H0 ρ σ H F _ _ r h1 fun v H1 F1 e1 d1 => ?_)
      cases d1 with
      | cons d1 d2 =>
        cases d2 with
        | cons d2 d3 =>
          cases d3
          cases d1
          cases d2
          exact ⟨m, n, rfl, ⟨(rOk_ok k1).1, (rOk_ok k1).2, (rOk_ok k2).1, (rOk_ok k2).2⟩, q _ H1 F1 e1 wk_rng⟩
    · cases h2
  · cases h2
/-! pairs -/
theorem sqB_dp {K : PySem.W.Frag} {F : Hp} {v : V} {d : PyData} {ds : List PyData} (h : Dp K F v d) (e : items d = some ds) : ∃ b a vs, v = .ref a ∧ SqB b K F a vs ∧ DpAll K F vs ds := by
  cases h <;> first | cases e | skip
  · exact ⟨true, _, _, rfl, by assumption, by assumption⟩
  · exact ⟨false, _, _, rfl, by assumption, by assumption⟩
def enumD (ds : List PyData) : List PyData := (List.range ds.length).map fun i => .tuple [.int (i : Nat), ds.getD i .none]
theorem enumD_len (ds : List PyData) : (enumD ds).length = ds.length := by simp [enumD]
def zipD (ds es : List PyData) : List PyData := List.zipWith (fun x y => .tuple [x, y]) ds es
theorem Ext.pair {K : PySem.W.Frag} {F H : Hp} {T : Addr} {x y : V} {d e : PyData} (s : Same F H) (n : H T = none) (h1 : Dp K F x d) (h2 : Dp K F y e) : ∃ F2, Ext F H F2 (upd H T (.tup [x, y])) ∧ Dp K F2 (.ref T) (.tuple [d, e]) :=
  ⟨upd F T (.tup [x, y]), .alloc s n, .tup (.inl (.inl upd_same)) (.cons (h1.same (same_upd (s.free n))) (.cons (h2.same (same_upd (s.free n))) .nil))⟩
theorem wk_enum {K : PySem.W.Frag} {F : Hp} {a : Addr} {vs : List V} {ds : List PyData} {b : Bool} (hs : SqB b K F a vs) (ha : DpAll K F vs ds) : Wk K (IteB b K a) F (enumD ds) := by
  have hl := ha.len
  refine ⟨fun H => SqB b K H a vs, fun i H v H' => ∃ T x y, v = .ref T ∧ H T = none ∧ H' = upd H T (.tup [x, y]) ∧ x = .int (i : Nat) ∧ vs[i]? = some y, ⟨fun i H hi h => ?_, fun H h => ?_, fun i H x H' hi h y => ?_⟩, fun H s => hs.same s, fun i H x H' F1 hi s1 s2 y => ?_⟩
  · rw [enumD_len, ← hl] at hi
    exact ⟨vs, vs[i], h, by simp [hi]⟩
  · exact ⟨vs, h, by rw [enumD_len]; exact hl⟩
  · obtain ⟨T, x, y, h1, h2, h3, h4, h5⟩ := y
    exact ⟨T, x, y, h1, h2, h3, h4, h5 vs h⟩
  · obtain ⟨T, x, y, rfl, h2, rfl, rfl, h5⟩ := y
    rw [enumD_len] at hi
    obtain ⟨d, h6, h7⟩ := ha.getV h5
    obtain ⟨F2, e1, e2⟩ := Ext.pair s2 h2 (.int (i : Nat)) (h7.same s1)
    refine ⟨F2, _, ?_, e1, e2⟩
    rw [List.getElem?_eq_getElem hi] at h6
    cases h6
    simp [enumD, hi]
theorem wk_zip {K : PySem.W.Frag} {F : Hp} {a c : Addr} {vs ws : List V} {ds es : List PyData} {b b' : Bool} (hs : SqB b K F a vs) (ha : DpAll K F vs ds) (hs' : SqB b' K F c ws) (ha' : DpAll K F ws es) : Wk K (ItzB b b' K a c) F (zipD ds es) := by
  have hl := ha.len
  have hl' := ha'.len
  have hn : (zipD ds es).length = min vs.length ws.length := by simp [zipD, hl, hl']
  refine ⟨fun H => SqB b K H a vs ∧ SqB b' K H c ws, fun i H v H' => ∃ T x y, v = .ref T ∧ H T = none ∧ H' = upd H T (.tup [x, y]) ∧ vs[i]? = some x ∧ ws[i]? = some y, ⟨fun i H hi h => ?_, fun H h => ?_, fun i H x H' hi h y => ?_⟩, fun H s => ⟨hs.same s, hs'.same s⟩, fun i H x H' F1 hi s1 s2 y => ?_⟩
  · rw [hn] at hi
    have h1 : i < vs.length := by omega
    have h2 : i < ws.length := by omega
    exact ⟨vs, ws, vs[i], ws[i], h.1, h.2, by simp [h1], by simp [h2]⟩
  · exact ⟨vs, ws, h.1, h.2, hn.symm⟩
  · obtain ⟨T, x, y, h1, h2, h3, h4, h5⟩ := y
    exact ⟨T, x, y, h1, h2, h3, h4 vs h.1, h5 ws h.2⟩
  · obtain ⟨T, x, y, rfl, h2, rfl, h4, h5⟩ := y
    obtain ⟨d, h6, h7⟩ := ha.getV h4
    obtain ⟨d', h8, h9⟩ := ha'.getV h5
    obtain ⟨F2, e1, e2⟩ := Ext.pair s2 h2 (h7.same s1) (h9.same s1)
    refine ⟨F2, _, ?_, e1, e2⟩
    simp [zipD, List.getElem?_zipWith, h6, h8]
def pEnum : List PyData → Option (List PyData)
  | [x] => (items x).bind fun ds => some (enumD ds)
  | _ => none
def pZip : List PyData → Option (List PyData)
  | [x, y] => (items x).bind fun ds => (items y).bind fun es => some (zipD ds es)
  | _ => none
variable {elts : List Expr} {kk : Nat}
theorem di_enum (hm : X.mg "enumerate" = none) (h : DA X [a] ga) (hg : Gl X "enumerate" := by rfl) (hn1 : noStar a = true := by rfl) : DI X (.Tuple elts kk tpos) (.Call (.Name "enumerate" p) [a] [] pos) (mIt pEnum ga) := by
  refine ⟨?_⟩
  intro F0 H0 ρ σ H F ds R r hf q
  obtain ⟨xs, h1, h2⟩ := Option.bind_eq_some_iff.mp hf
  unfold pEnum at h2
  split at h2
  · obtain ⟨es, h3, h4⟩ := Option.bind_eq_some_iff.mp h2
    cases h4
    refine wi_of (pi_enumB hg hm pa_wa (star_cons hn1)) (h.run F0 H0 ρ σ H F _ _ r h1 fun v H1 F1 e1 d1 => ?_)
    cases d1 with
    | cons d1 d2 =>
      cases d2
      obtain ⟨b, a, vs, rfl, hs, ha⟩ := sqB_dp d1 h3
      exact ⟨b, a, vs, rfl, hs.same e1.fh, q _ H1 F1 e1 (wk_enum hs ha)⟩
  · cases h2
theorem di_zip (hm : X.mg "zip" = none) (h : DA X [a, b] ga) (hg : Gl X "zip" := by rfl) (hn1 : noStar a = true := by rfl) (hn2 : noStar b = true := by rfl) :
    DI X (.Tuple elts kk tpos) (.Call (.Name "zip" p) [a, b] [] pos) (mIt pZip ga) := by
  refine ⟨?_⟩
  intro F0 H0 ρ σ H F ds R r hf q
  obtain ⟨zs, h1, h2⟩ := Option.bind_eq_some_iff.mp hf
  unfold pZip at h2
  split at h2
  · obtain ⟨xs, ys, h4, h5, h6⟩ := bind2 h2
    cases h6
    refine wi_of (pi_zipB hg hm pa_wa (star_cons hn1) (star_any (by simp [hn2]))) (h.run F0 H0 ρ σ H F _ _ r h1 fun v H1 F1 e1 d1 => ?_)
    cases d1 with
    | cons d1 d2 =>
      cases d2 with
      | cons d2 d3 =>
        cases d3
        obtain ⟨b1, a1, vs1, rfl, hs1, ha1⟩ := sqB_dp d1 h4
        obtain ⟨b2, a2, vs2, rfl, hs2, ha2⟩ := sqB_dp d2 h5
        exact ⟨b1, b2, a1, a2, vs1, vs2, rfl, hs1.same e1.fh, hs2.same e1.fh, q _ H1 F1 e1 (wk_zip hs1 ha1 hs2 ha2)⟩
  · cases h2
end
/-! ### targets -/
def WG (X : Cx) (tg : Expr) : TG := fun v σ H Q => ∀ pins s u, Inv X pins σ H s → RelV v u → wpAny (model X.prog X.w) X.A (assign tg X.env u) (fun _ s' => ∃ σ' H', Inv X pins σ' H' s' ∧ Q σ' H') X.xe s
theorem pg_wg {X : Cx} {tg : Expr} : PG X tg (WG X tg) := ⟨fun pins s _ _ _ u _ I r h => h pins s u I r⟩
theorem wg_of {X : Cx} {tg : Expr} {t : TG} {v : V} {σ : St} {H : Hp} {Q : St → Hp → Prop} (h : PG X tg t) (ht : t v σ H Q) : WG X tg v σ H Q := fun pins s u I r => h.run pins s σ H v u Q I r ht
def WGs (X : Cx) (ts : List Expr) : TGs := fun vs σ H Q => ∀ pins s us, Inv X pins σ H s → Vals vs us → wpAny (model X.prog X.w) X.A (assignInOrder ((assignEach ts X.env).map (·.2)) us) (fun _ s' => ∃ σ' H', Inv X pins σ' H' s' ∧ Q σ' H') X.xe s
theorem pgs_wgs {X : Cx} {ts : List Expr} : PGs X ts (WGs X ts) := ⟨fun pins s _ _ _ us _ I r h => h pins s us I r⟩
theorem wgs_of {X : Cx} {ts : List Expr} {t : TGs} {vs : List V} {σ : St} {H : Hp} {Q : St → Hp → Prop} (h : PGs X ts t) (ht : t vs σ H Q) : WGs X ts vs σ H Q := fun pins s us I r => h.run pins s σ H vs us Q I r ht
abbrev MG := PyData → Rho → Option Rho
abbrev MGs := List PyData → Rho → Option Rho
structure DG (X : Cx) (tg : Expr) (vs : List Nat) (g : MG) : Prop where
  run : ∀ F0 H0 ρ σ H F v d ρ' (Q : St → Hp → Prop), Rl X.K F0 H0 ρ σ H F → Dp X.K F v d → g d ρ = some ρ' → (∀ σ', Rl X.K F0 H0 ρ' σ' H F → (∀ ws, (∀ i ∈ vs, i ∈ ws) → wipe σ' ws = wipe σ ws) → Q σ' H) → WG X tg v σ H Q
structure DGs (X : Cx) (ts : List Expr) (vs : List Nat) (g : MGs) : Prop where
  run : ∀ F0 H0 ρ σ H F us ds ρ' (Q : St → Hp → Prop), Rl X.K F0 H0 ρ σ H F → DpAll X.K F us ds → g ds ρ = some ρ' → (∀ σ', Rl X.K F0 H0 ρ' σ' H F → (∀ ws, (∀ i ∈ vs, i ∈ ws) → wipe σ' ws = wipe σ ws) → Q σ' H) → WGs X ts us σ H Q
theorem wipe_set {σ : St} {i : Nat} {x : Option V} : ∀ {ws : List Nat}, i ∈ ws → wipe (σ.set i x) ws = wipe σ ws
  | [], h => by cases h
  | w :: ws, h => by
    show (wipe (σ.set i x) ws).set w none = (wipe σ ws).set w none
    by_cases hi : i ∈ ws
    · rw [wipe_set hi]
    · have e : i = w := by
        rcases List.mem_cons.mp h with e | e
        · exact e
        · exact absurd e hi
      subst e
      have hh : ∀ {ws : List Nat}, i ∉ ws → wipe (σ.set i x) ws = (wipe σ ws).set i x := by
        intro ws
        induction ws with
        | nil => intro _; rfl
        | cons v vs ih =>
          intro hn
          show (wipe (σ.set i x) vs).set v none = ((wipe σ vs).set v none).set i x
          rw [ih (fun z => hn (List.mem_cons_of_mem _ z)), List.set_comm _ _ (fun e => hn (by rw [e]; exact List.mem_cons_self))]
      rw [hh hi, List.set_set]
theorem wipe_get (σ : St) : ∀ (ws : List Nat) (i : Nat), (wipe σ ws)[i]? = if i ∈ ws then σ[i]?.map (fun _ => (none : Option V)) else σ[i]?
  | [], i => by simp [wipe]
  | w :: ws, i => by
    show ((wipe σ ws).set w none)[i]? = _
    by_cases h : w = i
    · subst h
      rw [if_pos (by simp)]
      by_cases hl : w < σ.length
      · rw [List.getElem?_set_self (by rw [wipe_length]; exact hl), List.getElem?_eq_getElem hl]
        rfl
      · rw [List.getElem?_eq_none (by simpa [wipe_length] using hl), List.getElem?_eq_none (by simpa using hl)]
        rfl
    · rw [List.getElem?_set_ne h, wipe_get σ ws i]
      have : (i ∈ w :: ws) = (i ∈ ws) := by
        rw [List.mem_cons]
        simp [show ¬ i = w from fun e => h e.symm]
      simp only [this]
theorem wipe_idem (σ : St) (ws : List Nat) : wipe (wipe σ ws) ws = wipe σ ws := by
  apply List.ext_getElem?
  intro i
  rw [wipe_get, wipe_get]
  split
  · cases σ[i]? <;> rfl
  · rfl
section
variable {X : Cx} {pos : Pos}
def gN (i : Nat) : MG := fun d ρ => some (ρ.set i (some (.frz d)))
theorem dg_name (i : Nat) {x : Str} (hN : X.N.Nodup) (hi : X.N[i]? = some x := by rfl) (hx : Loc X.env.scope x := by first | exact Or.inl rfl | exact Or.inr rfl) (hf : X.fn x = true ∨ X.env.scope.names.lookup x = some .local := by first | exact .inl rfl | exact .inr rfl) : DG X (.Name x pos) [i] (gN i) := by
  refine ⟨?_⟩
  intro F0 H0 ρ σ H F v d ρ' Q r h1 h2 q
  cases h2
  exact wg_of (pg_name hN hi hx hf) (q _ (r.put i h1) fun ws hw => wipe_set (hw i (by simp)))
def gs1 (g : MG) (gs : MGs) : MGs := fun ds ρ => match ds with
  | d :: r => (g d ρ).bind fun ρ1 => gs r ρ1
  | [] => none
def gs0' : MGs := fun ds ρ => match ds with
  | [] => some ρ
  | _ :: _ => none
theorem dgs_nil : DGs X [] [] gs0' := by
  refine ⟨?_⟩
  intro F0 H0 ρ σ H F us ds ρ' Q r h1 h2 q
  cases h1 with
  | nil =>
    cases h2
    exact wgs_of pgs_nil ⟨rfl, q σ r fun _ _ => rfl⟩
  | cons _ _ => cases h2
theorem dgs_cons {e : Expr} {es : List Expr} {vs ws : List Nat} {g : MG} {gs : MGs} (h1 : DG X e vs g) (h2 : DGs X es ws gs) (hs : (assignEach (e :: es) X.env).map (·.2) = assign e X.env :: (assignEach es X.env).map (·.2) := by rfl) : DGs X (e :: es) (vs ++ ws) (gs1 g gs) := by
  refine ⟨?_⟩
  intro F0 H0 ρ σ H F us ds ρ' Q r ha hf q
  cases ha with
  | nil => cases hf
  | cons d1 d2 =>
    obtain ⟨ρ1, h3, h4⟩ := Option.bind_eq_some_iff.mp hf
    refine wgs_of (pgs_cons pg_wg pgs_wgs hs) ⟨_, _, rfl, ?_⟩
    refine h1.run F0 H0 ρ σ H F _ _ ρ1 _ r d1 h3 fun σ1 r1 w1 => ?_
    refine h2.run F0 H0 ρ1 σ1 H F _ _ ρ' _ r1 d2 h4 fun σ2 r2 w2 => ?_
    exact q σ2 r2 fun zs hz => (w2 zs fun i hi => hz i (List.mem_append_right _ hi)).trans (w1 zs fun i hi => hz i (List.mem_append_left _ hi))
def gT (n : Nat) (g : MGs) : MG := fun d ρ => (items d).bind fun ds => if ds.length = n then g ds ρ else none
theorem dg_tup {es : List Expr} {k : Nat} {vs : List Nat} {g : MGs} {n : Nat} (hc : X.calm = true) (h : DGs X es vs g) (hn : (assignEach es X.env).length = n := by rfl) (hst : (assignEach es X.env).findIdx? (·.1) = none := by rfl) : DG X (.Tuple es k pos) vs (gT n g) := by
  refine ⟨?_⟩
  intro F0 H0 ρ σ H F v d ρ' Q r h1 h2 q
  obtain ⟨ds, h3, h4⟩ := Option.bind_eq_some_iff.mp h2
  split at h4
  · rename_i hl
    cases h1 <;> first | cases h3 | skip
    · rename_i hs ha
      exact wg_of (pg_unl hc pgs_wgs hn hst) ⟨_, _, rfl, r.fh.seq hs, by rw [ha.len]; exact hl, h.run F0 H0 ρ σ H F _ _ ρ' Q r ha h4 q⟩
    · rename_i hs ha
      exact wg_of (pg_tup hc pgs_wgs hn hst) ⟨_, _, rfl, hs.same r.fh, by rw [ha.len]; exact hl, h.run F0 H0 ρ σ H F _ _ ρ' Q r ha h4 q⟩
  · cases h4
end
/-! ### comprehensions -/
def WTs (X : Cx) (ifs : List Expr) : TT := fun σ H Q => ∀ pins s, Inv X pins σ H s →
    wpAny (model X.prog X.w) X.A (forIn ifs true fun c r => if r = true then do let ok ← isTrue c X.env (eval c X.env); pure (ForInStep.yield ok) else pure (ForInStep.yield r)) (TP X pins σ Q) X.xe s
theorem pts_wts {X : Cx} {ifs : List Expr} : PTs X ifs (WTs X ifs) := ⟨fun pins s _ _ _ I h => h pins s I⟩
structure DTs (X : Cx) (ifs : List Expr) (f : Mr Bool) : Prop where
  run : ∀ F0 H0 ρ σ H F b (Q : Bool → Hp → Prop), Rl X.K F0 H0 ρ σ H F → f ρ = some b → (∀ H' F', Ext F H F' H' → Q b H') → WTs X ifs σ H Q
def tYesM : Mr Bool := fun _ => some true
theorem dts_nil {X : Cx} : DTs X [] tYesM := by
  refine ⟨?_⟩
  intro F0 H0 ρ σ H F b Q r hf q pins s I
  cases hf
  exact pts_nil.run pins s σ H Q I (q H F (.refl r.fh))
theorem dts_one {X : Cx} {c : Expr} {f : Mr Bool} (h : DT X c f) : DTs X [c] f := ⟨fun F0 H0 ρ σ H F b Q r hf q pins s I =>
  (pts_one pt_wt).run pins s σ H Q I (h.run F0 H0 ρ σ H F b Q r hf q)⟩
def lcL (g : MG) (ft : Mr Bool) (fe : Mr PyData) (ρ : Rho) : List PyData → Option (List PyData)
  | [] => some []
  | d :: ds => (g d ρ).bind fun ρ1 => (ft ρ1).bind fun b => if b = true then (fe ρ1).bind fun x => (lcL g ft fe ρ ds).bind fun xs => some (x :: xs) else lcL g ft fe ρ ds
noncomputable def mLc (fi : Mr (List PyData)) (g : MG) (ft : Mr Bool) (fe : Mr PyData) (vs : List Nat) : Mr (List PyData) := fun ρ => (fi ρ).bind fun ds => @ite _ (ds.length ≤ sizeLine) (Classical.propDecidable _) (lcL g ft fe (wipeR ρ vs) ds) none
theorem lcL_len {g : MG} {ft : Mr Bool} {fe : Mr PyData} {ρ : Rho} : ∀ {ds es : List PyData}, lcL g ft fe ρ ds = some es → es.length ≤ ds.length
  | [], es, h => by cases h; exact Nat.le_refl _
  | d :: ds, es, h => by
    obtain ⟨ρ1, h1, h⟩ := Option.bind_eq_some_iff.mp h
    obtain ⟨b, h2, h⟩ := Option.bind_eq_some_iff.mp h
    split at h
    · obtain ⟨x, xs, h3, h4, h5⟩ := bind2 h
      cases h5
      have := lcL_len h4
      rw [List.length_cons, List.length_cons]
      omega
    · have := lcL_len h
      rw [List.length_cons]
      omega
/-- dicts, instances and the like: the objects of H that are none of F's own, but the list at D -/
theorem ext_new {F H F' H' : Hp} {D : Addr} {o o' : HO} (e : Ext F (upd H D o) F' H') (s : Same F H) (n : H D = none) (hF : F D = none) : F' D = none ∧ Ext F H F' (upd H' D o') ∧ H' D = some o := by
  have hd : H' D = some o := e.hh _ _ upd_same
  have hf : F' D = none := by
    cases q : F' D with
    | none => rfl
    | some u =>
      have := e.new D u q hF
      rw [upd_same] at this
      cases this
  refine ⟨hf, ⟨e.ff, fun b x q => ?_, same_updR e.fh hf, fun b x q nb => ?_⟩, hd⟩
  · have hb : b ≠ D := ne_of_none q n
    rw [upd_ne hb]
    exact e.hh b x (by rw [upd_ne hb]; exact q)
  · have := e.new b x q nb
    by_cases hb : b = D
    · rw [hb]; exact n
    · rw [upd_ne hb] at this; exact this
theorem dl_lc {X : Cx} {elt tg iter : Expr} {ifs : List Expr} {scope : Scope} {own : List (Str × Nat)} {pos : Pos} {fi : Mr (List PyData)} {vs : List Nat} {g : MG} {ft : Mr Bool} {fe : Mr PyData} (hc : X.calm = true) (hN : X.N.Nodup) (hi : DI X tg iter fi) (ok : BlkOk X.N X.env.scope scope own)
    (hg : ∀ (s : Shared) (H : Hp) (C : Addr) (cl : List (Str × Addr)) (fp : List Addr), DG (X.blk s H scope (compEnvC scope cl C X.env) fp) tg vs g) (ht : ∀ (s : Shared) (H : Hp) (C : Addr) (cl : List (Str × Addr)) (fp : List Addr), DTs (X.blk s H scope (compEnvC scope cl C X.env) fp) ifs ft)
    (he : ∀ (s : Shared) (H : Hp) (C : Addr) (cl : List (Str × Addr)) (fp : List Addr), DE (X.blk s H scope (compEnvC scope cl C X.env) fp) elt fe) (hv : ∀ i ∈ vs, i ∈ own.map (·.2)) :
    ∃ t, (∀ (hs : ∀ x, foldedSetIterable iter X.env x = pure x), PE X (.ListComp elt [⟨tg, iter, ifs, 0⟩] scope pos) t) ∧
      (∀ {i : Nat} {y : Str} {py spos : Pos} (hy : X.N[i]? = some y) (hyl : X.env.scope.names.lookup y = some .local) (hsw : swapsWith (.ListComp elt [⟨tg, iter, ifs, 0⟩] scope pos) (some (.Name y py)) spos.line X.env = pure true) (hs : ∀ x, foldedSetIterable iter X.env x = pure x),
        PS X (.Assign [.Name y py] (.ListComp elt [⟨tg, iter, ifs, 0⟩] scope pos) spos) (tAsg t (gName i))) ∧
      ∀ F0 H0 ρ σ H F ds (Q : VK), Rl X.K F0 H0 ρ σ H F → mLc fi g ft fe (own.map (·.2)) ρ = some ds → (∀ p vs H' F', Ext F H F' H' → H p = none → H' p = some (.lst vs) → F' p = none → DpAll X.K F' vs ds → Q (.ref p) H') → t σ H Q := by
  let gg : TG := fun v σ H Q => ∀ (s : Shared) (H1 : Hp) (C : Addr) (cl : List (Str × Addr)) (fp : List Addr), WG (X.blk s H1 scope (compEnvC scope cl C X.env) fp) tg v σ H Q
  let tt : TT := fun σ H Q => ∀ (s : Shared) (H1 : Hp) (C : Addr) (cl : List (Str × Addr)) (fp : List Addr), WTs (X.blk s H1 scope (compEnvC scope cl C X.env) fp) ifs σ H Q
  let te : TE := fun σ H Q => ∀ (s : Shared) (H1 : Hp) (C : Addr) (cl : List (Str × Addr)) (fp : List Addr), WE (X.blk s H1 scope (compEnvC scope cl C X.env) fp) elt σ H Q
  have pg : ∀ (s : Shared) (H : Hp) (C : Addr) (cl : List (Str × Addr)) (fp : List Addr), PG (X.blk s H scope (compEnvC scope cl C X.env) fp) tg gg := fun s H C cl fp => ⟨fun pins s1 σ H1 v u Q I r h => h s H C cl fp pins s1 u I r⟩
  have pt : ∀ (s : Shared) (H : Hp) (C : Addr) (cl : List (Str × Addr)) (fp : List Addr), PTs (X.blk s H scope (compEnvC scope cl C X.env) fp) ifs tt := fun s H C cl fp => ⟨fun pins s1 σ H1 Q I h => h s H C cl fp pins s1 I⟩
  have pe : ∀ (s : Shared) (H : Hp) (C : Addr) (cl : List (Str × Addr)) (fp : List Addr), PE (X.blk s H scope (compEnvC scope cl C X.env) fp) elt te := fun s H C cl fp => ⟨fun pins s1 σ H1 Q I h => h s H C cl fp pins s1 I⟩
  refine ⟨tLc (WI X tg iter) gg tt te (own.map (·.2)), fun hs => pe_lc hc hN pi_wi ok pg pt pe hs, fun hy hyl hsw hs => ps_setLc hc hN hy hyl hsw pi_wi ok pg pt pe hs, fun F0 H0 ρ σ H F ds Q r hf q => ?_⟩
  obtain ⟨is, h1, h2⟩ := Option.bind_eq_some_iff.mp hf
  split at h2
  · rename_i hz
    refine hi.run F0 H0 ρ σ H F is _ r h1 fun J H1 F1 e1 wk => fun D hD => ?_
    obtain ⟨G, Y, W, hG, hY⟩ := wk
    have n0 : H D = none := e1.hh.free hD
    refine lc_it W (Qd := Q (.ref D)) (fun i H2 => ∃ F2 vs2 xs ys, Ext F1 H1 F2 H2 ∧ H2 D = some (.lst vs2) ∧ F2 D = none ∧ DpAll X.K F2 vs2 xs ∧ xs.length ≤ i ∧ lcL g ft fe (wipeR ρ (own.map (·.2))) (is.drop i) = some ys ∧ xs ++ ys = ds) ⟨F1, [], [], ds, .keep e1.fh hD, upd_same, e1.fh.free hD, .nil, Nat.le_refl _, h2, rfl⟩ (fun i H2 _ p => ?_) (fun i x H2 H3 hi p y => ?_) (fun H2 p => ?_)
    · obtain ⟨F2, _, _, _, e2, _⟩ := p
      exact hG H2 (e2.ff.trans e2.fh)
    · obtain ⟨F2, vs2, xs, ys, e2, hD2, fD2, d2, hxl, hys, eds⟩ := p
      obtain ⟨F3, d, hd, e3, dx⟩ := hY i H2 x H3 F2 hi e2.ff e2.fh y
      have r3 : Rl X.K F0 H0 ρ σ H3 F3 := r.more (e1.trans (e2.trans e3))
      have rw3 := r3.wipe (own.map (·.2))
      have hdr : is.drop i = d :: is.drop (i + 1) := by
        rw [List.drop_eq_getElem_cons hi]
        rw [List.getElem?_eq_getElem hi] at hd
        cases hd
        rfl
      rw [hdr] at hys
      obtain ⟨ρ1, g1, hys⟩ := Option.bind_eq_some_iff.mp hys
      obtain ⟨b, t1, hys⟩ := Option.bind_eq_some_iff.mp hys
      have hD3 : H3 D = some (.lst vs2) := e3.hh _ _ hD2
      have fD3 : F3 D = none := by
        cases q : F3 D with
        | none => rfl
        | some u =>
          have := e3.new D u q fD2
          rw [hD2] at this
          cases this
      intro s0 H00 C cl fp
      refine (hg s0 H00 C cl fp).run F0 H0 _ _ H3 F3 x d ρ1 _ rw3 dx g1 fun σ1 r1 w1 => ⟨(w1 _ hv).trans (wipe_idem _ _), ?_⟩
      intro s0 H00 C cl fp
      refine (ht s0 H00 C cl fp).run F0 H0 _ _ H3 F3 b _ r1 t1 fun H4 F4 e4 => ?_
      have e34 := (e2.trans e3).trans e4
      have fD4 : F4 D = none := by
        cases q : F4 D with
        | none => rfl
        | some u =>
          have := e4.new D u q fD3
          rw [hD3] at this
          cases this
      cases b with
      | true =>
        rw [if_pos rfl] at hys ⊢
        obtain ⟨z, zs, h5, h6, h7⟩ := bind2 hys
        cases h7
        intro s0 H00 C cl fp
        refine (he s0 H00 C cl fp).run F0 H0 _ _ H4 F4 z _ (r1.more e4) h5 fun v H5 F5 e5 d5 => ?_
        have hD5 : H5 D = some (.lst vs2) := e5.hh _ _ (e4.hh _ _ hD3)
        have fD5 : F5 D = none := by
          cases q : F5 D with
          | none => rfl
          | some u =>
            have := e5.new D u q fD4
            rw [e4.hh _ _ hD3] at this
            cases this
        have e15 := e34.trans e5
        have l2 := d2.len
        refine ⟨vs2, hD5, by omega, F5, vs2 ++ [v], xs ++ [z], zs, ⟨e15.ff, fun c x q => ?_, same_updR e15.fh fD5, e15.new⟩, upd_same, fD5, (d2.same (e3.ff.trans (e4.ff.trans e5.ff))).app (.cons d5 .nil), ?_, h6, by rw [List.append_assoc]; exact eds⟩
        · rw [upd_ne (ne_of_none q hD)]
          exact e15.hh c x q
        · rw [List.length_append]
          show xs.length + 1 ≤ i + 1
          omega
      | false =>
        rw [if_neg Bool.false_ne_true] at hys ⊢
        exact ⟨F4, vs2, xs, ys, e34, e4.hh _ _ hD3, fD4, d2.same (e3.ff.trans e4.ff), Nat.le_succ_of_le hxl, hys, eds⟩
    · obtain ⟨F2, vs2, xs, ys, e2, hD2, fD2, d2, hxl, hys, eds⟩ := p
      rw [List.drop_length] at hys
      cases hys
      rw [List.append_nil] at eds
      subst eds
      exact q D vs2 H2 F2 (e1.trans e2) n0 hD2 fD2 d2
  · cases h2
end Dw

set_option Elab.async false
set_option linter.all false
set_option maxRecDepth 100000
namespace Dw
open PySem PySem.Spec L2
/-! ### calls of what is built in -/
def Cl (X : Cx) (f : Value) (g : List PyData → Option PyData) : Prop :=
  ∃ r : List V → Hp → VK → Prop, CallR X f r ∧ ∀ F H vs ds z (Q : VK), Same F H → DpAll X.K F vs ds → g ds = some z → (∀ v H' F', Ext F H F' H' → Dp X.K F' v z → Q v H') → r vs H Q
/-- .. that give a new list -/
def ClL (X : Cx) (f : Value) (g : List PyData → Option (List PyData)) : Prop :=
  ∃ r : List V → Hp → VK → Prop, CallR X f r ∧ ∀ F H vs ds zs (Q : VK), Same F H → DpAll X.K F vs ds → g ds = some zs → (∀ p ws H' F', Ext F H F' H' → H p = none → H' p = some (.lst ws) → F' p = none → DpAll X.K F' ws zs → Q (.ref p) H') → r vs H Q
def mCall {α : Type} (g : List PyData → Option α) (f : Mr (List PyData)) : Mr α := fun ρ => (f ρ).bind g
section
variable {X : Cx} {e : Expr} {es : List Expr} {ge : Mr (List PyData)} {x : Str} {id T : String} {p pos : Pos} {g : List PyData → Option PyData} {gl : List PyData → Option (List PyData)}
theorem de_callB (hc : Cl X (.builtin id) g) (hm : X.mg x = none) (hv : bootBuiltins x = some (.builtin id)) (ha : DA X (e :: es) ge) (hg : Gl X x := by rfl) (hn : x ≠ "__name__" := by decide) (hdb : (x == ("__debug__" : Str)) = false := by decide)
    (hn1 : noStar e = true := by rfl) (hn2 : es.all noStar = true := by rfl) : DE X (.Call (.Name x p) (e :: es) [] pos) (mCall g ge) := by
  refine ⟨?_⟩
  intro F0 H0 ρ σ H F d Q r hf q
  obtain ⟨ds, h1, h2⟩ := Option.bind_eq_some_iff.mp hf
  obtain ⟨rr, hr, hv2⟩ := hc
  refine we_of (pe_callB hr hg hm hv pa_wa hn hdb (star_cons hn1) (star_any hn2)) (ha.run F0 H0 ρ σ H F ds _ r h1 fun vs H1 F1 e1 d1 => ?_)
  exact hv2 F1 H1 vs ds d Q e1.fh d1 h2 fun v H2 F2 e2 d2 => q v H2 F2 (e1.trans e2) d2
theorem de_callT (hc : Cl X (.type T) g) (hm : X.mg x = none) (hv : bootBuiltins x = some (.type T)) (ha : DA X (e :: es) ge) (hg : Gl X x := by rfl) (hn : x ≠ "__name__" := by decide) (hdb : (x == ("__debug__" : Str)) = false := by decide)
    (hn1 : noStar e = true := by rfl) (hn2 : es.all noStar = true := by rfl) : DE X (.Call (.Name x p) (e :: es) [] pos) (mCall g ge) := by
  refine ⟨?_⟩
  intro F0 H0 ρ σ H F d Q r hf q
  obtain ⟨ds, h1, h2⟩ := Option.bind_eq_some_iff.mp hf
  obtain ⟨rr, hr, hv2⟩ := hc
  refine we_of (pe_callTy hr hg hm hv pa_wa hn hdb (star_cons hn1) (star_any hn2)) (ha.run F0 H0 ρ σ H F ds _ r h1 fun vs H1 F1 e1 d1 => ?_)
  exact hv2 F1 H1 vs ds d Q e1.fh d1 h2 fun v H2 F2 e2 d2 => q v H2 F2 (e1.trans e2) d2
theorem dl_callT (hc : ClL X (.type T) gl) (hm : X.mg x = none) (hv : bootBuiltins x = some (.type T)) (ha : DA X (e :: es) ge) (hg : Gl X x := by rfl) (hn : x ≠ "__name__" := by decide) (hdb : (x == ("__debug__" : Str)) = false := by decide)
    (hn1 : noStar e = true := by rfl) (hn2 : es.all noStar = true := by rfl) : DL X (.Call (.Name x p) (e :: es) [] pos) (mCall gl ge) := by
  refine ⟨?_⟩
  intro F0 H0 ρ σ H F d Q r hf q
  obtain ⟨ds, h1, h2⟩ := Option.bind_eq_some_iff.mp hf
  obtain ⟨rr, hr, hv2⟩ := hc
  refine we_of (pe_callTy hr hg hm hv pa_wa hn hdb (star_cons hn1) (star_any hn2)) (ha.run F0 H0 ρ σ H F ds _ r h1 fun vs H1 F1 e1 d1 => ?_)
  exact hv2 F1 H1 vs ds d Q e1.fh d1 h2 fun p ws H2 F2 e2 n2 hp hf ha => q p ws H2 F2 (e1.trans e2) (e1.hh.free n2) hp hf ha
noncomputable def pLen : List PyData → Option PyData
  | [.tuple xs] => some (.int xs.length)
  | [.list xs] => some (.int xs.length)
  | [.str z] => @ite _ (z.length ≤ sizeLine) (Classical.propDecidable _) (some (.int z.length)) none
  | _ => none
theorem cl_len : Cl X (.builtin "len") pLen := by
  refine ⟨_, call_len, fun F H vs ds z Q fh d1 h q => ?_⟩
  unfold pLen at h
  split at h
  · cases h
    cases d1 with
    | cons d1 d2 =>
      cases d2
      cases d1 with
      | tup hs ha => exact ⟨_, _, rfl, .inr ⟨_, hs.same fh, rfl⟩, by rw [ha.len]; exact q _ H F (.refl fh) (.int _)⟩
  · cases h
    cases d1 with
    | cons d1 d2 =>
      cases d2
      cases d1 with
      | lst hs ha => exact ⟨_, _, rfl, .inl ⟨_, fh.seq hs, rfl⟩, by rw [ha.len]; exact q _ H F (.refl fh) (.int _)⟩
  · split at h
    · cases h
      cases d1 with
      | cons d1 d2 =>
        cases d2
        cases d1
        exact ⟨_, _, rfl, ⟨by assumption, rfl⟩, q _ H F (.refl fh) (.int _)⟩
    · cases h
  · cases h
def pAbs : List PyData → Option PyData
  | [.int i] => some (.int (if i < 0 then -i else i))
  | _ => none
theorem cl_abs : Cl X (.builtin "abs") pAbs := by
  refine ⟨_, call_abs, fun F H vs ds z Q fh d1 h q => ?_⟩
  unfold pAbs at h
  split at h
  · cases h
    cases d1 with
    | cons d1 d2 =>
      cases d2
      cases d1
      exact ⟨_, rfl, q _ H F (.refl fh) (.int _)⟩
  · cases h
def pMax2 : List PyData → Option PyData
  | [.int i, .int j] => some (.int (if j > i then j else i))
  | _ => none
theorem cl_max2 (hc : X.calm = true) : Cl X (.builtin "max") pMax2 := by
  refine ⟨_, call_max2 hc, fun F H vs ds z Q fh d1 h q => ?_⟩
  unfold pMax2 at h
  split at h
  · cases h
    cases d1 with
    | cons d1 d2 =>
      cases d2 with
      | cons d2 d3 =>
        cases d3
        cases d1
        cases d2
        exact ⟨_, _, rfl, q _ H F (.refl fh) (.int _)⟩
  · cases h
noncomputable def pInt : List PyData → Option PyData
  | [.int i] => some (.int i)
  | [.bool b] => some (.int (if b then 1 else 0))
  | [.str z] => @ite _ (z.length ≤ 640) (Classical.propDecidable _) ((PySem.intText? z).bind fun n => some (.int n)) none
  | _ => none
theorem cl_int : Cl X (.type "int") pInt := by
  refine ⟨_, call_int1.or call_int_str, fun F H vs ds z Q fh d1 h q => ?_⟩
  unfold pInt at h
  split at h
  · cases h
    cases d1 with
    | cons d1 d2 =>
      cases d2
      cases d1
      exact .inl (.inl ⟨_, rfl, q _ H F (.refl fh) (.int _)⟩)
  · cases h
    cases d1 with
    | cons d1 d2 =>
      cases d2
      cases d1
      exact .inl (.inr ⟨_, rfl, q _ H F (.refl fh) (.int _)⟩)
  · split at h
    · obtain ⟨n, h1, h2⟩ := Option.bind_eq_some_iff.mp h
      cases h2
      cases d1 with
      | cons d1 d2 =>
        cases d2
        cases d1
        exact .inr ⟨_, n, rfl, h1, by assumption, q _ H F (.refl fh) (.int _)⟩
    · cases h
  · cases h
noncomputable def pStr : List PyData → Option PyData
  | [.int i] => @ite _ (i.natAbs.log2 < 1920) (Classical.propDecidable _) (some (.str (toString i))) none
  | _ => none
theorem cl_str : Cl X (.type "str") pStr := by
  refine ⟨_, call_str_int, fun F H vs ds z Q fh d1 h q => ?_⟩
  unfold pStr at h
  split at h
  · split at h
    · cases h
      cases d1 with
      | cons d1 d2 =>
        cases d2
        cases d1
        exact ⟨_, rfl, by assumption, q _ H F (.refl fh) (.str _)⟩
    · cases h
  · cases h
def pTuple : List PyData → Option PyData
  | [.tuple xs] => some (.tuple xs)
  | [.list xs] => some (.tuple xs)
  | _ => none
theorem cl_tuple : Cl X (.type "tuple") pTuple := by
  refine ⟨_, call_tuple_of, fun F H vs ds z Q fh d1 h q => ?_⟩
  unfold pTuple at h
  split at h
  · cases h
    cases d1 with
    | cons d1 d2 =>
      cases d2
      cases d1 with
      | tup hs ha => exact ⟨_, _, rfl, .inr ⟨hs.same fh, q _ H F (.refl fh) (.tup hs ha)⟩⟩
  · cases h
    cases d1 with
    | cons d1 d2 =>
      cases d2
      cases d1 with
      | lst hs ha => exact ⟨_, _, rfl, .inl ⟨fh.seq hs, fun l hl => q _ _ _ (.alloc fh hl) (.tup (.inl (.inl upd_same)) (ha.same (same_upd (fh.free hl))))⟩⟩
  · cases h
def pList : List PyData → Option (List PyData)
  | [.tuple xs] => some xs
  | [.list xs] => some xs
  | _ => none
theorem cl_list : ClL X (.type "list") pList := by
  refine ⟨_, call_list_of, fun F H vs ds zs Q fh d1 h q => ?_⟩
  unfold pList at h
  split at h
  · cases h
    cases d1 with
    | cons d1 d2 =>
      cases d2
      cases d1 with
      | tup hs ha => exact ⟨_, _, rfl, .inr (hs.same fh), fun l hl => q l _ _ F (.keep fh hl) hl upd_same (fh.free hl) ha⟩
  · cases h
    cases d1 with
    | cons d1 d2 =>
      cases d2
      cases d1 with
      | lst hs ha => exact ⟨_, _, rfl, .inl (fh.seq hs), fun l hl => q l _ _ F (.keep fh hl) hl upd_same (fh.free hl) ha⟩
  · cases h
end
/-! ### isinstance -/
def tyD : PyData → String
  | .none => "NoneType"
  | .bool _ => "bool"
  | .int _ => "int"
  | .str _ => "str"
  | .list _ => "list"
  | .tuple _ => "tuple"
  | .dict _ => "dict"
theorem tyX_dp {K : PySem.W.Frag} {F : Hp} {v : V} {d : PyData} (h : Dp K F v d) : TyX K F v (.type (tyD d)) := by
  cases h with
  | non => exact .base .non
  | bl b => exact .base (.bl b)
  | int i => exact .base (.int i)
  | str x => exact .base (.str x)
  | lst hs ha =>
    rcases hs with (h | ⟨o, h⟩) | ⟨o, its, n, h1, h2, _⟩
    · exact .base (.lst h)
    · exact .base (.frz h)
    · exact .kList h1 h2
  | tup hs ha =>
    rcases hs with (h | ⟨o, h⟩) | ⟨o, its, n, h1, h2, _⟩
    · exact .base (.tup h)
    · exact .fTuple h
    · exact .kTuple h1 h2
def isTy (T : String) : PyData → Bool
  | .bool _ => T == "bool" || T == "int"
  | d => T == tyD d
def IsiOk (T : String) : Prop := ∀ d : PyData, (∀ kvs, d ≠ .dict kvs) → kitB (tyD d) T = some (isTy T d)
theorem isi_of {T : String} (h0 : kitB "NoneType" T = some (T == "NoneType")) (h1 : kitB "bool" T = some (T == "bool" || T == "int")) (h2 : kitB "int" T = some (T == "int")) (h3 : kitB "str" T = some (T == "str")) (h4 : kitB "list" T = some (T == "list")) (h5 : kitB "tuple" T = some (T == "tuple")) : IsiOk T := fun d hd => by
  cases d with
  | none => exact h0
  | bool b => exact h1
  | int i => exact h2
  | str x => exact h3
  | list xs => exact h4
  | tuple xs => exact h5
  | dict kvs => exact absurd rfl (hd kvs)
theorem isi_tuple : IsiOk "tuple" := isi_of (by decide +kernel) (by decide +kernel) (by decide +kernel) (by decide +kernel) (by decide +kernel) (by decide +kernel)
theorem isi_int : IsiOk "int" := isi_of (by decide +kernel) (by decide +kernel) (by decide +kernel) (by decide +kernel) (by decide +kernel) (by decide +kernel)
theorem isi_bool : IsiOk "bool" := isi_of (by decide +kernel) (by decide +kernel) (by decide +kernel) (by decide +kernel) (by decide +kernel) (by decide +kernel)
theorem isi_str : IsiOk "str" := isi_of (by decide +kernel) (by decide +kernel) (by decide +kernel) (by decide +kernel) (by decide +kernel) (by decide +kernel)
theorem boot_isi : bootBuiltins "isinstance" = some (.builtin "isinstance") := by decide +kernel
def mIsi (T : String) (f : Mr PyData) : Mr PyData := fun ρ => (f ρ).bind fun d => some (.bool (isTy T d))
theorem dp_nodict {K : PySem.W.Frag} {F : Hp} {v : V} {d : PyData} (h : Dp K F v d) : ∀ kvs, d ≠ .dict kvs := fun kvs e => by subst e; cases h
theorem TyX.same {K : PySem.W.Frag} {F H : Hp} {v : V} {d : PyData} (h : Dp K F v d) (s : Same F H) : TyX K H v (.type (tyD d)) := tyX_dp (h.same s)
theorem de_isi {X : Cx} {a : Expr} {fa : Mr PyData} {x T : Str} {t : String} {p p2 pos : Pos} (ok : IsiOk t) (hb : bootBuiltins T = some (.type t)) (hm : X.mg "isinstance" = none) (hm2 : X.mg T = none) (ha : DE X a fa) (hg : Gl X "isinstance" := by rfl) (hg2 : Gl X T := by rfl)
    (hn : T ≠ "__name__" := by decide) (hd : (T == ("__debug__" : Str)) = false := by decide)
    (hn1 : noStar a = true := by rfl) :
    DE X (.Call (.Name "isinstance" p) [a, .Name T p2] [] pos) (mIsi t fa) := by
  refine ⟨?_⟩
  intro F0 H0 ρ σ H F d Q r hf q
  obtain ⟨x, h1, h2⟩ := Option.bind_eq_some_iff.mp hf
  cases h2
  refine we_of (pe_callB call_isi hg hm boot_isi (pa_cons pe_we (pa_cons (pe_bltn (v := .ty t) hg2 hm2 hb rfl hn hd) pa_nil (star_cons rfl)) (star_cons hn1)) (he := star_cons hn1) (hpl := star_any rfl)) ?_
  refine ha.run F0 H0 ρ σ H F x _ r h1 fun v H1 F1 e1 d1 => ?_
  exact ⟨v, .ty t, .type (tyD x), .type t, isTy t x, rfl, .ty t, TyX.same d1 e1.fh, kit_ty (ok x (dp_nodict d1)), q _ H1 F1 e1 (.bl _)⟩
/-! ### calls of defs -/
def spD (K : PySem.W.Frag) (n : Nat) (m : List PyData → Option PyData) : Sp := fun vs H Q _ => ∃ F ds d, Same F H ∧ DpAll K F vs ds ∧ ds.length = n ∧ m ds = some d ∧ ∀ v H' F', Ext F H F' H' → Dp K F' v d → Q v H'
/-- what is known of a def of the text: it keeps the promise «it gives m» -/
structure FnD (P : Program) (w : World) (K : PySem.W.Frag) (mg : Str → Option Value) (base : Heap) (k : Nat) (x : Str) (n : Nat) (m : List PyData → Option PyData) : Prop where
  ex : ∃ (f : Addr) (fd : FuncData) (ps : List Str), ps.length = n ∧ FnOk P w K mg base CX0 k f fd ps (spD K n m) ∧ mg x = some (.ref f) ∧ PySem.W.keepIn K (.ref f) = true ∧ Binds K fd ps []
theorem FnD.mono {P : Program} {w : World} {K : PySem.W.Frag} {mg : Str → Option Value} {base : Heap} {k j : Nat} {x : Str} {n : Nat} {m : List PyData → Option PyData} (F : FnD P w K mg base k x n m) (h : k ≤ j) : FnD P w K mg base j x n m := by
  obtain ⟨f, fd, ps, h1, h2, h3⟩ := F.ex
  exact ⟨f, fd, ps, h1, h2.mono h, h3⟩
theorem FnD.imp {P : Program} {w : World} {K : PySem.W.Frag} {mg : Str → Option Value} {base : Heap} {k : Nat} {x : Str} {n : Nat} {m m' : List PyData → Option PyData} (F : FnD P w K mg base k x n m) (h : ∀ ds d, m' ds = some d → m ds = some d) : FnD P w K mg base k x n m' := by
  obtain ⟨f, fd, ps, h1, h2, h3⟩ := F.ex
  refine ⟨f, fd, ps, h1, h2.imp (fun vs H Q E hs => ?_), h3⟩
  obtain ⟨F, ds, d, a1, a2, a3, a4, a5⟩ := hs
  exact ⟨F, ds, d, a1, a2, a3, h ds d a4, a5⟩
section
variable {X : Cx} {e : Expr} {es : List Expr} {ge : Mr (List PyData)} {x : Str} {p pos : Pos} {k n : Nat} {m : List PyData → Option PyData}
theorem de_call (F : FnD X.prog X.w X.K X.mg X.base k x n m) (hr : Room k X.A) (ha : DA X (e :: es) ge) (hl : ∀ ρ ds, ge ρ = some ds → ds.length = n) (hg : Gl X x := by rfl) (hdb : (x == ("__debug__" : Str)) = false := by decide) (hn1 : noStar e = true := by rfl) (hn2 : es.all noStar = true := by rfl) :
    DE X (.Call (.Name x p) (e :: es) [] pos) (mCall m ge) := by
  refine ⟨?_⟩
  intro F0 H0 ρ σ H F1 d Q r hf q
  obtain ⟨ds, h1, h2⟩ := Option.bind_eq_some_iff.mp hf
  obtain ⟨f, fd, ps, g1, g2, g3, g4, g5⟩ := F.ex
  refine we_of (pe_call g2 hr hg g3 g4 g5 .nil pass0 pa_wa hdb (star_cons hn1) (star_any hn2)) (ha.run F0 H0 ρ σ H F1 ds _ r h1 fun vs H1 F2 e1 d1 => ?_)
  rw [List.append_nil]
  exact ⟨F2, ds, d, e1.fh, d1, hl ρ ds h1, h2, fun v H' F' e2 d2 => q v H' F' (e1.trans e2) d2⟩
end
end Dw

set_option Elab.async false
set_option linter.all false
set_option maxRecDepth 100000
namespace Dw
open PySem PySem.Spec L2
/-! ### what a statement does -/
inductive Out where
  | nx (ρ : Rho)
  | rt (d : PyData)
  | bk (ρ : Rho)
  | ct (ρ : Rho)
abbrev MS := Rho → Option Out
def EndsOk (K : PySem.W.Frag) (F0 H0 F : Hp) (o : Out) (D : Ends) : Prop := match o with
  | .nx ρ => ∀ σ H F', Rl K F0 H0 ρ σ H F' → Same F F' → D.nx σ H
  | .bk ρ => ∀ σ H F', Rl K F0 H0 ρ σ H F' → Same F F' → D.bk σ H
  | .ct ρ => ∀ σ H F', Rl K F0 H0 ρ σ H F' → Same F F' → D.ct σ H
  | .rt d => ∀ v H F', Ext F0 H0 F' H → Dp K F' v d → D.rt v H
theorem EndsOk.mono {K : PySem.W.Frag} {F0 H0 F F1 : Hp} {o : Out} {D : Ends} (h : EndsOk K F0 H0 F o D) (s : Same F F1) : EndsOk K F0 H0 F1 o D := by
  cases o with
  | nx ρ => exact fun σ H F' r t => h σ H F' r (s.trans t)
  | bk ρ => exact fun σ H F' r t => h σ H F' r (s.trans t)
  | ct ρ => exact fun σ H F' r t => h σ H F' r (s.trans t)
  | rt d => exact h
def WS (X : Cx) (st : Stmt) : TS := fun D σ H => ∀ pins s, Inv X pins σ H s → wpAny (model X.prog X.w) X.A (exec st X.env) (SP X pins D) X.xe s
theorem ps_ws {X : Cx} {st : Stmt} : PS X st (WS X st) := ⟨fun pins s _ _ _ I h => h pins s I⟩
theorem ws_of {X : Cx} {st : Stmt} {t : TS} {D : Ends} {σ : St} {H : Hp} (h : PS X st t) (ht : t D σ H) : WS X st D σ H := fun pins s I => h.run pins s σ H D I ht
def WSs (X : Cx) (st : List Stmt) : TS := fun D σ H => ∀ pins s, Inv X pins σ H s → wpAny (model X.prog X.w) X.A (execs st X.env) (SP X pins D) X.xe s
theorem pss_wss {X : Cx} {st : List Stmt} : PSs X st (WSs X st) := ⟨fun pins s _ _ _ I h => h pins s I⟩
theorem wss_of {X : Cx} {st : List Stmt} {t : TS} {D : Ends} {σ : St} {H : Hp} (h : PSs X st t) (ht : t D σ H) : WSs X st D σ H := fun pins s I => h.run pins s σ H D I ht
structure DS (X : Cx) (st : Stmt) (f : MS) : Prop where
  run : ∀ F0 H0 ρ σ H F o (D : Ends), Rl X.K F0 H0 ρ σ H F → f ρ = some o → EndsOk X.K F0 H0 F o D → WS X st D σ H
structure DSs (X : Cx) (st : List Stmt) (f : MS) : Prop where
  run : ∀ F0 H0 ρ σ H F o (D : Ends), Rl X.K F0 H0 ρ σ H F → f ρ = some o → EndsOk X.K F0 H0 F o D → WSs X st D σ H
def sNil : MS := fun ρ => some (.nx ρ)
def sSeq (f g : MS) : MS := fun ρ => (f ρ).bind fun o => match o with
  | .nx ρ' => g ρ'
  | .rt d => some (.rt d)
  | .bk ρ' => some (.bk ρ')
  | .ct ρ' => some (.ct ρ')
section
variable {X : Cx} {st : Stmt} {rest : List Stmt} {f g : MS} {e : Expr} {fe : Mr PyData} {pos : Pos}
theorem dss_nil : DSs X [] sNil := by
  refine ⟨?_⟩
  intro F0 H0 ρ σ H F o D r hf q
  cases hf
  exact wss_of pss_nil (q σ H F r (.refl _))
theorem dss_one (h : DS X st f) : DSs X [st] f := ⟨fun F0 H0 ρ σ H F o D r hf q => wss_of (pss_one ps_ws) (h.run F0 H0 ρ σ H F o D r hf q)⟩
theorem dss_cons (h1 : DS X st f) (h2 : DSs X rest g) : DSs X (st :: rest) (sSeq f g) := by
  refine ⟨?_⟩
  intro F0 H0 ρ σ H F o D r hf q
  obtain ⟨o1, f1, f2⟩ := Option.bind_eq_some_iff.mp hf
  refine wss_of (pss_cons ps_ws pss_wss) (h1.run F0 H0 ρ σ H F o1 _ r f1 ?_)
  cases o1 with
  | nx ρ1 => exact fun σ1 H1 F1 r1 s1 => h2.run F0 H0 ρ1 σ1 H1 F1 o D r1 f2 (q.mono s1)
  | rt d => cases f2; exact q
  | bk ρ1 => cases f2; exact q
  | ct ρ1 => cases f2; exact q
theorem ds_pass : DS X (.Pass pos) sNil := by
  refine ⟨?_⟩
  intro F0 H0 ρ σ H F o D r hf q
  cases hf
  exact ws_of ps_pass (q σ H F r (.refl _))
def sBreak : MS := fun ρ => some (.bk ρ)
theorem ds_break : DS X (.Break pos) sBreak := by
  refine ⟨?_⟩
  intro F0 H0 ρ σ H F o D r hf q
  cases hf
  exact ws_of ps_break (q σ H F r (.refl _))
/-- a statement that is never come to -/
def sNever : MS := fun _ => none
theorem ds_never : DS X st sNever := ⟨fun F0 H0 ρ σ H F o D r hf q => by cases hf⟩
/-- all lists of one's own are left as they are -/
def sRet (fe : Mr PyData) : MS := fun ρ => (fe (frzTo ρ ρ.length)).bind fun d => some (.rt d)
theorem ds_ret (h : DE X e fe) : DS X (.Return (some e) pos) (sRet fe) := by
  refine ⟨?_⟩
  intro F0 H0 ρ σ H F o D r hf q
  obtain ⟨d, h1, h2⟩ := Option.bind_eq_some_iff.mp hf
  cases h2
  obtain ⟨F1, s1, r1⟩ := r.frzTo ρ.length
  exact ws_of (ps_ret pe_we) (h.run F0 H0 _ σ H F1 d _ r1 h1 fun v H' F' e1 d1 => q v H' F' (r1.ext.trans e1) d1)
def sRetN : MS := fun _ => some (.rt .none)
theorem ds_retN : DS X (.Return none pos) sRetN := by
  refine ⟨?_⟩
  intro F0 H0 ρ σ H F o D r hf q
  cases hf
  exact ws_of ps_retN (q _ H F r.ext .non)
/-- a list of one's own is not changed from here on -/
def frz1 (i : Nat) (ρ : Rho) : Rho := match ρ[i]? with
  | some (some (.own ds)) => ρ.set i (some (.frz (.list ds)))
  | _ => ρ
def sFrz (i : Nat) (f : MS) : MS := fun ρ => f (frz1 i ρ)
theorem rl_frz1 {K : PySem.W.Frag} {F0 H0 F H : Hp} {ρ : Rho} {σ : St} (r : Rl K F0 H0 ρ σ H F) (i : Nat) : ∃ F', Same F F' ∧ Rl K F0 H0 (frz1 i ρ) σ H F' := by
  unfold frz1
  split
  · rename_i ds hi
    exact r.freeze hi
  · exact ⟨F, .refl _, r⟩
theorem ds_frz (i : Nat) (h : DS X st f) : DS X st (sFrz i f) := by
  refine ⟨?_⟩
  intro F0 H0 ρ σ H F o D r hf q
  obtain ⟨F1, s1, r1⟩ := rl_frz1 r i
  exact h.run F0 H0 _ σ H F1 o D r1 hf (q.mono s1)
def sIf (c : Mr Bool) (f g : MS) : MS := fun ρ => (c ρ).bind fun b => if b = true then f ρ else g ρ
theorem ds_if {c : Expr} {a b : List Stmt} {fc : Mr Bool} (hc : DT X c fc) (ha : DSs X a f) (hb : DSs X b g) : DS X (.If c a b pos) (sIf fc f g) := by
  refine ⟨?_⟩
  intro F0 H0 ρ σ H F o D r hf q
  obtain ⟨k, h1, h2⟩ := Option.bind_eq_some_iff.mp hf
  refine ws_of (ps_if pt_wt pss_wss pss_wss) (hc.run F0 H0 ρ σ H F k _ r h1 fun H1 F1 e1 => ?_)
  cases k with
  | true =>
    rw [if_pos rfl] at h2 ⊢
    exact ha.run F0 H0 ρ σ H1 F1 o D (r.more e1) h2 (q.mono e1.ff)
  | false =>
    rw [if_neg Bool.false_ne_true] at h2 ⊢
    exact hb.run F0 H0 ρ σ H1 F1 o D (r.more e1) h2 (q.mono e1.ff)
/-! ### stores -/
def noComp : Expr → Bool
  | .ListComp _ _ _ _ => false
  | .SetComp _ _ _ _ => false
  | .DictComp _ _ _ _ _ => false
  | _ => true
theorem swaps_no {e : Expr} {t : Option Expr} {l : Nat} {env : Env} (h : noComp e = true) : swapsWith e t l env = pure false := by
  cases e <;> first | rfl | cases h
def sSet (i : Nat) (fe : Mr PyData) : MS := fun ρ => (fe ρ).bind fun d => some (.nx (ρ.set i (some (.frz d))))
theorem ds_set (i : Nat) {x : Str} {pos' : Pos} (hN : X.N.Nodup) (he : DE X e fe) (hi : X.N[i]? = some x := by rfl) (hx : Loc X.env.scope x := by first | exact Or.inl rfl | exact Or.inr rfl) (hn : noComp e = true := by rfl)
    (hf : X.fn x = true ∨ X.env.scope.names.lookup x = some .local := by first | exact .inl rfl | exact .inr rfl) : DS X (.Assign [.Name x pos'] e pos) (sSet i fe) := by
  refine ⟨?_⟩
  intro F0 H0 ρ σ H F o D r hf' q
  obtain ⟨d, h1, h2⟩ := Option.bind_eq_some_iff.mp hf'
  cases h2
  exact ws_of (ps_set hN hi hx pe_we (swaps_no hn) hf) (he.run F0 H0 ρ σ H F d _ r h1 fun v H1 F1 e1 d1 => q _ H1 F1 ((r.more e1).put i d1) e1.ff)
def sSetL (i : Nat) (fl : Mr (List PyData)) : MS := fun ρ => (fl ρ).bind fun ds => some (.nx (ρ.set i (some (.own ds))))
theorem ds_setL (i : Nat) {x : Str} {pos' : Pos} {fl : Mr (List PyData)} (hN : X.N.Nodup) (he : DL X e fl) (hi : X.N[i]? = some x := by rfl) (hx : Loc X.env.scope x := by first | exact Or.inl rfl | exact Or.inr rfl) (hn : noComp e = true := by rfl)
    (hf : X.fn x = true ∨ X.env.scope.names.lookup x = some .local := by first | exact .inl rfl | exact .inr rfl) : DS X (.Assign [.Name x pos'] e pos) (sSetL i fl) := by
  refine ⟨?_⟩
  intro F0 H0 ρ σ H F o D r hf' q
  obtain ⟨d, h1, h2⟩ := Option.bind_eq_some_iff.mp hf'
  cases h2
  exact ws_of (ps_set hN hi hx pe_we (swaps_no hn) hf) (he.run F0 H0 ρ σ H F d _ r h1 fun p vs H1 F1 e1 n hp hf2 ha => q _ H1 F1 (r.putOwn i e1 n hp hf2 ha) e1.ff)
/-- to a target of any form -/
def sAsg (fe : Mr PyData) (g : MG) : MS := fun ρ => (fe ρ).bind fun d => (g d ρ).bind fun ρ' => some (.nx ρ')
theorem ds_asg {tg : Expr} {vs : List Nat} {g : MG} (he : DE X e fe) (hg : DG X tg vs g) (hs : swapsWithSole [tg] e pos.line X.env = pure false := by rfl) (hw : swappedStores [tg] e X.env = pure none := by rfl)
    (h1 : (assignEach [tg] X.env).map (·.2) = [assign tg X.env] := by rfl) : DS X (.Assign [tg] e pos) (sAsg fe g) := by
  refine ⟨?_⟩
  intro F0 H0 ρ σ H F o D r hf q
  obtain ⟨d, f1, f2⟩ := Option.bind_eq_some_iff.mp hf
  obtain ⟨ρ', f3, f4⟩ := Option.bind_eq_some_iff.mp f2
  cases f4
  refine ws_of (ps_asg pe_we pg_wg hs hw h1) (he.run F0 H0 ρ σ H F d _ r f1 fun v H1 F1 e1 d1 => ?_)
  exact hg.run F0 H0 ρ σ H1 F1 v d ρ' _ (r.more e1) d1 f3 fun σ' r' _ => q σ' H1 F1 r' e1.ff
/-- a, b = x, y -/
def sPar (i j : Nat) (f : Mr (List PyData)) : MS := fun ρ => (f ρ).bind fun ds => match ds with
  | [x, y] => some (.nx ((ρ.set i (some (.frz x))).set j (some (.frz y))))
  | _ => none
theorem ds_par (i j : Nat) {x y : Str} {a b : Expr} {fa : Mr (List PyData)} {px py pt : Pos} {kt k2 pt2} (hN : X.N.Nodup) (ha : DA X [a, b] fa) (hi : X.N[i]? = some x := by rfl) (hj : X.N[j]? = some y := by rfl) (hij : i ≠ j := by decide)
    (hx : X.env.scope.names.lookup x = some .local := by rfl) (hy : X.env.scope.names.lookup y = some .local := by rfl) (hc : X.calm = true := by rfl)
    (hw : swappedStores [.Tuple [.Name x px, .Name y py] kt pt] (.Tuple [a, b] k2 pt2) X.env = pure (some [x, y]) := by rfl)
    (hs : swapsWithSole [.Tuple [.Name x px, .Name y py] kt pt] (.Tuple [a, b] k2 pt2) pos.line X.env = pure false := by rfl) :
    DS X (.Assign [.Tuple [.Name x px, .Name y py] kt pt] (.Tuple [a, b] k2 pt2) pos) (sPar i j fa) := by
  refine ⟨?_⟩
  intro F0 H0 ρ σ H F o D r hf q
  obtain ⟨ds, f1, f2⟩ := Option.bind_eq_some_iff.mp hf
  split at f2
  · cases f2
    refine ws_of (ps_par hc hN hi hj hij hx hy pa_wa hw hs) (ha.run F0 H0 ρ σ H F _ _ r f1 fun vs H1 F1 e1 d1 => ?_)
    cases d1 with
    | cons d1 d2 =>
      cases d2 with
      | cons d2 d3 =>
        cases d3
        exact ⟨_, _, rfl, q _ H1 F1 (((r.more e1).put i d1).put j d2) e1.ff⟩
  · cases f2
def sDrop (fe : Mr PyData) : MS := fun ρ => (fe ρ).bind fun _ => some (.nx ρ)
theorem ds_expr (he : DE X e fe) (hn : noComp e = true := by rfl) : DS X (.Expr e pos) (sDrop fe) := by
  refine ⟨?_⟩
  intro F0 H0 ρ σ H F o D r hf q
  obtain ⟨d, f1, f2⟩ := Option.bind_eq_some_iff.mp hf
  cases f2
  exact ws_of (ps_expr pe_we (swaps_no hn)) (he.run F0 H0 ρ σ H F d _ r f1 fun v H1 F1 e1 d1 => q σ H1 F1 (r.more e1) e1.ff)
/-! ### lists of one's own, changed -/
def getO (i : Nat) : Mr (List PyData) := fun ρ => match ρ[i]? with
  | some (some (.own ds)) => some ds
  | _ => none
theorem getO_some {i : Nat} {ρ : Rho} {ds : List PyData} (h : getO i ρ = some ds) : ρ[i]? = some (some (.own ds)) := by
  unfold getO at h
  split at h
  · cases h; assumption
  · cases h
noncomputable def sApp (i : Nat) (fe : Mr PyData) : MS := fun ρ => (getO i ρ).bind fun ds => (fe ρ).bind fun d => @ite _ (ds.length < sizeLine) (Classical.propDecidable _) (some (.nx (ρ.set i (some (.own (ds ++ [d])))))) none
theorem ds_app (i : Nat) {x : Str} {p apos cpos : Pos} (he : DE X e fe) (hN : X.N[i]? = some x := by rfl) (hv : Vis X.env.scope x := by first | exact Or.inl rfl | exact Or.inr (Or.inl rfl) | exact Or.inr (Or.inr rfl)) (hd : (x == ("__debug__" : Str)) = false := by decide) (hcd : (x == ("__classdict__" : Str)) = false := by decide)
    (hn1 : noStar e = true := by rfl)
    (hbase : attributeBase (.Name x p) "append" X.env (eval (.Name x p) X.env) = eval (.Name x p) X.env := by rfl)
    (hline : (apos.endLine == cpos.line) = true := by rfl)
    (hs : swapsWith (.Call (.Attribute (.Name x p) "append" apos) [e] [] cpos) none pos.line X.env = pure false := by rfl) : DS X (.Expr (.Call (.Attribute (.Name x p) "append" apos) [e] [] cpos) pos) (sApp i fe) := by
  refine ⟨?_⟩
  intro F0 H0 ρ σ H F o D r hf q
  obtain ⟨ds, d, f1, f2, f3⟩ := bind2 hf
  split at f3
  · rename_i hz
    cases f3
    have ho := getO_some f1
    obtain ⟨a, vs, g1, g2, g3, g4, g5⟩ := r.own i ds ho
    refine ws_of (ps_expr (pe_bm PySem.F.plainAttrs_list PySem.F.slot_list_append PySem.F.type_list_append mt_append (pe_var hN hv hd hcd) (pa_cons pe_we pa_nil (star_cons hn1)) hbase (by rw [star_cons hn1]; rfl) hline (star_cons hn1) (star_any rfl)) hs) ?_
    refine ⟨.ref a, g1, .inl ⟨rfl, _, SqL.of g2⟩, he.run F0 H0 ρ σ H F d _ r f2 fun v H1 F1 e1 d1 => ?_⟩
    refine ⟨a, vs, v, rfl, rfl, e1.hh _ _ g2, by rw [g5.len]; exact hz, ?_⟩
    exact q σ _ F1 ((r.more e1).write ho g1 ((g5.same e1.ff).app (.cons d1 .nil))) e1.ff
  · cases f3
noncomputable def sExt (i : Nat) (fl : Mr (List PyData)) : MS := fun ρ => (getO i ρ).bind fun ds => (fl ρ).bind fun es => @ite _ (ds.length + es.length ≤ sizeLine) (Classical.propDecidable _) (some (.nx (ρ.set i (some (.own (ds ++ es)))))) none
theorem ds_ext (i : Nat) {fl : Mr (List PyData)} {x : Str} {p apos cpos : Pos} (he : DL X e fl) (hN : X.N[i]? = some x := by rfl) (hv : Vis X.env.scope x := by first | exact Or.inl rfl | exact Or.inr (Or.inl rfl) | exact Or.inr (Or.inr rfl)) (hd : (x == ("__debug__" : Str)) = false := by decide) (hcd : (x == ("__classdict__" : Str)) = false := by decide)
    (hn1 : noStar e = true := by rfl)
    (hbase : attributeBase (.Name x p) "extend" X.env (eval (.Name x p) X.env) = eval (.Name x p) X.env := by rfl)
    (hline : (apos.endLine == cpos.line) = true := by rfl)
    (hs : swapsWith (.Call (.Attribute (.Name x p) "extend" apos) [e] [] cpos) none pos.line X.env = pure false := by rfl) : DS X (.Expr (.Call (.Attribute (.Name x p) "extend" apos) [e] [] cpos) pos) (sExt i fl) := by
  refine ⟨?_⟩
  intro F0 H0 ρ σ H F o D r hf q
  obtain ⟨ds, es, f1, f2, f3⟩ := bind2 hf
  split at f3
  · rename_i hz
    cases f3
    have ho := getO_some f1
    obtain ⟨a, vs, g1, g2, g3, g4, g5⟩ := r.own i ds ho
    refine ws_of (ps_expr (pe_bm PySem.F.plainAttrs_list PySem.F.slot_list_extend PySem.F.type_list_extend mt_extend (pe_var hN hv hd hcd) (pa_cons pe_we pa_nil (star_cons hn1)) hbase (by rw [star_cons hn1]; rfl) hline (star_cons hn1) (star_any rfl)) hs) ?_
    refine ⟨.ref a, g1, .inl ⟨rfl, _, SqL.of g2⟩, he.run F0 H0 ρ σ H F es _ r f2 fun b ws H1 F1 e1 n hp hf2 d1 => ?_⟩
    refine ⟨a, b, vs, ws, rfl, rfl, e1.hh _ _ g2, hp, by rw [g5.len, d1.len]; exact hz, ?_⟩
    exact q σ _ F1 ((r.more e1).write ho g1 ((g5.same e1.ff).app d1)) e1.ff
  · cases f3
def sPop (i : Nat) : MS := fun ρ => (getO i ρ).bind fun ds => match ds.getLast? with
  | some _ => some (.nx (ρ.set i (some (.own ds.dropLast))))
  | none => none
theorem DpAll.dropL {K : PySem.W.Frag} {F : Hp} {vs : List V} {ds : List PyData} (h : DpAll K F vs ds) : DpAll K F vs.dropLast ds.dropLast := by
  rw [List.dropLast_eq_take, List.dropLast_eq_take, h.len]
  exact h.take _
theorem ds_pop (i : Nat) {x : Str} {p apos cpos : Pos} (hN : X.N[i]? = some x := by rfl) (hv : Vis X.env.scope x := by first | exact Or.inl rfl | exact Or.inr (Or.inl rfl) | exact Or.inr (Or.inr rfl)) (hd : (x == ("__debug__" : Str)) = false := by decide) (hcd : (x == ("__classdict__" : Str)) = false := by decide)
    (hbase : attributeBase (.Name x p) "pop" X.env (eval (.Name x p) X.env) = eval (.Name x p) X.env := by rfl) (hline : (apos.endLine == cpos.line) = true := by rfl)
    (hs : swapsWith (.Call (.Attribute (.Name x p) "pop" apos) [] [] cpos) none pos.line X.env = pure false := by rfl) : DS X (.Expr (.Call (.Attribute (.Name x p) "pop" apos) [] [] cpos) pos) (sPop i) := by
  refine ⟨?_⟩
  intro F0 H0 ρ σ H F o D r hf q
  obtain ⟨ds, f1, f3⟩ := Option.bind_eq_some_iff.mp hf
  split at f3
  · rename_i z hz
    cases f3
    have ho := getO_some f1
    obtain ⟨a, vs, g1, g2, g3, g4, g5⟩ := r.own i ds ho
    have hlast : ds[ds.length - 1]? = some z := by rw [← List.getLast?_eq_getElem?]; exact hz
    obtain ⟨y, y1, y2⟩ := g5.get hlast
    refine ws_of (ps_expr (pe_bm0 PySem.F.plainAttrs_list PySem.F.slot_list_pop PySem.F.type_list_pop mt_pop (pe_var hN hv hd hcd) hbase hline) hs) ?_
    refine ⟨.ref a, g1, .inl ⟨rfl, _, SqL.of g2⟩, a, vs, y, rfl, rfl, g2, by rw [g5.len]; exact y1, ?_⟩
    exact q σ _ F (r.write ho g1 (DpAll.dropL g5)) (.refl _)
  · cases f3
/-- xs[i] = e -/
def sPut (i : Nat) (fj : Mr PyData) (fe : Mr PyData) : MS := fun ρ => (fe ρ).bind fun d => (getO i ρ).bind fun ds => (fj ρ).bind fun j => (asI j).bind fun j => (ixN ds.length j).bind fun k => some (.nx (ρ.set i (some (.own (ds.set k d)))))
theorem ds_put (i : Nat) {x : Str} {j : Expr} {fj : Mr PyData} {p tpos : Pos} (he : DE X e fe) (hj : DE X j fj) (hN : X.N[i]? = some x := by rfl) (hv : Vis X.env.scope x := by first | exact Or.inl rfl | exact Or.inr (Or.inl rfl) | exact Or.inr (Or.inr rfl)) (hd : (x == ("__debug__" : Str)) = false := by decide) (hcd : (x == ("__classdict__" : Str)) = false := by decide)
    (hs : swapsWithSole [.Subscript (.Name x p) j tpos] e pos.line X.env = pure false := by rfl) (hw : swappedStores [.Subscript (.Name x p) j tpos] e X.env = pure none := by rfl)
    (h1 : (assignEach [.Subscript (.Name x p) j tpos] X.env).map (·.2) = [assign (.Subscript (.Name x p) j tpos) X.env] := by rfl)
    (ha : ∀ v, assign (.Subscript (.Name x p) j tpos) X.env v = (do
      let ov ← holding [v] (eval (.Name x p) X.env)
      let iv ← holding [v, ov] (eval j X.env)
      standAt tpos
      holding [v, ov, iv] (setItem ov iv v)
      release [v, ov, iv] []) := by intro _; rfl) : DS X (.Assign [.Subscript (.Name x p) j tpos] e pos) (sPut i fj fe) := by
  refine ⟨?_⟩
  intro F0 H0 ρ σ H F o D r hf q
  obtain ⟨d, f1, hf1⟩ := Option.bind_eq_some_iff.mp hf
  obtain ⟨ds, f2, hf2⟩ := Option.bind_eq_some_iff.mp hf1
  obtain ⟨j', f3, hf3⟩ := Option.bind_eq_some_iff.mp hf2
  obtain ⟨z, f4, hf4⟩ := Option.bind_eq_some_iff.mp hf3
  obtain ⟨k, f5, hf5⟩ := Option.bind_eq_some_iff.mp hf4
  clear hf hf1 hf2 hf3 hf4
  have f4 := asI_some f4
  subst f4
  cases hf5
  have ho := getO_some f2
  refine ws_of (ps_asg pe_we (pg_sub (pe_var hN hv hd hcd) pe_we set_list ha) hs hw h1) (he.run F0 H0 ρ σ H F d _ r f1 fun v H1 F1 e1 d1 => ?_)
  have r1 := r.more e1
  obtain ⟨a, vs, g1, g2, g3, g4, g5⟩ := r1.own i ds ho
  refine ⟨.ref a, g1, hj.run F0 H0 ρ σ H1 F1 _ _ r1 f3 fun u H2 F2 e2 d2 => ?_⟩
  cases d2
  refine ⟨a, vs, z, k, rfl, rfl, e2.hh _ _ g2, by rw [g5.len]; exact f5, ?_⟩
  exact q σ _ F2 ((r1.more e2).write ho g1 ((g5.same e2.ff).set (d1.same e2.ff) k)) (e1.ff.trans e2.ff)
/-! reading a list of one's own -/
def mOwn (i : Nat) (g : List PyData → Option PyData) : Mr PyData := fun ρ => (getO i ρ).bind g
theorem de_tupO (i : Nat) {x : Str} {p p2 : Pos} (hm : X.mg "tuple" = none) (hN : X.N[i]? = some x := by rfl) (hv : Vis X.env.scope x := by first | exact Or.inl rfl | exact Or.inr (Or.inl rfl) | exact Or.inr (Or.inr rfl)) (hd : (x == ("__debug__" : Str)) = false := by decide) (hcd : (x == ("__classdict__" : Str)) = false := by decide)
    (hg : Gl X "tuple" := by rfl) (he : starEach [.Name x p2] X.env = (false, eval (.Name x p2) X.env) :: starEach [] X.env := by rfl) (hpl : (backTo pos (starEach [] X.env)).any (·.1) = false := by rfl) : DE X (.Call (.Name "tuple" p) [.Name x p2] [] pos) (mOwn i fun ds => some (.tuple ds)) := by
  refine ⟨?_⟩
  intro F0 H0 ρ σ H F d Q r hf q
  obtain ⟨ds, f1, f2⟩ := Option.bind_eq_some_iff.mp hf
  cases f2
  obtain ⟨a, vs, g1, g2, g3, g4, g5⟩ := r.own i ds (getO_some f1)
  refine we_of (pe_callTy call_tuple_of hg hm (by decide +kernel) (pa_cons (pe_var hN hv hd hcd) pa_nil he) (he := he) (hpl := hpl)) ⟨_, g1, a, vs, rfl, .inl ⟨SqL.of g2, fun l hl => ?_⟩⟩
  exact q _ _ _ (.alloc r.fh hl) (.tup (.inl (.inl upd_same)) (g5.same (same_upd (r.fh.free hl))))
def mIxO (i : Nat) (fj : Mr PyData) : Mr PyData := fun ρ => (getO i ρ).bind fun ds => (fj ρ).bind fun k => (asI k).bind fun k => atI ds k
theorem de_ixO (i : Nat) {x : Str} {j : Expr} {fj : Mr PyData} {p : Pos} (hj : DE X j fj) (hN : X.N[i]? = some x := by rfl) (hv : Vis X.env.scope x := by first | exact Or.inl rfl | exact Or.inr (Or.inl rfl) | exact Or.inr (Or.inr rfl)) (hd : (x == ("__debug__" : Str)) = false := by decide) (hcd : (x == ("__classdict__" : Str)) = false := by decide)
    (hn : noSlice j = true := by rfl) : DE X (.Subscript (.Name x p) j pos) (mIxO i fj) := by
  refine ⟨?_⟩
  intro F0 H0 ρ σ H F d Q r hf q
  obtain ⟨ds, k, f1, f2, f3⟩ := bind2 hf
  obtain ⟨z, f4, f5⟩ := Option.bind_eq_some_iff.mp f3
  have f4 := asI_some f4
  subst f4
  obtain ⟨a, vs, g1, g2, g3, g4, g5⟩ := r.own i ds (getO_some f1)
  refine we_of (pe_ix ix_list (pe_var hN hv hd hcd) pe_we (plain_ix hn)) ⟨_, g1, hj.run F0 H0 ρ σ H F _ _ r f2 fun u H1 F1 e1 d1 => ?_⟩
  cases d1
  obtain ⟨v, v1, v2⟩ := atI_dp g5 f5
  exact ⟨a, vs, z, v, rfl, rfl, SqL.of (e1.hh _ _ g2), v1, q v H1 F1 e1 (v2.same e1.ff)⟩
/-- a flat result, a test: a list of one's own is looked at alone -/
def flatD : PyData → Bool
  | .none | .bool _ | .int _ | .str _ => true
  | _ => false
theorem flat_any {K : PySem.W.Frag} {F F' : Hp} {v : V} {d : PyData} (h : Dp K F v d) (hf : flatD d = true) : Dp K F' v d := by
  cases h <;> first | exact .non | exact .bl _ | exact .int _ | exact .str _ | cases hf
/-- what F' has beside what was looked at -/
def less (F' F F1 : Hp) : Hp := fun a => if (F a).isNone && (F1 a).isSome then none else F' a
theorem frz1_back {K : PySem.W.Frag} {F0 H0 F H F1 F' H' : Hp} {ρ : Rho} {σ : St} {i : Nat} (r : Rl K F0 H0 ρ σ H F) (s : Same F F1) (e : Ext F1 H F' H') : Ext F H (less F' F F1) H' := by
  refine ⟨fun a o h => ?_, e.hh, fun a o h => ?_, fun a o h n => ?_⟩
  · unfold less
    rw [h]
    exact e.ff a o (s a o h)
  · unfold less at h
    split at h
    · cases h
    · exact e.fh a o h
  · unfold less at h
    cases q : F1 a with
    | none =>
      rw [n, q] at h
      exact e.new a o h q
    | some u =>
      rw [n, q] at h
      cases h
def mTmp (i : Nat) (f : Mr PyData) : Mr PyData := fun ρ => (f (frz1 i ρ)).bind fun d => if flatD d = true then some d else none
theorem de_tmp (i : Nat) (h : DE X e fe) : DE X e (mTmp i fe) := by
  refine ⟨?_⟩
  intro F0 H0 ρ σ H F d Q r hf q
  obtain ⟨d', f1, f2⟩ := Option.bind_eq_some_iff.mp hf
  split at f2
  · rename_i hfl
    cases f2
    obtain ⟨F1, s1, r1⟩ := rl_frz1 r i
    refine h.run F0 H0 _ σ H F1 _ Q r1 f1 fun v H' F' e1 d1 => ?_
    exact q v H' _ (frz1_back (i := i) r s1 e1) (flat_any d1 hfl)
  · cases f2
def tTmp (i : Nat) (f : Mr Bool) : Mr Bool := fun ρ => f (frz1 i ρ)
theorem dt_tmp (i : Nat) {ft : Mr Bool} (h : DT X e ft) : DT X e (tTmp i ft) := by
  refine ⟨?_⟩
  intro F0 H0 ρ σ H F b Q r hf q
  obtain ⟨F1, s1, r1⟩ := rl_frz1 r i
  exact h.run F0 H0 _ σ H F1 b Q r1 hf fun H' F' e1 => q H' _ (frz1_back (i := i) r s1 e1)
/-! ### loops -/
def forL (g : MG) (body : MS) : List PyData → Rho → Option Out
  | [], ρ => some (.nx ρ)
  | d :: ds, ρ => (g d ρ).bind fun ρ1 => (body ρ1).bind fun o => match o with
    | .nx ρ2 => forL g body ds ρ2
    | .ct ρ2 => forL g body ds ρ2
    | .bk ρ2 => some (.nx ρ2)
    | .rt d => some (.rt d)
def sFor (fi : Mr (List PyData)) (g : MG) (body : MS) : MS := fun ρ => (fi ρ).bind fun ds => forL g body ds ρ
theorem ds_for {tg iter : Expr} {body : List Stmt} {fi : Mr (List PyData)} {vs : List Nat} {g : MG} {fb : MS} (hp : PassesOwn (model X.prog X.w) X.A X.env X.xe) (hi : DI X tg iter fi) (hg : DG X tg vs g) (hb : DSs X body fb) (hc : X.calm = true := by rfl)
    (hs : ∀ x, foldedSetIterable iter X.env x = pure x := by intro _; rfl) : DS X (.For tg iter body [] pos) (sFor fi g fb) := by
  refine ⟨?_⟩
  intro F0 H0 ρ σ H F o D r hf q
  obtain ⟨ds, f1, f2⟩ := Option.bind_eq_some_iff.mp hf
  refine ws_of (ps_for hp hc pi_wi pg_wg pss_wss hs) (hi.run F0 H0 ρ σ H F ds _ r f1 fun J H1 F1 e1 wk => ?_)
  obtain ⟨G, Y, W, hG, hY⟩ := wk
  have nstuck : ∀ {ds : List PyData} {ρ : Rho} {o : Out}, forL g fb ds ρ = some o → (∃ ρ', o = .nx ρ') ∨ ∃ d, o = .rt d := by
    intro ds
    induction ds with
    | nil => intro ρ o h; cases h; exact .inl ⟨_, rfl⟩
    | cons d ds ih =>
      intro ρ o h
      obtain ⟨ρ1, h1, h⟩ := Option.bind_eq_some_iff.mp h
      obtain ⟨o1, h2, h⟩ := Option.bind_eq_some_iff.mp h
      cases o1 with
      | nx ρ2 => exact ih h
      | ct ρ2 => exact ih h
      | bk ρ2 => cases h; exact .inl ⟨_, rfl⟩
      | rt d => cases h; exact .inr ⟨_, rfl⟩
  refine for_it W (fun i σ2 H2 => (∃ ρ2 F2, Rl X.K F0 H0 ρ2 σ2 H2 F2 ∧ Same F1 F2 ∧ forL g fb (ds.drop i) ρ2 = some o)) ⟨ρ, F1, r.more e1, .refl _, f2⟩ (fun i σ2 H2 _ p => ?_) (fun i x σ2 H2 H3 hi p y => ?_) (fun σ2 H2 p => ?_)
  · obtain ⟨ρ2, F2, r2, s2, _⟩ := p
    exact hG H2 (s2.trans r2.fh)
  · obtain ⟨ρ2, F2, r2, s2, hl⟩ := p
    obtain ⟨F3, d, hd, e3, dx⟩ := hY i H2 x H3 F2 hi s2 r2.fh y
    have hdr : ds.drop i = d :: ds.drop (i + 1) := by
      rw [List.drop_eq_getElem_cons hi]
      rw [List.getElem?_eq_getElem hi] at hd
      cases hd
      rfl
    rw [hdr] at hl
    obtain ⟨ρ3, g1, hl⟩ := Option.bind_eq_some_iff.mp hl
    obtain ⟨o1, b1, hl⟩ := Option.bind_eq_some_iff.mp hl
    have s13 : Same F1 F3 := s2.trans e3.ff
    refine hg.run F0 H0 ρ2 σ2 H3 F3 x d ρ3 _ (r2.more e3) dx g1 fun σ3 r3 _ => ?_
    refine hb.run F0 H0 ρ3 σ3 H3 F3 o1 _ r3 b1 ?_
    cases o1 with
    | nx ρ4 => exact fun σ4 H4 F4 r4 s4 => ⟨ρ4, F4, r4, s13.trans s4, hl⟩
    | ct ρ4 => exact fun σ4 H4 F4 r4 s4 => ⟨ρ4, F4, r4, s13.trans s4, hl⟩
    | bk ρ4 =>
      cases hl
      exact fun σ4 H4 F4 r4 s4 => q σ4 H4 F4 r4 (e1.ff.trans (s13.trans s4))
    | rt d =>
      cases hl
      exact q
  · obtain ⟨ρ2, F2, r2, s2, hl⟩ := p
    rw [List.drop_length] at hl
    cases hl
    exact q σ2 H2 F2 r2 (e1.ff.trans s2)
def whL (ft : Mr Bool) (body : MS) : Nat → Rho → Option Out
  | 0, _ => none
  | n + 1, ρ => (ft ρ).bind fun b => if b = true then (body ρ).bind fun o => match o with
    | .nx ρ2 => whL ft body n ρ2
    | .ct ρ2 => whL ft body n ρ2
    | .bk ρ2 => some (.nx ρ2)
    | .rt d => some (.rt d) else some (.nx ρ)
theorem whL_mono {ft : Mr Bool} {body : MS} : ∀ {n m : Nat} {ρ : Rho} {o : Out}, whL ft body n ρ = some o → n ≤ m → whL ft body m ρ = some o
  | 0, _, _, _, h, _ => by cases h
  | n + 1, 0, _, _, _, h => absurd h (Nat.not_succ_le_zero n)
  | n + 1, m + 1, ρ, o, h, hm => by
    unfold whL at h ⊢
    obtain ⟨b, h1, h⟩ := Option.bind_eq_some_iff.mp h
    rw [h1]
    show (if b = true then _ else _) = some o
    split at h
    · rename_i hb
      rw [if_pos hb]
      obtain ⟨o1, h2, h⟩ := Option.bind_eq_some_iff.mp h
      rw [h2]
      cases o1 with
      | nx ρ2 => exact whL_mono h (Nat.le_of_succ_le_succ hm)
      | ct ρ2 => exact whL_mono h (Nat.le_of_succ_le_succ hm)
      | bk ρ2 => exact h
      | rt d => exact h
    · rename_i hb
      rw [if_neg hb]
      exact h
open Classical in
noncomputable def sWhile (ft : Mr Bool) (body : MS) : MS := fun ρ => if h : ∃ o, ∃ n, whL ft body n ρ = some o then some h.choose else none
theorem sWhile_of {ft : Mr Bool} {body : MS} {n : Nat} {ρ : Rho} {o : Out} (h : whL ft body n ρ = some o) : sWhile ft body ρ = some o := by
  have hx : ∃ o, ∃ n, whL ft body n ρ = some o := ⟨o, n, h⟩
  unfold sWhile
  rw [dif_pos hx]
  obtain ⟨m, hm⟩ := hx.choose_spec
  have h1 := whL_mono hm (Nat.le_max_left m n)
  have h2 := whL_mono h (Nat.le_max_right m n)
  rw [h1] at h2
  exact h2
theorem sWhile_some {ft : Mr Bool} {body : MS} {ρ : Rho} {o : Out} (h : sWhile ft body ρ = some o) : ∃ n, whL ft body n ρ = some o := by
  unfold sWhile at h
  split at h
  · rename_i hx
    cases h
    exact hx.choose_spec
  · cases h
theorem ds_while {c : Expr} {body : List Stmt} {fc : Mr Bool} {fb : MS} (hp : PassesOwn (model X.prog X.w) X.A X.env X.xe) (hc : DT X c fc) (hb : DSs X body fb) : DS X (.While c body [] pos) (sWhile fc fb) := by
  refine ⟨?_⟩
  intro F0 H0 ρ σ H F o D r hf q
  obtain ⟨n, hn⟩ := sWhile_some hf
  refine ws_of (ps_while hp pt_wt pss_wss) ⟨fun m σ2 H2 => ∃ ρ2 F2, Rl X.K F0 H0 ρ2 σ2 H2 F2 ∧ Same F F2 ∧ whL fc fb m ρ2 = some o, ⟨n, ρ, F, r, .refl _, hn⟩, fun m σ2 H2 hW => ?_⟩
  obtain ⟨ρ2, F2, r2, s2, hl⟩ := hW
  cases m with
  | zero => cases hl
  | succ m =>
    unfold whL at hl
    obtain ⟨b, h1, hl⟩ := Option.bind_eq_some_iff.mp hl
    refine hc.run F0 H0 ρ2 σ2 H2 F2 b _ r2 h1 fun H3 F3 e3 => ?_
    cases b with
    | true =>
      rw [if_pos rfl] at hl ⊢
      obtain ⟨o1, h2, hl⟩ := Option.bind_eq_some_iff.mp hl
      refine ⟨fun σ' H' => ∃ ρ2 F2, Rl X.K F0 H0 ρ2 σ' H' F2 ∧ Same F F2 ∧ whL fc fb m ρ2 = some o, fun σ' H' hN => ⟨m, Nat.lt_succ_self m, hN⟩, ?_⟩
      refine hb.run F0 H0 ρ2 σ2 H3 F3 o1 _ (r2.more e3) h2 ?_
      cases o1 with
      | nx ρ4 => exact fun σ4 H4 F4 r4 s4 => ⟨ρ4, F4, r4, s2.trans (e3.ff.trans s4), hl⟩
      | ct ρ4 => exact fun σ4 H4 F4 r4 s4 => ⟨ρ4, F4, r4, s2.trans (e3.ff.trans s4), hl⟩
      | bk ρ4 =>
        cases hl
        exact fun σ4 H4 F4 r4 s4 => q σ4 H4 F4 r4 (s2.trans (e3.ff.trans s4))
      | rt d =>
        cases hl
        exact q
    | false =>
      rw [if_neg Bool.false_ne_true] at hl ⊢
      cases hl
      exact q σ2 H3 F3 (r2.more e3) (s2.trans e3.ff)
end
/-! ### comprehensions, put in place -/
section
variable {X : Cx} {elt tg iter : Expr} {ifs : List Expr} {scope : Scope} {own : List (Str × Nat)} {pos : Pos} {fi : Mr (List PyData)} {vs : List Nat} {g : MG} {ft : Mr Bool} {fe : Mr PyData}
theorem dl_comp (own : List (Str × Nat)) (hN : X.N.Nodup) (hi : DI X tg iter fi)
    (hg : ∀ (s : Shared) (H : Hp) (C : Addr) (cl : List (Str × Addr)) (fp : List Addr), DG (X.blk s H scope (compEnvC scope cl C X.env) fp) tg vs g) (ht : ∀ (s : Shared) (H : Hp) (C : Addr) (cl : List (Str × Addr)) (fp : List Addr), DTs (X.blk s H scope (compEnvC scope cl C X.env) fp) ifs ft)
    (he : ∀ (s : Shared) (H : Hp) (C : Addr) (cl : List (Str × Addr)) (fp : List Addr), DE (X.blk s H scope (compEnvC scope cl C X.env) fp) elt fe) (ok : BlkOk X.N X.env.scope scope own) (hc : X.calm = true := by rfl) (hv : ∀ i ∈ vs, i ∈ own.map (·.2) := by decide) (hs : ∀ x, foldedSetIterable iter X.env x = pure x := by intro _; rfl) :
    DL X (.ListComp elt [⟨tg, iter, ifs, 0⟩] scope pos) (mLc fi g ft fe (own.map (·.2))) := by
  obtain ⟨t, h1, _, h3⟩ := dl_lc (pos := pos) hc hN hi ok hg ht he hv
  refine ⟨?_⟩
  intro F0 H0 ρ σ H F ds Q r hf q
  exact we_of (h1 hs) (h3 F0 H0 ρ σ H F ds Q r hf q)
/-- y = [..]; b: y's list may be changed later -/
def sSetC (b : Bool) (i : Nat) (fl : Mr (List PyData)) : MS := fun ρ => (fl ρ).bind fun ds => some (.nx (ρ.set i (some (match b with
  | true => .own ds
  | false => .frz (.list ds)))))
theorem ds_setC (b : Bool) (i : Nat) {y : Str} {py spos : Pos} (own : List (Str × Nat)) (hN : X.N.Nodup) (hi : DI X tg iter fi)
    (hg : ∀ (s : Shared) (H : Hp) (C : Addr) (cl : List (Str × Addr)) (fp : List Addr), DG (X.blk s H scope (compEnvC scope cl C X.env) fp) tg vs g) (ht : ∀ (s : Shared) (H : Hp) (C : Addr) (cl : List (Str × Addr)) (fp : List Addr), DTs (X.blk s H scope (compEnvC scope cl C X.env) fp) ifs ft)
    (he : ∀ (s : Shared) (H : Hp) (C : Addr) (cl : List (Str × Addr)) (fp : List Addr), DE (X.blk s H scope (compEnvC scope cl C X.env) fp) elt fe) (ok : BlkOk X.N X.env.scope scope own)
    (hsw : swapsWith (.ListComp elt [⟨tg, iter, ifs, 0⟩] scope pos) (some (.Name y py)) spos.line X.env = pure true) (hy : X.N[i]? = some y := by rfl) (hyl : X.env.scope.names.lookup y = some .local := by rfl) (hc : X.calm = true := by rfl) (hv : ∀ i ∈ vs, i ∈ own.map (·.2) := by decide) (hs : ∀ x, foldedSetIterable iter X.env x = pure x := by intro _; rfl) :
    DS X (.Assign [.Name y py] (.ListComp elt [⟨tg, iter, ifs, 0⟩] scope pos) spos) (sSetC b i (mLc fi g ft fe (own.map (·.2)))) := by
  obtain ⟨t, _, h2, h3⟩ := dl_lc (pos := pos) hc hN hi ok hg ht he hv
  refine ⟨?_⟩
  intro F0 H0 ρ σ H F o D r hf q
  obtain ⟨ds, f1, f2⟩ := Option.bind_eq_some_iff.mp hf
  cases f2
  refine ws_of (h2 hy hyl hsw hs) (h3 F0 H0 ρ σ H F ds _ r f1 fun p ws H1 F1 e1 n hp hf2 ha => ?_)
  cases b with
  | true => exact q _ H1 F1 (r.putOwn i e1 n hp hf2 ha) e1.ff
  | false =>
    have e2 := e1.lift n hp hf2
    exact q _ H1 _ ((r.more e2).put i (.lst (.inl (.inl upd_same)) (ha.same (same_upd hf2)))) e2.ff
end
/-! ### a def -/
def startR (N : List Str) (ds : List PyData) : Rho := ds.map (fun d => some (.frz d)) ++ List.replicate (N.length - ds.length) none
def runD (N : List Str) (fb : MS) : List PyData → Option PyData := fun ds => (fb (startR N ds)).bind fun o => match o with
  | .rt d => some d
  | .nx _ => some .none
  | _ => none
theorem rl_start {K : PySem.W.Frag} {F H : Hp} {N : List Str} {vs : List V} {ds : List PyData} (fh : Same F H) (ha : DpAll K F vs ds) : Rl K F H (startR N ds) (start N vs) H F := by
  have hl := ha.len
  have look : ∀ {i : Nat} {x : Slt}, (startR N ds)[i]? = some (some x) → ∃ d, ds[i]? = some d ∧ x = .frz d := fun {i x} e => by
    unfold startR at e
    by_cases hi : i < ds.length
    · rw [List.getElem?_append_left (by simpa using hi), List.getElem?_map, List.getElem?_eq_getElem hi] at e
      cases e
      exact ⟨ds[i], List.getElem?_eq_getElem hi, rfl⟩
    · rw [List.getElem?_append_right (by simpa using hi), List.getElem?_replicate] at e
      split at e <;> cases e
  refine ⟨.refl fh, ?_, fun i d e => ?_, fun i es e => ?_, fun i j a es gs e _ _ _ => ?_, fun i v e => ?_⟩
  · simp [startR, L2.start, hl]
  · obtain ⟨d', h1, h2⟩ := look e
    cases h2
    obtain ⟨v, h3, h4⟩ := ha.get h1
    refine ⟨v, ?_, h4⟩
    unfold L2.start
    have hi : i < vs.length := (List.getElem?_eq_some_iff.mp h3).1
    rw [List.getElem?_append_left (by simpa using hi), List.getElem?_map, h3]
    rfl
  · obtain ⟨d', h1, h2⟩ := look e
    cases h2
  · obtain ⟨d', h1, h2⟩ := look e
    cases h2
  · obtain ⟨d', h1, h2⟩ := look e
    cases h2
theorem fn_ok {P : Program} {w : World} {K : PySem.W.Frag} {mg : Str → Option Value} {base : Heap} {x qual : Str} {params : Arguments} {body : List Stmt} {scope : Scope} {kws : List (Str × V)} {f : Addr} {fd : FuncData} {N ps : List Str} {k n : Nat} {fb : MS}
    (F : FunD K x qual params body scope [] kws f fd) (S : FnScope N ps scope) (hn : ps.length = n)
    (hbody : ∀ (cdv : Value) (A : Around) (outer : List Env) (s : Shared) (H : Hp) (E : XK), Room k (A.deeper (PyProof.Rows.envOfC qual scope s.heap.objs.size f cdv)) → DSs (cxOf CX0 P w K mg base N qual scope f cdv A outer s H E).nox body fb) :
    FnOk P w K mg base CX0 (k + 1) f fd ps (spD K n (runD N fb)) := by
  refine F.ok S (fun vs H Q E h => ?_) (fun cdv A outer s H vs Q E hr h => ?_)
  · obtain ⟨F, ds, d, _, h1, h2, _⟩ := h
    rw [h1.len, h2, hn]
  · obtain ⟨F1, ds, d, fh, h1, h2, h3, q⟩ := h
    obtain ⟨o, f1, f2⟩ := Option.bind_eq_some_iff.mp h3
    refine ⟨_, PSs.nox pss_wss, (hbody cdv A outer s H E hr).run F1 H _ _ H F1 o _ (rl_start fh h1) f1 ?_⟩
    cases o with
    | nx ρ =>
      cases f2
      exact fun σ' H' F' r _ => q _ H' F' r.ext .non
    | rt d' =>
      cases f2
      exact fun v H' F' e d1 => q v H' F' e d1
    | bk ρ => cases f2
    | ct ρ => cases f2
end Dw

set_option Elab.async false
set_option linter.all false
set_option maxRecDepth 100000
namespace Dw
open PySem PySem.Spec L2
theorem u66 {k : Nat} {A : Around} (r : Room k A) : A.units + 66 < cLine := by have := r.un; omega
/-! ### the head: what the top has left -/
mutual
def datB (K : PySem.W.Frag) : Value → PyData → Bool
  | .none, .none => true
  | .bool a, .bool b => a == b
  | .int i _, .int j => decide (i = j)
  | .str x _, .str y => decide (x = y)
  | .ref a, .tuple ds => (match K.lookup a with
    | some ⟨.type c, _, .seq its _, _⟩ => decide (c = "tuple") && (decide (its.size ≤ sizeLine) && datsB K its.toList ds)
    | _ => false)
  | _, _ => false
def datsB (K : PySem.W.Frag) : List Value → List PyData → Bool
  | [], [] => true
  | u :: us, d :: ds => datB K u d && datsB K us ds
  | _, _ => false
end
mutual
theorem datB_ok {K : PySem.W.Frag} : ∀ {d : PyData} {u : Value}, datB K u d = true → ∃ v, RelV v u ∧ ∀ F, Dp K F v d
  | .none, u, h => by
    cases u <;> first | exact ⟨.non, rfl, fun _ => .non⟩ | (simp [datB] at h)
  | .bool b, u, h => by
    cases u <;> first | (simp [datB] at h; done) | skip
    rename_i a
    have e : a = b := by simpa [datB] using h
    subst e
    exact ⟨.bl a, rfl, fun _ => .bl _⟩
  | .int j, u, h => by
    cases u <;> first | (simp [datB] at h; done) | skip
    rename_i i t
    have e : i = j := by simpa [datB] using h
    subst e
    exact ⟨.int i, ⟨t, rfl⟩, fun _ => .int _⟩
  | .str y, u, h => by
    cases u <;> first | (simp [datB] at h; done) | skip
    rename_i x t
    have e : x = y := by simpa [datB] using h
    subst e
    exact ⟨.str x, ⟨t, rfl⟩, fun _ => .str _⟩
  | .tuple ds, u, h => by
    cases u <;> first | (simp [datB] at h; done) | skip
    rename_i a
    unfold datB at h
    split at h
    · rename_i c dd its n sl hk
      obtain ⟨h1, h2⟩ := Bool.and_eq_true_iff.mp h
      obtain ⟨h2, h3⟩ := Bool.and_eq_true_iff.mp h2
      obtain ⟨vs, h4, h5⟩ := datsB_ok h3
      exact ⟨.ref a, rfl, fun F => .tup (.inr ⟨_, its, n, hk, congrArg Value.type (of_decide_eq_true h1), rfl, of_decide_eq_true h2, h4⟩) (h5 F)⟩
    · cases h
  | .list _, u, h => by cases u <;> simp [datB] at h
  | .dict _, u, h => by cases u <;> simp [datB] at h
theorem datsB_ok {K : PySem.W.Frag} : ∀ {ds : List PyData} {us : List Value}, datsB K us ds = true → ∃ vs, Vals vs us ∧ ∀ F, DpAll K F vs ds
  | [], [], _ => ⟨[], .nil, fun _ => .nil⟩
  | [], _ :: _, h => by simp [datsB] at h
  | _ :: _, [], h => by simp [datsB] at h
  | d :: ds, u :: us, h => by
    unfold datsB at h
    obtain ⟨h1, h2⟩ := Bool.and_eq_true_iff.mp h
    obtain ⟨v, a1, a2⟩ := datB_ok h1
    obtain ⟨vs, b1, b2⟩ := datsB_ok h2
    exact ⟨v :: vs, .cons a1 b1, fun F => .cons (a2 F) (b2 F)⟩
end
def globB (K : PySem.W.Frag) (x : Str) (d : PyData) : Bool := match PySem.W.nsIn K mainGlobals x with
  | some (some u) => datB K u d
  | _ => false
theorem globB_ok {K : PySem.W.Frag} {h : Heap} {mg : Str → Option Value} {x : Str} {d : PyData} (X : K.In h) (G : h.Ns mainGlobals mg) (c : globB K x d = true) : GlobD K mg x d := by
  unfold globB at c
  split at c
  · rename_i u e
    obtain ⟨v, h1, h2⟩ := datB_ok c
    exact ⟨v, u, PySem.W.mg_of X G e, h1, h2⟩
  · cases c
def ckX (fa : List He.Fa) (gl : List (Str × PyData)) (K : PySem.W.Frag) : Bool := (fa.all fun f => f.ok K) && gl.all fun q => globB K q.1 q.2
def obsX (fa : List He.Fa) (gl : List (Str × PyData)) (fn : List He.DefD) (K : PySem.W.Frag) : He.AlD := (ckX fa gl K && fn.all fun d => d.ok K, fn.map fun d => He.fnW K d.at_)
def SaysX (fa : List He.Fa) (gl : List (Str × PyData)) (fn : List He.DefD) (K : PySem.W.Frag) : Prop := obsX fa gl fn K = He.valD fn
def obsXG (n : Nat) (fa : List He.Fa) (gl : List (Str × PyData)) (fn : List He.DefD) (g : Addr → Option Obj) : He.AlD := obsX fa gl fn (He.frG g (He.asD g n))
def hookX (n : Nat) (fa : List He.Fa) (gl : List (Str × PyData)) (fn : List He.DefD) : PySem.W.Hook where
  α := He.AlD
  obs := fun s => obsXG n fa gl fn s.heap.get?
  val := fun _ => He.valD fn
  says := fun _ h => ∃ K : PySem.W.Frag, K.In h ∧ SaysX fa gl fn K
  of := fun _ _ e => ⟨_, He.frG_in, e⟩
  keeps := fun _ _ _ ⟨K, hK, c⟩ k => ⟨K, PySem.W.Frag.In.keeps hK k, c⟩
theorem obsXG_eq {n : Nat} {fa : List He.Fa} {gl : List (Str × PyData)} {fn : List He.DefD} {g : Addr → Option Obj} {s : Shared} (h : ∀ a, g a = s.heap.get? a) : obsXG n fa gl fn g = (hookX n fa gl fn).obs s := by
  have e : g = s.heap.get? := funext h
  rw [e] <;> rfl
section
variable {fa : List He.Fa} {gl : List (Str × PyData)} {fn : List He.DefD} {K : PySem.W.Frag}
theorem SaysX.ck (c : SaysX fa gl fn K) : ckX fa gl K = true := (Bool.and_eq_true_iff.mp (show (ckX fa gl K && fn.all fun d => d.ok K) = true from congrArg (fun z : He.AlD => z.1) c)).1
theorem SaysX.fact (c : SaysX fa gl fn K) (i : Nat) {f : He.Fa} (h : fa[i]? = some f := by rfl) : f.ok K = true := List.all_eq_true.mp (Bool.and_eq_true_iff.mp c.ck).1 f (List.mem_of_getElem? h)
theorem SaysX.glob (c : SaysX fa gl fn K) (i : Nat) {q : Str × PyData} (h : gl[i]? = some q := by rfl) : globB K q.1 q.2 = true := List.all_eq_true.mp (Bool.and_eq_true_iff.mp c.ck).2 q (List.mem_of_getElem? h)
theorem SaysX.def_ (c : SaysX fa gl fn K) (i : Nat) {d : He.DefD} (h : fn[i]? = some d := by rfl) : ∃ fd, FunD K d.name d.qual d.params d.body d.scope (d.dvs K) (d.kws K) (He.fAd K d.at_) fd := by
  have c2 := (Bool.and_eq_true_iff.mp (show (ckX fa gl K && fn.all fun d => d.ok K) = true from congrArg (fun z : He.AlD => z.1) c)).2
  have e : fn.map (fun d => He.fnW K d.at_) = fn.map He.DefD.val := congrArg (fun z : He.AlD => z.2) c
  have e2 : (fn.map fun d => He.fnW K d.at_)[i]? = (fn.map He.DefD.val)[i]? := by rw [e]
  rw [List.getElem?_map, List.getElem?_map, h] at e2
  exact He.DefD.funD (Option.some.inj e2) (List.all_eq_true.mp c2 d (List.mem_of_getElem? h))
end
/-- the law's promise -/
theorem law_sp {K : PySem.W.Frag} {m : List PyData → Option PyData} (hm : ∀ ns : List Int, ns.length ≤ 63 → m [.list (ns.map .int)] = some (.bool true)) (H : Hp) (a : Addr) (ns : List Int) (hl : ns.length ≤ 63) (hS : SqL K H a (ns.map V.int)) :
    spD K 1 m [.ref a] H (fun v _ => v = .bl true) fun _ _ _ => False := by
  have ha : ∀ ns : List Int, DpAll K H (ns.map V.int) (ns.map PyData.int) := fun ns => by
    induction ns with
    | nil => exact .nil
    | cons n ns ih => exact .cons (.int n) ih
  refine ⟨H, [.list (ns.map .int)], .bool true, .refl _, .cons (.lst hS (ha ns)) .nil, rfl, hm ns hl, fun v H' F' _ d => ?_⟩
  cases d
  rfl
end Dw

set_option Elab.async false
set_option linter.all false
set_option maxRecDepth 100000
/-! ### t[::-1] of a tuple -/
namespace HT
open PySem PySem.Spec PyProof.Rows
section
variable {prog : Program} {w : World} {A : Around} {E : Value → Shared → Prop} {s : Shared}
theorem sliceApplied_rev {sl : Addr} {vs : Value} {n : Nat} {Q : Int × Int × Nat → Shared → Prop} (hs : s.heap.IsSliceOf sl .none .none vs) (ps : IsPart vs (some (-1)))
    (h : Q ((n : Int) - 1, -1, n) s) : wpAny (model prog w) A (Builtin.Slice.sliceApplied (.ref sl) (pure (n : Int))) Q E s := by
  obtain ⟨os, hos, hcs, hds⟩ := id hs
  unfold Builtin.Slice.sliceApplied Builtin.Slice.sliceFields
  refine wpAny_bind (wpAny_bind (wpAny_field hos hds (x := .none) rfl (wpAny_bind (wpAny_field hos hds (x := .none) rfl (wpAny_bind (wpAny_field hos hds (x := vs) rfl (wpAny_pure ?_)))))))
  refine wpAny_bind (slicePart_ ps ?_)
  show wpAny _ _ (if ((-1 : Int) == 0) = true then _ else _) _ _ s
  rw [if_neg (by decide)]
  refine wpAny_bind (slicePart_none (wpAny_bind (slicePart_none (wpAny_bind (wpAny_pure ?_)))))
  have e1 : Builtin.Slice.sliceAdjust none none (-1) (n : Int) = ((n : Int) - 1, -1) := rfl
  have e2 : Builtin.Slice.slicePlaces ((n : Int) - 1) (-1) (-1) = n := by
    unfold Builtin.Slice.slicePlaces
    have h1 : ¬ ((-1 : Int) > 0) := by omega
    simp only [h1, if_false]
    rw [show (- -1 : Int) = 1 by decide, Int.ediv_one]
    split <;> omega
  show wpAny _ _ (match Builtin.Slice.sliceAdjust none none (-1) (n : Int) with | (lo, hi) => pure (lo, (-1 : Int), Builtin.Slice.slicePlaces lo hi (-1))) _ _ s
  rw [e1]
  show wpAny _ _ (pure ((n : Int) - 1, (-1 : Int), Builtin.Slice.slicePlaces ((n : Int) - 1) (-1) (-1))) _ _ s
  rw [e2]
  exact wpAny_pure h
theorem pick_rev (xs : Array Value) : ((List.range xs.size).filterMap fun (m : Nat) => xs[(((xs.size : Int) - 1) + (m : Int) * (-1)).toNat]?).toArray = xs.toList.reverse.toArray := by
  have e : (fun (m : Nat) => xs[(((xs.size : Int) - 1) + (m : Int) * (-1)).toNat]?) = fun m => xs[xs.size - 1 - m]? := by
    funext m
    have : (((xs.size : Int) - 1) + (m : Int) * (-1)).toNat = xs.size - 1 - m := by omega
    rw [this]
  rw [e]
  have h := PySem.W.krv_range xs.size
  have h2 : (List.range xs.size).filterMap (fun m => xs[xs.size - 1 - m]?) = ((List.range xs.size).map fun k => xs.size - 1 - k).filterMap (xs[·]?) := by
    rw [List.filterMap_map]
    rfl
  rw [h2, h, List.filterMap_reverse, PySem.W.krv_all]
theorem getItem_tuple_rev {t sl : Addr} {items : Array Value} {vs : Value} {Q : Value → Shared → Prop} (ht : IsTup s.heap t items) (hs : s.heap.IsSliceOf sl .none .none vs) (ps : IsPart vs (some (-1)))
    (h : Q (.ref s.heap.objs.size) { s with heap := s.heap.push { cls := .type "tuple", data := .seq items.toList.reverse.toArray } })
    (hsz : items.size ≤ sizeLine) : wpAny (model prog w) A (getItem (.ref t) (.ref sl)) Q E s := by
  have htake : sizeOk (.seq items.toList.reverse.toArray) := by
    show items.toList.reverse.toArray.size ≤ sizeLine
    rw [List.size_toArray, List.length_reverse, Array.length_toList]
    exact hsz
  obtain ⟨os, hos, hcs, hds⟩ := id hs
  have hTs : s.TypeIs (.ref sl) "slice" := ⟨os, hos, hcs⟩
  unfold getItem
  try with_reducible refine wpAny_holding ?_
  first | refine wpAny_bind (wpAny_pure ?_) | skip
  refine wpAny_bind (wpAny_sequenceKey ht.typeIs (by decide) ?_)
  refine wpAny_bind (wpAny_callSpecial?_slot (name := Str.ofString "__getitem__") ht.typeIs PyProof.Rows.slot_tuple_getitem
    (wpAny_call_entry PyProof.Rows.slot_tuple_getitem ht.typeIs entry_tuple_getitem ?_ (args_tuple_getitem _ _)))
  show wpAny _ _ (Builtin.Tuple.tupleItemsOf (.ref t) >>= _) _ _ s
  refine wpAny_bind (tupleItemsOf_ ht ?_)
  refine wpAny_bind (wpAny_typeOf hTs ?_)
  rw [if_pos (by decide)]
  refine wpAny_bind (sliceApplied_rev hs ps ?_)
  have hno : ¬ ((((items.size : Int) - 1) == 0 && (-1 : Int) == 1 && items.size == items.size) = true) := by
    intro q
    rw [Bool.and_eq_true, Bool.and_eq_true] at q
    exact absurd q.1.2 (by decide)
  show wpAny _ _ (if (((items.size : Int) - 1) == 0 && (-1 : Int) == 1 && items.size == items.size) = true then _ else _) _ _ s
  rw [if_neg hno, pick_rev]
  first
    | exact wpAny_bind (m := Builtin.Tuple.tupleExact _) (wpAny_newObj_type (wpAny_pure ⟨_, rfl, wpAny_pure h⟩) htake)
    | exact wpAny_bind (m := Builtin.Tuple.tupleExact _) (wpAny_newObj_type (wpAny_bind (wpAny_pure (wpAny_pure ⟨_, rfl, wpAny_pure h⟩))) htake)
    | exact wpAny_bind (wpAny_bind (m := Builtin.Tuple.tupleExact _) (wpAny_newObj_type (wpAny_pure (wpAny_pure ⟨_, rfl, wpAny_pure h⟩)) htake))
    | exact wpAny_bind (wpAny_bind (m := Builtin.Tuple.tupleExact _) (wpAny_newObj_type (wpAny_pure ⟨_, rfl, wpAny_pure h⟩) htake))
end
end HT
namespace L2
open PySem PySem.Spec PyProof.Rows
section
variable {X : Cx}
/-- a[::-1], a a tuple or a list -/
def tRevB (K : PySem.W.Frag) (te : TE) : TE := fun σ H Q => te σ H fun x H1 => ∃ a xs, x = .ref a ∧ ((SqL K H1 a xs ∧ ∀ p, H1 p = none → Q (.ref p) (upd H1 p (.lst xs.reverse))) ∨ (SqT K H1 a xs ∧ ∀ p, H1 p = none → Q (.ref p) (upd H1 p (.tup xs.reverse))))
theorem pe_revB {e : Expr} {te : TE} {k : Nat} {p1 p2 p3 pos : Pos} (he : PE X e te) : PE X (.Subscript e (.Slice none none (some (.UnaryOp .USub (.Constant (.int 1) k p1) p2)) p3) pos) (tRevB X.K te) := by
  refine ⟨fun pins s σ H Q I h => ?_⟩
  refine Subscript_ (thn (he.run pins s σ H _ I h) fun v s1 ⟨x, H1, I1, r1, q1⟩ => ?_)
  obtain ⟨a, xs, ex, hq⟩ := q1
  subst ex
  cases r1
  have hst : PO X (some (.UnaryOp .USub (.Constant (.int 1) k p1) p2)) (tPart (tUn (rU fun i => .int (-i)) (tC (.int 1)))) := po_some (pe_un un_neg pe_int)
  refine wpAny_Slice (thn (po_none.run pins s1 σ H1 (fun o H2 => o = none ∧ H2 = H1) I1 ⟨rfl, rfl⟩) fun vl s2 ⟨l, H2, I2, pl, el, e2⟩ => ?_)
  subst el e2
  refine thn (po_none.run pins s2 σ H2 (fun o H3 => o = none ∧ H3 = H2) I2 ⟨rfl, rfl⟩) fun vu s3 ⟨u, H3, I3, pu, eu, e3⟩ => ?_
  subst eu e3
  refine thn (hst.run pins s3 σ H3 (fun o H4 => o = some (-1) ∧ H4 = H3) I3 ⟨1, rfl, -1, rfl, rfl, rfl⟩) fun vs s4 ⟨o, H4, I4, ps, eo, e4⟩ => ?_
  subst eo e4
  have I5 : Inv X pins σ H4 { s4 with heap := s4.heap.push { cls := .type "slice", data := .fields #[vl, vu, vs] } } := I4.kept (t' := s4.toks) fun b ob q => Heap.get?_push_of_some _ q
  show wpAny (model X.prog X.w) X.A (subscriptTail e (.Slice none none (some (.UnaryOp .USub (.Constant (.int 1) k p1) p2)) p3) (.ref a) (.ref s4.heap.objs.size)) (EP X pins σ Q) X.xe { s4 with heap := s4.heap.push { cls := .type "slice", data := .fields #[vl, vu, vs] } }
  rcases hq with ⟨hx, q⟩ | ⟨hx, q⟩
  · obtain ⟨its, r, ht, hz⟩ := I5.list hx
    have hlen := r.length
    refine tail_any (ops := [.ref a, .ref s4.heap.objs.size]) ht.isList.typeIs (PySem.slot_list_getitem.lookup) ?_ (by with_unfolding_all rfl)
    refine wpAny_getItem_list_slice ht.isList (Heap.IsSliceOf.new _ vl vu vs) pl pu ps (by decide) ?_ (by rw [List.size_toArray]; omega)
    rw [PySem.W.krv_pick]
    refine ⟨.ref _, _, I5.laid (t' := s4.toks) (o := .lst xs.reverse) (fun b ob q => Heap.get?_push_of_some _ q) (Nat.le_refl _) ?_, rfl, q _ (I5.hok.fresh (Nat.le_refl _))⟩
    exact ⟨by rw [List.length_reverse]; exact hz, _, 0, r.reverse, Heap.get?_push_size _ rfl⟩
  · obtain ⟨its, r, ht, hz⟩ := I5.tuple hx
    have hlen := r.length
    cases pl
    cases pu
    refine tail_any (ops := [.ref a, .ref s4.heap.objs.size]) ht.typeIs (PyProof.Rows.slot_tuple_getitem.lookup) ?_ (by with_unfolding_all rfl)
    refine HT.getItem_tuple_rev ht (Heap.IsSliceOf.new _ .none .none vs) ps ?_ (by rw [List.size_toArray]; omega)
    refine ⟨.ref _, _, I5.laid (t' := s4.toks) (o := .tup xs.reverse) (fun b ob q => Heap.get?_push_of_some _ q) (Nat.le_refl _) ?_, rfl, q _ (I5.hok.fresh (Nat.le_refl _))⟩
    exact ⟨by rw [List.length_reverse]; exact hz, _, r.reverse, _, Heap.get?_push_size _ rfl, rfl, _, rfl⟩
end
end L2
namespace Dw
open PySem PySem.Spec L2
section
variable {X : Cx} {a b c e : Expr} {fa fb fc fe : Mr PyData} {pos : Pos}
theorem de_rev {k : Nat} {p1 p2 p3 : Pos} (ha : DE X a fa) : DE X (.Subscript a (.Slice none none (some (.UnaryOp .USub (.Constant (.int 1) k p1) p2)) p3) pos) (mUn pRev fa) := by
  refine ⟨?_⟩
  intro F0 H0 ρ σ H F d Q r hf q
  obtain ⟨x, h1, h2⟩ := Option.bind_eq_some_iff.mp hf
  refine we_of (pe_revB pe_we) ?_
  refine ha.run F0 H0 ρ σ H F _ _ r h1 fun v H1 F1 e1 d1 => ?_
  unfold pRev at h2
  split at h2
  · cases h2
    cases d1 with
    | tup hs ha => exact ⟨_, _, rfl, .inr ⟨hs.same e1.fh, fun p hp => q _ _ _ (e1.trans (.alloc e1.fh hp)) (.tup (.inl (.inl upd_same)) (ha.rev.same (same_upd (e1.fh.free hp))))⟩⟩
  · cases h2
    cases d1 with
    | lst hs ha => exact ⟨_, _, rfl, .inl ⟨e1.fh.seq hs, fun p hp => q _ _ _ (e1.trans (.alloc e1.fh hp)) (.lst (.inl (.inl upd_same)) (ha.rev.same (same_upd (e1.fh.free hp))))⟩⟩
  · cases h2
/-- a op b op' c, as data -/
def mChain (g g' : PyData → PyData → Option PyData) (fa fb fc : Mr PyData) : Mr PyData := fun ρ => (fa ρ).bind fun x => (fb ρ).bind fun y => (g x y).bind fun z => (asB z).bind fun k => if k = true then (fc ρ).bind fun w => g' y w else some (.bool false)
theorem de_chain {op op' : CmpOp} {g g' : PyData → PyData → Option PyData} (ho : Op2 X (compareOp op) g) (ho' : Op2 X (compareOp op') g') (ha : DE X a fa) (hb : DE X b fb) (hc : DE X c fc)
    (hm : lastMarks [op, op'] [b, c] = false := by with_unfolding_all rfl) : DE X (.Compare a [op, op'] [b, c] pos) (mChain g g' fa fb fc) := by
  refine ⟨?_⟩
  intro F0 H0 ρ σ H F d Q r hf q
  obtain ⟨x, y, h1, h2, h3⟩ := bind2 hf
  obtain ⟨z, h4, h5⟩ := Option.bind_eq_some_iff.mp h3
  obtain ⟨k, h6, h7⟩ := Option.bind_eq_some_iff.mp h5
  have hz := asB_some h6
  subst hz
  obtain ⟨rr, ho, hv⟩ := ho
  obtain ⟨rr', ho', hv'⟩ := ho'
  refine we_of (pe_chain ho ho' pe_we pe_we pe_we hm) ?_
  refine two (Q := Q) ha hb r h1 h2 fun v u H' F' e d1 d2 => ?_
  refine hv F' H' v u x y _ _ e.fh d1 d2 h4 fun v2 H2 F2 e2 d3 => ?_
  cases d3
  refine ⟨k, rfl, ?_⟩
  cases k with
  | false =>
    cases h7
    exact q _ H2 F2 (e.trans e2) (.bl false)
  | true =>
    obtain ⟨w, h8, h9⟩ := Option.bind_eq_some_iff.mp h7
    show WE X c σ H2 _
    refine hc.run F0 H0 ρ σ H2 F2 w _ (r.more (e.trans e2)) h8 fun v3 H3 F3 e3 d4 => ?_
    exact hv' F3 H3 u v3 y w d Q e3.fh ((d2.same e2.ff).same e3.ff) d4 h9 fun v5 H5 F5 e5 d5 => q v5 H5 F5 (((e.trans e2).trans e3).trans e5) d5
theorem dt_chain {op op' : CmpOp} {g g' : PyData → PyData → Option PyData} (ho : Op2 X (compareOp op) g) (ho' : Op2 X (compareOp op') g') (ha : DE X a fa) (hb : DE X b fb) (hc : DE X c fc)
    (hm : lastMarks [op, op'] [b, c] = false := by with_unfolding_all rfl) : DT X (.Compare a [op, op'] [b, c] pos) (mTest (mChain g g' fa fb fc)) := by
  refine ⟨?_⟩
  intro F0 H0 ρ σ H F d Q r hf q
  obtain ⟨z0, h0, hz0⟩ := Option.bind_eq_some_iff.mp hf
  have hz0 := asB_some hz0
  subst hz0
  obtain ⟨x, y, h1, h2, h3⟩ := bind2 h0
  obtain ⟨z, h4, h5⟩ := Option.bind_eq_some_iff.mp h3
  obtain ⟨k, h6, h7⟩ := Option.bind_eq_some_iff.mp h5
  have hz := asB_some h6
  subst hz
  obtain ⟨rr, ho, hv⟩ := ho
  obtain ⟨rr', ho', hv'⟩ := ho'
  refine wt_of (pt_chain ho ho' pe_we pe_we pe_we hm) ?_
  refine two (Q := fun x H' => ∃ k, x = .bl k ∧ Q k H') ha hb r h1 h2 fun v u H' F' e d1 d2 => ?_
  refine hv F' H' v u x y _ _ e.fh d1 d2 h4 fun v2 H2 F2 e2 d3 => ?_
  cases d3
  refine ⟨k, rfl, ?_⟩
  cases k with
  | false =>
    cases h7
    exact ⟨false, rfl, q H2 F2 (e.trans e2)⟩
  | true =>
    obtain ⟨w, h8, h9⟩ := Option.bind_eq_some_iff.mp h7
    show WE X c σ H2 _
    refine hc.run F0 H0 ρ σ H2 F2 w _ (r.more (e.trans e2)) h8 fun v3 H3 F3 e3 d4 => ?_
    refine hv' F3 H3 u v3 y w _ _ e3.fh ((d2.same e2.ff).same e3.ff) d4 h9 fun v5 H5 F5 e5 d5 => ?_
    cases d5
    exact ⟨d, rfl, q H5 F5 (((e.trans e2).trans e3).trans e5)⟩
end
end Dw

set_option Elab.async false
set_option linter.all false
set_option maxRecDepth 100000
/-! ### list(zip(a, b)): the tuples stay out -/
namespace Dw
open PySem PySem.Spec L2
section
variable {prog : Program} {w : World} {A : Around} {E : Value → Shared → Prop} {s : Shared} {z TI TO i1 i2 T : Addr} {fp1 fp2 : List Addr} {n1 n2 i : Nat} {P1 P2 : Nat → Value → Prop} {St1 St2 : Nat → Heap → Prop} {f : Bool} {oT : Obj}
theorem zipH_item {Q : Value → Shared → Prop} (S : ZipSep2 z TI TO i1 i2 fp1 fp2) (D1 : Draws prog w A i1 fp1 n1 P1 St1) (D2 : Draws prog w A i2 fp2 n2 P2 St2)
    (hz : IsZipHeld s.heap z TI TO T f) (hT : s.heap.get? T = some oT) (hTI : IsTupOf2 s.heap TI (.ref i1) (.ref i2)) (st1 : St1 i s.heap) (st2 : St2 i s.heap) (hlt1 : i < n1) (hlt2 : i < n2)
    (hQ : ∀ x1 x2 h' tk, P1 i x1 → P2 i x2 → IsZipHeld h' z TI TO T true → St1 (i + 1) h' → St2 (i + 1) h' → IsTupOf2 h' s.heap.objs.size x1 x2 → h'.objs.size = s.heap.objs.size + 1 →
      (∀ c o, c ≠ z → c ≠ i1 → c ≠ i2 → s.heap.get? c = some o → h'.get? c = some o) → Q (.ref s.heap.objs.size) { s with heap := h', toks := tk }) :
    wpAny (model prog w) A (Builtin.«zip.__next__» ⟨[.ref z], []⟩) (fun fin s' => ∃ v, fin = .done (.ret v) ∧ Q v s') E s := by
  obtain ⟨hp, g, d, tk0, os⟩ := s
  show wpAny _ _ (field (.ref z) 2 >>= _) _ _ _
  refine wpAny_bind (wpAny_field hz rfl (x := .bool false) rfl ?_)
  show wpAny _ _ (field (.ref z) 3 >>= _) _ _ _
  refine wpAny_bind (wpAny_field hz rfl (x := .ref TI) rfl ?_)
  refine wpAny_bind (wpAny_seqItems hTI rfl ?_)
  show wpAny _ _ (Builtin.SmallTypes.ownedTupleIsFree (.ref z) >>= _) _ _ _
  refine wpAny_bind (wpAny_tupleHeld_zip hz hT fun h₁ hz₁ hs₁ => ?_)
  replace hs₁ : Heap.SameBut z hp h₁ := hs₁
  simp only [Bool.false_eq_true, if_false]
  refine wpAny_bind ?_
  rw [← Array.forIn_toList]
  simp only [List.forIn_cons, List.forIn_nil]
  refine wpAny_bind (wpAny_bind (wpAny_holding ?_))
  show wpAny _ _ (Builtin.SmallTypes.nextOf (.ref i1) >>= _) _ _ ⟨h₁, g, d, tk0, os⟩
  refine wpAny_bind (D1.item i _ _ _ hlt1 (D1.over st1 hs₁ S.zf1) fun x1 p1 tk1 hx1 sn1 hp1 => wpAny_pure ?_)
  replace hp1 : Heap.SameBut i1 h₁ p1 := hp1
  refine wpAny_pure ?_
  refine wpAny_bind (wpAny_bind (wpAny_holding ?_))
  show wpAny _ _ (Builtin.SmallTypes.nextOf (.ref i2) >>= _) _ _ ⟨p1, g, d, tk1, os⟩
  refine wpAny_bind (D2.item i _ _ _ hlt2 (D2.over (D2.over st2 hs₁ S.zf2) hp1 S.sep1_2) fun x2 p2 tk2 hx2 sn2 hp2 => wpAny_pure ?_)
  replace hp2 : Heap.SameBut i2 p1 p2 := hp2
  refine wpAny_pure (wpAny_pure ?_)
  show wpAny _ _ (newTuple [x1, x2] >>= _) _ _ _
  refine wpAny_bind (wpAny_newTuple ?_)
  have hsz : p2.objs.size = hp.objs.size := by rw [hp2.1, hp1.1, hs₁.1]
  have hz₃ : IsZipHeld p2 z TI TO T true := hp2.extBut _ _ S.zi2 (hp1.extBut _ _ S.zi1 hz₁)
  have hk : ∀ c o, c ≠ z → c ≠ i1 → c ≠ i2 → hp.get? c = some o → p2.get? c = some o := fun c o c1 c2 c3 e => hp2.extBut _ _ c3 (hp1.extBut _ _ c2 (hs₁.extBut _ _ c1 e))
  have s1' : St1 (i + 1) p2 := D1.over sn1 hp2 S.sep2_1
  refine wpAny_pure ⟨_, rfl, ?_⟩
  show Q (.ref p2.objs.size) _
  have hpp : IsTupOf2 (p2.push { cls := .type "tuple", data := .seq #[x1, x2] }) p2.objs.size x1 x2 := Heap.get?_push_size _ rfl
  have hz4 : (p2.push { cls := .type "tuple", data := .seq #[x1, x2] }).objs.size = p2.objs.size + 1 := Heap.size_push ..
  rw [hsz] at hpp hz4 ⊢
  exact hQ x1 x2 _ tk2 hx1 hx2 (Heap.get?_push_of_some _ hz₃) (D1.frame _ _ _ s1' fun b _ o e => Heap.get?_push_of_some _ e) (D2.frame _ _ _ sn2 fun b _ o e => Heap.get?_push_of_some _ e) hpp hz4 fun c o c1 c2 c3 e => Heap.get?_push_of_some _ (hk c o c1 c2 c3 e)
theorem zipH_end {Q : Fin → Shared → Prop} (S : ZipSep2 z TI TO i1 i2 fp1 fp2) (D1 : Draws prog w A i1 fp1 n1 P1 St1) (D2 : Draws prog w A i2 fp2 n2 P2 St2)
    (hz : IsZipHeld s.heap z TI TO T f) (hT : s.heap.get? T = some oT) (hTI : IsTupOf2 s.heap TI (.ref i1) (.ref i2)) (st1 : St1 i s.heap) (st2 : St2 i s.heap) (hle1 : i ≤ n1) (hle2 : i ≤ n2) (hend : i = n1 ∨ i = n2)
    (hE : ∀ h' tk e, (∀ c o, c ≠ z → c ≠ i1 → c ≠ i2 → s.heap.get? c = some o → h'.get? c = some o) → (∃ o, h'.get? e = some o ∧ o.cls = .type "StopIteration") → E (.ref e) { s with heap := h', toks := tk }) :
    wpAny (model prog w) A (Builtin.«zip.__next__» ⟨[.ref z], []⟩) Q E s := by
  obtain ⟨hp, g, d, tk0, os⟩ := s
  show wpAny _ _ (field (.ref z) 2 >>= _) _ _ _
  refine wpAny_bind (wpAny_field hz rfl (x := .bool false) rfl ?_)
  show wpAny _ _ (field (.ref z) 3 >>= _) _ _ _
  refine wpAny_bind (wpAny_field hz rfl (x := .ref TI) rfl ?_)
  refine wpAny_bind (wpAny_seqItems hTI rfl ?_)
  show wpAny _ _ (Builtin.SmallTypes.ownedTupleIsFree (.ref z) >>= _) _ _ _
  refine wpAny_bind (wpAny_tupleHeld_zip hz hT fun h₁ hz₁ hs₁ => ?_)
  replace hs₁ : Heap.SameBut z hp h₁ := hs₁
  simp only [Bool.false_eq_true, if_false]
  refine wpAny_bind ?_
  rw [← Array.forIn_toList]
  simp only [List.forIn_cons, List.forIn_nil]
  refine wpAny_bind (wpAny_bind (wpAny_holding ?_))
  show wpAny _ _ (Builtin.SmallTypes.nextOf (.ref i1) >>= _) _ _ ⟨h₁, g, d, tk0, os⟩
  by_cases hlt1 : i < n1
  · refine wpAny_bind (D1.item i _ _ _ hlt1 (D1.over st1 hs₁ S.zf1) fun x1 p1 tk1 hx1 sn1 hp1 => wpAny_pure ?_)
    replace hp1 : Heap.SameBut i1 h₁ p1 := hp1
    have hi2 : i = n2 := by omega
    refine wpAny_pure ?_
    refine wpAny_bind (wpAny_bind (wpAny_holding ?_))
    show wpAny _ _ (Builtin.SmallTypes.nextOf (.ref i2) >>= _) _ _ ⟨p1, g, d, tk1, os⟩
    refine wpAny_bind (D2.done ⟨p1, g, d, tk1, os⟩ _ _ (by rw [← hi2]; exact D2.over (D2.over st2 hs₁ S.zf2) hp1 S.sep1_2) fun q e hq he => ?_)
    exact hE q tk1 e (fun c o cz c1 c2 x => hq _ _ c2 (hp1.extBut _ _ c1 (hs₁.extBut _ _ cz x))) he
  · have hi1 : i = n1 := by omega
    refine wpAny_bind (D1.done ⟨h₁, g, d, tk0, os⟩ _ _ (by rw [← hi1]; exact (D1.over st1 hs₁ S.zf1)) fun q e hq he => ?_)
    exact hE q tk0 e (fun c o cz c1 c2 x => hq _ _ c1 (hs₁.extBut _ _ cz x)) he
theorem nextZ_item {Q : Option Value → Shared → Prop} (S : ZipSep2 z TI TO i1 i2 fp1 fp2) (D1 : Draws prog w A.in1 i1 fp1 n1 P1 St1) (D2 : Draws prog w A.in1 i2 fp2 n2 P2 St2)
    (hz : IsZipHeld s.heap z TI TO T f) (hT : s.heap.get? T = some oT) (hTI : IsTupOf2 s.heap TI (.ref i1) (.ref i2)) (st1 : St1 i s.heap) (st2 : St2 i s.heap) (hlt1 : i < n1) (hlt2 : i < n2)
    (hQ : ∀ x1 x2 h' tk, P1 i x1 → P2 i x2 → IsZipHeld h' z TI TO T true → St1 (i + 1) h' → St2 (i + 1) h' → IsTupOf2 h' s.heap.objs.size x1 x2 → h'.objs.size = s.heap.objs.size + 1 →
      (∀ c o, c ≠ z → c ≠ i1 → c ≠ i2 → s.heap.get? c = some o → h'.get? c = some o) → Q (some (.ref s.heap.objs.size)) { s with heap := h', toks := tk }) :
    wpAny (model prog w) A (pyNext (.ref z)) Q E s := by
  have hTy : s.TypeIs (.ref z) "zip" := ⟨_, hz, rfl⟩
  unfold pyNext
  exact wpAny_bind (wpAny_attempt (wpAny_callSpecial?_slot (name := Str.ofString "__next__") hTy F.slot_zip_next
    (wpAny_call_entry F.slot_zip_next hTy F.entry_zip_next
      (zipH_item S D1 D2 hz hT hTI st1 st2 hlt1 hlt2 fun x1 x2 h' tk y1 y2 b1 d1 d2 b5 b6 b7 => wpAny_pure (hQ x1 x2 h' tk y1 y2 b1 d1 d2 b5 b6 b7)) (F.args_zip_next_1 _))))
theorem nextZ_end {Q : Option Value → Shared → Prop} (S : ZipSep2 z TI TO i1 i2 fp1 fp2) (D1 : Draws prog w A.in1 i1 fp1 n1 P1 St1) (D2 : Draws prog w A.in1 i2 fp2 n2 P2 St2)
    (hz : IsZipHeld s.heap z TI TO T f) (hT : s.heap.get? T = some oT) (hTI : IsTupOf2 s.heap TI (.ref i1) (.ref i2)) (st1 : St1 i s.heap) (st2 : St2 i s.heap) (hle1 : i ≤ n1) (hle2 : i ≤ n2) (hend : i = n1 ∨ i = n2)
    (hQ : ∀ h' tk, (∀ c o, c ≠ z → c ≠ i1 → c ≠ i2 → s.heap.get? c = some o → h'.get? c = some o) → Q none { s with heap := h', toks := tk }) : wpAny (model prog w) A (pyNext (.ref z)) Q E s := by
  have hTy : s.TypeIs (.ref z) "zip" := ⟨_, hz, rfl⟩
  unfold pyNext
  refine wpAny_bind (wpAny_attempt (wpAny_callSpecial?_slot (name := Str.ofString "__next__") hTy F.slot_zip_next
    (wpAny_call_entry F.slot_zip_next hTy F.entry_zip_next (zipH_end S D1 D2 hz hT hTI st1 st2 hle1 hle2 hend fun h' tk e hk he => ?_) (F.args_zip_next_1 _))))
  obtain ⟨o, ho, hc⟩ := he
  refine wpAny_bind (wpAny_isInstance (T := "StopIteration") (b := true) ⟨o, ho, hc⟩ isSubtype_stop ?_)
  exact wpAny_pure (hQ _ _ hk)
end
end Dw

set_option Elab.async false
set_option linter.all false
set_option maxRecDepth 100000
namespace Dw
open PySem PySem.Spec L2
/-- where a zip stands whose tuples stay out -/
def ZSt (z TI TO i1 i2 S : Addr) (h : Heap) : Prop :=
  IsTupOf2 h TI (.ref i1) (.ref i2) ∧ (∃ a1 a2, IsTupOf2 h TO a1 a2) ∧ (IsZip h z TI TO .none ∨ ∃ T f oT, IsZipHeld h z TI TO T f ∧ h.get? T = some oT ∧ T ≠ S ∧ T ≠ z ∧ T ≠ TO ∧ T ≠ i1 ∧ T ≠ i2)
theorem FpOk.upd {X : Cx} {pins : List (Addr × Obj)} {H : Hp} {q T : Addr} {o : HO} (h : FpOk X pins H q) (hq : q ≠ T) : FpOk X pins (upd H T o) q := ⟨by rw [upd_ne hq]; exact h.1, h.2⟩
set_option maxHeartbeats 1000000 in
theorem zip_loop {X : Cx} {pins : List (Addr × Obj)} {σ : L2.St} {b c : Bool} {z TI TO i1 i2 a d S : Addr} {its1 its2 : List Value} {xs ys : List V} (Ap : ZipAp z TI TO i1 i2 a d)
    (hS : S ≠ z ∧ S ≠ TI ∧ S ≠ TO ∧ S ≠ i1 ∧ S ≠ i2 ∧ S ≠ a ∧ S ≠ d) (r1 : Vals xs its1) (r2 : Vals ys its2) {A : Around} (hh : A.handled = none) (res : Value) {R : Result → Shared → Prop} (P : Nat → Hp → List V → Prop)
    (hP : ∀ i H vs x y T, P i H vs → H S = some (.lst vs) → H T = none → T ≠ S → xs[i]? = some x → ys[i]? = some y → P (i + 1) (upd (upd H T (.tup [x, y])) S (.lst (vs ++ [.ref T]))) (vs ++ [.ref T]))
    (hR : ∀ s' H' vs', Inv X pins σ H' s' → H' S = some (.lst vs') → P (min xs.length ys.length) H' vs' → R (.ok (.ret res)) s') (hn : min xs.length ys.length ≤ sizeLine) :
    ∀ (k i : Nat) (s : Shared) (H : Hp) (vs : List V), min xs.length ys.length - i = k → i ≤ min xs.length ys.length → vs.length = i → Inv X pins σ H s → H S = some (.lst vs) → P i H vs → (∀ q ∈ [z, TI, TO, i1, i2], FpOk X pins H q) →
      ZSt z TI TO i1 i2 S s.heap → (ItB b s.heap i1 a i ∧ IsB b s.heap a its1.toArray) → (ItB c s.heap i2 d i ∧ IsB c s.heap d its2.toArray) →
      codeAny (model X.prog X.w) A (.builtin "list.extend.loop" ⟨[.ref S, .ref z, res], []⟩) R s := by
  obtain ⟨sz, sTI, sTO, s1, s2, sa, sd⟩ := hS
  have D1 : Draws X.prog X.w A.in1.in1 i1 [i1, a] its1.toArray.size (fun i v => its1.toArray[i]? = some v) (fun i h => ItB b h i1 a i ∧ IsB b h a its1.toArray) := drawsB b (show A.in1.in1.handled = none from hh) i1 a Ap.a1 its1.toArray
  have D2 : Draws X.prog X.w A.in1.in1 i2 [i2, d] its2.toArray.size (fun i v => its2.toArray[i]? = some v) (fun i h => ItB c h i2 d i ∧ IsB c h d its2.toArray) := drawsB c (show A.in1.in1.handled = none from hh) i2 d Ap.d2 its2.toArray
  have l1 : its1.toArray.size = xs.length := by rw [List.size_toArray]; exact r1.length.symm
  have l2 : its2.toArray.size = ys.length := by rw [List.size_toArray]; exact r2.length.symm
  intro k
  induction k with
  | zero =>
    intro i s H vs hk hi hv I hHS hp hf hst st1 st2
    obtain ⟨hTI, ⟨a1, a2, hTO⟩, hz⟩ := hst
    have hin : i = min xs.length ys.length := by omega
    refine codeAny_builtin F.entry_extend_loop ?_
    rw [Around.under_plainId F.plain_extend_loop _]
    show wpAny _ A.in1 (pyNext (.ref z) >>= _) _ _ s
    have fin : ∀ h' tk, (∀ c o, c ≠ z → c ≠ TO → c ≠ i1 → c ≠ i2 → s.heap.get? c = some o → h'.get? c = some o) → Inv X pins σ H { s with heap := h', toks := tk } := fun h' tk hk => I.turnedL (ch := [z, TI, TO, i1, i2]) (fun c o hb q => hk c o (fun e => hb (by simp [e])) (fun e => hb (by simp [e])) (fun e => hb (by simp [e])) (fun e => hb (by simp [e])) q) hf
    rcases hz with hz | ⟨T, f, oT, hz, hT, _⟩
    · refine wpAny_bind (wpAny_pyNext_zipD2_end Ap.s D1 D2 hz hTI hTO st1 st2 (by omega) (by omega) (by omega) fun h' tk hk => ?_)
      exact wpAny_pure (hR _ H vs (fin h' tk hk) hHS (by rw [← hin]; exact hp))
    · refine wpAny_bind (nextZ_end Ap.s D1 D2 hz hT hTI st1 st2 (by omega) (by omega) (by omega) fun h' tk hk => ?_)
      exact wpAny_pure (hR _ H vs (fin h' tk fun c o h1 _ h3 h4 e => hk c o h1 h3 h4 e) hHS (by rw [← hin]; exact hp))
  | succ k ih =>
    intro i s H vs hk hi hv I hHS hp hf hst st1 st2
    obtain ⟨hTI, ⟨a1, a2, hTO⟩, hz⟩ := hst
    have hlt : i < min xs.length ys.length := by omega
    have hx : xs[i]? = some xs[i] := List.getElem?_eq_getElem (by omega)
    have hy : ys[i]? = some ys[i] := List.getElem?_eq_getElem (by omega)
    obtain ⟨u1, hu1, ru1⟩ := r1.get hx
    obtain ⟨u2, hu2, ru2⟩ := r2.get hy
    obtain ⟨zz, its, n, rl, hl, e⟩ := I.lstM hHS
    have lt : ∀ {c o}, s.heap.get? c = some o → s.heap.objs.size ≠ c := fun e => Nat.ne_of_gt (Heap.lt_size e)
    have hSl := lt e
    have hil1 : s.heap.objs.size ≠ i1 := by obtain ⟨_, e⟩ := D1.live _ _ st1; exact lt e
    have hil2 : s.heap.objs.size ≠ i2 := by obtain ⟨_, e⟩ := D2.live _ _ st2; exact lt e
    have hzl : s.heap.objs.size ≠ z := by
      rcases hz with hz | ⟨_, _, _, hz, _⟩
      · exact lt hz
      · exact lt hz
    refine codeAny_builtin F.entry_extend_loop ?_
    rw [Around.under_plainId F.plain_extend_loop _]
    show wpAny _ A.in1 (pyNext (.ref z) >>= _) _ _ s
    have step : ∀ x1 x2 h' tk, its1.toArray[i]? = some x1 → its2.toArray[i]? = some x2 → IsTupOf2 h' TI (.ref i1) (.ref i2) → (∃ a1 a2, IsTupOf2 h' TO a1 a2) →
        (∃ T f oT, IsZipHeld h' z TI TO T f ∧ h'.get? T = some oT ∧ T ≠ S ∧ T ≠ z ∧ T ≠ TO ∧ T ≠ i1 ∧ T ≠ i2) → (ItB b h' i1 a (i + 1) ∧ IsB b h' a its1.toArray) → (ItB c h' i2 d (i + 1) ∧ IsB c h' d its2.toArray) →
        IsTupOf2 h' s.heap.objs.size x1 x2 → (∀ c o, c ≠ z → c ≠ TO → c ≠ i1 → c ≠ i2 → s.heap.get? c = some o → h'.get? c = some o) →
        wpAny (model X.prog X.w) A.in1 (updateSeq S (·.push (.ref s.heap.objs.size)) >>= fun _ => again (.builtin "list.extend.loop" ⟨[.ref S, .ref z, res], []⟩)) (fun fin s' => match fin with | .done f => R (.ok f) s' | .again c' => c'.quiet = true ∧ codeAny (model X.prog X.w) A c' R s') (fun e s' => R (.error e) s') { s with heap := h', toks := tk } := by
      intro x1 x2 h' tk hx1 hx2 hTI' hTO' hz' d1 d2 hnew hk'
      have e1 : x1 = u1 := by
        have h1 : its1[i]? = some x1 := by simpa using hx1
        rw [hu1] at h1; exact (Option.some.inj h1).symm
      have e2 : x2 = u2 := by
        have h1 : its2[i]? = some x2 := by simpa using hx2
        rw [hu2] at h1; exact (Option.some.inj h1).symm
      subst e1 e2
      have new : ObjOk X.prog X.w (upd H s.heap.objs.size (.tup [xs[i], ys[i]])) h' s.heap.objs.size (.tup [xs[i], ys[i]]) := ⟨by show 2 ≤ sizeLine; decide, [x1, x2], .cons ru1 (.cons ru2 .nil), ⟨_, hnew, rfl, _, rfl⟩⟩
      have I1 : Inv X pins σ (upd H s.heap.objs.size (.tup [xs[i], ys[i]])) { s with heap := h', toks := tk } :=
        I.turnedNew (ch := [z, TI, TO, i1, i2]) (fun c ob hb q => hk' c ob (fun e => hb (by simp [e])) (fun e => hb (by simp [e])) (fun e => hb (by simp [e])) (fun e => hb (by simp [e])) q) hf (Nat.le_refl _) new
      have hS' := hk' S _ sz sTO s1 s2 e
      have hH1 : upd H s.heap.objs.size (.tup [xs[i], ys[i]]) S = some (.lst vs) := by rw [upd_ne (Ne.symm hSl)]; exact hHS
      have hlen : (vs ++ [V.ref s.heap.objs.size]).length ≤ sizeLine := by rw [List.length_append, hv]; simp only [List.length_singleton]; omega
      have I2 := I1.lset (l := S) (t' := tk) (f := (·.push (.ref s.heap.objs.size))) (its' := its ++ [.ref s.heap.objs.size]) (ys := vs ++ [.ref s.heap.objs.size]) hH1 hS' (by simp) (rl.append (show Vals [V.ref s.heap.objs.size] [Value.ref s.heap.objs.size] from .cons (show RelV (V.ref s.heap.objs.size) (Value.ref s.heap.objs.size) from rfl) .nil)) hlen
      have ne1 : i1 ≠ S := Ne.symm s1
      have fr : ∀ {q : Addr} {o : Obj}, q ≠ S → h'.get? q = some o → (h'.update S (Obj.mapSeq (·.push (.ref s.heap.objs.size)))).get? q = some o := fun hq x => (Heap.get?_update_other _ _ (Ne.symm hq)).trans x
      refine wpAny_bind (wpAny_updateSeq hS' rfl (wpAny_pure ⟨plainId_quiet F.plain_extend_loop _, ih (i + 1) _ _ (vs ++ [.ref s.heap.objs.size]) (by omega) hlt (by rw [List.length_append, hv]; rfl) I2 upd_same
        (hP i H vs xs[i] ys[i] s.heap.objs.size hp hHS (I.hok.fresh (Nat.le_refl _)) hSl hx hy) (fun q hq => ?_) ?_ ?_ ?_⟩) (by rw [List.size_toArray, ← hl]; omega) (by show (its.toArray.push _).size ≤ sizeLine + 1; rw [Array.size_push, List.size_toArray, ← hl]; omega))
      · have hqs : q ≠ S := by
          have e' : q = z ∨ q = TI ∨ q = TO ∨ q = i1 ∨ q = i2 := by simpa using hq
          rcases e' with x | x | x | x | x <;> rw [x] <;> first | exact Ne.symm sz | exact Ne.symm sTI | exact Ne.symm sTO | exact Ne.symm s1 | exact Ne.symm s2
        have hqT : q ≠ s.heap.objs.size := by
          have e' : q = z ∨ q = TI ∨ q = TO ∨ q = i1 ∨ q = i2 := by simpa using hq
          rcases e' with x | x | x | x | x <;> rw [x] <;> first | exact Ne.symm hzl | exact Ne.symm (lt hTI) | exact Ne.symm (lt hTO) | exact Ne.symm hil1 | exact Ne.symm hil2
        exact (FpOk.upd (FpOk.upd (hf q hq) hqT) hqs)
      · obtain ⟨T, f, oT, q1, q2, q3, q4, q5, q6, q7⟩ := hz'
        obtain ⟨b1, b2, hTO'⟩ := hTO'
        exact ⟨fr (Ne.symm sTI) hTI', ⟨b1, b2, fr (Ne.symm sTO) hTO'⟩, .inr ⟨T, f, oT, fr (Ne.symm sz) q1, fr q3 q2, q3, q4, q5, q6, q7⟩⟩
      · exact D1.frame _ _ _ d1 fun q hq o x => fr (by
          have e' : q = i1 ∨ q = a := by simpa using hq
          rcases e' with x | x <;> rw [x] <;> first | exact Ne.symm s1 | exact Ne.symm sa) x
      · exact D2.frame _ _ _ d2 fun q hq o x => fr (by
          have e' : q = i2 ∨ q = d := by simpa using hq
          rcases e' with x | x <;> rw [x] <;> first | exact Ne.symm s2 | exact Ne.symm sd) x
    rcases hz with hz | ⟨T, f, oT, hz, hT, t1, t2, t3, t4, t5⟩
    · refine wpAny_bind (wpAny_pyNext_zipD2_item Ap.s D1 D2 hz hTI hTO st1 st2 (by omega) (by omega) fun x1 x2 h' tk y1 y2 b1 b2 d1 d2 b5 b6 hk' => ?_)
      exact step x1 x2 h' tk y1 y2 (hk' _ _ Ap.s.TIz Ap.s.TITO Ap.s.TIi1 Ap.s.TIi2 hTI) ⟨_, _, b2⟩ ⟨s.heap.objs.size, false, _, b1, b5, hSl, hzl, lt hTO, hil1, hil2⟩ d1 d2 b5 hk'
    · refine wpAny_bind (nextZ_item Ap.s D1 D2 hz hT hTI st1 st2 (by omega) (by omega) fun x1 x2 h' tk y1 y2 b1 d1 d2 b5 b6 hk' => ?_)
      exact step x1 x2 h' tk y1 y2 (hk' _ _ Ap.s.TIz Ap.s.TIi1 Ap.s.TIi2 hTI) ⟨_, _, hk' _ _ Ap.s.TOz Ap.s.Ti1 Ap.s.Ti2 hTO⟩ ⟨T, true, oT, b1, hk' _ _ t2 t4 t5 hT, t1, t2, t3, t4, t5⟩ d1 d2 b5 fun c o h1 _ h3 h4 x => hk' c o h1 h3 h4 x
end Dw

set_option Elab.async false
set_option linter.all false
set_option maxRecDepth 100000
namespace Dw
open PySem PySem.Spec L2 PyProof.Rows
theorem zip_noLen : typeLookup (.type "zip") "__len__" = pure none := by rw [typeLookup_type, builtinLookup_eq_fast]; kernel_rfl
theorem zip_noHint : typeLookup (.type "zip") "__length_hint__" = pure none := by rw [typeLookup_type, builtinLookup_eq_fast]; kernel_rfl
/-- list(z), z a new zip -/
theorem call_list_zip {X : Cx} {pins : List (Addr × Obj)} {σ : L2.St} {H : Hp} {s : Shared} {b c : Bool} {z TI TO i1 i2 a d : Addr} {its1 its2 : List Value} {xs ys : List V} {Q : VK} (hc : X.calm = true) (Ap : ZipAp z TI TO i1 i2 a d)
    (r1 : Vals xs its1) (r2 : Vals ys its2) (I : Inv X pins σ H s) (hz : IsZip s.heap z TI TO .none) (hTI : IsTupOf2 s.heap TI (.ref i1) (.ref i2)) (hTO : ∃ a1 a2, IsTupOf2 s.heap TO a1 a2)
    (st1 : ItB b s.heap i1 a 0 ∧ IsB b s.heap a its1.toArray) (st2 : ItB c s.heap i2 d 0 ∧ IsB c s.heap d its2.toArray) (hf : ∀ q ∈ [z, TI, TO, i1, i2], FpOk X pins H q)
    (la : a < s.heap.objs.size) (ld : d < s.heap.objs.size) (hn : min xs.length ys.length ≤ sizeLine)
    (h0 : ∀ S, H S = none → ∃ P : Nat → Hp → List V → Prop, P 0 (upd H S (.lst [])) [] ∧ (∀ i H' vs x y T, P i H' vs → H' S = some (.lst vs) → H' T = none → T ≠ S → xs[i]? = some x → ys[i]? = some y → P (i + 1) (upd (upd H' T (.tup [x, y])) S (.lst (vs ++ [.ref T]))) (vs ++ [.ref T])) ∧
      ∀ H' vs', H' S = some (.lst vs') → P (min xs.length ys.length) H' vs' → Q (.ref S) H') :
    wpAny (model X.prog X.w) X.A (call (.type "list") [.ref z]) (EP X pins σ Q) X.xe s := by
  obtain ⟨P, p0, pS, pE⟩ := h0 s.heap.objs.size (I.hok.fresh (Nat.le_refl _))
  have lz : z < s.heap.objs.size := Heap.lt_size hz
  have lTI : TI < s.heap.objs.size := Heap.lt_size hTI
  have lTO : TO < s.heap.objs.size := by obtain ⟨_, _, e⟩ := hTO; exact Heap.lt_size e
  have l1 : i1 < s.heap.objs.size := by obtain ⟨_, q, _⟩ := st1.1.obj; exact Heap.lt_size q
  have l2 : i2 < s.heap.objs.size := by obtain ⟨_, q, _⟩ := st2.1.obj; exact Heap.lt_size q
  refine callType_codes (Q₁ := fun obj s₁ => obj = .ref s.heap.objs.size ∧ s₁ = { s with heap := s.heap.push { cls := .type "list", data := .seq #[] } }) F.called_list (F.typeCall_list_1 _) F.entry_list_init
    (code_list_new _ ⟨rfl, rfl⟩) fun obj s₁ h₁ => ?_
  obtain ⟨rfl, rfl⟩ := h₁
  have hS : (s.heap.push { cls := .type "list", data := .seq #[] }).get? s.heap.objs.size = some { cls := .type "list", data := .seq #[] } := Heap.get?_push_size _ rfl
  refine ⟨⟨_, hS, rfl⟩, F.args_list_init_2 _ _, ?_⟩
  show wpAny _ X.A.in1.in1 (do let old ← Builtin.List.listItems (.ref s.heap.objs.size); Builtin.List.listUpdate (.ref s.heap.objs.size) (fun _ => #[]); letGo old.toList.reverse; Builtin.List.listExtendWith (.ref s.heap.objs.size) (.ref z) .none) _ _ _
  refine wpAny_bind ?_
  unfold Builtin.List.listItems
  refine wpAny_bind (wpAny_seqItems hS rfl (wpAny_pure ?_))
  show wpAny _ X.A.in1.in1 (updateSeq s.heap.objs.size (fun _ => #[]) >>= fun _ => letGo (#[] : Array Value).toList.reverse >>= fun _ => Builtin.List.listExtendWith (.ref s.heap.objs.size) (.ref z) .none) _ _ _
  refine wpAny_bind (wpAny_updateSeq hS rfl ?_)
  have hS2 := Heap.get?_update_self (Obj.mapSeq (fun _ => (#[] : Array Value))) hS rfl
  refine wpAny_bind (wpAny_letGo ?_)
  unfold Builtin.List.listExtendWith
  have up : ∀ (h : Heap) (f : Obj → Obj), (∀ b o, s.heap.get? b = some o → h.get? b = some o) → ∀ b o, s.heap.get? b = some o → (h.update s.heap.objs.size f).get? b = some o := fun h f q b o e =>
    (Heap.get?_update_other _ _ (Ne.symm (Nat.ne_of_lt (Heap.lt_size e)))).trans (q b o e)
  have k1 : ∀ b o, s.heap.get? b = some o → (s.heap.push { cls := .type "list", data := .seq #[] }).get? b = some o := fun b o e => Heap.get?_push_of_some _ e
  have k2 := up _ (Obj.mapSeq (fun _ => (#[] : Array Value))) k1
  have gty : ∀ {h : Heap}, (∀ b o, s.heap.get? b = some o → h.get? b = some o) → Shared.TypeIs { s with heap := h } (.ref z) "zip" := fun {h} q => ⟨_, q _ _ hz, rfl⟩
  refine wpAny_bind (wpAny_typeOf (gty k2) ?_)
  have h1 : Builtin.List.listSameRef (.ref s.heap.objs.size) (.ref z) = false := by simp [Builtin.List.listSameRef, Nat.ne_of_gt lz]
  have h2 : (Value.type "zip" == Value.type "list") = false := by decide
  have h3 : (Value.type "zip" == Value.type "tuple") = false := by decide
  simp only [h1, h2, h3, Bool.or_false, Bool.false_eq_true, if_false]
  refine wpAny_bind (wpAny_pyIter_zip (s := { s with heap := _ }) (k2 _ _ hz) ?_)
  refine wpAny_bind (wpAny_holding ?_)
  unfold Builtin.List.listLengthHint
  refine wpAny_bind (wpAny_specialOf (gty k2) zip_noLen ?_)
  show wpAny _ X.A.in1.in1 (specialOf (Value.ref z) (Str.ofString "__length_hint__") >>= _) _ _ _
  refine wpAny_bind (wpAny_specialOf (gty k2) zip_noHint ?_)
  refine wpAny_pure ?_
  show wpAny _ X.A.in1.in1 (rule "list.extend.makes-room" >>= fun _ => Builtin.List.listTouch (.ref s.heap.objs.size) >>= fun _ =>
    again (.builtin "list.extend.loop" ⟨[.ref s.heap.objs.size, .ref z, .none], []⟩)) _ _ _
  refine wpAny_bind (wpAny_rule ?_)
  refine wpAny_bind ?_
  show wpAny _ X.A.in1.in1 (updateSeq s.heap.objs.size (·.push .none) >>= fun _ => updateSeq s.heap.objs.size (·.pop)) _ _ _
  refine wpAny_bind (wpAny_updateSeq hS2 rfl ?_)
  have hS3 := Heap.get?_update_self (Obj.mapSeq (·.push Value.none)) hS2 rfl
  refine wpAny_updateSeq (hz := by seq_fits) hS3 rfl ?_
  have hS4 := Heap.get?_update_self (Obj.mapSeq (·.pop)) hS3 rfl
  have k4 := up _ (Obj.mapSeq (·.pop)) (up _ (Obj.mapSeq (·.push Value.none)) k2)
  refine wpAny_pure ⟨plainId_quiet F.plain_extend_loop _, ?_⟩
  have I4 := I.laid (t' := s.toks) (o := .lst []) k4 (Nat.le_refl _) (show ObjOk X.prog X.w _ _ _ (.lst []) from ⟨by simp, [], _, .nil, hS4⟩)
  refine zip_loop (pins := pins) (σ := σ) (b := b) (c := c) (a := a) (d := d) (its1 := its1) (its2 := its2) (xs := xs) (ys := ys) Ap ⟨Nat.ne_of_gt lz, Nat.ne_of_gt lTI, Nat.ne_of_gt lTO, Nat.ne_of_gt l1, Nat.ne_of_gt l2, Nat.ne_of_gt la, Nat.ne_of_gt ld⟩ r1 r2 (A := X.A.in1) (I.ok.hd hc) .none P pS
    (fun s' H' vs' I' hS' p' => ⟨rfl, .ref s.heap.objs.size, H', I', rfl, pE H' vs' hS' p'⟩) hn _ 0 _ _ [] rfl (Nat.zero_le _) rfl I4 upd_same p0 (fun q hq => FpOk.upd (hf q hq) ?_) ?_ ?_ ?_
  · have e' : q = z ∨ q = TI ∨ q = TO ∨ q = i1 ∨ q = i2 := by simpa using hq
    rcases e' with x | x | x | x | x <;> rw [x] <;> apply Nat.ne_of_lt <;> assumption
  · obtain ⟨a1, a2, hTO⟩ := hTO
    exact ⟨k4 _ _ hTI, ⟨a1, a2, k4 _ _ hTO⟩, .inl (k4 _ _ hz)⟩
  · exact ⟨st1.1.at fun o q => k4 _ o q, (drawsB (prog := X.prog) (w := X.w) (A := X.A) b (I.ok.hd hc) i1 a Ap.a1 its1.toArray).frame 0 _ _ st1 (fun q _ o x => k4 q o x) |>.2⟩
  · exact ⟨st2.1.at fun o q => k4 _ o q, (drawsB (prog := X.prog) (w := X.w) (A := X.A) c (I.ok.hd hc) i2 d Ap.d2 its2.toArray).frame 0 _ _ st2 (fun q _ o x => k4 q o x) |>.2⟩
/-- list(zip(e, e2)) -/
def tLstZip (K : PySem.W.Frag) (ta : TA) : TE := fun σ H Q => ta σ H fun vs H1 => ∃ b c a d xs ys, vs = [.ref a, .ref d] ∧ SqB b K H1 a xs ∧ SqB c K H1 d ys ∧ min xs.length ys.length ≤ sizeLine ∧
  ∀ S, H1 S = none → ∃ P : Nat → Hp → List V → Prop, P 0 (upd H1 S (.lst [])) [] ∧ (∀ i H' vs x y T, P i H' vs → H' S = some (.lst vs) → H' T = none → T ≠ S → xs[i]? = some x → ys[i]? = some y → P (i + 1) (upd (upd H' T (.tup [x, y])) S (.lst (vs ++ [.ref T]))) (vs ++ [.ref T])) ∧
      ∀ H' vs', H' S = some (.lst vs') → P (min xs.length ys.length) H' vs' → Q (.ref S) H'
theorem pe_lstZip {X : Cx} {e e2 : Expr} {ta : TA} {p pos p0 pos0 : Pos} (hc : X.calm = true) (hgl : Gl X "list") (hml : X.mg "list" = none) (hg : Gl X "zip") (hm : X.mg "zip" = none) (ha : PA X [e, e2] ta)
    (hs : starEach [e, e2] X.env = (false, eval e X.env) :: starEach [e2] X.env := by rfl) (hpl : (backTo pos (starEach [e2] X.env)).any (·.1) = false := by rfl)
    (na : starEach [.Call (.Name "zip" p) [e, e2] [] pos] X.env = (false, eval (.Call (.Name "zip" p) [e, e2] [] pos) X.env) :: starEach [] X.env := by rfl) :
    PE X (.Call (.Name "list" p0) [.Call (.Name "zip" p) [e, e2] [] pos] [] pos0) (tLstZip X.K ta) := by
  refine ⟨fun pins s σ H Q I h => ?_⟩
  refine Call_ (ld_blt I hgl hml boot_list (PyProof.Rows.callWith_type1 (args_cons ?_ na) na))
  refine PyProof.Rows.Call_ (ld_blt I hg hm PyProof.Rows.boot_zip (PyProof.Rows.callWith_type1 (thn (ha.run pos pins s σ H _ I h) fun us s1 ⟨vs, H1, I1, r1, q1⟩ => ?_) hs hpl))
  obtain ⟨b, c, a, d, xs, ys, ex, hq1, hq2, hn, q⟩ := q1
  subst ex
  cases r1 with
  | cons r rr =>
    cases rr with
    | cons r' rr =>
      cases rr
      cases r
      cases r'
      obtain ⟨its1, rv1, p1, _⟩ := seqB I1 hq1
      obtain ⟨its2, rv2, p2, _⟩ := seqB I1 hq2
      refine zip_begins2 (beginsB b a its1.toArray) (beginsB c d its2.toArray) p1 p2 fun h' hz hTI hTO h1 h2 hsz hk => args_nil ?_
      have I2 : Inv X pins σ H1 { s1 with heap := h' } := I1.kept (t' := s1.toks) hk
      have la : a < s1.heap.objs.size := p1.lt
      have ld : d < s1.heap.objs.size := p2.lt
      have S : ZipAp (s1.heap.objs.size + 4) (s1.heap.objs.size + 2) (s1.heap.objs.size + 3) s1.heap.objs.size (s1.heap.objs.size + 1) a d :=
        ⟨zip_sep2 (fun e hb => by have : e = a := by simpa using hb
                                  rw [this]; exact la) (fun e hb => by have : e = d := by simpa using hb
                                                                       rw [this]; exact ld), Nat.ne_of_lt la, Nat.ne_of_lt (Nat.lt_succ_of_lt ld)⟩
      have q1 := (drawsB (prog := X.prog) (w := X.w) (A := X.A) b (I1.ok.hd hc) s1.heap.objs.size a S.a1 its1.toArray).frame 0 h' h' ⟨ItB.new h1, ?_⟩ fun _ _ _ x => x
      have q2 := (drawsB (prog := X.prog) (w := X.w) (A := X.A) c (I1.ok.hd hc) (s1.heap.objs.size + 1) d S.d2 its2.toArray).frame 0 h' h' ⟨ItB.new h2, ?_⟩ fun _ _ _ x => x
      refine call_list_zip (s := { s1 with heap := h' }) hc S rv1 rv2 I2 hz hTI ⟨_, _, hTO⟩ q1 q2 (fun e hb => ?_) (Nat.lt_of_lt_of_le la (by show s1.heap.objs.size ≤ h'.objs.size; rw [hsz]; exact Nat.le_add_right _ _)) (Nat.lt_of_lt_of_le ld (by show s1.heap.objs.size ≤ h'.objs.size; rw [hsz]; exact Nat.le_add_right _ _)) hn q
      · have e' : e = s1.heap.objs.size + 4 ∨ e = s1.heap.objs.size + 2 ∨ e = s1.heap.objs.size + 3 ∨ e = s1.heap.objs.size ∨ e = s1.heap.objs.size + 1 := by simpa using hb
        have hle : s1.heap.objs.size ≤ e := by
          rcases e' with z | z | z | z | z
          · rw [z]; exact Nat.le_add_right _ _
          · rw [z]; exact Nat.le_add_right _ _
          · rw [z]; exact Nat.le_add_right _ _
          · rw [z]; exact Nat.le_refl _
          · rw [z]; exact Nat.le_add_right _ _
        exact I1.fpOk hle (I1.hok.fresh hle)
      · cases c with
        | true => exact let ⟨o, ho, rest⟩ := p2; ⟨o, hk _ _ ho, rest⟩
        | false => exact let ⟨o, ho, rest⟩ := p2; ⟨o, hk _ _ ho, rest⟩
      · cases b with
        | true => exact let ⟨o, ho, rest⟩ := p1; ⟨o, hk _ _ ho, rest⟩
        | false => exact let ⟨o, ho, rest⟩ := p1; ⟨o, hk _ _ ho, rest⟩
section
variable {X : Cx} {a b : Expr} {ga : Mr (List PyData)} {p pos p0 pos0 : Pos}
theorem DpAll.one {K : PySem.W.Frag} {F : Hp} {v : V} {d : PyData} (h : Dp K F v d) : DpAll K F [v] [d] := .cons h .nil
noncomputable def mLz (ga : Mr (List PyData)) : Mr (List PyData) := fun ρ => (mIt pZip ga ρ).bind fun ds => @ite _ (ds.length ≤ sizeLine) (Classical.propDecidable _) (some ds) none
theorem dl_zip (hml : X.mg "list" = none) (hm : X.mg "zip" = none) (h : DA X [a, b] ga) (hc : X.calm = true := by rfl) (hgl : Gl X "list" := by rfl) (hg : Gl X "zip" := by rfl) (hn1 : noStar a = true := by rfl) (hn2 : noStar b = true := by rfl)
    (na : starEach [.Call (.Name "zip" p) [a, b] [] pos] X.env = (false, eval (.Call (.Name "zip" p) [a, b] [] pos) X.env) :: starEach [] X.env := by rfl) :
    DL X (.Call (.Name "list" p0) [.Call (.Name "zip" p) [a, b] [] pos] [] pos0) (mLz ga) := by
  refine ⟨?_⟩
  intro F0 H0 ρ σ H F ds Q r hf q
  obtain ⟨ds', hf, hsz⟩ := Option.bind_eq_some_iff.mp hf
  have hle : ds'.length ≤ sizeLine := by
    by_cases hx : ds'.length ≤ sizeLine
    · exact hx
    · rw [if_neg hx] at hsz; cases hsz
  rw [if_pos hle] at hsz
  cases hsz
  obtain ⟨zs, h1, h2⟩ := Option.bind_eq_some_iff.mp hf
  unfold pZip at h2
  split at h2
  · obtain ⟨xs, ys, h4, h5, h6⟩ := bind2 h2
    cases h6
    refine we_of (pe_lstZip hc hgl hml hg hm pa_wa (star_cons hn1) (star_any (by simp [hn2])) na) (h.run F0 H0 ρ σ H F _ _ r h1 fun v H1 F1 e1 d1 => ?_)
    cases d1 with
    | cons d1 d2 =>
      cases d2 with
      | cons d2 d3 =>
        cases d3
        obtain ⟨b1, a1, vs1, rfl, hs1, ha1⟩ := sqB_dp d1 h4
        obtain ⟨b2, a2, vs2, rfl, hs2, ha2⟩ := sqB_dp d2 h5
        have hl1 := ha1.len
        have hl2 := ha2.len
        have hlz : (zipD xs ys).length = min vs1.length vs2.length := by simp [zipD, hl1, hl2]
        refine ⟨b1, b2, a1, a2, vs1, vs2, rfl, hs1.same e1.fh, hs2.same e1.fh, by rw [← hlz]; exact hle, ?_⟩
        intro S hS
        refine ⟨fun i H' vs => ∃ F' : Hp, Ext F1 H1 F' H' ∧ F' S = none ∧ DpAll X.K F' vs ((zipD xs ys).take i), ?_, ?_, ?_⟩
        · exact ⟨F1, .keep e1.fh hS, e1.fh.free hS, .nil⟩
        · rintro i H' vs x y T ⟨F', e', hFS, hd⟩ hHS hT hTS hx hy
          obtain ⟨dx, g1, g2⟩ := ha1.getV hx
          obtain ⟨dy, g3, g4⟩ := ha2.getV hy
          have e2 : Ext F' H' (upd F' T (.tup [x, y])) (upd H' T (.tup [x, y])) := .alloc e'.fh hT
          have hFT : F' T = none := e'.fh.free hT
          have hFS2 : upd F' T (.tup [x, y]) S = none := by rw [upd_ne (Ne.symm hTS)]; exact hFS
          have e3 := e'.trans e2
          refine ⟨upd F' T (.tup [x, y]), ⟨e3.ff, same_updR e3.hh hS, same_updR e3.fh hFS2, e3.new⟩, hFS2, ?_⟩
          have ht : (zipD xs ys).take (i + 1) = (zipD xs ys).take i ++ [.tuple [dx, dy]] := by
            have hg : (zipD xs ys)[i]? = some (.tuple [dx, dy]) := by simp [zipD, List.getElem?_zipWith, g1, g3]
            rw [List.take_add_one, hg]
            rfl
          rw [ht]
          refine (hd.same (same_upd hFT)).app (.cons (.tup (.inl (.inl upd_same)) ?_) .nil)
          have s3 := e'.ff.trans (same_upd (o := .tup [x, y]) hFT)
          exact .cons (g2.same s3) (.cons (g4.same s3) .nil)
        · rintro H' vs' hHS ⟨F', e', hFS, hd⟩
          rw [← hlz, List.take_length] at hd
          exact q S vs' H' F' (e1.trans e') (e1.hh.free hS) hHS hFS hd
  · cases h2
end
end Dw

set_option Elab.async false
set_option linter.all false
set_option maxRecDepth 100000
namespace Dw
open PySem PySem.Spec L2
/-! ### list(range(..)) -/
/-- a list made of what an iterable gives -/
noncomputable def mLi (fi : Mr (List PyData)) : Mr (List PyData) := fun ρ => (fi ρ).bind fun ds => @ite _ (ds.length ≤ sizeLine) (Classical.propDecidable _) (some ds) none
theorem mLi_some {fi : Mr (List PyData)} {ρ : Rho} {ds : List PyData} (h : mLi fi ρ = some ds) : fi ρ = some ds ∧ ds.length ≤ sizeLine := by
  obtain ⟨ds', h1, h2⟩ := Option.bind_eq_some_iff.mp h
  by_cases hx : ds'.length ≤ sizeLine
  · rw [if_pos hx] at h2
    cases h2
    exact ⟨h1, hx⟩
  · rw [if_neg hx] at h2; cases h2
section
variable {X : Cx} {a b : Expr} {fa fb : Mr PyData} {ga : Mr (List PyData)} {p pos p0 pos0 : Pos}
theorem dl_lzip (hml : X.mg "list" = none) (hm : X.mg "zip" = none) (h : DA X [a, b] ga) (hc : X.calm = true := by rfl) (hgl : Gl X "list" := by rfl) (hg : Gl X "zip" := by rfl) (hn1 : noStar a = true := by rfl) (hn2 : noStar b = true := by rfl)
    (na : starEach [.Call (.Name "zip" p) [a, b] [] pos] X.env = (false, eval (.Call (.Name "zip" p) [a, b] [] pos) X.env) :: starEach [] X.env := by rfl) :
    DL X (.Call (.Name "list" p0) [.Call (.Name "zip" p) [a, b] [] pos] [] pos0) (mLi (mIt pZip ga)) := dl_zip hml hm h hc hgl hg hn1 hn2 na
theorem rg_dp {K : PySem.W.Frag} {F : Hp} (i j : Int) : DpAll K F (rgV i j) (rng i (j - i).toNat) := by
  unfold rgV rng
  generalize (j - i).toNat = n
  induction n with
  | zero => exact .nil
  | succ n ih =>
    rw [List.range_succ, List.map_append, List.map_append]
    exact ih.app (.cons (.int _) .nil)
theorem dl_lrng2 (hml : X.mg "list" = none) (hm : X.mg "range" = none) (ha : DE X a fa) (hb : DE X b fb) (hc : X.calm = true := by rfl) (hgl : Gl X "list" := by rfl) (hg : Gl X "range" := by rfl) (hn1 : noStar a = true := by rfl) (hn2 : noStar b = true := by rfl)
    (na : starEach [.Call (.Name "range" p) [a, b] [] pos] X.env = (false, eval (.Call (.Name "range" p) [a, b] [] pos) X.env) :: starEach [] X.env := by rfl) :
    DL X (.Call (.Name "list" p0) [.Call (.Name "range" p) [a, b] [] pos] [] pos0) (mLi (mIt pRng2 (mCons fa (mCons fb mNil)))) := by
  refine ⟨?_⟩
  intro F0 H0 ρ σ H F ds Q r hf q
  obtain ⟨hf, hle⟩ := mLi_some hf
  obtain ⟨zs, h1, h2⟩ := Option.bind_eq_some_iff.mp hf
  obtain ⟨x, ys, h3, h4, h5⟩ := bind2 h1
  cases h5
  obtain ⟨y, es, h6, h7, h8⟩ := bind2 h4
  cases h8
  cases h7
  refine we_of (pe_listRg hc hgl hml (prg_2 hg hm pe_we pe_we (star_cons hn1) (star_cons hn2) (star_any (by simp [hn2]))) na) ?_
  refine two (Q := Q) ha hb r h3 h6 fun v u H1 F1 e1 d1 d2 => ?_
  unfold pRng2 at h2
  split at h2
  · rename_i i j hij
    injection hij with e1' e2'
    injection e2' with e2' _
    subst e1' e2'
    cases d1
    cases d2
    by_cases hr : (rOk i && rOk j) = true
    · rw [if_pos hr] at h2
      cases h2
      simp only [rOk, Bool.and_eq_true, decide_eq_true_eq] at hr
      rw [rng, List.length_map, List.length_range] at hle
      refine ⟨i, j, rfl, rfl, ⟨hr.1.1, hr.1.2, hr.2.1, hr.2.2, hle⟩, fun p hp => ?_⟩
      exact q p _ _ F1 (e1.trans (.keep e1.fh hp)) (e1.hh.free hp) upd_same (e1.fh.free hp) (rg_dp i j)
    · rw [if_neg hr] at h2; cases h2
  · cases h2
/-! ### {k: v, ..}[e] -/
def toKey : PyData → Option Key
  | .int i => some (.inl i)
  | .str s => some (.inr s)
  | _ => none
def lkD (k : Key) : List Key → List PyData → Option PyData → Option PyData
  | k' :: ks, d :: ds, o => lkD k ks ds (if k = k' then some d else o)
  | _, _, o => o
def mDix (ks : List Key) (g : Mr (List PyData)) (fi : Mr PyData) : Mr PyData := fun ρ => (g ρ).bind fun ds => (fi ρ).bind fun x => (toKey x).bind fun k => lkD k ks ds none
theorem lk_merge {K : PySem.W.Frag} {F : Hp} (k : Key) : ∀ (ks : List Key) {vs : List V} {ds : List PyData} {acc : List (Key × V)} {o : Option PyData} {d : PyData}, DpAll K F vs ds → (∀ d, o = some d → ∃ v, valV acc k = some v ∧ Dp K F v d) → lkD k ks ds o = some d → ∃ v, valV (mergeK acc (ks.zip vs)) k = some v ∧ Dp K F v d
  | [], _, _, _, _, _, _, ho, h => ho _ h
  | k' :: ks, _, _, _, _, _, .nil, ho, h => ho _ h
  | k' :: ks, _, _, acc, o, d, .cons (v := v) (d := d') h1 h2, ho, h => by
    rw [List.zip_cons_cons]
    show ∃ w, valV (mergeK (putK acc k' v) _) k = some w ∧ _
    refine lk_merge k ks h2 (fun e he => ?_) h
    by_cases hk : k = k'
    · rw [if_pos hk] at he
      cases he
      exact ⟨v, by rw [valV_put, if_pos hk], h1⟩
    · rw [if_neg hk] at he
      obtain ⟨u, q1, q2⟩ := ho e he
      exact ⟨u, by rw [valV_put, if_neg hk]; exact q1, q2⟩
/-- the pairs of a display: constant keys -/
structure DPs (X : Cx) (pos : Pos) (keys : List (Option Expr)) (values : List Expr) (ks : List Key) (g : Mr (List PyData)) : Prop where
  run : ∃ trs, PPs X pos keys values trs ∧ ∀ F0 H0 ρ σ H F ds (Q : List (V × V) → Hp → Prop), Rl X.K F0 H0 ρ σ H F → g ρ = some ds →
    (∀ vs H' F', Ext F H F' H' → DpAll X.K F' vs ds → Q (ks.zipWith (fun k v => (kV k, v)) vs) H') → tPairs trs σ H Q
theorem dp_nil : DPs X pos [] [] [] mNil := ⟨[], pps_nil, fun F0 H0 ρ σ H F ds Q r h q => by
  cases h
  exact q [] H F (.refl r.fh) .nil⟩
theorem dp_cons {k v : Expr} {fv : Mr PyData} {ks : List (Option Expr)} {vs : List Expr} {kk : List Key} {g : Mr (List PyData)} {key : Key} (hk : PE X k (tC (kV key))) (hv : DE X v fv) (hr : DPs X pos ks vs kk g) :
    DPs X pos (some k :: ks) (v :: vs) (key :: kk) (mCons fv g) := by
  obtain ⟨trs, h1, h2⟩ := hr
  refine ⟨(tC (kV key), WE X v) :: trs, pps_cons hk pe_we h1, fun F0 H0 ρ σ H F ds Q r h q => ?_⟩
  obtain ⟨d, es, g1, g2, g3⟩ := bind2 h
  cases g3
  show WE X v σ H _
  refine hv.run F0 H0 ρ σ H F d _ r g1 fun u H1 F1 e1 d1 => ?_
  refine h2 F0 H0 ρ σ H1 F1 es _ (r.more e1) g2 fun us H2 F2 e2 d2 => ?_
  exact q (u :: us) H2 F2 (e1.trans e2) (.cons (d1.same e2.ff) d2)
theorem pe_keyI {i : Int} {j : Nat} {pos : Pos} : PE X (.Constant (.int i) j pos) (tC (kV (.inl i))) := pe_int
theorem pe_keyS {x : Str} {j : Nat} {pos : Pos} : PE X (.Constant (.str x) j pos) (tC (kV (.inr x))) := pe_str
theorem de_dix {keys : List (Option Expr)} {values : List Expr} {ks : List Key} {g : Mr (List PyData)} {i : Expr} {fi : Mr PyData} {dpos : Pos} (hu : X.A.units + 1 < cLine) (hp : DPs X dpos keys values ks g) (hi : DE X i fi) (hn : noSlice i = true := by rfl)
    (hl : ∀ ρ ds, g ρ = some ds → ds.length = ks.length := by intro ρ ds h; exact absurd h (by simp)) (h0 : keys.all (·.isSome) = true := by rfl) (h1 : keys.length = values.length := by rfl) (h2 : keys ≠ [] := by simp) (h15 : keys.length ≤ 15 := by decide) (hk15 : ks.length ≤ 15 := by decide) :
    DE X (.Subscript (.Dict keys values dpos) i pos) (mDix ks g fi) := by
  refine ⟨?_⟩
  intro F0 H0 ρ σ H F d Q r hf q
  obtain ⟨ds, f1, hf⟩ := Option.bind_eq_some_iff.mp hf
  obtain ⟨x, f2, hf⟩ := Option.bind_eq_some_iff.mp hf
  obtain ⟨k, f3, f4⟩ := Option.bind_eq_some_iff.mp hf
  obtain ⟨trs, g1, g2⟩ := hp
  refine we_of (pe_dget hu (pe_disp g1 h0 h1 h2 h15) pe_we (plain_ix hn)) ?_
  intro p hp
  have e0 : Ext F H F (upd H p (.dK [])) := .keep r.fh hp
  refine g2 F0 H0 ρ σ _ F ds _ (r.more e0) f1 fun vs H1 F1 e1 d1 => ?_
  have hF1 : F1 p = none := by
    cases hq : F1 p with
    | none => rfl
    | some o =>
      have := e1.new p o hq (r.fh.free hp)
      rw [upd_same] at this
      cases this
  have hlen : vs.length = ks.length := by rw [d1.len, hl ρ ds f1]
  refine ⟨e1.hh _ _ upd_same, ks.zip vs, ?_, ?_, ?_⟩
  · rw [List.zip, List.map_zipWith]
  · rw [List.length_zip]; omega
  have e01 := e0.trans e1
  have e2 : Ext F H F1 (upd H1 p (.dK (mergeK [] (ks.zip vs)))) := ⟨e01.ff, same_updR e01.hh hp, same_updR e01.fh hF1, e01.new⟩
  refine hi.run F0 H0 ρ σ _ F1 x _ (r.more e2) f2 fun u H3 F3 e3 d3 => ?_
  obtain ⟨v, v1, v2⟩ := lk_merge (acc := []) (o := none) k ks d1 (fun d h => by cases h) f4
  refine ⟨p, v, rfl, .inl ⟨_, k, .of (e3.hh _ _ upd_same), ?_, v1.symm⟩, q v H3 F3 (e2.trans e3) (v2.same e3.ff)⟩
  cases x <;> first | cases f3 | skip
  · cases d3; rfl
  · cases d3; rfl
end
end Dw

set_option Elab.async false
set_option linter.all false
set_option maxRecDepth 100000
namespace Dw
open PySem PySem.Spec L2
theorem u1 {k : Nat} {A : Around} (r : Room k A) : A.units + 1 < cLine := by have := r.un; omega
section
variable {X : Cx} {a b : Expr} {fa fb : Mr PyData} {pos p2 : Pos} {lo hi : Option Expr} {fl fh : Mr (Option Int)}
/-- a + b, new lists -/
noncomputable def mAddL (fa fb : Mr PyData) : Mr (List PyData) := fun ρ => (fa ρ).bind fun x => (fb ρ).bind fun y => match x, y with
  | .list xs, .list ys => @ite _ (xs.length + ys.length ≤ sizeLine) (Classical.propDecidable _) (some (xs ++ ys)) none
  | _, _ => none
theorem dl_add (ha : DE X a fa) (hb : DE X b fb) : DL X (.BinOp a .Add b pos) (mAddL fa fb) := by
  refine ⟨?_⟩
  intro F0 H0 ρ σ H F ds Q r hf q
  obtain ⟨x, y, h1, h2, h3⟩ := bind2 hf
  split at h3
  · rename_i xs ys
    by_cases hz : xs.length + ys.length ≤ sizeLine
    · rw [if_pos hz] at h3
      cases h3
      refine we_of (pe_op op_catL pe_we pe_we) ?_
      refine two (Q := Q) ha hb r h1 h2 fun v u H' F' e d1 d2 => ?_
      cases d1 with
      | lst s1 a1 =>
        cases d2 with
        | lst s2 a2 =>
          have l1 := a1.len
          have l2 := a2.len
          exact ⟨_, _, _, _, rfl, rfl, e.fh.seq s1, e.fh.seq s2, by omega, fun p hp => q p _ _ F' (e.trans (.keep e.fh hp)) (e.hh.free hp) upd_same (e.fh.free hp) (a1.app a2)⟩
    · rw [if_neg hz] at h3; cases h3
  · cases h3
/-- a[lo:hi], a new list -/
def mSlL (fa : Mr PyData) (fl fh : Mr (Option Int)) : Mr (List PyData) := fun ρ => (fa ρ).bind fun x => (fl ρ).bind fun l => (fh ρ).bind fun h => match x with
  | .list xs => some (cutD xs l h)
  | _ => none
theorem dl_sl (ha : DE X a fa) (hl : DO X lo fl) (hh : DO X hi fh) : DL X (.Subscript a (.Slice lo hi none p2) pos) (mSlL fa fl fh) := by
  refine ⟨?_⟩
  intro F0 H0 ρ σ H F ds Q r hf q
  obtain ⟨x, h1, hf⟩ := Option.bind_eq_some_iff.mp hf
  obtain ⟨l, u, h2, h3, h4⟩ := bind2 hf
  refine we_of (pe_slice (sl_tupA.or (sl_list.or sl_str)) pe_we po_wo po_wo) ?_
  refine ha.run F0 H0 ρ σ H F _ _ r h1 fun v H1 F1 e1 d1 => ?_
  refine hl.run F0 H0 ρ σ H1 F1 _ _ (r.more e1) h2 fun H2 F2 e2 => ?_
  refine hh.run F0 H0 ρ σ H2 F2 _ _ (r.more (e1.trans e2)) h3 fun H3 F3 e3 => ?_
  have d1 := d1.same (e2.ff.trans e3.ff)
  have e := (e1.trans e2).trans e3
  split at h4
  · cases h4
    cases d1 with
    | lst hs ha => exact .inr (.inl ⟨_, _, rfl, e3.fh.seq hs, fun p hp => q p _ _ F3 (e.trans (.keep e3.fh hp)) (e.hh.free hp) upd_same (e3.fh.free hp) (cut_dp ha l u)⟩)
  · cases h4
end
end Dw

set_option Elab.async false
set_option linter.all false
set_option maxRecDepth 100000
/-! what raises: an expression, a statement, a def -/
namespace Dw
open PySem PySem.Spec L2
/-- where f tells a class, e raises an exception of it -/
structure RE (X : Cx) (W : WX) (e : Expr) (f : Mr Str) : Prop where
  run : ∀ F0 H0 ρ σ H F c (Q : VK), Rl X.K F0 H0 ρ σ H F → f ρ = some c → (∀ H' F', Ext F H F' H' → W (.ref (He.ga X.K c)) none σ H') → WE X e σ H Q
structure RA (X : Cx) (W : WX) (es : List Expr) (f : Mr Str) : Prop where
  run : ∀ F0 H0 ρ σ H F c (Q : List V → Hp → Prop), Rl X.K F0 H0 ρ σ H F → f ρ = some c → (∀ H' F', Ext F H F' H' → W (.ref (He.ga X.K c)) none σ H') → WA X es σ H Q
structure RS (X : Cx) (W : WX) (st : Stmt) (f : Mr Str) : Prop where
  run : ∀ F0 H0 ρ σ H F c (D : Ends), Rl X.K F0 H0 ρ σ H F → f ρ = some c → (∀ σ' H' F', Ext F0 H0 F' H' → W (.ref (He.ga X.K c)) none σ' H') → WS X st D σ H
structure RSs (X : Cx) (W : WX) (st : List Stmt) (f : Mr Str) : Prop where
  run : ∀ F0 H0 ρ σ H F c (D : Ends), Rl X.K F0 H0 ρ σ H F → f ρ = some c → (∀ σ' H' F', Ext F0 H0 F' H' → W (.ref (He.ga X.K c)) none σ' H') → WSs X st D σ H
def spR (K : PySem.W.Frag) (n : Nat) (r : List PyData → Option Str) : Sp := fun vs H _ E => ∃ F ds c, Same F H ∧ DpAll K F vs ds ∧ ds.length = n ∧ r ds = some c ∧ ∀ H' F', Ext F H F' H' → E (.ref (He.ga K c)) none H'
structure FnR (P : Program) (w : World) (K : PySem.W.Frag) (mg : Str → Option Value) (base : Heap) (k : Nat) (x : Str) (n : Nat) (r : List PyData → Option Str) : Prop where
  ex : ∃ (f : Addr) (fd : FuncData) (ps : List Str), ps.length = n ∧ FnOk P w K mg base (L2.CX P w) k f fd ps (spR K n r) ∧ mg x = some (.ref f) ∧ PySem.W.keepIn K (.ref f) = true ∧ Binds K fd ps []
/-- what is known of a class of exceptions -/
structure ExcK (K : PySem.W.Frag) (mg : Str → Option Value) (x : Str) : Prop where
  at_ : mg x = some (.ref (He.ga K x))
  exc : PySem.W.excIn K (He.ga K x) He.veBase "ValueError.__new__" = true
  keep : PySem.W.keepIn K (.ref (He.ga K x)) = true
  sub : PySem.W.subIn K (.ref (He.ga K x)) (.type "BaseException") = some true
  typ : PySem.W.typeIn K (.ref (He.ga K x)) = some (.type "type")
theorem excK_of {K : PySem.W.Frag} {h : Heap} {mg : Str → Option Value} {x : Str} (X : K.In h) (G : h.Ns mainGlobals mg) (c1 : (He.Fa.glo x).ok K = true) (c2 : (He.Fa.exc x).ok K = true) : ExcK K mg x := by
  obtain ⟨a, b, c, d⟩ := He.exc_ok c2
  exact ⟨He.glo_ok X G c1, a, b, c, d⟩
def rAlt (f g : Mr Str) : Mr Str := fun ρ => match f ρ with
  | some c => some c
  | none => g ρ
def rIf (t : Mr Bool) (f g : Mr Str) : Mr Str := fun ρ => (t ρ).bind fun b => if b = true then f ρ else g ρ
def rSeq (f : MS) (g : Mr Str) : Mr Str := fun ρ => (f ρ).bind fun o => match o with
  | .nx ρ' => g ρ'
  | _ => none
def rThen {α : Type} (f : Mr α) (g : Mr Str) : Mr Str := fun ρ => (f ρ).bind fun _ => g ρ
def rNo : Mr Str := fun _ => none
def rK (c : Str) : Mr Str := fun _ => some c
section
variable {X : Cx} {W : WX} {e : Expr} {es : List Expr} {fe : Mr PyData} {ge : Mr (List PyData)} {f g : Mr Str} {st : Stmt} {rest : List Stmt} {pos p : Pos} {x : Str} {k n : Nat}
theorem rAlt_some {ρ : Rho} {c : Str} (h : rAlt f g ρ = some c) : f ρ = some c ∨ g ρ = some c := by
  unfold rAlt at h
  split at h
  · rename_i q; cases h; exact .inl q
  · exact .inr h
theorem ra_alt (h1 : RA X W es f) (h2 : RA X W es g) : RA X W es (rAlt f g) := by
  refine ⟨?_⟩
  intro F0 H0 ρ σ H F c Q r hf q
  rcases rAlt_some hf with h | h
  · exact h1.run F0 H0 ρ σ H F c Q r h q
  · exact h2.run F0 H0 ρ σ H F c Q r h q
theorem re_alt (h1 : RE X W e f) (h2 : RE X W e g) : RE X W e (rAlt f g) := by
  refine ⟨?_⟩
  intro F0 H0 ρ σ H F c Q r hf q
  rcases rAlt_some hf with h | h
  · exact h1.run F0 H0 ρ σ H F c Q r h q
  · exact h2.run F0 H0 ρ σ H F c Q r h q
theorem rss_alt (h1 : RSs X W rest f) (h2 : RSs X W rest g) : RSs X W rest (rAlt f g) := by
  refine ⟨?_⟩
  intro F0 H0 ρ σ H F c Q r hf q
  rcases rAlt_some hf with h | h
  · exact h1.run F0 H0 ρ σ H F c Q r h q
  · exact h2.run F0 H0 ρ σ H F c Q r h q
theorem rss_no : RSs X W rest rNo := ⟨fun F0 H0 ρ σ H F c Q r hf q => by cases hf⟩
theorem ra_head (h : RE X W e f) (hn : noStar e = true := by rfl) : RA X W (e :: es) f := by
  refine ⟨?_⟩
  intro F0 H0 ρ σ H F c Q r hf q
  exact wa_of (pa_cons pe_we pa_wa (star_cons hn)) (h.run F0 H0 ρ σ H F c _ r hf q)
theorem ra_tail (h1 : DE X e fe) (h2 : RA X W es f) (hn : noStar e = true := by rfl) : RA X W (e :: es) (rThen fe f) := by
  refine ⟨?_⟩
  intro F0 H0 ρ σ H F c Q r hf q
  obtain ⟨d, f1, f2⟩ := Option.bind_eq_some_iff.mp hf
  refine wa_of (pa_cons pe_we pa_wa (star_cons hn)) (h1.run F0 H0 ρ σ H F d _ r f1 fun v H1 F1 e1 d1 => ?_)
  exact h2.run F0 H0 ρ σ H1 F1 c _ (r.more e1) f2 fun H' F' e2 => q H' F' (e1.trans e2)
theorem re_call {r : List PyData → Option Str} (tk : Takes X W) (F : FnR X.prog X.w X.K X.mg X.base k x n r) (hr : Room k X.A) (ha : DA X (e :: es) ge) (hl : ∀ ρ ds, ge ρ = some ds → ds.length = n) (hg : Gl X x := by rfl) (hdb : (x == ("__debug__" : Str)) = false := by decide) (hn1 : noStar e = true := by rfl) (hn2 : es.all noStar = true := by rfl) :
    RE X W (.Call (.Name x p) (e :: es) [] pos) (mCall r ge) := by
  refine ⟨?_⟩
  intro F0 H0 ρ σ H F1 c Q rl hf q
  obtain ⟨ds, h1, h2⟩ := Option.bind_eq_some_iff.mp hf
  obtain ⟨f, fd, ps, g1, g2, g3, g4, g5⟩ := F.ex
  refine we_of (pe_callS g2 hr hg g3 g4 g5 (fun σ => passAt tk σ) pa_wa hdb (star_cons hn1) (star_any hn2)) (ha.run F0 H0 ρ σ H F1 ds _ rl h1 fun vs H1 F2 e1 d1 => ?_)
  exact ⟨F2, ds, c, e1.fh, d1, hl ρ ds h1, h2, fun H' F' e2 => q H' F' (e1.trans e2)⟩
theorem re_args {m : List PyData → Option PyData} (F : FnD X.prog X.w X.K X.mg X.base k x n m) (hr : Room k X.A) (ha : RA X W (e :: es) f) (hg : Gl X x := by rfl) (hdb : (x == ("__debug__" : Str)) = false := by decide) (hn1 : noStar e = true := by rfl) (hn2 : es.all noStar = true := by rfl) :
    RE X W (.Call (.Name x p) (e :: es) [] pos) f := by
  refine ⟨?_⟩
  intro F0 H0 ρ σ H F1 c Q rl hf q
  obtain ⟨f', fd, ps, g1, g2, g3, g4, g5⟩ := F.ex
  exact we_of (pe_call g2 hr hg g3 g4 g5 .nil pass0 pa_wa hdb (star_cons hn1) (star_any hn2)) (ha.run F0 H0 ρ σ H F1 c _ rl hf q)
theorem re_tup {x1} (ha : RA X W es f) : RE X W (.Tuple es x1 pos) f := by
  refine ⟨?_⟩
  intro F0 H0 ρ σ H F1 c Q rl hf q
  exact we_of (pe_tup pa_wa) (ha.run F0 H0 ρ σ H F1 c _ rl hf q)
theorem re_cmp {op : CmpOp} {b : Expr} {g' : PyData → PyData → Option PyData} (ho : Op2 X (compareOp op) g') (ha : RE X W e f) (hm : behindInMarks op b = false) : RE X W (.Compare e [op] [b] pos) f := by
  refine ⟨?_⟩
  intro F0 H0 ρ σ H F1 c Q rl hf q
  obtain ⟨rr, ho, hv⟩ := ho
  exact we_of (pe_cmpR ho pe_we pe_we hm) (ha.run F0 H0 ρ σ H F1 c _ rl hf q)
/-! ### statements -/
theorem rs_raise {m : Str} {j : Nat} {p2 p3 : Pos} (tk : Takes X W) (E : ExcK X.K X.mg x) (hc : X.calm = true := by rfl) (hg : Gl X x := by rfl) (hdb : (x == ("__debug__" : Str)) = false := by decide) :
    RS X W (.Raise (some (.Call (.Name x p) [.Constant (.str m) j p2] [] p3)) none pos) (rK x) := by
  refine ⟨?_⟩
  intro F0 H0 ρ σ H F1 c Q rl hf q
  cases hf
  exact ws_of (ps_raise hc tk (pmk_own PySem.F.excBase_ValueError E.exc E.at_ E.keep (raises_own E.sub E.typ) hg hdb)) (q σ H F1 rl.ext)
theorem rs_ret (h : RE X W e f) : RS X W (.Return (some e) pos) f := by
  refine ⟨?_⟩
  intro F0 H0 ρ σ H F c D r hf q
  exact ws_of (ps_ret pe_we) (h.run F0 H0 ρ σ H F c _ r hf fun H' F' e1 => q σ H' F' (r.ext.trans e1))
theorem rs_expr (h : RE X W e f) (hn : noComp e = true := by rfl) : RS X W (.Expr e pos) f := by
  refine ⟨?_⟩
  intro F0 H0 ρ σ H F c D r hf q
  exact ws_of (ps_expr pe_we (swaps_no hn)) (h.run F0 H0 ρ σ H F c _ r hf fun H' F' e1 => q σ H' F' (r.ext.trans e1))
theorem rs_set (i : Nat) {x : Str} {pos' : Pos} (hN : X.N.Nodup) (he : RE X W e f) (hi : X.N[i]? = some x := by rfl) (hx : Loc X.env.scope x := by first | exact Or.inl rfl | exact Or.inr rfl) (hn : noComp e = true := by rfl)
    (hf : X.fn x = true ∨ X.env.scope.names.lookup x = some .local := by first | exact .inl rfl | exact .inr rfl) : RS X W (.Assign [.Name x pos'] e pos) f := by
  refine ⟨?_⟩
  intro F0 H0 ρ σ H F c D r hf' q
  exact ws_of (ps_set hN hi hx pe_we (swaps_no hn) hf) (he.run F0 H0 ρ σ H F c _ r hf' fun H' F' e1 => q σ H' F' (r.ext.trans e1))
theorem rs_if {c : Expr} {a b : List Stmt} {fc : Mr Bool} (hc : DT X c fc) (ha : RSs X W a f) (hb : RSs X W b g) : RS X W (.If c a b pos) (rIf fc f g) := by
  refine ⟨?_⟩
  intro F0 H0 ρ σ H F o D r hf q
  obtain ⟨k, h1, h2⟩ := Option.bind_eq_some_iff.mp hf
  refine ws_of (ps_if pt_wt pss_wss pss_wss) (hc.run F0 H0 ρ σ H F k _ r h1 fun H1 F1 e1 => ?_)
  cases k with
  | true =>
    rw [if_pos rfl] at h2 ⊢
    exact ha.run F0 H0 ρ σ H1 F1 o D (r.more e1) h2 q
  | false =>
    rw [if_neg Bool.false_ne_true] at h2 ⊢
    exact hb.run F0 H0 ρ σ H1 F1 o D (r.more e1) h2 q
theorem rss_head (h : RS X W st f) : RSs X W (st :: rest) f := by
  refine ⟨?_⟩
  intro F0 H0 ρ σ H F c D r hf q
  exact wss_of (pss_cons ps_ws pss_wss) (h.run F0 H0 ρ σ H F c _ r hf q)
theorem rss_one (h : RS X W st f) : RSs X W [st] f := ⟨fun F0 H0 ρ σ H F c D r hf q => wss_of (pss_one ps_ws) (h.run F0 H0 ρ σ H F c D r hf q)⟩
theorem rss_tail {fs : MS} (h1 : DS X st fs) (h2 : RSs X W rest g) : RSs X W (st :: rest) (rSeq fs g) := by
  refine ⟨?_⟩
  intro F0 H0 ρ σ H F c D r hf q
  obtain ⟨o1, f1, f2⟩ := Option.bind_eq_some_iff.mp hf
  refine wss_of (pss_cons ps_ws pss_wss) (h1.run F0 H0 ρ σ H F o1 _ r f1 ?_)
  cases o1 with
  | nx ρ1 => exact fun σ1 H1 F1 r1 s1 => h2.run F0 H0 ρ1 σ1 H1 F1 c D r1 f2 q
  | rt d => cases f2
  | bk ρ1 => cases f2
  | ct ρ1 => cases f2
end
/-! ### a def that raises -/
def runR (N : List Str) (fb : Mr Str) : List PyData → Option Str := fun ds => fb (startR N ds)
theorem fn_okR {P : Program} {w : World} {K : PySem.W.Frag} {mg : Str → Option Value} {base : Heap} {x qual : Str} {params : Arguments} {body : List Stmt} {scope : Scope} {kws : List (Str × V)} {f : Addr} {fd : FuncData} {N ps : List Str} {k n : Nat} {fb : Mr Str}
    (F : FunD K x qual params body scope [] kws f fd) (S : FnScope N ps scope) (hn : ps.length = n)
    (hbody : ∀ (cdv : Value) (A : Around) (outer : List Env) (s : Shared) (H : Hp) (E : XK), Room k (A.deeper (PyProof.Rows.envOfC qual scope s.heap.objs.size f cdv)) →
      Takes (cxOf (L2.CX P w) P w K mg base N qual scope f cdv A outer s H E) (fun cls d _ H => E cls d H) → RSs (cxOf (L2.CX P w) P w K mg base N qual scope f cdv A outer s H E) (fun cls d _ H => E cls d H) body fb) :
    FnOk P w K mg base (L2.CX P w) (k + 1) f fd ps (spR K n (runR N fb)) := by
  refine F.ok S (fun vs H Q E h => ?_) (fun cdv A outer s H vs Q E hr h => ?_)
  · obtain ⟨F, ds, d, _, h1, h2, _⟩ := h
    rw [h1.len, h2, hn]
  · obtain ⟨F1, ds, c, fh, h1, h2, h3, q⟩ := h
    have tk : Takes (cxOf (L2.CX P w) P w K mg base N qual scope f cdv A outer s H E) (fun cls d _ H => E cls d H) := takes_of rfl rfl rfl rfl
    exact ⟨_, pss_wss, (hbody cdv A outer s H E hr tk).run F1 H _ _ H F1 c _ (rl_start fh h1) h3 fun σ' H' F' e => q H' F' e⟩
/-! ### try: x = e, except C: suite -/
def sTry (fv : MS) (fr : Mr Str) (ok : Str → Bool) (h : MS) : MS := fun ρ => match fv ρ with
  | some o => some o
  | none => (fr ρ).bind fun c => if ok c = true then h ρ else none
theorem takes_no {X : Cx} : Takes X (fun _ _ _ _ => False) := fun _ _ ⟨_, _, _, _, _, _, _, _, _, _, _, _, _, _, _, _, w⟩ => w.elim
theorem ds_try {X : Cx} {x y : Str} {e : Expr} {fv h : MS} {fr : Mr Str} {ok : Str → Bool} {suite : List Stmt} {b₀ : Stmt} {i : Nat} {np pos pos' pos1 pos2 : Pos} (E : ExcK X.K X.mg x)
    (hok : ∀ c, ok c = true → PySem.W.exmOne X.K (.ref (He.ga X.K c)) (.ref (He.ga X.K x)) = some true)
    (hN : X.N.Nodup)
    (hv : ∀ pn xe, DS (X.tr pn xe) (.Assign [.Name y pos1] e pos2) fv)
    (hr : ∀ pn xe W, Takes (X.tr pn xe) W → RE (X.tr pn xe) W e fr)
    (hsu : ∀ a oe pn, DSs (X.suite a ((a, oe) :: pn)) (b₀ :: suite) h)
    (hi : X.N[i]? = some y := by rfl) (hy : Loc X.env.scope y := by first | exact Or.inl rfl | exact Or.inr rfl) (hn : noComp e = true := by rfl)
    (hfn : X.fn y = true ∨ X.env.scope.names.lookup y = some .local := by first | exact .inl rfl | exact .inr rfl)
    (hs : X.stack = X.env :: X.outer := by rfl) (hf : X.env.frame = some X.env.locals := by rfl) (hg : Gl X x := by rfl) (hdb : (x == ("__debug__" : Str)) = false := by decide) :
    DS X (.Try [.Assign [.Name y pos1] e pos2] [.ExceptHandler (some (.Name x np)) none (b₀ :: suite) pos'] [] [] pos) (sTry fv fr ok h) := by
  refine ⟨?_⟩
  intro F0 H0 ρ σ H F o D r hf' q
  refine ws_of (ps_try_only (c := .ref (He.ga X.K x)) (tb := fun W D σ H => ∀ pn xe, Takes (X.tr pn xe) W → WSs (X.tr pn xe) [.Assign [.Name y pos1] e pos2] D σ H) (ts := fun a cls d D σ H => ∀ oe pn, WSs (X.suite a ((a, oe) :: pn)) (b₀ :: suite) D σ H)
    hs hf ⟨hg, hdb, .inl E.at_⟩ takes_no (fun W pn xe tk _ => ⟨fun pins s σ H D I h => h pn xe tk pins s I⟩) (fun a oe cls d pn _ _ => ⟨fun pins s σ H D I h => h oe pn pins s I⟩)) ?_
  intro pn xe tk
  unfold sTry at hf'
  split at hf'
  · rename_i o' ho
    cases hf'
    exact wss_of (pss_one ps_ws) ((hv pn xe).run F0 H0 ρ σ H F o D r ho q)
  · obtain ⟨c, f1, f2⟩ := Option.bind_eq_some_iff.mp hf'
    split at f2
    · rename_i hc
      refine wss_of (pss_one (ps_set (X := X.tr pn xe) hN hi hy pe_we (swaps_no hn) hfn)) ((hr pn xe _ tk).run F0 H0 ρ σ H F c _ r f1 fun H1 F1 e1 => ?_)
      refine ⟨true, hok c hc, fun _ a _ oe pn' => ?_, fun z => by cases z⟩
      exact (hsu a oe pn').run F0 H0 ρ σ H1 F1 o D (r.more e1) f2 (q.mono e1.ff)
    · cases f2
def okOne (c0 : Str) : Str → Bool := fun c => decide (c = c0)
theorem okOne_ok {K : PySem.W.Frag} {c0 x : Str} (h : PySem.W.exmOne K (.ref (He.ga K c0)) (.ref (He.ga K x)) = some true) : ∀ c, okOne c0 c = true → PySem.W.exmOne K (.ref (He.ga K c)) (.ref (He.ga K x)) = some true := fun c hc => by
  have e : c = c0 := of_decide_eq_true hc
  rw [e]
  exact h
end Dw

set_option Elab.async false
set_option linter.all false
set_option maxRecDepth 100000
namespace Dw
open PySem PySem.Spec L2
section
variable {X : Cx} {pos : Pos}
/-- a, b, c = x, y, z -/
def sPar3 (i j l : Nat) (f : Mr (List PyData)) : MS := fun ρ => (f ρ).bind fun ds => match ds with
  | [x, y, z] => some (.nx (((ρ.set i (some (.frz x))).set j (some (.frz y))).set l (some (.frz z))))
  | _ => none
theorem ds_par3 (i j l : Nat) {x y z : Str} {a b c : Expr} {fa : Mr (List PyData)} {px py pz pt : Pos} {kt k2 pt2} (hN : X.N.Nodup) (ha : DA X [a, b, c] fa) (hi : X.N[i]? = some x := by rfl) (hj : X.N[j]? = some y := by rfl) (hl : X.N[l]? = some z := by rfl) (hij : i ≠ j := by decide) (hil : i ≠ l := by decide) (hjl : j ≠ l := by decide)
    (hx : X.env.scope.names.lookup x = some .local := by rfl) (hy : X.env.scope.names.lookup y = some .local := by rfl) (hz : X.env.scope.names.lookup z = some .local := by rfl) (hc : X.calm = true := by rfl)
    (hw : swappedStores [.Tuple [.Name x px, .Name y py, .Name z pz] kt pt] (.Tuple [a, b, c] k2 pt2) X.env = pure (some [x, y, z]) := by rfl)
    (hs : swapsWithSole [.Tuple [.Name x px, .Name y py, .Name z pz] kt pt] (.Tuple [a, b, c] k2 pt2) pos.line X.env = pure false := by rfl) :
    DS X (.Assign [.Tuple [.Name x px, .Name y py, .Name z pz] kt pt] (.Tuple [a, b, c] k2 pt2) pos) (sPar3 i j l fa) := by
  refine ⟨?_⟩
  intro F0 H0 ρ σ H F o D r hf q
  obtain ⟨ds, f1, f2⟩ := Option.bind_eq_some_iff.mp hf
  split at f2
  · cases f2
    refine ws_of (ps_par3 hc hN hi hj hl hij hil hjl hx hy hz pa_wa hw hs) (ha.run F0 H0 ρ σ H F _ _ r f1 fun vs H1 F1 e1 d1 => ?_)
    cases d1 with
    | cons d1 d2 =>
      cases d2 with
      | cons d2 d3 =>
        cases d3 with
        | cons d3 d4 =>
          cases d4
          exact ⟨_, _, _, rfl, q _ H1 F1 ((((r.more e1).put i d1).put j d2).put l d3) e1.ff⟩
  · cases f2
end
end Dw

set_option Elab.async false
set_option linter.all false
set_option maxRecDepth 100000
set_option maxHeartbeats 4000000
namespace L2
open PySem PySem.Spec PyProof.Rows
theorem tuple_mul0 (l : Addr) (items : Array Value) (n : Nat) (dd : Option Addr) (sl : Array (Option Value)) (x : Int) (u : Tok) (c0 : (decide (x < -(2 ^ 63)) || decide (x ≥ 2 ^ 63)) = false) (c1 : (items.isEmpty || x == 1) = false) (c2 : (decide (x ≤ 0) || items.isEmpty) = true) :
    Meets (Builtin.«tuple.__mul__» ⟨[.ref l, .int x u], []⟩) (fun _ R s => s.heap.get? l = some { cls := .type "tuple", dict := dd, data := .seq items n, slots := sl } ∧
      R (.ok (.ret (Value.ref s.heap.objs.size))) { s with heap := s.heap.push { cls := Value.type "tuple", data := Data.seq #[] }, toks := s.toks }) :=
  .of_wp fun prog w A R s h => by
    obtain ⟨hp, g, d, tk, os⟩ := s
    obtain ⟨hl, h⟩ := h
    have f1 := AutoSeq1.idx_int
    wp_walk using wpAny_loadPart' hl
    repeat (first
      | (refine wpAny_ite_false (decide_eq_false (by rw [c0]; exact Bool.false_ne_true)) ?_; wp_walk using wpAny_loadPart' hl)
      | (refine wpAny_ite_false (decide_eq_false (by rw [c1]; exact Bool.false_ne_true)) ?_; wp_walk using wpAny_loadPart' hl)
      | (refine wpAny_ite_true (decide_eq_true c2) ?_; wp_walk using wpAny_loadPart' hl))
    exact ⟨_, rfl, h⟩
theorem tuple_mul1 (l : Addr) (items : Array Value) (n : Nat) (dd : Option Addr) (sl : Array (Option Value)) (x : Int) (u : Tok) (c0 : (decide (x < -(2 ^ 63)) || decide (x ≥ 2 ^ 63)) = false) (c1 : (items.isEmpty || x == 1) = true) :
    Meets (Builtin.«tuple.__mul__» ⟨[.ref l, .int x u], []⟩) (fun _ R s => s.heap.get? l = some { cls := .type "tuple", dict := dd, data := .seq items n, slots := sl } ∧
      R (.ok (.ret (Value.ref l))) s) :=
  .of_wp fun prog w A R s h => by
    obtain ⟨hp, g, d, tk, os⟩ := s
    obtain ⟨hl, h⟩ := h
    have f1 := AutoSeq1.idx_int
    wp_walk using wpAny_loadPart' hl
    repeat (first
      | (refine wpAny_ite_false (decide_eq_false (by rw [c0]; exact Bool.false_ne_true)) ?_; wp_walk using wpAny_loadPart' hl)
      | (refine wpAny_ite_true (decide_eq_true c1) ?_; wp_walk using wpAny_loadPart' hl))
    exact ⟨_, rfl, h⟩
section
variable {X : Cx}
def rRep01 (K : PySem.W.Frag) : R2 := fun x y H Q => ∃ l k xs, x = .ref l ∧ y = .int k ∧ SqT K H l xs ∧ 0 ≤ k ∧ k ≤ 1 ∧ (k = 1 → Q (.ref l) H) ∧ (k = 0 → xs ≠ [] ∧ ∀ p, H p = none → Q (.ref p) (upd H p (.tup [])))
theorem op_rep01 : OpR X (binaryOp .Mult) (rRep01 X.K) := by
  intro pins s σ H x y v u Q I rx ry h
  obtain ⟨l, k, xs, rfl, rfl, hT, h1, h2, q1, q0⟩ := h
  cases rx
  obtain ⟨t, rfl⟩ := ry
  obtain ⟨its, r, ⟨⟨cls, dd, data, sl⟩, ho, hc, n, hd⟩, hs⟩ := I.tuple hT
  simp only at hc hd
  subst hc hd
  have hle : its.length = xs.length := r.length.symm
  have c0 : (decide (k < -(2 ^ 63)) || decide (k ≥ 2 ^ 63)) = false := by
    rw [decide_eq_false (by omega), decide_eq_false (by omega)] <;> rfl
  by_cases hk : k = 1
  · subst hk
    refine wpAny_binaryOp_repeat_ref (T := "tuple") (U := "int") (by decide) ⟨_, ho, rfl⟩ (fun s' => typeIs_int s' 1 t) noFill_tuple_mul F.fills_int_mul F.slot_int_rmul repeat_tuple F.slot_int_index.lookup
      (call_meets F.slot_int_rmul (typeIs_int s 1 t) F.entry_int_rmul (F.args_int_rmul_2 _ _) (int_rmul_tuple 1 t l its.toArray n dd sl)
        ⟨ho, rfl, ⟨_, ho, rfl⟩, call_meets F.slot_tuple_mul ⟨_, ho, rfl⟩ F.entry_tuple_mul (F.args_tuple_mul_2 _ _) (tuple_mul1 l its.toArray n dd sl 1 t c0 (by rw [show ((1 : Int) == 1) = true from rfl, Bool.or_true])) ⟨ho, ?_⟩⟩)
    exact ⟨.ref l, H, I, rfl, q1 rfl⟩
  · have hk0 : k = 0 := by omega
    subst hk0
    obtain ⟨hne, q0⟩ := q0 rfl
    have hn : its ≠ [] := fun e => hne (by
      rw [e] at hle
      exact List.eq_nil_of_length_eq_zero hle.symm)
    have hi : its.toArray.isEmpty = false := by
      cases its with
      | nil => exact absurd rfl hn
      | cons a b => rfl
    refine wpAny_binaryOp_repeat_ref (T := "tuple") (U := "int") (by decide) ⟨_, ho, rfl⟩ (fun s' => typeIs_int s' 0 t) noFill_tuple_mul F.fills_int_mul F.slot_int_rmul repeat_tuple F.slot_int_index.lookup
      (call_meets F.slot_int_rmul (typeIs_int s 0 t) F.entry_int_rmul (F.args_int_rmul_2 _ _) (int_rmul_tuple 0 t l its.toArray n dd sl)
        ⟨ho, rfl, ⟨_, ho, rfl⟩, call_meets F.slot_tuple_mul ⟨_, ho, rfl⟩ F.entry_tuple_mul (F.args_tuple_mul_2 _ _) (tuple_mul0 l its.toArray n dd sl 0 t c0 (by rw [hi]; rfl) rfl) ⟨ho, ?_⟩⟩)
    refine ⟨.ref s.heap.objs.size, _, I.laid (t' := s.toks) (o := .tup []) (fun b ob q => Heap.get?_push_of_some _ q) (Nat.le_refl _) ?_, rfl, q0 _ (I.hok.fresh (Nat.le_refl _))⟩
    exact ⟨by simp, [], .nil, IsTup.new _ _⟩
end
end L2
namespace Dw
open PySem PySem.Spec L2
/-- tuple * int -/
def pMulT : PyData → PyData → Option PyData
  | .tuple xs, .int k => if 0 ≤ k ∧ k ≤ 1000 ∧ xs.length ≤ 1000 ∧ xs ≠ [] then some (.tuple (List.replicate k.toNat xs).flatten) else none
  | _, _ => none
theorem op_mulT2 {X : Cx} : Op2 X (binaryOp .Mult) pMulT := by
  refine ⟨fun x y H Q => rRepT X.K x y H Q ∨ rRep01 X.K x y H Q, ?_, ?_⟩
  · intro pins s σ H x y v u Q I rx ry h
    rcases h with h | h
    · exact op_repT pins s σ H x y v u Q I rx ry h
    · exact op_rep01 pins s σ H x y v u Q I rx ry h
  · intro F H x y d e z Q fh d1 d2 h q
    unfold pMulT at h
    split at h
    · rename_i xs k
      split at h
      · rename_i hc
        cases h
        obtain ⟨h0, h1, h2, h3⟩ := hc
        cases d2
        cases d1 with
        | tup hs ha =>
          rename_i a vs
          have hl := ha.len
          have hne : vs ≠ [] := fun e => h3 (by rw [e] at hl; exact List.eq_nil_of_length_eq_zero hl.symm)
          by_cases hk : 2 ≤ k
          · refine .inl ⟨_, k, vs, rfl, rfl, hs.same fh, hne, hk, h1, by omega, fun p hp => ?_⟩
            exact q _ _ _ (.alloc fh hp) (.tup (.inl (.inl upd_same)) ((ha.rep k.toNat).same (same_upd (fh.free hp))))
          · refine .inr ⟨_, k, vs, rfl, rfl, hs.same fh, h0, by omega, fun e => ?_, fun e => ⟨hne, fun p hp => ?_⟩⟩
            · subst e
              have : (List.replicate (1 : Int).toNat xs).flatten = xs := by simp [List.replicate]
              exact q _ H F (.refl fh) (by rw [this]; exact .tup hs ha)
            · subst e
              exact q _ _ _ (.alloc fh hp) (.tup (.inl (.inl upd_same)) .nil)
      · cases h
    · cases h
end Dw

set_option Elab.async false
set_option linter.all false
set_option maxRecDepth 100000
set_option maxHeartbeats 4000000
namespace Dw
open PySem PySem.Spec L2
/-! ### or, and, tests by truth -/
noncomputable def truD : PyData → Option Bool
  | .none => some false
  | .bool b => some b
  | .int i => some (i != 0)
  | .str y => @ite _ (y.length ≤ sizeLine) (Classical.propDecidable _) (some ((y.length : Int) != 0)) none
  | .tuple ds => some (!ds.isEmpty)
  | .list ds => some (!ds.isEmpty)
  | _ => none
section
variable {X : Cx} {a b : Expr} {fa fb : Mr PyData} {rest : List Expr} {pos : Pos}
theorem DpAll.empty {K : PySem.W.Frag} {F : Hp} {vs : List V} {ds : List PyData} (h : DpAll K F vs ds) : vs.isEmpty = ds.isEmpty := by
  have := DpAll.len h
  cases vs <;> cases ds <;> first | rfl | simp at this
theorem tru_dp {K : PySem.W.Frag} {F H : Hp} {v : V} {d : PyData} {k : Bool} (h : Dp K F v d) (s : Same F H) (e : truD d = some k) : TruV K v H k := by
  have h' := Dp.same h s
  cases h' with
  | non => exact (Option.some.inj e).symm
  | bl => exact (Option.some.inj e).symm
  | int => exact (Option.some.inj e).symm
  | str x =>
    have e : @ite _ (x.length ≤ sizeLine) (Classical.propDecidable _) (some ((x.length : Int) != 0)) none = some k := e
    by_cases hz : x.length ≤ sizeLine
    · rw [if_pos hz] at e
      exact ⟨hz, (Option.some.inj e).symm⟩
    · rw [if_neg hz] at e
      cases e
  | lst hs ha => exact .inl ⟨_, hs, by rw [← Option.some.inj e, DpAll.empty ha]⟩
  | tup hs ha => exact .inr (.inl ⟨_, hs, by rw [← Option.some.inj e, DpAll.empty ha]⟩)
noncomputable def mOrA (f g : Mr PyData) : Mr PyData := fun ρ => (f ρ).bind fun x => (truD x).bind fun b => if b = true then some x else g ρ
noncomputable def mAndA (f g : Mr PyData) : Mr PyData := fun ρ => (f ρ).bind fun x => (truD x).bind fun b => if b = true then g ρ else some x
theorem de_orA (ha : DE X a fa) (hb : DE X (.BoolOp .Or (b :: rest) pos) fb) : DE X (.BoolOp .Or (a :: b :: rest) pos) (mOrA fa fb) := by
  refine ⟨?_⟩
  intro F0 H0 ρ σ H F z Q r hf q
  obtain ⟨x, h1, h2⟩ := Option.bind_eq_some_iff.mp hf
  obtain ⟨y, h3, h4⟩ := Option.bind_eq_some_iff.mp h2
  refine we_of (pe_orT pe_we pe_we) ?_
  refine ha.run F0 H0 ρ σ H F _ _ r h1 fun v H1 F1 e1 d1 => ?_
  refine ⟨y, tru_dp d1 e1.fh h3, ?_⟩
  cases y with
  | true =>
    rw [if_pos rfl] at h4 ⊢
    cases h4
    exact q _ H1 F1 e1 d1
  | false =>
    rw [if_neg (by simp)] at h4 ⊢
    exact hb.run F0 H0 ρ σ H1 F1 _ _ (r.more e1) h4 fun v H2 F2 e2 d2 => q v H2 F2 (e1.trans e2) d2
theorem de_andA (ha : DE X a fa) (hb : DE X (.BoolOp .And (b :: rest) pos) fb) : DE X (.BoolOp .And (a :: b :: rest) pos) (mAndA fa fb) := by
  refine ⟨?_⟩
  intro F0 H0 ρ σ H F z Q r hf q
  obtain ⟨x, h1, h2⟩ := Option.bind_eq_some_iff.mp hf
  obtain ⟨y, h3, h4⟩ := Option.bind_eq_some_iff.mp h2
  refine we_of (pe_andT pe_we pe_we) ?_
  refine ha.run F0 H0 ρ σ H F _ _ r h1 fun v H1 F1 e1 d1 => ?_
  refine ⟨y, tru_dp d1 e1.fh h3, ?_⟩
  cases y with
  | false =>
    rw [if_neg (by simp)] at h4 ⊢
    cases h4
    exact q _ H1 F1 e1 d1
  | true =>
    rw [if_pos rfl] at h4 ⊢
    exact hb.run F0 H0 ρ σ H1 F1 _ _ (r.more e1) h4 fun v H2 F2 e2 d2 => q v H2 F2 (e1.trans e2) d2
/-- a test by truth: a name, a call .. -/
noncomputable def mTru (f : Mr PyData) : Mr Bool := fun ρ => (f ρ).bind truD
theorem dt_tru (ha : DE X a fa) (he : ∀ whole, isTrue a X.env whole = (do let v ← whole; standAt a.pos; holding [v] (truthy v)) := by intro _; rfl) : DT X a (mTru fa) := by
  refine ⟨?_⟩
  intro F0 H0 ρ σ H F z Q r hf q
  obtain ⟨x, h1, h2⟩ := Option.bind_eq_some_iff.mp hf
  refine wt_of (pt_truth pe_we he) ?_
  exact ha.run F0 H0 ρ σ H F _ _ r h1 fun v H1 F1 e1 d1 => ⟨z, tru_dp d1 e1.fh h2, q H1 F1 e1⟩
end
end Dw

set_option Elab.async false
set_option linter.all false
set_option maxRecDepth 100000
set_option maxHeartbeats 4000000
/-! statements beside which tables of code objects may grow -/
namespace Dw
open PySem PySem.Spec L2 LamX
def isX : HO → Bool
  | .tbl _ => true
  | .ext _ => true
  | _ => false
def NoX (F : Hp) : Prop := ∀ a o, F a = some o → isX o = false
def noX (F : Hp) : Hp := fun a => match F a with
  | some o => if isX o = true then none else some o
  | none => none
theorem noX_some {F : Hp} {a : Addr} {o : HO} : noX F a = some o ↔ F a = some o ∧ isX o = false := by
  unfold noX
  cases h : F a with
  | none => simp
  | some u =>
    simp only []
    by_cases hu : isX u = true
    · rw [if_pos hu]
      constructor
      · intro z; cases z
      · rintro ⟨z, z2⟩; rw [Option.some.inj z, z2] at hu; cases hu
    · rw [if_neg hu]
      constructor
      · intro z; exact ⟨z, by rw [← Option.some.inj z]; simpa using hu⟩
      · rintro ⟨z, _⟩; exact z
theorem noX_noX (F : Hp) : NoX (noX F) := fun a o h => (noX_some.mp h).2
theorem noX_sub (F : Hp) : Same (noX F) F := fun a o h => (noX_some.mp h).1
theorem same_noX {F F' : Hp} (h : NoX F) (s : Same F F') : Same F (noX F') := fun a o e => noX_some.mpr ⟨s a o e, h a o e⟩
theorem sqL_noX {K : PySem.W.Frag} {F : Hp} {a : Addr} {xs : List V} (h : SqL K F a xs) : SqL K (noX F) a xs := by
  rcases h with (h | ⟨o, h⟩) | h
  · exact .inl (.inl (noX_some.mpr ⟨h, rfl⟩))
  · exact .inl (.inr ⟨o, noX_some.mpr ⟨h, rfl⟩⟩)
  · exact .inr h
theorem sqT_noX {K : PySem.W.Frag} {F : Hp} {a : Addr} {xs : List V} (h : SqT K F a xs) : SqT K (noX F) a xs := by
  rcases h with (h | ⟨o, h⟩) | h
  · exact .inl (.inl (noX_some.mpr ⟨h, rfl⟩))
  · exact .inl (.inr ⟨o, noX_some.mpr ⟨h, rfl⟩⟩)
  · exact .inr h
mutual
theorem dp_noX {K : PySem.W.Frag} {F : Hp} : ∀ (d : PyData) (v : V), Dp K F v d → Dp K (noX F) v d
  | .none, _, h => by cases h; exact .non
  | .bool _, _, h => by cases h; exact .bl _
  | .int _, _, h => by cases h; exact .int _
  | .str _, _, h => by cases h; exact .str _
  | .list ds, _, h => by
    cases h with
    | lst hs ha => exact .lst (sqL_noX hs) (dpAll_noX ds _ ha)
  | .tuple ds, _, h => by
    cases h with
    | tup hs ha => exact .tup (sqT_noX hs) (dpAll_noX ds _ ha)
  | .dict _, _, h => by cases h
theorem dpAll_noX {K : PySem.W.Frag} {F : Hp} : ∀ (ds : List PyData) (vs : List V), DpAll K F vs ds → DpAll K (noX F) vs ds
  | [], _, h => by cases h; exact .nil
  | d :: ds, _, h => by
    cases h with
    | cons h1 h2 => exact .cons (dp_noX d _ h1) (dpAll_noX ds _ h2)
end
def withX (H0 H : Hp) : Hp := fun a => match H a with
  | some o => if isX o = true then some o else H0 a
  | none => H0 a
theorem withX_x {H0 H : Hp} {a : Addr} {o : HO} (h : H a = some o) (x : isX o = true) : withX H0 H a = some o := by
  unfold withX; rw [h]; exact if_pos x
theorem withX_n {H0 H : Hp} {a : Addr} (h : ∀ o, H a = some o → isX o = false) : withX H0 H a = H0 a := by
  unfold withX
  cases e : H a with
  | none => rfl
  | some o =>
    show (if isX o = true then some o else H0 a) = H0 a
    rw [h o e, if_neg Bool.false_ne_true]
theorem withX_same {H0 H : Hp} (s : Same H0 H) : Same H0 (withX H0 H) := fun a o e => by
  by_cases x : isX o = true
  · exact withX_x (s a o e) x
  · rw [withX_n (fun u hu => by rw [s a o e] at hu; cases hu; simpa using x)]; exact e
theorem withX_in {H0 H : Hp} (s : Same H0 H) : Same (withX H0 H) H := fun a o e => by
  cases h : H a with
  | none => rw [withX_n (fun u hu => by rw [h] at hu; cases hu)] at e; rw [s a o e] at h; cases h
  | some u =>
    by_cases x : isX u = true
    · rw [withX_x h x] at e; exact e
    · rw [withX_n (fun z hz => by rw [h] at hz; cases hz; simpa using x)] at e
      rw [← h]; exact s a o e
section
variable {K : PySem.W.Frag} {F0 H0 F H F' H' : Hp} {ρ : Rho} {σ : St} {T : List (Addr × Str)}
theorem rl_withX (r : Rl K F0 H0 ρ σ H F) (n : NoX F) : Rl K F0 (withX H0 H) ρ σ H F := by
  refine ⟨⟨r.ext.ff, withX_in r.ext.hh, r.ext.fh, fun a o e z => ?_⟩, r.len, r.frz, fun i ds e => ?_, r.dis, r.raw⟩
  · rw [withX_n (fun u hu => by rw [r.fh a o e] at hu; cases hu; exact n a o e)]
    exact r.ext.new a o e z
  · obtain ⟨a, vs, h1, h2, h3, h4, h5⟩ := r.own i ds e
    refine ⟨a, vs, h1, h2, h3, ?_, h5⟩
    rw [withX_n (fun u hu => by rw [h2] at hu; cases hu; rfl)]
    exact h4
theorem ext_back {H1 : Hp} (s : Same H0 H1) (e : Ext F0 (withX H0 H1) F' H') : Ext F0 H0 F' H' :=
  ⟨e.ff, (withX_same s).trans e.hh, e.fh, fun a o h z => (withX_same s).free (e.new a o h z)⟩
theorem rl_back {H1 : Hp} (s : Same H0 H1) (r : Rl K F0 (withX H0 H1) ρ σ H F) : Rl K F0 H0 ρ σ H F :=
  ⟨ext_back s r.ext, r.len, r.frz, fun i ds e => by
    obtain ⟨a, vs, h1, h2, h3, h4, h5⟩ := r.own i ds e
    exact ⟨a, vs, h1, h2, h3, (withX_same s).free h4, h5⟩, r.dis, r.raw⟩
theorem rl_noX (r : Rl K F0 H0 ρ σ H F) (n : NoX F0) : Rl K F0 H0 ρ σ H (noX F) := by
  refine ⟨⟨same_noX n r.ext.ff, r.ext.hh, (noX_sub F).trans r.fh, fun a o e z => r.ext.new a o (noX_sub F a o e) z⟩, r.len, fun i d e => ?_, fun i ds e => ?_, r.dis, r.raw⟩
  · obtain ⟨v, h1, h2⟩ := r.frz i d e
    exact ⟨v, h1, dp_noX _ _ h2⟩
  · obtain ⟨a, vs, h1, h2, h3, h4, h5⟩ := r.own i ds e
    refine ⟨a, vs, h1, h2, (noX_sub F).free h3, h4, dpAll_noX _ _ h5⟩
theorem NoX.down {F F' : Hp} (n : NoX F') (s : Same F F') : NoX F := fun a o e => n a o (s a o e)
theorem tabs_withX (t : Tabs T H) (s : Same (withX H0 H) H') : Tabs T H' := fun p hp => by
  obtain ⟨ps, h1, h2, h3⟩ := t p hp
  refine ⟨ps, s _ _ (withX_x h1 rfl), h2, fun pos cv hc => ?_⟩
  obtain ⟨c, e1, e2⟩ := h3 pos cv hc
  exact ⟨c, e1, s _ _ (withX_x e2 rfl)⟩
end
/-- what is known beside the slots: no tables among what is frozen or was at the beginning; the tables are good -/
structure TK (T : List (Addr × Str)) (F H0 H : Hp) : Prop where
  nf : NoX F
  n0 : NoX H0
  tb : Tabs T H
structure LE (X : Cx) (T : List (Addr × Str)) (e : Expr) (f : Mr PyData) : Prop where
  run : ∀ F0 H0 ρ σ H F d (Q : VK), Rl X.K F0 H0 ρ σ H F → TK T F H0 H → f ρ = some d → (∀ v H' F', Rl X.K F0 H0 ρ σ H' F' → Same F F' → TK T F' H0 H' → Dp X.K F' v d → Q v H') → WE X e σ H Q
structure LT (X : Cx) (T : List (Addr × Str)) (e : Expr) (f : Mr Bool) : Prop where
  run : ∀ F0 H0 ρ σ H F b (Q : Bool → Hp → Prop), Rl X.K F0 H0 ρ σ H F → TK T F H0 H → f ρ = some b → (∀ H' F', Rl X.K F0 H0 ρ σ H' F' → Same F F' → TK T F' H0 H' → Q b H') → WT X e σ H Q
def EndsT (T : List (Addr × Str)) (K : PySem.W.Frag) (F0 H0 F : Hp) (o : Out) (D : Ends) : Prop := match o with
  | .nx ρ => ∀ σ H F', Rl K F0 H0 ρ σ H F' → Same F F' → TK T F' H0 H → D.nx σ H
  | .bk ρ => ∀ σ H F', Rl K F0 H0 ρ σ H F' → Same F F' → TK T F' H0 H → D.bk σ H
  | .ct ρ => ∀ σ H F', Rl K F0 H0 ρ σ H F' → Same F F' → TK T F' H0 H → D.ct σ H
  | .rt d => ∀ v H F', Ext F0 H0 F' H → Dp K F' v d → D.rt v H
theorem EndsT.mono {T : List (Addr × Str)} {K : PySem.W.Frag} {F0 H0 F F1 : Hp} {o : Out} {D : Ends} (h : EndsT T K F0 H0 F o D) (s : Same F F1) : EndsT T K F0 H0 F1 o D := by
  cases o with
  | nx ρ => exact fun σ H F' r s' t => h σ H F' r (s.trans s') t
  | bk ρ => exact fun σ H F' r s' t => h σ H F' r (s.trans s') t
  | ct ρ => exact fun σ H F' r s' t => h σ H F' r (s.trans s') t
  | rt d => exact h
structure LS (X : Cx) (T : List (Addr × Str)) (st : Stmt) (f : MS) : Prop where
  run : ∀ F0 H0 ρ σ H F o (D : Ends), Rl X.K F0 H0 ρ σ H F → TK T F H0 H → f ρ = some o → EndsT T X.K F0 H0 F o D → WS X st D σ H
structure LSs (X : Cx) (T : List (Addr × Str)) (st : List Stmt) (f : MS) : Prop where
  run : ∀ F0 H0 ρ σ H F o (D : Ends), Rl X.K F0 H0 ρ σ H F → TK T F H0 H → f ρ = some o → EndsT T X.K F0 H0 F o D → WSs X st D σ H
section
variable {X : Cx} {T : List (Addr × Str)} {e a b : Expr} {fe fa fb : Mr PyData} {ft : Mr Bool} {st : Stmt} {rest : List Stmt} {f g : MS} {pos : Pos}
theorem tk_ext {F H F' H' H0 : Hp} (t : TK T F H0 H) (x : Ext F H F' H') : TK T (noX F') H0 H' := ⟨noX_noX _, t.n0, t.tb.ext x.hh⟩
theorem le_of (h : DE X e fe) : LE X T e fe := by
  refine ⟨fun F0 H0 ρ σ H F d Q r t hf q => ?_⟩
  refine h.run F0 H0 ρ σ H F d Q r hf fun v H' F' x dp => ?_
  exact q v H' (noX F') (rl_noX (r.more x) (t.nf.down r.ext.ff)) (same_noX t.nf x.ff) (tk_ext t x) (dp_noX _ _ dp)
theorem lt_of (h : DT X e ft) : LT X T e ft := by
  refine ⟨fun F0 H0 ρ σ H F d Q r t hf q => ?_⟩
  refine h.run F0 H0 ρ σ H F d Q r hf fun H' F' x => ?_
  exact q H' (noX F') (rl_noX (r.more x) (t.nf.down r.ext.ff)) (same_noX t.nf x.ff) (tk_ext t x)
theorem ends_of {K : PySem.W.Frag} {F0 H0 F H : Hp} {o : Out} {D : Ends} {ρ : Rho} {σ : St} (r : Rl K F0 H0 ρ σ H F) (t : TK T F H0 H) (h : EndsT T K F0 H0 F o D) : EndsOk K F0 (withX H0 H) F o D := by
  have n0 := t.nf.down r.ext.ff
  cases o with
  | nx ρ' => exact fun σ' H' F' r' s' => h σ' H' (noX F') (rl_noX (rl_back r.ext.hh r') n0) (same_noX t.nf s') ⟨noX_noX _, t.n0, tabs_withX t.tb r'.ext.hh⟩
  | bk ρ' => exact fun σ' H' F' r' s' => h σ' H' (noX F') (rl_noX (rl_back r.ext.hh r') n0) (same_noX t.nf s') ⟨noX_noX _, t.n0, tabs_withX t.tb r'.ext.hh⟩
  | ct ρ' => exact fun σ' H' F' r' s' => h σ' H' (noX F') (rl_noX (rl_back r.ext.hh r') n0) (same_noX t.nf s') ⟨noX_noX _, t.n0, tabs_withX t.tb r'.ext.hh⟩
  | rt d => exact fun v H' F' x dp => h v H' F' (ext_back r.ext.hh x) dp
theorem ls_of (h : DS X st f) : LS X T st f := ⟨fun F0 H0 ρ σ H F o D r t hf q => h.run F0 (withX H0 H) ρ σ H F o D (rl_withX r t.nf) hf (ends_of r t q)⟩
theorem lss_of (h : DSs X rest f) : LSs X T rest f := ⟨fun F0 H0 ρ σ H F o D r t hf q => h.run F0 (withX H0 H) ρ σ H F o D (rl_withX r t.nf) hf (ends_of r t q)⟩
theorem lss_one (h : LS X T st f) : LSs X T [st] f := by
  refine ⟨fun F0 H0 ρ σ H F o D r t hf q => ?_⟩
  exact wss_of (pss_one ps_ws) (h.run F0 H0 ρ σ H F o D r t hf q)
theorem lss_cons (h1 : LS X T st f) (h2 : LSs X T rest g) : LSs X T (st :: rest) (sSeq f g) := by
  refine ⟨fun F0 H0 ρ σ H F o D r t hf q => ?_⟩
  obtain ⟨o1, f1, f2⟩ := Option.bind_eq_some_iff.mp hf
  refine wss_of (pss_cons ps_ws pss_wss) ?_
  refine h1.run F0 H0 ρ σ H F o1 _ r t f1 ?_
  cases o1 with
  | nx ρ1 => exact fun σ1 H1 F1 r1 s1 t1 => h2.run F0 H0 ρ1 σ1 H1 F1 o D r1 t1 f2 (q.mono s1)
  | rt d => cases f2; exact q
  | bk ρ1 => cases f2; exact q
  | ct ρ1 => cases f2; exact q
theorem ls_if {c : Expr} {s t : List Stmt} (hc : LT X T c ft) (ha : LSs X T s f) (hb : LSs X T t g) : LS X T (.If c s t pos) (sIf ft f g) := by
  refine ⟨fun F0 H0 ρ σ H F o D r tk hf q => ?_⟩
  obtain ⟨b, f1, f2⟩ := Option.bind_eq_some_iff.mp hf
  refine ws_of (ps_if pt_wt pss_wss pss_wss) ?_
  refine hc.run F0 H0 ρ σ H F b _ r tk f1 fun H1 F1 r1 s1 t1 => ?_
  cases b with
  | true => rw [if_pos rfl] at f2 ⊢; exact ha.run F0 H0 ρ σ H1 F1 o D r1 t1 f2 (q.mono s1)
  | false => rw [if_neg (by simp)] at f2 ⊢; exact hb.run F0 H0 ρ σ H1 F1 o D r1 t1 f2 (q.mono s1)
theorem ls_set (i : Nat) {x : Str} {pos' : Pos} (hN : X.N.Nodup) (he : LE X T e fe) (hi : X.N[i]? = some x := by rfl) (hx : Loc X.env.scope x := by first | exact Or.inl rfl | exact Or.inr rfl) (hn : noComp e = true := by rfl)
    (hf : X.fn x = true ∨ X.env.scope.names.lookup x = some .local := by first | exact .inl rfl | exact .inr rfl) : LS X T (.Assign [.Name x pos'] e pos) (sSet i fe) := by
  refine ⟨fun F0 H0 ρ σ H F o D r t hf' q => ?_⟩
  obtain ⟨d, f1, f2⟩ := Option.bind_eq_some_iff.mp hf'
  cases f2
  refine ws_of (ps_set hN hi hx pe_we (swaps_no hn) hf) ?_
  exact he.run F0 H0 ρ σ H F d _ r t f1 fun v H1 F1 r1 s1 t1 dp => q _ H1 F1 (r1.put i dp) s1 t1
/-- a op b, a telling with tables -/
theorem lt_cmp {op : CmpOp} {g : PyData → PyData → Option PyData} (ho : Op2 X (compareOp op) g) (ha : LE X T a fa) (hb : LE X T b fb) (hm : behindInMarks op b = false) : LT X T (.Compare a [op] [b] pos) (mTest (mBin g fa fb)) := by
  refine ⟨fun F0 H0 ρ σ H F d Q r t hf q => ?_⟩
  obtain ⟨z, h0, hz⟩ := Option.bind_eq_some_iff.mp hf
  have hz := asB_some hz
  subst hz
  obtain ⟨x, y, h1, h2, h3⟩ := bind2 h0
  obtain ⟨rr, ho, hv⟩ := ho
  refine wt_of (pt_cmpR ho pe_we pe_we hm) ?_
  refine ha.run F0 H0 ρ σ H F x _ r t h1 fun v H1 F1 r1 s1 t1 d1 => ?_
  refine hb.run F0 H0 ρ σ H1 F1 y _ r1 t1 h2 fun u H2 F2 r2 s2 t2 d2 => ?_
  refine hv F2 H2 v u x y _ _ r2.fh (d1.same s2) d2 h3 fun v2 H3 F3 e3 d3 => ?_
  cases d3
  exact ⟨d, rfl, q H3 (noX F3) (rl_noX (r2.more e3) (t2.nf.down r2.ext.ff)) (s1.trans (s2.trans (same_noX t2.nf e3.ff))) (tk_ext t2 e3)⟩
/-! loops over ranges -/
structure DIR (X : Cx) (tg e : Expr) (f : Mr (List PyData)) : Prop where
  run : ∀ F0 H0 ρ σ H F ds (R : It → Hp → Prop), Rl X.K F0 H0 ρ σ H F → f ρ = some ds → (∀ J H' F', Ext F H F' H' → (∀ G, Wk X.K J G ds) → R J H') → WI X tg e σ H R
end
end Dw

set_option Elab.async false
set_option linter.all false
set_option maxRecDepth 100000
set_option maxHeartbeats 4000000
/-! list.count, list.index; isinstance of what was caught; _law_told -/
namespace Dw
open PySem PySem.Spec L2 LamX
section
variable {X : Cx}
def rCountD (K : PySem.W.Frag) : V → List V → Hp → VK → Prop := fun x xs H Q => ∃ (a : Addr) (y : V) (d : PyData) (ds : List PyData), x = V.ref a ∧ xs = [y] ∧ Dp K H (V.ref a) (.list ds) ∧ Dp K H y d ∧
  SeqAt.shaped (.list ds) = true ∧ SeqAt.shaped d = true ∧ Q (.int ((ds.countP fun z => PyData.eqv z d : Nat) : Int)) H
theorem mt_countD (hu : X.A.units + 65 < cLine) : MtR X "list.count" (rCountD X.K) := by
  intro pins s σ H x xs v us Q I rx rxs h
  obtain ⟨a, y, d, ds, rfl, rfl, hl, hy, sl, sd, q⟩ := h
  cases rx
  cases rxs with
  | cons ry rt =>
    rename_i uy ut
    cases rt
    obtain ⟨bs, r1⟩ := Dp.reads I d y uy hy ry
    have hxs : PyData.canLayAll0 ds = true := SeqAt.canLay_of_shaped sl
    have hroom : X.A.units + 1 + min (PyData.depthAll ds) d.depth < cLine := PyProof.Rows.room_in_shaped sd hu
    cases hl with
    | lst hs ha =>
      obtain ⟨its, rv, ⟨⟨cls, dd, data, sls⟩, n, ho, hc, hdn, hdt⟩, hlen⟩ := I.list hs
      simp only at hc hdt
      subst hc hdt
      obtain ⟨as, h4⟩ := Dp.readsAll I ds _ its ha rv
      have hmap : its.map (SeqAt.readOf s.heap) = ds := SeqAt.readsAll_map ds its as hxs h4
      refine call_meets PySem.F.slot_list_count ⟨_, ho, rfl⟩ PySem.F.entry_list_count (PySem.F.args_list_count_2 _ _)
        (SeqAt.list_countAt a its.toArray n dd sls uy (fun u => PyData.eqv (SeqAt.readOf s.heap u) d)) ⟨ho, SeqAt.items_eqAt (vs := its.toArray) (by simpa using h4) r1 hxs (SeqAt.canLay_of_shaped sd) hroom, ?_⟩
      have e : its.toArray.toList.countP (fun u => PyData.eqv (SeqAt.readOf s.heap u) d) = ds.countP fun z => PyData.eqv z d := by
        rw [← hmap, List.countP_map]
        rfl
      exact ⟨.int _, H, I.tok _, ⟨_, rfl⟩, by rw [e]; exact q⟩
theorem shp2 {a b : PyData} (h : (SeqAt.shaped a && SeqAt.shaped b) = true) : SeqAt.shaped a = true ∧ SeqAt.shaped b = true := Bool.and_eq_true_iff.mp h
def pCount : PyData → PyData → Option PyData
  | .list ds, d => if (SeqAt.shaped (.list ds) && SeqAt.shaped d) = true then some (.int ((ds.countP fun z => PyData.eqv z d : Nat) : Int)) else none
  | _, _ => none
def pIndex : PyData → PyData → Option PyData
  | .list ds, d => if (SeqAt.shaped (.list ds) && SeqAt.shaped d) = true then (ds.findIdx? fun z => PyData.eqv z d).map fun j => .int (j : Nat) else none
  | _, _ => none
variable {o e : Expr} {fo fe : Mr PyData} {apos cpos : Pos}
theorem de_count (hu : X.A.units + 65 < cLine) (ho : DE X o fo) (he : DE X e fe) (hn : noStar e = true := by rfl)
    (hbase : attributeBase o "count" X.env (eval o X.env) = eval o X.env := by rfl)
    (hfew : ((backTo cpos (starEach [e] X.env)).all (fun x => !x.1) && (backToKw cpos (keywordEach [] X.env)).all (fun x => x.1.isSome)
      && decide (([e] : List Expr).length + ([] : List Keyword).length + (if ([] : List Keyword).isEmpty then 0 else 1) < 30)) = true := by rfl)
    (hline : (apos.endLine == cpos.line) = true := by rfl) : DE X (.Call (.Attribute o "count" apos) [e] [] cpos) (mBin pCount fo fe) := by
  refine ⟨fun F0 H0 ρ σ H F d Q r hf q => ?_⟩
  obtain ⟨x, y, h1, h2, h3⟩ := bind2 hf
  refine we_of (pe_bm PySem.F.plainAttrs_list PySem.F.slot_list_count PySem.F.type_list_count (mt_countD hu) pe_we (pa_cons pe_we pa_nil (star_cons hn)) hbase hfew hline (star_cons hn) (star_any rfl)) ?_
  refine ho.run F0 H0 ρ σ H F x _ r h1 fun v H1 F1 e1 d1 => ?_
  cases d1 with
  | lst hs ha =>
    rename_i a vs ds
    replace h3 : (if (SeqAt.shaped (.list ds) && SeqAt.shaped y) = true then some (PyData.int ((ds.countP fun z => PyData.eqv z y : Nat) : Int)) else none) = some d := h3
    split at h3
    · rename_i ok
      obtain ⟨k1, k2⟩ := shp2 ok
      cases h3
      refine ⟨.inl ⟨rfl, vs, e1.fh.seq hs⟩, ?_⟩
      refine he.run F0 H0 ρ σ H1 F1 y _ (r.more e1) h2 fun u H2 F2 e2 d2 => ?_
      exact ⟨a, u, y, ds, rfl, rfl, (Dp.lst hs ha).same (e2.ff.trans e2.fh), d2.same e2.fh, k1, k2, q _ H2 F2 (e1.trans e2) (.int _)⟩
    · cases h3
  | _ => cases h3
theorem de_index (hu : X.A.units + 65 < cLine) (ho : DE X o fo) (he : DE X e fe) (hn : noStar e = true := by rfl)
    (hbase : attributeBase o "index" X.env (eval o X.env) = eval o X.env := by rfl)
    (hfew : ((backTo cpos (starEach [e] X.env)).all (fun x => !x.1) && (backToKw cpos (keywordEach [] X.env)).all (fun x => x.1.isSome)
      && decide (([e] : List Expr).length + ([] : List Keyword).length + (if ([] : List Keyword).isEmpty then 0 else 1) < 30)) = true := by rfl)
    (hline : (apos.endLine == cpos.line) = true := by rfl) : DE X (.Call (.Attribute o "index" apos) [e] [] cpos) (mBin pIndex fo fe) := by
  refine ⟨fun F0 H0 ρ σ H F d Q r hf q => ?_⟩
  obtain ⟨x, y, h1, h2, h3⟩ := bind2 hf
  refine we_of (pe_bm PySem.F.plainAttrs_list PySem.F.slot_list_index PySem.F.type_list_index (mt_indexD hu) pe_we (pa_cons pe_we pa_nil (star_cons hn)) hbase hfew hline (star_cons hn) (star_any rfl)) ?_
  refine ho.run F0 H0 ρ σ H F x _ r h1 fun v H1 F1 e1 d1 => ?_
  cases d1 with
  | lst hs ha =>
    rename_i a vs ds
    replace h3 : (if (SeqAt.shaped (.list ds) && SeqAt.shaped y) = true then (ds.findIdx? fun z => PyData.eqv z y).map (fun j => PyData.int (j : Nat)) else none) = some d := h3
    split at h3
    · rename_i ok
      obtain ⟨k1, k2⟩ := shp2 ok
      obtain ⟨j, hj, hd⟩ := Option.map_eq_some_iff.mp h3
      subst hd
      refine ⟨.inl ⟨rfl, vs, e1.fh.seq hs⟩, ?_⟩
      refine he.run F0 H0 ρ σ H1 F1 y _ (r.more e1) h2 fun u H2 F2 e2 d2 => ?_
      obtain ⟨hl, g1, g2⟩ := List.findIdx?_eq_some_iff_getElem.mp hj
      refine ⟨a, u, y, ds, j, ds[j], rfl, rfl, (Dp.lst hs ha).same (e2.ff.trans e2.fh), d2.same e2.fh, k1, k2, List.getElem?_eq_getElem hl, g1, fun m z hm hz => ?_, q _ H2 F2 (e1.trans e2) (.int _)⟩
      obtain ⟨hml, hme⟩ := List.getElem?_eq_some_iff.mp hz
      have g3 := g2 m hm
      rw [hme] at g3
      simpa using g3
    · cases h3
  | _ => cases h3
end
/-! isinstance(e, C), e caught -/
def mIsE (a : Addr) (i : Nat) (b : Bool) : Mr PyData := fun ρ => match ρ[i]? with
  | some (some (.raw (.ref a'))) => if a' = a then some (.bool b) else none
  | _ => none
section
variable {X : Cx} {a D : Addr} {oe : Obj} {pn : List (Addr × Obj)} {b : Bool} {p1 p2 p3 p4 : Pos} {x e : Str}
theorem mIsE_some {i : Nat} {ρ : Rho} {d : PyData} (h : mIsE a i b ρ = some d) : ρ[i]? = some (some (.raw (.ref a))) ∧ d = .bool b := by
  unfold mIsE at h
  split at h
  · rename_i a' q
    split at h
    · rename_i q2
      cases h
      rw [q, q2]
      exact ⟨rfl, rfl⟩
    · cases h
  · cases h
theorem de_isE (i : Nat) (C : ExcC X.K D) (hz : Zc (.ref D) none oe) (hf : ∃ vs, oe.data = .fields vs) (hi : X.mg "isinstance" = none) (hm : X.mg x = some (.ref (He.ga X.K x))) (hk : PySem.W.kitOne X.K (.ref D) (.ref (He.ga X.K x)) = some b)
    (hN : X.N[i]? = some e := by rfl) (hv : Vis X.env.scope e := by first | exact Or.inl rfl | exact Or.inr (Or.inl rfl) | exact Or.inr (Or.inr rfl)) (hd : (e == ("__debug__" : Str)) = false := by decide) (hcd : (e == ("__classdict__" : Str)) = false := by decide)
    (hg : Gl X "isinstance" := by rfl) (hg2 : Gl X x := by rfl) (hd2 : (x == ("__debug__" : Str)) = false := by decide) :
    DE (X.suite a ((a, oe) :: pn)) (.Call (.Name "isinstance" p1) [.Name e p2, .Name x p3] [] p4) (mIsE a i b) := by
  refine ⟨fun F0 H0 ρ σ H F d Q r h q => ?_⟩
  obtain ⟨h1, h2⟩ := mIsE_some h
  subst h2
  refine we_of (pe_callB (X := X.suite a ((a, oe) :: pn)) (call_isE C hz hf) hg hi boot_isi (pa_cons (pe_var hN hv hd hcd) (pa_cons (pe_glob (v := .ref (He.ga X.K x)) hg2 hm rfl hd2) pa_nil (star_cons rfl)) (star_cons rfl)) (he := star_cons rfl) (hpl := star_any rfl)) ?_
  exact ⟨.ref a, r.raw i _ h1, .ref (He.ga X.K x), .ref (He.ga X.K x), b, rfl, fun u hu => hu, hk, q _ H F (.refl r.fh) (.bl b)⟩
theorem de_isEV (i : Nat) {t : String} (C : ExcC X.K D) (hz : Zc (.ref D) none oe) (hf : ∃ vs, oe.data = .fields vs) (hi : X.mg "isinstance" = none) (hm : X.mg x = none) (hb : bootBuiltins x = some (.type t)) (hk : PySem.W.kitOne X.K (.ref D) (.type t) = some b)
    (hN : X.N[i]? = some e := by rfl) (hv : Vis X.env.scope e := by first | exact Or.inl rfl | exact Or.inr (Or.inl rfl) | exact Or.inr (Or.inr rfl)) (hd : (e == ("__debug__" : Str)) = false := by decide) (hcd : (e == ("__classdict__" : Str)) = false := by decide)
    (hg : Gl X "isinstance" := by rfl) (hg2 : Gl X x := by rfl) (hn : x ≠ "__name__" := by decide) (hd2 : (x == ("__debug__" : Str)) = false := by decide) :
    DE (X.suite a ((a, oe) :: pn)) (.Call (.Name "isinstance" p1) [.Name e p2, .Name x p3] [] p4) (mIsE a i b) := by
  refine ⟨fun F0 H0 ρ σ H F d Q r h q => ?_⟩
  obtain ⟨h1, h2⟩ := mIsE_some h
  subst h2
  refine we_of (pe_callB (X := X.suite a ((a, oe) :: pn)) (call_isE C hz hf) hg hi boot_isi (pa_cons (pe_var hN hv hd hcd) (pa_cons (pe_bltn (v := .ty t) hg2 hm hb rfl hn hd2) pa_nil (star_cons rfl)) (star_cons rfl)) (he := star_cons rfl) (hpl := star_any rfl)) ?_
  exact ⟨.ref a, r.raw i _ h1, .ty t, .type t, b, rfl, fun u hu => hu, hk, q _ H F (.refl r.fh) (.bl b)⟩
end
end Dw

set_option Elab.async false
set_option linter.all false
set_option maxRecDepth 100000
set_option maxHeartbeats 4000000
/-! _law_told(lambda: ..) -/
namespace Dw
open PySem PySem.Spec L2 LamX
def noH : Hp := fun _ => none
theorem ext_union {F' H' Fx H'' : Hp} (h : Same F' H') (x : Ext noH H' Fx H'') : ∃ F2, Ext F' H' F2 H'' ∧ Same Fx F2 := by
  refine ⟨fun a => match F' a with | some o => some o | none => Fx a, ⟨fun a o e => ?_, x.hh, fun a o e => ?_, fun a o e n => ?_⟩, fun a o e => ?_⟩
  · show (match F' a with | some o => some o | none => Fx a) = some o
    rw [e]
  · cases q : F' a with
    | none => simp only [q] at e; exact x.fh a o e
    | some u => simp only [q] at e; cases e; exact x.hh a _ (h a _ q)
  · simp only [n] at e
    exact x.new a o e rfl
  · show (match F' a with | some o => some o | none => Fx a) = some o
    cases q : F' a with
    | none => exact e
    | some u =>
      have e1 := x.fh a o e
      have e2 := x.hh a u (h a u q)
      rw [e1] at e2
      exact e2.symm
theorem takes_len {X : Cx} {W : WX} (tk : Takes X W) : Takes X (fun cls d σ H => σ.length = X.N.length → W cls d σ H) := fun u s' ⟨a, B, sI, pins, σ, H, cls, d, e, I, nb, up, sky, na, os, ag, w⟩ =>
  tk u s' ⟨a, B, sI, pins, σ, H, cls, d, e, I, nb, up, sky, na, os, ag, w I.len⟩
/-- what _law_told makes of the lambda's reading -/
def TTd (K : PySem.W.Frag) (ix : Str → Option Int) : (XK → Hp → VK → Prop) → Hp → VK → Prop := fun tl H Q =>
  tl (fun cls d H' => ∃ c i, cls = .ref (He.ga K c) ∧ d = none ∧ ix c = some i ∧ ∀ v H'' F'', Ext noH H' F'' H'' → Dp K F'' v (.tuple [.str "refused", .int i]) → Q v H'') H
    (fun v H' => ∃ F' d, Same F' H' ∧ Dp K F' v d ∧ ∀ v' H'' F'', Ext F' H' F'' H'' → Dp K F'' v' (.tuple [.str "told", d]) → Q v' H'')
def rho0 (n ie : Nat) (ad : Addr) : Rho := (List.replicate n none).set ie (some (.raw (.ref ad)))
theorem rl_rho0 {K : PySem.W.Frag} {n ie : Nat} {ad : Addr} {σ : St} {H : Hp} (hl : σ.length = n) (hi : ie < n) : Rl K noH H (rho0 n ie ad) (σ.set ie (some (.ref ad))) H noH := by
  have at_ : ∀ i u, (rho0 n ie ad)[i]? = some (some u) → i = ie ∧ u = .raw (.ref ad) := fun i u h => by
    unfold rho0 at h
    rw [List.getElem?_set] at h
    split at h
    · rename_i q
      split at h
      · cases h; exact ⟨q.symm, rfl⟩
      · cases h
    · rw [List.getElem?_replicate] at h
      split at h <;> cases h
  refine ⟨⟨.refl _, .refl _, fun a o e => (by cases e), fun a o e => (by cases e)⟩, by simp [rho0, hl], fun i d h => ?_, fun i ds h => ?_, fun i j a ds es h => ?_, fun i v h => ?_⟩
  · obtain ⟨_, q⟩ := at_ i _ h; cases q
  · obtain ⟨_, q⟩ := at_ i _ h; cases q
  · obtain ⟨_, q⟩ := at_ i _ h; cases q
  · obtain ⟨q1, q⟩ := at_ i _ h
    cases q
    rw [q1, List.getElem?_set_self (by rw [hl]; exact hi)]
theorem we_mono {X : Cx} {e : Expr} {σ : St} {H : Hp} {Q Q' : VK} (h : WE X e σ H Q) (f : ∀ v H', Q v H' → Q' v H') : WE X e σ H Q' := fun pins s I =>
  wpAny_mono (h pins s I) (fun u s' ⟨v, H', I', r, q⟩ => ⟨v, H', I', r, f v H' q⟩) fun e s' h => h
theorem told_gives2 {X : Cx} {Ng : List Str} {x a y e ex q : Str} {sg : Scope} {g CS : Addr} {cdg : Value} {j iy ie : Nat} {cx} {ix : Str → Option Int} {hd : Str → Addr → MS} {b₀ : Stmt} {suite : List Stmt} {p1 p2 p3 p4 p5 p6 p7 p8 p9 p10 p11 : Pos}
    (hge : sg.names.lookup ex = some .globalImplicit) (hme : X.mg ex = some (.ref CS)) (hde : (ex == ("__debug__" : Str)) = false) (h0 : ∀ f : Addr, (L2.start Ng [V.ref f])[0]? = some (some (V.ref f)))
    (hN : Ng.Nodup) (hiy : Ng[iy]? = some y) (hie : Ng[ie]? = some e) (hne : ie ≠ iy) (hly : sg.names.lookup y = some .local) (hle : sg.names.lookup e = some .local)
    (hx : ∀ c i, ix c = some i → PySem.W.exmOne X.K (.ref (He.ga X.K c)) (.ref CS) = some true)
    (hsu : ∀ c i, ix c = some i → ∀ (s : Shared) (H : Hp) (ad : Addr) (oe : Obj) (pn : List (Addr × Obj)), Zc (.ref (He.ga X.K c)) none oe → (∃ vs, oe.data = .fields vs) →
      DSs ((cxOf C8.CX0 X.prog X.w X.K X.mg X.base Ng x sg g cdg X.A X.stack s H C8.E0).nox.suite ad ((ad, oe) :: pn)) (b₀ :: suite) (hd c ad))
    (hev : ∀ c i ad, ix c = some i → ∃ ρ', hd c ad (rho0 Ng.length ie ad) = some (.nx ρ') ∧ ρ'[iy]? = some (some (.frz (.tuple [.str "refused", .int i]))))
    (hyd : (y == ("__debug__" : Str)) = false := by decide) (hyc : (y == ("__classdict__" : Str)) = false := by decide) :
    GivesTo X Ng x sg g cdg [.Try [.Assign [.Name y p1] (.Tuple [.Constant (.str "told") j p2, .Call (.Name a p3) [] [] p4] cx p5) p6] [.ExceptHandler (some (.Name ex p7)) (some e) (b₀ :: suite) p8] [] [] p9, .Return (some (.Name y p10)) p11] a q (TTd X.K ix) := by
  intro f c' s H Q tl act hc h
  have hgl : Gl (cxOf C8.CX0 X.prog X.w X.K X.mg X.base Ng x sg g cdg X.A X.stack s H C8.E0).nox ex := hge
  have hlie : ie < Ng.length := (List.getElem?_eq_some_iff.mp hie).1
  refine ⟨_, pss_cons (ps_try_as (X := (cxOf C8.CX0 X.prog X.w X.K X.mg X.base Ng x sg g cdg X.A X.stack s H C8.E0).nox) (c := .ref CS) (i := ie) (Wout := fun _ _ _ _ => False)
      (tb := fun W D σ H2 => σ[0]? = some (some (.ref f)) ∧ H2 c' = some (CodeO c' q) ∧ ∃ (Ech : XK) (Qv : VK), (∀ cls d σ' H', σ'.length = Ng.length → Ech cls d H' → W cls d σ' H') ∧ tl Ech H2 Qv ∧ ∀ v H3, Qv v H3 → ∀ p, H3 p = none → D.nx (σ.set iy (some (.ref p))) (upd H3 p (.tup [.str "told", v])))
      (ts := fun ad cls d D σ H2 => ∀ oe pn, Zc cls d oe → (∃ vs, oe.data = .fields vs) → WSs ((cxOf C8.CX0 X.prog X.w X.K X.mg X.base Ng x sg g cdg X.A X.stack s H C8.E0).nox.suite ad ((ad, oe) :: pn)) (b₀ :: suite) D σ H2)
      rfl rfl hN hie hle ⟨hgl, hde, .inl hme⟩ takes_no (fun W pn xe tk _ => ?_) (fun ad oe cls d pn hz hf => ⟨fun pins s σ H D I h => h oe pn hz hf pins s I⟩)) (pss_one (ps_ret (pe_var hiy (.inl hly) hyd hyc))), ?_⟩
  · refine ⟨fun pins s' σ H' D I h' => ?_⟩
    obtain ⟨h1, h2, Ech, Qv, hW, h3, h4⟩ := h'
    have hp := act _ pn xe Ech p3 p4 (takes_len tk) (fun cls d σ' H' e1 e2 => hW cls d σ' H' e2 e1)
    have hw : WE ((cxOf C8.CX0 X.prog X.w X.K X.mg X.base Ng x sg g cdg X.A X.stack s H C8.E0).tr pn xe) (.Call (.Name a p3) [] [] p4) σ H' (fun v H3 => ∀ p, H3 p = none → D.nx (σ.set iy (some (.ref p))) (upd H3 p (.tup [.str "told", v]))) := we_mono (we_of hp ⟨h1, h2, h3⟩) h4
    have ps := pss_one (ps_set (pos := p6) (pos' := p1) (X := (cxOf C8.CX0 X.prog X.w X.K X.mg X.base Ng x sg g cdg X.A X.stack s H C8.E0).tr pn xe) hN hiy (.inl hly) (pe_tup (x1 := cx) (pos := p5) (pa_cons (te := tC (.str "told")) (e := .Constant (.str "told") j p2) pe_str (pa_cons (pe_we (e := .Call (.Name a p3) [] [] p4)) pa_nil (star_cons rfl)) (star_cons rfl))) (swaps_no rfl) (.inr hly))
    refine ps.run pins s' σ H' D I ?_
    refine we_mono hw fun v H3 hq => ?_
    refine ⟨?_, fun p hp => hq p hp⟩
    rw [sizeLine_eq]
    show 2 ≤ _
    omega
  · have hlen : (L2.start Ng [V.ref f]).length = Ng.length := by
      have := (List.getElem?_eq_some_iff.mp hiy).1
      simp only [L2.start, List.length_append, List.length_map, List.length_replicate, List.length_cons, List.length_nil]
      omega
    refine ⟨h0 f, hc, _, _, ?_, h, ?_⟩
    · rintro cls d σ' H' hl ⟨c, i, rfl, rfl, hi, hq⟩
      refine ⟨true, hx c i hi, fun _ ad had oe pn hz hf => ?_, fun z => by cases z⟩
      obtain ⟨ρ', e1, e2⟩ := hev c i ad hi
      refine (hsu c i hi s H ad oe pn hz hf).run noH H' (rho0 Ng.length ie ad) _ H' noH _ _ (rl_rho0 hl hlie) e1 ?_
      intro σ2 H2 F2 r2 s2
      obtain ⟨v, k1, k2⟩ := r2.frz iy _ e2
      refine ⟨v, ?_, hq v H2 F2 r2.ext k2⟩
      rw [List.getElem?_set_ne hne]
      exact k1
    · rintro v H3 ⟨F', d, k1, k2, k3⟩ p hp
      refine ⟨.ref p, ?_, ?_⟩
      · exact List.getElem?_set_self (by rw [hlen]; exact (List.getElem?_eq_some_iff.mp hiy).1)
      · exact k3 _ _ _ (.alloc k1 hp) (.tup (.inl (.inl upd_same)) (.cons (.str _) (.cons (k2.same (same_upd (k1.free hp))) .nil)))
end Dw

set_option Elab.async false
set_option linter.all false
set_option maxRecDepth 100000
set_option maxHeartbeats 4000000
/-! x = _law_told(lambda: ..) as data; a law that makes lambdas; its end -/
namespace Dw
open PySem PySem.Spec L2 LamX
def mTold (ix : Str → Option Int) (fv : Mr PyData) (fr : Mr Str) : Mr PyData := fun ρ => match fv ρ with
  | some d => some (.tuple [.str "told", d])
  | none => (fr ρ).bind fun c => (ix c).map fun i => .tuple [.str "refused", .int i]
theorem rl_extN {K : PySem.W.Frag} {F0 H0 F H H1 : Hp} {ρ : Rho} {σ : St} (r : Rl K F0 H0 ρ σ H F) (nf : NoX F) (n0 : NoX H0) (e : ExtN H H1) : Rl K F0 H0 ρ σ H1 F := by
  have up : ∀ {G : Hp}, NoX G → Same G H → Same G H1 := fun n s a o h => e a o (s a o h) fun ps z => by have := n a o h; rw [z] at this; cases this
  refine ⟨⟨r.ext.ff, up n0 r.ext.hh, up nf r.ext.fh, r.ext.new⟩, r.len, r.frz, fun i ds h => ?_, r.dis, r.raw⟩
  obtain ⟨a, vs, h1, h2, h3⟩ := r.own i ds h
  exact ⟨a, vs, h1, e a _ h2 (fun ps z => by cases z), h3⟩
/-- calls of x with a lambda -/
structure TLD (X : Cx) (T : List (Addr × Str)) (x : Str) (k : Nat) (ix : Str → Option Int) : Prop where
  pe : ∀ {params : Arguments} {body : Expr} {scope : Scope} {t : XK → TE} {p lpos pos : Pos}, LamS X.env.scope scope → defaultsOf params X.env = ([], []) →
    (∀ (q : Str) (cl : List (Str × Addr)) (pm cv ctv : Value), bindArgs (PySem.W.kla_fn "<lambda>" q params body scope cl pm cv ctv) ⟨[], []⟩ = pure []) →
    (∀ (A : Around) (outer : List Env) (s : Shared) (H : Hp) (E : XK) (f c' : Addr), Room k (A.deeper (lamEnv X scope s.heap.objs.size f c')) → PE (lamCx X A outer s H E scope f c') body (t E)) →
    PE X (.Call (.Name x p) [.Lambda params body scope lpos] [] pos) (tLam T (TTd X.K ix) t)
section
variable {X : Cx} {T : List (Addr × Str)} {x : Str} {k : Nat} {ix : Str → Option Int} {fv : Mr PyData} {fr : Mr Str} {params : Arguments} {body : Expr} {scope : Scope} {p lpos pos : Pos}
theorem le_told (L : TLD X T x k ix) (hl : LamS X.env.scope scope)
    (hv : ∀ (A : Around) (outer : List Env) (s : Shared) (H : Hp) (E : XK) (f c' : Addr), Room k (A.deeper (lamEnv X scope s.heap.objs.size f c')) → DE (lamCx X A outer s H E scope f c') body fv)
    (hr : ∀ (A : Around) (outer : List Env) (s : Shared) (H : Hp) (E : XK) (f c' : Addr), Room k (A.deeper (lamEnv X scope s.heap.objs.size f c')) → Takes (lamCx X A outer s H E scope f c') (fun cls d _ H => E cls d H) → RE (lamCx X A outer s H E scope f c') (fun cls d _ H => E cls d H) body fr)
    (hdef : defaultsOf params X.env = ([], []) := by rfl)
    (hbind : ∀ (q : Str) (cl : List (Str × Addr)) (pm cv ctv : Value), bindArgs (PySem.W.kla_fn "<lambda>" q params body scope cl pm cv ctv) ⟨[], []⟩ = pure [] := by intros; rfl) :
    LE X T (.Call (.Name x p) [.Lambda params body scope lpos] [] pos) (mTold ix fv fr) := by
  refine ⟨fun F0 H0 ρ σ H F d Q r t hf q => ?_⟩
  refine we_of (L.pe (t := fun E σ H Q => ∀ (A : Around) (outer : List Env) (s : Shared) (H1 : Hp) (f c' : Addr), Room k (A.deeper (lamEnv X scope s.heap.objs.size f c')) → WE (lamCx X A outer s H1 E scope f c') body σ H Q) hl hdef hbind
    (fun A outer s H1 E f c' hrm => ⟨fun pins s2 σ H Q I h => h A outer s H1 f c' hrm pins s2 I⟩)) ⟨t.tb, fun H1 eN T1 => ?_⟩
  have r1 := rl_extN r t.nf t.n0 eN
  have fin : ∀ v H2 F2, Ext F H1 F2 H2 → Dp X.K F2 v d → Q v H2 := fun v H2 F2 x dp =>
    q v H2 (noX F2) (rl_noX (r1.more x) (t.nf.down r1.ext.ff)) (same_noX t.nf x.ff) ⟨noX_noX _, t.n0, T1.ext x.hh⟩ (dp_noX _ _ dp)
  intro A outer s H3 f c' hrm
  unfold mTold at hf
  split at hf
  · rename_i d0 h0
    cases hf
    refine (hv A outer s H3 _ f c' hrm).run F0 H0 ρ σ H1 F d0 _ r1 h0 fun v H2 F2 x dp => ?_
    exact ⟨F2, d0, x.fh, dp, fun v' H4 F4 x2 dp2 => fin v' H4 F4 (x.trans x2) dp2⟩
  · obtain ⟨c, h1, h2⟩ := Option.bind_eq_some_iff.mp hf
    obtain ⟨i, h4, h3⟩ := Option.map_eq_some_iff.mp h2
    subst h3
    refine (hr A outer s H3 _ f c' hrm (takes_of rfl rfl rfl rfl)).run F0 H0 ρ σ H1 F c _ r1 h1 fun H2 F2 x => ?_
    refine ⟨c, i, rfl, rfl, h4, fun v H4 F4 x2 dp => ?_⟩
    obtain ⟨F5, x5, s5⟩ := ext_union x.fh x2
    exact fin v H4 F5 (x.trans x5) (dp.same s5)
end
def spL (K : PySem.W.Frag) (T : List (Addr × Str)) (n : Nat) (m : List PyData → Option PyData) : Sp := fun vs H Q _ => ∃ F ds d, Same F H ∧ NoX F ∧ Tabs T H ∧ DpAll K F vs ds ∧ ds.length = n ∧ m ds = some d ∧ ∀ v H' F', Dp K F' v d → Q v H'
theorem rl_startL {K : PySem.W.Frag} {F H : Hp} {N : List Str} {vs : List V} {ds : List PyData} (fh : Same F H) (h : DpAll K F vs ds) : Rl K F F (startR N ds) (L2.start N vs) H F := by
  have r := rl_start (N := N) fh h
  exact ⟨⟨.refl _, fh, fh, fun a o e n => by rw [n] at e; cases e⟩, r.len, r.frz, fun i ds' e => by
    obtain ⟨a, vs, h1, h2, h3, h4, h5⟩ := r.own i ds' e
    exact ⟨a, vs, h1, h2, h3, h3, h5⟩, r.dis, r.raw⟩
theorem fn_okL {P : Program} {w : World} {K : PySem.W.Frag} {mg : Str → Option Value} {base : Heap} {x qual : Str} {params : Arguments} {body : List Stmt} {scope : Scope} {f : Addr} {N ps : List Str} {k n : Nat} {fb : MS} {T : List (Addr × Str)} {dV kV doc pm cdv ct oc : Value} {an od : Option Addr} {osl : Array (Option Value)}
    (lk : K.lookup f = some ⟨oc, od, .func (PySem.W.fnOf x qual params body scope dV kV doc pm an cdv ct), osl⟩) (hcd : PySem.W.codeIn K cdv qual = true) (S : FnScope N ps scope) (hn : ps.length = n)
    (hbody : ∀ (A : Around) (outer : List Env) (s : Shared) (H : Hp) (E : XK), Room k (A.deeper (PyProof.Rows.envOfC qual scope s.heap.objs.size f cdv)) → LSs (cxOf CX0 P w K mg base N qual scope f cdv A outer s H E).nox T body fb) :
    FnOk P w K mg base CX0 (k + 1) f (PySem.W.fnOf x qual params body scope dV kV doc pm an cdv ct) ps (spL K T n (runD N fb)) := by
  refine fn_of lk hcd S (fun vs H Q E h => ?_) (fun A outer s H vs Q E hr h => ?_)
  · obtain ⟨F, ds, d, _, _, _, h1, h2, _⟩ := h
    rw [h1.len, h2, hn]
  · obtain ⟨F1, ds, d, fh, nx, tb, h1, h2, h3, q⟩ := h
    obtain ⟨o, f1, f2⟩ := Option.bind_eq_some_iff.mp h3
    refine ⟨_, PSs.nox pss_wss, (hbody A outer s H E hr).run F1 F1 _ _ H F1 o _ (rl_startL fh h1) ⟨nx, nx, tb⟩ f1 ?_⟩
    cases o with
    | nx ρ =>
      cases f2
      exact fun σ' H' F' r _ _ => q _ H' F' .non
    | rt d' =>
      cases f2
      exact fun v H' F' e d1 => q v H' F' d1
    | bk ρ => cases f2
    | ct ρ => cases f2
theorem law_spL {K : PySem.W.Frag} {T : List (Addr × Str)} {m : List PyData → Option PyData} (hm : ∀ ns : List Int, ns.length ≤ 63 → m [.list (ns.map .int)] = some (.bool true)) (H : Hp) (a : Addr) (ns : List Int) (hl : ns.length ≤ 63) (hT : Tabs T H) (hS : SqL K H a (ns.map V.int)) :
    spL K T 1 m [.ref a] H (fun v _ => v = .bl true) fun _ _ _ => False := by
  have ha : ∀ (G : Hp) (ns : List Int), DpAll K G (ns.map V.int) (ns.map PyData.int) := fun G ns => by
    induction ns with
    | nil => exact .nil
    | cons n ns ih => exact .cons (.int n) ih
  refine ⟨noX H, [.list (ns.map .int)], .bool true, noX_sub H, noX_noX H, hT, .cons (dp_noX _ _ (.lst hS (ha H ns))) .nil, rfl, hm ns hl, fun v H' F' d => ?_⟩
  cases d
  rfl
/-! the end -/
section
open PyProof.Rows
theorem walk_ofOwnE {l : PySem.W.OpenLaw} {n k : Nat} {q : Program} {loose : List Str} {XP : (Str → Option Value) → Heap → Prop} {YP : World → Heap → Prop} {d : DefRec} {CX : World → CXT} {x : Str}
    (hn : l.most = some n) (hn2 : n ≤ sizeLine) (hdf : d.params.defaults = []) (hr : Room k callerA) (hrec : ((recsOf q).any fun e => e.name == d.name) = true)
    (F : ∀ (w : World) (mg : Str → Option Value) (fa : Addr) (h : Heap), YP w h → h.Ns mainGlobals mg → mg d.name = some (.ref fa) → (∀ K : PySem.W.Frag, K.In h → OwnTab K fa h) → ∃ K : PySem.W.Frag, K.In h ∧ LawAtS l w K (CX w) k n x mg fa h)
    (hCX : ∀ (w : World) (H : Hp) (s : Shared) (e : Value) (s' : Shared), CX w [] H s (fun _ _ _ => False) e s' → False) :
    PySem.W.WalkO q loose XP YP l.row.toRowW d [] (fun f vs => PySem.call f vs) := by
  refine Att.attach_callB hn hdf fun w s₀ s₁ mg mb fa o pm cd doc a vs ns G Y ho hd hcd hmg hobj hints hlen hbits hg => ?_
  have own : ∀ K : PySem.W.Frag, K.In s₁.heap → OwnTab K fa s₁.heap := fun K KX c P o1 fd1 e dd vs1 sl k1 k2 k3 k4 k5 => by
    obtain ⟨dL, hm, hn1⟩ := List.any_eq_true.mp hrec
    have hn2 : dL.name = d.name := beq_iff_eq.mp hn1
    obtain ⟨a', o', fd', c', P', h1, h2, h3, h4, h5, h6⟩ := G.T.tab dL hm
    rw [hn2, hmg] at h1
    cases h1
    have g1 := KX _ _ k1
    rw [g1] at h2
    cases h2
    rw [k2] at h3
    cases h3
    rw [k3] at h4
    cases h4
    obtain ⟨⟨oc, vc, e1, _, e3, e4⟩, hP⟩ := h6
    have g2 := KX _ _ k4
    rw [g2] at e1
    cases e1
    cases e3
    rw [k5] at e4
    cases e4
    exact hP
  obtain ⟨K, KX, fd, cs, sp, hT, nT, C, hb, hsp, hF⟩ := F w mg fa _ Y G.T.g hmg own
  exact law_callTs KX G.T.g G.T.b G.T.builtins G.T.nolimit hg hT nT C G.T.bmain hobj hints (Nat.le_trans hlen hn2) hr hF hb (fun H hH hS => hsp H a ns hlen hbits hH hS) fun H e s' => hCX w H s₁ e s'
end
/-! ### the head, tables of code objects left out -/
def isTab (o : Obj) : Bool := match o.cls, o.data with
  | .none, .fields vs => vs.isEmpty
  | _, _ => false
def flt (g : Addr → Option Obj) : Addr → Option Obj := fun a => match g a with
  | some o => if isTab o = true then none else some o
  | none => none
theorem flt_some {g : Addr → Option Obj} {a : Addr} {o : Obj} (h : flt g a = some o) : g a = some o := by
  unfold flt at h
  split at h
  · rename_i u q
    split at h
    · cases h
    · cases h; exact q
  · cases h
def obsY (ck : PySem.W.Frag → Bool) (fa : List He.Fa) (gl : List (Str × PyData)) (fn : List He.DefD) (K : PySem.W.Frag) : He.AlD := (ck K && (ckX fa gl K && fn.all fun d => d.ok K), fn.map fun d => He.fnW K d.at_)
def SaysY (ck : PySem.W.Frag → Bool) (fa : List He.Fa) (gl : List (Str × PyData)) (fn : List He.DefD) (K : PySem.W.Frag) : Prop := obsY ck fa gl fn K = He.valD fn
theorem SaysY.ckY {ck : PySem.W.Frag → Bool} {fa : List He.Fa} {gl : List (Str × PyData)} {fn : List He.DefD} {K : PySem.W.Frag} (c : SaysY ck fa gl fn K) : ck K = true :=
  (Bool.and_eq_true_iff.mp (show (ck K && (ckX fa gl K && fn.all fun d => d.ok K)) = true from congrArg (fun z : He.AlD => z.1) c)).1
theorem SaysY.x {ck : PySem.W.Frag → Bool} {fa : List He.Fa} {gl : List (Str × PyData)} {fn : List He.DefD} {K : PySem.W.Frag} (c : SaysY ck fa gl fn K) : SaysX fa gl fn K := by
  have h1 := (Bool.and_eq_true_iff.mp (show (ck K && (ckX fa gl K && fn.all fun d => d.ok K)) = true from congrArg (fun z : He.AlD => z.1) c)).2
  have h2 : fn.map (fun d => He.fnW K d.at_) = fn.map He.DefD.val := congrArg (fun z : He.AlD => z.2) c
  show (ckX fa gl K && fn.all (fun d => d.ok K), fn.map fun d => He.fnW K d.at_) = He.valD fn
  rw [h1, h2] <;> rfl
def obsYG (n : Nat) (ck : PySem.W.Frag → Bool) (fa : List He.Fa) (gl : List (Str × PyData)) (fn : List He.DefD) (g : Addr → Option Obj) : He.AlD := obsY ck fa gl fn (He.frG (flt g) (He.asD (flt g) n))
def hookY (n : Nat) (ck : PySem.W.Frag → Bool) (fa : List He.Fa) (gl : List (Str × PyData)) (fn : List He.DefD) : PySem.W.Hook where
  α := He.AlD
  obs := fun s => obsYG n ck fa gl fn s.heap.get?
  val := fun _ => He.valD fn
  says := fun _ h => ∃ K : PySem.W.Frag, K.In h ∧ SaysY ck fa gl fn K
  of := fun _ _ e => ⟨_, fun a o h => flt_some (He.frG_at _ h), e⟩
  keeps := fun _ _ _ ⟨K, hK, c⟩ k => ⟨K, PySem.W.Frag.In.keeps hK k, c⟩
theorem obsYG_eq {n : Nat} {ck : PySem.W.Frag → Bool} {fa : List He.Fa} {gl : List (Str × PyData)} {fn : List He.DefD} {g : Addr → Option Obj} {s : Shared} (h : ∀ a, g a = s.heap.get? a) : obsYG n ck fa gl fn g = (hookY n ck fa gl fn).obs s := by
  have e : g = s.heap.get? := funext h
  rw [e] <;> rfl
/-- the code object of the def x and its table -/
def ownCP (K : PySem.W.Frag) (f : Addr) : Addr × Addr := match K.lookup f with
  | some ⟨_, _, .func fd, _⟩ => (match fd.code with
    | .ref c => (match K.lookup c with
      | some ⟨_, _, .fields vs, _⟩ => (match vs[11]? with
        | some (Value.ref P) => (c, P)
        | _ => (0, 0))
      | _ => (0, 0))
    | _ => (0, 0))
  | _ => (0, 0)
def ownB (K : PySem.W.Frag) (f : Addr) : Bool := match K.lookup f with
  | some ⟨_, _, .func fd, _⟩ => (match fd.code with
    | .ref c => (match K.lookup c with
      | some ⟨.type t, _, .fields vs, _⟩ => decide (t = "code") && (match vs[11]?, vs.getD 11 .none, vs.getD 18 .none, vs.getD 7 .none, vs.getD 9 .none, vs.getD 10 .none with
        | some (Value.ref P), .ref P2, .str _ _, .int _ _, .bool _, .int _ _ => decide (P = P2) && (decide (c ≠ P) && (K.lookup P).isNone)
        | _, _, _, _, _, _ => false)
      | _ => false)
    | _ => false)
  | _ => false
theorem ownB_ok {K : PySem.W.Frag} {h : Heap} {f : Addr} (X : K.In h) (own : OwnTab K f h) (c : ownB K f = true) :
    h.get? (ownCP K f).2 = some { cls := .none, data := .fields #[] } ∧ K.lookup (ownCP K f).2 = none ∧ PySem.W.CodeHd h (ownCP K f).1 (ownCP K f).2 ∧ ∀ o fd, K.lookup f = some o → o.data = .func fd → fd.code = .ref (ownCP K f).1 := by
  unfold ownB at c
  split at c
  · rename_i oc od fd osl lf
    split at c
    · rename_i a ha
      split at c
      · rename_i t dd vs sl la
        obtain ⟨c1, c2⟩ := Bool.and_eq_true_iff.mp c
        have c1 := of_decide_eq_true c1
        subst c1
        split at c2
        · rename_i P P2 s1 s2 i1 i2 b1 j1 j2 g1 g2 g3 g4 g5 g6
          obtain ⟨c2, c3⟩ := Bool.and_eq_true_iff.mp c2
          obtain ⟨c3, c4⟩ := Bool.and_eq_true_iff.mp c3
          have c2 := of_decide_eq_true c2
          subst c2
          have e : ownCP K f = (a, P) := by
            unfold ownCP
            simp only [lf, ha, la, g1]
          rw [e]
          refine ⟨own a P _ fd _ _ vs _ lf rfl ha la g1, Option.isNone_iff_eq_none.mp c4, ⟨_, vs, _, _, _, _, _, _, _, X _ _ la, rfl, rfl, g1, g2, g3, g4, g5, g6, of_decide_eq_true c3⟩, fun o fd' h1 h2 => ?_⟩
          rw [lf] at h1
          cases h1
          cases h2
          exact ha
        · cases c2
      · cases c
    · cases c
  · cases c
/-! classes of exceptions -/
def excB (K : PySem.W.Frag) (c : Str) : Bool :=
  He.eqO (PySem.W.findIn K (.ref (He.ga K c)) "__getattribute__") (some (some (.builtin "BaseException.__getattribute__"))) && (He.eqO (PySem.W.findIn K (.ref (He.ga K c)) "__getattr__") (some none) &&
  (decide (PySem.W.subIn K (.ref (He.ga K c)) (.type "BaseException") = some true) && (PySem.W.hasDictIn K (He.ga K c) && (He.eqO (PySem.W.findIn K (.ref (He.ga K c)) "__class__") (some (some (.builtin "object.__class__"))) &&
  (He.eqO (PySem.W.specialIn K (.builtin "object.__class__") "__get__") (some (some (.builtin "getset_descriptor.__get__"))) && (decide (PySem.W.takesIn K (.builtin "object.__class__") = some true) && decide (PySem.W.mroIn K (He.ga K c) (.type "object") = some true)))))))
theorem excB_ok {K : PySem.W.Frag} {c : Str} (h : excB K c = true) : ExcC K (He.ga K c) := by
  unfold excB at h
  simp only [Bool.and_eq_true, decide_eq_true_eq] at h
  obtain ⟨h1, h2, h3, h4, h5, h6, h7, h8⟩ := h
  exact ⟨He.eqO_ok h1, He.eqO_ok h2, h3, h4, He.eqO_ok h5, He.eqO_ok h6, h7, h8⟩
def kitB (K : PySem.W.Frag) (c x : Str) (b : Bool) : Bool := decide (PySem.W.kitOne K (.ref (He.ga K c)) (.ref (He.ga K x)) = some b)
def kitV (K : PySem.W.Frag) (c : Str) (t : String) (b : Bool) : Bool := decide (PySem.W.kitOne K (.ref (He.ga K c)) (.type t) = some b)
theorem kitB_ok {K : PySem.W.Frag} {c x : Str} {b : Bool} (h : kitB K c x b = true) : PySem.W.kitOne K (.ref (He.ga K c)) (.ref (He.ga K x)) = some b := of_decide_eq_true h
theorem kitV_ok {K : PySem.W.Frag} {c : Str} {t : String} {b : Bool} (h : kitV K c t b = true) : PySem.W.kitOne K (.ref (He.ga K c)) (.type t) = some b := of_decide_eq_true h
end Dw

set_option Elab.async false
set_option linter.all false
set_option maxRecDepth 100000
set_option maxHeartbeats 4000000
/-! loops over ranges in which lambdas are made -/
namespace Dw
open PySem PySem.Spec L2 LamX
section
variable {X : Cx} {T : List (Addr × Str)} {a b tg : Expr} {ga : Mr (List PyData)} {pos p : Pos}
theorem dir_rng1 (hm : X.mg "range" = none) (h : DA X [a] ga) (hg : Gl X "range" := by rfl) (hn1 : noStar a = true := by rfl) : DIR X tg (.Call (.Name "range" p) [a] [] pos) (mIt pRng1 ga) := by
  refine ⟨?_⟩
  intro F0 H0 ρ σ H F ds R r hf q
  obtain ⟨x, h1, h2⟩ := Option.bind_eq_some_iff.mp hf
  unfold pRng1 at h2
  split at h2
  · rename_i n
    split at h2
    · rename_i hk
      cases h2
      refine wi_of (pi_range1 hg hm pa_wa (star_cons hn1)) (h.run F0 H0 ρ σ H F _ _ r h1 fun v H1 F1 e1 d1 => ?_)
      cases d1 with
      | cons d1 d2 =>
        cases d2
        cases d1
        exact ⟨n, rfl, (rOk_ok hk).1, (rOk_ok hk).2, q _ H1 F1 e1 fun G => wk_rng⟩
    · cases h2
  · cases h2
theorem dir_rng2 (hm : X.mg "range" = none) (h : DA X [a, b] ga) (hg : Gl X "range" := by rfl) (hn1 : noStar a = true := by rfl) (hn2 : noStar b = true := by rfl) :
    DIR X tg (.Call (.Name "range" p) [a, b] [] pos) (mIt pRng2 ga) := by
  refine ⟨?_⟩
  intro F0 H0 ρ σ H F ds R r hf q
  obtain ⟨x, h1, h2⟩ := Option.bind_eq_some_iff.mp hf
  unfold pRng2 at h2
  split at h2
  · rename_i m n
    split at h2
    · rename_i hk
      cases h2
      obtain ⟨k1, k2⟩ := Bool.and_eq_true_iff.mp hk
      refine wi_of (pi_range2 hg hm pa_wa ((star_cons hn1).trans (congrArg _ (star_cons hn2))) (star_cons hn2)) (h.run F0 H0 ρ σ H F _ _ r h1 fun v H1 F1 e1 d1 => ?_)
      cases d1 with
      | cons d1 d2 =>
        cases d2 with
        | cons d2 d3 =>
          cases d3
          cases d1
          cases d2
          exact ⟨m, n, rfl, ⟨(rOk_ok k1).1, (rOk_ok k1).2, (rOk_ok k2).1, (rOk_ok k2).2⟩, q _ H1 F1 e1 fun G => wk_rng⟩
    · cases h2
  · cases h2
theorem ls_forR {iter : Expr} {body : List Stmt} {fi : Mr (List PyData)} {vs : List Nat} {g : MG} {fb : MS} (hp : PassesOwn (model X.prog X.w) X.A X.env X.xe) (hi : DIR X tg iter fi) (hg : DG X tg vs g) (hb : LSs X T body fb) (hc : X.calm = true := by rfl)
    (hs : ∀ x, foldedSetIterable iter X.env x = pure x := by intro _; rfl) : LS X T (.For tg iter body [] pos) (sFor fi g fb) := by
  refine ⟨?_⟩
  intro F0 H0 ρ σ H F o D r t hf q
  obtain ⟨ds, f1, f2⟩ := Option.bind_eq_some_iff.mp hf
  refine ws_of (ps_for hp hc pi_wi pg_wg pss_wss hs) (hi.run F0 H0 ρ σ H F ds _ r f1 fun J H1 F1 e1 wk => ?_)
  have n0 : NoX F0 := t.nf.down r.ext.ff
  obtain ⟨G, Y, W, hG, hY⟩ := wk (noX F1)
  refine for_it W (fun i σ2 H2 => (∃ ρ2 F2, Rl X.K F0 H0 ρ2 σ2 H2 F2 ∧ TK T F2 H0 H2 ∧ Same (noX F1) F2 ∧ forL g fb (ds.drop i) ρ2 = some o)) ⟨ρ, noX F1, rl_noX (r.more e1) n0, tk_ext t e1, .refl _, f2⟩ (fun i σ2 H2 _ p => ?_) (fun i x σ2 H2 H3 hi p y => ?_) (fun σ2 H2 p => ?_)
  · obtain ⟨ρ2, F2, r2, t2, s2, _⟩ := p
    exact hG H2 (s2.trans r2.fh)
  · obtain ⟨ρ2, F2, r2, t2, s2, hl⟩ := p
    obtain ⟨F3, d, hd, e3, dx⟩ := hY i H2 x H3 F2 hi s2 r2.fh y
    have hdr : ds.drop i = d :: ds.drop (i + 1) := by
      rw [List.drop_eq_getElem_cons hi]
      rw [List.getElem?_eq_getElem hi] at hd
      cases hd
      rfl
    rw [hdr] at hl
    obtain ⟨ρ3, g1, hl⟩ := Option.bind_eq_some_iff.mp hl
    obtain ⟨o1, b1, hl⟩ := Option.bind_eq_some_iff.mp hl
    have s13 : Same (noX F1) (noX F3) := s2.trans (same_noX t2.nf e3.ff)
    refine hg.run F0 H0 ρ2 σ2 H3 (noX F3) x d ρ3 _ (rl_noX (r2.more e3) n0) (dp_noX _ _ dx) g1 fun σ3 r3 _ => ?_
    refine hb.run F0 H0 ρ3 σ3 H3 (noX F3) o1 _ r3 (tk_ext t2 e3) b1 ?_
    cases o1 with
    | nx ρ4 => exact fun σ4 H4 F4 r4 s4 t4 => ⟨ρ4, F4, r4, t4, s13.trans s4, hl⟩
    | ct ρ4 => exact fun σ4 H4 F4 r4 s4 t4 => ⟨ρ4, F4, r4, t4, s13.trans s4, hl⟩
    | bk ρ4 =>
      cases hl
      exact fun σ4 H4 F4 r4 s4 t4 => q σ4 H4 F4 r4 ((same_noX t.nf e1.ff).trans (s13.trans s4)) t4
    | rt d =>
      cases hl
      exact q
  · obtain ⟨ρ2, F2, r2, t2, s2, hl⟩ := p
    rw [List.drop_length] at hl
    cases hl
    exact q σ2 H2 F2 r2 ((same_noX t.nf e1.ff).trans s2) t2
end
def ixOne (c0 : Str) (i0 : Int) : Str → Option Int := fun c => if c = c0 then some i0 else none
theorem ixOne_some {c0 c : Str} {i0 i : Int} (h : ixOne c0 i0 c = some i) : c = c0 ∧ i = i0 := by
  unfold ixOne at h
  split at h
  · rename_i q; cases h; exact ⟨q, rfl⟩
  · cases h
end Dw

set_option Elab.async false
set_option linter.all false
set_option maxRecDepth 100000
namespace Dw
open PySem PySem.Spec L2
theorem tv_add {a b : List PyData} (h : a.length + b.length ≤ 100) : pAdd (.list a) (.list b) = some (.list (a ++ b)) := if_pos (by rw [sizeLine_eq]; omega)
theorem tv_neg {i : Int} : pNeg (.int i) = some (.int (-i)) := rfl
theorem tv_eq {a b : Int} : pEq (.int a) (.int b) = some (.bool (a == b)) := rfl
theorem tv_shb {b : Bool} : SeqAt.shaped (.bool b) = true := by cases b <;> decide +kernel
theorem tv_shl {a b c d e f : Bool} : SeqAt.shaped (.list [.bool a, .bool b, .bool c, .bool d, .bool e, .bool f]) = true := by
  cases a <;> cases b <;> cases c <;> cases d <;> cases e <;> cases f <;> decide +kernel
theorem tv_eqv {a b : Bool} : PyData.eqv (.bool a) (.bool b) = (a == b) := by cases a <;> cases b <;> decide +kernel
end Dw

set_option Elab.async false
set_option linter.all false
set_option maxRecDepth 100000
set_option maxHeartbeats 4000000
/-! a list of lists that change -/
namespace Dw
open PySem PySem.Spec L2
structure Nest (K : PySem.W.Frag) (F H0 H : Hp) (a : Addr) (dss : List (List PyData)) : Prop where
  ex : ∃ as : List Addr, H a = some (.lst (as.map V.ref)) ∧ F a = none ∧ H0 a = none ∧ a ∉ as ∧ as.Nodup ∧ as.length = dss.length ∧
    ∀ (k : Nat) (b : Addr) (ds : List PyData), as[k]? = some b → dss[k]? = some ds → ∃ vs, H b = some (.lst vs) ∧ F b = none ∧ H0 b = none ∧ DpAll K F vs ds
def NoOwn (ρ : Rho) : Prop := ∀ (i : Nat) (ds : List PyData), ρ[i]? ≠ some (some (.own ds))
theorem NoOwn.put {ρ : Rho} (h : NoOwn ρ) (i : Nat) (d : PyData) : NoOwn (ρ.set i (some (.frz d))) := fun j ds e => by
  rw [List.getElem?_set] at e
  split at e
  · split at e <;> cases e
  · exact h j ds e
theorem NoOwn.out {ρ : Rho} (h : NoOwn ρ) (i : Nat) : NoOwn (ρ.set i none) := fun j ds e => by
  rw [List.getElem?_set] at e
  split at e
  · split at e <;> cases e
  · exact h j ds e
section
variable {K : PySem.W.Frag} {F0 H0 F H F' H' : Hp} {ρ : Rho} {σ : St} {a b : Addr} {dss : List (List PyData)}
theorem ext_no (e : Ext F H F' H') {c : Addr} {o : HO} (h : H c = some o) (n : F c = none) : F' c = none := by
  cases q : F' c with
  | none => rfl
  | some u =>
    have := e.new c u q n
    rw [h] at this
    cases this
theorem Nest.more (n : Nest K F H0 H a dss) (e : Ext F H F' H') : Nest K F' H0 H' a dss := by
  obtain ⟨as, h1, h2, h3, h4, h5, h6, h7⟩ := n.ex
  refine ⟨as, e.hh _ _ h1, ext_no e h1 h2, h3, h4, h5, h6, fun k b ds g1 g2 => ?_⟩
  obtain ⟨vs, k1, k2, k3, k4⟩ := h7 k b ds g1 g2
  exact ⟨vs, e.hh _ _ k1, ext_no e k1 k2, k3, k4.same e.ff⟩
theorem rl_upd {o : HO} (r : Rl K F0 H0 ρ σ H F) (no : NoOwn ρ) (hF : F b = none) (hH : H0 b = none) : Rl K F0 H0 ρ σ (upd H b o) F :=
  ⟨⟨r.ext.ff, same_updR r.ext.hh hH, same_updR r.fh hF, r.ext.new⟩, r.len, r.frz, fun i ds e => absurd e (no i ds), fun i j a ds es e => absurd e (no i ds), r.raw⟩
/-- a new row at the end -/
theorem Nest.grow {p : Addr} (n : Nest K F H0 H a dss) (fh : Same F H) (hh : Same H0 H) (hp : H p = none) : ∃ as : List Addr, H a = some (.lst (as.map V.ref)) ∧ as.length = dss.length ∧ F a = none ∧ H0 a = none ∧
    Nest K F H0 (upd (upd H p (.lst [])) a (.lst (as.map V.ref ++ [.ref p]))) a (dss ++ [[]]) := by
  obtain ⟨as, h1, h2, h3, h4, h5, h6, h7⟩ := n.ex
  have pa : p ≠ a := fun z => by rw [z, h1] at hp; cases hp
  have inH : ∀ c ∈ as, ∃ vs, H c = some (.lst vs) := fun c hc => by
    obtain ⟨k, hk⟩ := List.getElem?_of_mem hc
    have hl : k < dss.length := by rw [← h6]; exact (List.getElem?_eq_some_iff.mp hk).1
    obtain ⟨vs, k1, _⟩ := h7 k c _ hk (List.getElem?_eq_getElem hl)
    exact ⟨vs, k1⟩
  have pas : p ∉ as := fun z => by
    obtain ⟨vs, q⟩ := inH p z
    rw [hp] at q
    cases q
  refine ⟨as, h1, h6, h2, h3, as ++ [p], by rw [upd_same, List.map_append]; rfl, h2, h3, ?_, ?_, by simp [h6], fun k b ds g1 g2 => ?_⟩
  · intro z
    rcases List.mem_append.mp z with z | z
    · exact h4 z
    · exact pa (List.mem_singleton.mp z).symm
  · refine List.nodup_append.mpr ⟨h5, by simp, fun x hx y hy => ?_⟩
    rw [List.mem_singleton.mp hy]
    exact fun z => pas (z ▸ hx)
  · have kl : k < as.length + 1 := by simpa using (List.getElem?_eq_some_iff.mp g1).1
    by_cases hk : k < as.length
    · rw [List.getElem?_append_left hk] at g1
      rw [List.getElem?_append_left (by rw [← h6]; exact hk)] at g2
      obtain ⟨vs, k1, k2⟩ := h7 k b ds g1 g2
      have hb : b ∈ as := List.mem_of_getElem? g1
      refine ⟨vs, ?_, k2⟩
      have n1 : b ≠ a := fun z => h4 (by rw [← z]; exact hb)
      have n2 : b ≠ p := fun z => pas (by rw [← z]; exact hb)
      rw [upd_ne n1, upd_ne n2]
      exact k1
    · have hk : k = as.length := by omega
      subst hk
      rw [List.getElem?_concat_length] at g1
      rw [h6, List.getElem?_concat_length] at g2
      cases g1
      cases g2
      exact ⟨[], by rw [upd_ne pa, upd_same], fh.free hp, hh.free hp, .nil⟩
/-- a row is changed -/
theorem Nest.wr {k : Nat} {ds es : List PyData} {ws : List V} (n : Nest K F H0 H a dss) (hk : dss[k]? = some ds) : ∃ (as : List Addr) (b : Addr) (vs : List V), H a = some (.lst (as.map V.ref)) ∧ as.length = dss.length ∧ as[k]? = some b ∧ H b = some (.lst vs) ∧ DpAll K F vs ds ∧ F b = none ∧ H0 b = none ∧ a ≠ b ∧
    ∀ (F' : Hp) (H' : Hp), Ext F H F' H' → ∀ (ws : List V) (es : List PyData), DpAll K F' ws es → Nest K F' H0 (upd H' b (.lst ws)) a (dss.set k es) := by
  obtain ⟨as, h1, h2, h3, h4, h5, h6, h7⟩ := n.ex
  have hl : k < as.length := by rw [h6]; exact (List.getElem?_eq_some_iff.mp hk).1
  have hb : as[k]? = some as[k] := List.getElem?_eq_getElem hl
  obtain ⟨vs, k1, k2, k3, k4⟩ := h7 k _ ds hb hk
  have hab : a ≠ as[k] := fun z => h4 (by rw [z]; exact List.getElem_mem hl)
  refine ⟨as, as[k], vs, h1, h6, hb, k1, k4, k2, k3, hab, fun F' H' e ws es hw => ?_⟩
  refine ⟨as, by rw [upd_ne hab]; exact e.hh _ _ h1, ext_no e h1 h2, h3, h4, h5, by rw [List.length_set, h6], fun i c gs g1 g2 => ?_⟩
  by_cases hik : i = k
  · subst hik
    rw [hb] at g1
    cases g1
    rw [List.getElem?_set_self (by rw [← h6]; exact hl)] at g2
    cases g2
    exact ⟨ws, upd_same, ext_no e k1 k2, k3, hw⟩
  · rw [List.getElem?_set_ne (Ne.symm hik)] at g2
    obtain ⟨us, j1, j2, j3, j4⟩ := h7 i c gs g1 g2
    have hc : c ≠ as[k] := fun z => by
      obtain ⟨hi, hie⟩ := List.getElem?_eq_some_iff.mp g1
      rw [← hie] at z
      rcases Nat.lt_or_gt_of_ne hik with q | q
      · exact List.pairwise_iff_getElem.mp h5 i k hi hl q z
      · exact List.pairwise_iff_getElem.mp h5 k i hl hi q z.symm
    exact ⟨us, by rw [upd_ne hc]; exact e.hh _ _ j1, ext_no e j1 j2, j3, j4.same e.ff⟩
/-- it does not change from now on -/
theorem Nest.freeze (n : Nest K F H0 H a dss) (r : Rl K F0 H0 ρ σ H F) : ∃ F', Ext F0 H0 F' H ∧ Dp K F' (.ref a) (.list (dss.map .list)) := by
  obtain ⟨as, h1, h2, h3, h4, h5, h6, h7⟩ := n.ex
  have at_ : ∀ c ∈ as, ∃ (k : Nat) (ds : List PyData), as[k]? = some c ∧ dss[k]? = some ds := fun c hc => by
    obtain ⟨k, hk⟩ := List.getElem?_of_mem hc
    have hl : k < dss.length := by rw [← h6]; exact (List.getElem?_eq_some_iff.mp hk).1
    exact ⟨k, _, hk, List.getElem?_eq_getElem hl⟩
  have nF : ∀ c, c = a ∨ c ∈ as → F c = none ∧ H0 c = none := fun c hc => by
    rcases hc with rfl | hc
    · exact ⟨h2, h3⟩
    · obtain ⟨k, ds, g1, g2⟩ := at_ c hc
      obtain ⟨vs, _, k2, k3, _⟩ := h7 k c ds g1 g2
      exact ⟨k2, k3⟩
  have sF : Same F (fun c => @ite _ (c = a ∨ c ∈ as) (Classical.propDecidable _) (H c) (F c)) := fun c o e => by
    by_cases hc : c = a ∨ c ∈ as
    · rw [(nF c hc).1] at e; cases e
    · show @ite _ (c = a ∨ c ∈ as) (Classical.propDecidable _) (H c) (F c) = some o
      rw [if_neg hc]; exact e
  refine ⟨fun c => @ite _ (c = a ∨ c ∈ as) (Classical.propDecidable _) (H c) (F c), ⟨r.ext.ff.trans sF, r.ext.hh, fun c o e => ?_, fun c o e z => ?_⟩, ?_⟩
  · by_cases hc : c = a ∨ c ∈ as
    · rw [if_pos hc] at e; exact e
    · rw [if_neg hc] at e; exact r.fh c o e
  · by_cases hc : c = a ∨ c ∈ as
    · exact (nF c hc).2
    · rw [if_neg hc] at e; exact r.ext.new c o e z
  · refine .lst (.inl (.inl ?_)) (?_ : DpAll K _ (as.map V.ref) (dss.map .list))
    · show @ite _ (a = a ∨ a ∈ as) (Classical.propDecidable _) (H a) (F a) = _
      rw [if_pos (.inl rfl)]; exact h1
    · have all : ∀ (bs : List Addr) (gss : List (List PyData)), bs.length = gss.length → (∀ b ∈ bs, b ∈ as) → (∀ (k : Nat) (b : Addr) (ds : List PyData), bs[k]? = some b → gss[k]? = some ds → ∃ vs, H b = some (.lst vs) ∧ DpAll K F vs ds) →
          DpAll K (fun c => @ite _ (c = a ∨ c ∈ as) (Classical.propDecidable _) (H c) (F c)) (bs.map V.ref) (gss.map .list) := by
        intro bs
        induction bs with
        | nil => intro gss hl _ _; cases gss with
          | nil => exact .nil
          | cons g gs => cases hl
        | cons b bs ih => intro gss hl hm hk; cases gss with
          | nil => cases hl
          | cons g gs =>
            obtain ⟨vs, q1, q2⟩ := hk 0 b g rfl rfl
            refine .cons (.lst (.inl (.inl ?_)) (q2.same sF)) (ih gs (by simpa using hl) (fun c hc => hm c (List.mem_cons_of_mem _ hc)) fun k c ds e1 e2 => hk (k + 1) c ds (by simpa using e1) (by simpa using e2))
            show @ite _ (b = a ∨ b ∈ as) (Classical.propDecidable _) (H b) (F b) = _
            rw [if_pos (.inr (hm b (List.mem_cons_self ..)))]; exact q1
      exact all as dss h6 (fun b hb => hb) fun k b ds e1 e2 => by
        obtain ⟨vs, q1, _, _, q2⟩ := h7 k b ds e1 e2
        exact ⟨vs, q1, q2⟩
end
end Dw

set_option Elab.async false
set_option linter.all false
set_option maxRecDepth 100000
set_option maxHeartbeats 4000000
/-! statements beside a list of lists that change -/
namespace Dw
open PySem PySem.Spec L2
abbrev NM := Rho → List (List PyData) → Option (Rho × List (List PyData))
structure NS (X : Cx) (j : Nat) (st : Stmt) (f : NM) : Prop where
  run : ∀ a F0 H0 ρ σ H F dss ρ' dss' (D : Ends), Rl X.K F0 H0 ρ σ H F → NoOwn ρ → σ[j]? = some (some (.ref a)) → Nest X.K F H0 H a dss → f ρ dss = some (ρ', dss') →
    (∀ σ' H' F', Rl X.K F0 H0 ρ' σ' H' F' → NoOwn ρ' → Same F F' → σ'[j]? = some (some (.ref a)) → Nest X.K F' H0 H' a dss' → D.nx σ' H') → WS X st D σ H
structure NSs (X : Cx) (j : Nat) (st : List Stmt) (f : NM) : Prop where
  run : ∀ a F0 H0 ρ σ H F dss ρ' dss' (D : Ends), Rl X.K F0 H0 ρ σ H F → NoOwn ρ → σ[j]? = some (some (.ref a)) → Nest X.K F H0 H a dss → f ρ dss = some (ρ', dss') →
    (∀ σ' H' F', Rl X.K F0 H0 ρ' σ' H' F' → NoOwn ρ' → Same F F' → σ'[j]? = some (some (.ref a)) → Nest X.K F' H0 H' a dss' → D.nx σ' H') → WSs X st D σ H
structure NR (X : Cx) (j : Nat) (st : List Stmt) (f : Rho → List (List PyData) → Option PyData) : Prop where
  run : ∀ a F0 H0 ρ σ H F dss d (D : Ends), Rl X.K F0 H0 ρ σ H F → NoOwn ρ → σ[j]? = some (some (.ref a)) → Nest X.K F H0 H a dss → f ρ dss = some d → (∀ v H' F', Ext F0 H0 F' H' → Dp X.K F' v d → D.rt v H') → WSs X st D σ H
def nNil : NM := fun ρ dss => some (ρ, dss)
def nSeq (f g : NM) : NM := fun ρ dss => (f ρ dss).bind fun q => g q.1 q.2
def nSet (i : Nat) (fe : Mr PyData) : NM := fun ρ dss => (fe ρ).bind fun d => some (ρ.set i (some (.frz d)), dss)
def nIf (c : Mr Bool) (f g : NM) : NM := fun ρ dss => (c ρ).bind fun b => if b = true then f ρ dss else g ρ dss
def forN (g : MG) (fb : NM) : List PyData → NM
  | [], ρ, dss => some (ρ, dss)
  | d :: ds, ρ, dss => (g d ρ).bind fun ρ1 => (fb ρ1 dss).bind fun q => forN g fb ds q.1 q.2
def nFor (fi : Mr (List PyData)) (g : MG) (fb : NM) : NM := fun ρ dss => (fi ρ).bind fun ds => forN g fb ds ρ dss
def nAppE : NM := fun ρ dss => if dss.length < 1000 then some (ρ, dss ++ [[]]) else none
def nAppL (fe : Mr PyData) : NM := fun ρ dss => (fe ρ).bind fun d => (dss[dss.length - 1]?).bind fun ds => if ds.length < 1000 then some (ρ, dss.set (dss.length - 1) (ds ++ [d])) else none
def rowsM (i : Nat) (fe : Mr PyData) (ρ : Rho) : List (List PyData) → Option (List (List PyData))
  | [] => some []
  | ds :: r => (fe (ρ.set i (some (.own ds)))).bind fun d => if ds.length < 1000 then (rowsM i fe ρ r).map fun q => (ds ++ [d]) :: q else none
def nRows (i : Nat) (fe : Mr PyData) : NM := fun ρ dss => (rowsM i fe (ρ.set i none) dss).map fun q => (ρ.set i none, q)
def nrC (f : NM) (g : Rho → List (List PyData) → Option PyData) : Rho → List (List PyData) → Option PyData := fun ρ dss => (f ρ dss).bind fun q => g q.1 q.2
def nrR : Rho → List (List PyData) → Option PyData := fun _ dss => some (.list (dss.map .list))
theorem wipe_at {σ : St} {j : Nat} : ∀ {vs : List Nat}, j ∉ vs → (L2.wipe σ vs)[j]? = σ[j]?
  | [], _ => rfl
  | v :: vs, h => by
    unfold L2.wipe
    have hv : v ≠ j := fun z => h (by rw [z]; exact List.mem_cons_self ..)
    rw [List.getElem?_set_ne hv]
    exact wipe_at fun z => h (List.mem_cons_of_mem _ z)
section
variable {X : Cx} {j : Nat} {st : Stmt} {rest a' b' : List Stmt} {f g : NM} {e : Expr} {fe : Mr PyData} {fc : Mr Bool} {pos : Pos}
theorem nss_nil : NSs X j [] nNil := by
  refine ⟨fun a F0 H0 ρ σ H F dss ρ' dss' D r no hj n hf q => ?_⟩
  cases hf
  exact wss_of pss_nil (q σ H F r no (.refl _) hj n)
theorem nss_one (h : NS X j st f) : NSs X j [st] f := ⟨fun a F0 H0 ρ σ H F dss ρ' dss' D r no hj n hf q => wss_of (pss_one ps_ws) (h.run a F0 H0 ρ σ H F dss ρ' dss' D r no hj n hf q)⟩
theorem nss_cons (h1 : NS X j st f) (h2 : NSs X j rest g) : NSs X j (st :: rest) (nSeq f g) := by
  refine ⟨fun a F0 H0 ρ σ H F dss ρ' dss' D r no hj n hf q => ?_⟩
  obtain ⟨⟨ρ1, d1⟩, f1, f2⟩ := Option.bind_eq_some_iff.mp hf
  refine wss_of (pss_cons ps_ws pss_wss) (h1.run a F0 H0 ρ σ H F dss ρ1 d1 _ r no hj n f1 fun σ1 H1 F1 r1 no1 s1 hj1 n1 => ?_)
  exact h2.run a F0 H0 ρ1 σ1 H1 F1 d1 ρ' dss' D r1 no1 hj1 n1 f2 fun σ2 H2 F2 r2 no2 s2 => q σ2 H2 F2 r2 no2 (s1.trans s2)
theorem nr_cons {gr : Rho → List (List PyData) → Option PyData} (h1 : NS X j st f) (h2 : NR X j rest gr) : NR X j (st :: rest) (nrC f gr) := by
  refine ⟨fun a F0 H0 ρ σ H F dss d D r no hj n hf q => ?_⟩
  obtain ⟨⟨ρ1, d1⟩, f1, f2⟩ := Option.bind_eq_some_iff.mp hf
  refine wss_of (pss_cons ps_ws pss_wss) (h1.run a F0 H0 ρ σ H F dss ρ1 d1 _ r no hj n f1 fun σ1 H1 F1 r1 no1 s1 hj1 n1 => ?_)
  exact h2.run a F0 H0 ρ1 σ1 H1 F1 d1 d D r1 no1 hj1 n1 f2 q
theorem nr_ret {x : Str} {p : Pos} (hN : X.N[j]? = some x := by rfl) (hv : Vis X.env.scope x := by first | exact Or.inl rfl | exact Or.inr (Or.inl rfl) | exact Or.inr (Or.inr rfl)) (hd : (x == ("__debug__" : Str)) = false := by decide) (hcd : (x == ("__classdict__" : Str)) = false := by decide) :
    NR X j [.Return (some (.Name x p)) pos] nrR := by
  refine ⟨fun a F0 H0 ρ σ H F dss d D r no hj n hf q => ?_⟩
  cases hf
  obtain ⟨F', e1, d1⟩ := n.freeze r
  exact wss_of (pss_one (ps_ret (pe_var hN hv hd hcd))) ⟨.ref a, hj, q _ H F' e1 d1⟩
theorem ns_set (i : Nat) {x : Str} {pos' : Pos} (hij : i ≠ j) (hN : X.N.Nodup) (he : DE X e fe) (hi : X.N[i]? = some x := by rfl) (hx : Loc X.env.scope x := by first | exact Or.inl rfl | exact Or.inr rfl) (hn : noComp e = true := by rfl)
    (hf : X.fn x = true ∨ X.env.scope.names.lookup x = some .local := by first | exact .inl rfl | exact .inr rfl) : NS X j (.Assign [.Name x pos'] e pos) (nSet i fe) := by
  refine ⟨fun a F0 H0 ρ σ H F dss ρ' dss' D r no hj n hf' q => ?_⟩
  obtain ⟨d, f1, f2⟩ := Option.bind_eq_some_iff.mp hf'
  cases f2
  refine ws_of (ps_set hN hi hx pe_we (swaps_no hn) hf) (he.run F0 H0 ρ σ H F d _ r f1 fun v H1 F1 e1 d1 => ?_)
  exact q _ H1 F1 ((r.more e1).put i d1) (no.put i d) e1.ff (by rw [List.getElem?_set_ne hij]; exact hj) (n.more e1)
theorem ns_if {c : Expr} (hc : DT X c fc) (ha : NSs X j a' f) (hb : NSs X j b' g) : NS X j (.If c a' b' pos) (nIf fc f g) := by
  refine ⟨fun a F0 H0 ρ σ H F dss ρ' dss' D r no hj n hf q => ?_⟩
  obtain ⟨k, h1, h2⟩ := Option.bind_eq_some_iff.mp hf
  refine ws_of (ps_if pt_wt pss_wss pss_wss) (hc.run F0 H0 ρ σ H F k _ r h1 fun H1 F1 e1 => ?_)
  cases k with
  | true =>
    rw [if_pos rfl] at h2 ⊢
    exact ha.run a F0 H0 ρ σ H1 F1 dss ρ' dss' D (r.more e1) no hj (n.more e1) h2 fun σ2 H2 F2 r2 no2 s2 => q σ2 H2 F2 r2 no2 (e1.ff.trans s2)
  | false =>
    rw [if_neg Bool.false_ne_true] at h2 ⊢
    exact hb.run a F0 H0 ρ σ H1 F1 dss ρ' dss' D (r.more e1) no hj (n.more e1) h2 fun σ2 H2 F2 r2 no2 s2 => q σ2 H2 F2 r2 no2 (e1.ff.trans s2)
theorem ns_for {tg iter : Expr} {body : List Stmt} {fi : Mr (List PyData)} {vs : List Nat} {gg : MG} {fb : NM} (hp : PassesOwn (model X.prog X.w) X.A X.env X.xe) (hi : DI X tg iter fi) (hg : DG X tg vs gg) (hb : NSs X j body fb) (hjv : j ∉ vs)
    (hgn : ∀ d ρ ρ1, NoOwn ρ → gg d ρ = some ρ1 → NoOwn ρ1) (hc : X.calm = true := by rfl)
    (hs : ∀ x, foldedSetIterable iter X.env x = pure x := by intro _; rfl) : NS X j (.For tg iter body [] pos) (nFor fi gg fb) := by
  refine ⟨fun a F0 H0 ρ σ H F dss ρ' dss' D r no hj n hf q => ?_⟩
  obtain ⟨ds, f1, f2⟩ := Option.bind_eq_some_iff.mp hf
  refine ws_of (ps_for hp hc pi_wi pg_wg pss_wss hs) (hi.run F0 H0 ρ σ H F ds _ r f1 fun J H1 F1 e1 wk => ?_)
  obtain ⟨G, Y, W, hG, hY⟩ := wk
  refine for_it W (fun i σ2 H2 => (∃ ρ2 F2 d2, Rl X.K F0 H0 ρ2 σ2 H2 F2 ∧ NoOwn ρ2 ∧ Same F1 F2 ∧ σ2[j]? = some (some (.ref a)) ∧ Nest X.K F2 H0 H2 a d2 ∧ forN gg fb (ds.drop i) ρ2 d2 = some (ρ', dss'))) ⟨ρ, F1, dss, r.more e1, no, .refl _, hj, n.more e1, f2⟩ (fun i σ2 H2 _ p => ?_) (fun i x σ2 H2 H3 hi p y => ?_) (fun σ2 H2 p => ?_)
  · obtain ⟨ρ2, F2, d2, r2, _, s2, _⟩ := p
    exact hG H2 (s2.trans r2.fh)
  · obtain ⟨ρ2, F2, d2, r2, no2, s2, hj2, n2, hl⟩ := p
    obtain ⟨F3, d, hd, e3, dx⟩ := hY i H2 x H3 F2 hi s2 r2.fh y
    have hdr : ds.drop i = d :: ds.drop (i + 1) := by
      rw [List.drop_eq_getElem_cons hi]
      rw [List.getElem?_eq_getElem hi] at hd
      cases hd
      rfl
    rw [hdr] at hl
    obtain ⟨ρ3, g1, hl⟩ := Option.bind_eq_some_iff.mp hl
    obtain ⟨⟨ρ4, d4⟩, b1, hl⟩ := Option.bind_eq_some_iff.mp hl
    refine hg.run F0 H0 ρ2 σ2 H3 F3 x d ρ3 _ (r2.more e3) dx g1 fun σ3 r3 hw => ?_
    have hj3 : σ3[j]? = some (some (.ref a)) := by
      have := hw vs fun i hi => hi
      rw [← wipe_at hjv, this, wipe_at hjv]
      exact hj2
    refine hb.run a F0 H0 ρ3 σ3 H3 F3 d2 ρ4 d4 _ r3 (hgn d ρ2 ρ3 no2 g1) hj3 (n2.more e3) b1 fun σ4 H4 F4 r4 no4 s4 hj4 n4 => ?_
    exact ⟨ρ4, F4, d4, r4, no4, s2.trans (e3.ff.trans s4), hj4, n4, hl⟩
  · obtain ⟨ρ2, F2, d2, r2, no2, s2, hj2, n2, hl⟩ := p
    rw [List.drop_length] at hl
    cases hl
    exact q σ2 H2 F2 r2 no2 (e1.ff.trans s2) hj2 n2
/-- rows.append([]) -/
theorem ns_appE {x : Str} {p lp apos cpos : Pos} (hN : X.N[j]? = some x := by rfl) (hv : Vis X.env.scope x := by first | exact Or.inl rfl | exact Or.inr (Or.inl rfl) | exact Or.inr (Or.inr rfl)) (hd : (x == ("__debug__" : Str)) = false := by decide) (hcd : (x == ("__classdict__" : Str)) = false := by decide)
    (hbase : attributeBase (.Name x p) "append" X.env (eval (.Name x p) X.env) = eval (.Name x p) X.env := by rfl)
    (hline : (apos.endLine == cpos.line) = true := by rfl)
    (hs : swapsWith (.Call (.Attribute (.Name x p) "append" apos) [.List [] lp] [] cpos) none pos.line X.env = pure false := by rfl) : NS X j (.Expr (.Call (.Attribute (.Name x p) "append" apos) [.List [] lp] [] cpos) pos) nAppE := by
  refine ⟨fun a F0 H0 ρ σ H F dss ρ' dss' D r no hj n hf q => ?_⟩
  unfold nAppE at hf
  split at hf
  · rename_i hz
    cases hf
    obtain ⟨as0, k1, _⟩ := n.ex
    refine ws_of (ps_expr (pe_bm PySem.F.plainAttrs_list PySem.F.slot_list_append PySem.F.type_list_append mt_append (pe_var hN hv hd hcd) (pa_cons (pe_lst pa_nil) pa_nil (star_cons rfl)) hbase (by rw [star_cons rfl]; rfl) hline (star_cons rfl) (star_any rfl)) hs) ?_
    refine ⟨.ref a, hj, .inl ⟨rfl, _, SqL.of k1⟩, Nat.zero_le _, fun pp hpp => ?_⟩
    obtain ⟨as, h1, h2, h3, h4, h5⟩ := n.grow r.fh r.ext.hh hpp
    have ap : a ≠ pp := fun z => by rw [← z, h1] at hpp; cases hpp
    refine ⟨a, as.map V.ref, .ref pp, rfl, rfl, by rw [upd_ne ap]; exact h1, by rw [List.length_map, h2, sizeLine_eq]; omega, ?_⟩
    exact q σ _ F (rl_upd (r.more (.keep r.fh hpp)) no h3 h4) no (.refl _) hj h5
  · cases hf
/-- rows[-1].append(e) -/
theorem ns_appL {x : Str} {k1 : Nat} {p p1 p2 p3 apos cpos : Pos} (he : DE X e fe) (hN : X.N[j]? = some x := by rfl) (hv : Vis X.env.scope x := by first | exact Or.inl rfl | exact Or.inr (Or.inl rfl) | exact Or.inr (Or.inr rfl)) (hd : (x == ("__debug__" : Str)) = false := by decide) (hcd : (x == ("__classdict__" : Str)) = false := by decide)
    (hn1 : noStar e = true := by rfl)
    (hbase : attributeBase (.Subscript (.Name x p) (.UnaryOp .USub (.Constant (.int 1) k1 p1) p2) p3) "append" X.env (eval (.Subscript (.Name x p) (.UnaryOp .USub (.Constant (.int 1) k1 p1) p2) p3) X.env) = eval (.Subscript (.Name x p) (.UnaryOp .USub (.Constant (.int 1) k1 p1) p2) p3) X.env := by rfl)
    (hline : (apos.endLine == cpos.line) = true := by rfl)
    (hs : swapsWith (.Call (.Attribute (.Subscript (.Name x p) (.UnaryOp .USub (.Constant (.int 1) k1 p1) p2) p3) "append" apos) [e] [] cpos) none pos.line X.env = pure false := by rfl) :
    NS X j (.Expr (.Call (.Attribute (.Subscript (.Name x p) (.UnaryOp .USub (.Constant (.int 1) k1 p1) p2) p3) "append" apos) [e] [] cpos) pos) (nAppL fe) := by
  refine ⟨fun a F0 H0 ρ σ H F dss ρ' dss' D r no hj n hf q => ?_⟩
  obtain ⟨d, f1, f2⟩ := Option.bind_eq_some_iff.mp hf
  obtain ⟨ds, f3, f4⟩ := Option.bind_eq_some_iff.mp f2
  split at f4
  · rename_i hz
    cases f4
    obtain ⟨as, b, vs, h1, h2, h3, h4, h5, h6, h7, h8, h9⟩ := n.wr (es := []) (ws := []) f3
    have hneg : DE X (.UnaryOp .USub (.Constant (.int 1) k1 p1) p2) (mUn pNeg (mK (.int 1))) := de_neg de_int
    refine ws_of (ps_expr (pe_bm PySem.F.plainAttrs_list PySem.F.slot_list_append PySem.F.type_list_append mt_append (pe_ix ix_list (pe_var hN hv hd hcd) pe_we (plain_ix rfl)) (pa_cons pe_we pa_nil (star_cons hn1)) hbase (by rw [star_cons hn1]; rfl) hline (star_cons hn1) (star_any rfl)) hs) ?_
    refine ⟨.ref a, hj, hneg.run F0 H0 ρ σ H F (.int (-1)) _ r rfl fun u H1 F1 e1 d1 => ?_⟩
    cases d1
    have hat : atI (as.map V.ref) (-1) = some (.ref b) := by
      have hl : 0 < as.length := by
        have := (List.getElem?_eq_some_iff.mp h3).1
        omega
      have hm : (as.map V.ref)[dss.length - 1]? = some (.ref b) := by rw [List.getElem?_map, h3]; rfl
      have hx : ixN (as.map V.ref).length (-1) = some (dss.length - 1) := by
        rw [List.length_map]
        unfold ixN
        rw [if_neg (by omega), if_pos (by omega)]
        congr 1
        omega
      unfold atI
      rw [hx]
      exact hm
    refine ⟨a, as.map V.ref, -1, .ref b, rfl, rfl, SqL.of (e1.hh _ _ h1), hat, .inl ⟨rfl, _, SqL.of (e1.hh _ _ h4)⟩, ?_⟩
    refine he.run F0 H0 ρ σ H1 F1 d _ (r.more e1) f1 fun v H2 F2 e2 d2 => ?_
    have e3 := e1.trans e2
    refine ⟨b, vs, v, rfl, rfl, e3.hh _ _ h4, by rw [h5.len, sizeLine_eq]; omega, ?_⟩
    exact q σ _ F2 (rl_upd (r.more e3) no (ext_no e3 h4 h6) h7) no e3.ff hj (h9 F2 H2 e3 _ _ ((h5.same e3.ff).app (.cons d2 .nil)))
  · cases f4
theorem rl_lose {K : PySem.W.Frag} {F0 H0 F H : Hp} {ρ : Rho} {σ : St} (r : Rl K F0 H0 ρ σ H F) (no : NoOwn ρ) (i : Nat) (x : Option V) : Rl K F0 H0 (ρ.set i none) (σ.set i x) H F := by
  have old : ∀ {k : Nat} {y : Slt}, (ρ.set i none)[k]? = some (some y) → i ≠ k ∧ ρ[k]? = some (some y) := fun {k y} e => by
    rw [List.getElem?_set] at e
    split at e
    · split at e <;> cases e
    · rename_i h; exact ⟨h, e⟩
  refine ⟨r.ext, by simpa using r.len, fun k d e => ?_, fun k ds e => absurd e (no.out i k ds), fun k l a ds es e => absurd e (no.out i k ds), fun k v e => ?_⟩
  · obtain ⟨h, e⟩ := old e
    rw [List.getElem?_set_ne h]
    exact r.frz k d e
  · obtain ⟨h, e⟩ := old e
    rw [List.getElem?_set_ne h]
    exact r.raw k v e
theorem rl_drop {K : PySem.W.Frag} {F0 H0 F H : Hp} {ρ : Rho} {σ : St} (r : Rl K F0 H0 ρ σ H F) (no : NoOwn ρ) (i : Nat) : Rl K F0 H0 (ρ.set i none) σ H F := by
  have old : ∀ {k : Nat} {y : Slt}, (ρ.set i none)[k]? = some (some y) → i ≠ k ∧ ρ[k]? = some (some y) := fun {k y} e => by
    rw [List.getElem?_set] at e
    split at e
    · split at e <;> cases e
    · rename_i h; exact ⟨h, e⟩
  refine ⟨r.ext, by simpa using r.len, fun k d e => r.frz k d (old e).2, fun k ds e => absurd e (no.out i k ds), fun k l a ds es e => absurd e (no.out i k ds), fun k v e => r.raw k v (old e).2⟩
/-- a row is looked at as a list of one's own -/
theorem rl_row {K : PySem.W.Frag} {F0 H0 F H : Hp} {ρ : Rho} {σ : St} {i : Nat} {b : Addr} {vs : List V} {ds : List PyData} (r : Rl K F0 H0 (ρ.set i none) σ H F) (no : NoOwn ρ) (hl : i < σ.length) (h1 : H b = some (.lst vs)) (h2 : F b = none) (h3 : H0 b = none) (h4 : DpAll K F vs ds) :
    Rl K F0 H0 ((ρ.set i none).set i (some (.own ds))) (σ.set i (some (.ref b))) H F := by
  have hn := no.out i
  have own1 : ∀ {k : Nat} {es : List PyData}, ((ρ.set i none).set i (some (.own ds)))[k]? = some (some (.own es)) → k = i ∧ es = ds := fun {k es} e => by
    rw [List.getElem?_set] at e
    split at e
    · split at e
      · rename_i h _; cases e; exact ⟨h.symm, rfl⟩
      · cases e
    · exact absurd e (hn k es)
  have old : ∀ {k : Nat} {y : Slt}, (∀ es, y ≠ .own es) → ((ρ.set i none).set i (some (.own ds)))[k]? = some (some y) → i ≠ k ∧ (ρ.set i none)[k]? = some (some y) := fun {k y} hy e => by
    rw [List.getElem?_set] at e
    split at e
    · split at e
      · cases e; exact absurd rfl (hy ds)
      · cases e
    · rename_i h; exact ⟨h, e⟩
  refine ⟨r.ext, by simpa using r.len, fun k d e => ?_, fun k es e => ?_, fun k l a es gs e1 e2 _ _ => ?_, fun k v e => ?_⟩
  · obtain ⟨h, e⟩ := old (fun es z => by cases z) e
    rw [List.getElem?_set_ne h]
    exact r.frz k d e
  · obtain ⟨rfl, rfl⟩ := own1 e
    exact ⟨b, vs, List.getElem?_set_self hl, h1, h2, h3, h4⟩
  · rw [(own1 e1).1, (own1 e2).1]
  · obtain ⟨h, e⟩ := old (fun es z => by cases z) e
    rw [List.getElem?_set_ne h]
    exact r.raw k v e
theorem rowsM_at {i : Nat} {ρ : Rho} : ∀ {dss q : List (List PyData)}, rowsM i fe ρ dss = some q → q.length = dss.length ∧ ∀ (k : Nat) (ds : List PyData), dss[k]? = some ds → ∃ d, fe (ρ.set i (some (.own ds))) = some d ∧ ds.length < 1000 ∧ q[k]? = some (ds ++ [d])
  | [], q, h => by cases h; exact ⟨rfl, fun k ds e => by simp at e⟩
  | ds :: r, q, h => by
    obtain ⟨d, h1, h2⟩ := Option.bind_eq_some_iff.mp h
    split at h2
    · rename_i hz
      obtain ⟨q', h3, h4⟩ := Option.map_eq_some_iff.mp h2
      subst h4
      obtain ⟨g1, g2⟩ := rowsM_at h3
      refine ⟨by simp [g1], fun k gs e => ?_⟩
      cases k with
      | zero => simp at e; subst e; exact ⟨d, h1, hz, rfl⟩
      | succ k => exact g2 k gs (by simpa using e)
    · cases h2
/-- for row in rows: row.append(e) -/
theorem ns_rows (i : Nat) {x y : Str} {p p2 p3 p4 apos cpos : Pos} (hij : i ≠ j) (hN : X.N.Nodup) (hp : PassesOwn (model X.prog X.w) X.A X.env X.xe) (he : DE X e fe) (hj1 : X.N[j]? = some x := by rfl) (hi1 : X.N[i]? = some y := by rfl)
    (hvx : Vis X.env.scope x := by first | exact Or.inl rfl | exact Or.inr (Or.inl rfl) | exact Or.inr (Or.inr rfl)) (hvy : Vis X.env.scope y := by first | exact Or.inl rfl | exact Or.inr (Or.inl rfl) | exact Or.inr (Or.inr rfl)) (hly : Loc X.env.scope y := by first | exact Or.inl rfl | exact Or.inr rfl)
    (hdx : (x == ("__debug__" : Str)) = false := by decide) (hcx : (x == ("__classdict__" : Str)) = false := by decide) (hdy : (y == ("__debug__" : Str)) = false := by decide) (hcy : (y == ("__classdict__" : Str)) = false := by decide)
    (hfy : X.fn y = true ∨ X.env.scope.names.lookup y = some .local := by first | exact .inl rfl | exact .inr rfl)
    (hn1 : noStar e = true := by rfl)
    (hbase : attributeBase (.Name y p3) "append" X.env (eval (.Name y p3) X.env) = eval (.Name y p3) X.env := by rfl)
    (hline : (apos.endLine == cpos.line) = true := by rfl)
    (hsw : swapsWith (.Call (.Attribute (.Name y p3) "append" apos) [e] [] cpos) none p4.line X.env = pure false := by rfl) (hc : X.calm = true := by rfl)
    (hs : ∀ z, foldedSetIterable (.Name x p2) X.env z = pure z := by intro _; rfl) :
    NS X j (.For (.Name y p) (.Name x p2) [.Expr (.Call (.Attribute (.Name y p3) "append" apos) [e] [] cpos) p4] [] pos) (nRows i fe) := by
  refine ⟨fun a F0 H0 ρ σ H F dss ρ' dss' D r no hj n hf q => ?_⟩
  obtain ⟨q0, f1, f2⟩ := Option.map_eq_some_iff.mp hf
  cases f2
  obtain ⟨l1, l2⟩ := rowsM_at f1
  obtain ⟨as, h1, h2, h3, h4, h5, h6, h7⟩ := n.ex
  refine fun pins s I => ?_
  have hil : i < σ.length := by
    rw [I.len]
    exact (List.getElem?_eq_some_iff.mp hi1).1
  suffices hws : WS X (.For (.Name y p) (.Name x p2) [.Expr (.Call (.Attribute (.Name y p3) "append" apos) [e] [] cpos) p4] [] pos) D σ H from hws pins s I
  refine ws_of (ps_for hp hc (pi_list (pe_var hj1 hvx hdx hcx)) (pg_name hN hi1 hly hfy) pss_wss hs) ?_
  refine ⟨.ref a, hj, a, rfl, ⟨_, SqL.of h1⟩, ?_⟩
  refine for_it (walk_list (xs := as.map V.ref)) (fun k σ2 H2 => (∃ F2, Rl X.K F0 H0 (ρ.set i none) σ2 H2 F2 ∧ Same F F2 ∧ σ2[j]? = some (some (.ref a)) ∧ σ2.length = σ.length ∧ H2 a = some (.lst (as.map V.ref)) ∧ Nest X.K F2 H0 H2 a (dss'.take k ++ dss.drop k))) ⟨F, rl_drop r no i, .refl _, hj, rfl, h1, by simpa using n⟩ (fun k σ2 H2 _ p => ?_) (fun k x σ2 H2 H3 hk p yy => ?_) (fun σ2 H2 p => ?_)
  · obtain ⟨F2, r2, s2, hj2, hl2, ha2, n2⟩ := p
    exact SqL.of ha2
  · obtain ⟨F2, r2, s2, hj2, hl2, ha2, n2⟩ := p
    obtain ⟨rfl, hx⟩ := yy
    have hkl : k < dss.length := by rw [← h6]; simpa using hk
    have hdk : (dss'.take k ++ dss.drop k)[k]? = some dss[k] := by
      rw [List.getElem?_append_right (by rw [List.length_take]; omega), List.length_take, Nat.min_eq_left (by omega), Nat.sub_self, List.getElem?_drop, Nat.add_zero, List.getElem?_eq_getElem hkl]
    obtain ⟨d, g1, g2, g3⟩ := l2 k _ (List.getElem?_eq_getElem hkl)
    obtain ⟨as2, b, vs, w1, w2, w3, w4, w5, w6, w7, w8, w9⟩ := n2.wr (es := []) (ws := []) hdk
    have hxb : x = .ref b := by
      rw [ha2] at w1
      have := (HO.lst.inj (Option.some.inj w1))
      rw [this, List.getElem?_map, w3] at hx
      cases hx
      rfl
    subst hxb
    have rr := rl_row r2 no (by rw [hl2]; exact hil) w4 w6 w7 w5
    refine wss_of (pss_one (ps_expr (pe_bm PySem.F.plainAttrs_list PySem.F.slot_list_append PySem.F.type_list_append mt_append (pe_var hi1 hvy hdy hcy) (pa_cons pe_we pa_nil (star_cons hn1)) hbase (by rw [star_cons hn1]; rfl) hline (star_cons hn1) (star_any rfl)) hsw)) ?_
    refine ⟨.ref b, List.getElem?_set_self (by rw [hl2]; exact hil), .inl ⟨rfl, _, SqL.of w4⟩, he.run F0 H0 _ _ H3 F2 d _ rr g1 fun v H4 F4 e4 d4 => ?_⟩
    refine ⟨b, vs, v, rfl, rfl, e4.hh _ _ w4, by rw [w5.len, sizeLine_eq]; omega, ?_⟩
    have hset : (dss'.take k ++ dss.drop k).set k (dss[k] ++ [d]) = dss'.take (k + 1) ++ dss.drop (k + 1) := by
      have lt : (dss'.take k).length = k := by rw [List.length_take]; omega
      rw [List.set_append_right _ _ (by omega), lt, Nat.sub_self, List.drop_eq_getElem_cons hkl, List.set_cons_zero, List.take_add_one, g3]
      simp
    have hn := w9 F4 H4 e4 _ _ ((w5.same e4.ff).app (.cons d4 .nil))
    rw [hset] at hn
    have r4 : Rl X.K F0 H0 (ρ.set i none) (σ2.set i (some (.ref b))) H4 F4 := by
      have := rl_lose (r2.more e4) (no.out i) i (some (.ref b))
      rw [List.set_set] at this
      exact this
    exact ⟨F4, rl_upd r4 (no.out i) (ext_no e4 w4 w6) w7, s2.trans e4.ff, by rw [List.getElem?_set_ne hij]; exact hj2, by simpa using hl2, by rw [upd_ne w8]; exact e4.hh _ _ ha2, hn⟩
  · obtain ⟨F2, r2, s2, hj2, hl2, ha2, n2⟩ := p
    rw [List.length_map, h6, List.drop_length, List.append_nil, ← l1, List.take_length] at n2
    exact q σ2 H2 F2 r2 (no.out i) s2 hj2 n2
/-- rows = [] and what comes behind it -/
noncomputable def sNest (j : Nat) (g : Rho → List (List PyData) → Option PyData) : MS := fun ρ => @ite _ (NoOwn ρ) (Classical.propDecidable _) ((g (ρ.set j none) []).map Out.rt) none
theorem dss_nest {gr : Rho → List (List PyData) → Option PyData} {x : Str} {p lp : Pos} (hN : X.N.Nodup) (h : NR X j rest gr) (hi : X.N[j]? = some x := by rfl) (hx : Loc X.env.scope x := by first | exact Or.inl rfl | exact Or.inr rfl)
    (hf : X.fn x = true ∨ X.env.scope.names.lookup x = some .local := by first | exact .inl rfl | exact .inr rfl) : DSs X (.Assign [.Name x p] (.List [] lp) pos :: rest) (sNest j gr) := by
  refine ⟨fun F0 H0 ρ σ H F o D r hf' q => ?_⟩
  unfold sNest at hf'
  split at hf'
  · rename_i no
    obtain ⟨d, f1, f2⟩ := Option.map_eq_some_iff.mp hf'
    subst f2
    refine fun pins s I => ?_
    have hil : j < σ.length := by
      rw [I.len]
      exact (List.getElem?_eq_some_iff.mp hi).1
    suffices hws : WSs X (.Assign [.Name x p] (.List [] lp) pos :: rest) D σ H from hws pins s I
    refine wss_of (pss_cons (ps_set hN hi hx (pe_lst pa_nil) (swaps_no rfl) hf) pss_wss) ?_
    refine ⟨Nat.zero_le _, fun pp hpp => ?_⟩
    have e1 : Ext F H F (upd H pp (.lst [])) := .keep r.fh hpp
    refine h.run pp F0 H0 (ρ.set j none) _ _ F [] d D (rl_lose (r.more e1) no j (some (.ref pp))) (no.out j) (List.getElem?_set_self hil) ⟨[], upd_same, r.fh.free hpp, r.ext.hh.free hpp, by simp, by simp, rfl, fun k b ds g1 g2 => by simp at g1⟩ f1 q
  · cases hf'
/-- names of two together -/
theorem gt2_no {i k : Nat} : ∀ d ρ ρ1, NoOwn ρ → gT 2 (gs1 (gN i) (gs1 (gN k) gs0')) d ρ = some ρ1 → NoOwn ρ1 := by
  intro d ρ ρ1 no h
  obtain ⟨ds, h1, h2⟩ := Option.bind_eq_some_iff.mp h
  split at h2
  · rename_i hl
    match ds, hl with
    | [x, y], _ =>
      have e : some ((ρ.set i (some (.frz x))).set k (some (.frz y))) = some ρ1 := h2
      cases e
      exact (no.put i x).put k y
  · cases h2
end
end Dw

set_option Elab.async false
set_option linter.all false
set_option maxRecDepth 100000
set_option maxHeartbeats 4000000
/-! {k: v, ..}.get(x, d) -/
namespace Dw
open PySem PySem.Spec L2
def mDgt (ks : List Key) (g : Mr (List PyData)) (fi ff : Mr PyData) : Mr PyData := fun ρ => (g ρ).bind fun ds => (fi ρ).bind fun x => (toKey x).bind fun k => (ff ρ).bind fun z => some ((lkD k ks ds none).getD z)
theorem lk_none (k : Key) : ∀ (ks : List Key) (vs : List V) {ds : List PyData} {acc : List (Key × V)} {o : Option PyData}, vs.length = ds.length → (o = none → valV acc k = none) → lkD k ks ds o = none → valV (mergeK acc (ks.zip vs)) k = none
  | [], _, _, _, _, _, ho, h => ho h
  | k' :: ks, [], [], _, _, _, ho, h => ho h
  | k' :: ks, v :: vs, d :: ds, acc, o, hl, ho, h => by
    rw [List.zip_cons_cons]
    show valV (mergeK (putK acc k' v) _) k = none
    refine lk_none k ks vs (by simpa using hl) (fun e => ?_) h
    by_cases hk : k = k'
    · rw [if_pos hk] at e; cases e
    · rw [if_neg hk] at e
      rw [valV_put, if_neg hk]
      exact ho e
section
variable {X : Cx} {keys : List (Option Expr)} {values : List Expr} {ks : List Key} {g : Mr (List PyData)} {i f : Expr} {fi ff : Mr PyData} {dpos apos cpos : Pos}
theorem de_dgt (hu : X.A.units + 1 < cLine) (hp : DPs X dpos keys values ks g) (hi : DE X i fi) (hff : DE X f ff) (m : M2 X (.Dict keys values dpos) "get" apos i f cpos := by exact ⟨rfl, rfl, rfl, rfl⟩)
    (hl : ∀ ρ ds, g ρ = some ds → ds.length = ks.length := by intro ρ ds h; exact absurd h (by simp)) (h0 : keys.all (·.isSome) = true := by rfl) (h1 : keys.length = values.length := by rfl) (h2 : keys ≠ [] := by simp) (h15 : keys.length ≤ 15 := by decide) (hk15 : ks.length ≤ 15 := by decide) :
    DE X (.Call (.Attribute (.Dict keys values dpos) "get" apos) [i, f] [] cpos) (mDgt ks g fi ff) := by
  refine ⟨?_⟩
  intro F0 H0 ρ σ H F d Q r hf q
  obtain ⟨ds, f1, hf⟩ := Option.bind_eq_some_iff.mp hf
  obtain ⟨x, f2, hf⟩ := Option.bind_eq_some_iff.mp hf
  obtain ⟨k, f3, hf⟩ := Option.bind_eq_some_iff.mp hf
  obtain ⟨z, f5, f4⟩ := Option.bind_eq_some_iff.mp hf
  have f4 := Option.some.inj f4
  obtain ⟨trs, g1, g2⟩ := hp
  refine we_of (pe_dget2 hu (pe_disp g1 h0 h1 h2 h15) pe_we pe_we m) ?_
  intro p hp
  have e0 : Ext F H F (upd H p (.dK [])) := .keep r.fh hp
  refine g2 F0 H0 ρ σ _ F ds _ (r.more e0) f1 fun vs H1 F1 e1 d1 => ?_
  have hF1 : F1 p = none := ext_no e1 upd_same (r.fh.free hp)
  have hlen : vs.length = ks.length := by rw [d1.len, hl ρ ds f1]
  refine ⟨e1.hh _ _ upd_same, ks.zip vs, ?_, ?_, ?_⟩
  · rw [List.zip, List.map_zipWith]
  · rw [List.length_zip]; omega
  have e01 := e0.trans e1
  have e2 : Ext F H F1 (upd H1 p (.dK (mergeK [] (ks.zip vs)))) := ⟨e01.ff, same_updR e01.hh hp, same_updR e01.fh hF1, e01.new⟩
  refine ⟨p, rfl, .inl ⟨_, .of upd_same⟩, ?_⟩
  refine hi.run F0 H0 ρ σ _ F1 x _ (r.more e2) f2 fun u H3 F3 e3 d3 => ?_
  refine hff.run F0 H0 ρ σ _ F3 z _ (r.more (e2.trans e3)) f5 fun w H4 F4 e4 d4 => ?_
  have hx : u = kV k := by
    cases x <;> first | cases f3 | skip
    · cases d3; rfl
    · cases d3; rfl
  refine ⟨valV (mergeK [] (ks.zip vs)) k, .inl ⟨_, k, .of (e4.hh _ _ (e3.hh _ _ upd_same)), hx, rfl⟩, ?_⟩
  have e5 := e2.trans (e3.trans e4)
  cases hq : lkD k ks ds none with
  | none =>
    rw [hq] at f4
    cases f4
    rw [lk_none k ks vs d1.len (fun _ => valV_nil) hq]
    exact q w H4 F4 e5 d4
  | some d' =>
    rw [hq] at f4
    cases f4
    obtain ⟨v, v1, v2⟩ := lk_merge (acc := []) (o := none) k ks d1 (fun d h => by cases h) hq
    rw [v1]
    exact q v H4 F4 e5 (v2.same (e3.ff.trans e4.ff))
end
end Dw

set_option Elab.async false
set_option linter.all false
set_option maxRecDepth 100000
set_option maxHeartbeats 4000000
/-! all([..]) of bools; d.get(x, z), d a dict of the top with text keys -/
namespace Dw
open PySem PySem.Spec L2
def blsOf : List PyData → Option (List Bool)
  | [] => some []
  | .bool b :: ds => (blsOf ds).map (b :: ·)
  | _ :: _ => none
def pAll : List PyData → Option PyData
  | [.list ds] => (blsOf ds).map fun bs => .bool (bs.all id)
  | _ => none
theorem blsOf_dp {K : PySem.W.Frag} {F : Hp} : ∀ {ds : List PyData} {vs : List V} {bs : List Bool}, DpAll K F vs ds → blsOf ds = some bs → vs = bs.map V.bl
  | [], _, _, .nil, h => by cases h; rfl
  | d :: ds, _, bs, .cons h1 h2, h => by
    cases h1 <;> first | cases h | skip
    rename_i b
    obtain ⟨bs', e1, rfl⟩ := Option.map_eq_some_iff.mp h
    rw [blsOf_dp h2 e1]
    rfl
section
variable {X : Cx}
theorem cl_all (hc : X.calm = true) : Cl X (.builtin "all") pAll := by
  refine ⟨_, cr_all hc, fun F H vs ds z Q fh d1 h q => ?_⟩
  unfold pAll at h
  split at h
  · rename_i es
    obtain ⟨bs, e1, e2⟩ := Option.map_eq_some_iff.mp h
    subst e2
    cases d1 with
    | cons d1 d2 =>
      cases d2
      cases d1 with
      | lst hs ha =>
        rw [blsOf_dp ha e1] at hs
        exact ⟨_, bs, rfl, fh.seq hs, q _ H F (.refl fh) (.bl _)⟩
  · cases h
/-- the pairs of a dict of the top -/
structure GDict (K : PySem.W.Frag) (w : World) (mg : Str → Option Value) (x : Str) (kvs : List (Str × PyData)) : Prop where
  ex : ∃ (a : Addr) (es : Array DictEntry) (n : Nat), mg x = some (.ref a) ∧ KDict K w a es n ∧ ∀ z : Str, ∃ r : Option Value, PySem.W.nsIn K a z = some r ∧
    match kvs.lookup z with
    | some d => ∃ u v, r = some u ∧ RelV v u ∧ ∀ F, Dp K F v d
    | none => r = none
def mGget (kvs : List (Str × PyData)) (fi ff : Mr PyData) : Mr PyData := fun ρ => (fi ρ).bind fun x => (ff ρ).bind fun z => match x with
  | .str k => some ((kvs.lookup k).getD z)
  | _ => none
theorem pe_gget {x : Str} {a : Addr} {es : Array DictEntry} {n : Nat} {e f : Expr} {ty tx : TE} {p apos cpos : Pos} (D : KDict X.K X.w a es n) (hg : Gl X x) (hm : X.mg x = some (.ref a)) (he : PE X e ty) (hf : PE X f tx) (m : M2 X (.Name x p) "get" apos e f cpos) (hdb : (x == ("__debug__" : Str)) = false) :
    PE X (.Call (.Attribute (.Name x p) "get" apos) [e, f] [] cpos) (fun σ H Q => ty σ H fun y H2 => tx σ H2 fun z H3 => ∃ k r, y = .str k ∧ PySem.W.nsIn X.K a k = some r ∧ (∀ u, r = some u → ∃ v, RelV v u ∧ Q v H3) ∧ (r = none → Q z H3)) := by
  refine ⟨fun pins s σ H Q I h => ?_⟩
  have hp := (pe_glob (X := X) (v := .ref a) (pos := p) hg hm rfl hdb).run pins s σ H (fun v H1 => v = .ref a ∧ H1 = H) I ⟨rfl, rfl⟩
  refine wpAny_Call_method m.base m.few m.line PySem.F.plainAttrs_dict PySem.F.slot_dict_get PySem.F.type_dict_get (thn hp fun u s1 ⟨v, H1, I1, rv, ev, eH⟩ => ?_)
  subst ev
  subst eH
  obtain rfl : u = Value.ref a := rv
  refine ⟨kd_type D I1, fun b q => ?_, ?_⟩
  · cases q
    exact ⟨_, I1.kIn _ _ D.at_, rfl⟩
  rw [m.trees]
  refine Calls.callWith_builtin rfl (Calls.evalArgs_plain (Calls.spliced_cons (thn (he.run pins s1 σ _ _ I1 h) fun iv s2 ⟨y, H2, I2, ry, q2⟩ =>
    Calls.spliced_cons (thn (hf.run pins s2 σ H2 _ I2 q2) fun fv s3 ⟨z, H3, I3, rz, k, r, ek, en, q3, q4⟩ => Calls.spliced_nil ?_))))
  subst ek
  obtain ⟨t, rfl⟩ := ry
  refine call_meetsIn PySem.F.slot_dict_get (kd_type D I3) PySem.F.entry_dict_get (PySem.F.args_dict_get_3 _ _ _) (meets_dict_get_default (PySem.strKind X.prog X.w) a (PySem.strKind_is X.prog X.w k t) D.low fv) ⟨_, PySem.W.mapOf_K (prog := X.prog) I3.kIn D.at_ D.lit, ?_⟩
  rw [PySem.W.find_K D.at_ en]
  cases r with
  | none => exact ⟨z, H3, I3.tok _, rz, q4 rfl⟩
  | some u =>
    obtain ⟨v, rv', qv⟩ := q3 u rfl
    exact ⟨v, H3, I3.tok _, rv', qv⟩
theorem de_gget {x : Str} {kvs : List (Str × PyData)} {i f : Expr} {fi ff : Mr PyData} {p apos cpos : Pos} (D : GDict X.K X.w X.mg x kvs) (hi : DE X i fi) (hff : DE X f ff) (m : M2 X (.Name x p) "get" apos i f cpos := by exact ⟨rfl, rfl, rfl, rfl⟩) (hg : Gl X x := by rfl) (hdb : (x == ("__debug__" : Str)) = false := by decide) :
    DE X (.Call (.Attribute (.Name x p) "get" apos) [i, f] [] cpos) (mGget kvs fi ff) := by
  refine ⟨fun F0 H0 ρ σ H F d Q r hf q => ?_⟩
  obtain ⟨y, f1, hf⟩ := Option.bind_eq_some_iff.mp hf
  obtain ⟨z, f2, f3⟩ := Option.bind_eq_some_iff.mp hf
  obtain ⟨a, es, n, h1, h2, h3⟩ := D.ex
  refine we_of (pe_gget h2 hg h1 pe_we pe_we m hdb) ?_
  refine hi.run F0 H0 ρ σ H F y _ r f1 fun u H1 F1 e1 d1 => ?_
  refine hff.run F0 H0 ρ σ H1 F1 z _ (r.more e1) f2 fun w H2 F2 e2 d2 => ?_
  cases d1 with
  | str k =>
    have f3 : (kvs.lookup k).getD z = d := Option.some.inj f3
    obtain ⟨rr, k1, k2⟩ := h3 k
    refine ⟨k, rr, rfl, k1, fun u hu => ?_, fun hn => ?_⟩
    · cases hq : kvs.lookup k with
      | none => rw [hq] at k2; rw [k2] at hu; cases hu
      | some d' =>
        rw [hq] at k2 f3
        obtain ⟨u', v, g1, g2, g3⟩ := k2
        rw [g1] at hu
        cases hu
        cases f3
        exact ⟨v, g2, q v H2 F2 (e1.trans e2) (g3 F2)⟩
    · cases hq : kvs.lookup k with
      | none => rw [hq] at f3; cases f3; exact q w H2 F2 (e1.trans e2) d2
      | some d' =>
        rw [hq] at k2
        obtain ⟨u', v, g1, _⟩ := k2
        rw [g1] at hn
        cases hn
  | _ => cases f3
end
end Dw

set_option Elab.async false
set_option linter.all false
set_option maxRecDepth 100000
set_option maxHeartbeats 4000000
/-! the head: a dict of the top with text keys -/
namespace Dw
open PySem PySem.Spec L2
def entB (K : PySem.W.Frag) : List DictEntry → List (Str × PyData) → Bool
  | [], [] => true
  | e :: r, q :: l => (match e.key with
    | .str x _ => decide (x = q.1)
    | _ => false) && (datB K e.val q.2 && entB K r l)
  | _, _ => false
def gdB (K : PySem.W.Frag) (a : Addr) (kvs : List (Str × PyData)) : Bool := match K.lookup a with
  | some ⟨_, _, .dict es _, _⟩ => entB K es.toList kvs
  | _ => false
theorem entB_ok {K : PySem.W.Frag} (z : Str) : ∀ (l : List DictEntry) (kvs : List (Str × PyData)), entB K l kvs = true → (l.any (·.refKey)) = false ∧
    match kvs.lookup z with
    | some d => ∃ e u v, l.find? (·.key.isStr z) = some e ∧ e.val = u ∧ RelV v u ∧ ∀ F, Dp K F v d
    | none => l.find? (·.key.isStr z) = none
  | [], [], _ => ⟨rfl, rfl⟩
  | [], _ :: _, h => by cases h
  | _ :: _, [], h => by cases h
  | e :: r, (k, d) :: l, h => by
    obtain ⟨h1, h2⟩ := Bool.and_eq_true_iff.mp h
    obtain ⟨h2, h3⟩ := Bool.and_eq_true_iff.mp h2
    obtain ⟨i1, i2⟩ := entB_ok z r l h3
    obtain ⟨hh, key, val⟩ := e
    cases key with
    | str x t =>
      have ex : x = k := of_decide_eq_true h1
      subst ex
      refine ⟨by rw [List.any_cons, i1]; rfl, ?_⟩
      by_cases hz : z = x
      · subst hz
        obtain ⟨v, g1, g2⟩ := datB_ok h2
        have e1 : (Value.str z t).isStr z = true := by simp [Value.isStr]
        rw [List.find?_cons_of_pos (by exact e1)]
        simp only [List.lookup_cons, beq_self_eq_true]
        exact ⟨_, val, v, rfl, rfl, g1, g2⟩
      · have e1 : ¬ (Value.str x t).isStr z = true := by
          simp [Value.isStr]
          exact fun q => hz q.symm
        rw [List.find?_cons_of_neg (by exact e1)]
        have e2 : (z == x) = false := by simpa using hz
        simp only [List.lookup_cons, e2]
        exact i2
    | _ => cases h1
theorem gdict_of {K : PySem.W.Frag} {w : World} {h : Heap} {mg : Str → Option Value} {x : Str} {kvs : List (Str × PyData)} (X : K.In h) (G : h.Ns mainGlobals mg) (c1 : (He.Fa.glo x).ok K = true) (c2 : gdB K (He.ga K x) kvs = true) (c3 : He.dicW K (He.ga K x) = some (He.keysIn w.params (kvs.map (·.1)))) : GDict K w mg x kvs := by
  obtain ⟨es, n, D⟩ := He.dicW_ok c3
  refine ⟨He.ga K x, es, n, He.glo_ok X G c1, D, fun z => ?_⟩
  unfold gdB at c2
  rw [D.at_] at c2
  obtain ⟨i1, i2⟩ := entB_ok z es.toList kvs c2
  cases hq : kvs.lookup z with
  | none =>
    rw [hq] at i2
    refine ⟨none, ?_, rfl⟩
    unfold PySem.W.nsIn
    rw [D.at_]
    simp only [i2, i1]
    rfl
  | some d =>
    rw [hq] at i2
    obtain ⟨e, u, v, g1, g2, g3, g4⟩ := i2
    refine ⟨some u, ?_, u, v, rfl, g3, g4⟩
    unfold PySem.W.nsIn
    rw [D.at_]
    simp only [g1, g2]
end Dw

set_option Elab.async false
set_option linter.all false
set_option maxRecDepth 100000
set_option maxHeartbeats 4000000
/-! the head with dicts of the top; defs that call themselves -/
namespace Dw
open PySem PySem.Spec L2
abbrev AlZ : Type := He.AlD × List (Option (List (Option (Str × Int))))
abbrev DcS : Type := List (Str × List (Str × PyData))
def ckD (ds : DcS) (K : PySem.W.Frag) : Bool := ds.all fun t => (He.Fa.glo t.1).ok K && gdB K (He.ga K t.1) t.2
def obsZ (ds : DcS) (fa : List He.Fa) (gl : List (Str × PyData)) (fn : List He.DefD) (K : PySem.W.Frag) : AlZ := (obsY (ckD ds) fa gl fn K, ds.map fun t => He.dicW K (He.ga K t.1))
def valZ (ds : DcS) (fn : List He.DefD) (w : World) : AlZ := (He.valD fn, ds.map fun t => some (He.keysIn w.params (t.2.map (·.1))))
def SaysZ (ds : DcS) (fa : List He.Fa) (gl : List (Str × PyData)) (fn : List He.DefD) (w : World) (K : PySem.W.Frag) : Prop := obsZ ds fa gl fn K = valZ ds fn w
def obsZG (n : Nat) (ds : DcS) (fa : List He.Fa) (gl : List (Str × PyData)) (fn : List He.DefD) (g : Addr → Option Obj) : AlZ := obsZ ds fa gl fn (He.frG g (He.asD g n))
def hookZ (n : Nat) (ds : DcS) (fa : List He.Fa) (gl : List (Str × PyData)) (fn : List He.DefD) : PySem.W.Hook where
  α := AlZ
  obs := fun s => obsZG n ds fa gl fn s.heap.get?
  val := fun w => valZ ds fn w
  says := fun w h => ∃ K : PySem.W.Frag, K.In h ∧ SaysZ ds fa gl fn w K
  of := fun _ _ e => ⟨_, He.frG_in, e⟩
  keeps := fun _ _ _ ⟨K, hK, c⟩ k => ⟨K, PySem.W.Frag.In.keeps hK k, c⟩
theorem obsZG_eq {n : Nat} {ds : DcS} {fa : List He.Fa} {gl : List (Str × PyData)} {fn : List He.DefD} {g : Addr → Option Obj} {s : Shared} (h : ∀ a, g a = s.heap.get? a) : obsZG n ds fa gl fn g = (hookZ n ds fa gl fn).obs s := by
  have e : g = s.heap.get? := funext h
  rw [e] <;> rfl
section
variable {ds : DcS} {fa : List He.Fa} {gl : List (Str × PyData)} {fn : List He.DefD} {w : World} {K : PySem.W.Frag}
theorem SaysZ.y (c : SaysZ ds fa gl fn w K) : SaysY (ckD ds) fa gl fn K := congrArg (fun z : AlZ => z.1) c
theorem SaysZ.dic (c : SaysZ ds fa gl fn w K) {h : Heap} {mg : Str → Option Value} (X : K.In h) (G : h.Ns mainGlobals mg) (i : Nat) {t : Str × List (Str × PyData)} (hi : ds[i]? = some t := by rfl) : GDict K w mg t.1 t.2 := by
  have e : ds.map (fun t => He.dicW K (He.ga K t.1)) = ds.map fun t => some (He.keysIn w.params (t.2.map (·.1))) := congrArg (fun z : AlZ => z.2) c
  have e2 : (ds.map fun t => He.dicW K (He.ga K t.1))[i]? = (ds.map fun t => some (He.keysIn w.params (t.2.map (·.1))))[i]? := by rw [e]
  rw [List.getElem?_map, List.getElem?_map, hi] at e2
  have ck := List.all_eq_true.mp c.y.ckY t (List.mem_of_getElem? hi)
  obtain ⟨k1, k2⟩ := Bool.and_eq_true_iff.mp ck
  exact gdict_of X G k1 k2 (Option.some.inj e2)
end
/-- a def that calls itself, to a depth -/
def recD (N : List Str) (fb : (List PyData → Option PyData) → MS) : Nat → List PyData → Option PyData
  | 0 => fun _ => none
  | n + 1 => runD N (fb (recD N fb n))
theorem fn_rec {P : Program} {w : World} {K : PySem.W.Frag} {mg : Str → Option Value} {base : Heap} {x : Str} {params : Arguments} {body : List Stmt} {scope : Scope} {fd : FuncData} {f : Addr} {N ps : List Str} {L n : Nat} {fb : (List PyData → Option PyData) → MS}
    (F : FunD K x x params body scope [] [] f fd) (S : FnScope N ps scope) (hn : ps.length = n) (hg : mg x = some (.ref f)) (hb : Binds K fd ps [])
    (hbody : ∀ (m : List PyData → Option PyData) (k : Nat), L ≤ k → FnD P w K mg base k x n m → ∀ (cdv : Value) (A : Around) (outer : List Env) (s : Shared) (H : Hp) (E : XK), Room k (A.deeper (PyProof.Rows.envOfC x scope s.heap.objs.size f cdv)) → DSs (cxOf CX0 P w K mg base N x scope f cdv A outer s H E).nox body (fb m)) :
    ∀ d : Nat, FnD P w K mg base (L + d) x n (recD N fb d)
  | 0 => by
    refine ⟨f, fd, ps, hn, ⟨fun vs H Q E h => ?_, fun A outer s H args us vs Q E _ _ _ _ h => ?_⟩, hg, F.kp, hb⟩
    · obtain ⟨_, _, _, _, _, _, z, _⟩ := h; cases z
    · obtain ⟨_, _, _, _, _, _, z, _⟩ := h; cases z
  | d + 1 => by
    have ih := fn_rec F S hn hg hb hbody d
    exact ⟨f, fd, ps, hn, fn_ok (fb := fb (recD N fb d)) F S hn (fun cdv A outer s H E hr => hbody _ (L + d) (Nat.le_add_right _ _) ih cdv A outer s H E hr), hg, F.kp, hb⟩
end Dw

set_option Elab.async false
set_option linter.all false
set_option maxRecDepth 100000
set_option maxHeartbeats 4000000
namespace Dm
open PySem PySem.Spec L2 Dw
noncomputable section
def c_MOST_UPPER : PyData := (.int 9999)
def c_LOWERS : PyData := (.tuple [(.int 1), (.int 2), (.int 4), (.int 5), (.int 10), (.int 20), (.int 25), (.int 50), (.int 100)])
def c_MOST_STROKES : PyData := (.int 12)
def c_MOVE : PyData := (.str "move")
def c_LINE : PyData := (.str "line")
def c_BOW : PyData := (.str "bow")
def c_WAVE : PyData := (.str "wave")
def c_SHUT : PyData := (.str "shut")
def dc_LENGTHS : List (Str × PyData) := [("move", .int 2), ("line", .int 2), ("bow", .int 3), ("wave", .int 4), ("shut", .int 1)]
def c_NONE : PyData := (.tuple [(.int 0), (.int 1)])
def c_BEGIN : PyData := (.tuple [(.tuple [(.int 0), (.int 1)]), (.tuple [(.int 0), (.int 1)])])
def dc_COUNTS : List (Str × PyData) := [("M", .int 2), ("L", .int 2), ("H", .int 1), ("V", .int 1), ("Q", .int 4), ("T", .int 2), ("C", .int 6), ("S", .int 4), ("Z", .int 0)]
def c_FIGURES : PyData := (.str "0123456789")
def c_MOST_AHEAD : PyData := (.int 5)
def c_MOST_BEHIND : PyData := (.int 2)
def c_BLANK : PyData := (.str " ")
def c_POINT : PyData := (.str ".")
def c_COMMA : PyData := (.str ",")
def c_HUNDRED : PyData := (.int 100)
def c_BOUND : PyData := (.int 10000000)
def c_HALF : PyData := (.tuple [(.int 1), (.int 2)])
def c_THREE : PyData := (.tuple [(.int 3), (.int 1)])
abbrev N_divisor : List Str := ["one", "other"]
def b_divisor : MS := (sSeq (sSet 0 (mCall pAbs (mCons (mVar 0) mNil)))
  (sSeq (sSet 1 (mCall pAbs (mCons (mVar 1) mNil)))
  (sSeq (sWhile (mTest (mBin pGt (mVar 1) (mK (.int 0)))) (sPar 0 1 (mCons (mVar 1) (mCons (mBin pMod (mVar 0) (mVar 1)) mNil))))
  (sRet (mVar 0)))))
def m_divisor : List PyData → Option PyData := runD N_divisor b_divisor
abbrev N_is_whole : List Str := ["thing"]
def b_is_whole : MS := (sRet (mAndV (mIsi "int" (mVar 0)) (mNotV (mIsi "bool" (mVar 0)))))
def m_is_whole : List PyData → Option PyData := runD N_is_whole b_is_whole
abbrev N_is_fraction : List Str := ["thing"]
def b_is_fraction : MS := (sSeq (sIf (mOr (mNot (mTest (mIsi "tuple" (mVar 0)))) (mOr (mTest (mBin pNe (mCall pLen (mCons (mVar 0) mNil)) (mK (.int 2)))) (mOr (mNot (mTest (mCall m_is_whole (mCons (mBin pIx (mVar 0) (mK (.int 0))) mNil)))) (mNot (mTest (mCall m_is_whole (mCons (mBin pIx (mVar 0) (mK (.int 1))) mNil))))))) (sRet (mK (.bool false)))
  sNil)
  (sRet (mAndV (mBin pGt (mBin pIx (mVar 0) (mK (.int 1))) (mK (.int 0))) (mBin pEq (mCall m_divisor (mCons (mBin pIx (mVar 0) (mK (.int 0))) (mCons (mBin pIx (mVar 0) (mK (.int 1))) mNil))) (mK (.int 1))))))
def m_is_fraction : List PyData → Option PyData := runD N_is_fraction b_is_fraction
abbrev N_is_small : List Str := ["thing"]
def b_is_small : MS := (sRet (mAndV (mCall m_is_fraction (mCons (mVar 0) mNil)) (mAndV (mBin pLe (mCall pAbs (mCons (mBin pIx (mVar 0) (mK (.int 0))) mNil)) (mK c_MOST_UPPER)) (mBin pIn (mBin pIx (mVar 0) (mK (.int 1))) (mK c_LOWERS)))))
def m_is_small : List PyData → Option PyData := runD N_is_small b_is_small
abbrev N_is_point : List Str := ["thing"]
def b_is_point : MS := (sRet (mAndV (mIsi "tuple" (mVar 0)) (mAndV (mBin pEq (mCall pLen (mCons (mVar 0) mNil)) (mK (.int 2))) (mAndV (mCall m_is_small (mCons (mBin pIx (mVar 0) (mK (.int 0))) mNil)) (mCall m_is_small (mCons (mBin pIx (mVar 0) (mK (.int 1))) mNil))))))
def m_is_point : List PyData → Option PyData := runD N_is_point b_is_point
abbrev N_is_stroke : List Str := ["thing", "part"]
def b_is_stroke : MS := (sSeq (sIf (mOr (mNot (mTest (mIsi "tuple" (mVar 0)))) (mOr (mTest (mBin pEq (mCall pLen (mCons (mVar 0) mNil)) (mK (.int 0)))) (mNot (mTest (mIsi "str" (mBin pIx (mVar 0) (mK (.int 0)))))))) (sRet (mK (.bool false)))
  sNil)
  (sRet (mAndV (mBin pEq (mGget dc_LENGTHS (mBin pIx (mVar 0) (mK (.int 0))) (mK (.int 0))) (mCall pLen (mCons (mVar 0) mNil))) (mCall pAll (mCons (mLst (mLc (mItems (mSl (mVar 0) (oAt (mK (.int 1))) oNo)) (gN 1) tYesM (mCall m_is_point (mCons (mVar 1) mNil)) [1])) mNil)))))
def m_is_stroke : List PyData → Option PyData := runD N_is_stroke b_is_stroke
abbrev N_is_way : List Str := ["thing", "part"]
def b_is_way : MS := (sSeq (sIf (mOr (mNot (mTest (mIsi "tuple" (mVar 0)))) (mOr (mTest (mBin pGt (mCall pLen (mCons (mVar 0) mNil)) (mK c_MOST_STROKES))) (mNot (mTest (mCall pAll (mCons (mLst (mLc (mItems (mVar 0)) (gN 1) tYesM (mCall m_is_stroke (mCons (mVar 1) mNil)) [1])) mNil)))))) (sRet (mK (.bool false)))
  sNil)
  (sRet (mOrV (mBin pEq (mCall pLen (mCons (mVar 0) mNil)) (mK (.int 0))) (mBin pEq (mBin pIx (mBin pIx (mVar 0) (mK (.int 0))) (mK (.int 0))) (mK c_MOVE)))))
def m_is_way : List PyData → Option PyData := runD N_is_way b_is_way
abbrev N_fraction : List Str := ["upper", "lower", "by"]
def b_fraction : MS := (sSeq (sSet 2 (mCall m_divisor (mCons (mVar 0) (mCons (mVar 1) mNil))))
  (sSeq (sIf (mTest (mBin pLt (mVar 1) (mK (.int 0)))) (sSet 2 (mBin pSub (mK (.int 0)) (mVar 2)))
  sNil)
  (sRet (mTup (mCons (mBin pDiv (mVar 0) (mVar 2)) (mCons (mBin pDiv (mVar 1) (mVar 2)) mNil))))))
def m_fraction : List PyData → Option PyData := runD N_fraction b_fraction
abbrev N__law_cell_at : List Str := ["script", "k"]
def b__law_cell_at : MS := (sSeq (sIf (mTest (mBin pLt (mVar 1) (mCall pLen (mCons (mVar 0) mNil)))) (sRet (mBin pIx (mVar 0) (mVar 1)))
  sNil)
  (sRet (mK (.int 0))))
def m__law_cell_at : List PyData → Option PyData := runD N__law_cell_at b__law_cell_at
abbrev N__law_mixed : List Str := ["script", "k", "drawn"]
def b__law_mixed : MS := (sSeq (sSet 2 (mBin pMod (mBin pMul (mBin pAdd (mBin pAdd (mCall m__law_cell_at (mCons (mVar 0) (mCons (mVar 1) mNil))) (mBin pMul (mK (.int 7919)) (mVar 1))) (mK (.int 1))) (mK (.int 48271))) (mK (.int 2147483647))))
  (sRet (mBin pMod (mBin pAdd (mBin pAdd (mBin pMul (mVar 2) (mVar 2)) (mBin pMul (mK (.int 7)) (mVar 2))) (mVar 1)) (mK (.int 2147483629)))))
def m__law_mixed : List PyData → Option PyData := runD N__law_mixed b__law_mixed
abbrev N__law_drawn : List Str := ["number", "k", "drawn"]
def b__law_drawn : MS := (sSeq (sSet 2 (mBin pMod (mBin pMul (mBin pAdd (mBin pAdd (mVar 0) (mBin pMul (mK (.int 104729)) (mVar 1))) (mK (.int 17))) (mK (.int 69621))) (mK (.int 2147483647))))
  (sRet (mBin pMod (mBin pAdd (mBin pAdd (mBin pMul (mVar 2) (mVar 2)) (mBin pMul (mK (.int 3)) (mVar 2))) (mVar 1)) (mK (.int 2147483629)))))
def m__law_drawn : List PyData → Option PyData := runD N__law_drawn b__law_drawn
abbrev N__law_fr : List Str := ["upper", "lower", "one", "other"]
def b__law_fr : MS := (sSeq (sSet 2 (mCall pAbs (mCons (mVar 0) mNil)))
  (sSeq (sSet 3 (mCall pAbs (mCons (mVar 1) mNil)))
  (sSeq (sWhile (mTest (mBin pGt (mVar 3) (mK (.int 0)))) (sPar 2 3 (mCons (mVar 3) (mCons (mBin pMod (mVar 2) (mVar 3)) mNil))))
  (sSeq (sIf (mTest (mBin pLt (mVar 1) (mK (.int 0)))) (sSet 2 (mBin pSub (mK (.int 0)) (mVar 2)))
  sNil)
  (sRet (mTup (mCons (mBin pDiv (mVar 0) (mVar 2)) (mCons (mBin pDiv (mVar 1) (mVar 2)) mNil))))))))
def m__law_fr : List PyData → Option PyData := runD N__law_fr b__law_fr
abbrev N__law_plus : List Str := ["one", "other"]
def b__law_plus : MS := (sRet (mCall m__law_fr (mCons (mBin pAdd (mBin pMul (mBin pIx (mVar 0) (mK (.int 0))) (mBin pIx (mVar 1) (mK (.int 1)))) (mBin pMul (mBin pIx (mVar 1) (mK (.int 0))) (mBin pIx (mVar 0) (mK (.int 1))))) (mCons (mBin pMul (mBin pIx (mVar 0) (mK (.int 1))) (mBin pIx (mVar 1) (mK (.int 1)))) mNil))))
def m__law_plus : List PyData → Option PyData := runD N__law_plus b__law_plus
abbrev N__law_times : List Str := ["one", "other"]
def b__law_times : MS := (sRet (mCall m__law_fr (mCons (mBin pMul (mBin pIx (mVar 0) (mK (.int 0))) (mBin pIx (mVar 1) (mK (.int 0)))) (mCons (mBin pMul (mBin pIx (mVar 0) (mK (.int 1))) (mBin pIx (mVar 1) (mK (.int 1)))) mNil))))
def m__law_times : List PyData → Option PyData := runD N__law_times b__law_times
abbrev N__law_minus : List Str := ["one", "other"]
def b__law_minus : MS := (sRet (mCall m__law_plus (mCons (mVar 0) (mCons (mTup (mCons (mBin pSub (mK (.int 0)) (mBin pIx (mVar 1) (mK (.int 0)))) (mCons (mBin pIx (mVar 1) (mK (.int 1))) mNil))) mNil))))
def m__law_minus : List PyData → Option PyData := runD N__law_minus b__law_minus
abbrev N__law_add : List Str := ["point", "other"]
def b__law_add : MS := (sRet (mTup (mCons (mCall m__law_plus (mCons (mBin pIx (mVar 0) (mK (.int 0))) (mCons (mBin pIx (mVar 1) (mK (.int 0))) mNil))) (mCons (mCall m__law_plus (mCons (mBin pIx (mVar 0) (mK (.int 1))) (mCons (mBin pIx (mVar 1) (mK (.int 1))) mNil))) mNil))))
def m__law_add : List PyData → Option PyData := runD N__law_add b__law_add
abbrev N__law_sub : List Str := ["point", "other"]
def b__law_sub : MS := (sRet (mTup (mCons (mCall m__law_minus (mCons (mBin pIx (mVar 0) (mK (.int 0))) (mCons (mBin pIx (mVar 1) (mK (.int 0))) mNil))) (mCons (mCall m__law_minus (mCons (mBin pIx (mVar 0) (mK (.int 1))) (mCons (mBin pIx (mVar 1) (mK (.int 1))) mNil))) mNil))))
def m__law_sub : List PyData → Option PyData := runD N__law_sub b__law_sub
abbrev N__law_scale : List Str := ["number", "point"]
def b__law_scale : MS := (sRet (mTup (mCons (mCall m__law_times (mCons (mVar 0) (mCons (mBin pIx (mVar 1) (mK (.int 0))) mNil))) (mCons (mCall m__law_times (mCons (mVar 0) (mCons (mBin pIx (mVar 1) (mK (.int 1))) mNil))) mNil))))
def m__law_scale : List PyData → Option PyData := runD N__law_scale b__law_scale
abbrev N__law_number : List Str := ["number", "lower", "wide"]
def b__law_number : MS := (sSeq (sSet 1 (mBin pIx (mTup (mCons (mK (.int 1)) (mCons (mK (.int 1)) (mCons (mK (.int 2)) (mCons (mK (.int 4)) (mCons (mK (.int 5)) (mCons (mK (.int 10)) (mCons (mK (.int 20)) (mCons (mK (.int 25)) (mCons (mK (.int 50)) (mCons (mK (.int 100)) mNil))))))))))) (mBin pMod (mVar 0) (mBin pIx (mTup (mCons (mK (.int 2)) (mCons (mK (.int 10)) mNil))) (mBin pMod (mBin pDiv (mVar 0) (mK (.int 16))) (mK (.int 2)))))))
  (sSeq (sSet 2 (mBin pIx (mTup (mCons (mK (.int 3)) (mCons (mK (.int 12)) (mCons (mK (.int 1500)) mNil)))) (mBin pMod (mBin pDiv (mVar 0) (mK (.int 64))) (mK (.int 3)))))
  (sRet (mCall m__law_fr (mCons (mBin pSub (mBin pMod (mBin pDiv (mVar 0) (mK (.int 256))) (mBin pAdd (mBin pMul (mK (.int 2)) (mVar 2)) (mK (.int 1)))) (mVar 2)) (mCons (mVar 1) mNil))))))
def m__law_number : List PyData → Option PyData := runD N__law_number b__law_number
abbrev N__law_point : List Str := ["number"]
def b__law_point : MS := (sRet (mTup (mCons (mCall m__law_number (mCons (mBin pDiv (mCall m__law_drawn (mCons (mVar 0) (mCons (mK (.int 1)) mNil))) (mK (.int 4))) mNil)) (mCons (mCall m__law_number (mCons (mBin pDiv (mCall m__law_drawn (mCons (mVar 0) (mCons (mK (.int 2)) mNil))) (mK (.int 4))) mNil)) mNil))))
def m__law_point : List PyData → Option PyData := runD N__law_point b__law_point
abbrev N__law_goal : List Str := ["number", "pen", "begin", "kind", "point"]
def b__law_goal : MS := (sSeq (sSet 3 (mBin pMod (mVar 0) (mK (.int 8))))
  (sSeq (sIf (mTest (mBin pEq (mVar 3) (mK (.int 0)))) (sRet (mVar 1))
  sNil)
  (sSeq (sIf (mTest (mBin pEq (mVar 3) (mK (.int 1)))) (sRet (mVar 2))
  sNil)
  (sSeq (sSet 4 (mCall m__law_point (mCons (mBin pDiv (mVar 0) (mK (.int 8))) mNil)))
  (sSeq (sIf (mTest (mBin pEq (mVar 3) (mK (.int 2)))) (sRet (mTup (mCons (mBin pIx (mVar 1) (mK (.int 0))) (mCons (mBin pIx (mVar 4) (mK (.int 1))) mNil))))
  sNil)
  (sSeq (sIf (mTest (mBin pEq (mVar 3) (mK (.int 3)))) (sRet (mTup (mCons (mBin pIx (mVar 4) (mK (.int 0))) (mCons (mBin pIx (mVar 1) (mK (.int 1))) mNil))))
  sNil)
  (sRet (mVar 4))))))))
def m__law_goal : List PyData → Option PyData := runD N__law_goal b__law_goal
abbrev N__law_stroke : List Str := ["number", "pen", "begin", "ahead", "kind", "goal", "first", "second"]
def b__law_stroke : MS := (sSeq (sSet 4 (mBin pMod (mVar 0) (mK (.int 8))))
  (sSeq (sSet 5 (mCall m__law_goal (mCons (mBin pDiv (mVar 0) (mK (.int 8))) (mCons (mVar 1) (mCons (mVar 2) mNil)))))
  (sSeq (sSet 6 (mCall m__law_point (mCons (mBin pDiv (mVar 0) (mK (.int 64))) mNil)))
  (sSeq (sSet 7 (mCall m__law_point (mCons (mBin pDiv (mVar 0) (mK (.int 512))) mNil)))
  (sSeq (sIf (mAnd (mTest (mBin pIn (mBin pIx (mVar 3) (mK (.int 0))) (mTup (mCons (mK (.str "bow")) (mCons (mK (.str "wave")) mNil))))) (mTest (mBin pEq (mBin pMod (mBin pDiv (mVar 0) (mK (.int 4096))) (mK (.int 3))) (mK (.int 0))))) (sSet 6 (mCall m__law_sub (mCons (mCall m__law_scale (mCons (mTup (mCons (mK (.int 2)) (mCons (mK (.int 1)) mNil))) (mCons (mVar 1) mNil))) (mCons (mBin pIx (mVar 3) (mUn pNeg (mK (.int 2)))) mNil))))
  sNil)
  (sSeq (sIf (mTest (mBin pEq (mVar 4) (mK (.int 0)))) (sRet (mTup (mCons (mK (.str "move")) (mCons (mVar 5) mNil))))
  sNil)
  (sSeq (sIf (mTest (mBin pLt (mVar 4) (mK (.int 4)))) (sRet (mTup (mCons (mK (.str "line")) (mCons (mVar 5) mNil))))
  sNil)
  (sSeq (sIf (mTest (mBin pEq (mVar 4) (mK (.int 4)))) (sRet (mTup (mCons (mK (.str "bow")) (mCons (mVar 6) (mCons (mVar 5) mNil)))))
  sNil)
  (sSeq (sIf (mTest (mBin pLt (mVar 4) (mK (.int 7)))) (sRet (mTup (mCons (mK (.str "wave")) (mCons (mVar 6) (mCons (mVar 7) (mCons (mVar 5) mNil))))))
  sNil)
  (sRet (mTup (mCons (mK (.str "shut")) mNil))))))))))))
def m__law_stroke : List PyData → Option PyData := runD N__law_stroke b__law_stroke
abbrev N__law_way : List Str := ["number", "most", "way", "pen", "begin", "k", "drawn", "stroke"]
def b__law_way : MS := (sSeq (sSet 2 (mTup mNil))
  (sSeq (sSet 3 (mTup (mCons (mTup (mCons (mK (.int 0)) (mCons (mK (.int 1)) mNil))) (mCons (mTup (mCons (mK (.int 0)) (mCons (mK (.int 1)) mNil))) mNil))))
  (sSeq (sSet 4 (mVar 3))
  (sSeq (sFor (mIt pRng1 (mCons (mBin pMod (mVar 0) (mBin pAdd (mVar 1) (mK (.int 1)))) mNil)) (gN 5) (sSeq (sSet 6 (mBin pDiv (mCall m__law_drawn (mCons (mVar 0) (mCons (mBin pAdd (mK (.int 10)) (mVar 5)) mNil))) (mK (.int 4))))
  (sSeq (sSet 7 (mTup (mCons (mK (.str "move")) (mCons (mCall m__law_point (mCons (mVar 6) mNil)) mNil))))
  (sSeq (sIf (mTest (mBin pNe (mVar 2) (mTup mNil))) (sSet 7 (mCall m__law_stroke (mCons (mVar 6) (mCons (mVar 3) (mCons (mVar 4) (mCons (mBin pIx (mVar 2) (mUn pNeg (mK (.int 1)))) mNil))))))
  sNil)
  (sSeq (sSet 2 (mBin pAdd (mVar 2) (mTup (mCons (mVar 7) mNil))))
  (sSeq (sIf (mTest (mBin pEq (mBin pIx (mVar 7) (mK (.int 0))) (mK (.str "move")))) (sSet 4 (mBin pIx (mVar 7) (mK (.int 1))))
  sNil)
  (sSeq (sSet 3 (mVar 4))
  (sIf (mTest (mBin pNe (mBin pIx (mVar 7) (mK (.int 0))) (mK (.str "shut")))) (sSet 3 (mBin pIx (mVar 7) (mUn pNeg (mK (.int 1)))))
  sNil))))))))
  (sRet (mVar 2))))))
def m__law_way : List PyData → Option PyData := runD N__law_way b__law_way
abbrev N__law_pens : List Str := ["way", "found", "begin", "stroke"]
def b__law_pens : MS := (sSeq (sSetL 1 (mCons (mTup (mCons (mTup (mCons (mK (.int 0)) (mCons (mK (.int 1)) mNil))) (mCons (mTup (mCons (mK (.int 0)) (mCons (mK (.int 1)) mNil))) mNil))) mNil))
  (sSeq (sSet 2 (mIxO 1 (mK (.int 0))))
  (sSeq (sFor (mItems (mVar 0)) (gN 3) (sSeq (sIf (mTest (mBin pEq (mBin pIx (mVar 3) (mK (.int 0))) (mK (.str "move")))) (sSet 2 (mBin pIx (mVar 3) (mK (.int 1))))
  sNil)
  (sApp 1 (mBin pIx (mBin pAdd (mVar 3) (mTup (mCons (mVar 2) mNil))) (mBin pSub (mCall pLen (mCons (mVar 3) mNil)) (mCall pInt (mCons (mBin pNe (mBin pIx (mVar 3) (mK (.int 0))) (mK (.str "shut"))) mNil)))))))
  (sRet (mVar 1)))))
def m__law_pens : List PyData → Option PyData := runD N__law_pens b__law_pens
abbrev N__law_is_fraction : List Str := ["thing", "good", "part"]
def b__law_is_fraction : MS := (sSeq (sIf (mOr (mNot (mTest (mIsi "tuple" (mVar 0)))) (mTest (mBin pNe (mCall pLen (mCons (mVar 0) mNil)) (mK (.int 2))))) (sRet (mK (.bool false)))
  sNil)
  (sSeq (sSetC false 1 (mLc (mItems (mVar 0)) (gN 2) (mAnd (mTest (mIsi "int" (mVar 2))) (mNot (mTest (mIsi "bool" (mVar 2))))) (mVar 2) [2]))
  (sRet (mAndV (mBin pEq (mCall pLen (mCons (mVar 1) mNil)) (mK (.int 2))) (mAndV (mBin pGt (mBin pIx (mVar 0) (mK (.int 1))) (mK (.int 0))) (mBin pEq (mCall m__law_fr (mCons (mBin pIx (mVar 0) (mK (.int 0))) (mCons (mBin pIx (mVar 0) (mK (.int 1))) mNil))) (mVar 0)))))))
def m__law_is_fraction : List PyData → Option PyData := runD N__law_is_fraction b__law_is_fraction
abbrev N__law_is_way : List Str := ["thing", "stroke", "point", "upper", "lower", "part"]
def b__law_is_way : MS := (sSeq (sIf (mOr (mNot (mTest (mIsi "tuple" (mVar 0)))) (mTest (mBin pGt (mCall pLen (mCons (mVar 0) mNil)) (mK (.int 12))))) (sRet (mK (.bool false)))
  sNil)
  (sSeq (sFor (mItems (mVar 0)) (gN 1) (sSeq (sIf (mOr (mNot (mTest (mIsi "tuple" (mVar 1)))) (mOr (mTest (mBin pEq (mCall pLen (mCons (mVar 1) mNil)) (mK (.int 0)))) (mNot (mTest (mIsi "str" (mBin pIx (mVar 1) (mK (.int 0)))))))) (sRet (mK (.bool false)))
  sNil)
  (sSeq (sIf (mTest (mBin pNe (mCall pLen (mCons (mVar 1) mNil)) (mDgt [.inr "move", .inr "line", .inr "bow", .inr "wave", .inr "shut"] (mCons (mK (.int 2)) (mCons (mK (.int 2)) (mCons (mK (.int 3)) (mCons (mK (.int 4)) (mCons (mK (.int 1)) mNil))))) (mBin pIx (mVar 1) (mK (.int 0))) (mK (.int 0))))) (sRet (mK (.bool false)))
  sNil)
  (sFor (mItems (mSl (mVar 1) (oAt (mK (.int 1))) oNo)) (gN 2) (sSeq (sIf (mOr (mNot (mTest (mIsi "tuple" (mVar 2)))) (mTest (mBin pNe (mCall pLen (mCons (mVar 2) mNil)) (mK (.int 2))))) (sRet (mK (.bool false)))
  sNil)
  (sSeq (sIf (mTest (mBin pNe (mLst (mLc (mItems (mVar 2)) (gN 5) (mNot (mTest (mCall m__law_is_fraction (mCons (mVar 5) mNil)))) (mVar 5) [5])) (mLst mNil))) (sRet (mK (.bool false)))
  sNil)
  (sFor (mItems (mVar 2)) (gT 2 (gs1 (gN 3) (gs1 (gN 4) gs0'))) (sIf (mOr (mTest (mBin pGt (mCall pAbs (mCons (mVar 3) mNil)) (mK (.int 9999)))) (mTest (mBin pNotIn (mVar 4) (mTup (mCons (mK (.int 1)) (mCons (mK (.int 2)) (mCons (mK (.int 4)) (mCons (mK (.int 5)) (mCons (mK (.int 10)) (mCons (mK (.int 20)) (mCons (mK (.int 25)) (mCons (mK (.int 50)) (mCons (mK (.int 100)) mNil))))))))))))) (sRet (mK (.bool false)))
  sNil))))))))
  (sRet (mOrV (mBin pEq (mVar 0) (mTup mNil)) (mBin pEq (mBin pIx (mBin pIx (mVar 0) (mK (.int 0))) (mK (.int 0))) (mK (.str "move")))))))
def m__law_is_way : List PyData → Option PyData := runD N__law_is_way b__law_is_way
abbrev N__law_spoilt : List Str := ["thing", "number", "deep", "at", "part", "kind", "some", "words"]
def b__law_spoilt (rec : List PyData → Option PyData) : MS := (sSeq (sIf (mAnd (mTest (mBin pGt (mVar 2) (mK (.int 0)))) (mAnd (mTest (mIsi "tuple" (mVar 0))) (mAnd (mTest (mBin pGt (mCall pLen (mCons (mVar 0) mNil)) (mK (.int 0)))) (mTest (mBin pGt (mBin pMod (mVar 1) (mK (.int 5))) (mK (.int 0))))))) (sSeq (sSet 3 (mBin pMod (mBin pDiv (mVar 1) (mK (.int 8))) (mCall pLen (mCons (mVar 0) mNil))))
  (sSeq (sSet 4 (mCall rec (mCons (mBin pIx (mVar 0) (mVar 3)) (mCons (mBin pDiv (mCall m__law_drawn (mCons (mVar 1) (mCons (mVar 2) mNil))) (mK (.int 4))) (mCons (mBin pSub (mVar 2) (mK (.int 1))) mNil)))))
  (sRet (mBin pAdd (mBin pAdd (mSl (mVar 0) oNo (oAt (mVar 3))) (mTup (mCons (mVar 4) mNil))) (mSl (mVar 0) (oAt (mBin pAdd (mVar 3) (mK (.int 1)))) oNo)))))
  sNil)
  (sSeq (sSet 5 (mBin pMod (mBin pDiv (mVar 1) (mK (.int 8))) (mK (.int 4))))
  (sSeq (sIf (mAnd (mTest (mIsi "tuple" (mVar 0))) (mAnd (mTest (mBin pGt (mCall pLen (mCons (mVar 0) mNil)) (mK (.int 0)))) (mTest (mBin pGt (mVar 5) (mK (.int 0)))))) (sSeq (sSet 3 (mBin pMod (mBin pDiv (mVar 1) (mK (.int 32))) (mCall pLen (mCons (mVar 0) mNil))))
  (sSeq (sSet 6 (mLst (mCons (mLst (mCall pList (mCons (mVar 0) mNil))) (mCons (mBin pAdd (mSl (mVar 0) oNo (oAt (mVar 3))) (mSl (mVar 0) (oAt (mBin pAdd (mVar 3) (mK (.int 1)))) oNo)) (mCons (mBin pAdd (mVar 0) (mSl (mVar 0) (oAt (mVar 3)) (oAt (mBin pAdd (mVar 3) (mK (.int 1)))))) (mCons (mUn pRev (mVar 0)) mNil))))))
  (sRet (mBin pIx (mBin pAdd (mVar 6) (mLst (mCons (mBin pAdd (mBin pAdd (mSl (mVar 0) oNo (oAt (mVar 3))) (mTup (mCons (mBin pIx (mVar 0) (mVar 3)) mNil))) (mSl (mVar 0) (oAt (mVar 3)) oNo)) mNil))) (mBin pMod (mBin pDiv (mVar 1) (mK (.int 1024))) (mK (.int 5)))))))
  sNil)
  (sSeq (sIf (mAnd (mTest (mIsi "int" (mVar 0))) (mTest (mBin pGt (mVar 5) (mK (.int 0))))) (sRet (mBin pIx (mLst (mCons (mBin pAdd (mVar 0) (mK (.int 1))) (mCons (mBin pSub (mK (.int 0)) (mVar 0)) (mCons (mBin pMul (mVar 0) (mK (.int 2))) (mCons (mCall pStr (mCons (mVar 0) mNil)) (mCons (mBin pEq (mVar 0) (mK (.int 1))) (mCons (mBin pMul (mVar 0) (mK (.int 1000))) (mCons (mBin pSub (mVar 0) (mK (.int 1))) mNil)))))))) (mBin pMod (mBin pDiv (mVar 1) (mK (.int 32))) (mK (.int 7)))))
  sNil)
  (sSeq (sSet 7 (mLst (mCons (mK .none) (mCons (mK (.str "move")) (mCons (mK (.str "line")) (mCons (mK (.str "bow")) (mCons (mK (.str "wave")) (mCons (mK (.str "shut")) (mCons (mK (.str "arc")) (mCons (mK (.str "")) (mCons (mTup mNil) (mCons (mTup (mCons (mK (.str "shut")) mNil)) (mCons (mTup (mCons (mK (.int 0)) (mCons (mK (.int 1)) mNil))) (mCons (mTup (mCons (mK (.int 1)) (mCons (mK (.int 0)) mNil))) (mCons (mTup (mCons (mK (.int 2)) (mCons (mK (.int 4)) mNil))) mNil)))))))))))))))
  (sSeq (sSet 7 (mBin pAdd (mVar 7) (mLst (mCons (mTup (mCons (mK (.int 1)) (mCons (mK (.int 3)) mNil))) (mCons (mLst mNil) (mCons (mK (.bool true)) (mCons (mK (.int 0)) (mCons (mTup (mCons (mK (.int 9999)) (mCons (mK (.int 1)) mNil))) (mCons (mTup (mCons (mK (.int 10000)) (mCons (mK (.int 1)) mNil))) (mCons (mTup (mCons (mK (.int 1)) (mCons (mK (.int 100)) mNil))) (mCons (mTup (mCons (mK (.int 1)) (mCons (mK (.int 200)) mNil))) (mCons (mTup (mCons (mTup (mCons (mK (.int 0)) (mCons (mK (.int 1)) mNil))) (mCons (mTup (mCons (mK (.int 0)) (mCons (mK (.int 1)) mNil))) mNil))) mNil))))))))))))
  (sRet (mBin pIx (mBin pAdd (mVar 7) (mLst (mCons (mTup (mCons (mK (.str "line")) (mCons (mTup (mCons (mTup (mCons (mK (.int 0)) (mCons (mK (.int 1)) mNil))) (mCons (mTup (mCons (mK (.int 1)) (mCons (mK (.int 1)) mNil))) mNil))) mNil))) mNil))) (mBin pMod (mBin pDiv (mVar 1) (mK (.int 32))) (mK (.int 23)))))))))))
def m__law_spoilt : List PyData → Option PyData := recD N__law_spoilt b__law_spoilt 6
abbrev N_law_k01 : List Str := ["script", "number", "way", "pair", "got", "due", "upper", "lower", "part"]
def b_law_k01 : MS := (sSeq (sSet 1 (mCall m__law_mixed (mCons (mVar 0) (mCons (mK (.int 0)) mNil))))
  (sSeq (sSet 2 (mCall m__law_way (mCons (mCall m__law_mixed (mCons (mVar 0) (mCons (mK (.int 1)) mNil))) (mCons (mK (.int 12)) mNil))))
  (sSeq (sSet 3 (mCall m__law_number (mCons (mCall m__law_mixed (mCons (mVar 0) (mCons (mK (.int 2)) mNil))) mNil)))
  (sSeq (sIf (mTest (mBin pGt (mBin pMod (mVar 1) (mK (.int 3))) (mK (.int 0)))) (sSeq (sSet 2 (mCall m__law_spoilt (mCons (mVar 2) (mCons (mCall m__law_mixed (mCons (mVar 0) (mCons (mK (.int 3)) mNil))) (mCons (mBin pMod (mBin pDiv (mVar 1) (mK (.int 4))) (mK (.int 5))) mNil)))))
  (sSet 3 (mCall m__law_spoilt (mCons (mVar 3) (mCons (mCall m__law_mixed (mCons (mVar 0) (mCons (mK (.int 4)) mNil))) (mCons (mBin pMod (mBin pDiv (mVar 1) (mK (.int 32))) (mK (.int 2))) mNil))))))
  sNil)
  (sSeq (sSet 4 (mLst (mCons (mCall m_is_way (mCons (mVar 2) mNil)) (mCons (mCall m_is_fraction (mCons (mVar 3) mNil)) (mCons (mCall m_is_way (mCons (mVar 3) mNil)) (mCons (mCall m_is_fraction (mCons (mVar 2) mNil)) mNil))))))
  (sSeq (sSet 5 (mLst (mCons (mCall m__law_is_way (mCons (mVar 2) mNil)) (mCons (mCall m__law_is_fraction (mCons (mVar 3) mNil)) (mCons (mCall m__law_is_way (mCons (mVar 3) mNil)) (mCons (mCall m__law_is_fraction (mCons (mVar 2) mNil)) mNil))))))
  (sSeq (sIf (mOr (mTest (mBin pNe (mVar 4) (mVar 5))) (mTest (mBin pNe (mLst (mLc (mItems (mVar 4)) (gN 8) (mNot (mTest (mIsi "bool" (mVar 8)))) (mVar 8) [8])) (mLst mNil)))) (sRet (mK (.bool false)))
  sNil)
  (sSeq (sSet 6 (mBin pSub (mBin pMod (mCall m__law_mixed (mCons (mVar 0) (mCons (mK (.int 5)) mNil))) (mK (.int 4001))) (mK (.int 2000))))
  (sSeq (sSet 7 (mBin pSub (mBin pMod (mCall m__law_mixed (mCons (mVar 0) (mCons (mK (.int 6)) mNil))) (mK (.int 401))) (mK (.int 200))))
  (sSeq (sIf (mTest (mBin pEq (mVar 7) (mK (.int 0)))) (sSet 7 (mK (.int 7)))
  sNil)
  (sRet (mBin pEq (mCall m_fraction (mCons (mVar 6) (mCons (mVar 7) mNil))) (mCall m__law_fr (mCons (mVar 6) (mCons (mVar 7) mNil)))))))))))))))
def m_law_k01 : List PyData → Option PyData := runD N_law_k01 b_law_k01
abbrev N_pens : List Str := ["way", "found", "here", "begin", "stroke"]
def b_pens : MS := (sSeq (sSetL 1 mNil)
  (sSeq (sSet 2 (mK c_BEGIN))
  (sSeq (sSet 3 (mK c_BEGIN))
  (sSeq (sFor (mItems (mVar 0)) (gN 4) (sSeq (sApp 1 (mVar 2))
  (sSeq (sIf (mTest (mBin pEq (mBin pIx (mVar 4) (mK (.int 0))) (mK c_MOVE))) (sSet 3 (mBin pIx (mVar 4) (mK (.int 1))))
  sNil)
  (sIf (mTest (mBin pEq (mBin pIx (mVar 4) (mK (.int 0))) (mK c_SHUT))) (sSet 2 (mVar 3))
  (sSet 2 (mBin pIx (mVar 4) (mUn pNeg (mK (.int 1)))))))))
  (sSeq (sApp 1 (mVar 2))
  (sRet (mCall pTuple (mCons (mVar 1) mNil))))))))
def m_pens : List PyData → Option PyData := runD N_pens b_pens
abbrev N_begins : List Str := ["way", "found", "begin", "stroke"]
def b_begins : MS := (sSeq (sSetL 1 mNil)
  (sSeq (sSet 2 (mK c_BEGIN))
  (sSeq (sFor (mItems (mVar 0)) (gN 3) (sSeq (sIf (mTest (mBin pEq (mBin pIx (mVar 3) (mK (.int 0))) (mK c_MOVE))) (sSet 2 (mBin pIx (mVar 3) (mK (.int 1))))
  sNil)
  (sApp 1 (mVar 2))))
  (sRet (mCall pTuple (mCons (mVar 1) mNil))))))
def m_begins : List PyData → Option PyData := runD N_begins b_begins
abbrev N_parts : List Str := ["way", "found", "some", "stroke", "begin", "part"]
def b_parts : MS := (sSeq (sSetL 1 mNil)
  (sSeq (sSet 2 (mTup mNil))
  (sSeq (sFor (mIt pZip (mCons (mVar 0) (mCons (mCall m_begins (mCons (mVar 0) mNil)) mNil))) (gT 2 (gs1 (gN 3) (gs1 (gN 4) gs0'))) (sSeq (sIf (mTest (mBin pEq (mBin pIx (mVar 3) (mK (.int 0))) (mK c_MOVE))) (sSeq (sApp 1 (mVar 2))
  (sSet 2 (mTup (mCons (mVar 3) mNil))))
  (sSeq (sIf (mTest (mBin pEq (mCall pLen (mCons (mVar 2) mNil)) (mK (.int 0)))) (sSet 2 (mTup (mCons (mTup (mCons (mK c_MOVE) (mCons (mVar 4) mNil))) mNil)))
  sNil)
  (sSet 2 (mBin pAdd (mVar 2) (mTup (mCons (mVar 3) mNil))))))
  (sIf (mTest (mBin pEq (mBin pIx (mVar 3) (mK (.int 0))) (mK c_SHUT))) (sSeq (sApp 1 (mVar 2))
  (sSet 2 (mTup mNil)))
  sNil)))
  (sSeq (sApp 1 (mVar 2))
  (sRet (mCall pTuple (mCons (mLst (mLc (mItems (mVar 1)) (gN 5) (mTest (mBin pGt (mCall pLen (mCons (mVar 5) mNil)) (mK (.int 1)))) (mVar 5) [5])) mNil)))))))
def m_parts : List PyData → Option PyData := runD N_parts b_parts
abbrev N_law_k02 : List Str := ["script", "way", "places", "due", "at", "stroke", "ahead", "rows", "is_new", "k", "row"]
def b_law_k02 : MS := (sSeq (sSet 1 (mCall m__law_way (mCons (mCall m__law_mixed (mCons (mVar 0) (mCons (mK (.int 0)) mNil))) (mCons (mK (.int 12)) mNil))))
  (sSeq (sSet 2 (mCall m__law_pens (mCons (mVar 1) mNil)))
  (sSeq (sIf (mTest (mBin pNe (mCall m_pens (mCons (mVar 1) mNil)) (mCall pTuple (mCons (mVar 2) mNil)))) (sRet (mK (.bool false)))
  sNil)
  (sSeq (sSetL 3 mNil)
  (sSeq (sFor (mIt pEnum (mCons (mVar 1) mNil)) (gT 2 (gs1 (gN 4) (gs1 (gN 5) gs0'))) (sSeq (sSetC false 6 (mLc (mIt pRng1 (mCons (mBin pAdd (mVar 4) (mK (.int 1))) mNil)) (gN 9) (mTest (mBin pEq (mBin pIx (mBin pIx (mVar 1) (mVar 9)) (mK (.int 0))) (mK (.str "move")))) (mVar 9) [9]))
  (sApp 3 (mBin pIx (mBin pIx (mVar 1) (mBin pIx (mVar 6) (mUn pNeg (mK (.int 1))))) (mK (.int 1))))))
  (sSeq (sIf (tTmp 3 (mTest (mBin pNe (mCall m_begins (mCons (mVar 1) mNil)) (mCall pTuple (mCons (mVar 3) mNil))))) (sRet (mK (.bool false)))
  sNil)
  (sSeq (sSetL 7 mNil)
  (sSeq (sSet 8 (mK (.bool true)))
  (sSeq (sFor (mIt pEnum (mCons (mVar 1) mNil)) (gT 2 (gs1 (gN 4) (gs1 (gN 5) gs0'))) (sSeq (sIf (mTest (mBin pEq (mBin pIx (mVar 5) (mK (.int 0))) (mK (.str "move")))) (sSeq (sApp 7 (mTup (mCons (mVar 5) mNil)))
  (sSet 8 (mK (.bool false))))
  (sIf (mTest (mVar 8)) (sSeq (sApp 7 (mTup (mCons (mTup (mCons (mK (.str "move")) (mCons (mBin pIx (mVar 2) (mVar 4)) mNil))) (mCons (mVar 5) mNil))))
  (sSet 8 (mK (.bool false))))
  (sPut 7 (mUn pNeg (mK (.int 1))) (mBin pAdd (mIxO 7 (mUn pNeg (mK (.int 1)))) (mTup (mCons (mVar 5) mNil))))))
  (sSet 8 (mOrV (mVar 8) (mBin pEq (mBin pIx (mVar 5) (mK (.int 0))) (mK (.str "shut")))))))
  (sRet (mBin pEq (mCall m_parts (mCons (mVar 1) mNil)) (mCall pTuple (mCons (mLst (mLc (mItems (mVar 7)) (gN 10) (mTest (mBin pGt (mCall pLen (mCons (mVar 10) mNil)) (mK (.int 1)))) (mVar 10) [10])) mNil)))))))))))))
def m_law_k02 : List PyData → Option PyData := runD N_law_k02 b_law_k02
abbrev N_plus : List Str := ["one", "other"]
def b_plus : MS := (sRet (mCall m_fraction (mCons (mBin pAdd (mBin pMul (mBin pIx (mVar 0) (mK (.int 0))) (mBin pIx (mVar 1) (mK (.int 1)))) (mBin pMul (mBin pIx (mVar 1) (mK (.int 0))) (mBin pIx (mVar 0) (mK (.int 1))))) (mCons (mBin pMul (mBin pIx (mVar 0) (mK (.int 1))) (mBin pIx (mVar 1) (mK (.int 1)))) mNil))))
def m_plus : List PyData → Option PyData := runD N_plus b_plus
abbrev N_minus : List Str := ["one", "other"]
def b_minus : MS := (sRet (mCall m_fraction (mCons (mBin pSub (mBin pMul (mBin pIx (mVar 0) (mK (.int 0))) (mBin pIx (mVar 1) (mK (.int 1)))) (mBin pMul (mBin pIx (mVar 1) (mK (.int 0))) (mBin pIx (mVar 0) (mK (.int 1))))) (mCons (mBin pMul (mBin pIx (mVar 0) (mK (.int 1))) (mBin pIx (mVar 1) (mK (.int 1)))) mNil))))
def m_minus : List PyData → Option PyData := runD N_minus b_minus
abbrev N_moved : List Str := ["point", "by"]
def b_moved : MS := (sRet (mTup (mCons (mCall m_plus (mCons (mBin pIx (mVar 0) (mK (.int 0))) (mCons (mBin pIx (mVar 1) (mK (.int 0))) mNil))) (mCons (mCall m_plus (mCons (mBin pIx (mVar 0) (mK (.int 1))) (mCons (mBin pIx (mVar 1) (mK (.int 1))) mNil))) mNil))))
def m_moved : List PyData → Option PyData := runD N_moved b_moved
abbrev N_apart : List Str := ["point", "other"]
def b_apart : MS := (sRet (mTup (mCons (mCall m_minus (mCons (mBin pIx (mVar 0) (mK (.int 0))) (mCons (mBin pIx (mVar 1) (mK (.int 0))) mNil))) (mCons (mCall m_minus (mCons (mBin pIx (mVar 0) (mK (.int 1))) (mCons (mBin pIx (mVar 1) (mK (.int 1))) mNil))) mNil))))
def m_apart : List PyData → Option PyData := runD N_apart b_apart
abbrev N_need : List Str := ["good"]
def b_need : MS := (sIf (mNot (mTest (mVar 0))) sNever
  sNil)
def m_need : List PyData → Option PyData := runD N_need b_need
def rb_need : Mr Str := (rIf (mNot (mTest (mVar 0))) (rK "NoText") rNo)
def r_need : List PyData → Option Str := runR N_need rb_need
abbrev N_mirrored : List Str := ["pen", "stroke", "word"]
def b_mirrored : MS := (sSeq (sIf (mTest (mBin pNe (mBin pIx (mVar 1) (mK (.int 0))) (mVar 2))) (sRet (mVar 0))
  sNil)
  (sRet (mCall m_moved (mCons (mVar 0) (mCons (mCall m_apart (mCons (mVar 0) (mCons (mBin pIx (mVar 1) (mUn pNeg (mK (.int 2)))) mNil))) mNil)))))
def m_mirrored : List PyData → Option PyData := runD N_mirrored b_mirrored
abbrev N_hundredths : List Str := ["number", "found"]
def b_hundredths : MS := (sSeq (sIf (mTest (mBin pNe (mBin pMod (mK c_HUNDRED) (mBin pIx (mVar 0) (mK (.int 1)))) (mK (.int 0)))) (sRet (mK .none))
  sNil)
  (sSeq (sSet 1 (mBin pMul (mBin pIx (mVar 0) (mK (.int 0))) (mBin pDiv (mK c_HUNDRED) (mBin pIx (mVar 0) (mK (.int 1))))))
  (sSeq (sIf (mTest (mBin pGe (mCall pAbs (mCons (mVar 1) mNil)) (mK c_BOUND))) (sRet (mK .none))
  sNil)
  (sRet (mVar 1)))))
def m_hundredths : List PyData → Option PyData := runD N_hundredths b_hundredths
abbrev N_plain_text : List Str := ["many", "sign", "text", "behind"]
def b_plain_text : MS := (sSeq (sSet 1 (mBin pMul (mK (.str "-")) (mCall pInt (mCons (mBin pLt (mVar 0) (mK (.int 0))) mNil))))
  (sSeq (sSet 0 (mCall pAbs (mCons (mVar 0) mNil)))
  (sSeq (sSet 2 (mBin pAdd (mVar 1) (mCall pStr (mCons (mBin pDiv (mVar 0) (mK c_HUNDRED)) mNil))))
  (sSeq (sSet 3 (mBin pMod (mVar 0) (mK c_HUNDRED)))
  (sSeq (sIf (mTest (mBin pEq (mVar 3) (mK (.int 0)))) (sRet (mVar 2))
  sNil)
  (sSeq (sIf (mTest (mBin pEq (mBin pMod (mVar 3) (mK (.int 10))) (mK (.int 0)))) (sRet (mBin pAdd (mBin pAdd (mVar 2) (mK c_POINT)) (mCall pStr (mCons (mBin pDiv (mVar 3) (mK (.int 10))) mNil))))
  sNil)
  (sRet (mBin pAdd (mBin pAdd (mBin pAdd (mVar 2) (mK c_POINT)) (mCall pStr (mCons (mBin pDiv (mVar 3) (mK (.int 10))) mNil))) (mCall pStr (mCons (mBin pMod (mVar 3) (mK (.int 10))) mNil))))))))))
def m_plain_text : List PyData → Option PyData := runD N_plain_text b_plain_text
abbrev N_number_text : List Str := ["number", "many"]
def b_number_text : MS := (sSeq (sSet 1 (mCall m_hundredths (mCons (mVar 0) mNil)))
  (sSeq (sIf (mTest (mBin pIs (mVar 1) (mK .none))) sNever
  sNil)
  (sRet (mCall m_plain_text (mCons (mVar 1) mNil)))))
def m_number_text : List PyData → Option PyData := runD N_number_text b_number_text
def rb_number_text : Mr Str := (rSeq (sSet 1 (mCall m_hundredths (mCons (mVar 0) mNil)))
  (rIf (mTest (mBin pIs (mVar 1) (mK .none))) (rK "NoNumber") rNo))
def r_number_text : List PyData → Option Str := runR N_number_text rb_number_text
abbrev N_flat_numbers : List Str := ["points", "found", "right", "up"]
def b_flat_numbers : MS := (sSeq (sSetL 1 mNil)
  (sSeq (sFor (mItems (mVar 0)) (gT 2 (gs1 (gN 2) (gs1 (gN 3) gs0'))) (sExt 1 (mCons (mVar 2) (mCons (mVar 3) mNil))))
  (sRet (mVar 1))))
def m_flat_numbers : List PyData → Option PyData := runD N_flat_numbers b_flat_numbers
abbrev N_has_point : List Str := ["text"]
def b_has_point : MS := (sRet (mBin pIn (mK c_POINT) (mVar 0)))
def m_has_point : List PyData → Option PyData := runD N_has_point b_has_point
abbrev N__law_take_number : List Str := ["text", "at", "ahead", "figures", "sign", "after"]
def b__law_take_number : MS := (sSeq (sSet 1 (mCall pInt (mCons (mBin pEq (mSl (mVar 0) oNo (oAt (mK (.int 1)))) (mK (.str "-"))) mNil)))
  (sSeq (sSet 2 (mVar 1))
  (sSeq (sWhile (mTest (mBin pIn (mSl (mVar 0) (oAt (mVar 1)) (oAt (mBin pAdd (mVar 1) (mK (.int 1))))) (mCall pTuple (mCons (mK (.str "0123456789")) mNil)))) (sSet 1 (mBin pAdd (mVar 1) (mK (.int 1)))))
  (sSeq (sSet 3 (mSl (mVar 0) (oAt (mVar 2)) (oAt (mVar 1))))
  (sSeq (sSet 4 (mBin pSub (mK (.int 1)) (mBin pMul (mK (.int 2)) (mCall pInt (mCons (mBin pEq (mSl (mVar 0) oNo (oAt (mK (.int 1)))) (mK (.str "-"))) mNil)))))
  (sSeq (sIf (mTest (mBin pGt (mCall pLen (mCons (mVar 3) mNil)) (mK (.int 5)))) (sRet (mK .none))
  sNil)
  (sSeq (sIf (mTest (mBin pNe (mSl (mVar 0) (oAt (mVar 1)) (oAt (mBin pAdd (mVar 1) (mK (.int 1))))) (mK (.str ".")))) (sSeq (sIf (mTest (mBin pEq (mVar 3) (mK (.str "")))) (sRet (mK .none))
  sNil)
  (sRet (mTup (mCons (mCall m__law_fr (mCons (mBin pMul (mVar 4) (mCall pInt (mCons (mVar 3) mNil))) (mCons (mK (.int 1)) mNil))) (mCons (mSl (mVar 0) (oAt (mVar 1)) oNo) (mCons (mK (.bool false)) mNil))))))
  sNil)
  (sSeq (sSet 5 (mK (.str "")))
  (sSeq (sSet 1 (mBin pAdd (mVar 1) (mK (.int 1))))
  (sSeq (sWhile (mAnd (mTest (mBin pIn (mSl (mVar 0) (oAt (mVar 1)) (oAt (mBin pAdd (mVar 1) (mK (.int 1))))) (mCall pTuple (mCons (mK (.str "0123456789")) mNil)))) (mTest (mBin pLt (mCall pLen (mCons (mVar 5) mNil)) (mK (.int 2))))) (sSeq (sSet 5 (mBin pAdd (mVar 5) (mBin pIx (mVar 0) (mVar 1))))
  (sSet 1 (mBin pAdd (mVar 1) (mK (.int 1))))))
  (sSeq (sIf (mTest (mBin pEq (mVar 5) (mK (.str "")))) (sRet (mK .none))
  sNil)
  (sRet (mTup (mCons (mCall m__law_fr (mCons (mBin pMul (mVar 4) (mCall pInt (mCons (mBin pAdd (mVar 3) (mSl (mBin pAdd (mVar 5) (mK (.str "0"))) oNo (oAt (mK (.int 2))))) mNil))) (mCons (mK (.int 100)) mNil))) (mCons (mSl (mVar 0) (oAt (mVar 1)) oNo) (mCons (mK (.bool true)) mNil))))))))))))))))
def m__law_take_number : List PyData → Option PyData := runD N__law_take_number b__law_take_number
abbrev N__law_changed : List Str := ["text", "number", "at", "sign", "kind"]
def b__law_changed : MS := (sSeq (sSet 2 (mBin pMod (mBin pDiv (mVar 1) (mK (.int 8))) (mBin pAdd (mCall pLen (mCons (mVar 0) mNil)) (mK (.int 1)))))
  (sSeq (sSet 3 (mBin pIx (mK (.str "0123456789-. ,MLHVQTCSZmlhvqtcszAe+")) (mBin pMod (mBin pDiv (mVar 1) (mK (.int 4096))) (mK (.int 35)))))
  (sSeq (sSet 4 (mBin pMod (mVar 1) (mK (.int 5))))
  (sSeq (sIf (mTest (mBin pEq (mVar 4) (mK (.int 0)))) (sRet (mBin pAdd (mSl (mVar 0) oNo (oAt (mVar 2))) (mSl (mVar 0) (oAt (mBin pAdd (mVar 2) (mK (.int 1)))) oNo)))
  sNil)
  (sSeq (sIf (mTest (mBin pEq (mVar 4) (mK (.int 1)))) (sRet (mBin pAdd (mBin pAdd (mSl (mVar 0) oNo (oAt (mVar 2))) (mSl (mVar 0) (oAt (mVar 2)) (oAt (mBin pAdd (mVar 2) (mK (.int 1)))))) (mSl (mVar 0) (oAt (mVar 2)) oNo)))
  sNil)
  (sSeq (sIf (mTest (mBin pEq (mVar 4) (mK (.int 2)))) (sRet (mBin pAdd (mBin pAdd (mSl (mVar 0) oNo (oAt (mVar 2))) (mVar 3)) (mSl (mVar 0) (oAt (mBin pAdd (mVar 2) (mK (.int 1)))) oNo)))
  sNil)
  (sSeq (sIf (mTest (mBin pEq (mVar 4) (mK (.int 3)))) (sRet (mBin pAdd (mBin pAdd (mSl (mVar 0) oNo (oAt (mVar 2))) (mVar 3)) (mSl (mVar 0) (oAt (mVar 2)) oNo)))
  sNil)
  (sRet (mBin pAdd (mBin pAdd (mSl (mVar 0) oNo (oAt (mVar 2))) (mUn pRev (mSl (mVar 0) (oAt (mVar 2)) (oAt (mBin pAdd (mVar 2) (mK (.int 2))))))) (mSl (mVar 0) (oAt (mBin pAdd (mVar 2) (mK (.int 2)))) oNo))))))))))
def m__law_changed : List PyData → Option PyData := runD N__law_changed b__law_changed
abbrev N_times : List Str := ["one", "other"]
def b_times : MS := (sRet (mCall m_fraction (mCons (mBin pMul (mBin pIx (mVar 0) (mK (.int 0))) (mBin pIx (mVar 1) (mK (.int 0)))) (mCons (mBin pMul (mBin pIx (mVar 0) (mK (.int 1))) (mBin pIx (mVar 1) (mK (.int 1)))) mNil))))
def m_times : List PyData → Option PyData := runD N_times b_times
abbrev N_led : List Str := ["point", "by", "a", "b", "c", "d", "e", "f", "right", "up", "first"]
def b_led : MS := (sSeq (sAsg (mVar 1) (gT 6 (gs1 (gN 2) (gs1 (gN 3) (gs1 (gN 4) (gs1 (gN 5) (gs1 (gN 6) (gs1 (gN 7) gs0'))))))))
  (sSeq (sAsg (mVar 0) (gT 2 (gs1 (gN 8) (gs1 (gN 9) gs0'))))
  (sSeq (sSet 10 (mCall m_plus (mCons (mCall m_plus (mCons (mCall m_times (mCons (mVar 2) (mCons (mVar 8) mNil))) (mCons (mCall m_times (mCons (mVar 4) (mCons (mVar 9) mNil))) mNil))) (mCons (mVar 6) mNil))))
  (sRet (mTup (mCons (mVar 10) (mCons (mCall m_plus (mCons (mCall m_plus (mCons (mCall m_times (mCons (mVar 3) (mCons (mVar 8) mNil))) (mCons (mCall m_times (mCons (mVar 5) (mCons (mVar 9) mNil))) mNil))) (mCons (mVar 7) mNil))) mNil)))))))
def m_led : List PyData → Option PyData := runD N_led b_led
abbrev N_mapped : List Str := ["way", "by", "stroke", "point"]
def b_mapped : MS := (sRet (mCall pTuple (mCons (mLst (mLc (mItems (mVar 0)) (gN 2) tYesM (mBin pAdd (mSl (mVar 2) oNo (oAt (mK (.int 1)))) (mCall pTuple (mCons (mLst (mLc (mItems (mSl (mVar 2) (oAt (mK (.int 1))) oNo)) (gN 3) tYesM (mCall m_led (mCons (mVar 3) (mCons (mVar 1) mNil))) [3])) mNil))) [2])) mNil)))
def m_mapped : List PyData → Option PyData := runD N_mapped b_mapped
abbrev N_joined : List Str := ["one", "other"]
def b_joined : MS := (sRet (mBin pAdd (mVar 0) (mVar 1)))
def m_joined : List PyData → Option PyData := runD N_joined b_joined
abbrev N_scaled : List Str := ["number", "point"]
def b_scaled : MS := (sRet (mTup (mCons (mCall m_times (mCons (mVar 0) (mCons (mBin pIx (mVar 1) (mK (.int 0))) mNil))) (mCons (mCall m_times (mCons (mVar 0) (mCons (mBin pIx (mVar 1) (mK (.int 1))) mNil))) mNil))))
def m_scaled : List PyData → Option PyData := runD N_scaled b_scaled
abbrev N_between : List Str := ["point", "other", "t"]
def b_between : MS := (sRet (mCall m_moved (mCons (mVar 0) (mCons (mCall m_scaled (mCons (mVar 2) (mCons (mCall m_apart (mCons (mVar 1) (mCons (mVar 0) mNil))) mNil))) mNil))))
def m_between : List PyData → Option PyData := runD N_between b_between
abbrev N_corner_points : List Str := ["way", "number", "stroke", "here"]
def b_corner_points : MS := (sSeq (sSet 2 (mBin pIx (mVar 0) (mVar 1)))
  (sSeq (sIf (mTest (mBin pEq (mBin pIx (mVar 2) (mK (.int 0))) (mK c_MOVE))) (sRet (mTup (mCons (mBin pIx (mVar 2) (mK (.int 1))) mNil)))
  sNil)
  (sSeq (sSet 3 (mBin pIx (mCall m_pens (mCons (mVar 0) mNil)) (mVar 1)))
  (sSeq (sIf (mTest (mBin pEq (mBin pIx (mVar 2) (mK (.int 0))) (mK c_SHUT))) (sRet (mTup (mCons (mVar 3) (mCons (mBin pIx (mCall m_begins (mCons (mVar 0) mNil)) (mVar 1)) mNil))))
  sNil)
  (sRet (mBin pAdd (mTup (mCons (mVar 3) mNil)) (mSl (mVar 2) (oAt (mK (.int 1))) oNo)))))))
def m_corner_points : List PyData → Option PyData := runD N_corner_points b_corner_points
abbrev N_halved : List Str := ["some", "t", "one", "other"]
def b_halved : MS := (sRet (mCall pTuple (mCons (mLst (mLc (mIt pZip (mCons (mSl (mVar 0) oNo (oAt (mUn pNeg (mK (.int 1))))) (mCons (mSl (mVar 0) (oAt (mK (.int 1))) oNo) mNil))) (gT 2 (gs1 (gN 2) (gs1 (gN 3) gs0'))) tYesM (mCall m_between (mCons (mVar 2) (mCons (mVar 3) (mCons (mVar 1) mNil)))) [2, 3])) mNil)))
def m_halved : List PyData → Option PyData := runD N_halved b_halved
abbrev N_point_of : List Str := ["some", "t"]
def b_point_of : MS := (sSeq (sWhile (mTest (mBin pGt (mCall pLen (mCons (mVar 0) mNil)) (mK (.int 1)))) (sSet 0 (mCall m_halved (mCons (mVar 0) (mCons (mVar 1) mNil)))))
  (sRet (mBin pIx (mVar 0) (mK (.int 0)))))
def m_point_of : List PyData → Option PyData := runD N_point_of b_point_of
abbrev N_must_be : List Str := ["way", "number"]
def b_must_be : MS := (sIf (mNot (mTest (mChain pLe pLt (mK (.int 0)) (mVar 1) (mCall pLen (mCons (mVar 0) mNil))))) sNever
  sNil)
def m_must_be : List PyData → Option PyData := runD N_must_be b_must_be
def rb_must_be : Mr Str := (rIf (mNot (mTest (mChain pLe pLt (mK (.int 0)) (mVar 1) (mCall pLen (mCons (mVar 0) mNil))))) (rK "NoStroke") rNo)
def r_must_be : List PyData → Option Str := runR N_must_be rb_must_be
abbrev N_spot : List Str := ["way", "number", "t"]
def b_spot : MS := (sSeq (sDrop (mCall m_must_be (mCons (mVar 0) (mCons (mVar 1) mNil))))
  (sRet (mCall m_point_of (mCons (mCall m_corner_points (mCons (mVar 0) (mCons (mVar 1) mNil))) (mCons (mVar 2) mNil)))))
def m_spot : List PyData → Option PyData := runD N_spot b_spot
def rb_spot : Mr Str := (mCall r_must_be (mCons (mVar 0) (mCons (mVar 1) mNil)))
def r_spot : List PyData → Option Str := runR N_spot rb_spot
abbrev N_split : List Str := ["way", "number", "t", "stroke", "some", "first", "second"]
def b_split : MS := (sSeq (sDrop (mCall m_must_be (mCons (mVar 0) (mCons (mVar 1) mNil))))
  (sSeq (sSet 3 (mBin pIx (mVar 0) (mVar 1)))
  (sSeq (sIf (mTest (mBin pEq (mBin pIx (mVar 3) (mK (.int 0))) (mK c_MOVE))) sNever
  sNil)
  (sSeq (sSet 4 (mCall m_corner_points (mCons (mVar 0) (mCons (mVar 1) mNil))))
  (sSeq (sSet 5 (mTup mNil))
  (sSeq (sSet 6 (mTup mNil))
  (sSeq (sWhile (mTest (mBin pGt (mCall pLen (mCons (mVar 4) mNil)) (mK (.int 1)))) (sSeq (sSet 6 (mBin pAdd (mSl (mVar 4) (oAt (mUn pNeg (mK (.int 1)))) oNo) (mVar 6)))
  (sSeq (sSet 4 (mCall m_halved (mCons (mVar 4) (mCons (mVar 2) mNil))))
  (sSet 5 (mBin pAdd (mVar 5) (mSl (mVar 4) oNo (oAt (mK (.int 1)))))))))
  (sSeq (sIf (mTest (mBin pEq (mBin pIx (mVar 3) (mK (.int 0))) (mK c_SHUT))) (sRet (mBin pAdd (mBin pAdd (mSl (mVar 0) oNo (oAt (mVar 1))) (mTup (mCons (mBin pAdd (mTup (mCons (mK c_LINE) mNil)) (mVar 5)) (mCons (mVar 3) mNil)))) (mSl (mVar 0) (oAt (mBin pAdd (mVar 1) (mK (.int 1)))) oNo)))
  sNil)
  (sRet (mBin pAdd (mBin pAdd (mSl (mVar 0) oNo (oAt (mVar 1))) (mTup (mCons (mBin pAdd (mTup (mCons (mBin pIx (mVar 3) (mK (.int 0))) mNil)) (mVar 5)) (mCons (mBin pAdd (mTup (mCons (mBin pIx (mVar 3) (mK (.int 0))) mNil)) (mVar 6)) mNil)))) (mSl (mVar 0) (oAt (mBin pAdd (mVar 1) (mK (.int 1)))) oNo)))))))))))
def m_split : List PyData → Option PyData := runD N_split b_split
def rb_split : Mr Str := (rAlt (mCall r_must_be (mCons (mVar 0) (mCons (mVar 1) mNil))) (rSeq (sDrop (mCall m_must_be (mCons (mVar 0) (mCons (mVar 1) mNil))))
  (rSeq (sSet 3 (mBin pIx (mVar 0) (mVar 1)))
  (rIf (mTest (mBin pEq (mBin pIx (mVar 3) (mK (.int 0))) (mK c_MOVE))) (rK "NoStroke") rNo))))
def r_split : List PyData → Option Str := runR N_split rb_split
abbrev N__law_spot : List Str := ["way", "number", "t", "stroke", "pen", "some", "rest", "shares", "found", "k", "point", "weight", "turn"]
def b__law_spot : MS := (sSeq (sSet 3 (mBin pIx (mVar 0) (mVar 1)))
  (sSeq (sIf (mTest (mBin pEq (mBin pIx (mVar 3) (mK (.int 0))) (mK (.str "move")))) (sRet (mBin pIx (mVar 3) (mK (.int 1))))
  sNil)
  (sSeq (sSet 4 (mBin pIx (mCall m__law_pens (mCons (mVar 0) mNil)) (mVar 1)))
  (sSeq (sSetL 5 (mAddL (mLst (mCons (mVar 4) mNil)) (mLst (mCall pList (mCons (mSl (mVar 3) (oAt (mK (.int 1))) oNo) mNil)))))
  (sSeq (sIf (mTest (mBin pEq (mBin pIx (mVar 3) (mK (.int 0))) (mK (.str "shut")))) (sApp 5 (mBin pIx (mCall m__law_pens (mCons (mSl (mVar 0) oNo (oAt (mBin pAdd (mVar 1) (mK (.int 1))))) mNil)) (mUn pNeg (mK (.int 1)))))
  sNil)
  (sSeq (sSet 6 (mCall m__law_minus (mCons (mTup (mCons (mK (.int 1)) (mCons (mK (.int 1)) mNil))) (mCons (mVar 2) mNil))))
  (sSeq (sSet 7 (mDix [.inl 2, .inl 3, .inl 4] (mCons (mTup (mCons (mK (.int 1)) (mCons (mK (.int 1)) mNil))) (mCons (mTup (mCons (mK (.int 1)) (mCons (mK (.int 2)) (mCons (mK (.int 1)) mNil)))) (mCons (mTup (mCons (mK (.int 1)) (mCons (mK (.int 3)) (mCons (mK (.int 3)) (mCons (mK (.int 1)) mNil))))) mNil))) (mTmp 5 (mCall pLen (mCons (mVar 5) mNil)))))
  (sSeq (sSet 8 (mTup (mCons (mTup (mCons (mK (.int 0)) (mCons (mK (.int 1)) mNil))) (mCons (mTup (mCons (mK (.int 0)) (mCons (mK (.int 1)) mNil))) mNil))))
  (sSeq (sFrz 5 (sFor (mIt pEnum (mCons (mVar 5) mNil)) (gT 2 (gs1 (gN 9) (gs1 (gN 10) gs0'))) (sSeq (sSet 11 (mTup (mCons (mBin pIx (mVar 7) (mVar 9)) (mCons (mK (.int 1)) mNil))))
  (sSeq (sFor (mIt pRng1 (mCons (mVar 9) mNil)) (gN 12) (sSet 11 (mCall m__law_times (mCons (mVar 11) (mCons (mVar 2) mNil)))))
  (sSeq (sFor (mIt pRng1 (mCons (mBin pSub (mBin pSub (mCall pLen (mCons (mVar 5) mNil)) (mK (.int 1))) (mVar 9)) mNil)) (gN 12) (sSet 11 (mCall m__law_times (mCons (mVar 11) (mCons (mVar 6) mNil)))))
  (sSet 8 (mCall m__law_add (mCons (mVar 8) (mCons (mCall m__law_scale (mCons (mVar 11) (mCons (mVar 10) mNil))) mNil)))))))))
  (sRet (mVar 8)))))))))))
def m__law_spot : List PyData → Option PyData := runD N__law_spot b__law_spot
abbrev N_law_k20 : List Str := ["script", "way", "lower", "t", "number", "due", "got"]
def b_law_k20 : MS := (sSeq (sSet 1 (mCall m__law_way (mCons (mCall m__law_mixed (mCons (mVar 0) (mCons (mK (.int 0)) mNil))) (mCons (mK (.int 8)) mNil))))
  (sSeq (sSet 2 (mBin pAdd (mK (.int 1)) (mBin pMod (mCall m__law_mixed (mCons (mVar 0) (mCons (mK (.int 1)) mNil))) (mK (.int 12)))))
  (sSeq (sSet 3 (mCall m__law_fr (mCons (mBin pMod (mCall m__law_mixed (mCons (mVar 0) (mCons (mK (.int 2)) mNil))) (mBin pAdd (mVar 2) (mK (.int 1)))) (mCons (mVar 2) mNil))))
  (sSeq (sFor (mIt pRng2 (mCons (mUn pNeg (mK (.int 1))) (mCons (mBin pAdd (mCall pLen (mCons (mVar 1) mNil)) (mK (.int 1))) mNil))) (gN 4) (sSeq (sSet 5 (mTup (mCons (mK (.str "refused")) (mCons (mK (.int 2)) mNil))))
  (sSeq (sIf (mTest (mChain pLe pLt (mK (.int 0)) (mVar 4) (mCall pLen (mCons (mVar 1) mNil)))) (sSet 5 (mTup (mCons (mK (.str "told")) (mCons (mCall m__law_spot (mCons (mVar 1) (mCons (mVar 4) (mCons (mVar 3) mNil)))) mNil))))
  sNil)
  (sSeq (sIf (mTest (mBin pNe (mTold (ixOne "NoStroke" 2) (mCall m_spot (mCons (mVar 1) (mCons (mVar 4) (mCons (mVar 3) mNil)))) (mCall r_spot (mCons (mVar 1) (mCons (mVar 4) (mCons (mVar 3) mNil))))) (mVar 5))) (sRet (mK (.bool false)))
  sNil)
  (sSeq (sSet 6 (mTold (ixOne "NoStroke" 2) (mCall m_split (mCons (mVar 1) (mCons (mVar 4) (mCons (mVar 3) mNil)))) (mCall r_split (mCons (mVar 1) (mCons (mVar 4) (mCons (mVar 3) mNil))))))
  (sIf (mOr (mTest (mBin pEq (mBin pIx (mVar 5) (mK (.int 0))) (mK (.str "refused")))) (mTest (mBin pEq (mBin pIx (mBin pIx (mVar 1) (mVar 4)) (mK (.int 0))) (mK (.str "move"))))) (sIf (mTest (mBin pNe (mVar 6) (mTup (mCons (mK (.str "refused")) (mCons (mK (.int 2)) mNil))))) (sRet (mK (.bool false)))
  sNil)
  (sIf (mOr (mTest (mBin pNe (mBin pIx (mVar 6) (mK (.int 0))) (mK (.str "told")))) (mOr (mTest (mBin pNe (mCall pLen (mCons (mBin pIx (mVar 6) (mK (.int 1))) mNil)) (mBin pAdd (mCall pLen (mCons (mVar 1) mNil)) (mK (.int 1))))) (mTest (mBin pNe (mBin pIx (mBin pIx (mBin pIx (mVar 6) (mK (.int 1))) (mVar 4)) (mUn pNeg (mK (.int 1)))) (mBin pIx (mVar 5) (mK (.int 1))))))) (sRet (mK (.bool false)))
  sNil)))))))
  (sRet (mK (.bool true)))))))
def m_law_k20 : List PyData → Option PyData := runD N_law_k20 b_law_k20
abbrev N_is_less : List Str := ["one", "other"]
def b_is_less : MS := (sRet (mBin pLt (mBin pMul (mBin pIx (mVar 0) (mK (.int 0))) (mBin pIx (mVar 1) (mK (.int 1)))) (mBin pMul (mBin pIx (mVar 1) (mK (.int 0))) (mBin pIx (mVar 0) (mK (.int 1))))))
def m_is_less : List PyData → Option PyData := runD N_is_less b_is_less
abbrev N_cross : List Str := ["point", "other"]
def b_cross : MS := (sRet (mCall m_minus (mCons (mCall m_times (mCons (mBin pIx (mVar 0) (mK (.int 0))) (mCons (mBin pIx (mVar 1) (mK (.int 1))) mNil))) (mCons (mCall m_times (mCons (mBin pIx (mVar 0) (mK (.int 1))) (mCons (mBin pIx (mVar 1) (mK (.int 0))) mNil))) mNil))))
def m_cross : List PyData → Option PyData := runD N_cross b_cross
abbrev N_least_of : List Str := ["some", "found", "one"]
def b_least_of : MS := (sSeq (sSet 1 (mBin pIx (mVar 0) (mK (.int 0))))
  (sSeq (sFor (mItems (mVar 0)) (gN 2) (sIf (mTest (mCall m_is_less (mCons (mVar 2) (mCons (mVar 1) mNil)))) (sSet 1 (mVar 2))
  sNil))
  (sRet (mVar 1))))
def m_least_of : List PyData → Option PyData := runD N_least_of b_least_of
abbrev N_greatest_of : List Str := ["some", "found", "one"]
def b_greatest_of : MS := (sSeq (sSet 1 (mBin pIx (mVar 0) (mK (.int 0))))
  (sSeq (sFor (mItems (mVar 0)) (gN 2) (sIf (mTest (mCall m_is_less (mCons (mVar 1) (mCons (mVar 2) mNil)))) (sSet 1 (mVar 2))
  sNil))
  (sRet (mVar 1))))
def m_greatest_of : List PyData → Option PyData := runD N_greatest_of b_greatest_of
abbrev N_box_of : List Str := ["points", "rights", "ups", "point"]
def b_box_of : MS := (sSeq (sIf (mTest (mBin pEq (mCall pLen (mCons (mVar 0) mNil)) (mK (.int 0)))) (sRet (mK .none))
  sNil)
  (sSeq (sSetC false 1 (mLc (mItems (mVar 0)) (gN 3) tYesM (mBin pIx (mVar 3) (mK (.int 0))) [3]))
  (sSeq (sSetC false 2 (mLc (mItems (mVar 0)) (gN 3) tYesM (mBin pIx (mVar 3) (mK (.int 1))) [3]))
  (sRet (mTup (mCons (mTup (mCons (mCall m_least_of (mCons (mVar 1) mNil)) (mCons (mCall m_least_of (mCons (mVar 2) mNil)) mNil))) (mCons (mTup (mCons (mCall m_greatest_of (mCons (mVar 1) mNil)) (mCons (mCall m_greatest_of (mCons (mVar 2) mNil)) mNil))) mNil)))))))
def m_box_of : List PyData → Option PyData := runD N_box_of b_box_of
abbrev N_hull_box : List Str := ["way", "points", "stroke"]
def b_hull_box : MS := (sSeq (sSetL 1 mNil)
  (sSeq (sFor (mItems (mVar 0)) (gN 2) (sExt 1 (mCall pList (mCons (mSl (mVar 2) (oAt (mK (.int 1))) oNo) mNil))))
  (sRet (mCall m_box_of (mCons (mVar 1) mNil)))))
def m_hull_box : List PyData → Option PyData := runD N_hull_box b_hull_box
abbrev N_swept : List Str := ["some", "pen", "goal", "whole", "first", "second", "six", "three"]
def b_swept : MS := (sSeq (sSet 1 (mBin pIx (mVar 0) (mK (.int 0))))
  (sSeq (sSet 2 (mBin pIx (mVar 0) (mUn pNeg (mK (.int 1)))))
  (sSeq (sIf (mTest (mBin pEq (mCall pLen (mCons (mVar 0) mNil)) (mK (.int 3)))) (sSeq (sSet 3 (mCall m_plus (mCons (mCall m_times (mCons (mTup (mCons (mK (.int 2)) (mCons (mK (.int 1)) mNil))) (mCons (mCall m_plus (mCons (mCall m_cross (mCons (mVar 1) (mCons (mBin pIx (mVar 0) (mK (.int 1))) mNil))) (mCons (mCall m_cross (mCons (mBin pIx (mVar 0) (mK (.int 1))) (mCons (mVar 2) mNil))) mNil))) mNil))) (mCons (mCall m_cross (mCons (mVar 1) (mCons (mVar 2) mNil))) mNil))))
  (sRet (mCall m_times (mCons (mVar 3) (mCons (mTup (mCons (mK (.int 1)) (mCons (mK (.int 6)) mNil))) mNil)))))
  sNil)
  (sSeq (sIf (mTest (mBin pEq (mCall pLen (mCons (mVar 0) mNil)) (mK (.int 4)))) (sSeq (sAsg (mSl (mVar 0) (oAt (mK (.int 1))) (oAt (mK (.int 3)))) (gT 2 (gs1 (gN 4) (gs1 (gN 5) gs0'))))
  (sSeq (sSet 6 (mCall m_plus (mCons (mCall m_cross (mCons (mVar 1) (mCons (mVar 4) mNil))) (mCons (mCall m_cross (mCons (mVar 5) (mCons (mVar 2) mNil))) mNil))))
  (sSeq (sSet 7 (mCall m_plus (mCons (mCall m_plus (mCons (mCall m_cross (mCons (mVar 1) (mCons (mVar 5) mNil))) (mCons (mCall m_cross (mCons (mVar 4) (mCons (mVar 5) mNil))) mNil))) (mCons (mCall m_cross (mCons (mVar 4) (mCons (mVar 2) mNil))) mNil))))
  (sSeq (sSet 3 (mCall m_plus (mCons (mCall m_plus (mCons (mCall m_times (mCons (mTup (mCons (mK (.int 6)) (mCons (mK (.int 1)) mNil))) (mCons (mVar 6) mNil))) (mCons (mCall m_times (mCons (mTup (mCons (mK (.int 3)) (mCons (mK (.int 1)) mNil))) (mCons (mVar 7) mNil))) mNil))) (mCons (mCall m_cross (mCons (mVar 1) (mCons (mVar 2) mNil))) mNil))))
  (sRet (mCall m_times (mCons (mVar 3) (mCons (mTup (mCons (mK (.int 1)) (mCons (mK (.int 20)) mNil))) mNil))))))))
  sNil)
  (sRet (mCall m_times (mCons (mCall m_cross (mCons (mVar 1) (mCons (mVar 2) mNil))) (mCons (mTup (mCons (mK (.int 1)) (mCons (mK (.int 2)) mNil))) mNil))))))))
def m_swept : List PyData → Option PyData := runD N_swept b_swept
abbrev N_closed_lines : List Str := ["part", "found", "number"]
def b_closed_lines : MS := (sSeq (sSetC false 1 (mLc (mIt pRng2 (mCons (mK (.int 1)) (mCons (mCall pLen (mCons (mVar 0) mNil)) mNil))) (gN 2) tYesM (mCall m_corner_points (mCons (mVar 0) (mCons (mVar 2) mNil))) [2]))
  (sRet (mBin pAdd (mVar 1) (mLst (mCons (mTup (mCons (mBin pIx (mCall m_pens (mCons (mVar 0) mNil)) (mUn pNeg (mK (.int 1)))) (mCons (mBin pIx (mBin pIx (mVar 0) (mK (.int 0))) (mK (.int 1))) mNil))) mNil)))))
def m_closed_lines : List PyData → Option PyData := runD N_closed_lines b_closed_lines
abbrev N_area : List Str := ["way", "whole", "part", "some"]
def b_area : MS := (sSeq (sSet 1 (mK c_NONE))
  (sSeq (sFor (mItems (mCall m_parts (mCons (mVar 0) mNil))) (gN 2) (sFor (mItems (mCall m_closed_lines (mCons (mVar 2) mNil))) (gN 3) (sSet 1 (mCall m_plus (mCons (mVar 1) (mCons (mCall m_swept (mCons (mVar 3) mNil)) mNil))))))
  (sRet (mVar 1))))
def m_area : List PyData → Option PyData := runD N_area b_area
abbrev N_law_k21 : List Str := ["script", "way", "drawn", "number", "lower", "t", "new", "kinds", "due", "k", "s", "later", "stroke"]
def b_law_k21 : MS := (sSeq (sSet 1 (mCall m__law_way (mCons (mCall m__law_mixed (mCons (mVar 0) (mCons (mK (.int 0)) mNil))) (mCons (mK (.int 8)) mNil))))
  (sSeq (sSetC false 2 (mLc (mIt pEnum (mCons (mVar 1) mNil)) (gT 2 (gs1 (gN 3) (gs1 (gN 12) gs0'))) (mTest (mBin pNe (mBin pIx (mVar 12) (mK (.int 0))) (mK (.str "move")))) (mVar 3) [3, 12]))
  (sSeq (sIf (mTest (mBin pEq (mVar 2) (mLst mNil))) (sRet (mK (.bool true)))
  sNil)
  (sSeq (sSet 3 (mBin pIx (mVar 2) (mBin pMod (mCall m__law_mixed (mCons (mVar 0) (mCons (mK (.int 1)) mNil))) (mCall pLen (mCons (mVar 2) mNil)))))
  (sSeq (sSet 4 (mBin pAdd (mK (.int 1)) (mBin pMod (mCall m__law_mixed (mCons (mVar 0) (mCons (mK (.int 2)) mNil))) (mK (.int 9)))))
  (sSeq (sSet 5 (mCall m__law_fr (mCons (mBin pMod (mCall m__law_mixed (mCons (mVar 0) (mCons (mK (.int 3)) mNil))) (mBin pAdd (mVar 4) (mK (.int 1)))) (mCons (mVar 4) mNil))))
  (sSeq (sSet 6 (mCall m_split (mCons (mVar 1) (mCons (mVar 3) (mCons (mVar 5) mNil)))))
  (sSeq (sSetC false 7 (mLc (mItems (mSl (mVar 6) (oAt (mVar 3)) (oAt (mBin pAdd (mVar 3) (mK (.int 2)))))) (gN 12) tYesM (mBin pIx (mVar 12) (mK (.int 0))) [12]))
  (sSeq (sSet 8 (mLst (mCons (mBin pIx (mBin pIx (mVar 1) (mVar 3)) (mK (.int 0))) (mCons (mBin pIx (mBin pIx (mVar 1) (mVar 3)) (mK (.int 0))) mNil))))
  (sSeq (sIf (mTest (mBin pEq (mBin pIx (mBin pIx (mVar 1) (mVar 3)) (mK (.int 0))) (mK (.str "shut")))) (sSet 8 (mLst (mCons (mK (.str "line")) (mCons (mK (.str "shut")) mNil))))
  sNil)
  (sSeq (sIf (mOr (mTest (mBin pNe (mVar 7) (mVar 8))) (mOr (mTest (mBin pNe (mSl (mVar 6) oNo (oAt (mVar 3))) (mSl (mVar 1) oNo (oAt (mVar 3))))) (mTest (mBin pNe (mSl (mVar 6) (oAt (mBin pAdd (mVar 3) (mK (.int 2)))) oNo) (mSl (mVar 1) (oAt (mBin pAdd (mVar 3) (mK (.int 1)))) oNo))))) (sRet (mK (.bool false)))
  sNil)
  (sSeq (sIf (mOr (mTest (mBin pNe (mBin pIx (mCall m_pens (mCons (mVar 6) mNil)) (mBin pAdd (mVar 3) (mK (.int 1)))) (mCall m_spot (mCons (mVar 1) (mCons (mVar 3) (mCons (mVar 5) mNil)))))) (mTest (mBin pNe (mBin pIx (mCall m_pens (mCons (mVar 6) mNil)) (mUn pNeg (mK (.int 1)))) (mBin pIx (mCall m_pens (mCons (mVar 1) mNil)) (mUn pNeg (mK (.int 1))))))) (sRet (mK (.bool false)))
  sNil)
  (sSeq (sFor (mIt pRng1 (mCons (mK (.int 4)) mNil)) (gN 9) (sSeq (sSet 10 (mCall m__law_fr (mCons (mBin pMod (mCall m__law_mixed (mCons (mVar 0) (mCons (mBin pAdd (mK (.int 4)) (mVar 9)) mNil))) (mK (.int 8))) (mCons (mK (.int 7)) mNil))))
  (sSeq (sIf (mTest (mBin pNe (mCall m_spot (mCons (mVar 6) (mCons (mVar 3) (mCons (mVar 10) mNil)))) (mCall m_spot (mCons (mVar 1) (mCons (mVar 3) (mCons (mCall m__law_times (mCons (mVar 10) (mCons (mVar 5) mNil))) mNil)))))) (sRet (mK (.bool false)))
  sNil)
  (sSeq (sSet 11 (mCall m__law_plus (mCons (mVar 5) (mCons (mCall m__law_times (mCons (mVar 10) (mCons (mCall m__law_minus (mCons (mTup (mCons (mK (.int 1)) (mCons (mK (.int 1)) mNil))) (mCons (mVar 5) mNil))) mNil))) mNil))))
  (sIf (mTest (mBin pNe (mCall m_spot (mCons (mVar 6) (mCons (mBin pAdd (mVar 3) (mK (.int 1))) (mCons (mVar 10) mNil)))) (mCall m_spot (mCons (mVar 1) (mCons (mVar 3) (mCons (mVar 11) mNil)))))) (sRet (mK (.bool false)))
  sNil)))))
  (sRet (mAndV (mBin pEq (mCall m_area (mCons (mVar 6) mNil)) (mCall m_area (mCons (mVar 1) mNil))) (mBin pEq (mBin pIs (mCall m_hull_box (mCons (mVar 6) mNil)) (mK .none)) (mBin pIs (mCall m_hull_box (mCons (mVar 1) mNil)) (mK .none))))))))))))))))))
def m_law_k21 : List PyData → Option PyData := runD N_law_k21 b_law_k21
abbrev N_plainer : List Str := ["stroke", "pen", "first"]
def b_plainer : MS := (sSeq (sIf (mTest (mBin pEq (mBin pIx (mVar 0) (mK (.int 0))) (mK c_WAVE))) (sSeq (sSet 2 (mCall m_apart (mCons (mCall m_scaled (mCons (mK c_THREE) (mCons (mBin pIx (mVar 0) (mK (.int 1))) mNil))) (mCons (mVar 1) mNil))))
  (sIf (mTest (mBin pEq (mVar 2) (mCall m_apart (mCons (mCall m_scaled (mCons (mK c_THREE) (mCons (mBin pIx (mVar 0) (mK (.int 2))) mNil))) (mCons (mBin pIx (mVar 0) (mK (.int 3))) mNil))))) (sSet 0 (mTup (mCons (mK c_BOW) (mCons (mCall m_scaled (mCons (mK c_HALF) (mCons (mVar 2) mNil))) (mCons (mBin pIx (mVar 0) (mK (.int 3))) mNil)))))
  sNil))
  sNil)
  (sSeq (sIf (mAnd (mTest (mBin pEq (mBin pIx (mVar 0) (mK (.int 0))) (mK c_BOW))) (mTest (mBin pEq (mBin pIx (mVar 0) (mK (.int 1))) (mCall m_between (mCons (mVar 1) (mCons (mBin pIx (mVar 0) (mK (.int 2))) (mCons (mK c_HALF) mNil))))))) (sSet 0 (mTup (mCons (mK c_LINE) (mCons (mBin pIx (mVar 0) (mK (.int 2))) mNil))))
  sNil)
  (sRet (mVar 0))))
def m_plainer : List PyData → Option PyData := runD N_plainer b_plainer
abbrev N_goes_on : List Str := ["pen", "middle", "goal", "one", "other", "along"]
def b_goes_on : MS := (sSeq (sSet 3 (mCall m_apart (mCons (mVar 1) (mCons (mVar 0) mNil))))
  (sSeq (sSet 4 (mCall m_apart (mCons (mVar 2) (mCons (mVar 1) mNil))))
  (sSeq (sSet 5 (mCall m_plus (mCons (mCall m_times (mCons (mBin pIx (mVar 3) (mK (.int 0))) (mCons (mBin pIx (mVar 4) (mK (.int 0))) mNil))) (mCons (mCall m_times (mCons (mBin pIx (mVar 3) (mK (.int 1))) (mCons (mBin pIx (mVar 4) (mK (.int 1))) mNil))) mNil))))
  (sRet (mAndV (mBin pEq (mCall m_cross (mCons (mVar 3) (mCons (mVar 4) mNil))) (mK c_NONE)) (mCall m_is_less (mCons (mK c_NONE) (mCons (mVar 5) mNil))))))))
def m_goes_on : List PyData → Option PyData := runD N_goes_on b_goes_on
abbrev N_formed : List Str := ["part", "found", "stroke", "pen", "ahead"]
def b_formed : MS := (sSeq (sSetL 1 mNil)
  (sSeq (sFor (mItems (mSl (mLst (mLi (mIt pZip (mCons (mVar 0) (mCons (mCall m_pens (mCons (mVar 0) mNil)) mNil))))) (oAt (mK (.int 1))) oNo)) (gT 2 (gs1 (gN 2) (gs1 (gN 3) gs0'))) (sSeq (sSet 2 (mCall m_plainer (mCons (mVar 2) (mCons (mVar 3) mNil))))
  (sIf (mTest (mBin pNe (mVar 2) (mTup (mCons (mK c_LINE) (mCons (mVar 3) mNil))))) (sSeq (sSet 4 (mTup (mCons (mK .none) (mCons (mK .none) mNil))))
  (sSeq (sIf (tTmp 1 (mTest (mBin pGt (mCall pLen (mCons (mVar 1) mNil)) (mK (.int 0))))) (sSet 4 (mIxO 1 (mUn pNeg (mK (.int 1)))))
  sNil)
  (sSeq (sIf (mAnd (mTest (mBin pEq (mBin pIx (mVar 2) (mK (.int 0))) (mK c_LINE))) (mAnd (mTest (mBin pIsNot (mBin pIx (mVar 4) (mK (.int 0))) (mK .none))) (mTest (mBin pEq (mBin pIx (mBin pIx (mVar 4) (mK (.int 0))) (mK (.int 0))) (mK c_LINE))))) (sIf (mTest (mCall m_goes_on (mCons (mBin pIx (mVar 4) (mK (.int 1))) (mCons (mVar 3) (mCons (mBin pIx (mVar 2) (mK (.int 1))) mNil))))) (sSeq (sSet 3 (mBin pIx (mVar 4) (mK (.int 1))))
  (sPop 1))
  sNil)
  sNil)
  (sApp 1 (mTup (mCons (mVar 2) (mCons (mVar 3) mNil)))))))
  sNil)))
  (sRet (mLst (mLc (mItems (mVar 1)) (gT 2 (gs1 (gN 2) (gs1 (gN 3) gs0'))) tYesM (mVar 2) [2, 3])))))
def m_formed : List PyData → Option PyData := runD N_formed b_formed
abbrev N_is_closed_by_shut : List Str := ["part", "begin", "goal"]
def b_is_closed_by_shut : MS := (sSeq (sIf (mOr (mTest (mBin pNe (mBin pIx (mBin pIx (mVar 0) (mUn pNeg (mK (.int 1)))) (mK (.int 0))) (mK c_SHUT))) (mTest (mBin pNe (mBin pIx (mBin pIx (mVar 0) (mUn pNeg (mK (.int 2)))) (mK (.int 0))) (mK c_LINE)))) (sRet (mK (.bool false)))
  sNil)
  (sSeq (sSet 1 (mBin pIx (mBin pIx (mVar 0) (mK (.int 0))) (mK (.int 1))))
  (sSeq (sSet 2 (mBin pIx (mBin pIx (mVar 0) (mUn pNeg (mK (.int 2)))) (mK (.int 1))))
  (sRet (mOrV (mBin pEq (mVar 2) (mVar 1)) (mCall m_goes_on (mCons (mBin pIx (mCall m_pens (mCons (mVar 0) mNil)) (mUn pNeg (mK (.int 3)))) (mCons (mVar 2) (mCons (mVar 1) mNil)))))))))
def m_is_closed_by_shut : List PyData → Option PyData := runD N_is_closed_by_shut b_is_closed_by_shut
abbrev N_form_of_part : List Str := ["part", "some"]
def b_form_of_part : MS := (sSeq (sSet 1 (mCall m_formed (mCons (mVar 0) mNil)))
  (sSeq (sWhile (mTest (mCall m_is_closed_by_shut (mCons (mBin pAdd (mSl (mVar 0) oNo (oAt (mK (.int 1)))) (mCall pTuple (mCons (mVar 1) mNil))) mNil))) (sSet 1 (mBin pAdd (mSl (mVar 1) oNo (oAt (mUn pNeg (mK (.int 2))))) (mSl (mVar 1) (oAt (mUn pNeg (mK (.int 1)))) oNo))))
  (sSeq (sIf (mTest (mBin pIn (mVar 1) (mTup (mCons (mLst mNil) (mCons (mLst (mCons (mTup (mCons (mK c_SHUT) mNil)) mNil)) mNil))))) (sRet (mTup mNil))
  sNil)
  (sRet (mBin pAdd (mSl (mVar 0) oNo (oAt (mK (.int 1)))) (mCall pTuple (mCons (mVar 1) mNil)))))))
def m_form_of_part : List PyData → Option PyData := runD N_form_of_part b_form_of_part
abbrev N_form : List Str := ["way", "found", "part"]
def b_form : MS := (sSeq (sSet 1 (mTup mNil))
  (sSeq (sFor (mItems (mCall m_parts (mCons (mVar 0) mNil))) (gN 2) (sSet 1 (mBin pAdd (mVar 1) (mCall m_form_of_part (mCons (mVar 2) mNil)))))
  (sRet (mVar 1))))
def m_form : List PyData → Option PyData := runD N_form b_form
abbrev N_alike : List Str := ["one", "other"]
def b_alike : MS := (sRet (mBin pEq (mCall m_form (mCons (mVar 0) mNil)) (mCall m_form (mCons (mVar 1) mNil))))
def m_alike : List PyData → Option PyData := runD N_alike b_alike
abbrev N_backward_part : List Str := ["part", "places", "closed", "some", "begin", "found", "stroke", "pen"]
def b_backward_part : MS := (sSeq (sSet 1 (mCall m_pens (mCons (mVar 0) mNil)))
  (sSeq (sSet 2 (mBin pEq (mBin pIx (mBin pIx (mVar 0) (mUn pNeg (mK (.int 1)))) (mK (.int 0))) (mK c_SHUT)))
  (sSeq (sSet 3 (mSl (mLst (mLi (mIt pZip (mCons (mVar 0) (mCons (mVar 1) mNil))))) (oAt (mK (.int 1))) oNo))
  (sSeq (sSet 4 (mBin pIx (mVar 1) (mUn pNeg (mK (.int 1)))))
  (sSeq (sSet 5 (mTup (mCons (mTup (mCons (mK c_MOVE) (mCons (mVar 4) mNil))) mNil)))
  (sSeq (sIf (mTest (mVar 2)) (sSeq (sSet 5 (mBin pAdd (mVar 5) (mTup (mCons (mTup (mCons (mK c_LINE) (mCons (mBin pIx (mVar 1) (mUn pNeg (mK (.int 2)))) mNil))) mNil))))
  (sSet 3 (mSl (mVar 3) oNo (oAt (mUn pNeg (mK (.int 1)))))))
  sNil)
  (sSeq (sFor (mItems (mUn pRev (mVar 3))) (gT 2 (gs1 (gN 6) (gs1 (gN 7) gs0'))) (sSet 5 (mBin pAdd (mVar 5) (mTup (mCons (mBin pAdd (mBin pAdd (mSl (mVar 6) oNo (oAt (mK (.int 1)))) (mUn pRev (mSl (mVar 6) (oAt (mK (.int 1))) (oAt (mUn pNeg (mK (.int 1))))))) (mTup (mCons (mVar 7) mNil))) mNil)))))
  (sSeq (sIf (mTest (mVar 2)) (sSet 5 (mBin pAdd (mVar 5) (mTup (mCons (mTup (mCons (mK c_SHUT) mNil)) mNil))))
  sNil)
  (sRet (mVar 5))))))))))
def m_backward_part : List PyData → Option PyData := runD N_backward_part b_backward_part
abbrev N_backward : List Str := ["way", "found", "part"]
def b_backward : MS := (sSeq (sSet 1 (mTup mNil))
  (sSeq (sFor (mItems (mUn pRev (mCall m_parts (mCons (mVar 0) mNil)))) (gN 2) (sSet 1 (mBin pAdd (mVar 1) (mCall m_backward_part (mCons (mVar 2) mNil)))))
  (sRet (mVar 1))))
def m_backward : List PyData → Option PyData := runD N_backward b_backward
abbrev N_raised : List Str := ["way", "found", "stroke", "pen", "first"]
def b_raised : MS := (sSeq (sSet 1 (mTup mNil))
  (sSeq (sFor (mIt pZip (mCons (mVar 0) (mCons (mCall m_pens (mCons (mVar 0) mNil)) mNil))) (gT 2 (gs1 (gN 2) (gs1 (gN 3) gs0'))) (sSeq (sIf (mTest (mBin pEq (mBin pIx (mVar 2) (mK (.int 0))) (mK c_BOW))) (sSeq (sSet 4 (mCall m_between (mCons (mVar 3) (mCons (mBin pIx (mVar 2) (mK (.int 1))) (mCons (mCall m_fraction (mCons (mK (.int 2)) (mCons (mK (.int 3)) mNil))) mNil)))))
  (sSet 2 (mTup (mCons (mK c_WAVE) (mCons (mVar 4) (mCons (mCall m_between (mCons (mBin pIx (mVar 2) (mK (.int 2))) (mCons (mBin pIx (mVar 2) (mK (.int 1))) (mCons (mCall m_fraction (mCons (mK (.int 2)) (mCons (mK (.int 3)) mNil))) mNil)))) (mCons (mBin pIx (mVar 2) (mK (.int 2))) mNil)))))))
  sNil)
  (sSet 1 (mBin pAdd (mVar 1) (mTup (mCons (mVar 2) mNil))))))
  (sRet (mVar 1))))
def m_raised : List PyData → Option PyData := runD N_raised b_raised
abbrev N_flat : List Str := ["way", "many", "found", "number", "stroke", "some", "at"]
def b_flat : MS := (sSeq (sSet 2 (mTup mNil))
  (sSeq (sFor (mIt pEnum (mCons (mVar 0) mNil)) (gT 2 (gs1 (gN 3) (gs1 (gN 4) gs0'))) (sIf (mTest (mBin pIn (mBin pIx (mVar 4) (mK (.int 0))) (mTup (mCons (mK c_BOW) (mCons (mK c_WAVE) mNil))))) (sSeq (sSet 5 (mCall m_corner_points (mCons (mVar 0) (mCons (mVar 3) mNil))))
  (sSet 2 (mBin pAdd (mVar 2) (mCall pTuple (mCons (mLst (mLc (mIt pRng2 (mCons (mK (.int 1)) (mCons (mBin pAdd (mVar 1) (mK (.int 1))) mNil))) (gN 6) tYesM (mTup (mCons (mK c_LINE) (mCons (mCall m_point_of (mCons (mVar 5) (mCons (mCall m_fraction (mCons (mVar 6) (mCons (mVar 1) mNil))) mNil))) mNil))) [6])) mNil)))))
  (sSet 2 (mBin pAdd (mVar 2) (mTup (mCons (mVar 4) mNil))))))
  (sRet (mVar 2))))
def m_flat : List PyData → Option PyData := runD N_flat b_flat
abbrev N__law_parts : List Str := ["way", "places", "rows", "is_new", "at", "stroke", "row"]
def b__law_parts : MS := (sSeq (sSet 1 (mCall m__law_pens (mCons (mVar 0) mNil)))
  (sSeq (sSetL 2 mNil)
  (sSeq (sSet 3 (mK (.bool true)))
  (sSeq (sFor (mIt pEnum (mCons (mVar 0) mNil)) (gT 2 (gs1 (gN 4) (gs1 (gN 5) gs0'))) (sSeq (sIf (mTest (mBin pEq (mBin pIx (mVar 5) (mK (.int 0))) (mK (.str "move")))) (sApp 2 (mTup (mCons (mVar 5) mNil)))
  (sIf (mTest (mVar 3)) (sApp 2 (mTup (mCons (mTup (mCons (mK (.str "move")) (mCons (mBin pIx (mVar 1) (mVar 4)) mNil))) (mCons (mVar 5) mNil))))
  (sPut 2 (mUn pNeg (mK (.int 1))) (mBin pAdd (mIxO 2 (mUn pNeg (mK (.int 1)))) (mTup (mCons (mVar 5) mNil))))))
  (sSet 3 (mBin pEq (mBin pIx (mVar 5) (mK (.int 0))) (mK (.str "shut"))))))
  (sRet (mLst (mLc (mItems (mVar 2)) (gN 6) (mTest (mBin pGt (mCall pLen (mCons (mVar 6) mNil)) (mK (.int 1)))) (mVar 6) [6])))))))
def m__law_parts : List PyData → Option PyData := runD N__law_parts b__law_parts
abbrev N__law_backward : List Str := ["part", "places", "rows", "found", "at", "stroke"]
def b__law_backward : MS := (sSeq (sSet 1 (mCall m__law_pens (mCons (mVar 0) mNil)))
  (sSeq (sSet 2 (mUn pRev (mLst (mLi (mIt pRng2 (mCons (mK (.int 1)) (mCons (mCall pLen (mCons (mVar 0) mNil)) mNil)))))))
  (sSeq (sSet 3 (mTup (mCons (mTup (mCons (mK (.str "move")) (mCons (mBin pIx (mVar 1) (mUn pNeg (mK (.int 1)))) mNil))) mNil)))
  (sSeq (sIf (mTest (mBin pEq (mBin pIx (mBin pIx (mVar 0) (mUn pNeg (mK (.int 1)))) (mK (.int 0))) (mK (.str "shut")))) (sSeq (sSet 3 (mTup (mCons (mTup (mCons (mK (.str "move")) (mCons (mBin pIx (mBin pIx (mVar 0) (mK (.int 0))) (mK (.int 1))) mNil))) (mCons (mTup (mCons (mK (.str "line")) (mCons (mBin pIx (mVar 1) (mBin pSub (mCall pLen (mCons (mVar 0) mNil)) (mK (.int 1)))) mNil))) mNil))))
  (sSet 2 (mSl (mVar 2) (oAt (mK (.int 1))) oNo)))
  sNil)
  (sSeq (sFor (mItems (mVar 2)) (gN 4) (sSeq (sSet 5 (mBin pIx (mVar 0) (mVar 4)))
  (sSet 3 (mBin pAdd (mVar 3) (mTup (mCons (mBin pAdd (mBin pAdd (mSl (mVar 5) oNo (oAt (mK (.int 1)))) (mUn pRev (mSl (mVar 5) (oAt (mK (.int 1))) (oAt (mUn pNeg (mK (.int 1))))))) (mTup (mCons (mBin pIx (mVar 1) (mVar 4)) mNil))) mNil))))))
  (sSeq (sIf (mTest (mBin pEq (mBin pIx (mBin pIx (mVar 0) (mUn pNeg (mK (.int 1)))) (mK (.int 0))) (mK (.str "shut")))) (sSet 3 (mBin pAdd (mVar 3) (mTup (mCons (mTup (mCons (mK (.str "shut")) mNil)) mNil))))
  sNil)
  (sRet (mVar 3))))))))
def m__law_backward : List PyData → Option PyData := runD N__law_backward b__law_backward
abbrev N_law_k30 : List Str := ["script", "one", "other", "due", "part", "places", "many", "waves", "lines", "at", "stroke", "new", "first", "second", "k"]
def b_law_k30 : MS := (sSeq (sSet 1 (mCall m__law_way (mCons (mCall m__law_mixed (mCons (mVar 0) (mCons (mK (.int 0)) mNil))) (mCons (mK (.int 8)) mNil))))
  (sSeq (sSet 2 (mCall m__law_way (mCons (mCall m__law_mixed (mCons (mVar 0) (mCons (mK (.int 1)) mNil))) (mCons (mK (.int 8)) mNil))))
  (sSeq (sIf (mTest (mBin pNe (mCall m_joined (mCons (mVar 1) (mCons (mVar 2) mNil))) (mBin pAdd (mVar 1) (mVar 2)))) (sRet (mK (.bool false)))
  sNil)
  (sSeq (sSet 3 (mTup mNil))
  (sSeq (sFor (mItems (mUn pRev (mCall m__law_parts (mCons (mVar 1) mNil)))) (gN 4) (sSet 3 (mBin pAdd (mVar 3) (mCall m__law_backward (mCons (mVar 4) mNil)))))
  (sSeq (sIf (mTest (mBin pNe (mCall m_backward (mCons (mVar 1) mNil)) (mVar 3))) (sRet (mK (.bool false)))
  sNil)
  (sSeq (sSet 5 (mCall m__law_pens (mCons (mVar 1) mNil)))
  (sSeq (sSet 6 (mBin pAdd (mK (.int 1)) (mBin pMod (mCall m__law_mixed (mCons (mVar 0) (mCons (mK (.int 2)) mNil))) (mK (.int 20)))))
  (sSeq (sSet 7 (mTup mNil))
  (sSeq (sSet 8 (mTup mNil))
  (sSeq (sFor (mIt pEnum (mCons (mVar 1) mNil)) (gT 2 (gs1 (gN 9) (gs1 (gN 10) gs0'))) (sSeq (sSet 11 (mVar 10))
  (sSeq (sIf (mTest (mBin pEq (mBin pIx (mVar 10) (mK (.int 0))) (mK (.str "bow")))) (sSeq (sSet 12 (mCall m__law_add (mCons (mCall m__law_scale (mCons (mTup (mCons (mK (.int 1)) (mCons (mK (.int 3)) mNil))) (mCons (mBin pIx (mVar 5) (mVar 9)) mNil))) (mCons (mCall m__law_scale (mCons (mTup (mCons (mK (.int 2)) (mCons (mK (.int 3)) mNil))) (mCons (mBin pIx (mVar 10) (mK (.int 1))) mNil))) mNil))))
  (sSeq (sSet 13 (mCall m__law_add (mCons (mCall m__law_scale (mCons (mTup (mCons (mK (.int 1)) (mCons (mK (.int 3)) mNil))) (mCons (mBin pIx (mVar 10) (mK (.int 2))) mNil))) (mCons (mCall m__law_scale (mCons (mTup (mCons (mK (.int 2)) (mCons (mK (.int 3)) mNil))) (mCons (mBin pIx (mVar 10) (mK (.int 1))) mNil))) mNil))))
  (sSet 11 (mTup (mCons (mK (.str "wave")) (mCons (mVar 12) (mCons (mVar 13) (mCons (mBin pIx (mVar 10) (mK (.int 2))) mNil))))))))
  sNil)
  (sSeq (sSet 7 (mBin pAdd (mVar 7) (mTup (mCons (mVar 11) mNil))))
  (sIf (mTest (mBin pIn (mBin pIx (mVar 10) (mK (.int 0))) (mTup (mCons (mK (.str "bow")) (mCons (mK (.str "wave")) mNil))))) (sSet 8 (mBin pAdd (mVar 8) (mCall pTuple (mCons (mLst (mLc (mIt pRng2 (mCons (mK (.int 1)) (mCons (mBin pAdd (mVar 6) (mK (.int 1))) mNil))) (gN 14) tYesM (mTup (mCons (mK (.str "line")) (mCons (mCall m__law_spot (mCons (mVar 1) (mCons (mVar 9) (mCons (mCall m__law_fr (mCons (mVar 14) (mCons (mVar 6) mNil))) mNil)))) mNil))) [14])) mNil))))
  (sSet 8 (mBin pAdd (mVar 8) (mTup (mCons (mVar 10) mNil)))))))))
  (sRet (mAndV (mBin pEq (mCall m_raised (mCons (mVar 1) mNil)) (mVar 7)) (mBin pEq (mCall m_flat (mCons (mVar 1) (mCons (mVar 6) mNil))) (mVar 8)))))))))))))))
def m_law_k30 : List PyData → Option PyData := runD N_law_k30 b_law_k30
abbrev N_is_on : List Str := ["point", "some", "one", "other", "low_right", "low_up", "high_right", "high_up"]
def b_is_on : MS := (sSeq (sAsg (mVar 1) (gT 2 (gs1 (gN 2) (gs1 (gN 3) gs0'))))
  (sSeq (sIf (mTest (mBin pNe (mCall m_cross (mCons (mCall m_apart (mCons (mVar 3) (mCons (mVar 2) mNil))) (mCons (mCall m_apart (mCons (mVar 0) (mCons (mVar 2) mNil))) mNil))) (mK c_NONE))) (sRet (mK (.bool false)))
  sNil)
  (sSeq (sAsg (mCall m_box_of (mCons (mLst (mCall pList (mCons (mVar 1) mNil))) mNil)) (gT 2 (gs1 (gT 2 (gs1 (gN 4) (gs1 (gN 5) gs0'))) (gs1 (gT 2 (gs1 (gN 6) (gs1 (gN 7) gs0'))) gs0'))))
  (sSeq (sIf (mOr (mTest (mCall m_is_less (mCons (mBin pIx (mVar 0) (mK (.int 0))) (mCons (mVar 4) mNil)))) (mTest (mCall m_is_less (mCons (mVar 6) (mCons (mBin pIx (mVar 0) (mK (.int 0))) mNil))))) (sRet (mK (.bool false)))
  sNil)
  (sRet (mAndV (mNotV (mCall m_is_less (mCons (mBin pIx (mVar 0) (mK (.int 1))) (mCons (mVar 5) mNil)))) (mNotV (mCall m_is_less (mCons (mVar 7) (mCons (mBin pIx (mVar 0) (mK (.int 1))) mNil))))))))))
def m_is_on : List PyData → Option PyData := runD N_is_on b_is_on
abbrev N_passes : List Str := ["point", "some", "one", "other", "side", "below"]
def b_passes : MS := (sSeq (sAsg (mVar 1) (gT 2 (gs1 (gN 2) (gs1 (gN 3) gs0'))))
  (sSeq (sSet 4 (mCall m_cross (mCons (mCall m_apart (mCons (mVar 3) (mCons (mVar 2) mNil))) (mCons (mCall m_apart (mCons (mVar 0) (mCons (mVar 2) mNil))) mNil))))
  (sSeq (sSet 5 (mNotV (mCall m_is_less (mCons (mBin pIx (mVar 0) (mK (.int 1))) (mCons (mBin pIx (mVar 2) (mK (.int 1))) mNil)))))
  (sSeq (sIf (mAnd (mTest (mVar 5)) (mAnd (mTest (mCall m_is_less (mCons (mBin pIx (mVar 0) (mK (.int 1))) (mCons (mBin pIx (mVar 3) (mK (.int 1))) mNil)))) (mTest (mCall m_is_less (mCons (mK c_NONE) (mCons (mVar 4) mNil)))))) (sRet (mK (.int 1)))
  sNil)
  (sSeq (sIf (mAnd (mNot (mTest (mVar 5))) (mAnd (mNot (mTest (mCall m_is_less (mCons (mBin pIx (mVar 0) (mK (.int 1))) (mCons (mBin pIx (mVar 3) (mK (.int 1))) mNil))))) (mTest (mCall m_is_less (mCons (mVar 4) (mCons (mK c_NONE) mNil)))))) (sRet (mBin pSub (mK (.int 0)) (mK (.int 1))))
  sNil)
  (sRet (mK (.int 0))))))))
def m_passes : List PyData → Option PyData := runD N_passes b_passes
abbrev N_rounds : List Str := ["way", "point", "many", "part", "some"]
def b_rounds : MS := (sSeq (sSet 2 (mK (.int 0)))
  (sSeq (sFor (mItems (mCall m_parts (mCons (mVar 0) mNil))) (gN 3) (sFor (mItems (mCall m_closed_lines (mCons (mVar 3) mNil))) (gN 4) (sSeq (sIf (mTest (mCall m_is_on (mCons (mVar 1) (mCons (mVar 4) mNil)))) (sRet (mK .none))
  sNil)
  (sSet 2 (mBin pAdd (mVar 2) (mCall m_passes (mCons (mVar 1) (mCons (mVar 4) mNil))))))))
  (sRet (mVar 2))))
def m_rounds : List PyData → Option PyData := runD N_rounds b_rounds
abbrev N_law_k31 : List Str := ["script", "way", "back", "some", "others", "whole", "part", "other", "is_shut", "t", "number", "there", "lines", "point", "many"]
def b_law_k31 : MS := (sSeq (sSet 1 (mCall m__law_way (mCons (mCall m__law_mixed (mCons (mVar 0) (mCons (mK (.int 0)) mNil))) (mCons (mK (.int 8)) mNil))))
  (sSeq (sSet 2 (mCall m_backward (mCons (mVar 1) mNil)))
  (sSeq (sSet 3 (mCall m_parts (mCons (mVar 1) mNil)))
  (sSeq (sSet 4 (mCall m_parts (mCons (mVar 2) mNil)))
  (sSeq (sIf (mOr (mTest (mBin pNe (mCall m_area (mCons (mVar 2) mNil)) (mCall m__law_minus (mCons (mTup (mCons (mK (.int 0)) (mCons (mK (.int 1)) mNil))) (mCons (mCall m_area (mCons (mVar 1) mNil)) mNil))))) (mTest (mBin pNe (mCall pLen (mCons (mVar 3) mNil)) (mCall pLen (mCons (mVar 4) mNil))))) (sRet (mK (.bool false)))
  sNil)
  (sSeq (sSet 5 (mTup mNil))
  (sSeq (sFor (mItems (mVar 3)) (gN 6) (sSet 5 (mBin pAdd (mVar 5) (mVar 6))))
  (sSeq (sIf (mOr (mTest (mBin pNe (mCall m_hull_box (mCons (mVar 2) mNil)) (mCall m_hull_box (mCons (mVar 5) mNil)))) (mTest (mBin pNe (mCall m_area (mCons (mCall m_backward (mCons (mVar 2) mNil)) mNil)) (mCall m_area (mCons (mVar 1) mNil))))) (sRet (mK (.bool false)))
  sNil)
  (sSeq (sFor (mIt pZip (mCons (mVar 3) (mCons (mUn pRev (mVar 4)) mNil))) (gT 2 (gs1 (gN 6) (gs1 (gN 7) gs0'))) (sSeq (sSet 8 (mBin pEq (mBin pIx (mBin pIx (mVar 6) (mUn pNeg (mK (.int 1)))) (mK (.int 0))) (mK (.str "shut"))))
  (sSeq (sIf (mOr (mTest (mBin pNe (mBin pIx (mBin pIx (mVar 7) (mK (.int 0))) (mK (.int 1))) (mBin pIx (mCall m_pens (mCons (mVar 6) mNil)) (mUn pNeg (mK (.int 1)))))) (mOr (mTest (mBin pNe (mBin pIx (mCall m_pens (mCons (mVar 7) mNil)) (mUn pNeg (mK (.int 1)))) (mBin pIx (mBin pIx (mVar 6) (mK (.int 0))) (mK (.int 1))))) (mTest (mBin pNe (mBin pEq (mBin pIx (mBin pIx (mVar 7) (mUn pNeg (mK (.int 1)))) (mK (.int 0))) (mK (.str "shut"))) (mVar 8))))) (sRet (mK (.bool false)))
  sNil)
  (sSeq (sIf (mTest (mBin pNe (mCall pLen (mCons (mVar 7) mNil)) (mBin pAdd (mCall pLen (mCons (mVar 6) mNil)) (mCall pInt (mCons (mVar 8) mNil))))) (sRet (mK (.bool false)))
  sNil)
  (sSeq (sSet 9 (mCall m__law_fr (mCons (mBin pMod (mCall m__law_mixed (mCons (mVar 0) (mCons (mK (.int 1)) mNil))) (mK (.int 6))) (mCons (mK (.int 5)) mNil))))
  (sSeq (sFor (mIt pRng2 (mCons (mK (.int 1)) (mCons (mCall pLen (mCons (mVar 6) mNil)) mNil))) (gN 10) (sSeq (sSet 11 (mBin pSub (mCall pLen (mCons (mVar 6) mNil)) (mVar 10)))
  (sSeq (sIf (mTest (mBin pEq (mBin pIx (mBin pIx (mVar 6) (mVar 10)) (mK (.int 0))) (mK (.str "shut")))) (sSet 11 (mK (.int 1)))
  sNil)
  (sIf (mTest (mBin pNe (mCall m_spot (mCons (mVar 6) (mCons (mVar 10) (mCons (mVar 9) mNil)))) (mCall m_spot (mCons (mVar 7) (mCons (mVar 11) (mCons (mCall m__law_minus (mCons (mTup (mCons (mK (.int 1)) (mCons (mK (.int 1)) mNil))) (mCons (mVar 9) mNil))) mNil)))))) (sRet (mK (.bool false)))
  sNil))))
  (sIf (mAnd (mTest (mBin pNe (mCall m_form (mCons (mCall m_backward (mCons (mVar 7) mNil)) mNil)) (mCall m_form (mCons (mVar 6) mNil)))) (mNot (mTest (mVar 8)))) (sRet (mK (.bool false)))
  sNil)))))))
  (sSeq (sSet 12 (mCall m_flat (mCons (mVar 1) (mCons (mK (.int 3)) mNil))))
  (sSeq (sSet 13 (mTup (mCons (mCall m__law_fr (mCons (mBin pSub (mBin pMod (mCall m__law_mixed (mCons (mVar 0) (mCons (mK (.int 2)) mNil))) (mK (.int 41))) (mK (.int 20))) (mCons (mK (.int 7)) mNil))) (mCons (mCall m__law_fr (mCons (mBin pSub (mBin pMod (mCall m__law_mixed (mCons (mVar 0) (mCons (mK (.int 3)) mNil))) (mK (.int 41))) (mK (.int 20))) (mCons (mK (.int 11)) mNil))) mNil))))
  (sSeq (sSet 14 (mCall m_rounds (mCons (mVar 12) (mCons (mVar 13) mNil))))
  (sSeq (sIf (mTest (mBin pIs (mVar 14) (mK .none))) (sRet (mBin pIs (mCall m_rounds (mCons (mCall m_backward (mCons (mVar 12) mNil)) (mCons (mVar 13) mNil))) (mK .none)))
  sNil)
  (sRet (mBin pEq (mCall m_rounds (mCons (mCall m_backward (mCons (mVar 12) mNil)) (mCons (mVar 13) mNil))) (mBin pSub (mK (.int 0)) (mVar 14)))))))))))))))))
def m_law_k31 : List PyData → Option PyData := runD N_law_k31 b_law_k31
abbrev N_law_k32 : List Str := ["script", "way", "high", "k", "t", "many", "lines", "at", "number", "stroke"]
def b_law_k32 : MS := (sSeq (sSet 1 (mCall m__law_way (mCons (mCall m__law_mixed (mCons (mVar 0) (mCons (mK (.int 0)) mNil))) (mCons (mK (.int 8)) mNil))))
  (sSeq (sSet 2 (mCall m_raised (mCons (mVar 1) mNil)))
  (sSeq (sIf (mOr (mTest (mBin pNe (mLst (mLc (mItems (mVar 2)) (gN 9) (mTest (mBin pEq (mBin pIx (mVar 9) (mK (.int 0))) (mK (.str "bow")))) (mBin pIx (mVar 9) (mK (.int 0))) [9])) (mLst mNil))) (mOr (mTest (mBin pNe (mCall pLen (mCons (mVar 2) mNil)) (mCall pLen (mCons (mVar 1) mNil)))) (mTest (mBin pNe (mCall m_raised (mCons (mVar 2) mNil)) (mVar 2))))) (sRet (mK (.bool false)))
  sNil)
  (sSeq (sIf (mOr (mTest (mBin pNe (mCall m_area (mCons (mVar 2) mNil)) (mCall m_area (mCons (mVar 1) mNil)))) (mOr (mTest (mBin pIsNot (mCall m_alike (mCons (mVar 1) (mCons (mVar 2) mNil))) (mK (.bool true)))) (mOr (mTest (mBin pNe (mCall m_form (mCons (mVar 2) mNil)) (mCall m_form (mCons (mVar 1) mNil)))) (mTest (mBin pNe (mCall m_pens (mCons (mVar 2) mNil)) (mCall m_pens (mCons (mVar 1) mNil))))))) (sRet (mK (.bool false)))
  sNil)
  (sSeq (sFor (mIt pRng1 (mCons (mK (.int 3)) mNil)) (gN 3) (sSeq (sSet 4 (mCall m__law_fr (mCons (mBin pMod (mCall m__law_mixed (mCons (mVar 0) (mCons (mBin pAdd (mK (.int 1)) (mVar 3)) mNil))) (mK (.int 8))) (mCons (mK (.int 7)) mNil))))
  (sIf (mTest (mBin pNe (mLst (mLc (mIt pRng1 (mCons (mCall pLen (mCons (mVar 1) mNil)) mNil)) (gN 8) (mTest (mBin pNe (mCall m_spot (mCons (mVar 1) (mCons (mVar 8) (mCons (mVar 4) mNil)))) (mCall m_spot (mCons (mVar 2) (mCons (mVar 8) (mCons (mVar 4) mNil)))))) (mVar 8) [8])) (mLst mNil))) (sRet (mK (.bool false)))
  sNil)))
  (sSeq (sSet 5 (mBin pAdd (mK (.int 1)) (mBin pMod (mCall m__law_mixed (mCons (mVar 0) (mCons (mK (.int 5)) mNil))) (mK (.int 20)))))
  (sSeq (sSet 6 (mCall m_flat (mCons (mVar 1) (mCons (mVar 5) mNil))))
  (sSeq (sIf (mOr (mTest (mBin pNe (mCall m_flat (mCons (mVar 6) (mCons (mK (.int 5)) mNil))) (mVar 6))) (mOr (mTest (mBin pNe (mCall m_flat (mCons (mVar 2) (mCons (mVar 5) mNil))) (mVar 6))) (mTest (mBin pNe (mCall pLen (mCons (mCall m_parts (mCons (mVar 6) mNil)) mNil)) (mCall pLen (mCons (mCall m_parts (mCons (mVar 1) mNil)) mNil)))))) (sRet (mK (.bool false)))
  sNil)
  (sSeq (sIf (mTest (mBin pNe (mBin pIx (mCall m_pens (mCons (mVar 6) mNil)) (mUn pNeg (mK (.int 1)))) (mBin pIx (mCall m_pens (mCons (mVar 1) mNil)) (mUn pNeg (mK (.int 1)))))) (sRet (mK (.bool false)))
  sNil)
  (sSeq (sSet 7 (mK (.int 0)))
  (sSeq (sFor (mIt pEnum (mCons (mVar 1) mNil)) (gT 2 (gs1 (gN 8) (gs1 (gN 9) gs0'))) (sIf (mTest (mBin pIn (mBin pIx (mVar 9) (mK (.int 0))) (mTup (mCons (mK (.str "bow")) (mCons (mK (.str "wave")) mNil))))) (sFor (mIt pRng2 (mCons (mK (.int 1)) (mCons (mBin pAdd (mVar 5) (mK (.int 1))) mNil))) (gN 3) (sSeq (sIf (mTest (mBin pNe (mBin pIx (mVar 6) (mVar 7)) (mTup (mCons (mK (.str "line")) (mCons (mCall m_spot (mCons (mVar 1) (mCons (mVar 8) (mCons (mCall m__law_fr (mCons (mVar 3) (mCons (mVar 5) mNil))) mNil)))) mNil))))) (sRet (mK (.bool false)))
  sNil)
  (sSet 7 (mBin pAdd (mVar 7) (mK (.int 1))))))
  (sSeq (sIf (mTest (mBin pNe (mBin pIx (mVar 6) (mVar 7)) (mVar 9))) (sRet (mK (.bool false)))
  sNil)
  (sSet 7 (mBin pAdd (mVar 7) (mK (.int 1)))))))
  (sRet (mBin pEq (mVar 7) (mCall pLen (mCons (mVar 6) mNil)))))))))))))))
def m_law_k32 : List PyData → Option PyData := runD N_law_k32 b_law_k32
abbrev N_over : List Str := ["one", "other"]
def b_over : MS := (sRet (mCall m_fraction (mCons (mBin pMul (mBin pIx (mVar 0) (mK (.int 0))) (mBin pIx (mVar 1) (mK (.int 1)))) (mCons (mBin pMul (mBin pIx (mVar 0) (mK (.int 1))) (mBin pIx (mVar 1) (mK (.int 0)))) mNil))))
def m_over : List PyData → Option PyData := runD N_over b_over
abbrev N_turns : List Str := ["some", "found", "at", "pen", "first", "goal", "lower", "t", "corner"]
def b_turns : MS := (sSeq (sSetL 1 mNil)
  (sSeq (sFor (mIt pRng1 (mCons (mK (.int 2)) mNil)) (gN 2) (sSeq (sAsg (mLst (mLc (mItems (mVar 0)) (gN 8) tYesM (mBin pIx (mVar 8) (mVar 2)) [8])) (gT 3 (gs1 (gN 3) (gs1 (gN 4) (gs1 (gN 5) gs0')))))
  (sSeq (sSet 6 (mCall m_plus (mCons (mCall m_minus (mCons (mVar 3) (mCons (mVar 4) mNil))) (mCons (mCall m_minus (mCons (mVar 5) (mCons (mVar 4) mNil))) mNil))))
  (sIf (mTest (mBin pNe (mVar 6) (mK c_NONE))) (sSeq (sSet 7 (mCall m_over (mCons (mCall m_minus (mCons (mVar 3) (mCons (mVar 4) mNil))) (mCons (mVar 6) mNil))))
  (sIf (mAnd (mTest (mCall m_is_less (mCons (mK c_NONE) (mCons (mVar 7) mNil)))) (mTest (mCall m_is_less (mCons (mVar 7) (mCons (mTup (mCons (mK (.int 1)) (mCons (mK (.int 1)) mNil))) mNil))))) (sApp 1 (mVar 7))
  sNil))
  sNil))))
  (sRet (mVar 1))))
def m_turns : List PyData → Option PyData := runD N_turns b_turns
abbrev N_tight_box : List Str := ["way", "points", "number", "stroke", "some", "t"]
def b_tight_box : MS := (sSeq (sSetL 1 mNil)
  (sSeq (sFor (mIt pEnum (mCons (mVar 0) mNil)) (gT 2 (gs1 (gN 2) (gs1 (gN 3) gs0'))) (sSeq (sExt 1 (mCall pList (mCons (mBin pMulT (mSl (mVar 3) (oAt (mUn pNeg (mK (.int 1)))) oNo) (mCall pInt (mCons (mBin pNe (mBin pIx (mVar 3) (mK (.int 0))) (mK c_SHUT)) mNil))) mNil)))
  (sIf (mTest (mBin pEq (mBin pIx (mVar 3) (mK (.int 0))) (mK c_BOW))) (sSeq (sSet 4 (mCall m_corner_points (mCons (mVar 0) (mCons (mVar 2) mNil))))
  (sExt 1 (mLc (mItems (mCall m_turns (mCons (mVar 4) mNil))) (gN 5) tYesM (mCall m_point_of (mCons (mVar 4) (mCons (mVar 5) mNil))) [5])))
  sNil)))
  (sRet (mCall m_box_of (mCons (mVar 1) mNil)))))
def m_tight_box : List PyData → Option PyData := runD N_tight_box b_tight_box
abbrev N__law_is_less : List Str := ["one", "other"]
def b__law_is_less : MS := (sRet (mBin pLt (mBin pMul (mBin pIx (mVar 0) (mK (.int 0))) (mBin pIx (mVar 1) (mK (.int 1)))) (mBin pMul (mBin pIx (mVar 1) (mK (.int 0))) (mBin pIx (mVar 0) (mK (.int 1))))))
def m__law_is_less : List PyData → Option PyData := runD N__law_is_less b__law_is_less
abbrev N__law_lies_in : List Str := ["inner", "outer", "at"]
def b__law_lies_in : MS := (sSeq (sFor (mIt pRng1 (mCons (mK (.int 2)) mNil)) (gN 2) (sIf (mOr (mTest (mCall m__law_is_less (mCons (mBin pIx (mBin pIx (mVar 0) (mK (.int 0))) (mVar 2)) (mCons (mBin pIx (mBin pIx (mVar 1) (mK (.int 0))) (mVar 2)) mNil)))) (mTest (mCall m__law_is_less (mCons (mBin pIx (mBin pIx (mVar 1) (mK (.int 1))) (mVar 2)) (mCons (mBin pIx (mBin pIx (mVar 0) (mK (.int 1))) (mVar 2)) mNil))))) (sRet (mK (.bool false)))
  sNil))
  (sRet (mK (.bool true))))
def m__law_lies_in : List PyData → Option PyData := runD N__law_lies_in b__law_lies_in
abbrev N_law_k33 : List Str := ["script", "whole", "way", "many", "missed", "one", "lines", "stroke"]
def b_law_k33 : MS := (sSeq (sSet 1 (mCall m__law_way (mCons (mCall m__law_mixed (mCons (mVar 0) (mCons (mK (.int 0)) mNil))) (mCons (mK (.int 8)) mNil))))
  (sSeq (sSet 2 (mCall pTuple (mCons (mLst (mLc (mItems (mVar 1)) (gN 7) (mTest (mBin pNe (mBin pIx (mVar 7) (mK (.int 0))) (mK (.str "wave")))) (mVar 7) [7])) mNil)))
  (sSeq (sSet 3 (mBin pAdd (mK (.int 1)) (mBin pMod (mCall m__law_mixed (mCons (mVar 0) (mCons (mK (.int 1)) mNil))) (mK (.int 20)))))
  (sSeq (sSet 4 (mCall m__law_minus (mCons (mCall m_area (mCons (mVar 2) mNil)) (mCons (mCall m_area (mCons (mCall m_flat (mCons (mVar 2) (mCons (mK (.int 1)) mNil))) mNil)) mNil))))
  (sSeq (sIf (mTest (mBin pNe (mCall m__law_minus (mCons (mCall m_area (mCons (mVar 2) mNil)) (mCons (mCall m_area (mCons (mCall m_flat (mCons (mVar 2) (mCons (mVar 3) mNil))) mNil)) mNil))) (mCall m__law_times (mCons (mVar 4) (mCons (mCall m__law_fr (mCons (mK (.int 1)) (mCons (mBin pMul (mVar 3) (mVar 3)) mNil))) mNil))))) (sRet (mK (.bool false)))
  sNil)
  (sSeq (sFor (mItems (mTup (mCons (mVar 2) (mCons (mVar 1) mNil)))) (gN 5) (sSeq (sSet 6 (mCall m_flat (mCons (mVar 5) (mCons (mVar 3) mNil))))
  (sSeq (sIf (mOr (mTest (mBin pNe (mBin pIx (mCall m_pens (mCons (mVar 6) mNil)) (mUn pNeg (mK (.int 1)))) (mBin pIx (mCall m_pens (mCons (mVar 5) mNil)) (mUn pNeg (mK (.int 1)))))) (mTest (mBin pNe (mBin pIs (mCall m_hull_box (mCons (mVar 6) mNil)) (mK .none)) (mBin pIs (mCall m_hull_box (mCons (mVar 5) mNil)) (mK .none))))) (sRet (mK (.bool false)))
  sNil)
  (sIf (mAnd (mTest (mBin pNe (mVar 5) (mTup mNil))) (mNot (mTest (mCall m__law_lies_in (mCons (mCall m_hull_box (mCons (mVar 6) mNil)) (mCons (mCall m_hull_box (mCons (mVar 5) mNil)) mNil)))))) (sRet (mK (.bool false)))
  sNil))))
  (sSeq (sIf (mTest (mBin pEq (mVar 2) (mTup mNil))) (sRet (mK (.bool true)))
  sNil)
  (sSeq (sIf (mNot (mTest (mCall m__law_lies_in (mCons (mCall m_hull_box (mCons (mCall m_flat (mCons (mVar 2) (mCons (mVar 3) mNil))) mNil)) (mCons (mCall m_tight_box (mCons (mVar 2) mNil)) mNil))))) (sRet (mK (.bool false)))
  sNil)
  (sRet (mAndV (mCall m__law_lies_in (mCons (mCall m_tight_box (mCons (mVar 2) mNil)) (mCons (mCall m_hull_box (mCons (mVar 2) mNil)) mNil))) (mBin pEq (mCall m_tight_box (mCons (mCall m_flat (mCons (mVar 2) (mCons (mVar 3) mNil))) mNil)) (mCall m_hull_box (mCons (mCall m_flat (mCons (mVar 2) (mCons (mVar 3) mNil))) mNil)))))))))))))
def m_law_k33 : List PyData → Option PyData := runD N_law_k33 b_law_k33
abbrev N_law_k34 : List Str := ["script", "one", "two", "three", "both", "many", "lines", "point", "here", "there", "whole", "k", "some"]
def b_law_k34 : MS := (sSeq (sAsg (mLst (mLc (mIt pRng1 (mCons (mK (.int 3)) mNil)) (gN 11) tYesM (mCall m__law_way (mCons (mCall m__law_mixed (mCons (mVar 0) (mCons (mVar 11) mNil))) (mCons (mK (.int 6)) mNil))) [11])) (gT 3 (gs1 (gN 1) (gs1 (gN 2) (gs1 (gN 3) gs0')))))
  (sSeq (sSet 4 (mCall m_joined (mCons (mVar 1) (mCons (mVar 2) mNil))))
  (sSeq (sIf (mOr (mTest (mBin pNe (mCall m_joined (mCons (mVar 4) (mCons (mVar 3) mNil))) (mCall m_joined (mCons (mVar 1) (mCons (mCall m_joined (mCons (mVar 2) (mCons (mVar 3) mNil))) mNil))))) (mOr (mTest (mBin pNe (mCall m_joined (mCons (mVar 1) (mCons (mTup mNil) mNil))) (mVar 1))) (mTest (mBin pNe (mCall m_joined (mCons (mTup mNil) (mCons (mVar 1) mNil))) (mVar 1))))) (sRet (mK (.bool false)))
  sNil)
  (sSeq (sIf (mOr (mTest (mBin pNe (mCall m_backward (mCons (mVar 4) mNil)) (mCall m_joined (mCons (mCall m_backward (mCons (mVar 2) mNil)) (mCons (mCall m_backward (mCons (mVar 1) mNil)) mNil))))) (mTest (mBin pNe (mCall m_raised (mCons (mVar 4) mNil)) (mCall m_joined (mCons (mCall m_raised (mCons (mVar 1) mNil)) (mCons (mCall m_raised (mCons (mVar 2) mNil)) mNil)))))) (sRet (mK (.bool false)))
  sNil)
  (sSeq (sSet 5 (mBin pAdd (mK (.int 1)) (mBin pMod (mCall m__law_mixed (mCons (mVar 0) (mCons (mK (.int 3)) mNil))) (mK (.int 7)))))
  (sSeq (sIf (mOr (mTest (mBin pNe (mCall m_flat (mCons (mVar 4) (mCons (mVar 5) mNil))) (mCall m_joined (mCons (mCall m_flat (mCons (mVar 1) (mCons (mVar 5) mNil))) (mCons (mCall m_flat (mCons (mVar 2) (mCons (mVar 5) mNil))) mNil))))) (mTest (mBin pNe (mCall m_parts (mCons (mVar 4) mNil)) (mBin pAdd (mCall m_parts (mCons (mVar 1) mNil)) (mCall m_parts (mCons (mVar 2) mNil)))))) (sRet (mK (.bool false)))
  sNil)
  (sSeq (sIf (mOr (mTest (mBin pNe (mCall m_form (mCons (mVar 4) mNil)) (mCall m_joined (mCons (mCall m_form (mCons (mVar 1) mNil)) (mCons (mCall m_form (mCons (mVar 2) mNil)) mNil))))) (mTest (mBin pNe (mCall m_alike (mCons (mVar 4) (mCons (mVar 2) mNil))) (mBin pEq (mCall m_form (mCons (mVar 1) mNil)) (mTup mNil))))) (sRet (mK (.bool false)))
  sNil)
  (sSeq (sIf (mAnd (mTest (mBin pNe (mVar 2) (mTup mNil))) (mTest (mBin pNe (mBin pIx (mCall m_pens (mCons (mVar 4) mNil)) (mUn pNeg (mK (.int 1)))) (mBin pIx (mCall m_pens (mCons (mVar 2) mNil)) (mUn pNeg (mK (.int 1))))))) (sRet (mK (.bool false)))
  sNil)
  (sSeq (sSet 6 (mLst (mCons (mCall m_flat (mCons (mVar 1) (mCons (mK (.int 2)) mNil))) (mCons (mCall m_flat (mCons (mVar 2) (mCons (mK (.int 2)) mNil))) mNil))))
  (sSeq (sSet 7 (mTup (mCons (mCall m__law_fr (mCons (mBin pSub (mBin pMod (mCall m__law_mixed (mCons (mVar 0) (mCons (mK (.int 4)) mNil))) (mK (.int 41))) (mK (.int 20))) (mCons (mK (.int 7)) mNil))) (mCons (mCall m__law_fr (mCons (mBin pSub (mBin pMod (mCall m__law_mixed (mCons (mVar 0) (mCons (mK (.int 5)) mNil))) (mK (.int 41))) (mK (.int 20))) (mCons (mK (.int 11)) mNil))) mNil))))
  (sSeq (sAsg (mLst (mLc (mItems (mVar 6)) (gN 12) tYesM (mCall m_rounds (mCons (mVar 12) (mCons (mVar 7) mNil))) [12])) (gT 2 (gs1 (gN 8) (gs1 (gN 9) gs0'))))
  (sSeq (sSet 10 (mCall m_rounds (mCons (mCall m_joined (mCons (mBin pIx (mVar 6) (mK (.int 0))) (mCons (mBin pIx (mVar 6) (mK (.int 1))) mNil))) (mCons (mVar 7) mNil))))
  (sSeq (sIf (mOr (mTest (mBin pIs (mVar 8) (mK .none))) (mTest (mBin pIs (mVar 9) (mK .none)))) (sRet (mBin pIs (mVar 10) (mK .none)))
  sNil)
  (sRet (mAndV (mBin pEq (mVar 10) (mBin pAdd (mVar 8) (mVar 9))) (mBin pEq (mCall m_rounds (mCons (mCall m_joined (mCons (mBin pIx (mVar 6) (mK (.int 0))) (mCons (mCall m_backward (mCons (mBin pIx (mVar 6) (mK (.int 0))) mNil)) mNil))) (mCons (mVar 7) mNil))) (mK (.int 0))))))))))))))))))
def m_law_k34 : List PyData → Option PyData := runD N_law_k34 b_law_k34
abbrev N_behind : List Str := ["one", "other", "bare", "first", "second"]
def b_behind : MS := (sSeq (sSet 2 (mBin pAdd (mSl (mVar 1) oNo (oAt (mK (.int 4)))) (mTup (mCons (mK c_NONE) (mCons (mK c_NONE) mNil)))))
  (sSeq (sSet 3 (mCall m_led (mCons (mSl (mVar 0) oNo (oAt (mK (.int 2)))) (mCons (mVar 2) mNil))))
  (sSeq (sSet 4 (mCall m_led (mCons (mSl (mVar 0) (oAt (mK (.int 2))) (oAt (mK (.int 4)))) (mCons (mVar 2) mNil))))
  (sRet (mBin pAdd (mBin pAdd (mVar 3) (mVar 4)) (mCall m_led (mCons (mSl (mVar 0) (oAt (mK (.int 4))) oNo) (mCons (mVar 1) mNil))))))))
def m_behind : List PyData → Option PyData := runD N_behind b_behind
abbrev N_spread : List Str := ["by"]
def b_spread : MS := (sRet (mCall m_minus (mCons (mCall m_times (mCons (mBin pIx (mVar 0) (mK (.int 0))) (mCons (mBin pIx (mVar 0) (mK (.int 3))) mNil))) (mCons (mCall m_times (mCons (mBin pIx (mVar 0) (mK (.int 1))) (mCons (mBin pIx (mVar 0) (mK (.int 2))) mNil))) mNil))))
def m_spread : List PyData → Option PyData := runD N_spread b_spread
abbrev N_undone : List Str := ["by", "whole", "a", "b", "c", "d", "e", "f", "first", "second", "back"]
def b_undone : MS := (sSeq (sSet 1 (mCall m_spread (mCons (mVar 0) mNil)))
  (sSeq (sIf (mTest (mBin pEq (mVar 1) (mK c_NONE))) sNever
  sNil)
  (sSeq (sAsg (mVar 0) (gT 6 (gs1 (gN 2) (gs1 (gN 3) (gs1 (gN 4) (gs1 (gN 5) (gs1 (gN 6) (gs1 (gN 7) gs0'))))))))
  (sSeq (sSet 8 (mTup (mCons (mCall m_over (mCons (mVar 5) (mCons (mVar 1) mNil))) (mCons (mCall m_minus (mCons (mK c_NONE) (mCons (mCall m_over (mCons (mVar 3) (mCons (mVar 1) mNil))) mNil))) mNil))))
  (sSeq (sSet 9 (mTup (mCons (mCall m_minus (mCons (mK c_NONE) (mCons (mCall m_over (mCons (mVar 4) (mCons (mVar 1) mNil))) mNil))) (mCons (mCall m_over (mCons (mVar 2) (mCons (mVar 1) mNil))) mNil))))
  (sSeq (sSet 10 (mCall m_led (mCons (mTup (mCons (mVar 6) (mCons (mVar 7) mNil))) (mCons (mBin pAdd (mBin pAdd (mVar 8) (mVar 9)) (mTup (mCons (mK c_NONE) (mCons (mK c_NONE) mNil)))) mNil))))
  (sRet (mBin pAdd (mBin pAdd (mVar 8) (mVar 9)) (mTup (mCons (mCall m_minus (mCons (mK c_NONE) (mCons (mBin pIx (mVar 10) (mK (.int 0))) mNil))) (mCons (mCall m_minus (mCons (mK c_NONE) (mCons (mBin pIx (mVar 10) (mK (.int 1))) mNil))) mNil)))))))))))
def m_undone : List PyData → Option PyData := runD N_undone b_undone
def rb_undone : Mr Str := (rSeq (sSet 1 (mCall m_spread (mCons (mVar 0) mNil)))
  (rIf (mTest (mBin pEq (mVar 1) (mK c_NONE))) (rK "NoMap") rNo))
def r_undone : List PyData → Option Str := runR N_undone rb_undone
abbrev N_from_corner : List Str := ["three", "begin", "first", "second"]
def b_from_corner : MS := (sSeq (sAsg (mVar 0) (gT 3 (gs1 (gN 1) (gs1 (gN 2) (gs1 (gN 3) gs0')))))
  (sRet (mBin pAdd (mBin pAdd (mCall m_apart (mCons (mVar 2) (mCons (mVar 1) mNil))) (mCall m_apart (mCons (mVar 3) (mCons (mVar 1) mNil)))) (mVar 1))))
def m_from_corner : List PyData → Option PyData := runD N_from_corner b_from_corner
abbrev N_map_from : List Str := ["three", "others"]
def b_map_from : MS := (sRet (mCall m_behind (mCons (mCall m_undone (mCons (mCall m_from_corner (mCons (mVar 0) mNil)) mNil)) (mCons (mCall m_from_corner (mCons (mVar 1) mNil)) mNil))))
def m_map_from : List PyData → Option PyData := runD N_map_from b_map_from
def rb_map_from : Mr Str := (mCall r_undone (mCons (mCall m_from_corner (mCons (mVar 0) mNil)) mNil))
def r_map_from : List PyData → Option Str := runR N_map_from rb_map_from
abbrev N__law_map : List Str := ["number", "found", "k"]
def b__law_map : MS := (sSeq (sSet 1 (mTup mNil))
  (sSeq (sFor (mIt pRng1 (mCons (mK (.int 6)) mNil)) (gN 2) (sSet 1 (mBin pAdd (mVar 1) (mTup (mCons (mCall m__law_number (mCons (mBin pDiv (mCall m__law_drawn (mCons (mVar 0) (mCons (mBin pAdd (mK (.int 40)) (mVar 2)) mNil))) (mK (.int 4))) mNil)) mNil)))))
  (sSeq (sIf (mTest (mBin pEq (mBin pMod (mVar 0) (mK (.int 4))) (mK (.int 0)))) (sSet 1 (mBin pAdd (mTup (mCons (mTup (mCons (mK (.int 0)) (mCons (mK (.int 1)) mNil))) (mCons (mTup (mCons (mK (.int 1)) (mCons (mK (.int 1)) mNil))) (mCons (mTup (mCons (mUn pNeg (mK (.int 1))) (mCons (mK (.int 1)) mNil))) (mCons (mTup (mCons (mK (.int 0)) (mCons (mK (.int 1)) mNil))) mNil))))) (mSl (mVar 1) (oAt (mK (.int 4))) oNo)))
  sNil)
  (sSeq (sIf (mTest (mBin pEq (mBin pMod (mVar 0) (mK (.int 4))) (mK (.int 1)))) (sSet 1 (mBin pAdd (mBin pAdd (mSl (mVar 1) oNo (oAt (mK (.int 2)))) (mSl (mVar 1) oNo (oAt (mK (.int 2))))) (mSl (mVar 1) (oAt (mK (.int 4))) oNo)))
  sNil)
  (sRet (mVar 1))))))
def m__law_map : List PyData → Option PyData := runD N__law_map b__law_map
abbrev N__law_led : List Str := ["point", "by", "right"]
def b__law_led : MS := (sSeq (sSet 2 (mCall m__law_plus (mCons (mCall m__law_plus (mCons (mCall m__law_times (mCons (mBin pIx (mVar 1) (mK (.int 0))) (mCons (mBin pIx (mVar 0) (mK (.int 0))) mNil))) (mCons (mCall m__law_times (mCons (mBin pIx (mVar 1) (mK (.int 2))) (mCons (mBin pIx (mVar 0) (mK (.int 1))) mNil))) mNil))) (mCons (mBin pIx (mVar 1) (mK (.int 4))) mNil))))
  (sRet (mTup (mCons (mVar 2) (mCons (mCall m__law_plus (mCons (mCall m__law_plus (mCons (mCall m__law_times (mCons (mBin pIx (mVar 1) (mK (.int 1))) (mCons (mBin pIx (mVar 0) (mK (.int 0))) mNil))) (mCons (mCall m__law_times (mCons (mBin pIx (mVar 1) (mK (.int 3))) (mCons (mBin pIx (mVar 0) (mK (.int 1))) mNil))) mNil))) (mCons (mBin pIx (mVar 1) (mK (.int 5))) mNil))) mNil)))))
def m__law_led : List PyData → Option PyData := runD N__law_led b__law_led
abbrev N__law_is_back : List Str := ["by", "other", "points", "point"]
def b__law_is_back : MS := (sRet (mBin pEq (mLst (mLc (mItems (mVar 2)) (gN 3) (mTest (mBin pNe (mCall m__law_led (mCons (mCall m__law_led (mCons (mVar 3) (mCons (mVar 0) mNil))) (mCons (mVar 1) mNil))) (mVar 3))) (mVar 3) [3])) (mLst mNil)))
def m__law_is_back : List PyData → Option PyData := runD N__law_is_back b__law_is_back
abbrev N_law_k40 : List Str := ["script", "one", "other", "way", "points", "ends", "point", "due", "stroke", "points_led", "whole", "got", "three", "first", "second", "k"]
def b_law_k40 : MS := (sSeq (sSet 1 (mCall m__law_map (mCons (mCall m__law_mixed (mCons (mVar 0) (mCons (mK (.int 0)) mNil))) mNil)))
  (sSeq (sSet 2 (mCall m__law_map (mCons (mCall m__law_mixed (mCons (mVar 0) (mCons (mK (.int 1)) mNil))) mNil)))
  (sSeq (sSet 3 (mCall m__law_way (mCons (mCall m__law_mixed (mCons (mVar 0) (mCons (mK (.int 2)) mNil))) (mCons (mK (.int 8)) mNil))))
  (sSeq (sSet 4 (mCall pTuple (mCons (mLst (mLc (mIt pRng1 (mCons (mK (.int 6)) mNil)) (gN 15) tYesM (mCall m__law_point (mCons (mCall m__law_mixed (mCons (mVar 0) (mCons (mBin pAdd (mK (.int 3)) (mVar 15)) mNil))) mNil)) [15])) mNil)))
  (sSeq (sSet 5 (mTup (mCons (mTup (mCons (mTup (mCons (mK (.int 0)) (mCons (mK (.int 1)) mNil))) (mCons (mTup (mCons (mK (.int 0)) (mCons (mK (.int 1)) mNil))) mNil))) (mCons (mTup (mCons (mTup (mCons (mK (.int 1)) (mCons (mK (.int 1)) mNil))) (mCons (mTup (mCons (mK (.int 0)) (mCons (mK (.int 1)) mNil))) mNil))) (mCons (mTup (mCons (mTup (mCons (mK (.int 0)) (mCons (mK (.int 1)) mNil))) (mCons (mTup (mCons (mK (.int 1)) (mCons (mK (.int 1)) mNil))) mNil))) mNil)))))
  (sSeq (sFor (mItems (mBin pAdd (mVar 4) (mVar 5))) (gN 6) (sSeq (sIf (mTest (mBin pNe (mCall m_led (mCons (mVar 6) (mCons (mVar 1) mNil))) (mCall m__law_led (mCons (mVar 6) (mCons (mVar 1) mNil))))) (sRet (mK (.bool false)))
  sNil)
  (sIf (mTest (mBin pNe (mCall m__law_led (mCons (mVar 6) (mCons (mCall m_behind (mCons (mVar 1) (mCons (mVar 2) mNil))) mNil))) (mCall m__law_led (mCons (mCall m__law_led (mCons (mVar 6) (mCons (mVar 1) mNil))) (mCons (mVar 2) mNil))))) (sRet (mK (.bool false)))
  sNil)))
  (sSeq (sSet 7 (mTup mNil))
  (sSeq (sFor (mItems (mVar 3)) (gN 8) (sSeq (sSetC false 9 (mLc (mItems (mSl (mVar 8) (oAt (mK (.int 1))) oNo)) (gN 6) tYesM (mCall m__law_led (mCons (mVar 6) (mCons (mVar 1) mNil))) [6]))
  (sSet 7 (mBin pAdd (mVar 7) (mTup (mCons (mBin pAdd (mSl (mVar 8) oNo (oAt (mK (.int 1)))) (mCall pTuple (mCons (mVar 9) mNil))) mNil))))))
  (sSeq (sSet 10 (mCall m__law_minus (mCons (mCall m__law_times (mCons (mBin pIx (mVar 1) (mK (.int 0))) (mCons (mBin pIx (mVar 1) (mK (.int 3))) mNil))) (mCons (mCall m__law_times (mCons (mBin pIx (mVar 1) (mK (.int 1))) (mCons (mBin pIx (mVar 1) (mK (.int 2))) mNil))) mNil))))
  (sSeq (sIf (mOr (mTest (mBin pNe (mCall m_mapped (mCons (mVar 3) (mCons (mVar 1) mNil))) (mVar 7))) (mTest (mBin pNe (mCall m_spread (mCons (mVar 1) mNil)) (mVar 10)))) (sRet (mK (.bool false)))
  sNil)
  (sSeq (sSet 11 (mTold (ixOne "NoMap" 3) (mCall m_undone (mCons (mVar 1) mNil)) (mCall r_undone (mCons (mVar 1) mNil))))
  (sSeq (sIf (mTest (mBin pEq (mVar 10) (mTup (mCons (mK (.int 0)) (mCons (mK (.int 1)) mNil))))) (sIf (mTest (mBin pNe (mVar 11) (mTup (mCons (mK (.str "refused")) (mCons (mK (.int 3)) mNil))))) (sRet (mK (.bool false)))
  sNil)
  (sIf (mOr (mTest (mBin pNe (mBin pIx (mVar 11) (mK (.int 0))) (mK (.str "told")))) (mNot (mTest (mCall m__law_is_back (mCons (mVar 1) (mCons (mBin pIx (mVar 11) (mK (.int 1))) (mCons (mBin pAdd (mVar 4) (mVar 5)) mNil))))))) (sRet (mK (.bool false)))
  sNil))
  (sSeq (sSet 12 (mSl (mVar 4) oNo (oAt (mK (.int 3)))))
  (sSeq (sIf (mTest (mBin pEq (mBin pMod (mCall m__law_mixed (mCons (mVar 0) (mCons (mK (.int 9)) mNil))) (mK (.int 4))) (mK (.int 0)))) (sSet 12 (mBin pAdd (mSl (mVar 12) oNo (oAt (mK (.int 2)))) (mTup (mCons (mCall m__law_add (mCons (mBin pIx (mVar 12) (mK (.int 0))) (mCons (mCall m__law_scale (mCons (mTup (mCons (mK (.int 3)) (mCons (mK (.int 1)) mNil))) (mCons (mCall m__law_sub (mCons (mBin pIx (mVar 12) (mK (.int 1))) (mCons (mBin pIx (mVar 12) (mK (.int 0))) mNil))) mNil))) mNil))) mNil))))
  sNil)
  (sSeq (sSet 13 (mCall m__law_sub (mCons (mBin pIx (mVar 12) (mK (.int 1))) (mCons (mBin pIx (mVar 12) (mK (.int 0))) mNil))))
  (sSeq (sSet 14 (mCall m__law_sub (mCons (mBin pIx (mVar 12) (mK (.int 2))) (mCons (mBin pIx (mVar 12) (mK (.int 0))) mNil))))
  (sSeq (sSet 11 (mTold (ixOne "NoMap" 3) (mCall m_map_from (mCons (mVar 12) (mCons (mSl (mVar 4) (oAt (mK (.int 3))) oNo) mNil))) (mCall r_map_from (mCons (mVar 12) (mCons (mSl (mVar 4) (oAt (mK (.int 3))) oNo) mNil)))))
  (sSeq (sIf (mTest (mBin pEq (mCall m__law_times (mCons (mBin pIx (mVar 13) (mK (.int 0))) (mCons (mBin pIx (mVar 14) (mK (.int 1))) mNil))) (mCall m__law_times (mCons (mBin pIx (mVar 13) (mK (.int 1))) (mCons (mBin pIx (mVar 14) (mK (.int 0))) mNil))))) (sRet (mBin pEq (mVar 11) (mTup (mCons (mK (.str "refused")) (mCons (mK (.int 3)) mNil)))))
  sNil)
  (sRet (mAndV (mBin pEq (mBin pIx (mVar 11) (mK (.int 0))) (mK (.str "told"))) (mBin pEq (mLst (mLc (mItems (mVar 12)) (gN 6) tYesM (mCall m__law_led (mCons (mVar 6) (mCons (mBin pIx (mVar 11) (mK (.int 1))) mNil))) [6])) (mLst (mCall pList (mCons (mSl (mVar 4) (oAt (mK (.int 3))) oNo) mNil))))))))))))))))))))))))
def m_law_k40 : List PyData → Option PyData := runD N_law_k40 b_law_k40
abbrev N_law_k41 : List Str := ["script", "way", "one", "other", "new", "number", "t", "whole", "lines", "point", "many", "there", "part"]
def b_law_k41 : MS := (sSeq (sSet 1 (mCall m__law_way (mCons (mCall m__law_mixed (mCons (mVar 0) (mCons (mK (.int 0)) mNil))) (mCons (mK (.int 8)) mNil))))
  (sSeq (sSet 2 (mCall m__law_map (mCons (mCall m__law_mixed (mCons (mVar 0) (mCons (mK (.int 1)) mNil))) mNil)))
  (sSeq (sSet 3 (mCall m__law_map (mCons (mCall m__law_mixed (mCons (mVar 0) (mCons (mK (.int 2)) mNil))) mNil)))
  (sSeq (sSet 4 (mCall m_mapped (mCons (mVar 1) (mCons (mVar 2) mNil))))
  (sSeq (sIf (mOr (mTest (mBin pNe (mCall m_mapped (mCons (mVar 4) (mCons (mVar 3) mNil))) (mCall m_mapped (mCons (mVar 1) (mCons (mCall m_behind (mCons (mVar 2) (mCons (mVar 3) mNil))) mNil))))) (mTest (mBin pNe (mCall m_area (mCons (mVar 4) mNil)) (mCall m__law_times (mCons (mCall m_spread (mCons (mVar 2) mNil)) (mCons (mCall m_area (mCons (mVar 1) mNil)) mNil)))))) (sRet (mK (.bool false)))
  sNil)
  (sSeq (sIf (mTest (mBin pNe (mCall m_spread (mCons (mCall m_behind (mCons (mVar 2) (mCons (mVar 3) mNil))) mNil)) (mCall m__law_times (mCons (mCall m_spread (mCons (mVar 2) mNil)) (mCons (mCall m_spread (mCons (mVar 3) mNil)) mNil))))) (sRet (mK (.bool false)))
  sNil)
  (sSeq (sFor (mIt pRng1 (mCons (mCall pLen (mCons (mVar 1) mNil)) mNil)) (gN 5) (sSeq (sSet 6 (mCall m__law_fr (mCons (mBin pMod (mCall m__law_mixed (mCons (mVar 0) (mCons (mBin pAdd (mK (.int 3)) (mVar 5)) mNil))) (mK (.int 8))) (mCons (mK (.int 7)) mNil))))
  (sIf (mTest (mBin pNe (mCall m_spot (mCons (mVar 4) (mCons (mVar 5) (mCons (mVar 6) mNil)))) (mCall m_led (mCons (mCall m_spot (mCons (mVar 1) (mCons (mVar 5) (mCons (mVar 6) mNil)))) (mCons (mVar 2) mNil))))) (sRet (mK (.bool false)))
  sNil)))
  (sSeq (sIf (mOr (mTest (mBin pNe (mCall m_parts (mCons (mVar 4) mNil)) (mCall pTuple (mCons (mLst (mLc (mItems (mCall m_parts (mCons (mVar 1) mNil))) (gN 12) tYesM (mCall m_mapped (mCons (mVar 12) (mCons (mVar 2) mNil))) [12])) mNil)))) (mTest (mBin pNe (mCall m_raised (mCons (mVar 4) mNil)) (mCall m_mapped (mCons (mCall m_raised (mCons (mVar 1) mNil)) (mCons (mVar 2) mNil)))))) (sRet (mK (.bool false)))
  sNil)
  (sSeq (sIf (mOr (mTest (mBin pNe (mCall m_backward (mCons (mVar 4) mNil)) (mCall m_mapped (mCons (mCall m_backward (mCons (mVar 1) mNil)) (mCons (mVar 2) mNil))))) (mTest (mBin pNe (mCall m_flat (mCons (mVar 4) (mCons (mK (.int 3)) mNil))) (mCall m_mapped (mCons (mCall m_flat (mCons (mVar 1) (mCons (mK (.int 3)) mNil))) (mCons (mVar 2) mNil)))))) (sRet (mK (.bool false)))
  sNil)
  (sSeq (sSet 7 (mCall m_spread (mCons (mVar 2) mNil)))
  (sSeq (sIf (mTest (mBin pEq (mVar 7) (mTup (mCons (mK (.int 0)) (mCons (mK (.int 1)) mNil))))) (sRet (mK (.bool true)))
  sNil)
  (sSeq (sIf (mOr (mTest (mBin pNe (mCall m_mapped (mCons (mVar 4) (mCons (mCall m_undone (mCons (mVar 2) mNil)) mNil))) (mVar 1))) (mTest (mBin pNe (mCall m_behind (mCons (mVar 2) (mCons (mCall m_undone (mCons (mVar 2) mNil)) mNil))) (mTup (mCons (mTup (mCons (mK (.int 1)) (mCons (mK (.int 1)) mNil))) (mCons (mTup (mCons (mK (.int 0)) (mCons (mK (.int 1)) mNil))) (mCons (mTup (mCons (mK (.int 0)) (mCons (mK (.int 1)) mNil))) (mCons (mTup (mCons (mK (.int 1)) (mCons (mK (.int 1)) mNil))) (mCons (mTup (mCons (mK (.int 0)) (mCons (mK (.int 1)) mNil))) (mCons (mTup (mCons (mK (.int 0)) (mCons (mK (.int 1)) mNil))) mNil)))))))))) (sRet (mK (.bool false)))
  sNil)
  (sSeq (sIf (mOr (mTest (mBin pNe (mCall m_undone (mCons (mCall m_undone (mCons (mVar 2) mNil)) mNil)) (mVar 2))) (mTest (mBin pNe (mCall m_form (mCons (mVar 4) mNil)) (mCall m_mapped (mCons (mCall m_form (mCons (mVar 1) mNil)) (mCons (mVar 2) mNil)))))) (sRet (mK (.bool false)))
  sNil)
  (sSeq (sSet 8 (mCall m_flat (mCons (mVar 1) (mCons (mK (.int 2)) mNil))))
  (sSeq (sSet 9 (mTup (mCons (mCall m__law_fr (mCons (mBin pSub (mBin pMod (mCall m__law_mixed (mCons (mVar 0) (mCons (mK (.int 12)) mNil))) (mK (.int 41))) (mK (.int 20))) (mCons (mK (.int 7)) mNil))) (mCons (mCall m__law_fr (mCons (mBin pSub (mBin pMod (mCall m__law_mixed (mCons (mVar 0) (mCons (mK (.int 13)) mNil))) (mK (.int 41))) (mK (.int 20))) (mCons (mK (.int 11)) mNil))) mNil))))
  (sSeq (sSet 10 (mCall m_rounds (mCons (mVar 8) (mCons (mVar 9) mNil))))
  (sSeq (sSet 11 (mCall m_rounds (mCons (mCall m_mapped (mCons (mVar 8) (mCons (mVar 2) mNil))) (mCons (mCall m_led (mCons (mVar 9) (mCons (mVar 2) mNil))) mNil))))
  (sSeq (sIf (mOr (mTest (mBin pIs (mVar 10) (mK .none))) (mTest (mBin pIs (mVar 11) (mK .none)))) (sRet (mAndV (mBin pIs (mVar 10) (mK .none)) (mBin pIs (mVar 11) (mK .none))))
  sNil)
  (sRet (mBin pEq (mVar 11) (mBin pMul (mVar 10) (mBin pSub (mK (.int 1)) (mBin pMul (mK (.int 2)) (mCall pInt (mCons (mBin pLt (mBin pIx (mVar 7) (mK (.int 0))) (mK (.int 0))) mNil)))))))))))))))))))))))))
def m_law_k41 : List PyData → Option PyData := runD N_law_k41 b_law_k41
abbrev N__law_area : List Str := ["three", "first", "second"]
def b__law_area : MS := (sSeq (sSet 1 (mCall m__law_sub (mCons (mBin pIx (mVar 0) (mK (.int 1))) (mCons (mBin pIx (mVar 0) (mK (.int 0))) mNil))))
  (sSeq (sSet 2 (mCall m__law_sub (mCons (mBin pIx (mVar 0) (mK (.int 2))) (mCons (mBin pIx (mVar 0) (mK (.int 0))) mNil))))
  (sRet (mCall m__law_minus (mCons (mCall m__law_times (mCons (mBin pIx (mVar 1) (mK (.int 0))) (mCons (mBin pIx (mVar 2) (mK (.int 1))) mNil))) (mCons (mCall m__law_times (mCons (mBin pIx (mVar 1) (mK (.int 1))) (mCons (mBin pIx (mVar 2) (mK (.int 0))) mNil))) mNil))))))
def m__law_area : List PyData → Option PyData := runD N__law_area b__law_area
abbrev N__law_is_none : List Str := ["three", "others", "found"]
def b__law_is_none : MS := (sSeq (sTry (sSet 2 (mBin pIs (mCall m_map_from (mCons (mVar 0) (mCons (mVar 1) mNil))) (mK .none))) (mCall r_map_from (mCons (mVar 0) (mCons (mVar 1) mNil))) (okOne "NoMap") (sSet 2 (mK (.bool true))))
  (sRet (mVar 2)))
def m__law_is_none : List PyData → Option PyData := runD N__law_is_none b__law_is_none
abbrev N_law_k42 : List Str := ["script", "one", "two", "three", "rest", "points", "first", "second", "third", "there", "k", "point"]
def b_law_k42 : MS := (sSeq (sAsg (mLst (mLc (mIt pRng1 (mCons (mK (.int 3)) mNil)) (gN 10) tYesM (mCall m__law_map (mCons (mCall m__law_mixed (mCons (mVar 0) (mCons (mVar 10) mNil))) mNil)) [10])) (gT 3 (gs1 (gN 1) (gs1 (gN 2) (gs1 (gN 3) gs0')))))
  (sSeq (sSet 4 (mTup (mCons (mTup (mCons (mK (.int 1)) (mCons (mK (.int 1)) mNil))) (mCons (mTup (mCons (mK (.int 0)) (mCons (mK (.int 1)) mNil))) (mCons (mTup (mCons (mK (.int 0)) (mCons (mK (.int 1)) mNil))) (mCons (mTup (mCons (mK (.int 1)) (mCons (mK (.int 1)) mNil))) (mCons (mTup (mCons (mK (.int 0)) (mCons (mK (.int 1)) mNil))) (mCons (mTup (mCons (mK (.int 0)) (mCons (mK (.int 1)) mNil))) mNil))))))))
  (sSeq (sIf (mTest (mBin pNe (mCall m_behind (mCons (mCall m_behind (mCons (mVar 1) (mCons (mVar 2) mNil))) (mCons (mVar 3) mNil))) (mCall m_behind (mCons (mVar 1) (mCons (mCall m_behind (mCons (mVar 2) (mCons (mVar 3) mNil))) mNil))))) (sRet (mK (.bool false)))
  sNil)
  (sSeq (sIf (mOr (mTest (mBin pNe (mCall m_behind (mCons (mVar 1) (mCons (mVar 4) mNil))) (mVar 1))) (mOr (mTest (mBin pNe (mCall m_behind (mCons (mVar 4) (mCons (mVar 1) mNil))) (mVar 1))) (mOr (mTest (mBin pNe (mCall m_undone (mCons (mVar 4) mNil)) (mVar 4))) (mTest (mBin pNe (mCall m_spread (mCons (mVar 4) mNil)) (mTup (mCons (mK (.int 1)) (mCons (mK (.int 1)) mNil)))))))) (sRet (mK (.bool false)))
  sNil)
  (sSeq (sIf (mTest (mBin pNe (mCall m_spread (mCons (mCall m_behind (mCons (mVar 1) (mCons (mCall m_behind (mCons (mVar 2) (mCons (mVar 3) mNil))) mNil))) mNil)) (mCall m__law_times (mCons (mCall m_spread (mCons (mVar 1) mNil)) (mCons (mCall m__law_times (mCons (mCall m_spread (mCons (mVar 2) mNil)) (mCons (mCall m_spread (mCons (mVar 3) mNil)) mNil))) mNil))))) (sRet (mK (.bool false)))
  sNil)
  (sSeq (sIf (mAnd (mTest (mBin pNe (mBin pIx (mCall m_spread (mCons (mVar 1) mNil)) (mK (.int 0))) (mK (.int 0)))) (mTest (mBin pNe (mBin pIx (mCall m_spread (mCons (mVar 2) mNil)) (mK (.int 0))) (mK (.int 0))))) (sSeq (sIf (mTest (mBin pNe (mCall m_undone (mCons (mCall m_behind (mCons (mVar 1) (mCons (mVar 2) mNil))) mNil)) (mCall m_behind (mCons (mCall m_undone (mCons (mVar 2) mNil)) (mCons (mCall m_undone (mCons (mVar 1) mNil)) mNil))))) (sRet (mK (.bool false)))
  sNil)
  (sIf (mTest (mBin pNe (mCall m__law_times (mCons (mCall m_spread (mCons (mCall m_undone (mCons (mVar 1) mNil)) mNil)) (mCons (mCall m_spread (mCons (mVar 1) mNil)) mNil))) (mTup (mCons (mK (.int 1)) (mCons (mK (.int 1)) mNil))))) (sRet (mK (.bool false)))
  sNil))
  sNil)
  (sSeq (sSet 5 (mCall pTuple (mCons (mLst (mLc (mIt pRng1 (mCons (mK (.int 9)) mNil)) (gN 10) tYesM (mCall m__law_point (mCons (mCall m__law_mixed (mCons (mVar 0) (mCons (mBin pAdd (mK (.int 3)) (mVar 10)) mNil))) mNil)) [10])) mNil)))
  (sSeq (sPar3 6 7 8 (mCons (mSl (mVar 5) oNo (oAt (mK (.int 3)))) (mCons (mSl (mVar 5) (oAt (mK (.int 3))) (oAt (mK (.int 6)))) (mCons (mSl (mVar 5) (oAt (mK (.int 6))) oNo) mNil))))
  (sSeq (sIf (mTest (mBin pEq (mBin pIx (mCall m__law_area (mCons (mVar 6) mNil)) (mK (.int 0))) (mK (.int 0)))) (sRet (mCall m__law_is_none (mCons (mVar 6) (mCons (mVar 7) mNil))))
  sNil)
  (sSeq (sIf (mTest (mBin pNe (mCall m_map_from (mCons (mVar 6) (mCons (mVar 6) mNil))) (mVar 4))) (sRet (mK (.bool false)))
  sNil)
  (sSeq (sSet 9 (mCall m_map_from (mCons (mVar 6) (mCons (mVar 7) mNil))))
  (sSeq (sIf (mTest (mBin pNe (mCall m__law_times (mCons (mCall m_spread (mCons (mVar 9) mNil)) (mCons (mCall m__law_area (mCons (mVar 6) mNil)) mNil))) (mCall m__law_area (mCons (mVar 7) mNil)))) (sRet (mK (.bool false)))
  sNil)
  (sSeq (sIf (mTest (mBin pNe (mLst (mLc (mItems (mVar 6)) (gN 11) tYesM (mCall m_led (mCons (mVar 11) (mCons (mVar 9) mNil))) [11])) (mLst (mCall pList (mCons (mVar 7) mNil))))) (sRet (mK (.bool false)))
  sNil)
  (sSeq (sIf (mTest (mBin pEq (mBin pIx (mCall m__law_area (mCons (mVar 7) mNil)) (mK (.int 0))) (mK (.int 0)))) (sRet (mCall m__law_is_none (mCons (mVar 7) (mCons (mVar 8) mNil))))
  sNil)
  (sRet (mAndV (mBin pEq (mCall m_behind (mCons (mVar 9) (mCons (mCall m_map_from (mCons (mVar 7) (mCons (mVar 8) mNil))) mNil))) (mCall m_map_from (mCons (mVar 6) (mCons (mVar 8) mNil)))) (mBin pEq (mCall m_undone (mCons (mVar 9) mNil)) (mCall m_map_from (mCons (mVar 7) (mCons (mVar 6) mNil))))))))))))))))))))
def m_law_k42 : List PyData → Option PyData := runD N_law_k42 b_law_k42
abbrev N__law_poly : List Str := ["some", "rows", "found", "power", "here", "row", "point"]
def b__law_poly : MS := (sSeq (sSet 1 (mDgt [.inl 2, .inl 3] (mCons (mTup (mCons (mTup (mCons (mK (.int 1)) (mCons (mUn pNeg (mK (.int 1))) mNil))) (mCons (mTup (mCons (mK (.int 0)) (mCons (mK (.int 1)) mNil))) mNil))) (mCons (mTup (mCons (mTup (mCons (mK (.int 1)) (mCons (mUn pNeg (mK (.int 2))) (mCons (mK (.int 1)) mNil)))) (mCons (mTup (mCons (mK (.int 0)) (mCons (mK (.int 2)) (mCons (mUn pNeg (mK (.int 2))) mNil)))) (mCons (mTup (mCons (mK (.int 0)) (mCons (mK (.int 0)) (mCons (mK (.int 1)) mNil)))) mNil)))) mNil)) (mCall pLen (mCons (mVar 0) mNil)) (mK .none)))
  (sSeq (sIf (mTest (mBin pIs (mVar 1) (mK .none))) (sSet 1 (mTup (mCons (mTup (mCons (mK (.int 1)) (mCons (mUn pNeg (mK (.int 3))) (mCons (mK (.int 3)) (mCons (mUn pNeg (mK (.int 1))) mNil))))) (mCons (mTup (mCons (mK (.int 0)) (mCons (mK (.int 3)) (mCons (mUn pNeg (mK (.int 6))) (mCons (mK (.int 3)) mNil))))) (mCons (mTup (mCons (mK (.int 0)) (mCons (mK (.int 0)) (mCons (mK (.int 3)) (mCons (mUn pNeg (mK (.int 3))) mNil))))) (mCons (mTup (mCons (mK (.int 0)) (mCons (mK (.int 0)) (mCons (mK (.int 0)) (mCons (mK (.int 1)) mNil))))) mNil))))))
  sNil)
  (sSeq (sSetL 2 mNil)
  (sSeq (sFor (mIt pRng1 (mCons (mCall pLen (mCons (mVar 0) mNil)) mNil)) (gN 3) (sSeq (sSet 4 (mTup (mCons (mTup (mCons (mK (.int 0)) (mCons (mK (.int 1)) mNil))) (mCons (mTup (mCons (mK (.int 0)) (mCons (mK (.int 1)) mNil))) mNil))))
  (sSeq (sFor (mIt pZip (mCons (mVar 1) (mCons (mVar 0) mNil))) (gT 2 (gs1 (gN 5) (gs1 (gN 6) gs0'))) (sSet 4 (mCall m__law_add (mCons (mVar 4) (mCons (mCall m__law_scale (mCons (mTup (mCons (mBin pIx (mVar 5) (mVar 3)) (mCons (mK (.int 1)) mNil))) (mCons (mVar 6) mNil))) mNil)))))
  (sApp 2 (mVar 4)))))
  (sRet (mVar 2))))))
def m__law_poly : List PyData → Option PyData := runD N__law_poly b__law_poly
abbrev N__law_swept : List Str := ["some", "poly", "whole", "one", "here", "two", "there", "both"]
def b__law_swept : MS := (sSeq (sSet 1 (mCall m__law_poly (mCons (mVar 0) mNil)))
  (sSeq (sSet 2 (mTup (mCons (mK (.int 0)) (mCons (mK (.int 1)) mNil))))
  (sSeq (sFor (mIt pEnum (mCons (mVar 1) mNil)) (gT 2 (gs1 (gN 3) (gs1 (gN 4) gs0'))) (sFor (mIt pEnum (mCons (mVar 1) mNil)) (gT 2 (gs1 (gN 5) (gs1 (gN 6) gs0'))) (sIf (mTest (mBin pGt (mVar 5) (mK (.int 0)))) (sSeq (sSet 7 (mCall m__law_minus (mCons (mCall m__law_times (mCons (mBin pIx (mVar 4) (mK (.int 0))) (mCons (mBin pIx (mVar 6) (mK (.int 1))) mNil))) (mCons (mCall m__law_times (mCons (mBin pIx (mVar 4) (mK (.int 1))) (mCons (mBin pIx (mVar 6) (mK (.int 0))) mNil))) mNil))))
  (sSet 2 (mCall m__law_plus (mCons (mVar 2) (mCons (mCall m__law_times (mCons (mVar 7) (mCons (mCall m__law_fr (mCons (mVar 5) (mCons (mBin pAdd (mVar 3) (mVar 5)) mNil))) mNil))) mNil)))))
  sNil)))
  (sRet (mCall m__law_times (mCons (mVar 2) (mCons (mTup (mCons (mK (.int 1)) (mCons (mK (.int 2)) mNil))) mNil)))))))
def m__law_swept : List PyData → Option PyData := runD N__law_swept b__law_swept
abbrev N__law_drawn_parts : List Str := ["way", "places", "rows", "begin", "at", "stroke", "goal", "row"]
def b__law_drawn_parts : MS := (sSeq (sSet 1 (mCall m__law_pens (mCons (mVar 0) mNil)))
  (sNest 2 (nrC (nSet 3 (mK .none))
  (nrC (nFor (mIt pEnum (mCons (mVar 0) mNil)) (gT 2 (gs1 (gN 4) (gs1 (gN 5) gs0'))) (nIf (mTest (mBin pEq (mBin pIx (mVar 5) (mK (.int 0))) (mK (.str "move")))) (nSet 3 (mK .none))
  (nSeq (nIf (mTest (mBin pIs (mVar 3) (mK .none))) (nSeq (nSet 3 (mBin pIx (mVar 1) (mVar 4)))
  nAppE)
  nNil)
  (nSeq (nSet 6 (mBin pIx (mVar 1) (mBin pAdd (mVar 4) (mK (.int 1)))))
  (nSeq (nAppL (mBin pAdd (mBin pAdd (mLst (mCons (mBin pIx (mVar 1) (mVar 4)) mNil)) (mLst (mCall pList (mCons (mSl (mVar 5) (oAt (mK (.int 1))) (oAt (mUn pNeg (mK (.int 1))))) mNil)))) (mLst (mCons (mVar 6) mNil))))
  (nIf (mTest (mBin pEq (mBin pIx (mVar 5) (mK (.int 0))) (mK (.str "shut")))) (nSet 3 (mK .none))
  nNil))))))
  (nrC (nRows 7 (mLst (mCons (mBin pIx (mIxO 7 (mUn pNeg (mK (.int 1)))) (mUn pNeg (mK (.int 1)))) (mCons (mBin pIx (mIxO 7 (mK (.int 0))) (mK (.int 0))) mNil))))
  nrR)))))
def m__law_drawn_parts : List PyData → Option PyData := runD N__law_drawn_parts b__law_drawn_parts
abbrev N__law_least : List Str := ["some", "found", "one"]
def b__law_least : MS := (sSeq (sSet 1 (mBin pIx (mVar 0) (mK (.int 0))))
  (sSeq (sFor (mItems (mVar 0)) (gN 2) (sIf (mTest (mCall m__law_is_less (mCons (mVar 2) (mCons (mVar 1) mNil)))) (sSet 1 (mVar 2))
  sNil))
  (sRet (mVar 1))))
def m__law_least : List PyData → Option PyData := runD N__law_least b__law_least
abbrev N_law_k50 : List Str := ["script", "way", "whole", "row", "some", "points", "stroke", "low", "high", "at", "least", "point"]
def b_law_k50 : MS := (sSeq (sSet 1 (mCall m__law_way (mCons (mCall m__law_mixed (mCons (mVar 0) (mCons (mK (.int 0)) mNil))) (mCons (mK (.int 8)) mNil))))
  (sSeq (sSet 2 (mTup (mCons (mK (.int 0)) (mCons (mK (.int 1)) mNil))))
  (sSeq (sFor (mItems (mCall m__law_drawn_parts (mCons (mVar 1) mNil))) (gN 3) (sFor (mItems (mVar 3)) (gN 4) (sSet 2 (mCall m__law_plus (mCons (mVar 2) (mCons (mCall m__law_swept (mCons (mVar 4) mNil)) mNil))))))
  (sSeq (sIf (mTest (mBin pNe (mCall m_area (mCons (mVar 1) mNil)) (mVar 2))) (sRet (mK (.bool false)))
  sNil)
  (sSeq (sSet 5 (mLst mNil))
  (sSeq (sFor (mItems (mVar 1)) (gN 6) (sSet 5 (mBin pAdd (mVar 5) (mLst (mCall pList (mCons (mSl (mVar 6) (oAt (mK (.int 1))) oNo) mNil))))))
  (sSeq (sIf (mTest (mBin pEq (mVar 5) (mLst mNil))) (sRet (mBin pIs (mCall m_hull_box (mCons (mVar 1) mNil)) (mK .none)))
  sNil)
  (sSeq (sSet 7 (mCall pTuple (mCons (mLst (mLc (mIt pRng1 (mCons (mK (.int 2)) mNil)) (gN 9) tYesM (mCall m__law_least (mCons (mLst (mLc (mItems (mVar 5)) (gN 11) tYesM (mBin pIx (mVar 11) (mVar 9)) [11])) mNil)) [9])) mNil)))
  (sSeq (sSet 8 (mTup mNil))
  (sSeq (sFor (mIt pRng1 (mCons (mK (.int 2)) mNil)) (gN 9) (sSeq (sSet 10 (mCall m__law_least (mCons (mLst (mLc (mItems (mVar 5)) (gN 11) tYesM (mCall m__law_minus (mCons (mTup (mCons (mK (.int 0)) (mCons (mK (.int 1)) mNil))) (mCons (mBin pIx (mVar 11) (mVar 9)) mNil))) [11])) mNil)))
  (sSet 8 (mBin pAdd (mVar 8) (mTup (mCons (mCall m__law_minus (mCons (mTup (mCons (mK (.int 0)) (mCons (mK (.int 1)) mNil))) (mCons (mVar 10) mNil))) mNil))))))
  (sRet (mBin pEq (mCall m_hull_box (mCons (mVar 1) mNil)) (mTup (mCons (mVar 7) (mCons (mVar 8) mNil)))))))))))))))
def m_law_k50 : List PyData → Option PyData := runD N_law_k50 b_law_k50
abbrev N__law_turns : List Str := ["way", "number", "found", "pen", "first", "goal", "at", "lower", "t"]
def b__law_turns : MS := (sSeq (sSetL 2 (mCons (mTup (mCons (mK (.int 0)) (mCons (mK (.int 1)) mNil))) (mCons (mTup (mCons (mK (.int 1)) (mCons (mK (.int 1)) mNil))) mNil)))
  (sSeq (sIf (mTest (mBin pEq (mBin pIx (mBin pIx (mVar 0) (mVar 1)) (mK (.int 0))) (mK (.str "bow")))) (sSeq (sSet 3 (mBin pIx (mCall m__law_pens (mCons (mVar 0) mNil)) (mVar 1)))
  (sSeq (sAsg (mSl (mBin pIx (mVar 0) (mVar 1)) (oAt (mK (.int 1))) oNo) (gT 2 (gs1 (gN 4) (gs1 (gN 5) gs0'))))
  (sFor (mIt pRng1 (mCons (mK (.int 2)) mNil)) (gN 6) (sSeq (sSet 7 (mCall m__law_plus (mCons (mCall m__law_minus (mCons (mBin pIx (mVar 3) (mVar 6)) (mCons (mBin pIx (mVar 4) (mVar 6)) mNil))) (mCons (mCall m__law_minus (mCons (mBin pIx (mVar 5) (mVar 6)) (mCons (mBin pIx (mVar 4) (mVar 6)) mNil))) mNil))))
  (sIf (mTest (mBin pNe (mVar 7) (mTup (mCons (mK (.int 0)) (mCons (mK (.int 1)) mNil))))) (sSeq (sSet 8 (mCall m__law_times (mCons (mCall m__law_minus (mCons (mBin pIx (mVar 3) (mVar 6)) (mCons (mBin pIx (mVar 4) (mVar 6)) mNil))) (mCons (mCall m__law_fr (mCons (mBin pIx (mVar 7) (mK (.int 1))) (mCons (mBin pIx (mVar 7) (mK (.int 0))) mNil))) mNil))))
  (sIf (mAnd (mTest (mBin pLt (mK (.int 0)) (mBin pIx (mVar 8) (mK (.int 0))))) (mTest (mBin pLt (mBin pIx (mVar 8) (mK (.int 0))) (mBin pIx (mVar 8) (mK (.int 1)))))) (sApp 2 (mVar 8))
  sNil))
  sNil)))))
  sNil)
  (sRet (mVar 2))))
def m__law_turns : List PyData → Option PyData := runD N__law_turns b__law_turns
abbrev N_law_k51 : List Str := ["script", "way", "box", "points", "number", "at", "low", "high", "hull", "t", "point", "stroke"]
def b_law_k51 : MS := (sSeq (sSet 1 (mCall pTuple (mCons (mLst (mLc (mItems (mCall m__law_way (mCons (mCall m__law_mixed (mCons (mVar 0) (mCons (mK (.int 0)) mNil))) (mCons (mK (.int 8)) mNil)))) (gN 11) (mTest (mBin pNe (mBin pIx (mVar 11) (mK (.int 0))) (mK (.str "wave")))) (mVar 11) [11])) mNil)))
  (sSeq (sSet 2 (mCall m_tight_box (mCons (mVar 1) mNil)))
  (sSeq (sIf (mOr (mTest (mBin pEq (mVar 1) (mTup mNil))) (mTest (mBin pIs (mVar 2) (mK .none)))) (sRet (mAndV (mBin pEq (mVar 1) (mTup mNil)) (mBin pIs (mVar 2) (mK .none))))
  sNil)
  (sSeq (sSet 3 (mLst mNil))
  (sSeq (sFor (mIt pRng1 (mCons (mCall pLen (mCons (mVar 1) mNil)) mNil)) (gN 4) (sSet 3 (mBin pAdd (mVar 3) (mLst (mLc (mItems (mCall m__law_turns (mCons (mVar 1) (mCons (mVar 4) mNil)))) (gN 9) tYesM (mCall m__law_spot (mCons (mVar 1) (mCons (mVar 4) (mCons (mVar 9) mNil)))) [9])))))
  (sSeq (sFor (mIt pRng1 (mCons (mK (.int 2)) mNil)) (gN 5) (sSeq (sSet 6 (mBin pIx (mBin pIx (mVar 2) (mK (.int 0))) (mVar 5)))
  (sSeq (sSet 7 (mBin pIx (mBin pIx (mVar 2) (mK (.int 1))) (mVar 5)))
  (sSeq (sIf (mTest (mBin pNe (mLst (mLc (mItems (mVar 3)) (gN 10) (mOr (mTest (mCall m__law_is_less (mCons (mBin pIx (mVar 10) (mVar 5)) (mCons (mVar 6) mNil)))) (mTest (mCall m__law_is_less (mCons (mVar 7) (mCons (mBin pIx (mVar 10) (mVar 5)) mNil))))) (mVar 10) [10])) (mLst mNil))) (sRet (mK (.bool false)))
  sNil)
  (sSeq (sIf (mOr (mTest (mBin pNotIn (mVar 6) (mLst (mLc (mItems (mVar 3)) (gN 10) tYesM (mBin pIx (mVar 10) (mVar 5)) [10])))) (mTest (mBin pNotIn (mVar 7) (mLst (mLc (mItems (mVar 3)) (gN 10) tYesM (mBin pIx (mVar 10) (mVar 5)) [10]))))) (sRet (mK (.bool false)))
  sNil)
  (sSeq (sSet 8 (mCall m_hull_box (mCons (mVar 1) mNil)))
  (sSeq (sIf (mOr (mTest (mCall m__law_is_less (mCons (mVar 6) (mCons (mBin pIx (mBin pIx (mVar 8) (mK (.int 0))) (mVar 5)) mNil)))) (mTest (mCall m__law_is_less (mCons (mBin pIx (mBin pIx (mVar 8) (mK (.int 1))) (mVar 5)) (mCons (mVar 7) mNil))))) (sRet (mK (.bool false)))
  sNil)
  (sFor (mIt pRng1 (mCons (mCall pLen (mCons (mVar 1) mNil)) mNil)) (gN 4) (sSeq (sSet 9 (mCall m__law_fr (mCons (mBin pMod (mCall m__law_mixed (mCons (mVar 0) (mCons (mBin pAdd (mK (.int 1)) (mVar 4)) mNil))) (mK (.int 14))) (mCons (mK (.int 13)) mNil))))
  (sSeq (sSet 10 (mCall m_spot (mCons (mVar 1) (mCons (mVar 4) (mCons (mVar 9) mNil)))))
  (sIf (mOr (mTest (mCall m__law_is_less (mCons (mBin pIx (mVar 10) (mVar 5)) (mCons (mVar 6) mNil)))) (mTest (mCall m__law_is_less (mCons (mVar 7) (mCons (mBin pIx (mVar 10) (mVar 5)) mNil))))) (sRet (mK (.bool false)))
  sNil)))))))))))
  (sRet (mK (.bool true)))))))))
def m_law_k51 : List PyData → Option PyData := runD N_law_k51 b_law_k51
abbrev N__law_cross : List Str := ["one", "other"]
def b__law_cross : MS := (sRet (mCall m__law_minus (mCons (mCall m__law_times (mCons (mBin pIx (mVar 0) (mK (.int 0))) (mCons (mBin pIx (mVar 1) (mK (.int 1))) mNil))) (mCons (mCall m__law_times (mCons (mBin pIx (mVar 0) (mK (.int 1))) (mCons (mBin pIx (mVar 1) (mK (.int 0))) mNil))) mNil))))
def m__law_cross : List PyData → Option PyData := runD N__law_cross b__law_cross
abbrev N__law_is_on : List Str := ["point", "one", "other", "along", "here", "both", "whole"]
def b__law_is_on : MS := (sSeq (sSet 3 (mCall m__law_sub (mCons (mVar 2) (mCons (mVar 1) mNil))))
  (sSeq (sSet 4 (mCall m__law_sub (mCons (mVar 0) (mCons (mVar 1) mNil))))
  (sSeq (sIf (mTest (mBin pEq (mVar 1) (mVar 2))) (sRet (mBin pEq (mVar 0) (mVar 1)))
  sNil)
  (sSeq (sIf (mTest (mBin pNe (mBin pIx (mCall m__law_cross (mCons (mVar 3) (mCons (mVar 4) mNil))) (mK (.int 0))) (mK (.int 0)))) (sRet (mK (.bool false)))
  sNil)
  (sSeq (sSet 5 (mCall m__law_plus (mCons (mCall m__law_times (mCons (mBin pIx (mVar 3) (mK (.int 0))) (mCons (mBin pIx (mVar 4) (mK (.int 0))) mNil))) (mCons (mCall m__law_times (mCons (mBin pIx (mVar 3) (mK (.int 1))) (mCons (mBin pIx (mVar 4) (mK (.int 1))) mNil))) mNil))))
  (sSeq (sSet 6 (mCall m__law_plus (mCons (mCall m__law_times (mCons (mBin pIx (mVar 3) (mK (.int 0))) (mCons (mBin pIx (mVar 3) (mK (.int 0))) mNil))) (mCons (mCall m__law_times (mCons (mBin pIx (mVar 3) (mK (.int 1))) (mCons (mBin pIx (mVar 3) (mK (.int 1))) mNil))) mNil))))
  (sRet (mAndV (mBin pGe (mBin pIx (mVar 5) (mK (.int 0))) (mK (.int 0))) (mBin pGe (mBin pIx (mCall m__law_minus (mCons (mVar 6) (mCons (mVar 5) mNil))) (mK (.int 0))) (mK (.int 0)))))))))))
def m__law_is_on : List PyData → Option PyData := runD N__law_is_on b__law_is_on
abbrev N__law_passed : List Str := ["point", "one", "other", "above", "side", "end"]
def b__law_passed : MS := (sSeq (sSetC false 3 (mLc (mItems (mTup (mCons (mVar 1) (mCons (mVar 2) mNil)))) (gN 5) tYesM (mBin pGt (mBin pIx (mCall m__law_minus (mCons (mBin pIx (mVar 5) (mK (.int 1))) (mCons (mBin pIx (mVar 0) (mK (.int 1))) mNil))) (mK (.int 0))) (mK (.int 0))) [5]))
  (sSeq (sIf (mTest (mBin pEq (mBin pIx (mVar 3) (mK (.int 0))) (mBin pIx (mVar 3) (mK (.int 1))))) (sRet (mK (.int 0)))
  sNil)
  (sSeq (sSet 4 (mBin pIx (mCall m__law_cross (mCons (mCall m__law_sub (mCons (mVar 1) (mCons (mVar 0) mNil))) (mCons (mCall m__law_sub (mCons (mVar 2) (mCons (mVar 0) mNil))) mNil))) (mK (.int 0))))
  (sSeq (sIf (mAnd (mTest (mBin pIx (mVar 3) (mK (.int 0)))) (mTest (mBin pGt (mVar 4) (mK (.int 0))))) (sRet (mK (.int 1)))
  sNil)
  (sSeq (sIf (mAnd (mTest (mBin pIx (mVar 3) (mK (.int 1)))) (mTest (mBin pLt (mVar 4) (mK (.int 0))))) (sRet (mUn pNeg (mK (.int 1))))
  sNil)
  (sRet (mK (.int 0))))))))
def m__law_passed : List PyData → Option PyData := runD N__law_passed b__law_passed
abbrev N_law_k52 : List Str := ["script", "way", "number", "points", "ends", "middle", "point", "many", "row", "some", "k", "stroke"]
def b_law_k52 : MS := (sSeq (sSet 1 (mCall pTuple (mCons (mLst (mLc (mItems (mCall m__law_way (mCons (mCall m__law_mixed (mCons (mVar 0) (mCons (mK (.int 0)) mNil))) (mCons (mK (.int 10)) mNil)))) (gN 11) (mTest (mBin pNotIn (mBin pIx (mVar 11) (mK (.int 0))) (mTup (mCons (mK (.str "bow")) (mCons (mK (.str "wave")) mNil))))) (mVar 11) [11])) mNil)))
  (sSeq (sSet 2 (mCall m__law_mixed (mCons (mVar 0) (mCons (mK (.int 1)) mNil))))
  (sSeq (sSetC true 3 (mLc (mIt pRng1 (mCons (mK (.int 3)) mNil)) (gN 10) tYesM (mCall m__law_point (mCons (mCall m__law_mixed (mCons (mVar 0) (mCons (mBin pAdd (mK (.int 2)) (mVar 10)) mNil))) mNil)) [10]))
  (sSeq (sSet 4 (mCall m__law_pens (mCons (mVar 1) mNil)))
  (sSeq (sApp 3 (mBin pIx (mVar 4) (mBin pMod (mVar 2) (mCall pLen (mCons (mVar 4) mNil)))))
  (sSeq (sSet 5 (mCall m__law_scale (mCons (mTup (mCons (mK (.int 1)) (mCons (mK (.int 2)) mNil))) (mCons (mCall m__law_add (mCons (mBin pIx (mVar 4) (mBin pMod (mBin pDiv (mVar 2) (mK (.int 8))) (mCall pLen (mCons (mVar 4) mNil)))) (mCons (mBin pIx (mVar 4) (mBin pMod (mBin pDiv (mVar 2) (mK (.int 64))) (mCall pLen (mCons (mVar 4) mNil)))) mNil))) mNil))))
  (sSeq (sFrz 3 (sSetL 3 (mAddL (mVar 3) (mLst (mCons (mVar 5) (mCons (mCall m__law_add (mCons (mVar 5) (mCons (mTup (mCons (mCall m__law_fr (mCons (mK (.int 1)) (mCons (mK (.int 7)) mNil))) (mCons (mCall m__law_fr (mCons (mK (.int 1)) (mCons (mK (.int 9)) mNil))) mNil))) mNil))) mNil))))))
  (sSeq (sFrz 3 (sFor (mItems (mVar 3)) (gN 6) (sSeq (sSet 7 (mK (.int 0)))
  (sSeq (sFor (mItems (mCall m__law_drawn_parts (mCons (mVar 1) mNil))) (gN 8) (sFor (mItems (mVar 8)) (gN 9) (sSeq (sIf (mAnd (mTest (mBin pIsNot (mVar 7) (mK .none))) (mTest (mCall m__law_is_on (mCons (mVar 6) (mCons (mBin pIx (mVar 9) (mK (.int 0))) (mCons (mBin pIx (mVar 9) (mUn pNeg (mK (.int 1)))) mNil)))))) (sSet 7 (mK .none))
  sNil)
  (sIf (mTest (mBin pIsNot (mVar 7) (mK .none))) (sSet 7 (mBin pAdd (mVar 7) (mCall m__law_passed (mCons (mVar 6) (mCons (mBin pIx (mVar 9) (mK (.int 0))) (mCons (mBin pIx (mVar 9) (mUn pNeg (mK (.int 1)))) mNil))))))
  sNil))))
  (sIf (mOr (mTest (mBin pNe (mCall m_rounds (mCons (mVar 1) (mCons (mVar 6) mNil))) (mVar 7))) (mTest (mIsi "bool" (mCall m_rounds (mCons (mVar 1) (mCons (mVar 6) mNil)))))) (sRet (mK (.bool false)))
  sNil)))))
  (sRet (mK (.bool true)))))))))))
def m_law_k52 : List PyData → Option PyData := runD N_law_k52 b_law_k52
abbrev N__law_square : List Str := ["corner", "side", "many", "is_left", "ends", "way", "turn", "end"]
def b__law_square : MS := (sSeq (sSet 4 (mLst (mCons (mTup (mCons (mVar 1) (mCons (mTup (mCons (mK (.int 0)) (mCons (mK (.int 1)) mNil))) mNil))) (mCons (mTup (mCons (mVar 1) (mCons (mVar 1) mNil))) (mCons (mTup (mCons (mTup (mCons (mK (.int 0)) (mCons (mK (.int 1)) mNil))) (mCons (mVar 1) mNil))) (mCons (mTup (mCons (mTup (mCons (mK (.int 0)) (mCons (mK (.int 1)) mNil))) (mCons (mTup (mCons (mK (.int 0)) (mCons (mK (.int 1)) mNil))) mNil))) mNil))))))
  (sSeq (sIf (mNot (mTest (mVar 3))) (sSet 4 (mLst (mCons (mBin pIx (mVar 4) (mK (.int 2))) (mCons (mBin pIx (mVar 4) (mK (.int 1))) (mCons (mBin pIx (mVar 4) (mK (.int 0))) (mCons (mBin pIx (mVar 4) (mK (.int 3))) mNil))))))
  sNil)
  (sSeq (sSet 5 (mTup (mCons (mTup (mCons (mK (.str "move")) (mCons (mVar 0) mNil))) mNil)))
  (sSeq (sFor (mIt pRng1 (mCons (mVar 2) mNil)) (gN 6) (sSet 5 (mBin pAdd (mVar 5) (mCall pTuple (mCons (mLst (mLc (mItems (mVar 4)) (gN 7) tYesM (mTup (mCons (mK (.str "line")) (mCons (mCall m__law_add (mCons (mVar 0) (mCons (mVar 7) mNil))) mNil))) [7])) mNil)))))
  (sRet (mVar 5))))))
def m__law_square : List PyData → Option PyData := runD N__law_square b__law_square
abbrev N__law_square_right : List Str := ["by", "number", "many", "is_left", "side", "square", "due", "middle"]
def b__law_square_right : MS := (sSeq (sSet 2 (mBin pAdd (mK (.int 1)) (mBin pMod (mVar 1) (mK (.int 3)))))
  (sSeq (sSet 3 (mBin pEq (mBin pMod (mBin pDiv (mVar 1) (mK (.int 4))) (mK (.int 2))) (mK (.int 0))))
  (sSeq (sSet 4 (mCall m__law_fr (mCons (mBin pAdd (mK (.int 1)) (mBin pMod (mBin pDiv (mVar 1) (mK (.int 8))) (mK (.int 40)))) (mCons (mK (.int 4)) mNil))))
  (sSeq (sSet 5 (mBin pAdd (mCall m__law_square (mCons (mVar 0) (mCons (mVar 4) (mCons (mVar 2) (mCons (mVar 3) mNil))))) (mBin pMulT (mTup (mCons (mTup (mCons (mK (.str "shut")) mNil)) mNil)) (mBin pMod (mBin pDiv (mVar 1) (mK (.int 512))) (mK (.int 2))))))
  (sSeq (sSet 6 (mBin pIx (mCall m__law_scale (mCons (mTup (mCons (mBin pMul (mVar 2) (mBin pSub (mK (.int 1)) (mBin pMul (mK (.int 2)) (mCall pInt (mCons (mNotV (mVar 3)) mNil))))) (mCons (mK (.int 1)) mNil))) (mCons (mTup (mCons (mCall m__law_times (mCons (mVar 4) (mCons (mVar 4) mNil))) (mCons (mTup (mCons (mK (.int 0)) (mCons (mK (.int 1)) mNil))) mNil))) mNil))) (mK (.int 0))))
  (sSeq (sSet 7 (mCall m__law_add (mCons (mVar 0) (mCons (mCall m__law_scale (mCons (mTup (mCons (mK (.int 1)) (mCons (mK (.int 2)) mNil))) (mCons (mTup (mCons (mVar 4) (mCons (mVar 4) mNil))) mNil))) mNil))))
  (sSeq (sIf (mOr (mTest (mBin pNe (mCall m_area (mCons (mVar 5) mNil)) (mVar 6))) (mTest (mBin pNe (mCall m_tight_box (mCons (mVar 5) mNil)) (mTup (mCons (mVar 0) (mCons (mCall m__law_add (mCons (mVar 0) (mCons (mTup (mCons (mVar 4) (mCons (mVar 4) mNil))) mNil))) mNil)))))) (sRet (mK (.bool false)))
  sNil)
  (sSeq (sIf (mTest (mBin pNe (mCall m_rounds (mCons (mVar 5) (mCons (mVar 7) mNil))) (mBin pMul (mVar 2) (mBin pSub (mK (.int 1)) (mBin pMul (mK (.int 2)) (mCall pInt (mCons (mNotV (mVar 3)) mNil))))))) (sRet (mK (.bool false)))
  sNil)
  (sSeq (sIf (mTest (mBin pIsNot (mCall m_rounds (mCons (mVar 5) (mCons (mCall m__law_add (mCons (mVar 0) (mCons (mTup (mCons (mVar 4) (mCons (mVar 4) mNil))) mNil))) mNil))) (mK .none))) (sRet (mK (.bool false)))
  sNil)
  (sSeq (sIf (mOr (mTest (mBin pNe (mCall m_rounds (mCons (mVar 5) (mCons (mCall m__law_add (mCons (mVar 0) (mCons (mTup (mCons (mCall m__law_plus (mCons (mVar 4) (mCons (mTup (mCons (mK (.int 1)) (mCons (mK (.int 3)) mNil))) mNil))) (mCons (mTup (mCons (mK (.int 1)) (mCons (mK (.int 5)) mNil))) mNil))) mNil))) mNil))) (mK (.int 0)))) (mTest (mBin pIsNot (mCall m_rounds (mCons (mVar 5) (mCons (mVar 0) mNil))) (mK .none)))) (sRet (mK (.bool false)))
  sNil)
  (sRet (mAndV (mBin pEq (mCall m_area (mCons (mTup (mCons (mTup (mCons (mK (.str "move")) (mCons (mVar 0) mNil))) (mCons (mTup (mCons (mK (.str "line")) (mCons (mVar 7) mNil))) (mCons (mTup (mCons (mK (.str "line")) (mCons (mVar 0) mNil))) mNil)))) mNil)) (mTup (mCons (mK (.int 0)) (mCons (mK (.int 1)) mNil)))) (mBin pEq (mCall pLen (mCons (mCall m_parts (mCons (mVar 5) mNil)) mNil)) (mK (.int 1)))))))))))))))
def m__law_square_right : List PyData → Option PyData := runD N__law_square_right b__law_square_right
abbrev N_law_k53 : List Str := ["script", "one", "other", "by", "moved_on", "new", "box", "lines", "point"]
def b_law_k53 : MS := (sSeq (sSet 1 (mCall m__law_way (mCons (mCall m__law_mixed (mCons (mVar 0) (mCons (mK (.int 0)) mNil))) (mCons (mK (.int 6)) mNil))))
  (sSeq (sSet 2 (mCall m__law_way (mCons (mCall m__law_mixed (mCons (mVar 0) (mCons (mK (.int 1)) mNil))) (mCons (mK (.int 6)) mNil))))
  (sSeq (sIf (mTest (mBin pNe (mCall m_area (mCons (mCall m_joined (mCons (mVar 1) (mCons (mVar 2) mNil))) mNil)) (mCall m__law_plus (mCons (mCall m_area (mCons (mVar 1) mNil)) (mCons (mCall m_area (mCons (mVar 2) mNil)) mNil))))) (sRet (mK (.bool false)))
  sNil)
  (sSeq (sSet 3 (mCall m__law_point (mCons (mCall m__law_mixed (mCons (mVar 0) (mCons (mK (.int 2)) mNil))) mNil)))
  (sSeq (sSet 4 (mBin pAdd (mTup (mCons (mTup (mCons (mK (.int 1)) (mCons (mK (.int 1)) mNil))) (mCons (mTup (mCons (mK (.int 0)) (mCons (mK (.int 1)) mNil))) (mCons (mTup (mCons (mK (.int 0)) (mCons (mK (.int 1)) mNil))) (mCons (mTup (mCons (mK (.int 1)) (mCons (mK (.int 1)) mNil))) mNil))))) (mVar 3)))
  (sSeq (sSet 5 (mCall m_mapped (mCons (mVar 1) (mCons (mVar 4) mNil))))
  (sSeq (sSet 6 (mCall m_hull_box (mCons (mVar 1) mNil)))
  (sSeq (sIf (mOr (mTest (mBin pNe (mCall m_area (mCons (mVar 5) mNil)) (mCall m_area (mCons (mVar 1) mNil)))) (mTest (mBin pNe (mBin pIs (mVar 6) (mK .none)) (mBin pEq (mVar 1) (mTup mNil))))) (sRet (mK (.bool false)))
  sNil)
  (sSeq (sIf (mAnd (mTest (mBin pIsNot (mVar 6) (mK .none))) (mTest (mBin pNe (mCall m_hull_box (mCons (mVar 5) mNil)) (mCall pTuple (mCons (mLst (mLc (mItems (mVar 6)) (gN 8) tYesM (mCall m__law_add (mCons (mVar 8) (mCons (mVar 3) mNil))) [8])) mNil))))) (sRet (mK (.bool false)))
  sNil)
  (sSeq (sSet 7 (mCall m_flat (mCons (mVar 1) (mCons (mK (.int 2)) mNil))))
  (sSeq (sSet 8 (mTup (mCons (mCall m__law_fr (mCons (mBin pSub (mBin pMod (mCall m__law_mixed (mCons (mVar 0) (mCons (mK (.int 3)) mNil))) (mK (.int 41))) (mK (.int 20))) (mCons (mK (.int 7)) mNil))) (mCons (mCall m__law_fr (mCons (mBin pSub (mBin pMod (mCall m__law_mixed (mCons (mVar 0) (mCons (mK (.int 4)) mNil))) (mK (.int 41))) (mK (.int 20))) (mCons (mK (.int 11)) mNil))) mNil))))
  (sSeq (sIf (mTest (mBin pNe (mCall m_rounds (mCons (mCall m_mapped (mCons (mVar 7) (mCons (mVar 4) mNil))) (mCons (mCall m__law_add (mCons (mVar 8) (mCons (mVar 3) mNil))) mNil))) (mCall m_rounds (mCons (mVar 7) (mCons (mVar 8) mNil))))) (sRet (mK (.bool false)))
  sNil)
  (sSeq (sIf (mOr (mTest (mBin pNe (mCall m_rounds (mCons (mVar 7) (mCons (mTup (mCons (mTup (mCons (mK (.int 99999)) (mCons (mK (.int 1)) mNil))) (mCons (mTup (mCons (mK (.int 88888)) (mCons (mK (.int 1)) mNil))) mNil))) mNil))) (mK (.int 0)))) (mTest (mBin pNe (mCall m_rounds (mCons (mVar 7) (mCons (mTup (mCons (mTup (mCons (mUn pNeg (mK (.int 99999))) (mCons (mK (.int 1)) mNil))) (mCons (mCall m__law_fr (mCons (mK (.int 1)) (mCons (mK (.int 3)) mNil))) mNil))) mNil))) (mK (.int 0))))) (sRet (mK (.bool false)))
  sNil)
  (sRet (mCall m__law_square_right (mCons (mVar 3) (mCons (mCall m__law_mixed (mCons (mVar 0) (mCons (mK (.int 5)) mNil))) mNil)))))))))))))))))
def m_law_k53 : List PyData → Option PyData := runD N_law_k53 b_law_k53
abbrev N__law_sorted_box : List Str := ["one", "other", "low", "high", "at", "pair"]
def b__law_sorted_box : MS := (sSeq (sSet 2 (mTup mNil))
  (sSeq (sSet 3 (mTup mNil))
  (sSeq (sFor (mIt pRng1 (mCons (mK (.int 2)) mNil)) (gN 4) (sSeq (sSet 5 (mLst (mCons (mBin pIx (mVar 0) (mVar 4)) (mCons (mBin pIx (mVar 1) (mVar 4)) mNil))))
  (sSeq (sIf (mTest (mCall m__law_is_less (mCons (mBin pIx (mVar 5) (mK (.int 1))) (mCons (mBin pIx (mVar 5) (mK (.int 0))) mNil)))) (sSet 5 (mUn pRev (mVar 5)))
  sNil)
  (sSeq (sSet 2 (mBin pAdd (mVar 2) (mTup (mCons (mBin pIx (mVar 5) (mK (.int 0))) mNil))))
  (sSet 3 (mBin pAdd (mVar 3) (mTup (mCons (mBin pIx (mVar 5) (mK (.int 1))) mNil))))))))
  (sRet (mTup (mCons (mVar 2) (mCons (mVar 3) mNil)))))))
def m__law_sorted_box : List PyData → Option PyData := runD N__law_sorted_box b__law_sorted_box
abbrev N__law_both : List Str := ["box", "other", "low", "high", "one", "two"]
def b__law_both : MS := (sSeq (sIf (mOr (mTest (mBin pIs (mVar 0) (mK .none))) (mTest (mBin pIs (mVar 1) (mK .none)))) (sRet (mOrA (mVar 0) (mVar 1)))
  sNil)
  (sSeq (sSet 2 (mCall pTuple (mCons (mLst (mLc (mIt pZip (mCons (mBin pIx (mVar 0) (mK (.int 0))) (mCons (mBin pIx (mVar 1) (mK (.int 0))) mNil))) (gT 2 (gs1 (gN 4) (gs1 (gN 5) gs0'))) tYesM (mBin pIx (mLst (mCons (mVar 4) (mCons (mVar 5) mNil))) (mCall pInt (mCons (mCall m__law_is_less (mCons (mVar 5) (mCons (mVar 4) mNil))) mNil))) [4, 5])) mNil)))
  (sSeq (sSet 3 (mCall pTuple (mCons (mLst (mLc (mIt pZip (mCons (mBin pIx (mVar 0) (mK (.int 1))) (mCons (mBin pIx (mVar 1) (mK (.int 1))) mNil))) (gT 2 (gs1 (gN 4) (gs1 (gN 5) gs0'))) tYesM (mBin pIx (mLst (mCons (mVar 4) (mCons (mVar 5) mNil))) (mCall pInt (mCons (mCall m__law_is_less (mCons (mVar 4) (mCons (mVar 5) mNil))) mNil))) [4, 5])) mNil)))
  (sRet (mTup (mCons (mVar 2) (mCons (mVar 3) mNil)))))))
def m__law_both : List PyData → Option PyData := runD N__law_both b__law_both
abbrev N__law_bowed : List Str := ["way", "found", "stroke"]
def b__law_bowed : MS := (sSeq (sSet 1 (mTup mNil))
  (sSeq (sFor (mItems (mVar 0)) (gN 2) (sSeq (sIf (mTest (mBin pEq (mBin pIx (mVar 2) (mK (.int 0))) (mK (.str "wave")))) (sSet 2 (mTup (mCons (mK (.str "bow")) (mCons (mBin pIx (mVar 2) (mK (.int 2))) (mCons (mBin pIx (mVar 2) (mK (.int 3))) mNil)))))
  sNil)
  (sSet 1 (mBin pAdd (mVar 1) (mTup (mCons (mVar 2) mNil))))))
  (sRet (mVar 1))))
def m__law_bowed : List PyData → Option PyData := runD N__law_bowed b__law_bowed
abbrev N_law_k54 : List Str := ["script", "way", "other", "number", "first", "second", "by", "new", "both", "here", "there", "due", "drawn", "at", "whole", "part", "stroke"]
def b_law_k54 : MS := (sSeq (sSet 1 (mCall m__law_bowed (mCons (mCall m__law_way (mCons (mCall m__law_mixed (mCons (mVar 0) (mCons (mK (.int 0)) mNil))) (mCons (mK (.int 8)) mNil))) mNil)))
  (sSeq (sSet 2 (mCall m__law_bowed (mCons (mCall m__law_way (mCons (mCall m__law_mixed (mCons (mVar 0) (mCons (mK (.int 1)) mNil))) (mCons (mK (.int 8)) mNil))) mNil)))
  (sSeq (sSet 3 (mCall m__law_mixed (mCons (mVar 0) (mCons (mK (.int 2)) mNil))))
  (sSeq (sSet 4 (mCall m__law_fr (mCons (mBin pSub (mBin pMod (mVar 3) (mK (.int 9))) (mK (.int 4))) (mCons (mK (.int 2)) mNil))))
  (sSeq (sSet 5 (mCall m__law_fr (mCons (mBin pSub (mBin pMod (mBin pDiv (mVar 3) (mK (.int 16))) (mK (.int 9))) (mK (.int 4))) (mCons (mK (.int 3)) mNil))))
  (sSeq (sSet 6 (mBin pAdd (mTup (mCons (mVar 4) (mCons (mTup (mCons (mK (.int 0)) (mCons (mK (.int 1)) mNil))) (mCons (mTup (mCons (mK (.int 0)) (mCons (mK (.int 1)) mNil))) (mCons (mVar 5) mNil))))) (mCall m__law_point (mCons (mVar 3) mNil))))
  (sSeq (sIf (mTest (mBin pEq (mBin pMod (mBin pDiv (mVar 3) (mK (.int 256))) (mK (.int 2))) (mK (.int 1)))) (sSet 6 (mBin pAdd (mTup (mCons (mTup (mCons (mK (.int 0)) (mCons (mK (.int 1)) mNil))) (mCons (mVar 4) (mCons (mVar 5) (mCons (mTup (mCons (mK (.int 0)) (mCons (mK (.int 1)) mNil))) mNil))))) (mCall m__law_point (mCons (mVar 3) mNil))))
  sNil)
  (sSeq (sSet 7 (mCall m_mapped (mCons (mVar 1) (mCons (mVar 6) mNil))))
  (sSeq (sSet 8 (mCall m_joined (mCons (mVar 1) (mCons (mVar 2) mNil))))
  (sSeq (sIf (mTest (mBin pNe (mCall m__law_both (mCons (mCall m_hull_box (mCons (mVar 1) mNil)) (mCons (mCall m_hull_box (mCons (mVar 2) mNil)) mNil))) (mCall m_hull_box (mCons (mVar 8) mNil)))) (sRet (mK (.bool false)))
  sNil)
  (sSeq (sIf (mTest (mBin pNe (mCall m__law_both (mCons (mCall m_tight_box (mCons (mVar 1) mNil)) (mCons (mCall m_tight_box (mCons (mVar 2) mNil)) mNil))) (mCall m_tight_box (mCons (mVar 8) mNil)))) (sRet (mK (.bool false)))
  sNil)
  (sSeq (sFor (mItems (mTup (mCons (mTup (mCons (mCall m_hull_box (mCons (mVar 1) mNil)) (mCons (mCall m_hull_box (mCons (mVar 7) mNil)) mNil))) (mCons (mTup (mCons (mCall m_tight_box (mCons (mVar 1) mNil)) (mCons (mCall m_tight_box (mCons (mVar 7) mNil)) mNil))) mNil)))) (gT 2 (gs1 (gN 9) (gs1 (gN 10) gs0'))) (sSeq (sSet 11 (mK .none))
  (sSeq (sIf (mTest (mBin pIsNot (mVar 9) (mK .none))) (sSet 11 (mCall m__law_sorted_box (mCons (mCall m_led (mCons (mBin pIx (mVar 9) (mK (.int 0))) (mCons (mVar 6) mNil))) (mCons (mCall m_led (mCons (mBin pIx (mVar 9) (mK (.int 1))) (mCons (mVar 6) mNil))) mNil))))
  sNil)
  (sIf (mTest (mBin pNe (mVar 10) (mVar 11))) (sRet (mK (.bool false)))
  sNil))))
  (sSeq (sSetC false 12 (mLc (mIt pEnum (mCons (mVar 1) mNil)) (gT 2 (gs1 (gN 3) (gs1 (gN 16) gs0'))) (mTest (mBin pNe (mBin pIx (mVar 16) (mK (.int 0))) (mK (.str "move")))) (mVar 3) [3, 16]))
  (sSeq (sIf (mTest (mBin pEq (mVar 12) (mLst mNil))) (sRet (mK (.bool true)))
  sNil)
  (sSeq (sSet 13 (mBin pIx (mVar 12) (mBin pMod (mCall m__law_mixed (mCons (mVar 0) (mCons (mK (.int 3)) mNil))) (mCall pLen (mCons (mVar 12) mNil)))))
  (sSeq (sIf (mTest (mBin pNe (mCall m_tight_box (mCons (mCall m_split (mCons (mVar 1) (mCons (mVar 13) (mCons (mTup (mCons (mK (.int 2)) (mCons (mK (.int 5)) mNil))) mNil)))) mNil)) (mCall m_tight_box (mCons (mVar 1) mNil)))) (sRet (mK (.bool false)))
  sNil)
  (sSeq (sSet 14 (mTup mNil))
  (sSeq (sFor (mItems (mCall m_parts (mCons (mVar 1) mNil))) (gN 15) (sSet 14 (mCall m_joined (mCons (mVar 14) (mCons (mVar 15) mNil)))))
  (sRet (mBin pEq (mCall m_tight_box (mCons (mCall m_backward (mCons (mVar 1) mNil)) mNil)) (mCall m_tight_box (mCons (mVar 14) mNil))))))))))))))))))))))
def m_law_k54 : List PyData → Option PyData := runD N_law_k54 b_law_k54
abbrev N_why_not : List Str := ["one", "other", "here", "there", "number"]
def b_why_not : MS := (sSeq (sSet 2 (mCall m_form (mCons (mVar 0) mNil)))
  (sSeq (sSet 3 (mCall m_form (mCons (mVar 1) mNil)))
  (sSeq (sFor (mIt pRng1 (mCons (mCall pMax2 (mCons (mCall pLen (mCons (mVar 2) mNil)) (mCons (mCall pLen (mCons (mVar 3) mNil)) mNil))) mNil)) (gN 4) (sIf (mTest (mBin pNe (mSl (mVar 2) (oAt (mVar 4)) (oAt (mBin pAdd (mVar 4) (mK (.int 1))))) (mSl (mVar 3) (oAt (mVar 4)) (oAt (mBin pAdd (mVar 4) (mK (.int 1))))))) (sRet (mVar 4))
  sNil))
  (sRet (mK .none)))))
def m_why_not : List PyData → Option PyData := runD N_why_not b_why_not
abbrev N__law_plain_stroke : List Str := ["stroke", "pen", "first"]
def b__law_plain_stroke : MS := (sSeq (sIf (mTest (mBin pEq (mBin pIx (mVar 0) (mK (.int 0))) (mK (.str "wave")))) (sSeq (sSet 2 (mCall m__law_sub (mCons (mCall m__law_scale (mCons (mTup (mCons (mK (.int 3)) (mCons (mK (.int 1)) mNil))) (mCons (mBin pIx (mVar 0) (mK (.int 1))) mNil))) (mCons (mVar 1) mNil))))
  (sIf (mTest (mBin pEq (mVar 2) (mCall m__law_sub (mCons (mCall m__law_scale (mCons (mTup (mCons (mK (.int 3)) (mCons (mK (.int 1)) mNil))) (mCons (mBin pIx (mVar 0) (mK (.int 2))) mNil))) (mCons (mBin pIx (mVar 0) (mK (.int 3))) mNil))))) (sSet 0 (mTup (mCons (mK (.str "bow")) (mCons (mCall m__law_scale (mCons (mTup (mCons (mK (.int 1)) (mCons (mK (.int 2)) mNil))) (mCons (mVar 2) mNil))) (mCons (mBin pIx (mVar 0) (mK (.int 3))) mNil)))))
  sNil))
  sNil)
  (sSeq (sIf (mAnd (mTest (mBin pEq (mBin pIx (mVar 0) (mK (.int 0))) (mK (.str "bow")))) (mTest (mBin pEq (mCall m__law_scale (mCons (mTup (mCons (mK (.int 2)) (mCons (mK (.int 1)) mNil))) (mCons (mBin pIx (mVar 0) (mK (.int 1))) mNil))) (mCall m__law_add (mCons (mVar 1) (mCons (mBin pIx (mVar 0) (mK (.int 2))) mNil)))))) (sSet 0 (mTup (mCons (mK (.str "line")) (mCons (mBin pIx (mVar 0) (mK (.int 2))) mNil))))
  sNil)
  (sRet (mVar 0))))
def m__law_plain_stroke : List PyData → Option PyData := runD N__law_plain_stroke b__law_plain_stroke
abbrev N__law_goes_on : List Str := ["pen", "middle", "goal", "one", "other"]
def b__law_goes_on : MS := (sSeq (sSet 3 (mCall m__law_sub (mCons (mVar 1) (mCons (mVar 0) mNil))))
  (sSeq (sSet 4 (mCall m__law_sub (mCons (mVar 2) (mCons (mVar 1) mNil))))
  (sSeq (sIf (mTest (mBin pNe (mCall m__law_times (mCons (mBin pIx (mVar 3) (mK (.int 0))) (mCons (mBin pIx (mVar 4) (mK (.int 1))) mNil))) (mCall m__law_times (mCons (mBin pIx (mVar 3) (mK (.int 1))) (mCons (mBin pIx (mVar 4) (mK (.int 0))) mNil))))) (sRet (mK (.bool false)))
  sNil)
  (sRet (mBin pGt (mBin pIx (mCall m__law_plus (mCons (mCall m__law_times (mCons (mBin pIx (mVar 3) (mK (.int 0))) (mCons (mBin pIx (mVar 4) (mK (.int 0))) mNil))) (mCons (mCall m__law_times (mCons (mBin pIx (mVar 3) (mK (.int 1))) (mCons (mBin pIx (mVar 4) (mK (.int 1))) mNil))) mNil))) (mK (.int 0))) (mK (.int 0)))))))
def m__law_goes_on : List PyData → Option PyData := runD N__law_goes_on b__law_goes_on
abbrev N__law_form_part : List Str := ["begin", "strokes", "rows", "pen", "stroke", "goal", "from_there", "found", "ends", "row"]
def b__law_form_part : MS := (sSeq (sSetL 2 mNil)
  (sSeq (sSet 3 (mVar 0))
  (sSeq (sFor (mItems (mVar 1)) (gN 4) (sSeq (sSet 4 (mCall m__law_plain_stroke (mCons (mVar 4) (mCons (mVar 3) mNil))))
  (sSeq (sSet 5 (mBin pIx (mBin pAdd (mVar 4) (mTup (mCons (mVar 0) mNil))) (mBin pSub (mCall pLen (mCons (mVar 4) mNil)) (mCall pInt (mCons (mBin pNe (mBin pIx (mVar 4) (mK (.int 0))) (mK (.str "shut"))) mNil)))))
  (sSeq (sIf (mTest (mBin pNe (mVar 4) (mTup (mCons (mK (.str "line")) (mCons (mVar 3) mNil))))) (sSeq (sSet 6 (mVar 3))
  (sSeq (sIf (mAnd (mTest (mBin pEq (mBin pIx (mVar 4) (mK (.int 0))) (mK (.str "line")))) (mAnd (tTmp 2 (mTest (mBin pNe (mVar 2) (mLst mNil)))) (mAnd (tTmp 2 (mTest (mBin pEq (mBin pIx (mBin pIx (mBin pIx (mVar 2) (mUn pNeg (mK (.int 1)))) (mK (.int 0))) (mK (.int 0))) (mK (.str "line"))))) (mTest (mCall m__law_goes_on (mCons (mBin pIx (mIxO 2 (mUn pNeg (mK (.int 1)))) (mK (.int 1))) (mCons (mVar 3) (mCons (mVar 5) mNil)))))))) (sSeq (sSet 6 (mBin pIx (mIxO 2 (mUn pNeg (mK (.int 1)))) (mK (.int 1))))
  (sFrz 2 (sSetL 2 (mSlL (mVar 2) oNo (oAt (mUn pNeg (mK (.int 1))))))))
  sNil)
  (sApp 2 (mTup (mCons (mVar 4) (mCons (mVar 6) mNil))))))
  sNil)
  (sSet 3 (mVar 5))))))
  (sSeq (sFrz 2 (sSetC false 7 (mLc (mItems (mVar 2)) (gN 9) tYesM (mBin pIx (mVar 9) (mK (.int 0))) [9])))
  (sSeq (sWhile (mAnd (mTest (mBin pEq (mSl (mVar 7) (oAt (mUn pNeg (mK (.int 1)))) oNo) (mLst (mCons (mTup (mCons (mK (.str "shut")) mNil)) mNil)))) (mAnd (mTest (mBin pNe (mSl (mVar 7) (oAt (mUn pNeg (mK (.int 2)))) (oAt (mUn pNeg (mK (.int 1))))) (mLst mNil))) (mTest (mBin pEq (mBin pIx (mBin pIx (mVar 7) (mUn pNeg (mK (.int 2)))) (mK (.int 0))) (mK (.str "line")))))) (sSeq (sSet 8 (mBin pAdd (mLst (mCons (mVar 0) mNil)) (mLst (mLc (mItems (mSl (mVar 7) oNo (oAt (mUn pNeg (mK (.int 1)))))) (gN 4) tYesM (mBin pIx (mVar 4) (mUn pNeg (mK (.int 1)))) [4]))))
  (sSeq (sIf (mAnd (mTest (mBin pNe (mBin pIx (mVar 8) (mUn pNeg (mK (.int 1)))) (mVar 0))) (mNot (mTest (mCall m__law_goes_on (mCons (mBin pIx (mVar 8) (mUn pNeg (mK (.int 2)))) (mCons (mBin pIx (mVar 8) (mUn pNeg (mK (.int 1)))) (mCons (mVar 0) mNil))))))) sBreak
  sNil)
  (sSet 7 (mBin pAdd (mSl (mVar 7) oNo (oAt (mUn pNeg (mK (.int 2))))) (mSl (mVar 7) (oAt (mUn pNeg (mK (.int 1)))) oNo))))))
  (sSeq (sIf (mTest (mBin pIn (mVar 7) (mTup (mCons (mLst mNil) (mCons (mLst (mCons (mTup (mCons (mK (.str "shut")) mNil)) mNil)) mNil))))) (sRet (mTup mNil))
  sNil)
  (sRet (mBin pAdd (mTup (mCons (mTup (mCons (mK (.str "move")) (mCons (mVar 0) mNil))) mNil)) (mCall pTuple (mCons (mVar 7) mNil))))))))))
def m__law_form_part : List PyData → Option PyData := runD N__law_form_part b__law_form_part
abbrev N__law_form : List Str := ["way", "found", "begin", "row", "places", "at", "stroke"]
def b__law_form : MS := (sSeq (sSet 1 (mTup mNil))
  (sSeq (sSet 2 (mK .none))
  (sSeq (sSet 3 (mLst mNil))
  (sSeq (sSet 4 (mCall m__law_pens (mCons (mVar 0) mNil)))
  (sSeq (sFor (mIt pEnum (mCons (mVar 0) mNil)) (gT 2 (gs1 (gN 5) (gs1 (gN 6) gs0'))) (sSeq (sIf (mTest (mBin pEq (mBin pIx (mVar 6) (mK (.int 0))) (mK (.str "move")))) (sSeq (sIf (mTest (mBin pNe (mVar 3) (mLst mNil))) (sSet 1 (mBin pAdd (mVar 1) (mCall m__law_form_part (mCons (mVar 2) (mCons (mVar 3) mNil)))))
  sNil)
  (sSeq (sSet 2 (mBin pIx (mVar 6) (mK (.int 1))))
  (sSet 3 (mLst mNil))))
  (sSet 3 (mBin pAdd (mVar 3) (mLst (mCons (mVar 6) mNil)))))
  (sIf (mTest (mBin pEq (mBin pIx (mVar 6) (mK (.int 0))) (mK (.str "shut")))) (sSeq (sSet 1 (mBin pAdd (mVar 1) (mCall m__law_form_part (mCons (mVar 2) (mCons (mVar 3) mNil)))))
  (sSet 3 (mLst mNil)))
  sNil)))
  (sSeq (sIf (mTest (mBin pNe (mVar 3) (mLst mNil))) (sSet 1 (mBin pAdd (mVar 1) (mCall m__law_form_part (mCons (mVar 2) (mCons (mVar 3) mNil)))))
  sNil)
  (sRet (mVar 1))))))))
def m__law_form : List PyData → Option PyData := runD N__law_form b__law_form
abbrev N__law_again : List Str := ["way", "number", "found", "places", "begin", "at", "stroke", "drawn", "pen", "middle", "half", "first", "second"]
def b__law_again : MS := (sSeq (sSet 2 (mTup mNil))
  (sSeq (sSet 3 (mCall m__law_pens (mCons (mVar 0) mNil)))
  (sSeq (sSet 4 (mBin pIx (mVar 3) (mK (.int 0))))
  (sSeq (sFor (mIt pEnum (mCons (mVar 0) mNil)) (gT 2 (gs1 (gN 5) (gs1 (gN 6) gs0'))) (sSeq (sSet 7 (mBin pDiv (mCall m__law_drawn (mCons (mVar 1) (mCons (mVar 5) mNil))) (mK (.int 4))))
  (sSeq (sSet 8 (mBin pIx (mVar 3) (mVar 5)))
  (sSeq (sIf (mTest (mBin pEq (mBin pIx (mVar 6) (mK (.int 0))) (mK (.str "move")))) (sSeq (sSet 4 (mBin pIx (mVar 6) (mK (.int 1))))
  (sSet 2 (mBin pAdd (mBin pAdd (mVar 2) (mBin pMulT (mTup (mCons (mTup (mCons (mK (.str "move")) (mCons (mCall m__law_point (mCons (mVar 7) mNil)) mNil))) mNil)) (mBin pMod (mBin pDiv (mVar 7) (mK (.int 64))) (mK (.int 2))))) (mTup (mCons (mVar 6) mNil)))))
  (sIf (mAnd (mTest (mBin pEq (mBin pIx (mVar 6) (mK (.int 0))) (mK (.str "line")))) (mTest (mBin pEq (mBin pMod (mVar 7) (mK (.int 3))) (mK (.int 0))))) (sSeq (sSet 9 (mCall m__law_add (mCons (mVar 8) (mCons (mCall m__law_scale (mCons (mTup (mCons (mK (.int 1)) (mCons (mK (.int 3)) mNil))) (mCons (mCall m__law_sub (mCons (mBin pIx (mVar 6) (mK (.int 1))) (mCons (mVar 8) mNil))) mNil))) mNil))))
  (sSet 2 (mBin pAdd (mVar 2) (mTup (mCons (mTup (mCons (mK (.str "line")) (mCons (mVar 9) mNil))) (mCons (mVar 6) mNil))))))
  (sIf (mAnd (mTest (mBin pEq (mBin pIx (mVar 6) (mK (.int 0))) (mK (.str "line")))) (mTest (mBin pEq (mBin pMod (mVar 7) (mK (.int 3))) (mK (.int 1))))) (sSeq (sSet 10 (mCall m__law_scale (mCons (mTup (mCons (mK (.int 1)) (mCons (mK (.int 2)) mNil))) (mCons (mCall m__law_add (mCons (mVar 8) (mCons (mBin pIx (mVar 6) (mK (.int 1))) mNil))) mNil))))
  (sSet 2 (mBin pAdd (mVar 2) (mTup (mCons (mTup (mCons (mK (.str "line")) (mCons (mVar 8) mNil))) (mCons (mTup (mCons (mK (.str "bow")) (mCons (mVar 10) (mCons (mBin pIx (mVar 6) (mK (.int 1))) mNil)))) mNil))))))
  (sIf (mAnd (mTest (mBin pEq (mBin pIx (mVar 6) (mK (.int 0))) (mK (.str "bow")))) (mTest (mBin pEq (mBin pMod (mVar 7) (mK (.int 2))) (mK (.int 0))))) (sSeq (sSet 11 (mCall m__law_add (mCons (mCall m__law_scale (mCons (mTup (mCons (mK (.int 1)) (mCons (mK (.int 3)) mNil))) (mCons (mVar 8) mNil))) (mCons (mCall m__law_scale (mCons (mTup (mCons (mK (.int 2)) (mCons (mK (.int 3)) mNil))) (mCons (mBin pIx (mVar 6) (mK (.int 1))) mNil))) mNil))))
  (sSeq (sSet 12 (mCall m__law_add (mCons (mCall m__law_scale (mCons (mTup (mCons (mK (.int 1)) (mCons (mK (.int 3)) mNil))) (mCons (mBin pIx (mVar 6) (mK (.int 2))) mNil))) (mCons (mCall m__law_scale (mCons (mTup (mCons (mK (.int 2)) (mCons (mK (.int 3)) mNil))) (mCons (mBin pIx (mVar 6) (mK (.int 1))) mNil))) mNil))))
  (sSet 2 (mBin pAdd (mVar 2) (mTup (mCons (mTup (mCons (mK (.str "wave")) (mCons (mVar 11) (mCons (mVar 12) (mCons (mBin pIx (mVar 6) (mK (.int 2))) mNil))))) mNil))))))
  (sIf (mAnd (mTest (mBin pEq (mBin pIx (mVar 6) (mK (.int 0))) (mK (.str "shut")))) (mTest (mBin pEq (mBin pMod (mVar 7) (mK (.int 4))) (mK (.int 1))))) (sSeq (sSet 9 (mCall m__law_add (mCons (mVar 8) (mCons (mCall m__law_scale (mCons (mTup (mCons (mK (.int 1)) (mCons (mK (.int 3)) mNil))) (mCons (mCall m__law_sub (mCons (mVar 4) (mCons (mVar 8) mNil))) mNil))) mNil))))
  (sSet 2 (mBin pAdd (mVar 2) (mTup (mCons (mTup (mCons (mK (.str "line")) (mCons (mVar 9) mNil))) (mCons (mVar 6) mNil))))))
  (sIf (mAnd (mTest (mBin pEq (mBin pIx (mVar 6) (mK (.int 0))) (mK (.str "shut")))) (mTest (mBin pGt (mBin pMod (mVar 7) (mK (.int 4))) (mK (.int 1))))) (sSet 2 (mBin pAdd (mVar 2) (mTup (mCons (mTup (mCons (mK (.str "line")) (mCons (mVar 4) mNil))) (mCons (mVar 6) mNil)))))
  (sSet 2 (mBin pAdd (mVar 2) (mTup (mCons (mVar 6) mNil))))))))))
  (sIf (mAnd (mTest (mBin pEq (mBin pIx (mVar 6) (mK (.int 0))) (mK (.str "shut")))) (mAnd (mTest (mBin pLt (mBin pAdd (mVar 5) (mK (.int 1))) (mCall pLen (mCons (mVar 0) mNil)))) (mAnd (mTest (mBin pNe (mBin pIx (mBin pIx (mVar 0) (mBin pAdd (mVar 5) (mK (.int 1)))) (mK (.int 0))) (mK (.str "move")))) (mTest (mBin pEq (mBin pMod (mBin pDiv (mVar 7) (mK (.int 8))) (mK (.int 2))) (mK (.int 0))))))) (sSet 2 (mBin pAdd (mVar 2) (mTup (mCons (mTup (mCons (mK (.str "move")) (mCons (mVar 4) mNil))) mNil))))
  sNil)))))
  (sRet (mBin pAdd (mVar 2) (mBin pMulT (mTup (mCons (mTup (mCons (mK (.str "move")) (mCons (mCall m__law_point (mCons (mVar 1) mNil)) mNil))) mNil)) (mBin pMod (mVar 1) (mK (.int 2))))))))))
def m__law_again : List PyData → Option PyData := runD N__law_again b__law_again
abbrev N_law_k60 : List Str := ["script", "one", "number", "other", "at", "here", "there", "got", "due"]
def b_law_k60 : MS := (sSeq (sSet 1 (mCall m__law_way (mCons (mCall m__law_mixed (mCons (mVar 0) (mCons (mK (.int 0)) mNil))) (mCons (mK (.int 8)) mNil))))
  (sSeq (sSet 2 (mCall m__law_mixed (mCons (mVar 0) (mCons (mK (.int 1)) mNil))))
  (sSeq (sSet 3 (mCall m__law_way (mCons (mCall m__law_mixed (mCons (mVar 0) (mCons (mK (.int 2)) mNil))) (mCons (mK (.int 8)) mNil))))
  (sSeq (sIf (mTest (mBin pGt (mBin pMod (mVar 2) (mK (.int 4))) (mK (.int 0)))) (sSet 3 (mCall m__law_again (mCons (mVar 1) (mCons (mCall m__law_mixed (mCons (mVar 0) (mCons (mK (.int 2)) mNil))) mNil))))
  sNil)
  (sSeq (sIf (mAnd (mTest (mBin pEq (mBin pMod (mVar 2) (mK (.int 4))) (mK (.int 3)))) (mTest (mBin pNe (mVar 3) (mTup mNil)))) (sSeq (sSet 4 (mBin pMod (mBin pDiv (mVar 2) (mK (.int 8))) (mCall pLen (mCons (mVar 3) mNil))))
  (sSet 3 (mBin pAdd (mBin pAdd (mSl (mVar 3) oNo (oAt (mVar 4))) (mBin pMulT (mTup (mCons (mTup (mCons (mK (.str "line")) (mCons (mCall m__law_point (mCons (mVar 2) mNil)) mNil))) mNil)) (mCall pInt (mCons (mBin pGt (mVar 4) (mK (.int 0))) mNil)))) (mSl (mVar 3) (oAt (mVar 4)) oNo))))
  sNil)
  (sSeq (sSet 5 (mCall m__law_form (mCons (mVar 1) mNil)))
  (sSeq (sSet 6 (mCall m__law_form (mCons (mVar 3) mNil)))
  (sSeq (sIf (mOr (mTest (mBin pNe (mCall m_form (mCons (mVar 1) mNil)) (mVar 5))) (mTest (mBin pNe (mCall m_form (mCons (mVar 3) mNil)) (mVar 6)))) (sRet (mK (.bool false)))
  sNil)
  (sSeq (sSet 7 (mCall m_alike (mCons (mVar 1) (mCons (mVar 3) mNil))))
  (sSeq (sIf (mOr (mNot (mTest (mIsi "bool" (mVar 7)))) (mTest (mBin pNe (mVar 7) (mBin pEq (mVar 5) (mVar 6))))) (sRet (mK (.bool false)))
  sNil)
  (sSeq (sSet 8 (mK .none))
  (sSeq (sFor (mIt pRng1 (mCons (mCall pMax2 (mCons (mCall pLen (mCons (mVar 5) mNil)) (mCons (mCall pLen (mCons (mVar 6) mNil)) mNil))) mNil)) (gN 4) (sIf (mAnd (mTest (mBin pIs (mVar 8) (mK .none))) (mTest (mBin pNe (mSl (mVar 5) (oAt (mVar 4)) (oAt (mBin pAdd (mVar 4) (mK (.int 1))))) (mSl (mVar 6) (oAt (mVar 4)) (oAt (mBin pAdd (mVar 4) (mK (.int 1)))))))) (sSet 8 (mVar 4))
  sNil))
  (sRet (mBin pEq (mCall m_why_not (mCons (mVar 1) (mCons (mVar 3) mNil))) (mVar 8)))))))))))))))
def m_law_k60 : List PyData → Option PyData := runD N_law_k60 b_law_k60
abbrev N_law_k61 : List Str := ["script", "way", "plain", "other", "drawn", "number", "places", "stroke", "part", "lines", "point", "many", "far"]
def b_law_k61 : MS := (sSeq (sSet 1 (mCall m__law_way (mCons (mCall m__law_mixed (mCons (mVar 0) (mCons (mK (.int 0)) mNil))) (mCons (mK (.int 8)) mNil))))
  (sSeq (sSet 2 (mCall m_form (mCons (mVar 1) mNil)))
  (sSeq (sIf (mOr (mTest (mBin pNe (mCall m_form (mCons (mVar 2) mNil)) (mVar 2))) (mOr (mTest (mBin pNe (mCall m_area (mCons (mVar 2) mNil)) (mCall m_area (mCons (mVar 1) mNil)))) (mOr (mTest (mBin pGt (mCall pLen (mCons (mCall m_parts (mCons (mVar 2) mNil)) mNil)) (mCall pLen (mCons (mCall m_parts (mCons (mVar 1) mNil)) mNil)))) (mNot (mTest (mCall m_alike (mCons (mVar 1) (mCons (mVar 2) mNil)))))))) (sRet (mK (.bool false)))
  sNil)
  (sSeq (sSet 3 (mCall m__law_again (mCons (mVar 1) (mCons (mCall m__law_mixed (mCons (mVar 0) (mCons (mK (.int 1)) mNil))) mNil))))
  (sSeq (sIf (mOr (mTest (mBin pNe (mCall m_form (mCons (mVar 3) mNil)) (mVar 2))) (mOr (mTest (mBin pIsNot (mCall m_why_not (mCons (mVar 1) (mCons (mVar 3) mNil))) (mK .none))) (mTest (mBin pIsNot (mCall m_alike (mCons (mVar 3) (mCons (mVar 1) mNil))) (mK (.bool true)))))) (sRet (mK (.bool false)))
  sNil)
  (sSeq (sIf (mOr (mTest (mBin pNe (mCall m_form (mCons (mCall m_raised (mCons (mVar 1) mNil)) mNil)) (mVar 2))) (mTest (mBin pNe (mCall m_form (mCons (mCall m_joined (mCons (mVar 1) (mCons (mTup mNil) mNil))) mNil)) (mVar 2)))) (sRet (mK (.bool false)))
  sNil)
  (sSeq (sSetC false 4 (mLc (mIt pEnum (mCons (mVar 1) mNil)) (gT 2 (gs1 (gN 5) (gs1 (gN 7) gs0'))) (mTest (mBin pIn (mBin pIx (mVar 7) (mK (.int 0))) (mTup (mCons (mK (.str "line")) (mCons (mK (.str "shut")) mNil))))) (mVar 5) [5, 7]))
  (sSeq (sIf (mTest (mBin pNe (mVar 4) (mLst mNil))) (sSeq (sSet 5 (mBin pIx (mVar 4) (mBin pMod (mCall m__law_mixed (mCons (mVar 0) (mCons (mK (.int 2)) mNil))) (mCall pLen (mCons (mVar 4) mNil)))))
  (sIf (mAnd (mTest (mBin pEq (mBin pIx (mBin pIx (mVar 1) (mVar 5)) (mK (.int 0))) (mK (.str "line")))) (mTest (mBin pNe (mCall m_form (mCons (mCall m_split (mCons (mVar 1) (mCons (mVar 5) (mCons (mTup (mCons (mK (.int 1)) (mCons (mK (.int 3)) mNil))) mNil)))) mNil)) (mVar 2)))) (sRet (mK (.bool false)))
  sNil))
  sNil)
  (sSeq (sSet 6 (mCall m_pens (mCons (mVar 2) mNil)))
  (sSeq (sFor (mIt pEnum (mCons (mVar 2) mNil)) (gT 2 (gs1 (gN 5) (gs1 (gN 7) gs0'))) (sIf (mOr (mTest (mBin pEq (mVar 7) (mTup (mCons (mK (.str "line")) (mCons (mBin pIx (mVar 6) (mVar 5)) mNil))))) (mAnd (mTest (mBin pEq (mBin pIx (mVar 7) (mK (.int 0))) (mK (.str "move")))) (mTest (mBin pEq (mBin pAdd (mVar 5) (mK (.int 1))) (mCall pLen (mCons (mVar 2) mNil)))))) (sRet (mK (.bool false)))
  sNil))
  (sSeq (sFor (mItems (mCall m_parts (mCons (mVar 2) mNil))) (gN 8) (sIf (mOr (mTest (mBin pNe (mBin pIx (mBin pIx (mVar 8) (mK (.int 0))) (mK (.int 0))) (mK (.str "move")))) (mTest (mBin pLt (mCall pLen (mCons (mVar 8) mNil)) (mK (.int 2))))) (sRet (mK (.bool false)))
  sNil))
  (sSeq (sSet 9 (mCall m_flat (mCons (mVar 1) (mCons (mK (.int 2)) mNil))))
  (sSeq (sSet 10 (mTup (mCons (mCall m__law_fr (mCons (mBin pSub (mBin pMod (mCall m__law_mixed (mCons (mVar 0) (mCons (mK (.int 3)) mNil))) (mK (.int 41))) (mK (.int 20))) (mCons (mK (.int 7)) mNil))) (mCons (mCall m__law_fr (mCons (mBin pSub (mBin pMod (mCall m__law_mixed (mCons (mVar 0) (mCons (mK (.int 4)) mNil))) (mK (.int 41))) (mK (.int 20))) (mCons (mK (.int 11)) mNil))) mNil))))
  (sSeq (sSet 11 (mCall m_rounds (mCons (mVar 9) (mCons (mVar 10) mNil))))
  (sSeq (sIf (mAnd (mTest (mBin pIsNot (mVar 11) (mK .none))) (mTest (mBin pNe (mCall m_rounds (mCons (mCall m_form (mCons (mVar 9) mNil)) (mCons (mVar 10) mNil))) (mVar 11)))) (sRet (mK (.bool false)))
  sNil)
  (sSeq (sIf (mTest (mBin pEq (mVar 1) (mTup mNil))) (sRet (mBin pEq (mVar 2) (mTup mNil)))
  sNil)
  (sSeq (sSet 12 (mCall m_joined (mCons (mVar 1) (mCons (mTup (mCons (mTup (mCons (mK (.str "move")) (mCons (mTup (mCons (mTup (mCons (mK (.int 5000)) (mCons (mK (.int 1)) mNil))) (mCons (mTup (mCons (mK (.int 5000)) (mCons (mK (.int 1)) mNil))) mNil))) mNil))) (mCons (mTup (mCons (mK (.str "line")) (mCons (mTup (mCons (mTup (mCons (mK (.int 5001)) (mCons (mK (.int 1)) mNil))) (mCons (mTup (mCons (mK (.int 5000)) (mCons (mK (.int 1)) mNil))) mNil))) mNil))) mNil))) mNil))))
  (sSeq (sIf (mOr (mTest (mCall m_alike (mCons (mVar 1) (mCons (mVar 12) mNil)))) (mOr (mTest (mBin pNe (mCall m_why_not (mCons (mVar 1) (mCons (mVar 12) mNil))) (mCall pLen (mCons (mVar 2) mNil)))) (mTest (mBin pNe (mCall m_why_not (mCons (mVar 12) (mCons (mVar 1) mNil))) (mCall pLen (mCons (mVar 2) mNil)))))) (sRet (mK (.bool false)))
  sNil)
  (sRet (mBin pEq (mCall m_form (mCons (mVar 12) mNil)) (mCall m_joined (mCons (mVar 2) (mCons (mSl (mVar 12) (oAt (mUn pNeg (mK (.int 2)))) oNo) mNil)))))))))))))))))))))))
def m_law_k61 : List PyData → Option PyData := runD N_law_k61 b_law_k61
abbrev N__law_on : List Str := ["way", "places", "some", "stroke", "further", "at", "point"]
def b__law_on : MS := (sSeq (sIf (mTest (mBin pEq (mVar 0) (mTup mNil))) (sRet (mTup (mCons (mK (.str "refused")) (mCons (mK (.int 4)) mNil))))
  sNil)
  (sSeq (sSet 1 (mCall m__law_pens (mCons (mVar 0) mNil)))
  (sSeq (sSetC false 2 (mLc (mIt pEnum (mCons (mVar 0) mNil)) (gT 2 (gs1 (gN 5) (gs1 (gN 3) gs0'))) (mTest (mBin pNotIn (mBin pIx (mVar 3) (mK (.int 0))) (mTup (mCons (mK (.str "move")) (mCons (mK (.str "shut")) mNil))))) (mVar 5) [5, 3]))
  (sSeq (sIf (mTest (mBin pEq (mVar 2) (mLst mNil))) (sRet (mTup (mCons (mK (.str "refused")) (mCons (mK (.int 2)) mNil))))
  sNil)
  (sSeq (sSet 3 (mBin pIx (mVar 0) (mBin pIx (mVar 2) (mUn pNeg (mK (.int 1))))))
  (sSeq (sSet 4 (mCall m__law_sub (mCons (mBin pIx (mVar 3) (mUn pNeg (mK (.int 1)))) (mCons (mBin pIx (mVar 1) (mBin pIx (mVar 2) (mUn pNeg (mK (.int 1))))) mNil))))
  (sRet (mTup (mCons (mK (.str "told")) (mCons (mBin pAdd (mSl (mVar 3) oNo (oAt (mK (.int 1)))) (mCall pTuple (mCons (mLst (mLc (mItems (mSl (mVar 3) (oAt (mK (.int 1))) oNo)) (gN 6) tYesM (mCall m__law_add (mCons (mVar 6) (mCons (mVar 4) mNil))) [6])) mNil))) mNil))))))))))
def m__law_on : List PyData → Option PyData := runD N__law_on b__law_on
end
end Dm

set_option Elab.async false
set_option linter.all false
set_option maxRecDepth 100000
namespace Dm
open PySem PySem.Spec L2 Dw
/-! ### mirrors, reckoned -/
/-- slots that hold data -/
abbrev fz (d : PyData) : Option Slt := some (.frz d)
abbrev ow (ds : List PyData) : Option Slt := some (.own ds)
section
variable {f g : Mr PyData} {fs : Mr (List PyData)} {c : Mr Bool} {s t : MS} {ρ : Rho} {d : PyData} {i : Nat}
@[simp] theorem mK_ap : mK d ρ = some d := id rfl
@[simp] theorem mVar0 {r : Rho} : mVar 0 (some (.frz d) :: r) = some d := id rfl
@[simp] theorem mVarS {x : Option Slt} {r : Rho} : mVar (i + 1) (x :: r) = mVar i r := id rfl
@[simp] theorem mVar1 {x : Option Slt} {r : Rho} : mVar 1 (x :: r) = mVar 0 r := id rfl
@[simp] theorem mVar2 {x y : Option Slt} {r : Rho} : mVar 2 (x :: y :: r) = mVar 0 r := id rfl
@[simp] theorem mVar3 {x y z : Option Slt} {r : Rho} : mVar 3 (x :: y :: z :: r) = mVar 0 r := id rfl
@[simp] theorem mVar4 {x y z u : Option Slt} {r : Rho} : mVar 4 (x :: y :: z :: u :: r) = mVar 0 r := id rfl
@[simp] theorem mVar5 {x0 x y z u : Option Slt} {r : Rho} : mVar 5 (x0 :: x :: y :: z :: u :: r) = mVar 0 r := id rfl
@[simp] theorem mVar6 {x0 x1 x y z u : Option Slt} {r : Rho} : mVar 6 (x0 :: x1 :: x :: y :: z :: u :: r) = mVar 0 r := id rfl
@[simp] theorem mVar7 {x0 x1 x2 x y z u : Option Slt} {r : Rho} : mVar 7 (x0 :: x1 :: x2 :: x :: y :: z :: u :: r) = mVar 0 r := id rfl
@[simp] theorem mVar8 {x0 x1 x2 x3 x y z u : Option Slt} {r : Rho} : mVar 8 (x0 :: x1 :: x2 :: x3 :: x :: y :: z :: u :: r) = mVar 0 r := id rfl
@[simp] theorem mVar9 {x0 x1 x2 x3 x4 x y z u : Option Slt} {r : Rho} : mVar 9 (x0 :: x1 :: x2 :: x3 :: x4 :: x :: y :: z :: u :: r) = mVar 0 r := id rfl
@[simp] theorem getO0 {ds : List PyData} {r : Rho} : getO 0 (some (.own ds) :: r) = some ds := id rfl
@[simp] theorem getO1 {x : Option Slt} {r : Rho} : getO 1 (x :: r) = getO 0 r := id rfl
@[simp] theorem getO2 {x y : Option Slt} {r : Rho} : getO 2 (x :: y :: r) = getO 0 r := id rfl
@[simp] theorem getO3 {x y z : Option Slt} {r : Rho} : getO 3 (x :: y :: z :: r) = getO 0 r := id rfl
@[simp] theorem getO4 {x y z u : Option Slt} {r : Rho} : getO 4 (x :: y :: z :: u :: r) = getO 0 r := id rfl
@[simp] theorem getO5 {x0 x y z u : Option Slt} {r : Rho} : getO 5 (x0 :: x :: y :: z :: u :: r) = getO 0 r := id rfl
@[simp] theorem mVar10 {x0 x1 x2 x3 x4 x5 x6 x7 x8 x9 : Option Slt} {r : Rho} : mVar 10 (x0 :: x1 :: x2 :: x3 :: x4 :: x5 :: x6 :: x7 :: x8 :: x9 :: r) = mVar 0 r := id rfl
@[simp] theorem mVar11 {x0 x1 x2 x3 x4 x5 x6 x7 x8 x9 x10 : Option Slt} {r : Rho} : mVar 11 (x0 :: x1 :: x2 :: x3 :: x4 :: x5 :: x6 :: x7 :: x8 :: x9 :: x10 :: r) = mVar 0 r := id rfl
@[simp] theorem mVar12 {x0 x1 x2 x3 x4 x5 x6 x7 x8 x9 x10 x11 : Option Slt} {r : Rho} : mVar 12 (x0 :: x1 :: x2 :: x3 :: x4 :: x5 :: x6 :: x7 :: x8 :: x9 :: x10 :: x11 :: r) = mVar 0 r := id rfl
@[simp] theorem mVar13 {x0 x1 x2 x3 x4 x5 x6 x7 x8 x9 x10 x11 x12 : Option Slt} {r : Rho} : mVar 13 (x0 :: x1 :: x2 :: x3 :: x4 :: x5 :: x6 :: x7 :: x8 :: x9 :: x10 :: x11 :: x12 :: r) = mVar 0 r := id rfl
@[simp] theorem mVar14 {x0 x1 x2 x3 x4 x5 x6 x7 x8 x9 x10 x11 x12 x13 : Option Slt} {r : Rho} : mVar 14 (x0 :: x1 :: x2 :: x3 :: x4 :: x5 :: x6 :: x7 :: x8 :: x9 :: x10 :: x11 :: x12 :: x13 :: r) = mVar 0 r := id rfl
@[simp] theorem mVar15 {x0 x1 x2 x3 x4 x5 x6 x7 x8 x9 x10 x11 x12 x13 x14 : Option Slt} {r : Rho} : mVar 15 (x0 :: x1 :: x2 :: x3 :: x4 :: x5 :: x6 :: x7 :: x8 :: x9 :: x10 :: x11 :: x12 :: x13 :: x14 :: r) = mVar 0 r := id rfl
@[simp] theorem mVar16 {x0 x1 x2 x3 x4 x5 x6 x7 x8 x9 x10 x11 x12 x13 x14 x15 : Option Slt} {r : Rho} : mVar 16 (x0 :: x1 :: x2 :: x3 :: x4 :: x5 :: x6 :: x7 :: x8 :: x9 :: x10 :: x11 :: x12 :: x13 :: x14 :: x15 :: r) = mVar 0 r := id rfl
@[simp] theorem mVar17 {x0 x1 x2 x3 x4 x5 x6 x7 x8 x9 x10 x11 x12 x13 x14 x15 x16 : Option Slt} {r : Rho} : mVar 17 (x0 :: x1 :: x2 :: x3 :: x4 :: x5 :: x6 :: x7 :: x8 :: x9 :: x10 :: x11 :: x12 :: x13 :: x14 :: x15 :: x16 :: r) = mVar 0 r := id rfl
@[simp] theorem mVar18 {x0 x1 x2 x3 x4 x5 x6 x7 x8 x9 x10 x11 x12 x13 x14 x15 x16 x17 : Option Slt} {r : Rho} : mVar 18 (x0 :: x1 :: x2 :: x3 :: x4 :: x5 :: x6 :: x7 :: x8 :: x9 :: x10 :: x11 :: x12 :: x13 :: x14 :: x15 :: x16 :: x17 :: r) = mVar 0 r := id rfl
@[simp] theorem mVar19 {x0 x1 x2 x3 x4 x5 x6 x7 x8 x9 x10 x11 x12 x13 x14 x15 x16 x17 x18 : Option Slt} {r : Rho} : mVar 19 (x0 :: x1 :: x2 :: x3 :: x4 :: x5 :: x6 :: x7 :: x8 :: x9 :: x10 :: x11 :: x12 :: x13 :: x14 :: x15 :: x16 :: x17 :: x18 :: r) = mVar 0 r := id rfl
@[simp] theorem mVar20 {x0 x1 x2 x3 x4 x5 x6 x7 x8 x9 x10 x11 x12 x13 x14 x15 x16 x17 x18 x19 : Option Slt} {r : Rho} : mVar 20 (x0 :: x1 :: x2 :: x3 :: x4 :: x5 :: x6 :: x7 :: x8 :: x9 :: x10 :: x11 :: x12 :: x13 :: x14 :: x15 :: x16 :: x17 :: x18 :: x19 :: r) = mVar 0 r := id rfl
@[simp] theorem mVar21 {x0 x1 x2 x3 x4 x5 x6 x7 x8 x9 x10 x11 x12 x13 x14 x15 x16 x17 x18 x19 x20 : Option Slt} {r : Rho} : mVar 21 (x0 :: x1 :: x2 :: x3 :: x4 :: x5 :: x6 :: x7 :: x8 :: x9 :: x10 :: x11 :: x12 :: x13 :: x14 :: x15 :: x16 :: x17 :: x18 :: x19 :: x20 :: r) = mVar 0 r := id rfl
@[simp] theorem mVar22 {x0 x1 x2 x3 x4 x5 x6 x7 x8 x9 x10 x11 x12 x13 x14 x15 x16 x17 x18 x19 x20 x21 : Option Slt} {r : Rho} : mVar 22 (x0 :: x1 :: x2 :: x3 :: x4 :: x5 :: x6 :: x7 :: x8 :: x9 :: x10 :: x11 :: x12 :: x13 :: x14 :: x15 :: x16 :: x17 :: x18 :: x19 :: x20 :: x21 :: r) = mVar 0 r := id rfl
@[simp] theorem mVar23 {x0 x1 x2 x3 x4 x5 x6 x7 x8 x9 x10 x11 x12 x13 x14 x15 x16 x17 x18 x19 x20 x21 x22 : Option Slt} {r : Rho} : mVar 23 (x0 :: x1 :: x2 :: x3 :: x4 :: x5 :: x6 :: x7 :: x8 :: x9 :: x10 :: x11 :: x12 :: x13 :: x14 :: x15 :: x16 :: x17 :: x18 :: x19 :: x20 :: x21 :: x22 :: r) = mVar 0 r := id rfl
@[simp] theorem getO6 {x0 x1 x2 x3 x4 x5 : Option Slt} {r : Rho} : getO 6 (x0 :: x1 :: x2 :: x3 :: x4 :: x5 :: r) = getO 0 r := id rfl
@[simp] theorem getO7 {x0 x1 x2 x3 x4 x5 x6 : Option Slt} {r : Rho} : getO 7 (x0 :: x1 :: x2 :: x3 :: x4 :: x5 :: x6 :: r) = getO 0 r := id rfl
@[simp] theorem getO8 {x0 x1 x2 x3 x4 x5 x6 x7 : Option Slt} {r : Rho} : getO 8 (x0 :: x1 :: x2 :: x3 :: x4 :: x5 :: x6 :: x7 :: r) = getO 0 r := id rfl
@[simp] theorem getO9 {x0 x1 x2 x3 x4 x5 x6 x7 x8 : Option Slt} {r : Rho} : getO 9 (x0 :: x1 :: x2 :: x3 :: x4 :: x5 :: x6 :: x7 :: x8 :: r) = getO 0 r := id rfl
@[simp] theorem getO10 {x0 x1 x2 x3 x4 x5 x6 x7 x8 x9 : Option Slt} {r : Rho} : getO 10 (x0 :: x1 :: x2 :: x3 :: x4 :: x5 :: x6 :: x7 :: x8 :: x9 :: r) = getO 0 r := id rfl
@[simp] theorem getO11 {x0 x1 x2 x3 x4 x5 x6 x7 x8 x9 x10 : Option Slt} {r : Rho} : getO 11 (x0 :: x1 :: x2 :: x3 :: x4 :: x5 :: x6 :: x7 :: x8 :: x9 :: x10 :: r) = getO 0 r := id rfl
@[simp] theorem getO12 {x0 x1 x2 x3 x4 x5 x6 x7 x8 x9 x10 x11 : Option Slt} {r : Rho} : getO 12 (x0 :: x1 :: x2 :: x3 :: x4 :: x5 :: x6 :: x7 :: x8 :: x9 :: x10 :: x11 :: r) = getO 0 r := id rfl
@[simp] theorem getO13 {x0 x1 x2 x3 x4 x5 x6 x7 x8 x9 x10 x11 x12 : Option Slt} {r : Rho} : getO 13 (x0 :: x1 :: x2 :: x3 :: x4 :: x5 :: x6 :: x7 :: x8 :: x9 :: x10 :: x11 :: x12 :: r) = getO 0 r := id rfl
@[simp] theorem getO14 {x0 x1 x2 x3 x4 x5 x6 x7 x8 x9 x10 x11 x12 x13 : Option Slt} {r : Rho} : getO 14 (x0 :: x1 :: x2 :: x3 :: x4 :: x5 :: x6 :: x7 :: x8 :: x9 :: x10 :: x11 :: x12 :: x13 :: r) = getO 0 r := id rfl
@[simp] theorem getO15 {x0 x1 x2 x3 x4 x5 x6 x7 x8 x9 x10 x11 x12 x13 x14 : Option Slt} {r : Rho} : getO 15 (x0 :: x1 :: x2 :: x3 :: x4 :: x5 :: x6 :: x7 :: x8 :: x9 :: x10 :: x11 :: x12 :: x13 :: x14 :: r) = getO 0 r := id rfl
@[simp] theorem getO16 {x0 x1 x2 x3 x4 x5 x6 x7 x8 x9 x10 x11 x12 x13 x14 x15 : Option Slt} {r : Rho} : getO 16 (x0 :: x1 :: x2 :: x3 :: x4 :: x5 :: x6 :: x7 :: x8 :: x9 :: x10 :: x11 :: x12 :: x13 :: x14 :: x15 :: r) = getO 0 r := id rfl
@[simp] theorem getO17 {x0 x1 x2 x3 x4 x5 x6 x7 x8 x9 x10 x11 x12 x13 x14 x15 x16 : Option Slt} {r : Rho} : getO 17 (x0 :: x1 :: x2 :: x3 :: x4 :: x5 :: x6 :: x7 :: x8 :: x9 :: x10 :: x11 :: x12 :: x13 :: x14 :: x15 :: x16 :: r) = getO 0 r := id rfl
@[simp] theorem getO18 {x0 x1 x2 x3 x4 x5 x6 x7 x8 x9 x10 x11 x12 x13 x14 x15 x16 x17 : Option Slt} {r : Rho} : getO 18 (x0 :: x1 :: x2 :: x3 :: x4 :: x5 :: x6 :: x7 :: x8 :: x9 :: x10 :: x11 :: x12 :: x13 :: x14 :: x15 :: x16 :: x17 :: r) = getO 0 r := id rfl
@[simp] theorem getO19 {x0 x1 x2 x3 x4 x5 x6 x7 x8 x9 x10 x11 x12 x13 x14 x15 x16 x17 x18 : Option Slt} {r : Rho} : getO 19 (x0 :: x1 :: x2 :: x3 :: x4 :: x5 :: x6 :: x7 :: x8 :: x9 :: x10 :: x11 :: x12 :: x13 :: x14 :: x15 :: x16 :: x17 :: x18 :: r) = getO 0 r := id rfl
@[simp] theorem getO20 {x0 x1 x2 x3 x4 x5 x6 x7 x8 x9 x10 x11 x12 x13 x14 x15 x16 x17 x18 x19 : Option Slt} {r : Rho} : getO 20 (x0 :: x1 :: x2 :: x3 :: x4 :: x5 :: x6 :: x7 :: x8 :: x9 :: x10 :: x11 :: x12 :: x13 :: x14 :: x15 :: x16 :: x17 :: x18 :: x19 :: r) = getO 0 r := id rfl
@[simp] theorem getO21 {x0 x1 x2 x3 x4 x5 x6 x7 x8 x9 x10 x11 x12 x13 x14 x15 x16 x17 x18 x19 x20 : Option Slt} {r : Rho} : getO 21 (x0 :: x1 :: x2 :: x3 :: x4 :: x5 :: x6 :: x7 :: x8 :: x9 :: x10 :: x11 :: x12 :: x13 :: x14 :: x15 :: x16 :: x17 :: x18 :: x19 :: x20 :: r) = getO 0 r := id rfl
@[simp] theorem getO22 {x0 x1 x2 x3 x4 x5 x6 x7 x8 x9 x10 x11 x12 x13 x14 x15 x16 x17 x18 x19 x20 x21 : Option Slt} {r : Rho} : getO 22 (x0 :: x1 :: x2 :: x3 :: x4 :: x5 :: x6 :: x7 :: x8 :: x9 :: x10 :: x11 :: x12 :: x13 :: x14 :: x15 :: x16 :: x17 :: x18 :: x19 :: x20 :: x21 :: r) = getO 0 r := id rfl
@[simp] theorem getO23 {x0 x1 x2 x3 x4 x5 x6 x7 x8 x9 x10 x11 x12 x13 x14 x15 x16 x17 x18 x19 x20 x21 x22 : Option Slt} {r : Rho} : getO 23 (x0 :: x1 :: x2 :: x3 :: x4 :: x5 :: x6 :: x7 :: x8 :: x9 :: x10 :: x11 :: x12 :: x13 :: x14 :: x15 :: x16 :: x17 :: x18 :: x19 :: x20 :: x21 :: x22 :: r) = getO 0 r := id rfl
@[simp] theorem frz1_1 {x0 : Option Slt} {ds : List PyData} {r : Rho} : frz1 1 (x0 :: some (.own ds) :: r) = x0 :: some (.frz (.list ds)) :: r := id rfl
@[simp] theorem frz1_2 {x0 x1 : Option Slt} {ds : List PyData} {r : Rho} : frz1 2 (x0 :: x1 :: some (.own ds) :: r) = x0 :: x1 :: some (.frz (.list ds)) :: r := id rfl
@[simp] theorem frz1_3 {x0 x1 x2 : Option Slt} {ds : List PyData} {r : Rho} : frz1 3 (x0 :: x1 :: x2 :: some (.own ds) :: r) = x0 :: x1 :: x2 :: some (.frz (.list ds)) :: r := id rfl
@[simp] theorem frz1_4 {x0 x1 x2 x3 : Option Slt} {ds : List PyData} {r : Rho} : frz1 4 (x0 :: x1 :: x2 :: x3 :: some (.own ds) :: r) = x0 :: x1 :: x2 :: x3 :: some (.frz (.list ds)) :: r := id rfl
@[simp] theorem frz1_5 {x0 x1 x2 x3 x4 : Option Slt} {ds : List PyData} {r : Rho} : frz1 5 (x0 :: x1 :: x2 :: x3 :: x4 :: some (.own ds) :: r) = x0 :: x1 :: x2 :: x3 :: x4 :: some (.frz (.list ds)) :: r := id rfl
@[simp] theorem frz1_6 {x0 x1 x2 x3 x4 x5 : Option Slt} {ds : List PyData} {r : Rho} : frz1 6 (x0 :: x1 :: x2 :: x3 :: x4 :: x5 :: some (.own ds) :: r) = x0 :: x1 :: x2 :: x3 :: x4 :: x5 :: some (.frz (.list ds)) :: r := id rfl
@[simp] theorem frz1_7 {x0 x1 x2 x3 x4 x5 x6 : Option Slt} {ds : List PyData} {r : Rho} : frz1 7 (x0 :: x1 :: x2 :: x3 :: x4 :: x5 :: x6 :: some (.own ds) :: r) = x0 :: x1 :: x2 :: x3 :: x4 :: x5 :: x6 :: some (.frz (.list ds)) :: r := id rfl
@[simp] theorem frz1_8 {x0 x1 x2 x3 x4 x5 x6 x7 : Option Slt} {ds : List PyData} {r : Rho} : frz1 8 (x0 :: x1 :: x2 :: x3 :: x4 :: x5 :: x6 :: x7 :: some (.own ds) :: r) = x0 :: x1 :: x2 :: x3 :: x4 :: x5 :: x6 :: x7 :: some (.frz (.list ds)) :: r := id rfl
@[simp] theorem frz1_9 {x0 x1 x2 x3 x4 x5 x6 x7 x8 : Option Slt} {ds : List PyData} {r : Rho} : frz1 9 (x0 :: x1 :: x2 :: x3 :: x4 :: x5 :: x6 :: x7 :: x8 :: some (.own ds) :: r) = x0 :: x1 :: x2 :: x3 :: x4 :: x5 :: x6 :: x7 :: x8 :: some (.frz (.list ds)) :: r := id rfl
@[simp] theorem frz1_10 {x0 x1 x2 x3 x4 x5 x6 x7 x8 x9 : Option Slt} {ds : List PyData} {r : Rho} : frz1 10 (x0 :: x1 :: x2 :: x3 :: x4 :: x5 :: x6 :: x7 :: x8 :: x9 :: some (.own ds) :: r) = x0 :: x1 :: x2 :: x3 :: x4 :: x5 :: x6 :: x7 :: x8 :: x9 :: some (.frz (.list ds)) :: r := id rfl
@[simp] theorem frz1_11 {x0 x1 x2 x3 x4 x5 x6 x7 x8 x9 x10 : Option Slt} {ds : List PyData} {r : Rho} : frz1 11 (x0 :: x1 :: x2 :: x3 :: x4 :: x5 :: x6 :: x7 :: x8 :: x9 :: x10 :: some (.own ds) :: r) = x0 :: x1 :: x2 :: x3 :: x4 :: x5 :: x6 :: x7 :: x8 :: x9 :: x10 :: some (.frz (.list ds)) :: r := id rfl
@[simp] theorem frz1_12 {x0 x1 x2 x3 x4 x5 x6 x7 x8 x9 x10 x11 : Option Slt} {ds : List PyData} {r : Rho} : frz1 12 (x0 :: x1 :: x2 :: x3 :: x4 :: x5 :: x6 :: x7 :: x8 :: x9 :: x10 :: x11 :: some (.own ds) :: r) = x0 :: x1 :: x2 :: x3 :: x4 :: x5 :: x6 :: x7 :: x8 :: x9 :: x10 :: x11 :: some (.frz (.list ds)) :: r := id rfl
@[simp] theorem frz1_13 {x0 x1 x2 x3 x4 x5 x6 x7 x8 x9 x10 x11 x12 : Option Slt} {ds : List PyData} {r : Rho} : frz1 13 (x0 :: x1 :: x2 :: x3 :: x4 :: x5 :: x6 :: x7 :: x8 :: x9 :: x10 :: x11 :: x12 :: some (.own ds) :: r) = x0 :: x1 :: x2 :: x3 :: x4 :: x5 :: x6 :: x7 :: x8 :: x9 :: x10 :: x11 :: x12 :: some (.frz (.list ds)) :: r := id rfl
@[simp] theorem frz1_14 {x0 x1 x2 x3 x4 x5 x6 x7 x8 x9 x10 x11 x12 x13 : Option Slt} {ds : List PyData} {r : Rho} : frz1 14 (x0 :: x1 :: x2 :: x3 :: x4 :: x5 :: x6 :: x7 :: x8 :: x9 :: x10 :: x11 :: x12 :: x13 :: some (.own ds) :: r) = x0 :: x1 :: x2 :: x3 :: x4 :: x5 :: x6 :: x7 :: x8 :: x9 :: x10 :: x11 :: x12 :: x13 :: some (.frz (.list ds)) :: r := id rfl
@[simp] theorem frz1_15 {x0 x1 x2 x3 x4 x5 x6 x7 x8 x9 x10 x11 x12 x13 x14 : Option Slt} {ds : List PyData} {r : Rho} : frz1 15 (x0 :: x1 :: x2 :: x3 :: x4 :: x5 :: x6 :: x7 :: x8 :: x9 :: x10 :: x11 :: x12 :: x13 :: x14 :: some (.own ds) :: r) = x0 :: x1 :: x2 :: x3 :: x4 :: x5 :: x6 :: x7 :: x8 :: x9 :: x10 :: x11 :: x12 :: x13 :: x14 :: some (.frz (.list ds)) :: r := id rfl
@[simp] theorem frz1_16 {x0 x1 x2 x3 x4 x5 x6 x7 x8 x9 x10 x11 x12 x13 x14 x15 : Option Slt} {ds : List PyData} {r : Rho} : frz1 16 (x0 :: x1 :: x2 :: x3 :: x4 :: x5 :: x6 :: x7 :: x8 :: x9 :: x10 :: x11 :: x12 :: x13 :: x14 :: x15 :: some (.own ds) :: r) = x0 :: x1 :: x2 :: x3 :: x4 :: x5 :: x6 :: x7 :: x8 :: x9 :: x10 :: x11 :: x12 :: x13 :: x14 :: x15 :: some (.frz (.list ds)) :: r := id rfl
@[simp] theorem frz1_17 {x0 x1 x2 x3 x4 x5 x6 x7 x8 x9 x10 x11 x12 x13 x14 x15 x16 : Option Slt} {ds : List PyData} {r : Rho} : frz1 17 (x0 :: x1 :: x2 :: x3 :: x4 :: x5 :: x6 :: x7 :: x8 :: x9 :: x10 :: x11 :: x12 :: x13 :: x14 :: x15 :: x16 :: some (.own ds) :: r) = x0 :: x1 :: x2 :: x3 :: x4 :: x5 :: x6 :: x7 :: x8 :: x9 :: x10 :: x11 :: x12 :: x13 :: x14 :: x15 :: x16 :: some (.frz (.list ds)) :: r := id rfl
@[simp] theorem frz1_18 {x0 x1 x2 x3 x4 x5 x6 x7 x8 x9 x10 x11 x12 x13 x14 x15 x16 x17 : Option Slt} {ds : List PyData} {r : Rho} : frz1 18 (x0 :: x1 :: x2 :: x3 :: x4 :: x5 :: x6 :: x7 :: x8 :: x9 :: x10 :: x11 :: x12 :: x13 :: x14 :: x15 :: x16 :: x17 :: some (.own ds) :: r) = x0 :: x1 :: x2 :: x3 :: x4 :: x5 :: x6 :: x7 :: x8 :: x9 :: x10 :: x11 :: x12 :: x13 :: x14 :: x15 :: x16 :: x17 :: some (.frz (.list ds)) :: r := id rfl
@[simp] theorem frz1_19 {x0 x1 x2 x3 x4 x5 x6 x7 x8 x9 x10 x11 x12 x13 x14 x15 x16 x17 x18 : Option Slt} {ds : List PyData} {r : Rho} : frz1 19 (x0 :: x1 :: x2 :: x3 :: x4 :: x5 :: x6 :: x7 :: x8 :: x9 :: x10 :: x11 :: x12 :: x13 :: x14 :: x15 :: x16 :: x17 :: x18 :: some (.own ds) :: r) = x0 :: x1 :: x2 :: x3 :: x4 :: x5 :: x6 :: x7 :: x8 :: x9 :: x10 :: x11 :: x12 :: x13 :: x14 :: x15 :: x16 :: x17 :: x18 :: some (.frz (.list ds)) :: r := id rfl
@[simp] theorem frz1_20 {x0 x1 x2 x3 x4 x5 x6 x7 x8 x9 x10 x11 x12 x13 x14 x15 x16 x17 x18 x19 : Option Slt} {ds : List PyData} {r : Rho} : frz1 20 (x0 :: x1 :: x2 :: x3 :: x4 :: x5 :: x6 :: x7 :: x8 :: x9 :: x10 :: x11 :: x12 :: x13 :: x14 :: x15 :: x16 :: x17 :: x18 :: x19 :: some (.own ds) :: r) = x0 :: x1 :: x2 :: x3 :: x4 :: x5 :: x6 :: x7 :: x8 :: x9 :: x10 :: x11 :: x12 :: x13 :: x14 :: x15 :: x16 :: x17 :: x18 :: x19 :: some (.frz (.list ds)) :: r := id rfl
@[simp] theorem frz1_21 {x0 x1 x2 x3 x4 x5 x6 x7 x8 x9 x10 x11 x12 x13 x14 x15 x16 x17 x18 x19 x20 : Option Slt} {ds : List PyData} {r : Rho} : frz1 21 (x0 :: x1 :: x2 :: x3 :: x4 :: x5 :: x6 :: x7 :: x8 :: x9 :: x10 :: x11 :: x12 :: x13 :: x14 :: x15 :: x16 :: x17 :: x18 :: x19 :: x20 :: some (.own ds) :: r) = x0 :: x1 :: x2 :: x3 :: x4 :: x5 :: x6 :: x7 :: x8 :: x9 :: x10 :: x11 :: x12 :: x13 :: x14 :: x15 :: x16 :: x17 :: x18 :: x19 :: x20 :: some (.frz (.list ds)) :: r := id rfl
@[simp] theorem frz1_22 {x0 x1 x2 x3 x4 x5 x6 x7 x8 x9 x10 x11 x12 x13 x14 x15 x16 x17 x18 x19 x20 x21 : Option Slt} {ds : List PyData} {r : Rho} : frz1 22 (x0 :: x1 :: x2 :: x3 :: x4 :: x5 :: x6 :: x7 :: x8 :: x9 :: x10 :: x11 :: x12 :: x13 :: x14 :: x15 :: x16 :: x17 :: x18 :: x19 :: x20 :: x21 :: some (.own ds) :: r) = x0 :: x1 :: x2 :: x3 :: x4 :: x5 :: x6 :: x7 :: x8 :: x9 :: x10 :: x11 :: x12 :: x13 :: x14 :: x15 :: x16 :: x17 :: x18 :: x19 :: x20 :: x21 :: some (.frz (.list ds)) :: r := id rfl
@[simp] theorem frz1_23 {x0 x1 x2 x3 x4 x5 x6 x7 x8 x9 x10 x11 x12 x13 x14 x15 x16 x17 x18 x19 x20 x21 x22 : Option Slt} {ds : List PyData} {r : Rho} : frz1 23 (x0 :: x1 :: x2 :: x3 :: x4 :: x5 :: x6 :: x7 :: x8 :: x9 :: x10 :: x11 :: x12 :: x13 :: x14 :: x15 :: x16 :: x17 :: x18 :: x19 :: x20 :: x21 :: x22 :: some (.own ds) :: r) = x0 :: x1 :: x2 :: x3 :: x4 :: x5 :: x6 :: x7 :: x8 :: x9 :: x10 :: x11 :: x12 :: x13 :: x14 :: x15 :: x16 :: x17 :: x18 :: x19 :: x20 :: x21 :: x22 :: some (.frz (.list ds)) :: r := id rfl
@[simp] theorem mBin_ap {p : PyData → PyData → Option PyData} : mBin p f g ρ = (f ρ).bind fun x => (g ρ).bind fun y => p x y := id rfl
@[simp] theorem mUn_ap {p : PyData → Option PyData} : mUn p f ρ = (f ρ).bind p := id rfl
@[simp] theorem mCall_ap {α : Type} {p : List PyData → Option α} : mCall p fs ρ = (fs ρ).bind p := id rfl
@[simp] theorem mNil_ap : mNil ρ = some [] := id rfl
@[simp] theorem mCons_ap : mCons f fs ρ = (f ρ).bind fun x => (fs ρ).bind fun xs => some (x :: xs) := id rfl
@[simp] theorem mTup_ap : mTup fs ρ = (fs ρ).bind fun xs => some (.tuple xs) := id rfl
@[simp] theorem mLst_ap : mLst fs ρ = (fs ρ).bind fun xs => some (.list xs) := id rfl
@[simp] theorem mTest_ap : mTest f ρ = (f ρ).bind asB := id rfl
@[simp] theorem asB_ap {b : Bool} : asB (.bool b) = some b := id rfl
@[simp] theorem asI_ap {b : Int} : asI (.int b) = some b := id rfl
@[simp] theorem mAnd_ap {c' : Mr Bool} : mAnd c c' ρ = (c ρ).bind fun b => if b = true then c' ρ else some false := id rfl
@[simp] theorem mOr_ap {c' : Mr Bool} : mOr c c' ρ = (c ρ).bind fun b => if b = true then some true else c' ρ := id rfl
@[simp] theorem mNot_ap : mNot c ρ = (c ρ).bind fun b => some (!b) := id rfl
@[simp] theorem mAndV_ap : mAndV f g ρ = (f ρ).bind fun x => (asB x).bind fun b => if b = true then g ρ else some (.bool false) := id rfl
@[simp] theorem mOrV_ap : mOrV f g ρ = (f ρ).bind fun x => (asB x).bind fun b => if b = true then some (.bool true) else g ρ := id rfl
@[simp] theorem mNotV_ap : mNotV f ρ = (f ρ).bind fun x => (asB x).bind fun b => some (.bool (!b)) := id rfl
@[simp] theorem mIsi_ap {T : String} : mIsi T f ρ = (f ρ).bind fun d => some (.bool (isTy T d)) := id rfl
@[simp] theorem oNo_ap : oNo ρ = some none := id rfl
@[simp] theorem oAt_ap : oAt f ρ = (f ρ).bind fun x => (asI x).bind fun i => some (some i) := id rfl
@[simp] theorem mSl_ap {l h : Mr (Option Int)} : mSl f l h ρ = (f ρ).bind fun x => (l ρ).bind fun l => (h ρ).bind fun h => pSl x l h := id rfl
@[simp] theorem mIxO_ap : mIxO i f ρ = (getO i ρ).bind fun ds => (f ρ).bind fun k => (asI k).bind fun k => atI ds k := id rfl
@[simp] theorem mOwn_ap {p : List PyData → Option PyData} : mOwn i p ρ = (getO i ρ).bind p := id rfl
@[simp] theorem mIt_ap {p : List PyData → Option (List PyData)} : mIt p fs ρ = (fs ρ).bind p := id rfl
@[simp] theorem mItems_ap : mItems f ρ = (f ρ).bind items := id rfl
@[simp] theorem items_t {ds : List PyData} : items (.tuple ds) = some ds := id rfl
@[simp] theorem items_l {ds : List PyData} : items (.list ds) = some ds := id rfl
@[simp] theorem tYesM_ap : tYesM ρ = some true := id rfl
@[simp] theorem gN_ap : gN i d ρ = some (ρ.set i (some (.frz d))) := id rfl
@[simp] theorem gs0_ap : gs0' [] ρ = some ρ := id rfl
@[simp] theorem gs1_ap {q : MG} {qs : MGs} {r : List PyData} : gs1 q qs (d :: r) ρ = (q d ρ).bind fun ρ1 => qs r ρ1 := id rfl
@[simp] theorem gT_t {n : Nat} {q : MGs} {ds : List PyData} : gT n q (.tuple ds) ρ = if ds.length = n then q ds ρ else none := id rfl
@[simp] theorem gT_l {n : Nat} {q : MGs} {ds : List PyData} : gT n q (.list ds) ρ = if ds.length = n then q ds ρ else none := id rfl
@[simp] theorem pNeg_ap {j : Int} : pNeg (.int j) = some (.int (-j)) := id rfl
@[simp] theorem pAdd_i {a b : Int} : pAdd (.int a) (.int b) = some (.int (a + b)) := id rfl
@[simp] theorem pSub_i {a b : Int} : pSub (.int a) (.int b) = some (.int (a - b)) := id rfl
theorem pMul_i {a b : Int} (h : cMul a b) : pMul (.int a) (.int b) = some (.int (a * b)) := if_pos h
theorem pDiv_i {a b : Int} (h : cDiv a b) : pDiv (.int a) (.int b) = some (.int (a.fdiv b)) := if_pos h
theorem pMod_i {a b : Int} (h : b ≠ 0) : pMod (.int a) (.int b) = some (.int (a.fmod b)) := if_pos h
@[simp] theorem pLt_i {a b : Int} : pLt (.int a) (.int b) = some (.bool (decide (a < b))) := id rfl
@[simp] theorem pLe_i {a b : Int} : pLe (.int a) (.int b) = some (.bool (decide (a ≤ b))) := id rfl
@[simp] theorem pGt_i {a b : Int} : pGt (.int a) (.int b) = some (.bool (decide (b < a))) := id rfl
@[simp] theorem pGe_i {a b : Int} : pGe (.int a) (.int b) = some (.bool (decide (b ≤ a))) := id rfl
@[simp] theorem pEq_i {a b : Int} : pEq (.int a) (.int b) = some (.bool (a == b)) := id rfl
@[simp] theorem pEq_s {a b : Str} : pEq (.str a) (.str b) = some (.bool (a == b)) := id rfl
theorem pEq_g {a b : PyData} (h : eqOk a b = true) : pEq a b = some (.bool (PyData.eqv a b)) := by
  unfold pEq
  split
  · simp [PyData.eqv]
  · simp [PyData.eqv]
  · rw [if_pos h]
theorem pNe_ap {a b : PyData} : pNe a b = (pEq a b).bind fun x => (asB x).bind fun b => some (.bool (!b)) := rfl
@[simp] theorem pNe_i {a b : Int} : pNe (.int a) (.int b) = some (.bool (!(a == b))) := id rfl
@[simp] theorem pNe_s {a b : Str} : pNe (.str a) (.str b) = some (.bool (!(a == b))) := id rfl
theorem pNe_g {a b : PyData} (h : eqOk a b = true) : pNe a b = some (.bool (!PyData.eqv a b)) := by
  rw [pNe_ap, pEq_g h]
  rfl
@[simp] theorem pIs_n : pIs d .none = some (.bool (isN d)) := by cases d <;> rfl
@[simp] theorem pIsNot_n : pIsNot d .none = some (.bool (!isN d)) := by cases d <;> rfl
@[simp] theorem pIx_t {xs : List PyData} {j : Int} : pIx (.tuple xs) (.int j) = atI xs j := id rfl
@[simp] theorem pIx_l {xs : List PyData} {j : Int} : pIx (.list xs) (.int j) = atI xs j := id rfl
@[simp] theorem pLen_t {xs : List PyData} : pLen [.tuple xs] = some (.int xs.length) := id rfl
@[simp] theorem pLen_l {xs : List PyData} : pLen [.list xs] = some (.int xs.length) := id rfl
@[simp] theorem pAbs_i {j : Int} : pAbs [.int j] = some (.int (if j < 0 then -j else j)) := id rfl
@[simp] theorem pMax2_i {j k : Int} : pMax2 [.int j, .int k] = some (.int (if k > j then k else j)) := id rfl
@[simp] theorem pInt_b {b : Bool} : pInt [.bool b] = some (.int (if b then 1 else 0)) := id rfl
@[simp] theorem pInt_i {j : Int} : pInt [.int j] = some (.int j) := id rfl
@[simp] theorem pTuple_t {xs : List PyData} : pTuple [.tuple xs] = some (.tuple xs) := id rfl
@[simp] theorem pTuple_l {xs : List PyData} : pTuple [.list xs] = some (.tuple xs) := id rfl
@[simp] theorem pList_t {xs : List PyData} : pList [.tuple xs] = some xs := id rfl
@[simp] theorem pList_l {xs : List PyData} : pList [.list xs] = some xs := id rfl
@[simp] theorem pSl_t {xs : List PyData} {l h : Option Int} : pSl (.tuple xs) l h = some (.tuple (cutD xs l h)) := id rfl
@[simp] theorem pSl_l {xs : List PyData} {l h : Option Int} : pSl (.list xs) l h = some (.list (cutD xs l h)) := id rfl
@[simp] theorem pRev_t {xs : List PyData} : pRev (.tuple xs) = some (.tuple xs.reverse) := id rfl
@[simp] theorem pRev_l {xs : List PyData} : pRev (.list xs) = some (.list xs.reverse) := id rfl
theorem pAdd_t {a b : List PyData} (h : a.length + b.length ≤ sizeLine) : pAdd (.tuple a) (.tuple b) = some (.tuple (a ++ b)) := if_pos h
theorem pAdd_l {a b : List PyData} (h : a.length + b.length ≤ sizeLine) : pAdd (.list a) (.list b) = some (.list (a ++ b)) := if_pos h
@[simp] theorem pEnum_ap {x : PyData} : pEnum [x] = (items x).bind fun ds => some (enumD ds) := id rfl
@[simp] theorem pZip_ap {x y : PyData} : pZip [x, y] = (items x).bind fun ds => (items y).bind fun es => some (zipD ds es) := id rfl
theorem pRng1_i {n : Int} (h : rOk n = true) : pRng1 [.int n] = some (rng 0 n.toNat) := if_pos h
theorem pRng2_i {m n : Int} (h : (rOk m && rOk n) = true) : pRng2 [.int m, .int n] = some (rng m (n - m).toNat) := if_pos h
/-! statements -/
@[simp] theorem sNil_ap : sNil ρ = some (.nx ρ) := id rfl
@[simp] theorem sNever_ap : sNever ρ = none := id rfl
@[simp] theorem sBreak_ap : sBreak ρ = some (.bk ρ) := id rfl
@[simp] theorem sRetN_ap : sRetN ρ = some (.rt .none) := id rfl
@[simp] theorem sSet_ap : sSet i f ρ = (f ρ).bind fun d => some (.nx (ρ.set i (some (.frz d)))) := id rfl
@[simp] theorem sSetL_ap : sSetL i fs ρ = (fs ρ).bind fun ds => some (.nx (ρ.set i (some (.own ds)))) := id rfl
@[simp] theorem sSetCt_ap : sSetC true i fs ρ = (fs ρ).bind fun ds => some (.nx (ρ.set i (some (.own ds)))) := id rfl
@[simp] theorem sSetCf_ap : sSetC false i fs ρ = (fs ρ).bind fun ds => some (.nx (ρ.set i (some (.frz (.list ds))))) := id rfl
@[simp] theorem sIf_ap : sIf c s t ρ = (c ρ).bind fun b => if b = true then s ρ else t ρ := id rfl
@[simp] theorem sDrop_ap : sDrop f ρ = (f ρ).bind fun _ => some (.nx ρ) := id rfl
@[simp] theorem sAsg_ap {q : MG} : sAsg f q ρ = (f ρ).bind fun d => (q d ρ).bind fun ρ' => some (.nx ρ') := id rfl
@[simp] theorem sApp_ap : sApp i f ρ = (getO i ρ).bind fun ds => (f ρ).bind fun d => @ite _ (ds.length < sizeLine) (Classical.propDecidable _) (some (.nx (ρ.set i (some (.own (ds ++ [d])))))) none := id rfl
@[simp] theorem sExt_ap : sExt i fs ρ = (getO i ρ).bind fun ds => (fs ρ).bind fun es => @ite _ (ds.length + es.length ≤ sizeLine) (Classical.propDecidable _) (some (.nx (ρ.set i (some (.own (ds ++ es)))))) none := id rfl
@[simp] theorem sPut_ap : sPut i f g ρ = (g ρ).bind fun d => (getO i ρ).bind fun ds => (f ρ).bind fun j => (asI j).bind fun j => (ixN ds.length j).bind fun k => some (.nx (ρ.set i (some (.own (ds.set k d))))) := id rfl
@[simp] theorem sFor_ap {fi : Mr (List PyData)} {q : MG} : sFor fi q s ρ = (fi ρ).bind fun ds => forL q s ds ρ := id rfl
@[simp] theorem sFrz_ap : sFrz i s ρ = s (frz1 i ρ) := id rfl
@[simp] theorem mTmp_ap : mTmp i f ρ = (f (frz1 i ρ)).bind fun d => if flatD d = true then some d else none := id rfl
@[simp] theorem tTmp_ap : tTmp i c ρ = c (frz1 i ρ) := id rfl
theorem seq_nx {ρ' : Rho} (h : s ρ = some (.nx ρ')) : sSeq s t ρ = t ρ' := by unfold sSeq; rw [h]; rfl
theorem seq_rt (h : s ρ = some (.rt d)) : sSeq s t ρ = some (.rt d) := by unfold sSeq; rw [h]; rfl
@[simp] theorem sSeq_ap : sSeq s t ρ = (s ρ).bind fun o => match o with
  | .nx ρ' => t ρ'
  | .rt d => some (.rt d)
  | .bk ρ' => some (.bk ρ')
  | .ct ρ' => some (.ct ρ') := id rfl
end
/-! ### returns -/
theorem frzTo_eq (ρ : Rho) : ∀ n, n ≤ ρ.length → frzTo ρ n = (ρ.take n).map frzS ++ ρ.drop n
  | 0, _ => by simp [frzTo]
  | n + 1, h => by
    have ih := frzTo_eq ρ n (by omega)
    have hn : n < ρ.length := by omega
    have hl : ((ρ.take n).map frzS).length = n := by simp; omega
    have e : ρ.drop n = ρ[n] :: ρ.drop (n + 1) := List.drop_eq_getElem_cons hn
    have e2 : ρ.take (n + 1) = ρ.take n ++ [ρ[n]] := by rw [List.take_add_one, List.getElem?_eq_getElem hn]; rfl
    unfold frzTo
    dsimp only
    rw [ih, e2, e]
    have hg : (((ρ.take n).map frzS) ++ ρ[n] :: ρ.drop (n + 1))[n]? = some ρ[n] := by
      rw [List.getElem?_append_right (by omega), hl, Nat.sub_self]
      rfl
    rw [hg]
    have hs : ∀ y : Option Slt, (((ρ.take n).map frzS) ++ ρ[n] :: ρ.drop (n + 1)).set n y = ((ρ.take n).map frzS) ++ y :: ρ.drop (n + 1) := fun y => by
      rw [List.set_append_right _ _ (by omega), hl, Nat.sub_self]
      rfl
    cases hx : ρ[n] with
    | none => simp [frzS]
    | some x =>
      cases x with
      | frz d => simp [frzS]
      | raw v => simp [frzS]
      | own ds =>
        rw [hx] at hs
        show (((ρ.take n).map frzS) ++ some (Slt.own ds) :: ρ.drop (n + 1)).set n (some (.frz (.list ds))) = _
        rw [hs]
        simp [frzS]
@[simp] theorem frzS_frz {d : PyData} : frzS (some (.frz d)) = some (.frz d) := id rfl
@[simp] theorem frzS_own {ds : List PyData} : frzS (some (.own ds)) = some (.frz (.list ds)) := id rfl
@[simp] theorem frzS_none : frzS none = none := id rfl
@[simp] theorem ret_ap {fe : Mr PyData} {ρ : Rho} : sRet fe ρ = (fe (ρ.map frzS)).bind fun d => some (.rt d) := by
  unfold sRet
  rw [frzTo_eq ρ _ (Nat.le_refl _)]
  simp
@[simp] theorem frz1_ap0 {ds : List PyData} {r : Rho} : frz1 0 (some (.own ds) :: r) = some (.frz (.list ds)) :: r := id rfl
/-- a def's value, by its body -/
theorem run_rt {N : List Str} {fb : MS} {ds : List PyData} {d : PyData} (h : fb (startR N ds) = some (.rt d)) : runD N fb ds = some d := by unfold runD; rw [h]; rfl
theorem run_nx {N : List Str} {fb : MS} {ds : List PyData} {ρ : Rho} (h : fb (startR N ds) = some (.nx ρ)) : runD N fb ds = some .none := by unfold runD; rw [h]; rfl
end Dm

set_option Elab.async false
set_option linter.all false
set_option maxRecDepth 100000
set_option exponentiation.threshold 20000
namespace Dm
open PySem PySem.Spec L2 Dw
/-! ### fractions -/
def fr (q : Rat) : PyData := .tuple [.int q.num, .int q.den]
abbrev Pt := Rat × Rat
def pt (p : Pt) : PyData := .tuple [fr p.1, fr p.2]
/-! ### the greatest divisor -/
theorem fmod_nat (a b : Nat) : (a : Int).fmod b = ((a % b : Nat) : Int) := by
  rw [Int.fmod_eq_emod_of_nonneg _ (by omega)]
  rfl
theorem gcd_step (a b : Nat) : Nat.gcd b (a % b) = Nat.gcd a b := by
  rw [Nat.gcd_comm b (a % b), ← Nat.gcd_rec b a, Nat.gcd_comm]
theorem loop_div (b : Nat) : ∀ a : Nat, ∃ n, whL (mTest (mBin pGt (mVar 1) (mK (.int 0)))) (sPar 0 1 (mCons (mVar 1) (mCons (mBin pMod (mVar 0) (mVar 1)) mNil))) n [fz (.int a), fz (.int b)] = some (.nx [fz (.int (Nat.gcd a b : Nat)), fz (.int 0)]) := by
  induction b using Nat.strongRecOn with
  | ind b ih =>
    intro a
    by_cases hb : b = 0
    · subst hb
      exact ⟨1, by simp [whL]⟩
    · obtain ⟨n, hn⟩ := ih (a % b) (Nat.mod_lt _ (by omega)) b
      refine ⟨n + 1, ?_⟩
      rw [gcd_step] at hn
      have hb0 : 0 < b := by omega
      have hm : (b : Int) ≠ 0 := by omega
      simpa [whL, sPar, pMod_i hm, fmod_nat, hb0] using hn
theorem abs_nat (i : Int) : (if i < 0 then -i else i) = (i.natAbs : Int) := by split <;> omega
theorem m_divisor_eq (u l : Int) : m_divisor [.int u, .int l] = some (.int (Int.gcd u l : Nat)) := by
  obtain ⟨n, hn⟩ := loop_div l.natAbs u.natAbs
  have hw := sWhile_of hn
  refine run_rt ?_
  simp [b_divisor, startR, abs_nat, hw]
  rfl
theorem loop_fr (b : Nat) : ∀ (x y : PyData) (a : Nat), ∃ n, whL (mTest (mBin pGt (mVar 3) (mK (.int 0)))) (sPar 2 3 (mCons (mVar 3) (mCons (mBin pMod (mVar 2) (mVar 3)) mNil))) n [fz x, fz y, fz (.int a), fz (.int b)] = some (.nx [fz x, fz y, fz (.int (Nat.gcd a b : Nat)), fz (.int 0)]) := by
  induction b using Nat.strongRecOn with
  | ind b ih =>
    intro x y a
    by_cases hb : b = 0
    · subst hb
      exact ⟨1, by simp [whL]⟩
    · obtain ⟨n, hn⟩ := ih (a % b) (Nat.mod_lt _ (by omega)) x y b
      refine ⟨n + 1, ?_⟩
      rw [gcd_step] at hn
      have hb0 : 0 < b := by omega
      have hm : (b : Int) ≠ 0 := by omega
      simpa [whL, sPar, pMod_i hm, fmod_nat, hb0] using hn
/-! ### the fraction of a worth -/
theorem cdiv_gcd {u l : Int} (hl : l ≠ 0) (hb : l.natAbs < 2 ^ 9000) (x : Int) : cDiv x (Int.gcd u l : Nat) ∧ cDiv x (-(Int.gcd u l : Nat)) := by
  have g0 : Int.gcd u l ≠ 0 := fun e => hl (Int.gcd_eq_zero_iff.mp e).2
  have gle : Int.gcd u l ≤ l.natAbs := Nat.le_of_dvd (by omega) (Int.gcd_dvd_natAbs_right u l)
  have lg : (Int.gcd u l).log2 < 9000 := (Nat.log2_lt g0).mpr (Nat.lt_of_le_of_lt gle hb)
  exact ⟨⟨by omega, by simpa using lg⟩, ⟨by omega, by simpa using lg⟩⟩
theorem fdiv_exact {a b : Int} (h : b ∣ a) : a.fdiv b = a / b := by
  obtain ⟨c, rfl⟩ := h
  by_cases hb : b = 0
  · subst hb; simp
  · rw [Int.mul_fdiv_cancel_left _ hb, Int.mul_ediv_cancel_left _ hb]
theorem fr_parts {u l : Int} (hl : l ≠ 0) : (Rat.divInt u l).num = u.fdiv (if l < 0 then -(Int.gcd u l : Nat) else (Int.gcd u l : Nat)) ∧ ((Rat.divInt u l).den : Int) = l.fdiv (if l < 0 then -(Int.gcd u l : Nat) else (Int.gcd u l : Nat)) := by
  have g0 : Int.gcd u l ≠ 0 := fun e => hl (Int.gcd_eq_zero_iff.mp e).2
  have d1 : ((Int.gcd u l : Nat) : Int) ∣ u := Int.gcd_dvd_left ..
  have d2 : ((Int.gcd u l : Nat) : Int) ∣ l := Int.gcd_dvd_right ..
  rw [Rat.num_divInt, Rat.den_divInt, if_neg hl, Int.gcd_comm l u]
  by_cases hn : l < 0
  · rw [if_pos hn, fdiv_exact (Int.neg_dvd.mpr d1), fdiv_exact (Int.neg_dvd.mpr d2), Int.sign_eq_neg_one_of_neg hn]
    refine ⟨?_, ?_⟩
    · rw [Int.ediv_neg, ← Int.neg_ediv_of_dvd d1]
      simp
    · rw [Int.ediv_neg, ← Int.neg_ediv_of_dvd d2]
      have : (l.natAbs : Int) = -l := by omega
      rw [← this]
      exact Int.natCast_ediv ..
  · have hp : 0 < l := by omega
    rw [if_neg hn, fdiv_exact d1, fdiv_exact d2, Int.sign_eq_one_of_pos hp]
    refine ⟨by simp, ?_⟩
    have : (l.natAbs : Int) = l := by omega
    rw [← this]
    exact Int.natCast_ediv ..
theorem m_fraction_eq {u l : Int} (hl : l ≠ 0) (hb : l.natAbs < 2 ^ 9000) : m_fraction [.int u, .int l] = some (fr (Rat.divInt u l)) := by
  obtain ⟨h1, h2⟩ := fr_parts (u := u) hl
  refine run_rt ?_
  unfold fr
  rw [h1, h2]
  by_cases hn : l < 0
  · simp [b_fraction, startR, m_divisor_eq, hn, pDiv_i (cdiv_gcd hl hb _).2]
  · simp [b_fraction, startR, m_divisor_eq, hn, pDiv_i (cdiv_gcd hl hb _).1]
theorem m_law_fr_eq {u l : Int} (hl : l ≠ 0) (hb : l.natAbs < 2 ^ 9000) : m__law_fr [.int u, .int l] = some (fr (Rat.divInt u l)) := by
  obtain ⟨h1, h2⟩ := fr_parts (u := u) hl
  obtain ⟨n, hn⟩ := loop_fr l.natAbs (.int u) (.int l) u.natAbs
  have hw := sWhile_of hn
  have hg : u.natAbs.gcd l.natAbs = Int.gcd u l := rfl
  rw [hg] at hw
  refine run_rt ?_
  unfold fr
  rw [h1, h2]
  simp [b__law_fr, startR, abs_nat, hw]
  by_cases hn : l < 0
  · simp [hn, pDiv_i (cdiv_gcd hl hb _).2]
  · simp [hn, pDiv_i (cdiv_gcd hl hb _).1]
/-! ### sizes -/
def Sz (n : Nat) (q : Rat) : Prop := q.num.natAbs < 2 ^ n ∧ q.den < 2 ^ n
theorem Sz.mono {n m : Nat} {q : Rat} (h : Sz n q) (hm : n ≤ m) : Sz m q := ⟨Nat.lt_of_lt_of_le h.1 (Nat.pow_le_pow_right (by decide) hm), Nat.lt_of_lt_of_le h.2 (Nat.pow_le_pow_right (by decide) hm)⟩
theorem Sz.divInt {n : Nat} {u l : Int} (hl : l ≠ 0) (h1 : u.natAbs < 2 ^ n) (h2 : l.natAbs < 2 ^ n) : Sz n (Rat.divInt u l) := by
  refine ⟨?_, ?_⟩
  · rw [Rat.num_divInt]
    refine Nat.lt_of_le_of_lt ?_ h1
    refine Nat.le_trans (Int.natAbs_ediv_le_natAbs _ _) ?_
    rw [Int.natAbs_mul]
    rcases Int.lt_trichotomy l 0 with h | h | h
    · rw [Int.sign_eq_neg_one_of_neg h]; simp
    · exact absurd h hl
    · rw [Int.sign_eq_one_of_pos h]; simp
  · rw [Rat.den_divInt, if_neg hl]
    exact Nat.lt_of_le_of_lt (Nat.div_le_self _ _) h2
theorem mkRat_divInt (n : Int) (d : Nat) : mkRat n d = Rat.divInt n d := (Rat.divInt_ofNat n d).symm
theorem lt_pow_mul {a b m n : Nat} (h1 : a < 2 ^ m) (h2 : b < 2 ^ n) : a * b < 2 ^ (m + n) := by
  rw [Nat.pow_add]
  exact Nat.mul_lt_mul'' h1 h2
theorem Sz.add {m n : Nat} {p q : Rat} (h1 : Sz m p) (h2 : Sz n q) : Sz (m + n + 1) (p + q) := by
  rw [Rat.add_def', mkRat_divInt]
  have l1 : ((p.den * q.den : Nat) : Int) ≠ 0 := by
    have := Nat.mul_ne_zero p.den_nz q.den_nz
    omega
  refine Sz.divInt l1 ?_ ?_
  · have a1 := lt_pow_mul h1.1 h2.2
    have a2 := lt_pow_mul h2.1 h1.2
    rw [Nat.add_comm n m] at a2
    have : (p.num * q.den + q.num * p.den).natAbs ≤ p.num.natAbs * q.den + q.num.natAbs * p.den := by
      refine Nat.le_trans (Int.natAbs_add_le _ _) ?_
      rw [Int.natAbs_mul, Int.natAbs_mul]
      simp
    rw [Nat.pow_succ]
    omega
  · have a1 := lt_pow_mul h1.2 h2.2
    rw [Nat.pow_succ]
    simp only [Int.natAbs_natCast]
    omega
theorem Sz.neg {m : Nat} {p : Rat} (h : Sz m p) : Sz m (-p) := by
  refine ⟨?_, ?_⟩
  · rw [Rat.neg_num, Int.natAbs_neg]; exact h.1
  · rw [Rat.neg_den]; exact h.2
theorem Sz.sub {m n : Nat} {p q : Rat} (h1 : Sz m p) (h2 : Sz n q) : Sz (m + n + 1) (p - q) := by
  rw [Rat.sub_eq_add_neg]
  exact h1.add h2.neg
theorem Sz.mul {m n : Nat} {p q : Rat} (h1 : Sz m p) (h2 : Sz n q) : Sz (m + n) (p * q) := by
  rw [Rat.mul_def', mkRat_divInt]
  have l1 : ((p.den * q.den : Nat) : Int) ≠ 0 := by
    have := Nat.mul_ne_zero p.den_nz q.den_nz
    omega
  refine Sz.divInt l1 ?_ ?_
  · rw [Int.natAbs_mul]
    exact lt_pow_mul h1.1 h2.1
  · simp only [Int.natAbs_natCast]
    exact lt_pow_mul h1.2 h2.2
theorem Sz.inv {m : Nat} {p : Rat} (h : Sz m p) (h0 : 0 < m) : Sz m p⁻¹ := by
  refine ⟨?_, ?_⟩
  · rw [Rat.num_inv, Int.natAbs_mul]
    refine Nat.lt_of_le_of_lt ?_ h.2
    have : p.num.sign.natAbs ≤ 1 := by
      rcases Int.lt_trichotomy p.num 0 with h | h | h
      · rw [Int.sign_eq_neg_one_of_neg h]; simp
      · rw [h]; simp
      · rw [Int.sign_eq_one_of_pos h]; simp
    calc p.num.sign.natAbs * (p.den : Int).natAbs ≤ 1 * (p.den : Int).natAbs := Nat.mul_le_mul_right _ this
      _ = p.den := by simp
  · rw [Rat.den_inv]
    split
    · exact Nat.one_lt_two_pow (by omega)
    · exact h.1
theorem Sz.div {m n : Nat} {p q : Rat} (h1 : Sz m p) (h2 : Sz n q) (h0 : 0 < n) : Sz (m + n) (p / q) := by
  rw [Rat.div_def]
  exact h1.mul (h2.inv h0)
theorem Sz.int {n : Nat} {i : Int} (h : i.natAbs < 2 ^ n) (h0 : 0 < n) : Sz n (i : Rat) := ⟨h, Nat.one_lt_two_pow (by omega)⟩
/-! ### what is multiplied -/
theorem cmul_of {i j : Int} {m n : Nat} (h1 : i.natAbs < 2 ^ m) (h2 : j.natAbs < 2 ^ n) (h : m + n ≤ 900000) : cMul i j := by
  refine .inr ?_
  refine wide_mul (a := m + 1) (b := n + 1) (Nat.lt_trans h1 (Nat.pow_lt_pow_right (by decide) (by omega))) (Nat.lt_trans h2 (Nat.pow_lt_pow_right (by decide) (by omega))) (by omega) (by omega) (by omega)
theorem den_pos (q : Rat) : (q.den : Int) ≠ 0 := by have := q.den_nz; omega
section
variable {m n : Nat} {p q : Rat}
theorem mnd (h1 : Sz m p) (h2 : Sz n q) (h : m + n ≤ 8900) : cMul p.num q.den := cmul_of h1.1 (by simpa using h2.2) (by omega)
theorem mdd (h1 : Sz m p) (h2 : Sz n q) (h : m + n ≤ 8900) : cMul p.den q.den := cmul_of (by simpa using h1.2) (by simpa using h2.2) (by omega)
theorem mnn (h1 : Sz m p) (h2 : Sz n q) (h : m + n ≤ 8900) : cMul p.num q.num := cmul_of h1.1 h2.1 (by omega)
theorem mdn (h1 : Sz m p) (h2 : Sz n q) (h : m + n ≤ 8900) : cMul p.den q.num := cmul_of (by simpa using h1.2) h2.1 (by omega)
theorem dd_ok (h1 : Sz m p) (h2 : Sz n q) (h : m + n ≤ 8900) : ((p.den : Int) * q.den) ≠ 0 ∧ ((p.den : Int) * q.den).natAbs < 2 ^ 9000 := by
  refine ⟨Int.mul_ne_zero (den_pos p) (den_pos q), ?_⟩
  rw [Int.natAbs_mul]
  refine Nat.lt_of_lt_of_le (lt_pow_mul (m := m) (n := n) (by simpa using h1.2) (by simpa using h2.2)) (Nat.pow_le_pow_right (by decide) (by omega))
@[simp] theorem at0 {α : Type} {x : α} {r : List α} : atI (x :: r) 0 = some x := by simp [atI, ixN]
@[simp] theorem at1 {α : Type} {x y : α} {r : List α} : atI (x :: y :: r) 1 = some y := by
  have : (1 : Int) < (r.length : Int) + 1 + 1 := by omega
  simp [atI, ixN, this]
@[simp] theorem at2 {α : Type} {x y z : α} {r : List α} : atI (x :: y :: z :: r) 2 = some z := by
  have : (2 : Int) < (r.length : Int) + 1 + 1 + 1 := by omega
  simp [atI, ixN, this]
@[simp] theorem at3 {α : Type} {x y z u : α} {r : List α} : atI (x :: y :: z :: u :: r) 3 = some u := by
  have : (3 : Int) < (r.length : Int) + 1 + 1 + 1 + 1 := by omega
  simp [atI, ixN, this]
theorem m_plus_eq (h1 : Sz m p) (h2 : Sz n q) (h : m + n ≤ 8900) : m_plus [fr p, fr q] = some (fr (p + q)) := by
  obtain ⟨e1, e2⟩ := dd_ok h1 h2 h
  have e := m_fraction_eq (u := p.num * q.den + q.num * p.den) e1 e2
  rw [Rat.add_def', mkRat_divInt, Int.natCast_mul]
  have hb : b_plus (startR N_plus [fr p, fr q]) = (m_fraction [.int (p.num * q.den + q.num * p.den), .int (p.den * q.den)]).bind fun d => some (.rt d) := by
    simp [b_plus, startR, fr, pMul_i (mnd h1 h2 h), pMul_i (mnd h2 h1 (by omega)), pMul_i (mdd h1 h2 h)]
  exact run_rt (by rw [hb, e]; rfl)
theorem m_law_plus_eq (h1 : Sz m p) (h2 : Sz n q) (h : m + n ≤ 8900) : m__law_plus [fr p, fr q] = some (fr (p + q)) := by
  obtain ⟨e1, e2⟩ := dd_ok h1 h2 h
  have e := m_law_fr_eq (u := p.num * q.den + q.num * p.den) e1 e2
  rw [Rat.add_def', mkRat_divInt, Int.natCast_mul]
  have hb : b__law_plus (startR N__law_plus [fr p, fr q]) = (m__law_fr [.int (p.num * q.den + q.num * p.den), .int (p.den * q.den)]).bind fun d => some (.rt d) := by
    simp [b__law_plus, startR, fr, pMul_i (mnd h1 h2 h), pMul_i (mnd h2 h1 (by omega)), pMul_i (mdd h1 h2 h)]
  exact run_rt (by rw [hb, e]; rfl)
theorem m_minus_eq (h1 : Sz m p) (h2 : Sz n q) (h : m + n ≤ 8900) : m_minus [fr p, fr q] = some (fr (p - q)) := by
  obtain ⟨e1, e2⟩ := dd_ok h1 h2 h
  have e := m_fraction_eq (u := p.num * q.den - q.num * p.den) e1 e2
  rw [Rat.sub_def', mkRat_divInt, Int.natCast_mul]
  have hb : b_minus (startR N_minus [fr p, fr q]) = (m_fraction [.int (p.num * q.den - q.num * p.den), .int (p.den * q.den)]).bind fun d => some (.rt d) := by
    simp [b_minus, startR, fr, pMul_i (mnd h1 h2 h), pMul_i (mnd h2 h1 (by omega)), pMul_i (mdd h1 h2 h)]
  exact run_rt (by rw [hb, e]; rfl)
theorem m_law_minus_eq (h1 : Sz m p) (h2 : Sz n q) (h : m + n ≤ 8900) : m__law_minus [fr p, fr q] = some (fr (p - q)) := by
  have e := m_law_plus_eq h1 h2.neg h
  rw [← Rat.sub_eq_add_neg] at e
  have hb : b__law_minus (startR N__law_minus [fr p, fr q]) = (m__law_plus [fr p, fr (-q)]).bind fun d => some (.rt d) := by
    simp [b__law_minus, startR, fr]
  exact run_rt (by rw [hb, e]; rfl)
theorem m_times_eq (h1 : Sz m p) (h2 : Sz n q) (h : m + n ≤ 8900) : m_times [fr p, fr q] = some (fr (p * q)) := by
  obtain ⟨e1, e2⟩ := dd_ok h1 h2 h
  have e := m_fraction_eq (u := p.num * q.num) e1 e2
  rw [Rat.mul_def', mkRat_divInt, Int.natCast_mul]
  have hb : b_times (startR N_times [fr p, fr q]) = (m_fraction [.int (p.num * q.num), .int (p.den * q.den)]).bind fun d => some (.rt d) := by
    simp [b_times, startR, fr, pMul_i (mnn h1 h2 h), pMul_i (mdd h1 h2 h)]
  exact run_rt (by rw [hb, e]; rfl)
theorem m_law_times_eq (h1 : Sz m p) (h2 : Sz n q) (h : m + n ≤ 8900) : m__law_times [fr p, fr q] = some (fr (p * q)) := by
  obtain ⟨e1, e2⟩ := dd_ok h1 h2 h
  have e := m_law_fr_eq (u := p.num * q.num) e1 e2
  rw [Rat.mul_def', mkRat_divInt, Int.natCast_mul]
  have hb : b__law_times (startR N__law_times [fr p, fr q]) = (m__law_fr [.int (p.num * q.num), .int (p.den * q.den)]).bind fun d => some (.rt d) := by
    simp [b__law_times, startR, fr, pMul_i (mnn h1 h2 h), pMul_i (mdd h1 h2 h)]
  exact run_rt (by rw [hb, e]; rfl)
end
end Dm

set_option Elab.async false
set_option linter.all false
set_option maxRecDepth 100000
set_option exponentiation.threshold 20000
namespace Dm
open PySem PySem.Spec L2 Dw
/-! ### drawn numbers -/
theorem fdiv_pos {a b : Int} (h : 0 < b) : a.fdiv b = a / b := Int.fdiv_eq_ediv_of_nonneg a (by omega)
theorem fmod_pos {a b : Int} (h : 0 < b) : a.fmod b = a % b := Int.fmod_eq_emod_of_nonneg a (by omega)
theorem cmulR {i j : Int} (h1 : -(2 ^ 64) < j) (h2 : j < 2 ^ 64) : cMul i j := .inl (.inr ⟨h1, h2⟩)
theorem cmulL {i j : Int} (h1 : -(2 ^ 64) < i) (h2 : i < 2 ^ 64) : cMul i j := .inl (.inl ⟨h1, h2⟩)
theorem cdiv_small {i j : Int} (h1 : 0 < j) (h2 : j < 2 ^ 31) : cDiv i j := by
  refine ⟨by omega, ?_⟩
  have h3 : j.natAbs ≠ 0 := by omega
  refine (Nat.log2_lt h3).mpr (Nat.lt_of_lt_of_le (m := 2 ^ 31) (by omega) (Nat.pow_le_pow_right (by decide) (by decide)))
theorem pDiv_s {a b : Int} (h1 : 0 < b) (h2 : b < 2 ^ 31) : pDiv (.int a) (.int b) = some (.int (a / b)) := by rw [pDiv_i (cdiv_small h1 h2), fdiv_pos h1]
theorem pMod_s {a b : Int} (h1 : 0 < b) : pMod (.int a) (.int b) = some (.int (a % b)) := by rw [pMod_i (by omega), fmod_pos h1]
theorem pMul_r {a b : Int} (h1 : -(2 ^ 64) < b) (h2 : b < 2 ^ 64) : pMul (.int a) (.int b) = some (.int (a * b)) := pMul_i (cmulR h1 h2)
theorem pMul_l {a b : Int} (h1 : -(2 ^ 64) < a) (h2 : a < 2 ^ 64) : pMul (.int a) (.int b) = some (.int (a * b)) := pMul_i (cmulL h1 h2)
/-- the script as the law gets it -/
def scr (ns : List Int) : PyData := .list (ns.map .int)
theorem m_cell_eq (ns : List Int) (k : Nat) : ∃ v : Int, m__law_cell_at [scr ns, .int k] = some (.int v) := by
  by_cases h : k < ns.length
  · refine ⟨ns[k], run_rt ?_⟩
    have hh : (k : Int) < (ns.length : Int) := by omega
    have e : atI (ns.map PyData.int) (k : Int) = some (.int ns[k]) := by
      refine atI_nat ?_
      rw [List.getElem?_map, List.getElem?_eq_getElem h]
      rfl
    simp [b__law_cell_at, startR, scr, hh, e, h]
  · refine ⟨0, run_rt ?_⟩
    simp [b__law_cell_at, startR, scr, h]
theorem m_mixed_eq (ns : List Int) (k : Nat) : ∃ r : Int, 0 ≤ r ∧ r < 2147483629 ∧ m__law_mixed [scr ns, .int k] = some (.int r) := by
  obtain ⟨v, hv⟩ := m_cell_eq ns k
  obtain ⟨d, hd⟩ : ∃ d : Int, d = (v + 7919 * (k : Int) + 1) * 48271 % 2147483647 := ⟨_, rfl⟩
  have h0 := Int.emod_nonneg ((v + 7919 * (k : Int) + 1) * 48271) (show (2147483647 : Int) ≠ 0 by decide)
  have h1 := Int.emod_lt_of_pos ((v + 7919 * (k : Int) + 1) * 48271) (show (0 : Int) < 2147483647 by decide)
  rw [← hd] at h0 h1
  refine ⟨(d * d + 7 * d + k) % 2147483629, Int.emod_nonneg _ (by decide), Int.emod_lt_of_pos _ (by decide), run_rt ?_⟩
  simp [b__law_mixed, startR, hv, pMul_l (a := 7919) (by decide) (by decide), pMul_r (b := 48271) (by decide) (by decide), pMod_s (b := 2147483647) (by decide), pMod_s (b := 2147483629) (by decide), pMul_l (a := 7) (by decide) (by decide),
      ← hd, pMul_l (a := d) (b := d) (by omega) (by omega)]
theorem m_drawn_eq (n : Int) (k : Nat) : ∃ r : Int, 0 ≤ r ∧ r < 2147483629 ∧ m__law_drawn [.int n, .int k] = some (.int r) := by
  obtain ⟨d, hd⟩ : ∃ d : Int, d = (n + 104729 * (k : Int) + 17) * 69621 % 2147483647 := ⟨_, rfl⟩
  have h0 := Int.emod_nonneg ((n + 104729 * (k : Int) + 17) * 69621) (show (2147483647 : Int) ≠ 0 by decide)
  have h1 := Int.emod_lt_of_pos ((n + 104729 * (k : Int) + 17) * 69621) (show (0 : Int) < 2147483647 by decide)
  rw [← hd] at h0 h1
  refine ⟨(d * d + 3 * d + k) % 2147483629, Int.emod_nonneg _ (by decide), Int.emod_lt_of_pos _ (by decide), run_rt ?_⟩
  simp [b__law_drawn, startR, pMul_l (a := 104729) (by decide) (by decide), pMul_r (b := 69621) (by decide) (by decide), pMod_s (b := 2147483647) (by decide), pMod_s (b := 2147483629) (by decide), pMul_l (a := 3) (by decide) (by decide),
      ← hd, pMul_l (a := d) (b := d) (by omega) (by omega)]
/-! ### how great a drawn number may be -/
/-- z hundredths, |z| at most 150000 (2 k + 1) -/
def Gd (k : Nat) (q : Rat) : Prop := ∃ z : Int, q = Rat.divInt z 100 ∧ z.natAbs ≤ 150000 * (2 * k + 1)
theorem Gd.mono {k j : Nat} {q : Rat} (h : Gd k q) (hj : k ≤ j) : Gd j q := by
  obtain ⟨z, h1, h2⟩ := h
  exact ⟨z, h1, by omega⟩
theorem Gd.sz {k : Nat} {q : Rat} (h : Gd k q) (hk : k ≤ 12) : Sz 22 q := by
  obtain ⟨z, rfl, h2⟩ := h
  exact Sz.divInt (by decide) (by omega) (by decide)
theorem Gd.zero : Gd 0 0 := ⟨0, by decide +kernel, by decide⟩
theorem gd_number {u l c : Int} (hc : l * c = 100) (hl : 0 < l) (hcc : 0 < c) (hu : (u * c).natAbs ≤ 150000) : Gd 0 (Rat.divInt u l) := by
  refine ⟨u * c, ?_, by omega⟩
  rw [← hc, Rat.divInt_mul_right (by omega)]
theorem m_number_eq (n : Int) (h0 : 0 ≤ n) : ∃ q : Rat, Gd 0 q ∧ m__law_number [.int n] = some (fr q) := by
  have ha : n / 16 % 2 = 0 ∨ n / 16 % 2 = 1 := by omega
  have hw : n / 64 % 3 = 0 ∨ n / 64 % 3 = 1 ∨ n / 64 % 3 = 2 := by omega
  have key : ∀ (l c w : Int), l * c = 100 → 0 < l → 0 < c → 3 ≤ w → w ≤ 1500 → l ≤ 100 → c ≤ 100 → ∃ q : Rat, Gd 0 q ∧ m__law_fr [.int (n / 256 % (2 * w + 1) - w), .int l] = some (fr q) := by
    intro l c w hc hl hcc h3 h15 hl1 hc1
    refine ⟨Rat.divInt (n / 256 % (2 * w + 1) - w) l, gd_number hc hl hcc ?_, m_law_fr_eq (by omega) ?_⟩
    · have e1 := Int.emod_nonneg (n / 256) (show 2 * w + 1 ≠ 0 by omega)
      have e2 := Int.emod_lt_of_pos (n / 256) (show 0 < 2 * w + 1 by omega)
      rw [Int.natAbs_mul]
      have : (n / 256 % (2 * w + 1) - w).natAbs ≤ 1500 := by omega
      have hc2 : c.natAbs ≤ 100 := by omega
      exact Nat.le_trans (Nat.mul_le_mul this hc2) (by decide)
    · exact Nat.lt_of_lt_of_le (m := 2 ^ 7) (by omega) (Nat.pow_le_pow_right (by decide) (by decide))
  have body : ∀ (l w : Int), (∃ q : Rat, Gd 0 q ∧ m__law_fr [.int (n / 256 % (2 * w + 1) - w), .int l] = some (fr q)) → 3 ≤ w → w ≤ 1500 →
      (mBin pIx (mTup (mCons (mK (.int 1)) (mCons (mK (.int 1)) (mCons (mK (.int 2)) (mCons (mK (.int 4)) (mCons (mK (.int 5)) (mCons (mK (.int 10)) (mCons (mK (.int 20)) (mCons (mK (.int 25)) (mCons (mK (.int 50)) (mCons (mK (.int 100)) mNil))))))))))) (mBin pMod (mVar 0) (mBin pIx (mTup (mCons (mK (.int 2)) (mCons (mK (.int 10)) mNil))) (mBin pMod (mBin pDiv (mVar 0) (mK (.int 16))) (mK (.int 2)))))) [fz (.int n), none, none] = some (.int l) →
      (mBin pIx (mTup (mCons (mK (.int 3)) (mCons (mK (.int 12)) (mCons (mK (.int 1500)) mNil)))) (mBin pMod (mBin pDiv (mVar 0) (mK (.int 64))) (mK (.int 3)))) [fz (.int n), fz (.int l), none] = some (.int w) →
      ∃ q : Rat, Gd 0 q ∧ m__law_number [.int n] = some (fr q) := by
    intro l w ⟨q, h1, h2⟩ h3 h15 e1 e2
    refine ⟨q, h1, run_rt ?_⟩
    unfold b__law_number
    rw [seq_nx (ρ' := [fz (.int n), fz (.int l), none]) (by rw [sSet_ap, show startR N__law_number [PyData.int n] = [fz (.int n), none, none] from rfl, e1]; rfl)]
    rw [seq_nx (ρ' := [fz (.int n), fz (.int l), fz (.int w)]) (by rw [sSet_ap, e2]; rfl)]
    simp [pDiv_s (b := 256) (by decide) (by decide), pMul_l (a := 2) (by decide) (by decide), pMod_s (b := 2 * w + 1) (by omega), h2]
  have wid : ∀ l : Int, ∃ w : Int, 3 ≤ w ∧ w ≤ 1500 ∧ (mBin pIx (mTup (mCons (mK (.int 3)) (mCons (mK (.int 12)) (mCons (mK (.int 1500)) mNil)))) (mBin pMod (mBin pDiv (mVar 0) (mK (.int 64))) (mK (.int 3)))) [fz (.int n), fz (.int l), none] = some (.int w) := by
    intro l
    rcases hw with h | h | h
    · exact ⟨3, by decide, by decide, by simp [pDiv_s (b := 64) (by decide) (by decide), pMod_s (b := 3) (by decide), h]⟩
    · exact ⟨12, by decide, by decide, by simp [pDiv_s (b := 64) (by decide) (by decide), pMod_s (b := 3) (by decide), h]⟩
    · exact ⟨1500, by decide, by decide, by simp [pDiv_s (b := 64) (by decide) (by decide), pMod_s (b := 3) (by decide), h]⟩
  have low : ∃ l c : Int, l * c = 100 ∧ 0 < l ∧ 0 < c ∧ l ≤ 100 ∧ c ≤ 100 ∧ (mBin pIx (mTup (mCons (mK (.int 1)) (mCons (mK (.int 1)) (mCons (mK (.int 2)) (mCons (mK (.int 4)) (mCons (mK (.int 5)) (mCons (mK (.int 10)) (mCons (mK (.int 20)) (mCons (mK (.int 25)) (mCons (mK (.int 50)) (mCons (mK (.int 100)) mNil))))))))))) (mBin pMod (mVar 0) (mBin pIx (mTup (mCons (mK (.int 2)) (mCons (mK (.int 10)) mNil))) (mBin pMod (mBin pDiv (mVar 0) (mK (.int 16))) (mK (.int 2)))))) [fz (.int n), none, none] = some (.int l) := by
    have pick : ∀ i : Int, 0 ≤ i → i < 10 → ∃ l c : Int, l * c = 100 ∧ 0 < l ∧ 0 < c ∧ l ≤ 100 ∧ c ≤ 100 ∧ atI [PyData.int 1, .int 1, .int 2, .int 4, .int 5, .int 10, .int 20, .int 25, .int 50, .int 100] i = some (.int l) := by
      intro i h1 h2
      have : i = 0 ∨ i = 1 ∨ i = 2 ∨ i = 3 ∨ i = 4 ∨ i = 5 ∨ i = 6 ∨ i = 7 ∨ i = 8 ∨ i = 9 := by omega
      rcases this with rfl | rfl | rfl | rfl | rfl | rfl | rfl | rfl | rfl | rfl
      · exact ⟨1, 100, by decide, by decide, by decide, by decide, by decide, rfl⟩
      · exact ⟨1, 100, by decide, by decide, by decide, by decide, by decide, rfl⟩
      · exact ⟨2, 50, by decide, by decide, by decide, by decide, by decide, rfl⟩
      · exact ⟨4, 25, by decide, by decide, by decide, by decide, by decide, rfl⟩
      · exact ⟨5, 20, by decide, by decide, by decide, by decide, by decide, rfl⟩
      · exact ⟨10, 10, by decide, by decide, by decide, by decide, by decide, rfl⟩
      · exact ⟨20, 5, by decide, by decide, by decide, by decide, by decide, rfl⟩
      · exact ⟨25, 4, by decide, by decide, by decide, by decide, by decide, rfl⟩
      · exact ⟨50, 2, by decide, by decide, by decide, by decide, by decide, rfl⟩
      · exact ⟨100, 1, by decide, by decide, by decide, by decide, by decide, rfl⟩
    rcases ha with h | h
    · obtain ⟨l, c, a1, a2, a3, a4, a5, a6⟩ := pick (n % 2) (by omega) (by omega)
      exact ⟨l, c, a1, a2, a3, a4, a5, by simp [pDiv_s (b := 16) (by decide) (by decide), pMod_s (b := 2) (by decide), h, a6]⟩
    · obtain ⟨l, c, a1, a2, a3, a4, a5, a6⟩ := pick (n % 10) (by omega) (by omega)
      exact ⟨l, c, a1, a2, a3, a4, a5, by simp [pDiv_s (b := 16) (by decide) (by decide), pMod_s (b := 2) (by decide), pMod_s (b := 10) (by decide), h, a6]⟩
  obtain ⟨l, c, a1, a2, a3, a4, a5, a6⟩ := low
  obtain ⟨w, b1, b2, b3⟩ := wid l
  exact body l w (key l c w a1 a2 a3 b1 b2 a4 a5) b1 b2 a6 b3
end Dm

set_option Elab.async false
set_option linter.all false
set_option maxRecDepth 100000
set_option exponentiation.threshold 20000
namespace Dm
open PySem PySem.Spec L2 Dw
/-! ### loops -/
theorem forL_inv {g : MG} {body : MS} {I : Nat → Rho → Prop} : ∀ (ds : List PyData) (k : Nat) (ρ : Rho), (∀ i d ρ, ds[i]? = some d → I (k + i) ρ → ∃ ρ', ((g d ρ).bind body = some (.nx ρ') ∨ (g d ρ).bind body = some (.ct ρ')) ∧ I (k + i + 1) ρ') → I k ρ → ∃ ρ', forL g body ds ρ = some (.nx ρ') ∧ I (k + ds.length) ρ'
  | [], k, ρ, _, h => ⟨ρ, rfl, h⟩
  | d :: ds, k, ρ, st, h => by
    obtain ⟨ρ1, e1, h1⟩ := st 0 d ρ rfl h
    obtain ⟨ρ2, e2, h2⟩ := forL_inv ds (k + 1) ρ1 (fun i d' ρ' hd hi => by
      have := st (i + 1) d' ρ' (by simpa using hd) (by rw [← Nat.add_assoc, Nat.add_right_comm]; exact hi)
      rw [Nat.add_right_comm k 1 i, Nat.add_assoc k i 1]
      exact this) h1
    refine ⟨ρ2, ?_, ?_⟩
    · unfold forL
      rw [← e2]
      cases hg : g d ρ with
      | none => rw [hg] at e1; rcases e1 with e | e <;> cases e
      | some r =>
        rw [hg] at e1
        rcases e1 with e | e
        · have e' : body r = some (.nx ρ1) := e
          show ((body r).bind _) = _
          rw [e']; rfl
        · have e' : body r = some (.ct ρ1) := e
          show ((body r).bind _) = _
          rw [e']; rfl
    · rw [List.length_cons, Nat.add_comm ds.length 1, ← Nat.add_assoc]; exact h2
theorem for_inv {fi : Mr (List PyData)} {g : MG} {body : MS} {ds : List PyData} {ρ : Rho} (I : Nat → Rho → Prop) (hf : fi ρ = some ds) (h0 : I 0 ρ) (st : ∀ i d ρ, ds[i]? = some d → I i ρ → ∃ ρ', ((g d ρ).bind body = some (.nx ρ') ∨ (g d ρ).bind body = some (.ct ρ')) ∧ I (i + 1) ρ') : ∃ ρ', sFor fi g body ρ = some (.nx ρ') ∧ I ds.length ρ' := by
  obtain ⟨ρ', e, h⟩ := forL_inv (I := I) ds 0 ρ (fun i d ρ hd hi => by simpa using st i d ρ hd (by simpa using hi)) h0
  refine ⟨ρ', ?_, by simpa using h⟩
  unfold sFor
  rw [hf]
  exact e
/-! ### points -/
def PS (n : Nat) (p : Pt) : Prop := Sz n p.1 ∧ Sz n p.2
theorem PS.mono {n m : Nat} {p : Pt} (h : PS n p) (hm : n ≤ m) : PS m p := ⟨h.1.mono hm, h.2.mono hm⟩
def padd (p q : Pt) : Pt := (p.1 + q.1, p.2 + q.2)
def psub (p q : Pt) : Pt := (p.1 - q.1, p.2 - q.2)
def pscale (c : Rat) (p : Pt) : Pt := (c * p.1, c * p.2)
section
variable {m n : Nat} {p q : Pt} {c : Rat}
theorem PS.add (h1 : PS m p) (h2 : PS n q) : PS (m + n + 1) (padd p q) := ⟨h1.1.add h2.1, h1.2.add h2.2⟩
theorem PS.sub (h1 : PS m p) (h2 : PS n q) : PS (m + n + 1) (psub p q) := ⟨h1.1.sub h2.1, h1.2.sub h2.2⟩
theorem PS.scale (h1 : Sz m c) (h2 : PS n q) : PS (m + n) (pscale c q) := ⟨h1.mul h2.1, h1.mul h2.2⟩
theorem m_law_add_eq (h1 : PS m p) (h2 : PS n q) (h : m + n ≤ 8900) : m__law_add [pt p, pt q] = some (pt (padd p q)) :=
  run_rt (by simp [b__law_add, startR, pt, m_law_plus_eq h1.1 h2.1 h, m_law_plus_eq h1.2 h2.2 h, padd])
theorem m_law_sub_eq (h1 : PS m p) (h2 : PS n q) (h : m + n ≤ 8900) : m__law_sub [pt p, pt q] = some (pt (psub p q)) :=
  run_rt (by simp [b__law_sub, startR, pt, m_law_minus_eq h1.1 h2.1 h, m_law_minus_eq h1.2 h2.2 h, psub])
theorem m_law_scale_eq (h1 : Sz m c) (h2 : PS n q) (h : m + n ≤ 8900) : m__law_scale [fr c, pt q] = some (pt (pscale c q)) :=
  run_rt (by simp [b__law_scale, startR, pt, m_law_times_eq h1 h2.1 h, m_law_times_eq h1 h2.2 h, pscale])
end
/-! ### words -/
@[simp] theorem so_move : PyData.strOk (Str.ofString "move") = true := by decide +kernel
@[simp] theorem so_line : PyData.strOk (Str.ofString "line") = true := by decide +kernel
@[simp] theorem so_bow : PyData.strOk (Str.ofString "bow") = true := by decide +kernel
@[simp] theorem so_wave : PyData.strOk (Str.ofString "wave") = true := by decide +kernel
@[simp] theorem so_shut : PyData.strOk (Str.ofString "shut") = true := by decide +kernel
@[simp] theorem ne_move_line : ((Str.ofString "move" : Str) = Str.ofString "line") = False := eq_false (by decide +kernel)
@[simp] theorem ne_move_bow : ((Str.ofString "move" : Str) = Str.ofString "bow") = False := eq_false (by decide +kernel)
@[simp] theorem ne_move_wave : ((Str.ofString "move" : Str) = Str.ofString "wave") = False := eq_false (by decide +kernel)
@[simp] theorem ne_move_shut : ((Str.ofString "move" : Str) = Str.ofString "shut") = False := eq_false (by decide +kernel)
@[simp] theorem ne_line_move : ((Str.ofString "line" : Str) = Str.ofString "move") = False := eq_false (by decide +kernel)
@[simp] theorem ne_line_bow : ((Str.ofString "line" : Str) = Str.ofString "bow") = False := eq_false (by decide +kernel)
@[simp] theorem ne_line_wave : ((Str.ofString "line" : Str) = Str.ofString "wave") = False := eq_false (by decide +kernel)
@[simp] theorem ne_line_shut : ((Str.ofString "line" : Str) = Str.ofString "shut") = False := eq_false (by decide +kernel)
@[simp] theorem ne_bow_move : ((Str.ofString "bow" : Str) = Str.ofString "move") = False := eq_false (by decide +kernel)
@[simp] theorem ne_bow_line : ((Str.ofString "bow" : Str) = Str.ofString "line") = False := eq_false (by decide +kernel)
@[simp] theorem ne_bow_wave : ((Str.ofString "bow" : Str) = Str.ofString "wave") = False := eq_false (by decide +kernel)
@[simp] theorem ne_bow_shut : ((Str.ofString "bow" : Str) = Str.ofString "shut") = False := eq_false (by decide +kernel)
@[simp] theorem ne_wave_move : ((Str.ofString "wave" : Str) = Str.ofString "move") = False := eq_false (by decide +kernel)
@[simp] theorem ne_wave_line : ((Str.ofString "wave" : Str) = Str.ofString "line") = False := eq_false (by decide +kernel)
@[simp] theorem ne_wave_bow : ((Str.ofString "wave" : Str) = Str.ofString "bow") = False := eq_false (by decide +kernel)
@[simp] theorem ne_wave_shut : ((Str.ofString "wave" : Str) = Str.ofString "shut") = False := eq_false (by decide +kernel)
@[simp] theorem ne_shut_move : ((Str.ofString "shut" : Str) = Str.ofString "move") = False := eq_false (by decide +kernel)
@[simp] theorem ne_shut_line : ((Str.ofString "shut" : Str) = Str.ofString "line") = False := eq_false (by decide +kernel)
@[simp] theorem ne_shut_bow : ((Str.ofString "shut" : Str) = Str.ofString "bow") = False := eq_false (by decide +kernel)
@[simp] theorem ne_shut_wave : ((Str.ofString "shut" : Str) = Str.ofString "wave") = False := eq_false (by decide +kernel)
theorem in_bw {s : Str} (hs : PyData.strOk s = true) : pIn (.str s) (.tuple [.str "bow", .str "wave"]) = some (.bool (decide (Str.ofString "bow" = s ∨ Str.ofString "wave" = s))) := by
  have : inOk (.str s) [.str "bow", .str "wave"] = true := by simp [inOk, PyData.canLay0, PyData.canLayAll0, PyData.depth, PyData.depthAll, hs]
  simp only [pIn, this, if_true, List.any_cons, List.any_nil, PyData.eqv]
  congr 2
  by_cases h1 : Str.ofString "bow" = s <;> by_cases h2 : Str.ofString "wave" = s <;> simp [h1, h2]
/-! ### strokes and ways -/
inductive Stk where
  | move (p : Pt)
  | line (p : Pt)
  | bow (a p : Pt)
  | wave (a b p : Pt)
  | shut
def sk : Stk → PyData
  | .move p => .tuple [.str "move", pt p]
  | .line p => .tuple [.str "line", pt p]
  | .bow a p => .tuple [.str "bow", pt a, pt p]
  | .wave a b p => .tuple [.str "wave", pt a, pt b, pt p]
  | .shut => .tuple [.str "shut"]
def wy (w : List Stk) : PyData := .tuple (w.map sk)
def GdP (k : Nat) (p : Pt) : Prop := Gd k p.1 ∧ Gd k p.2
theorem GdP.mono {k j : Nat} {p : Pt} (h : GdP k p) (hj : k ≤ j) : GdP j p := ⟨h.1.mono hj, h.2.mono hj⟩
theorem GdP.ps {k : Nat} {p : Pt} (h : GdP k p) (hk : k ≤ 12) : PS 22 p := ⟨h.1.sz hk, h.2.sz hk⟩
/-- how far a stroke's numbers go -/
def SG (k : Nat) : Stk → Prop
  | .move p => GdP 0 p
  | .line p => GdP 0 p
  | .bow a p => GdP k a ∧ GdP 0 p
  | .wave a b p => GdP k a ∧ GdP 0 b ∧ GdP 0 p
  | .shut => True
theorem SG.mono {k j : Nat} (hj : k ≤ j) : ∀ {s : Stk}, SG k s → SG j s
  | .move _, h => h
  | .line _, h => h
  | .bow _ _, h => ⟨h.1.mono hj, h.2⟩
  | .wave _ _ _, h => ⟨h.1.mono hj, h.2⟩
  | .shut, _ => trivial
theorem m_point_eq (n : Int) : ∃ p : Pt, GdP 0 p ∧ m__law_point [.int n] = some (pt p) := by
  obtain ⟨r1, a1, _, e1⟩ := m_drawn_eq n 1
  obtain ⟨r2, a2, _, e2⟩ := m_drawn_eq n 2
  obtain ⟨x, gx, ex⟩ := m_number_eq (r1 / 4) (by omega)
  obtain ⟨y, gy, ey⟩ := m_number_eq (r2 / 4) (by omega)
  refine ⟨(x, y), ⟨gx, gy⟩, run_rt ?_⟩
  have e1' : m__law_drawn [.int n, .int 1] = some (.int r1) := e1
  have e2' : m__law_drawn [.int n, .int 2] = some (.int r2) := e2
  simp [b__law_point, startR, e1', e2', pDiv_s (b := 4) (by decide) (by decide), ex, ey, pt]
theorem m_goal_eq (n : Int) {pen begin_ : Pt} (hp : GdP 0 pen) (hb : GdP 0 begin_) : ∃ p : Pt, GdP 0 p ∧ m__law_goal [.int n, pt pen, pt begin_] = some (pt p) := by
  obtain ⟨q, gq, eq⟩ := m_point_eq (n / 8)
  have hk : n % 8 = 0 ∨ n % 8 = 1 ∨ n % 8 = 2 ∨ n % 8 = 3 ∨ (n % 8 ≠ 0 ∧ n % 8 ≠ 1 ∧ n % 8 ≠ 2 ∧ n % 8 ≠ 3) := by omega
  have d8 := @pDiv_s n 8 (by decide) (by decide)
  have m8 := @pMod_s n 8 (by decide)
  rcases hk with h | h | h | h | ⟨h0, h1, h2, h3⟩
  · exact ⟨pen, hp, run_rt (by simp [b__law_goal, startR, m8, h])⟩
  · exact ⟨begin_, hb, run_rt (by simp [b__law_goal, startR, m8, h])⟩
  · exact ⟨(pen.1, q.2), ⟨hp.1, gq.2⟩, run_rt (by simp [b__law_goal, startR, m8, d8, h, eq, pt])⟩
  · exact ⟨(q.1, pen.2), ⟨gq.1, hp.2⟩, run_rt (by simp [b__law_goal, startR, m8, d8, h, eq, pt])⟩
  · exact ⟨q, gq, run_rt (by simp [b__law_goal, startR, m8, d8, h0, h1, h2, h3, eq])⟩
theorem gd_mirror {k : Nat} {p a : Rat} (hp : Gd 0 p) (ha : Gd k a) : Gd (k + 1) (2 * p - a) := by
  obtain ⟨x, rfl, hx⟩ := hp
  obtain ⟨y, rfl, hy⟩ := ha
  refine ⟨2 * x - y, ?_, by omega⟩
  rw [Rat.divInt_eq_div, Rat.divInt_eq_div, Rat.divInt_eq_div, Rat.intCast_sub, Rat.intCast_mul]
  grind
theorem m_stroke_first {k : Nat} {pen a : Pt} (hk : k ≤ 12) (hp : GdP 0 pen) (ha : GdP k a) : ∃ f : Pt, GdP (k + 1) f ∧ (m__law_scale [.tuple [.int 2, .int 1], pt pen]).bind (fun x => m__law_sub [x, pt a]) = some (pt f) := by
  refine ⟨psub (pscale 2 pen) a, ⟨gd_mirror hp.1 ha.1, gd_mirror hp.2 ha.2⟩, ?_⟩
  have e2 : (PyData.tuple [.int 2, .int 1]) = fr 2 := rfl
  have s2 : Sz 2 2 := ⟨by decide, by decide⟩
  rw [e2, m_law_scale_eq s2 (hp.ps (by omega)) (by decide)]
  exact m_law_sub_eq (PS.scale s2 (hp.ps (by omega))) (ha.ps hk) (by decide)
theorem m_stroke_eq (n : Int) {k : Nat} (hk : k ≤ 12) {pen begin_ : Pt} (hp : GdP 0 pen) (hb : GdP 0 begin_) {ahead : Stk} (ha : SG k ahead) : ∃ s : Stk, SG (k + 1) s ∧ m__law_stroke [.int n, pt pen, pt begin_, sk ahead] = some (sk s) := by
  obtain ⟨g, gg, eg⟩ := m_goal_eq (n / 8) hp hb
  obtain ⟨f0, gf0, ef0⟩ := m_point_eq (n / 64)
  obtain ⟨b, gb, eb⟩ := m_point_eq (n / 512)
  have d8 := @pDiv_s n 8 (by decide) (by decide)
  have m8 := @pMod_s n 8 (by decide)
  have d64 := @pDiv_s n 64 (by decide) (by decide)
  have d512 := @pDiv_s n 512 (by decide) (by decide)
  have d4096 := @pDiv_s n 4096 (by decide) (by decide)
  have m3 := @pMod_s (n / 4096) 3 (by decide)
  have first : ∃ f : Pt, GdP (k + 1) f ∧ (sIf (mAnd (mTest (mBin pIn (mBin pIx (mVar 3) (mK (.int 0))) (mTup (mCons (mK (.str "bow")) (mCons (mK (.str "wave")) mNil))))) (mTest (mBin pEq (mBin pMod (mBin pDiv (mVar 0) (mK (.int 4096))) (mK (.int 3))) (mK (.int 0))))) (sSet 6 (mCall m__law_sub (mCons (mCall m__law_scale (mCons (mTup (mCons (mK (.int 2)) (mCons (mK (.int 1)) mNil))) (mCons (mVar 1) mNil))) (mCons (mBin pIx (mVar 3) (mUn pNeg (mK (.int 2)))) mNil))))
  sNil) [fz (.int n), fz (pt pen), fz (pt begin_), fz (sk ahead), fz (.int (n % 8)), fz (pt g), fz (pt f0), fz (pt b)] = some (.nx [fz (.int n), fz (pt pen), fz (pt begin_), fz (sk ahead), fz (.int (n % 8)), fz (pt g), fz (pt f), fz (pt b)]) := by
    have no : GdP (k + 1) f0 := gf0.mono (by omega)
    have in1 : pIn (.str "move") (.tuple [.str "bow", .str "wave"]) = some (.bool false) := by rw [in_bw so_move]; simp
    have in2 : pIn (.str "line") (.tuple [.str "bow", .str "wave"]) = some (.bool false) := by rw [in_bw so_line]; simp
    have in3 : pIn (.str "bow") (.tuple [.str "bow", .str "wave"]) = some (.bool true) := by rw [in_bw so_bow]; simp
    have in4 : pIn (.str "wave") (.tuple [.str "bow", .str "wave"]) = some (.bool true) := by rw [in_bw so_wave]; simp
    have in5 : pIn (.str "shut") (.tuple [.str "bow", .str "wave"]) = some (.bool false) := by rw [in_bw so_shut]; simp
    by_cases hm : n / 4096 % 3 = 0
    · cases ahead with
      | move p => exact ⟨f0, no, by simp [sk, in1]⟩
      | line p => exact ⟨f0, no, by simp [sk, in2]⟩
      | bow a p =>
        obtain ⟨f, gf, ef⟩ := m_stroke_first hk hp ha.1
        refine ⟨f, gf, ?_⟩
        cases hs : m__law_scale [.tuple [.int 2, .int 1], pt pen] with
        | none => rw [hs] at ef; cases ef
        | some x =>
          rw [hs] at ef
          have ef' : m__law_sub [x, pt a] = some (pt f) := ef
          have ea : atI [PyData.str "bow", pt a, pt p] (-2) = some (pt a) := rfl
          simp [sk, in3, d4096, m3, hm, hs, ea, ef']
      | wave a c p =>
        obtain ⟨f, gf, ef⟩ := m_stroke_first (Nat.zero_le 12) hp ha.2.1
        refine ⟨f, gf.mono (by omega), ?_⟩
        cases hs : m__law_scale [.tuple [.int 2, .int 1], pt pen] with
        | none => rw [hs] at ef; cases ef
        | some x =>
          rw [hs] at ef
          have ef' : m__law_sub [x, pt c] = some (pt f) := ef
          have ea : atI [PyData.str "wave", pt a, pt c, pt p] (-2) = some (pt c) := rfl
          simp [sk, in4, d4096, m3, hm, hs, ea, ef']
      | shut => exact ⟨f0, no, by simp [sk, in5]⟩
    · cases ahead with
      | move p => exact ⟨f0, no, by simp [sk, in1]⟩
      | line p => exact ⟨f0, no, by simp [sk, in2]⟩
      | bow a p => exact ⟨f0, no, by simp [sk, in3, d4096, m3, hm]⟩
      | wave a c p => exact ⟨f0, no, by simp [sk, in4, d4096, m3, hm]⟩
      | shut => exact ⟨f0, no, by simp [sk, in5]⟩
  obtain ⟨f, gf, ef⟩ := first
  have kinds : n % 8 = 0 ∨ (n % 8 = 1 ∨ n % 8 = 2 ∨ n % 8 = 3) ∨ n % 8 = 4 ∨ (n % 8 = 5 ∨ n % 8 = 6) ∨ n % 8 = 7 := by omega
  have go : ∀ s : Stk, SG (k + 1) s → (sSeq (sIf (mTest (mBin pEq (mVar 4) (mK (.int 0)))) (sRet (mTup (mCons (mK (.str "move")) (mCons (mVar 5) mNil))))
  sNil)
  (sSeq (sIf (mTest (mBin pLt (mVar 4) (mK (.int 4)))) (sRet (mTup (mCons (mK (.str "line")) (mCons (mVar 5) mNil))))
  sNil)
  (sSeq (sIf (mTest (mBin pEq (mVar 4) (mK (.int 4)))) (sRet (mTup (mCons (mK (.str "bow")) (mCons (mVar 6) (mCons (mVar 5) mNil)))))
  sNil)
  (sSeq (sIf (mTest (mBin pLt (mVar 4) (mK (.int 7)))) (sRet (mTup (mCons (mK (.str "wave")) (mCons (mVar 6) (mCons (mVar 7) (mCons (mVar 5) mNil))))))
  sNil)
  (sRet (mTup (mCons (mK (.str "shut")) mNil))))))) [fz (.int n), fz (pt pen), fz (pt begin_), fz (sk ahead), fz (.int (n % 8)), fz (pt g), fz (pt f), fz (pt b)] = some (.rt (sk s)) → ∃ s : Stk, SG (k + 1) s ∧ m__law_stroke [.int n, pt pen, pt begin_, sk ahead] = some (sk s) := by
    intro s hs e
    refine ⟨s, hs, run_rt ?_⟩
    unfold b__law_stroke
    rw [seq_nx (ρ' := [fz (.int n), fz (pt pen), fz (pt begin_), fz (sk ahead), fz (.int (n % 8)), none, none, none]) (by simp [startR, m8]),
      seq_nx (ρ' := [fz (.int n), fz (pt pen), fz (pt begin_), fz (sk ahead), fz (.int (n % 8)), fz (pt g), none, none]) (by simp [d8, eg]),
      seq_nx (ρ' := [fz (.int n), fz (pt pen), fz (pt begin_), fz (sk ahead), fz (.int (n % 8)), fz (pt g), fz (pt f0), none]) (by simp [d64, ef0]),
      seq_nx (ρ' := [fz (.int n), fz (pt pen), fz (pt begin_), fz (sk ahead), fz (.int (n % 8)), fz (pt g), fz (pt f0), fz (pt b)]) (by simp [d512, eb]),
      seq_nx ef]
    exact e
  rcases kinds with h | h | h | h | h
  · exact go (.move g) gg (by simp [h, sk])
  · refine go (.line g) gg ?_
    rcases h with h | h | h <;> simp [h, sk]
  · exact go (.bow f g) ⟨gf, gg⟩ (by simp [h, sk])
  · refine go (.wave f b g) ⟨gf, gb, gg⟩ ?_
    rcases h with h | h <;> simp [h, sk]
  · exact go .shut trivial (by simp [h, sk])
end Dm

set_option Elab.async false
set_option linter.all false
set_option maxRecDepth 100000
set_option exponentiation.threshold 20000
namespace Dm
open PySem PySem.Spec L2 Dw
/-! ### what can be laid -/
theorem lay_fr (q : Rat) : (fr q).canLay0 = true := by simp [fr, PyData.canLay0, PyData.canLayAll0]
theorem lay_pt (p : Pt) : (pt p).canLay0 = true := by simp [pt, PyData.canLay0, PyData.canLayAll0, lay_fr]
theorem lay_sk (s : Stk) : (sk s).canLay0 = true := by cases s <;> simp [sk, PyData.canLay0, PyData.canLayAll0, lay_pt]
theorem layAll_of {ds : List PyData} : (∀ d ∈ ds, d.canLay0 = true) → PyData.canLayAll0 ds = true := by
  induction ds with
  | nil => intro _; simp [PyData.canLayAll0]
  | cons d ds ih =>
    intro h
    simp only [PyData.canLayAll0, Bool.and_eq_true]
    exact ⟨h d (by simp), ih fun x hx => h x (by simp [hx])⟩
theorem lay_t {ds : List PyData} (h : ∀ d ∈ ds, d.canLay0 = true) : (PyData.tuple ds).canLay0 = true := by simpa [PyData.canLay0] using layAll_of h
theorem lay_l {ds : List PyData} (h : ∀ d ∈ ds, d.canLay0 = true) : (PyData.list ds).canLay0 = true := by simpa [PyData.canLay0] using layAll_of h
theorem lay_map {α : Type} {f : α → PyData} (h : ∀ a, (f a).canLay0 = true) (xs : List α) : (PyData.tuple (xs.map f)).canLay0 = true := lay_t (by simpa using fun a _ => h a)
theorem lay_wy (w : List Stk) : (wy w).canLay0 = true := lay_map lay_sk w
theorem dep_fr (q : Rat) : (fr q).depth = 1 := by simp [fr, PyData.depth, PyData.depthAll]
theorem dep_pt (p : Pt) : (pt p).depth = 2 := by simp [pt, PyData.depth, PyData.depthAll, dep_fr]
theorem dep_sk (s : Stk) : (sk s).depth ≤ 3 := by cases s <;> simp [sk, PyData.depth, PyData.depthAll, dep_pt]
theorem depAll_le {n : Nat} {ds : List PyData} : (∀ d ∈ ds, d.depth ≤ n) → PyData.depthAll ds ≤ n := by
  induction ds with
  | nil => intro _; simp [PyData.depthAll]
  | cons d ds ih =>
    intro h
    simp only [PyData.depthAll]
    exact Nat.max_le.mpr ⟨h d (by simp), ih fun x hx => h x (by simp [hx])⟩
theorem dep_t {n : Nat} {ds : List PyData} (h : ∀ d ∈ ds, d.depth ≤ n) : (PyData.tuple ds).depth ≤ n + 1 := by
  simp only [PyData.depth]
  exact Nat.succ_le_succ (depAll_le h)
theorem dep_l {n : Nat} {ds : List PyData} (h : ∀ d ∈ ds, d.depth ≤ n) : (PyData.list ds).depth ≤ n + 1 := by
  simp only [PyData.depth]
  exact Nat.succ_le_succ (depAll_le h)
theorem dep_map {α : Type} {n : Nat} {f : α → PyData} (h : ∀ a, (f a).depth ≤ n) (xs : List α) : (PyData.tuple (xs.map f)).depth ≤ n + 1 := dep_t (by simpa using fun a _ => h a)
theorem dep_wy (w : List Stk) : (wy w).depth ≤ 4 := dep_map dep_sk w
theorem eqOk_of {d e : PyData} (h1 : d.canLay0 = true) (h2 : e.canLay0 = true) (h3 : d.depth ≤ 64) : eqOk d e = true := by
  simp only [eqOk, h1, h2, Bool.true_and, decide_eq_true_eq]
  omega
theorem eqOk_of' {d e : PyData} (h1 : d.canLay0 = true) (h2 : e.canLay0 = true) (h3 : e.depth ≤ 64) : eqOk d e = true := by
  simp only [eqOk, h1, h2, Bool.true_and, decide_eq_true_eq]
  omega
theorem eqv_same {d : PyData} (h : d.canLay0 = true) : PyData.eqv d d = true := PySem.SeqAt.eqv_refl_plain d (PyData.plain_of_canLay0 d h)
theorem pEq_same {d : PyData} (h1 : d.canLay0 = true) (h2 : d.depth ≤ 64) : pEq d d = some (.bool true) := by rw [pEq_g (eqOk_of h1 h1 h2), eqv_same h1]
theorem pNe_same {d : PyData} (h1 : d.canLay0 = true) (h2 : d.depth ≤ 64) : pNe d d = some (.bool false) := by rw [pNe_g (eqOk_of h1 h1 h2), eqv_same h1]; rfl
theorem pNe_nil {xs : List PyData} (h : (PyData.tuple xs).canLay0 = true) : pNe (.tuple xs) (.tuple []) = some (.bool (!xs.isEmpty)) := by
  rw [pNe_g (eqOk_of' h (by simp [PyData.canLay0, PyData.canLayAll0]) (by simp [PyData.depth, PyData.depthAll]))]
  cases xs <;> simp [PyData.eqv, PyData.eqvAll]
/-! ### the way that is drawn -/
def endOf (b : Pt) : Stk → Pt
  | .move p => p
  | .line p => p
  | .bow _ p => p
  | .wave _ _ p => p
  | .shut => b
def begOf (b : Pt) : Stk → Pt
  | .move p => p
  | _ => b
def GW (w : List Stk) : Prop := (∀ s ∈ w, SG w.length s) ∧ (w = [] ∨ ∃ p r, w = .move p :: r)
theorem line_ok {n : Nat} (h : n ≤ 100000) : n ≤ sizeLine := Nat.le_trans h (by decide +kernel)
theorem m_way_step (n : Int) (most : PyData) (w : List Stk) {pen beg : Pt} (x y z : Option Slt) (hw : GW w) (hl : w.length < 12) (hp : GdP 0 pen) (hb : GdP 0 beg) {i : Nat} :
    ∃ s y', GW (w ++ [s]) ∧ GdP 0 (endOf (begOf beg s) s) ∧ GdP 0 (begOf beg s) ∧
      (sSeq (sSet 6 (mBin pDiv (mCall m__law_drawn (mCons (mVar 0) (mCons (mBin pAdd (mK (.int 10)) (mVar 5)) mNil))) (mK (.int 4))))
  (sSeq (sSet 7 (mTup (mCons (mK (.str "move")) (mCons (mCall m__law_point (mCons (mVar 6) mNil)) mNil))))
  (sSeq (sIf (mTest (mBin pNe (mVar 2) (mTup mNil))) (sSet 7 (mCall m__law_stroke (mCons (mVar 6) (mCons (mVar 3) (mCons (mVar 4) (mCons (mBin pIx (mVar 2) (mUn pNeg (mK (.int 1)))) mNil))))))
  sNil)
  (sSeq (sSet 2 (mBin pAdd (mVar 2) (mTup (mCons (mVar 7) mNil))))
  (sSeq (sIf (mTest (mBin pEq (mBin pIx (mVar 7) (mK (.int 0))) (mK (.str "move")))) (sSet 4 (mBin pIx (mVar 7) (mK (.int 1))))
  sNil)
  (sSeq (sSet 3 (mVar 4))
  (sIf (mTest (mBin pNe (mBin pIx (mVar 7) (mK (.int 0))) (mK (.str "shut")))) (sSet 3 (mBin pIx (mVar 7) (mUn pNeg (mK (.int 1)))))
  sNil))))))) [fz (.int n), fz most, fz (wy w), fz (pt pen), fz (pt beg), fz (.int (i : Nat)), y, z] = some (.nx [fz (.int n), fz most, fz (wy (w ++ [s])), fz (pt (endOf (begOf beg s) s)), fz (pt (begOf beg s)), fz (.int (i : Nat)), y', fz (sk s)]) := by
  obtain ⟨r, r0, _, er⟩ := m_drawn_eq n (10 + i)
  have er' : m__law_drawn [.int n, .int (10 + (i : Int))] = some (.int r) := by
    have e : ((10 + i : Nat) : Int) = 10 + (i : Int) := by omega
    rw [← e]; exact er
  have d4 := @pDiv_s r 4 (by decide) (by decide)
  obtain ⟨q, gq, eq⟩ := m_point_eq (r / 4)
  have pick : ∃ s, GW (w ++ [s]) ∧ SG 13 s ∧ (sIf (mTest (mBin pNe (mVar 2) (mTup mNil))) (sSet 7 (mCall m__law_stroke (mCons (mVar 6) (mCons (mVar 3) (mCons (mVar 4) (mCons (mBin pIx (mVar 2) (mUn pNeg (mK (.int 1)))) mNil))))))
  sNil) [fz (.int n), fz most, fz (wy w), fz (pt pen), fz (pt beg), fz (.int (i : Nat)), fz (.int (r / 4)), fz (sk (.move q))] = some (.nx [fz (.int n), fz most, fz (wy w), fz (pt pen), fz (pt beg), fz (.int (i : Nat)), fz (.int (r / 4)), fz (sk s)]) := by
    rcases List.eq_nil_or_concat w with h | ⟨w', l, h⟩
    · subst h
      refine ⟨.move q, ⟨by simpa [SG] using gq, .inr ⟨q, [], rfl⟩⟩, gq, ?_⟩
      have e0 : pNe (wy []) (.tuple []) = some (.bool false) := pNe_nil (lay_wy [])
      simp [e0]
    · have hl' : w.length = w'.length + 1 := by rw [h]; simp
      have hlast : SG w.length l := hw.1 l (by rw [h]; simp)
      obtain ⟨s, gs, es⟩ := m_stroke_eq (r / 4) (k := w.length) (by omega) hp hb hlast
      refine ⟨s, ⟨?_, ?_⟩, gs.mono (by omega), ?_⟩
      · intro t ht
        rw [List.mem_append, List.mem_singleton] at ht
        rw [List.length_append]
        rcases ht with ht | rfl
        · exact (hw.1 t ht).mono (by simp)
        · exact gs
      · rcases hw.2 with e | ⟨p, r', e⟩
        · rw [e] at hl'; simp at hl'
        · exact .inr ⟨p, r' ++ [s], by rw [e]; rfl⟩
      · have e1 : pNe (wy w) (.tuple []) = some (.bool true) := by
          have := pNe_nil (lay_wy w)
          rw [show wy w = .tuple (w.map sk) from rfl, this, h]
          simp
        have e2 : pIx (wy w) (.int (-1)) = some (sk l) := by
          rw [h]
          simp only [wy, pIx_t, List.concat_eq_append, List.map_append, List.map_cons, List.map_nil]
          exact atI_last _ _
        simp [e1, e2, es]
  obtain ⟨s, gs, ss, es⟩ := pick
  refine ⟨s, fz (.int (r / 4)), gs, ?_, ?_, ?_⟩
  · cases s with
    | move p => exact ss
    | line p => exact ss
    | bow a p => exact ss.2
    | wave a b p => exact ss.2.2
    | shut => exact hb
  · cases s with
    | move p => exact ss
    | _ => exact hb
  · have ea : pAdd (wy w) (.tuple [sk s]) = some (wy (w ++ [s])) := by
      unfold wy
      rw [pAdd_t (line_ok (by simp; omega)), List.map_append]
      rfl
    rw [seq_nx (ρ' := [fz (.int n), fz most, fz (wy w), fz (pt pen), fz (pt beg), fz (.int (i : Nat)), fz (.int (r / 4)), z]) (by simp [er', d4]),
      seq_nx (ρ' := [fz (.int n), fz most, fz (wy w), fz (pt pen), fz (pt beg), fz (.int (i : Nat)), fz (.int (r / 4)), fz (sk (.move q))]) (by simp [eq, sk]),
      seq_nx es,
      seq_nx (ρ' := [fz (.int n), fz most, fz (wy (w ++ [s])), fz (pt pen), fz (pt beg), fz (.int (i : Nat)), fz (.int (r / 4)), fz (sk s)]) (by simp [ea])]
    have l2 : ∀ a b : PyData, atI [a, b] (-1) = some b := fun _ _ => rfl
    have l3 : ∀ a b c : PyData, atI [a, b, c] (-1) = some c := fun _ _ _ => rfl
    have l4 : ∀ a b c d : PyData, atI [a, b, c, d] (-1) = some d := fun _ _ _ _ => rfl
    cases s <;> simp [sk, begOf, endOf, l2, l3, l4]
theorem pt_zero : (PyData.tuple [.tuple [.int 0, .int 1], .tuple [.int 0, .int 1]]) = pt (0, 0) := rfl
theorem rng_get {n i : Nat} {d : PyData} (h : (rng 0 n)[i]? = some d) : i < n ∧ d = .int (i : Nat) := by
  unfold rng at h
  rw [List.getElem?_map] at h
  by_cases hi : i < n
  · rw [List.getElem?_range hi] at h
    refine ⟨hi, ?_⟩
    have := Option.some.inj h
    rw [← this]
    simp
  · rw [List.getElem?_eq_none (by simpa using hi)] at h
    cases h
theorem rng_len (lo : Int) (n : Nat) : (rng lo n).length = n := by simp [rng]
theorem m_way_eq (n most : Int) (h0 : 0 ≤ most) (h1 : most ≤ 12) : ∃ w, GW w ∧ (w.length : Int) ≤ most ∧ m__law_way [.int n, .int most] = some (wy w) := by
  have c1 : 0 ≤ n % (most + 1) := Int.emod_nonneg _ (by omega)
  have c2 : n % (most + 1) < most + 1 := Int.emod_lt_of_pos _ (by omega)
  have hm := @pMod_s n (most + 1) (by omega)
  have hr : pRng1 [.int (n % (most + 1))] = some (rng 0 (n % (most + 1)).toNat) := pRng1_i (by simp [rOk]; omega)
  obtain ⟨ρ', e, w, pen, beg, x, y, z, rfl, hlen, gw, _, _⟩ := for_inv (fi := mIt pRng1 (mCons (mBin pMod (mVar 0) (mBin pAdd (mVar 1) (mK (.int 1)))) mNil)) (g := gN 5)
    (body := (sSeq (sSet 6 (mBin pDiv (mCall m__law_drawn (mCons (mVar 0) (mCons (mBin pAdd (mK (.int 10)) (mVar 5)) mNil))) (mK (.int 4))))
  (sSeq (sSet 7 (mTup (mCons (mK (.str "move")) (mCons (mCall m__law_point (mCons (mVar 6) mNil)) mNil))))
  (sSeq (sIf (mTest (mBin pNe (mVar 2) (mTup mNil))) (sSet 7 (mCall m__law_stroke (mCons (mVar 6) (mCons (mVar 3) (mCons (mVar 4) (mCons (mBin pIx (mVar 2) (mUn pNeg (mK (.int 1)))) mNil))))))
  sNil)
  (sSeq (sSet 2 (mBin pAdd (mVar 2) (mTup (mCons (mVar 7) mNil))))
  (sSeq (sIf (mTest (mBin pEq (mBin pIx (mVar 7) (mK (.int 0))) (mK (.str "move")))) (sSet 4 (mBin pIx (mVar 7) (mK (.int 1))))
  sNil)
  (sSeq (sSet 3 (mVar 4))
  (sIf (mTest (mBin pNe (mBin pIx (mVar 7) (mK (.int 0))) (mK (.str "shut")))) (sSet 3 (mBin pIx (mVar 7) (mUn pNeg (mK (.int 1)))))
  sNil))))))))
    (ρ := [fz (.int n), fz (.int most), fz (wy []), fz (pt (0, 0)), fz (pt (0, 0)), none, none, none]) (ds := rng 0 (n % (most + 1)).toNat)
    (fun i ρ => ∃ w pen beg x y z, ρ = [fz (.int n), fz (.int most), fz (wy w), fz (pt pen), fz (pt beg), x, y, z] ∧ w.length = i ∧ GW w ∧ GdP 0 pen ∧ GdP 0 beg)
    (by simp [hm, hr]) ⟨[], (0, 0), (0, 0), none, none, none, rfl, rfl, ⟨by simp, .inl rfl⟩, ⟨Gd.zero, Gd.zero⟩, ⟨Gd.zero, Gd.zero⟩⟩ (by
      rintro i d ρ hd ⟨w, pen, beg, x, y, z, rfl, hlen, gw, gp, gb⟩
      obtain ⟨hi, rfl⟩ := rng_get hd
      obtain ⟨s, y', g1, g2, g3, e⟩ := m_way_step n (.int most) w x y z gw (by omega) gp gb (i := i)
      refine ⟨_, .inl e, w ++ [s], _, _, _, _, _, rfl, by simp [hlen], g1, g2, g3⟩)
  refine ⟨w, gw, ?_, run_rt ?_⟩
  · rw [hlen, rng_len]; omega
  · unfold b__law_way
    rw [seq_nx (ρ' := [fz (.int n), fz (.int most), fz (wy []), none, none, none, none, none]) (by simp [startR, wy]),
      seq_nx (ρ' := [fz (.int n), fz (.int most), fz (wy []), fz (pt (0, 0)), none, none, none, none]) (by simp [pt_zero]),
      seq_nx (ρ' := [fz (.int n), fz (.int most), fz (wy []), fz (pt (0, 0)), fz (pt (0, 0)), none, none, none]) (by simp),
      seq_nx e]
    have e2 : [fz (.int n), fz (.int most), fz (wy w), fz (pt pen), fz (pt beg), x, y, z].map frzS = fz (.int n) :: fz (.int most) :: fz (wy w) :: [fz (pt pen), fz (pt beg), frzS x, frzS y, frzS z] := rfl
    simp [ret_ap]
end Dm

set_option Elab.async false
set_option linter.all false
set_option maxRecDepth 100000
set_option exponentiation.threshold 20000
namespace Dm
open PySem PySem.Spec L2 Dw
/-! ### pens and begins -/
def begAt (w : List Stk) (i : Nat) : Pt := (w.take i).foldl begOf (0, 0)
def penAt (w : List Stk) : Nat → Pt
  | 0 => (0, 0)
  | i + 1 => match w[i]? with
    | some s => endOf (begAt w (i + 1)) s
    | none => (0, 0)
section
variable {w : List Stk} {i : Nat} {s : Stk}
theorem begAt_succ (h : w[i]? = some s) : begAt w (i + 1) = begOf (begAt w i) s := by
  unfold begAt
  rw [List.take_add_one, h]
  simp
theorem penAt_succ (h : w[i]? = some s) : penAt w (i + 1) = endOf (begAt w (i + 1)) s := by simp [penAt, h]
theorem sk_get {d : PyData} (h : (w.map sk)[i]? = some d) : ∃ s, w[i]? = some s ∧ d = sk s ∧ i < w.length := by
  rw [List.getElem?_map] at h
  cases e : w[i]? with
  | none => rw [e] at h; cases h
  | some s =>
    rw [e] at h
    exact ⟨s, rfl, (Option.some.inj h).symm, (List.getElem?_eq_some_iff.mp e).1⟩
end
def pens (w : List Stk) : List PyData := (List.range (w.length + 1)).map fun i => pt (penAt w i)
def begs (w : List Stk) : List PyData := (List.range w.length).map fun i => pt (begAt w (i + 1))
theorem line_lt {n : Nat} (h : n ≤ 100000) : n < sizeLine := Nat.lt_of_le_of_lt h (by decide +kernel)
theorem rmap_succ {α : Type} (f : Nat → α) (n : Nat) : (List.range (n + 1)).map f = (List.range n).map f ++ [f n] := by rw [List.range_succ]; simp
@[simp] theorem l2 (a b : PyData) : atI [a, b] (-1) = some b := id rfl
@[simp] theorem l3 (a b c : PyData) : atI [a, b, c] (-1) = some c := id rfl
@[simp] theorem l4 (a b c d : PyData) : atI [a, b, c, d] (-1) = some d := id rfl
theorem c_BEGIN_eq : c_BEGIN = pt (0, 0) := rfl
theorem m_pens_eq (w : List Stk) (hl : w.length ≤ 1000) : m_pens [wy w] = some (.tuple (pens w)) := by
  refine run_rt ?_
  unfold b_pens
  rw [seq_nx (ρ' := [fz (wy w), ow [], none, none, none]) (by simp [startR]),
    seq_nx (ρ' := [fz (wy w), ow [], fz (pt (0, 0)), none, none]) (by simp [c_BEGIN_eq]),
    seq_nx (ρ' := [fz (wy w), ow [], fz (pt (0, 0)), fz (pt (0, 0)), none]) (by simp [c_BEGIN_eq])]
  obtain ⟨ρ', e, x, rfl⟩ := for_inv (fi := mItems (mVar 0)) (g := gN 4) (body := (sSeq (sApp 1 (mVar 2))
  (sSeq (sIf (mTest (mBin pEq (mBin pIx (mVar 4) (mK (.int 0))) (mK c_MOVE))) (sSet 3 (mBin pIx (mVar 4) (mK (.int 1))))
  sNil)
  (sIf (mTest (mBin pEq (mBin pIx (mVar 4) (mK (.int 0))) (mK c_SHUT))) (sSet 2 (mVar 3))
  (sSet 2 (mBin pIx (mVar 4) (mUn pNeg (mK (.int 1))))))))) (ds := w.map sk)
    (ρ := [fz (wy w), ow [], fz (pt (0, 0)), fz (pt (0, 0)), none])
    (fun i ρ => ∃ x, ρ = [fz (wy w), ow ((List.range i).map fun i => pt (penAt w i)), fz (pt (penAt w i)), fz (pt (begAt w i)), x])
    rfl ⟨none, rfl⟩ (by
      rintro i d ρ hd ⟨x, rfl⟩
      obtain ⟨s, hs, rfl, hi⟩ := sk_get hd
      have hz : i < sizeLine := line_lt (by omega)
      refine ⟨_, .inl ?_, fz (sk s), rfl⟩
      rw [rmap_succ, penAt_succ hs, begAt_succ hs]
      cases s <;> simp [sk, c_MOVE, c_SHUT, begOf, endOf, hz])
  rw [seq_nx e]
  have hz : w.length < sizeLine := line_lt (by omega)
  rw [List.length_map]
  simp [hz, pens, rmap_succ]
theorem m_law_pens_eq (w : List Stk) (hl : w.length ≤ 1000) : m__law_pens [wy w] = some (.list (pens w)) := by
  refine run_rt ?_
  unfold b__law_pens
  rw [seq_nx (ρ' := [fz (wy w), ow [pt (0, 0)], none, none]) (by simp [startR, pt_zero]),
    seq_nx (ρ' := [fz (wy w), ow [pt (0, 0)], fz (pt (0, 0)), none]) (by simp)]
  obtain ⟨ρ', e, x, rfl⟩ := for_inv (fi := mItems (mVar 0)) (g := gN 3) (body := (sSeq (sIf (mTest (mBin pEq (mBin pIx (mVar 3) (mK (.int 0))) (mK (.str "move")))) (sSet 2 (mBin pIx (mVar 3) (mK (.int 1))))
  sNil)
  (sApp 1 (mBin pIx (mBin pAdd (mVar 3) (mTup (mCons (mVar 2) mNil))) (mBin pSub (mCall pLen (mCons (mVar 3) mNil)) (mCall pInt (mCons (mBin pNe (mBin pIx (mVar 3) (mK (.int 0))) (mK (.str "shut"))) mNil))))))) (ds := w.map sk)
    (ρ := [fz (wy w), ow [pt (0, 0)], fz (pt (0, 0)), none])
    (fun i ρ => ∃ x, ρ = [fz (wy w), ow ((List.range (i + 1)).map fun i => pt (penAt w i)), fz (pt (begAt w i)), x])
    rfl ⟨none, rfl⟩ (by
      rintro i d ρ hd ⟨x, rfl⟩
      obtain ⟨s, hs, rfl, hi⟩ := sk_get hd
      have hz : i + 1 < sizeLine := line_lt (by omega)
      refine ⟨_, .inl ?_, fz (sk s), rfl⟩
      rw [rmap_succ _ (i + 1), penAt_succ hs, begAt_succ hs]
      have a2 : ∀ a b c : PyData, pAdd (.tuple [a, b]) (.tuple [c]) = some (.tuple [a, b, c]) := fun a b c => pAdd_t (line_ok (by simp))
      have a3 : ∀ a b c d : PyData, pAdd (.tuple [a, b, c]) (.tuple [d]) = some (.tuple [a, b, c, d]) := fun a b c d => pAdd_t (line_ok (by simp))
      have a4 : ∀ a b c d e : PyData, pAdd (.tuple [a, b, c, d]) (.tuple [e]) = some (.tuple [a, b, c, d, e]) := fun a b c d e => pAdd_t (line_ok (by simp))
      have a1 : ∀ a b : PyData, pAdd (.tuple [a]) (.tuple [b]) = some (.tuple [a, b]) := fun a b => pAdd_t (line_ok (by simp))
      cases s <;> simp [sk, begOf, endOf, hz, a1, a2, a3, a4])
  rw [seq_nx e, List.length_map]
  simp [pens]
theorem m_begins_eq (w : List Stk) (hl : w.length ≤ 1000) : m_begins [wy w] = some (.tuple (begs w)) := by
  refine run_rt ?_
  unfold b_begins
  rw [seq_nx (ρ' := [fz (wy w), ow [], none, none]) (by simp [startR]),
    seq_nx (ρ' := [fz (wy w), ow [], fz (pt (0, 0)), none]) (by simp [c_BEGIN_eq])]
  obtain ⟨ρ', e, x, rfl⟩ := for_inv (fi := mItems (mVar 0)) (g := gN 3) (body := (sSeq (sIf (mTest (mBin pEq (mBin pIx (mVar 3) (mK (.int 0))) (mK c_MOVE))) (sSet 2 (mBin pIx (mVar 3) (mK (.int 1))))
  sNil)
  (sApp 1 (mVar 2)))) (ds := w.map sk)
    (ρ := [fz (wy w), ow [], fz (pt (0, 0)), none])
    (fun i ρ => ∃ x, ρ = [fz (wy w), ow ((List.range i).map fun i => pt (begAt w (i + 1))), fz (pt (begAt w i)), x])
    rfl ⟨none, rfl⟩ (by
      rintro i d ρ hd ⟨x, rfl⟩
      obtain ⟨s, hs, rfl, hi⟩ := sk_get hd
      have hz : i < sizeLine := line_lt (by omega)
      refine ⟨_, .inl ?_, fz (sk s), rfl⟩
      rw [rmap_succ, begAt_succ hs]
      cases s <;> simp [sk, c_MOVE, begOf, hz])
  rw [seq_nx e, List.length_map]
  simp [begs]
theorem lay_pens (w : List Stk) : (PyData.tuple (pens w)).canLay0 = true := lay_map (fun i => lay_pt _) _
theorem dep_pens (w : List Stk) : (PyData.tuple (pens w)).depth ≤ 64 := Nat.le_trans (dep_map (n := 2) (fun i => Nat.le_of_eq (dep_pt _)) _) (by decide)
theorem lay_begs (w : List Stk) : (PyData.tuple (begs w)).canLay0 = true := lay_map (fun i => lay_pt _) _
theorem dep_begs (w : List Stk) : (PyData.tuple (begs w)).depth ≤ 64 := Nat.le_trans (dep_map (n := 2) (fun i => Nat.le_of_eq (dep_pt _)) _) (by decide)
/-! ### parts -/
/-- what is still to be found: the rest of the way, where its part began, the part so far -/
def prt : List Stk → Pt → List Stk → List (List Stk)
  | [], _, so => [so]
  | .move p :: w, _, so => so :: prt w p [.move p]
  | .shut :: w, b, so => ((if so.isEmpty then [.move b] else so) ++ [.shut]) :: prt w b []
  | s :: w, b, so => prt w b ((if so.isEmpty then [.move b] else so) ++ [s])
abbrev big (x : List Stk) : Bool := decide (1 < x.length)
def parts (w : List Stk) : List (List Stk) := (prt w (0, 0) []).filter big
theorem drop_at {w : List Stk} {i : Nat} {s : Stk} (h : w[i]? = some s) : w.drop i = s :: w.drop (i + 1) := by
  obtain ⟨hi, e⟩ := List.getElem?_eq_some_iff.mp h
  rw [← e]
  exact List.drop_eq_getElem_cons hi
theorem lcL_big {j : Nat} {ρ : Rho} (hj : j < ρ.length) : ∀ rows : List (List Stk), lcL (gN j) (mTest (mBin pGt (mCall pLen (mCons (mVar j) mNil)) (mK (.int 1)))) (mVar j) ρ (rows.map wy) = some ((rows.filter big).map wy)
  | [] => rfl
  | r :: rows => by
    have ih := lcL_big hj rows
    have hv : mVar j (ρ.set j (some (.frz (wy r)))) = some (wy r) := by
      unfold mVar
      rw [List.getElem?_set_self hj]
    have hc : ((1 : Int) < (r.length : Int)) = (1 < r.length) := by apply propext; omega
    unfold lcL
    simp only [List.map_cons]
    rw [gN_ap]
    simp only [Option.bind_some, mTest_ap, mBin_ap, mCall_ap, mCons_ap, mNil_ap, mK_ap, hv]
    simp only [wy, Option.bind_some, pLen_t, pGt_i, asB_ap, List.length_map, hc]
    by_cases h : 1 < r.length
    · simp [h, big, ih, wy]
    · simp [h, big, ih, wy]
theorem zip_get {xs ys : List PyData} {i : Nat} {d : PyData} (h : (zipD xs ys)[i]? = some d) : ∃ x y, xs[i]? = some x ∧ ys[i]? = some y ∧ d = .tuple [x, y] := by
  unfold zipD at h
  rw [List.getElem?_zipWith] at h
  cases h1 : xs[i]? with
  | none => rw [h1] at h; cases h
  | some x =>
    cases h2 : ys[i]? with
    | none => rw [h1, h2] at h; cases h
    | some y =>
      rw [h1, h2] at h
      exact ⟨x, y, rfl, rfl, (Option.some.inj h).symm⟩
theorem rmap_get {f : Nat → PyData} {n i : Nat} {d : PyData} (h : ((List.range n).map f)[i]? = some d) : i < n ∧ d = f i := by
  rw [List.getElem?_map] at h
  by_cases hi : i < n
  · rw [List.getElem?_range hi] at h
    exact ⟨hi, (Option.some.inj h).symm⟩
  · rw [List.getElem?_eq_none (by simpa using hi)] at h
    cases h
theorem pLen_wy (w : List Stk) : pLen [wy w] = some (.int w.length) := by simp [wy]
theorem pAdd_wy {w v : List Stk} (h : w.length + v.length ≤ 100000) : pAdd (wy w) (wy v) = some (wy (w ++ v)) := by
  unfold wy
  rw [pAdd_t (line_ok (by simpa using h)), List.map_append]
/-! strokes, read -/
section
variable {p a b : Pt}
@[simp] theorem ix_move : pIx (sk (.move p)) (.int 0) = some (.str "move") := id rfl
@[simp] theorem ix_line : pIx (sk (.line p)) (.int 0) = some (.str "line") := id rfl
@[simp] theorem ix_bow : pIx (sk (.bow a p)) (.int 0) = some (.str "bow") := id rfl
@[simp] theorem ix_wave : pIx (sk (.wave a b p)) (.int 0) = some (.str "wave") := id rfl
@[simp] theorem ix_shut : pIx (sk .shut) (.int 0) = some (.str "shut") := id rfl
@[simp] theorem ix_move1 : pIx (sk (.move p)) (.int 1) = some (pt p) := id rfl
@[simp] theorem ix_line1 : pIx (sk (.line p)) (.int 1) = some (pt p) := id rfl
@[simp] theorem ix_bow1 : pIx (sk (.bow a p)) (.int 1) = some (pt a) := id rfl
@[simp] theorem ix_bow2 : pIx (sk (.bow a p)) (.int 2) = some (pt p) := id rfl
@[simp] theorem ix_wave1 : pIx (sk (.wave a b p)) (.int 1) = some (pt a) := id rfl
@[simp] theorem ix_wave2 : pIx (sk (.wave a b p)) (.int 2) = some (pt b) := id rfl
@[simp] theorem ix_wave3 : pIx (sk (.wave a b p)) (.int 3) = some (pt p) := id rfl
@[simp] theorem ix_moveL : pIx (sk (.move p)) (.int (-1)) = some (pt p) := id rfl
@[simp] theorem ix_lineL : pIx (sk (.line p)) (.int (-1)) = some (pt p) := id rfl
@[simp] theorem ix_bowL : pIx (sk (.bow a p)) (.int (-1)) = some (pt p) := id rfl
@[simp] theorem ix_waveL : pIx (sk (.wave a b p)) (.int (-1)) = some (pt p) := id rfl
theorem mk_move : PyData.tuple [.str "move", pt p] = sk (.move p) := rfl
theorem mk_one {s : Stk} : PyData.tuple [sk s] = wy [s] := rfl
theorem mk_nil : PyData.tuple [] = wy [] := rfl
end
def opn (b : Pt) (so : List Stk) : List Stk := if so.isEmpty then [.move b] else so
theorem opn_nil (b : Pt) : opn b [] = [.move b] := rfl
theorem opn_cons (b : Pt) (s : Stk) (r : List Stk) : opn b (s :: r) = s :: r := rfl
theorem opn_len {b : Pt} {so : List Stk} {n : Nat} (h : so.length ≤ n) : (opn b so).length ≤ n + 1 := by
  cases so with
  | nil => simp [opn_nil]
  | cons s r => rw [opn_cons]; omega
theorem m_parts_step {w so : List Stk} {found : List (List Stk)} {x y : Option Slt} {b : Pt} {s : Stk} (h1 : found.length ≤ 3000) (h2 : so.length ≤ 3000) :
  (sSeq (sIf (mTest (mBin pEq (mBin pIx (mVar 3) (mK (.int 0))) (mK c_MOVE))) (sSeq (sApp 1 (mVar 2))
  (sSet 2 (mTup (mCons (mVar 3) mNil))))
  (sSeq (sIf (mTest (mBin pEq (mCall pLen (mCons (mVar 2) mNil)) (mK (.int 0)))) (sSet 2 (mTup (mCons (mTup (mCons (mK c_MOVE) (mCons (mVar 4) mNil))) mNil)))
  sNil)
  (sSet 2 (mBin pAdd (mVar 2) (mTup (mCons (mVar 3) mNil))))))
  (sIf (mTest (mBin pEq (mBin pIx (mVar 3) (mK (.int 0))) (mK c_SHUT))) (sSeq (sApp 1 (mVar 2))
  (sSet 2 (mTup mNil)))
  sNil)) [fz (wy w), ow (found.map wy), fz (wy so), fz (sk s), fz (pt b), none] = some (.nx (match s with
    | .move p => [fz (wy w), ow ((found ++ [so]).map wy), fz (wy [.move p]), fz (sk s), fz (pt b), none]
    | .shut => [fz (wy w), ow ((found ++ [opn b so ++ [Stk.shut]]).map wy), fz (wy []), fz (sk s), fz (pt b), none]
    | s => [fz (wy w), ow (found.map wy), fz (wy (opn b so ++ [s])), fz (sk s), fz (pt b), none])) := by
  have hz : found.length < sizeLine := line_lt (by omega)
  have ad : ∀ t : Stk, pAdd (wy (opn b so)) (wy [t]) = some (wy (opn b so ++ [t])) := fun t => pAdd_wy (by
    have := opn_len (b := b) h2
    simp only [List.length_singleton]; omega)
  have e1 : sIf (mTest (mBin pEq (mCall pLen (mCons (mVar 2) mNil)) (mK (.int 0)))) (sSet 2 (mTup (mCons (mTup (mCons (mK c_MOVE) (mCons (mVar 4) mNil))) mNil))) sNil [fz (wy w), ow (found.map wy), fz (wy so), fz (sk s), fz (pt b), none] = some (.nx [fz (wy w), ow (found.map wy), fz (wy (opn b so)), fz (sk s), fz (pt b), none]) := by
    cases so with
    | nil => simp [pLen_wy, c_MOVE, mk_move, mk_one, opn_nil]
    | cons t r =>
      have hc : ((r.length : Int) + 1 = 0) = False := eq_false (by omega)
      simp [pLen_wy, opn_cons, hc]
  have e2 : (∀ p, s ≠ .move p) → sIf (mTest (mBin pEq (mBin pIx (mVar 3) (mK (.int 0))) (mK c_MOVE))) (sSeq (sApp 1 (mVar 2))
      (sSet 2 (mTup (mCons (mVar 3) mNil))))
      (sSeq (sIf (mTest (mBin pEq (mCall pLen (mCons (mVar 2) mNil)) (mK (.int 0)))) (sSet 2 (mTup (mCons (mTup (mCons (mK c_MOVE) (mCons (mVar 4) mNil))) mNil)))
      sNil)
      (sSet 2 (mBin pAdd (mVar 2) (mTup (mCons (mVar 3) mNil))))) [fz (wy w), ow (found.map wy), fz (wy so), fz (sk s), fz (pt b), none] = some (.nx [fz (wy w), ow (found.map wy), fz (wy (opn b so ++ [s])), fz (sk s), fz (pt b), none]) := by
    intro hn
    have e3 : ∀ u v : MS, sIf (mTest (mBin pEq (mBin pIx (mVar 3) (mK (.int 0))) (mK c_MOVE))) u v [fz (wy w), ow (found.map wy), fz (wy so), fz (sk s), fz (pt b), none] = v [fz (wy w), ow (found.map wy), fz (wy so), fz (sk s), fz (pt b), none] := by
      intro u v
      cases s with
      | move p => exact absurd rfl (hn p)
      | _ => simp [c_MOVE]
    rw [e3, seq_nx e1]
    simp [mk_one, ad]
  cases s with
  | move p => simp [c_MOVE, c_SHUT, hz, mk_one]
  | shut =>
    rw [seq_nx (e2 (by simp))]
    simp [c_SHUT, hz, mk_nil]
  | line p =>
    rw [seq_nx (e2 (by simp))]
    simp [c_SHUT]
  | bow a p =>
    rw [seq_nx (e2 (by simp))]
    simp [c_SHUT]
  | wave a b p =>
    rw [seq_nx (e2 (by simp))]
    simp [c_SHUT]
theorem m_parts_eq (w : List Stk) (hl : w.length ≤ 1000) : m_parts [wy w] = some (.tuple ((parts w).map wy)) := by
  refine run_rt ?_
  unfold b_parts
  rw [seq_nx (ρ' := [fz (wy w), ow [], none, none, none, none]) (by simp [startR]),
    seq_nx (ρ' := [fz (wy w), ow [], fz (wy []), none, none, none]) (by simp [wy])]
  obtain ⟨ρ', e, found, so, x, y, rfl, hb, h1, h2⟩ := for_inv (fi := (mIt pZip (mCons (mVar 0) (mCons (mCall m_begins (mCons (mVar 0) mNil)) mNil)))) (g := (gT 2 (gs1 (gN 3) (gs1 (gN 4) gs0')))) (body := (sSeq (sIf (mTest (mBin pEq (mBin pIx (mVar 3) (mK (.int 0))) (mK c_MOVE))) (sSeq (sApp 1 (mVar 2))
  (sSet 2 (mTup (mCons (mVar 3) mNil))))
  (sSeq (sIf (mTest (mBin pEq (mCall pLen (mCons (mVar 2) mNil)) (mK (.int 0)))) (sSet 2 (mTup (mCons (mTup (mCons (mK c_MOVE) (mCons (mVar 4) mNil))) mNil)))
  sNil)
  (sSet 2 (mBin pAdd (mVar 2) (mTup (mCons (mVar 3) mNil))))))
  (sIf (mTest (mBin pEq (mBin pIx (mVar 3) (mK (.int 0))) (mK c_SHUT))) (sSeq (sApp 1 (mVar 2))
  (sSet 2 (mTup mNil)))
  sNil))) (ds := zipD (w.map sk) (begs w))
    (ρ := [fz (wy w), ow [], fz (wy []), none, none, none])
    (fun i ρ => ∃ found so x y, ρ = [fz (wy w), ow (found.map wy), fz (wy so), x, y, none] ∧ found ++ prt (w.drop i) (begAt w i) so = prt w (0, 0) [] ∧ found.length ≤ 2 * i ∧ so.length ≤ 2 * i)
    (by simp [wy, show m_begins [.tuple (w.map sk)] = some (.tuple (begs w)) from m_begins_eq w hl]) ⟨[], [], none, none, rfl, rfl, by simp, by simp⟩ (by
      rintro i d ρ hd ⟨found, so, x, y, rfl, hb, h1, h2⟩
      obtain ⟨a, b, ha, hbb, rfl⟩ := zip_get hd
      obtain ⟨s, hs, rfl, hi⟩ := sk_get ha
      obtain ⟨_, rfl⟩ := rmap_get hbb
      rw [begAt_succ hs]
      rw [drop_at hs] at hb
      have e := m_parts_step (w := w) (x := x) (y := y) (b := begOf (begAt w i) s) (s := s) (found := found) (so := so) (by omega) (by omega)
      have hg : gT 2 (gs1 (gN 3) (gs1 (gN 4) gs0')) (.tuple [sk s, pt (begOf (begAt w i) s)]) [fz (wy w), ow (found.map wy), fz (wy so), x, y, none] = some [fz (wy w), ow (found.map wy), fz (wy so), fz (sk s), fz (pt (begOf (begAt w i) s)), none] := by simp
      have ol := opn_len (b := begAt w i) h2
      rw [hg]
      refine ⟨_, .inl e, ?_⟩
      cases s with
      | move p => exact ⟨found ++ [so], [.move p], _, _, rfl, by rw [← hb]; simp [prt, begOf], by simp; omega, by simp; omega⟩
      | shut => exact ⟨found ++ [opn (begAt w i) so ++ [.shut]], [], _, _, rfl, by rw [← hb]; simp [prt, begOf, opn], by simp; omega, by simp⟩
      | line p => exact ⟨found, opn (begAt w i) so ++ [.line p], _, _, rfl, by rw [← hb]; simp [prt, begOf, opn], by omega, by simp; omega⟩
      | bow a p => exact ⟨found, opn (begAt w i) so ++ [.bow a p], _, _, rfl, by rw [← hb]; simp [prt, begOf, opn], by omega, by simp; omega⟩
      | wave a b p => exact ⟨found, opn (begAt w i) so ++ [.wave a b p], _, _, rfl, by rw [← hb]; simp [prt, begOf, opn], by omega, by simp; omega⟩)
  rw [seq_nx e]
  have hlen : (zipD (w.map sk) (begs w)).length = w.length := by simp [zipD, begs]
  rw [hlen] at hb h1
  rw [List.drop_length] at hb
  have hz : found.length < sizeLine := line_lt (by omega)
  rw [seq_nx (ρ' := [fz (wy w), ow ((found ++ [so]).map wy), fz (wy so), x, y, none]) (by simp [hz])]
  have hz2 : found.length + 1 ≤ sizeLine := hz
  have hp : parts w = (found ++ [so]).filter big := by rw [parts, ← hb]; rfl
  have hlc := lcL_big (j := 5) (ρ := [fz (wy w), fz (.list ((found ++ [so]).map wy)), fz (wy so), frzS x, frzS y, none]) (by simp) (found ++ [so])
  have hm : mLc (mItems (mVar 1)) (gN 5) (mTest (mBin pGt (mCall pLen (mCons (mVar 5) mNil)) (mK (.int 1)))) (mVar 5) [5] [fz (wy w), fz (.list ((found ++ [so]).map wy)), fz (wy so), frzS x, frzS y, none] = some ((parts w).map wy) := by
    unfold mLc
    rw [hp, ← hlc]
    simp [hz2, wipeR]
  rw [ret_ap]
  simp only [List.map_cons, frzS_frz, frzS_own, List.map_nil, frzS_none, mCall_ap, mCons_ap, mLst_ap, hm, mNil_ap, Option.bind_some, pTuple_l]
end Dm

set_option Elab.async false
set_option linter.all false
set_option maxRecDepth 100000
set_option exponentiation.threshold 20000
namespace Dm
open PySem PySem.Spec L2 Dw
theorem enum_get {xs : List PyData} {i : Nat} {d : PyData} (h : (enumD xs)[i]? = some d) : ∃ x, xs[i]? = some x ∧ d = .tuple [.int (i : Nat), x] := by
  unfold enumD at h
  obtain ⟨hi, rfl⟩ := rmap_get h
  refine ⟨xs[i], List.getElem?_eq_getElem hi, ?_⟩
  simp [List.getD, List.getElem?_eq_getElem hi]
theorem enum_len (xs : List PyData) : (enumD xs).length = xs.length := by simp [enumD]
theorem rng_succ (n : Nat) : rng 0 (n + 1) = rng 0 n ++ [.int (n : Nat)] := by
  unfold rng
  rw [rmap_succ]
  simp
theorem lcL_append {g : MG} {ft : Mr Bool} {fe : Mr PyData} {ρ : Rho} : ∀ {ds es xs ys : List PyData}, lcL g ft fe ρ ds = some xs → lcL g ft fe ρ es = some ys → lcL g ft fe ρ (ds ++ es) = some (xs ++ ys)
  | [], es, xs, ys, h1, h2 => by
    cases h1
    exact h2
  | d :: ds, es, xs, ys, h1, h2 => by
    unfold lcL at h1
    show lcL g ft fe ρ (d :: (ds ++ es)) = _
    unfold lcL
    cases hg : g d ρ with
    | none => rw [hg] at h1; cases h1
    | some r =>
      rw [hg] at h1
      simp only [Option.bind_some] at h1 ⊢
      cases ht : ft r with
      | none => rw [ht] at h1; cases h1
      | some b =>
        rw [ht] at h1
        simp only [Option.bind_some] at h1 ⊢
        cases b with
        | false => exact lcL_append h1 h2
        | true =>
          simp only [if_true] at h1 ⊢
          cases he : fe r with
          | none => rw [he] at h1; cases h1
          | some x =>
            rw [he] at h1
            simp only [Option.bind_some] at h1 ⊢
            cases hl : lcL g ft fe ρ ds with
            | none => rw [hl] at h1; cases h1
            | some zs =>
              rw [hl] at h1
              cases h1
              rw [lcL_append hl h2]
              rfl
theorem wy_at {w : List Stk} {i : Nat} {s : Stk} (h : w[i]? = some s) : pIx (wy w) (.int (i : Nat)) = some (sk s) := by
  show atI (w.map sk) (i : Int) = _
  exact atI_nat (by rw [List.getElem?_map, h]; rfl)
theorem pens_at {w : List Stk} {i : Nat} (h : i ≤ w.length) : pIx (.list (pens w)) (.int (i : Nat)) = some (pt (penAt w i)) := by
  show atI (pens w) (i : Int) = _
  refine atI_nat ?_
  unfold pens
  rw [List.getElem?_map, List.getElem?_range (by omega)]
  rfl
/-- the moves so far, the last of them -/
theorem moves_last {w : List Stk} {p0 : Pt} {r0 : List Stk} (hw : w = .move p0 :: r0) {a0 a2 a3 a4 a5 a6 a7 a8 a9 a10 : Option Slt} : ∀ i : Nat, i < w.length → ∃ pre l p, lcL (gN 9) (mTest (mBin pEq (mBin pIx (mBin pIx (mVar 1) (mVar 9)) (mK (.int 0))) (mK (.str "move")))) (mVar 9) [a0, fz (wy w), a2, a3, a4, a5, a6, a7, a8, a9, a10] (rng 0 (i + 1)) = some (pre ++ [.int (l : Nat)]) ∧ w[l]? = some (.move p) ∧ begAt w (i + 1) = p
  | 0, _ => by
    have e0 : w[0]? = some (.move p0) := by rw [hw]; rfl
    refine ⟨[], 0, p0, ?_, e0, ?_⟩
    · have := wy_at e0
      have h0 : pIx (wy w) (.int 0) = some (sk (.move p0)) := this
      simp [rng, lcL, h0]
    · rw [begAt_succ e0]; rfl
  | i + 1, hi => by
    obtain ⟨pre, l, p, e, hl, hb⟩ := moves_last hw (a0 := a0) (a2 := a2) (a3 := a3) (a4 := a4) (a5 := a5) (a6 := a6) (a7 := a7) (a8 := a8) (a9 := a9) (a10 := a10) i (by omega)
    have es : w[i + 1]? = some w[i + 1] := List.getElem?_eq_getElem hi
    have ha := wy_at es
    rw [rng_succ (i + 1)]
    have hone : lcL (gN 9) (mTest (mBin pEq (mBin pIx (mBin pIx (mVar 1) (mVar 9)) (mK (.int 0))) (mK (.str "move")))) (mVar 9) [a0, fz (wy w), a2, a3, a4, a5, a6, a7, a8, a9, a10] [.int ((i + 1 : Nat) : Int)] = some (match w[i + 1] with | .move _ => [.int ((i + 1 : Nat) : Int)] | _ => []) := by
      unfold lcL
      simp only [gN_ap, Option.bind_some, List.set_cons_succ, List.set_cons_zero, mTest_ap, mBin_ap, mVar1, mVar0, mVar9, mK_ap, ha]
      cases w[i + 1] <;> simp [lcL]
    cases hs : w[i + 1] with
    | move q =>
      rw [hs] at hone es
      refine ⟨pre ++ [.int (l : Nat)], i + 1, q, lcL_append e hone, es, ?_⟩
      rw [begAt_succ es]; rfl
    | _ =>
      rw [hs] at hone es
      refine ⟨pre, l, p, by simpa using lcL_append e hone, hl, ?_⟩
      rw [begAt_succ es]
      exact hb
theorem filt_one (x : List Stk) (h : x = []) : [x].filter big = [] := by subst h; rfl
theorem m_law_k02_rows {w : List Stk} (hl : w.length ≤ 1000) {s : PyData} {x4 x5 x6 : Option Slt} :
    ∃ (rows : List (List Stk)) (y4 y5 : Option Slt) (b : Bool), sFor (mIt pEnum (mCons (mVar 1) mNil)) (gT 2 (gs1 (gN 4) (gs1 (gN 5) gs0'))) (sSeq (sIf (mTest (mBin pEq (mBin pIx (mVar 5) (mK (.int 0))) (mK (.str "move")))) (sSeq (sApp 7 (mTup (mCons (mVar 5) mNil)))
      (sSet 8 (mK (.bool false))))
      (sIf (mTest (mVar 8)) (sSeq (sApp 7 (mTup (mCons (mTup (mCons (mK (.str "move")) (mCons (mBin pIx (mVar 2) (mVar 4)) mNil))) (mCons (mVar 5) mNil))))
      (sSet 8 (mK (.bool false))))
      (sPut 7 (mUn pNeg (mK (.int 1))) (mBin pAdd (mIxO 7 (mUn pNeg (mK (.int 1)))) (mTup (mCons (mVar 5) mNil))))))
      (sSet 8 (mOrV (mVar 8) (mBin pEq (mBin pIx (mVar 5) (mK (.int 0))) (mK (.str "shut")))))) [fz s, fz (wy w), fz (.list (pens w)), ow (begs w), x4, x5, x6, ow [], fz (.bool true), none, none] = some (.nx [fz s, fz (wy w), fz (.list (pens w)), ow (begs w), y4, y5, x6, ow (rows.map wy), fz (.bool b), none, none]) ∧ rows.filter big = parts w ∧ rows.length ≤ w.length := by
  obtain ⟨ρ', e, rows, new, y4, y5, rfl, hr, found, so, hf, hso, hc⟩ := for_inv (fi := mIt pEnum (mCons (mVar 1) mNil)) (g := gT 2 (gs1 (gN 4) (gs1 (gN 5) gs0'))) (body := (sSeq (sIf (mTest (mBin pEq (mBin pIx (mVar 5) (mK (.int 0))) (mK (.str "move")))) (sSeq (sApp 7 (mTup (mCons (mVar 5) mNil)))
      (sSet 8 (mK (.bool false))))
      (sIf (mTest (mVar 8)) (sSeq (sApp 7 (mTup (mCons (mTup (mCons (mK (.str "move")) (mCons (mBin pIx (mVar 2) (mVar 4)) mNil))) (mCons (mVar 5) mNil))))
      (sSet 8 (mK (.bool false))))
      (sPut 7 (mUn pNeg (mK (.int 1))) (mBin pAdd (mIxO 7 (mUn pNeg (mK (.int 1)))) (mTup (mCons (mVar 5) mNil))))))
      (sSet 8 (mOrV (mVar 8) (mBin pEq (mBin pIx (mVar 5) (mK (.int 0))) (mK (.str "shut"))))))) (ds := enumD (w.map sk))
    (ρ := [fz s, fz (wy w), fz (.list (pens w)), ow (begs w), x4, x5, x6, ow [], fz (.bool true), none, none])
    (fun i ρ => ∃ (rows : List (List Stk)) (new : Bool) (y4 y5 : Option Slt), ρ = [fz s, fz (wy w), fz (.list (pens w)), ow (begs w), y4, y5, x6, ow (rows.map wy), fz (.bool new), none, none] ∧ rows.length ≤ i ∧ ∃ (found : List (List Stk)) (so : List Stk), (found ++ prt (w.drop i) (begAt w i) so).filter big = parts w ∧ so.length ≤ 2 * i ∧
      ((new = true ∧ so = [] ∧ rows.filter big = found.filter big ∧ penAt w i = begAt w i) ∨ (new = false ∧ so ≠ [] ∧ ∃ R, rows = R ++ [so] ∧ R.filter big = found.filter big)))
    (by simp [wy]) ⟨[], true, x4, x5, rfl, by simp, [], [], rfl, by simp, .inl ⟨rfl, rfl, rfl, rfl⟩⟩ (by
      rintro i d ρ hd ⟨rows, new, y4, y5, rfl, hr, found, so, hf, hso, hc⟩
      obtain ⟨d', hd', rfl⟩ := enum_get hd
      obtain ⟨t, ht, rfl, hi⟩ := sk_get hd'
      rw [drop_at ht] at hf
      have hz : rows.length < sizeLine := line_lt (by omega)
      have hg : gT 2 (gs1 (gN 4) (gs1 (gN 5) gs0')) (.tuple [.int (i : Nat), sk t]) [fz s, fz (wy w), fz (.list (pens w)), ow (begs w), y4, y5, x6, ow (rows.map wy), fz (.bool new), none, none] = some [fz s, fz (wy w), fz (.list (pens w)), ow (begs w), fz (.int (i : Nat)), fz (sk t), x6, ow (rows.map wy), fz (.bool new), none, none] := by simp
      rw [hg, Option.bind_some]
      have hb := begAt_succ ht
      have hpen := pens_at (w := w) (i := i) (by omega)
      have two : ∀ a b : Stk, PyData.tuple [sk a, sk b] = wy [a, b] := fun _ _ => rfl
      have ln : ∀ t : Stk, (so ++ [t]).length ≤ 2 * (i + 1) := fun t => by simp; omega
      by_cases hmv : ∃ p, t = .move p
      · obtain ⟨p, rfl⟩ := hmv
        refine ⟨_, .inl ?_, rows ++ [[.move p]], false, fz (.int (i : Nat)), fz (sk (.move p)), rfl, by simp; omega, found ++ [so], [.move p], ?_, by simp; omega, .inr ⟨rfl, by simp, rows, rfl, ?_⟩⟩
        · simp [hz, mk_one]
        · rw [hb, ← hf]; simp [prt, begOf]
        · rcases hc with ⟨_, h1, h2, _⟩ | ⟨_, _, R, h1, h2⟩
          · rw [List.filter_append, filt_one so h1, h2, List.append_nil]
          · rw [h1, List.filter_append, List.filter_append, h2]
      · have hbe : begAt w (i + 1) = begAt w i := by
          rw [hb]
          cases t with
          | move p => exact absurd ⟨p, rfl⟩ hmv
          | _ => rfl
        have e1 : ∀ u v : MS, ∀ b : Bool, sIf (mTest (mBin pEq (mBin pIx (mVar 5) (mK (.int 0))) (mK (.str "move")))) u v [fz s, fz (wy w), fz (.list (pens w)), ow (begs w), fz (.int (i : Nat)), fz (sk t), x6, ow (rows.map wy), fz (.bool b), none, none] = v [fz s, fz (wy w), fz (.list (pens w)), ow (begs w), fz (.int (i : Nat)), fz (sk t), x6, ow (rows.map wy), fz (.bool b), none, none] := by
          intro u v b
          cases t with
          | move p => exact absurd ⟨p, rfl⟩ hmv
          | _ => simp
        have last : ∀ rs : List (List Stk), sSet 8 (mOrV (mVar 8) (mBin pEq (mBin pIx (mVar 5) (mK (.int 0))) (mK (.str "shut")))) [fz s, fz (wy w), fz (.list (pens w)), ow (begs w), fz (.int (i : Nat)), fz (sk t), x6, ow (rs.map wy), fz (.bool false), none, none] = some (.nx [fz s, fz (wy w), fz (.list (pens w)), ow (begs w), fz (.int (i : Nat)), fz (sk t), x6, ow (rs.map wy), fz (.bool (match t with | .shut => true | _ => false)), none, none]) := by
          intro rs
          cases t <;> simp
        rcases hc with ⟨rfl, rfl, h2, h3⟩ | ⟨rfl, h1, R, rfl, h2⟩
        · have step : (sIf (mTest (mVar 8)) (sSeq (sApp 7 (mTup (mCons (mTup (mCons (mK (.str "move")) (mCons (mBin pIx (mVar 2) (mVar 4)) mNil))) (mCons (mVar 5) mNil))))
              (sSet 8 (mK (.bool false))))
              (sPut 7 (mUn pNeg (mK (.int 1))) (mBin pAdd (mIxO 7 (mUn pNeg (mK (.int 1)))) (mTup (mCons (mVar 5) mNil))))) [fz s, fz (wy w), fz (.list (pens w)), ow (begs w), fz (.int (i : Nat)), fz (sk t), x6, ow (rows.map wy), fz (.bool true), none, none] = some (.nx [fz s, fz (wy w), fz (.list (pens w)), ow (begs w), fz (.int (i : Nat)), fz (sk t), x6, ow ((rows ++ [[.move (begAt w i), t]]).map wy), fz (.bool false), none, none]) := by
            simp [hpen, h3, mk_move, two, hz]
          refine ⟨_, .inl ((seq_nx ((e1 _ _ _).trans step)).trans (last _)), rows ++ [[.move (begAt w i), t]], _, _, _, rfl, by simp; omega, ?_⟩
          cases t with
          | move p => exact absurd ⟨p, rfl⟩ hmv
          | shut =>
            refine ⟨found ++ [[.move (begAt w i), .shut]], [], ?_, by simp, .inl ⟨rfl, rfl, ?_, ?_⟩⟩
            · rw [hbe, ← hf]; simp [prt]
            · rw [List.filter_append, List.filter_append, h2]
            · rw [penAt_succ ht]; rfl
          | line p =>
            refine ⟨found, [.move (begAt w i), .line p], ?_, by simp; omega, .inr ⟨rfl, by simp, rows, rfl, h2⟩⟩
            rw [hbe, ← hf]; simp [prt]
          | bow a p =>
            refine ⟨found, [.move (begAt w i), .bow a p], ?_, by simp; omega, .inr ⟨rfl, by simp, rows, rfl, h2⟩⟩
            rw [hbe, ← hf]; simp [prt]
          | wave a b p =>
            refine ⟨found, [.move (begAt w i), .wave a b p], ?_, by simp; omega, .inr ⟨rfl, by simp, rows, rfl, h2⟩⟩
            rw [hbe, ← hf]; simp [prt]
        · have hlast : atI ((R ++ [so]).map wy) (-1) = some (wy so) := by
            rw [List.map_append]
            exact atI_last _ _
          have hix : ixN ((R ++ [so]).map wy).length (-1) = some R.length := by
            unfold ixN
            rw [if_neg (by decide), if_pos (by simp; omega)]
            congr 1
            simp
            omega
          have hset : ((R ++ [so]).map wy).set R.length (wy (so ++ [t])) = (R ++ [so ++ [t]]).map wy := by
            rw [List.map_append, List.map_append, List.set_append_right _ _ (by simp)]
            simp
          have had : pAdd (wy so) (wy [t]) = some (wy (so ++ [t])) := pAdd_wy (by simp; omega)
          have step : (sIf (mTest (mVar 8)) (sSeq (sApp 7 (mTup (mCons (mTup (mCons (mK (.str "move")) (mCons (mBin pIx (mVar 2) (mVar 4)) mNil))) (mCons (mVar 5) mNil))))
              (sSet 8 (mK (.bool false))))
              (sPut 7 (mUn pNeg (mK (.int 1))) (mBin pAdd (mIxO 7 (mUn pNeg (mK (.int 1)))) (mTup (mCons (mVar 5) mNil))))) [fz s, fz (wy w), fz (.list (pens w)), ow (begs w), fz (.int (i : Nat)), fz (sk t), x6, ow ((R ++ [so]).map wy), fz (.bool false), none, none] = some (.nx [fz s, fz (wy w), fz (.list (pens w)), ow (begs w), fz (.int (i : Nat)), fz (sk t), x6, ow ((R ++ [so ++ [t]]).map wy), fz (.bool false), none, none]) := by
            rw [← hset]
            have g7 : getO 7 [fz s, fz (wy w), fz (.list (pens w)), ow (begs w), fz (.int (i : Nat)), fz (sk t), x6, ow ((R ++ [so]).map wy), fz (.bool false), none, none] = some ((R ++ [so]).map wy) := rfl
            simp only [sIf_ap, mTest_ap, mVar8, mVar1, mVar2, mVar3, mVar4, mVar5, mVar0, Option.bind_some, asB_ap, Bool.false_eq_true, if_false, sPut_ap, mBin_ap, mIxO_ap, g7, mUn_ap, mK_ap, pNeg_ap, asI_ap, hlast, mTup_ap, mCons_ap, mNil_ap, mk_one, had, hix, List.set_cons_succ, List.set_cons_zero]
          refine ⟨_, .inl ((seq_nx ((e1 _ _ _).trans step)).trans (last _)), R ++ [so ++ [t]], _, _, _, rfl, by simp at hr ⊢; omega, ?_⟩
          have hopn : (if so.isEmpty then [Stk.move (begAt w i)] else so) = so := by
            cases so with
            | nil => exact absurd rfl h1
            | cons a r => rfl
          cases t with
          | move p => exact absurd ⟨p, rfl⟩ hmv
          | shut =>
            refine ⟨found ++ [so ++ [.shut]], [], ?_, by simp, .inl ⟨rfl, rfl, ?_, ?_⟩⟩
            · rw [hbe, ← hf]; simp only [prt, hopn]; simp
            · rw [List.filter_append, List.filter_append, h2]
            · rw [penAt_succ ht]; rfl
          | line p =>
            refine ⟨found, so ++ [.line p], ?_, ln _, .inr ⟨rfl, by simp, R, rfl, h2⟩⟩
            rw [hbe, ← hf]; simp only [prt, hopn]
          | bow a p =>
            refine ⟨found, so ++ [.bow a p], ?_, ln _, .inr ⟨rfl, by simp, R, rfl, h2⟩⟩
            rw [hbe, ← hf]; simp only [prt, hopn]
          | wave a b p =>
            refine ⟨found, so ++ [.wave a b p], ?_, ln _, .inr ⟨rfl, by simp, R, rfl, h2⟩⟩
            rw [hbe, ← hf]; simp only [prt, hopn])
  have hlen : (enumD (w.map sk)).length = w.length := by rw [enum_len, List.length_map]
  rw [hlen] at hf hr hc
  rw [List.drop_length] at hf
  refine ⟨rows, y4, y5, new, e, ?_, hr⟩
  rw [← hf]
  rcases hc with ⟨_, h1, h2, _⟩ | ⟨_, _, R, h1, h2⟩
  · rw [List.filter_append, show prt [] (begAt w w.length) so = [so] from rfl, filt_one so h1, h2, List.append_nil]
  · rw [h1, List.filter_append, List.filter_append, h2]; rfl
theorem m_law_k02_due {w : List Stk} (hg : w = [] ∨ ∃ p r, w = .move p :: r) (hl : w.length ≤ 1000) {s : PyData} :
    ∃ y4 y5 y6 : Option Slt, sFor (mIt pEnum (mCons (mVar 1) mNil)) (gT 2 (gs1 (gN 4) (gs1 (gN 5) gs0'))) (sSeq (sSetC false 6 (mLc (mIt pRng1 (mCons (mBin pAdd (mVar 4) (mK (.int 1))) mNil)) (gN 9) (mTest (mBin pEq (mBin pIx (mBin pIx (mVar 1) (mVar 9)) (mK (.int 0))) (mK (.str "move")))) (mVar 9) [9]))
      (sApp 3 (mBin pIx (mBin pIx (mVar 1) (mBin pIx (mVar 6) (mUn pNeg (mK (.int 1))))) (mK (.int 1))))) [fz s, fz (wy w), fz (.list (pens w)), ow [], none, none, none, none, none, none, none] = some (.nx [fz s, fz (wy w), fz (.list (pens w)), ow (begs w), y4, y5, y6, none, none, none, none]) := by
  obtain ⟨ρ', e, y4, y5, y6, rfl⟩ := for_inv (fi := mIt pEnum (mCons (mVar 1) mNil)) (g := gT 2 (gs1 (gN 4) (gs1 (gN 5) gs0'))) (body := (sSeq (sSetC false 6 (mLc (mIt pRng1 (mCons (mBin pAdd (mVar 4) (mK (.int 1))) mNil)) (gN 9) (mTest (mBin pEq (mBin pIx (mBin pIx (mVar 1) (mVar 9)) (mK (.int 0))) (mK (.str "move")))) (mVar 9) [9]))
      (sApp 3 (mBin pIx (mBin pIx (mVar 1) (mBin pIx (mVar 6) (mUn pNeg (mK (.int 1))))) (mK (.int 1)))))) (ds := enumD (w.map sk))
    (ρ := [fz s, fz (wy w), fz (.list (pens w)), ow [], none, none, none, none, none, none, none])
    (fun i ρ => ∃ y4 y5 y6 : Option Slt, ρ = [fz s, fz (wy w), fz (.list (pens w)), ow ((List.range i).map fun i => pt (begAt w (i + 1))), y4, y5, y6, none, none, none, none])
    (by simp [wy]) ⟨none, none, none, rfl⟩ (by
      rintro i d ρ hd ⟨y4, y5, y6, rfl⟩
      obtain ⟨d', hd', rfl⟩ := enum_get hd
      obtain ⟨t, ht, rfl, hi⟩ := sk_get hd'
      obtain ⟨p0, r0, hw⟩ : ∃ p r, w = .move p :: r := by
        rcases hg with h | h
        · subst h; simp at hi
        · exact h
      have hz : i < sizeLine := line_lt (by omega)
      have hz1 : i + 1 ≤ sizeLine := line_ok (by omega)
      obtain ⟨pre, l, p, e, hlp, hbp⟩ := moves_last hw (a0 := fz s) (a2 := fz (.list (pens w))) (a3 := ow ((List.range i).map fun i => pt (begAt w (i + 1)))) (a4 := fz (.int (i : Nat))) (a5 := fz (sk t)) (a6 := y6) (a7 := none) (a8 := none) (a9 := none) (a10 := none) i hi
      refine ⟨_, .inl ?_, fz (.int (i : Nat)), fz (sk t), fz (.list (pre ++ [.int (l : Nat)])), rfl⟩
      rw [show gT 2 (gs1 (gN 4) (gs1 (gN 5) gs0')) (.tuple [.int (i : Nat), sk t]) [fz s, fz (wy w), fz (.list (pens w)), ow ((List.range i).map fun i => pt (begAt w (i + 1))), y4, y5, y6, none, none, none, none] = some [fz s, fz (wy w), fz (.list (pens w)), ow ((List.range i).map fun i => pt (begAt w (i + 1))), fz (.int (i : Nat)), fz (sk t), y6, none, none, none, none] by simp, Option.bind_some]
      have hr : pRng1 [.int ((i : Int) + 1)] = some (rng 0 (i + 1)) := pRng1_i (by simp [rOk]; omega)
      have hm : mLc (mIt pRng1 (mCons (mBin pAdd (mVar 4) (mK (.int 1))) mNil)) (gN 9) (mTest (mBin pEq (mBin pIx (mBin pIx (mVar 1) (mVar 9)) (mK (.int 0))) (mK (.str "move")))) (mVar 9) [9] [fz s, fz (wy w), fz (.list (pens w)), ow ((List.range i).map fun i => pt (begAt w (i + 1))), fz (.int (i : Nat)), fz (sk t), y6, none, none, none, none] = some (pre ++ [.int (l : Nat)]) := by
        unfold mLc
        rw [← e]
        simp only [mIt_ap, mCons_ap, mBin_ap, mVar4, mVar0, mK_ap, Option.bind_some, pAdd_i, mNil_ap, hr, rng_len]
        rw [if_pos hz1]
        rfl
      rw [seq_nx (ρ' := [fz s, fz (wy w), fz (.list (pens w)), ow ((List.range i).map fun i => pt (begAt w (i + 1))), fz (.int (i : Nat)), fz (sk t), fz (.list (pre ++ [.int (l : Nat)])), none, none, none, none]) (by rw [sSetCf_ap, hm]; rfl)]
      have hla : atI (pre ++ [PyData.int (l : Nat)]) (-1) = some (.int (l : Nat)) := atI_last _ _
      rw [rmap_succ, hbp]
      simp [hla, wy_at hlp, hz])
  have hlen : (enumD (w.map sk)).length = w.length := by rw [enum_len, List.length_map]
  rw [hlen] at e
  exact ⟨y4, y5, y6, e⟩
theorem lay_parts (w : List Stk) : (PyData.tuple ((parts w).map wy)).canLay0 = true := lay_map lay_wy _
theorem dep_parts (w : List Stk) : (PyData.tuple ((parts w).map wy)).depth ≤ 64 := Nat.le_trans (dep_map dep_wy _) (by decide)
theorem plain_k02 : ∀ ns : List Int, ns.length ≤ 63 → m_law_k02 [.list (ns.map .int)] = some (.bool true) := by
  intro ns hn
  obtain ⟨n, n0, _, en⟩ := m_mixed_eq ns 0
  obtain ⟨w, gw, hl, ew⟩ := m_way_eq n 12 (by decide) (by decide)
  have hl' : w.length ≤ 1000 := by omega
  have en' : m__law_mixed [scr ns, .int 0] = some (.int n) := en
  refine run_rt ?_
  show b_law_k02 (startR N_law_k02 [scr ns]) = _
  unfold b_law_k02
  obtain ⟨y4, y5, y6, e1⟩ := m_law_k02_due gw.2 hl' (s := scr ns)
  obtain ⟨rows, z4, z5, b, e2, hr, hrl⟩ := m_law_k02_rows hl' (s := scr ns) (x4 := y4) (x5 := y5) (x6 := y6)
  rw [seq_nx (ρ' := [fz (scr ns), fz (wy w), none, none, none, none, none, none, none, none, none]) (by simp [startR, en', ew]),
    seq_nx (ρ' := [fz (scr ns), fz (wy w), fz (.list (pens w)), none, none, none, none, none, none, none, none]) (by simp [m_law_pens_eq w hl']),
    seq_nx (ρ' := [fz (scr ns), fz (wy w), fz (.list (pens w)), none, none, none, none, none, none, none, none]) (by simp [m_pens_eq w hl', pNe_same (lay_pens w) (dep_pens w)]),
    seq_nx (ρ' := [fz (scr ns), fz (wy w), fz (.list (pens w)), ow [], none, none, none, none, none, none, none]) (by simp),
    seq_nx e1,
    seq_nx (ρ' := [fz (scr ns), fz (wy w), fz (.list (pens w)), ow (begs w), y4, y5, y6, none, none, none, none]) (by
      rw [sIf_ap, tTmp_ap, show frz1 3 [fz (scr ns), fz (wy w), fz (.list (pens w)), ow (begs w), y4, y5, y6, none, none, none, none] = [fz (scr ns), fz (wy w), fz (.list (pens w)), fz (.list (begs w)), y4, y5, y6, none, none, none, none] from rfl]
      simp [m_begins_eq w hl', pNe_same (lay_begs w) (dep_begs w)]),
    seq_nx (ρ' := [fz (scr ns), fz (wy w), fz (.list (pens w)), ow (begs w), y4, y5, y6, ow [], none, none, none]) (by simp),
    seq_nx (ρ' := [fz (scr ns), fz (wy w), fz (.list (pens w)), ow (begs w), y4, y5, y6, ow [], fz (.bool true), none, none]) (by simp),
    seq_nx e2]
  have hz2 : rows.length ≤ sizeLine := line_ok (by omega)
  have hlc := lcL_big (j := 10) (ρ := [fz (scr ns), fz (wy w), fz (.list (pens w)), fz (.list (begs w)), frzS z4, frzS z5, frzS y6, fz (.list (rows.map wy)), fz (.bool b), none, none]) (by simp) rows
  have hm : mLc (mItems (mVar 7)) (gN 10) (mTest (mBin pGt (mCall pLen (mCons (mVar 10) mNil)) (mK (.int 1)))) (mVar 10) [10] [fz (scr ns), fz (wy w), fz (.list (pens w)), fz (.list (begs w)), frzS z4, frzS z5, frzS y6, fz (.list (rows.map wy)), fz (.bool b), none, none] = some ((parts w).map wy) := by
    unfold mLc
    rw [← hr, ← hlc]
    simp [hz2, wipeR]
  rw [ret_ap]
  simp only [List.map_cons, frzS_frz, frzS_own, List.map_nil, frzS_none, mBin_ap, mCall_ap, mCons_ap, mLst_ap, hm, mNil_ap, mVar1, mVar0, Option.bind_some, pTuple_l, m_parts_eq w hl', pEq_same (lay_parts w) (dep_parts w)]
end Dm

set_option Elab.async false
set_option linter.all false
set_option maxRecDepth 100000
set_option exponentiation.threshold 20000
namespace Dm
open PySem PySem.Spec L2 Dw
/-! ### points of the program -/
section
variable {m n : Nat} {p q : Pt} {c t : Rat}
theorem m_moved_eq (h1 : PS m p) (h2 : PS n q) (h : m + n ≤ 8900) : m_moved [pt p, pt q] = some (pt (padd p q)) :=
  run_rt (by simp [b_moved, startR, pt, m_plus_eq h1.1 h2.1 h, m_plus_eq h1.2 h2.2 h, padd])
theorem m_apart_eq (h1 : PS m p) (h2 : PS n q) (h : m + n ≤ 8900) : m_apart [pt p, pt q] = some (pt (psub p q)) :=
  run_rt (by simp [b_apart, startR, pt, m_minus_eq h1.1 h2.1 h, m_minus_eq h1.2 h2.2 h, psub])
theorem m_scaled_eq (h1 : Sz m c) (h2 : PS n q) (h : m + n ≤ 8900) : m_scaled [fr c, pt q] = some (pt (pscale c q)) :=
  run_rt (by simp [b_scaled, startR, pt, m_times_eq h1 h2.1 h, m_times_eq h1 h2.2 h, pscale])
def btw (p q : Pt) (t : Rat) : Pt := padd p (pscale t (psub q p))
theorem PS.btw (h1 : PS n p) (h2 : PS n q) (h3 : Sz m t) : PS (3 * n + m + 2) (btw p q t) := by
  have := h1.add (PS.scale h3 (h2.sub h1))
  exact this.mono (by omega)
theorem m_between_eq (h1 : PS n p) (h2 : PS n q) (h3 : Sz m t) (h : 3 * n + m + 2 ≤ 8900) : m_between [pt p, pt q, fr t] = some (pt (btw p q t)) :=
  run_rt (by simp [b_between, startR, m_apart_eq h2 h1 (by omega), m_scaled_eq h3 (h2.sub h1) (by omega), m_moved_eq h1 (PS.scale h3 (h2.sub h1)) (by omega), btw])
end
/-! ### cuts -/
theorem cut_init {α : Type} (xs : List α) : cutD xs none (some (-1)) = xs.dropLast := by
  unfold cutD HT.sIx
  simp [List.dropLast_eq_take]
  congr 1
  omega
theorem cut_tail {α : Type} (xs : List α) : cutD xs (some 1) none = xs.drop 1 := by
  unfold cutD HT.sIx
  cases xs with
  | nil => simp
  | cons x r => simp
/-! ### halving -/
def halve (t : Rat) : List Pt → List Pt
  | p :: q :: r => btw p q t :: halve t (q :: r)
  | _ => []
theorem halve_len (t : Rat) : ∀ ps : List Pt, (halve t ps).length = ps.length - 1
  | [] => rfl
  | [_] => rfl
  | p :: q :: r => by
    have := halve_len t (q :: r)
    simp only [halve, List.length_cons] at this ⊢
    omega
theorem halve_ps {m n : Nat} {t : Rat} (h3 : Sz m t) : ∀ ps : List Pt, (∀ p ∈ ps, PS n p) → ∀ p ∈ halve t ps, PS (3 * n + m + 2) p
  | [], _, p, hp => by simp [halve] at hp
  | [_], _, p, hp => by simp [halve] at hp
  | a :: b :: r, h, p, hp => by
    rw [halve, List.mem_cons] at hp
    rcases hp with rfl | hp
    · exact (h a (by simp)).btw (h b (by simp)) h3
    · exact halve_ps h3 (b :: r) (fun x hx => h x (by simp [List.mem_cons.mp hx])) p hp
theorem lc_halve {m n : Nat} {t : Rat} (h3 : Sz m t) (hb : 3 * n + m + 2 ≤ 8900) {x : Option Slt} : ∀ ps : List Pt, (∀ p ∈ ps, PS n p) → lcL (gT 2 (gs1 (gN 2) (gs1 (gN 3) gs0'))) tYesM (mCall m_between (mCons (mVar 2) (mCons (mVar 3) (mCons (mVar 1) mNil)))) [x, fz (fr t), none, none] (zipD ((ps.map pt).dropLast) ((ps.map pt).drop 1)) = some ((halve t ps).map pt)
  | [], _ => rfl
  | [_], _ => rfl
  | a :: b :: r, h => by
    have ih := lc_halve h3 hb (x := x) (b :: r) (fun y hy => h y (by simp [List.mem_cons.mp hy]))
    have e := m_between_eq (h a (by simp)) (h b (by simp)) h3 hb
    have hz : zipD (((a :: b :: r).map pt).dropLast) (((a :: b :: r).map pt).drop 1) = .tuple [pt a, pt b] :: zipD (((b :: r).map pt).dropLast) (((b :: r).map pt).drop 1) := by
      simp [zipD, List.dropLast]
    rw [hz]
    unfold lcL
    rw [ih]
    simp [e, halve]
theorem m_halved_eq {m n : Nat} {t : Rat} {ps : List Pt} (h : ∀ p ∈ ps, PS n p) (h3 : Sz m t) (hb : 3 * n + m + 2 ≤ 8900) (hl : ps.length ≤ 1000) : m_halved [.tuple (ps.map pt), fr t] = some (.tuple ((halve t ps).map pt)) := by
  refine run_rt ?_
  unfold b_halved
  rw [ret_ap]
  have hm : mLc (mIt pZip (mCons (mSl (mVar 0) oNo (oAt (mUn pNeg (mK (.int 1))))) (mCons (mSl (mVar 0) (oAt (mK (.int 1))) oNo) mNil))) (gT 2 (gs1 (gN 2) (gs1 (gN 3) gs0'))) tYesM (mCall m_between (mCons (mVar 2) (mCons (mVar 3) (mCons (mVar 1) mNil)))) [2, 3] [fz (.tuple (ps.map pt)), fz (fr t), none, none] = some ((halve t ps).map pt) := by
    unfold mLc
    have hz : (zipD ((ps.map pt).dropLast) ((ps.map pt).drop 1)).length ≤ sizeLine := line_ok (by simp [zipD]; omega)
    rw [← lc_halve h3 hb (x := fz (.tuple (ps.map pt))) ps h]
    simp only [mIt_ap, mCons_ap, mSl_ap, mVar0, mK_ap, mUn_ap, pNeg_ap, oNo_ap, oAt_ap, asI_ap, Option.bind_some, pSl_t, cut_init, cut_tail, mNil_ap, pZip_ap, items_t]
    rw [if_pos hz]
    rfl
  rw [show (startR N_halved [PyData.tuple (List.map pt ps), fr t]).map frzS = [fz (.tuple (ps.map pt)), fz (fr t), none, none] from rfl]
  simp only [mCall_ap, mCons_ap, mLst_ap, hm, mNil_ap, Option.bind_some, pTuple_l]
/-! ### the point at a place -/
def cast (t : Rat) : Nat → List Pt → Pt
  | 0, ps => ps.headD (0, 0)
  | k + 1, ps => cast t k (halve t ps)
def ptOf (t : Rat) (ps : List Pt) : Pt := cast t (ps.length - 1) ps
def szB (m : Nat) : Nat → Nat → Nat
  | 0, n => n
  | k + 1, n => szB m k (3 * n + m + 2)
theorem szB_ge (m : Nat) : ∀ k n, n ≤ szB m k n
  | 0, n => Nat.le_refl n
  | k + 1, n => by
    have := szB_ge m k (3 * n + m + 2)
    unfold szB
    omega
theorem loop_point {m : Nat} {t : Rat} (h3 : Sz m t) : ∀ (k : Nat) (n : Nat) (ps : List Pt), ps.length = k + 1 → (∀ p ∈ ps, PS n p) → szB m k n ≤ 8900 → k ≤ 100 → PS (szB m k n) (cast t k ps) ∧ ∃ N, whL (mTest (mBin pGt (mCall pLen (mCons (mVar 0) mNil)) (mK (.int 1)))) (sSet 0 (mCall m_halved (mCons (mVar 0) (mCons (mVar 1) mNil)))) N [fz (.tuple (ps.map pt)), fz (fr t)] = some (.nx [fz (.tuple [pt (cast t k ps)]), fz (fr t)])
  | 0, n, [p], _, h, _, _ => ⟨h p (by simp), 1, by simp [whL, cast]⟩
  | k + 1, n, ps, hl, h, hb, hk => by
    unfold szB at hb
    have hb1 := Nat.le_trans (szB_ge m k (3 * n + m + 2)) hb
    obtain ⟨h1, N, e⟩ := loop_point h3 k (3 * n + m + 2) (halve t ps) (by rw [halve_len, hl]; rfl) (halve_ps h3 ps h) hb (by omega)
    refine ⟨h1, N + 1, ?_⟩
    have hh := m_halved_eq h h3 hb1 (by omega)
    have hc : (1 : Int) < (ps.length : Int) := by omega
    unfold whL
    rw [show cast t (k + 1) ps = cast t k (halve t ps) from rfl, ← e]
    simp [hh, hc, hl]
    intro h0
    omega
theorem m_point_of_eq {m n : Nat} {t : Rat} {ps : List Pt} (h3 : Sz m t) (h : ∀ p ∈ ps, PS n p) (h1 : 1 ≤ ps.length) (h2 : ps.length ≤ 100) (hb : szB m (ps.length - 1) n ≤ 8900) : PS (szB m (ps.length - 1) n) (ptOf t ps) ∧ m_point_of [.tuple (ps.map pt), fr t] = some (pt (ptOf t ps)) := by
  obtain ⟨g, N, e⟩ := loop_point h3 (ps.length - 1) n ps (by omega) h hb (by omega)
  refine ⟨g, run_rt ?_⟩
  have hw := sWhile_of e
  unfold b_point_of
  rw [show startR N_point_of [PyData.tuple (List.map pt ps), fr t] = [fz (.tuple (ps.map pt)), fz (fr t)] from rfl]
  rw [seq_nx (ρ' := [fz (.tuple [pt (ptOf t ps)]), fz (fr t)]) hw]
  simp
/-! ### the corners of a stroke -/
def corners (w : List Stk) (i : Nat) (s : Stk) : List Pt := match s with
  | .move p => [p]
  | .line p => [penAt w i, p]
  | .bow a p => [penAt w i, a, p]
  | .wave a b p => [penAt w i, a, b, p]
  | .shut => [penAt w i, begAt w (i + 1)]
theorem pens_atT {w : List Stk} {i : Nat} (h : i ≤ w.length) : pIx (.tuple (pens w)) (.int (i : Nat)) = some (pt (penAt w i)) := pens_at h
theorem begs_atT {w : List Stk} {i : Nat} (h : i < w.length) : pIx (.tuple (begs w)) (.int (i : Nat)) = some (pt (begAt w (i + 1))) := by
  show atI (begs w) (i : Int) = _
  refine atI_nat ?_
  unfold begs
  rw [List.getElem?_map, List.getElem?_range h]
  rfl
theorem m_corner_points_eq {w : List Stk} {i : Nat} {s : Stk} (hs : w[i]? = some s) (hl : w.length ≤ 1000) : m_corner_points [wy w, .int (i : Nat)] = some (.tuple ((corners w i s).map pt)) := by
  have hi : i < w.length := (List.getElem?_eq_some_iff.mp hs).1
  refine run_rt ?_
  have e1 := wy_at hs
  have e2 := m_pens_eq w hl
  have e3 := pens_atT (w := w) (i := i) (by omega)
  have e4 := m_begins_eq w hl
  have e5 := begs_atT hi
  have a1 : ∀ a b : PyData, pAdd (.tuple [a]) (.tuple [b]) = some (.tuple [a, b]) := fun a b => pAdd_t (line_ok (by simp))
  have a2 : ∀ a b c : PyData, pAdd (.tuple [a]) (.tuple [b, c]) = some (.tuple [a, b, c]) := fun a b c => pAdd_t (line_ok (by simp))
  have a3 : ∀ a b c d : PyData, pAdd (.tuple [a]) (.tuple [b, c, d]) = some (.tuple [a, b, c, d]) := fun a b c d => pAdd_t (line_ok (by simp))
  cases s with
  | move p => simp [b_corner_points, startR, e1, c_MOVE, corners]
  | shut => simp [b_corner_points, startR, e1, e2, e3, e4, e5, c_MOVE, c_SHUT, corners]
  | line p =>
    have hc : pSl (sk (.line p)) (some 1) none = some (.tuple [pt p]) := rfl
    simp [b_corner_points, startR, e1, e2, e3, c_MOVE, c_SHUT, corners, hc, a1]
  | bow a p =>
    have hc : pSl (sk (.bow a p)) (some 1) none = some (.tuple [pt a, pt p]) := rfl
    simp [b_corner_points, startR, e1, e2, e3, c_MOVE, c_SHUT, corners, hc, a2]
  | wave a b p =>
    have hc : pSl (sk (.wave a b p)) (some 1) none = some (.tuple [pt a, pt b, pt p]) := rfl
    simp [b_corner_points, startR, e1, e2, e3, c_MOVE, c_SHUT, corners, hc, a3]
end Dm

set_option Elab.async false
set_option linter.all false
set_option maxRecDepth 100000
set_option exponentiation.threshold 20000
namespace Dm
open PySem PySem.Spec L2 Dw
/-! ### the law's spots, by powers -/
theorem fr_int (c : Int) : PyData.tuple [.int c, .int 1] = fr (c : Rat) := rfl
theorem Sz.pow {m : Nat} {t : Rat} (h : Sz m t) (h0 : 0 < m) : ∀ k : Nat, Sz (1 + k * m) (t ^ k)
  | 0 => by
    rw [Rat.pow_zero]
    exact Sz.mono (n := 1) ⟨by decide, by decide⟩ (by omega)
  | k + 1 => by
    rw [Rat.pow_succ]
    exact ((Sz.pow h h0 k).mul h).mono (by rw [Nat.succ_mul]; omega)
section
variable {a0 a1 a3 a4 a5 a6 a7 a8 a9 a10 : Option Slt} {t wt : Rat} {m n : Nat}
theorem pow_loop2 (h1 : Sz n wt) (h3 : Sz m t) {a6 : Option Slt} {k : Int} {x : Option Slt} : ∀ (j : Nat), (k = j) → j ≤ 100 → n + j * m + m ≤ 8900 → (fi : Mr (List PyData)) → fi [a0, a1, fz (fr t), a3, a4, a5, a6, a7, a8, a9, a10, fz (fr wt), x] = some (rng 0 j) →
    ∃ y, sFor fi (gN 12) (sSet 11 (mCall m__law_times (mCons (mVar 11) (mCons (mVar 2) mNil)))) [a0, a1, fz (fr t), a3, a4, a5, a6, a7, a8, a9, a10, fz (fr wt), x] = some (.nx [a0, a1, fz (fr t), a3, a4, a5, a6, a7, a8, a9, a10, fz (fr (wt * t ^ j)), y]) ∧ Sz (n + j * m) (wt * t ^ j) := by
  intro j hk hj hb fi hf
  obtain ⟨ρ', e, y, rfl, hs⟩ := for_inv (fi := fi) (g := gN 12) (body := sSet 11 (mCall m__law_times (mCons (mVar 11) (mCons (mVar 2) mNil)))) (ds := rng 0 j) (ρ := [a0, a1, fz (fr t), a3, a4, a5, a6, a7, a8, a9, a10, fz (fr wt), x])
    (fun i ρ => ∃ y, ρ = [a0, a1, fz (fr t), a3, a4, a5, a6, a7, a8, a9, a10, fz (fr (wt * t ^ i)), y] ∧ Sz (n + i * m) (wt * t ^ i)) hf ⟨x, by rw [Rat.pow_zero, Rat.mul_one], by rw [Rat.pow_zero, Rat.mul_one]; simpa using h1⟩ (by
      rintro i d ρ hd ⟨y, rfl, hs⟩
      obtain ⟨hi, rfl⟩ := rng_get hd
      have hle : i * m ≤ j * m := Nat.mul_le_mul_right _ (by omega)
      have e := m_law_times_eq hs h3 (by omega)
      refine ⟨_, .inl ?_, fz (.int (i : Nat)), rfl, ?_⟩
      · rw [Rat.pow_succ, ← Rat.mul_assoc]
        simp [e]
      · rw [Rat.pow_succ, ← Rat.mul_assoc]
        exact (hs.mul h3).mono (by rw [Nat.succ_mul]; omega))
  rw [rng_len] at e hs
  exact ⟨y, e, hs⟩
theorem pow_loop6 (h1 : Sz n wt) (h3 : Sz m t) {a2 : Option Slt} {x : Option Slt} : ∀ (j : Nat), j ≤ 100 → n + j * m + m ≤ 8900 → (fi : Mr (List PyData)) → fi [a0, a1, a2, a3, a4, a5, fz (fr t), a7, a8, a9, a10, fz (fr wt), x] = some (rng 0 j) →
    ∃ y, sFor fi (gN 12) (sSet 11 (mCall m__law_times (mCons (mVar 11) (mCons (mVar 6) mNil)))) [a0, a1, a2, a3, a4, a5, fz (fr t), a7, a8, a9, a10, fz (fr wt), x] = some (.nx [a0, a1, a2, a3, a4, a5, fz (fr t), a7, a8, a9, a10, fz (fr (wt * t ^ j)), y]) ∧ Sz (n + j * m) (wt * t ^ j) := by
  intro j hj hb fi hf
  obtain ⟨ρ', e, y, rfl, hs⟩ := for_inv (fi := fi) (g := gN 12) (body := sSet 11 (mCall m__law_times (mCons (mVar 11) (mCons (mVar 6) mNil)))) (ds := rng 0 j) (ρ := [a0, a1, a2, a3, a4, a5, fz (fr t), a7, a8, a9, a10, fz (fr wt), x])
    (fun i ρ => ∃ y, ρ = [a0, a1, a2, a3, a4, a5, fz (fr t), a7, a8, a9, a10, fz (fr (wt * t ^ i)), y] ∧ Sz (n + i * m) (wt * t ^ i)) hf ⟨x, by rw [Rat.pow_zero, Rat.mul_one], by rw [Rat.pow_zero, Rat.mul_one]; simpa using h1⟩ (by
      rintro i d ρ hd ⟨y, rfl, hs⟩
      obtain ⟨hi, rfl⟩ := rng_get hd
      have hle : i * m ≤ j * m := Nat.mul_le_mul_right _ (by omega)
      have e := m_law_times_eq hs h3 (by omega)
      refine ⟨_, .inl ?_, fz (.int (i : Nat)), rfl, ?_⟩
      · rw [Rat.pow_succ, ← Rat.mul_assoc]
        simp [e]
      · rw [Rat.pow_succ, ← Rat.mul_assoc]
        exact (hs.mul h3).mono (by rw [Nat.succ_mul]; omega))
  rw [rng_len] at e hs
  exact ⟨y, e, hs⟩
end
def bsum (t : Rat) (cs : List Int) (ps : List Pt) : Nat → Pt
  | 0 => (0, 0)
  | i + 1 => padd (bsum t cs ps i) (pscale ((cs.getD i 0 : Rat) * t ^ i * (1 - t) ^ (ps.length - 1 - i)) (ps.getD i (0, 0)))
theorem spot_loop {t : Rat} {m n : Nat} {cs : List Int} {ps : List Pt} (h3 : Sz m t) (hps : ∀ p ∈ ps, PS n p) (hl : cs.length = ps.length) (h4 : ps.length ≤ 4) (hc : ∀ c ∈ cs, c.natAbs ≤ 3) (hb : 4 * (4 * m + 15 + n) ≤ 3000) {a0 a1 a3 a4 a9 a10 a11 a12 : Option Slt} :
    ∃ y9 y10 y11 y12, sFor (mIt pEnum (mCons (mVar 5) mNil)) (gT 2 (gs1 (gN 9) (gs1 (gN 10) gs0'))) (sSeq (sSet 11 (mTup (mCons (mBin pIx (mVar 7) (mVar 9)) (mCons (mK (.int 1)) mNil))))
      (sSeq (sFor (mIt pRng1 (mCons (mVar 9) mNil)) (gN 12) (sSet 11 (mCall m__law_times (mCons (mVar 11) (mCons (mVar 2) mNil)))))
      (sSeq (sFor (mIt pRng1 (mCons (mBin pSub (mBin pSub (mCall pLen (mCons (mVar 5) mNil)) (mK (.int 1))) (mVar 9)) mNil)) (gN 12) (sSet 11 (mCall m__law_times (mCons (mVar 11) (mCons (mVar 6) mNil)))))
      (sSet 8 (mCall m__law_add (mCons (mVar 8) (mCons (mCall m__law_scale (mCons (mVar 11) (mCons (mVar 10) mNil))) mNil))))))) [a0, a1, fz (fr t), a3, a4, fz (.list (ps.map pt)), fz (fr (1 - t)), fz (.tuple (cs.map .int)), fz (pt (0, 0)), a9, a10, a11, a12] =
      some (.nx [a0, a1, fz (fr t), a3, a4, fz (.list (ps.map pt)), fz (fr (1 - t)), fz (.tuple (cs.map .int)), fz (pt (bsum t cs ps ps.length)), y9, y10, y11, y12]) ∧ PS (1 + ps.length * (4 * m + 15 + n)) (bsum t cs ps ps.length) := by
  have h1t : Sz (m + 2) (1 - t) := by
    have := Sz.sub (m := 1) (n := m) (p := 1) (q := t) ⟨by decide, by decide⟩ h3
    exact this.mono (by omega)
  obtain ⟨ρ', e, y9, y10, y11, y12, rfl, hp⟩ := for_inv (fi := mIt pEnum (mCons (mVar 5) mNil)) (g := gT 2 (gs1 (gN 9) (gs1 (gN 10) gs0'))) (body := (sSeq (sSet 11 (mTup (mCons (mBin pIx (mVar 7) (mVar 9)) (mCons (mK (.int 1)) mNil))))
      (sSeq (sFor (mIt pRng1 (mCons (mVar 9) mNil)) (gN 12) (sSet 11 (mCall m__law_times (mCons (mVar 11) (mCons (mVar 2) mNil)))))
      (sSeq (sFor (mIt pRng1 (mCons (mBin pSub (mBin pSub (mCall pLen (mCons (mVar 5) mNil)) (mK (.int 1))) (mVar 9)) mNil)) (gN 12) (sSet 11 (mCall m__law_times (mCons (mVar 11) (mCons (mVar 6) mNil)))))
      (sSet 8 (mCall m__law_add (mCons (mVar 8) (mCons (mCall m__law_scale (mCons (mVar 11) (mCons (mVar 10) mNil))) mNil)))))))) (ds := enumD (ps.map pt))
    (ρ := [a0, a1, fz (fr t), a3, a4, fz (.list (ps.map pt)), fz (fr (1 - t)), fz (.tuple (cs.map .int)), fz (pt (0, 0)), a9, a10, a11, a12])
    (fun i ρ => ∃ y9 y10 y11 y12, ρ = [a0, a1, fz (fr t), a3, a4, fz (.list (ps.map pt)), fz (fr (1 - t)), fz (.tuple (cs.map .int)), fz (pt (bsum t cs ps i)), y9, y10, y11, y12] ∧ PS (1 + i * (4 * m + 15 + n)) (bsum t cs ps i))
    (by simp) ⟨a9, a10, a11, a12, rfl, PS.mono (n := 1) ⟨⟨by show (0 : Rat).num.natAbs < 2 ^ 1; decide, by show (0 : Rat).den < 2 ^ 1; decide⟩, ⟨by show (0 : Rat).num.natAbs < 2 ^ 1; decide, by show (0 : Rat).den < 2 ^ 1; decide⟩⟩ (by omega)⟩ (by
      rintro i d ρ hd ⟨y9, y10, y11, y12, rfl, hp⟩
      obtain ⟨x, hx, rfl⟩ := enum_get hd
      rw [List.getElem?_map] at hx
      have hi : i < ps.length := by
        rcases Nat.lt_or_ge i ps.length with h | h
        · exact h
        · rw [List.getElem?_eq_none h] at hx; cases hx
      rw [List.getElem?_eq_getElem hi] at hx
      cases hx
      have hic : i < cs.length := by omega
      have hci : pIx (.tuple (cs.map .int)) (.int (i : Nat)) = some (.int cs[i]) := by
        show atI (cs.map PyData.int) (i : Int) = _
        exact atI_nat (by rw [List.getElem?_map, List.getElem?_eq_getElem hic]; rfl)
      have hcz : Sz 3 (cs[i] : Rat) := Sz.int (by
        have := hc cs[i] (List.getElem_mem hic)
        omega) (by decide)
      have hpi : PS n ps[i] := hps _ (List.getElem_mem hi)
      have him : i * m ≤ 3 * m := Nat.mul_le_mul_right _ (by omega)
      have hjm : (ps.length - 1 - i) * (m + 2) ≤ 3 * (m + 2) := Nat.mul_le_mul_right _ (by omega)
      have hsum : i * m + (ps.length - 1 - i) * (m + 2) ≤ 3 * (m + 2) := by
        have q1 : i * m ≤ i * (m + 2) := Nat.mul_le_mul_left _ (by omega)
        have q2 : i * (m + 2) + (ps.length - 1 - i) * (m + 2) = (ps.length - 1) * (m + 2) := by
          rw [← Nat.add_mul]
          congr 1
          omega
        have q3 : (ps.length - 1) * (m + 2) ≤ 3 * (m + 2) := Nat.mul_le_mul_right _ (by omega)
        omega
      have r1 : pRng1 [.int (i : Int)] = some (rng 0 i) := pRng1_i (n := (i : Int)) (by simp [rOk]; omega)
      have hlen : (((ps.map pt).length : Int) - 1 - (i : Int)) = ((ps.length - 1 - i : Nat) : Int) := by rw [List.length_map]; omega
      have r2 : pRng1 [.int ((ps.length - 1 - i : Nat) : Int)] = some (rng 0 (ps.length - 1 - i)) := pRng1_i (n := ((ps.length - 1 - i : Nat) : Int)) (by simp [rOk]; omega)
      obtain ⟨z1, f1, s1⟩ := pow_loop2 (a0 := a0) (a1 := a1) (a3 := a3) (a4 := a4) (a5 := fz (.list (ps.map pt))) (a6 := fz (fr (1 - t))) (a7 := fz (.tuple (cs.map .int))) (a8 := fz (pt (bsum t cs ps i))) (a9 := fz (.int (i : Nat))) (a10 := fz (pt ps[i])) (x := y12) hcz h3 (k := (i : Int)) i rfl (by omega) (by omega) (mIt pRng1 (mCons (mVar 9) mNil)) (by simp [r1])
      obtain ⟨z2, f2, s2⟩ := pow_loop6 (a0 := a0) (a1 := a1) (a2 := fz (fr t)) (a3 := a3) (a4 := a4) (a5 := fz (.list (ps.map pt))) (a7 := fz (.tuple (cs.map .int))) (a8 := fz (pt (bsum t cs ps i))) (a9 := fz (.int (i : Nat))) (a10 := fz (pt ps[i])) (x := z1) s1 h1t (ps.length - 1 - i) (by omega) (by omega) (mIt pRng1 (mCons (mBin pSub (mBin pSub (mCall pLen (mCons (mVar 5) mNil)) (mK (.int 1))) (mVar 9)) mNil)) (by
        simp only [mIt_ap, mCons_ap, mBin_ap, mCall_ap, mVar5, mVar9, mVar4, mVar0, mNil_ap, mK_ap, Option.bind_some, pLen_l, pSub_i, hlen, r2])
      have eb : i * (4 * m + 15 + n) ≤ 3 * (4 * m + 15 + n) := Nat.mul_le_mul_right _ (by omega)
      have g1 := m_law_scale_eq s2 hpi (by omega)
      have g2 := m_law_add_eq hp (PS.scale s2 hpi) (by omega)
      refine ⟨_, .inl ?_, fz (.int (i : Nat)), fz (pt ps[i]), fz (fr ((cs[i] : Rat) * t ^ i * (1 - t) ^ (ps.length - 1 - i))), z2, rfl, ?_⟩
      · rw [show gT 2 (gs1 (gN 9) (gs1 (gN 10) gs0')) (.tuple [.int (i : Nat), pt ps[i]]) [a0, a1, fz (fr t), a3, a4, fz (.list (ps.map pt)), fz (fr (1 - t)), fz (.tuple (cs.map .int)), fz (pt (bsum t cs ps i)), y9, y10, y11, y12] = some [a0, a1, fz (fr t), a3, a4, fz (.list (ps.map pt)), fz (fr (1 - t)), fz (.tuple (cs.map .int)), fz (pt (bsum t cs ps i)), fz (.int (i : Nat)), fz (pt ps[i]), y11, y12] by simp, Option.bind_some]
        rw [seq_nx (ρ' := [a0, a1, fz (fr t), a3, a4, fz (.list (ps.map pt)), fz (fr (1 - t)), fz (.tuple (cs.map .int)), fz (pt (bsum t cs ps i)), fz (.int (i : Nat)), fz (pt ps[i]), fz (fr (cs[i] : Rat)), y12]) (by simp [hci, fr_int]), seq_nx f1, seq_nx f2]
        simp only [sSet_ap, mCall_ap, mCons_ap, mVar8, mVar4, mVar5, mVar6, mVar3, mVar2, mVar11, mVar10, mVar0, mNil_ap, Option.bind_some, g1, g2, List.set_cons_succ, List.set_cons_zero]
        rw [bsum]
        simp [List.getD, List.getElem?_eq_getElem hi, List.getElem?_eq_getElem hic]
      · rw [bsum]
        simp only [List.getD, List.getElem?_eq_getElem hi, List.getElem?_eq_getElem hic, Option.getD_some]
        exact (hp.add (PS.scale s2 hpi)).mono (by have := Nat.succ_mul i (4 * m + 15 + n); simp only [Nat.succ_eq_add_one] at this; omega))
  have hlen : (enumD (ps.map pt)).length = ps.length := by rw [enum_len, List.length_map]
  rw [hlen] at e hp
  exact ⟨y9, y10, y11, y12, e, hp⟩
/-! ### the law's spot is the point at the place -/
theorem bsum2 (t : Rat) (a b : Pt) : bsum t [1, 1] [a, b] 2 = ptOf t [a, b] := by
  obtain ⟨a1, a2⟩ := a
  obtain ⟨b1, b2⟩ := b
  simp only [bsum, ptOf, cast, halve, btw, padd, pscale, psub, List.getD, List.headD, List.length_cons, List.length_nil]
  refine Prod.ext ?_ ?_ <;> simp <;> grind
theorem bsum3 (t : Rat) (a b c : Pt) : bsum t [1, 2, 1] [a, b, c] 3 = ptOf t [a, b, c] := by
  obtain ⟨a1, a2⟩ := a
  obtain ⟨b1, b2⟩ := b
  obtain ⟨c1, c2⟩ := c
  simp only [bsum, ptOf, cast, halve, btw, padd, pscale, psub, List.getD, List.headD, List.length_cons, List.length_nil]
  refine Prod.ext ?_ ?_ <;> simp <;> grind
theorem bsum4 (t : Rat) (a b c d : Pt) : bsum t [1, 3, 3, 1] [a, b, c, d] 4 = ptOf t [a, b, c, d] := by
  obtain ⟨a1, a2⟩ := a
  obtain ⟨b1, b2⟩ := b
  obtain ⟨c1, c2⟩ := c
  obtain ⟨d1, d2⟩ := d
  simp only [bsum, ptOf, cast, halve, btw, padd, pscale, psub, List.getD, List.headD, List.length_cons, List.length_nil]
  refine Prod.ext ?_ ?_ <;> simp <;> grind
end Dm

set_option Elab.async false
set_option linter.all false
set_option maxRecDepth 100000
set_option exponentiation.threshold 20000
namespace Dm
open PySem PySem.Spec L2 Dw
/-! ### the numbers of a way are small -/
theorem GdP.zero : GdP 0 (0, 0) := ⟨Gd.zero, Gd.zero⟩
theorem GW.beg {w : List Stk} (h : GW w) : ∀ i, GdP 0 (begAt w i)
  | 0 => GdP.zero
  | i + 1 => by
    have ih := GW.beg h i
    cases hs : w[i]? with
    | none =>
      have hl : w.length ≤ i := List.getElem?_eq_none_iff.mp hs
      have : begAt w (i + 1) = begAt w i := by unfold begAt; rw [List.take_of_length_le (by omega), List.take_of_length_le hl]
      rw [this]; exact ih
    | some s =>
      rw [begAt_succ hs]
      have hm := h.1 s (List.mem_of_getElem? hs)
      cases s with
      | move p => exact hm
      | _ => exact ih
theorem GW.pen {w : List Stk} (h : GW w) : ∀ i, GdP 0 (penAt w i)
  | 0 => GdP.zero
  | i + 1 => by
    cases hs : w[i]? with
    | none => simp only [penAt, hs]; exact GdP.zero
    | some s =>
      rw [penAt_succ hs]
      have hm := h.1 s (List.mem_of_getElem? hs)
      cases s with
      | move p => exact hm
      | line p => exact hm
      | bow a p => exact hm.2
      | wave a b p => exact hm.2.2
      | shut => exact h.beg (i + 1)
theorem GW.corners {w : List Stk} (h : GW w) (hl : w.length ≤ 12) {i : Nat} {s : Stk} (hs : w[i]? = some s) : ∀ p ∈ corners w i s, PS 22 p := by
  have hm := h.1 s (List.mem_of_getElem? hs)
  have hp := (h.pen i).ps (by omega)
  intro p hp'
  cases s with
  | move q => simp [Dm.corners] at hp'; rw [hp']; exact GdP.ps hm (by omega)
  | line q => simp [Dm.corners] at hp'; rcases hp' with rfl | rfl <;> first | exact hp | exact GdP.ps hm (by omega)
  | bow a q => simp [Dm.corners] at hp'; rcases hp' with rfl | rfl | rfl <;> first | exact hp | exact GdP.ps hm.1 hl | exact GdP.ps hm.2 (by omega)
  | wave a b q => simp [Dm.corners] at hp'; rcases hp' with rfl | rfl | rfl | rfl <;> first | exact hp | exact GdP.ps hm.1 hl | exact GdP.ps hm.2.1 (by omega) | exact GdP.ps hm.2.2 (by omega)
  | shut => simp [Dm.corners] at hp'; rcases hp' with rfl | rfl <;> first | exact hp | exact (h.beg (i + 1)).ps (by omega)
def CW (n : Nat) (w : List Stk) : Prop := ∀ (i : Nat) (s : Stk), w[i]? = some s → ∀ p ∈ corners w i s, PS n p
theorem GW.cw {w : List Stk} (h : GW w) (hl : w.length ≤ 12) : CW 22 w := fun i s hs => h.corners hl hs
theorem cut_upto {α : Type} (xs : List α) (k : Nat) : cutD xs none (some (k : Int)) = xs.take k := by
  unfold cutD
  rw [HT.sIx_nat]
  simp [HT.sIx]
theorem begAt_take (w : List Stk) (i : Nat) : begAt (w.take i) i = begAt w i := by
  unfold begAt
  rw [List.take_take, Nat.min_self]
theorem pens_last (w : List Stk) : atI (pens w) (-1) = some (pt (penAt w w.length)) := by
  unfold pens
  rw [rmap_succ]
  exact atI_last _ _
/-! ### spot, by the law -/
theorem spot_end {t : Rat} {m n : Nat} {cs : List Int} {ps : List Pt} (h3 : Sz m t) (hps : ∀ p ∈ ps, PS n p) (hl : cs.length = ps.length) (h4 : ps.length ≤ 4) (hc : ∀ c ∈ cs, c.natAbs ≤ 3) (hb : 4 * (4 * m + 15 + n) ≤ 3000)
    (hs : bsum t cs ps ps.length = ptOf t ps) {w : PyData} {i : PyData} {s pen : PyData}
    (hd : mDix [.inl 2, .inl 3, .inl 4] (mCons (mTup (mCons (mK (.int 1)) (mCons (mK (.int 1)) mNil))) (mCons (mTup (mCons (mK (.int 1)) (mCons (mK (.int 2)) (mCons (mK (.int 1)) mNil)))) (mCons (mTup (mCons (mK (.int 1)) (mCons (mK (.int 3)) (mCons (mK (.int 3)) (mCons (mK (.int 1)) mNil))))) mNil))) (mTmp 5 (mCall pLen (mCons (mVar 5) mNil))) [fz w, fz i, fz (fr t), fz s, fz pen, ow (ps.map pt), fz (fr (1 - t)), none, none, none, none, none, none] = some (.tuple (cs.map .int))) :
    (sSeq (sSet 6 (mCall m__law_minus (mCons (mTup (mCons (mK (.int 1)) (mCons (mK (.int 1)) mNil))) (mCons (mVar 2) mNil))))
  (sSeq (sSet 7 (mDix [.inl 2, .inl 3, .inl 4] (mCons (mTup (mCons (mK (.int 1)) (mCons (mK (.int 1)) mNil))) (mCons (mTup (mCons (mK (.int 1)) (mCons (mK (.int 2)) (mCons (mK (.int 1)) mNil)))) (mCons (mTup (mCons (mK (.int 1)) (mCons (mK (.int 3)) (mCons (mK (.int 3)) (mCons (mK (.int 1)) mNil))))) mNil))) (mTmp 5 (mCall pLen (mCons (mVar 5) mNil)))))
  (sSeq (sSet 8 (mTup (mCons (mTup (mCons (mK (.int 0)) (mCons (mK (.int 1)) mNil))) (mCons (mTup (mCons (mK (.int 0)) (mCons (mK (.int 1)) mNil))) mNil))))
  (sSeq (sFrz 5 (sFor (mIt pEnum (mCons (mVar 5) mNil)) (gT 2 (gs1 (gN 9) (gs1 (gN 10) gs0'))) (sSeq (sSet 11 (mTup (mCons (mBin pIx (mVar 7) (mVar 9)) (mCons (mK (.int 1)) mNil))))
  (sSeq (sFor (mIt pRng1 (mCons (mVar 9) mNil)) (gN 12) (sSet 11 (mCall m__law_times (mCons (mVar 11) (mCons (mVar 2) mNil)))))
  (sSeq (sFor (mIt pRng1 (mCons (mBin pSub (mBin pSub (mCall pLen (mCons (mVar 5) mNil)) (mK (.int 1))) (mVar 9)) mNil)) (gN 12) (sSet 11 (mCall m__law_times (mCons (mVar 11) (mCons (mVar 6) mNil)))))
  (sSet 8 (mCall m__law_add (mCons (mVar 8) (mCons (mCall m__law_scale (mCons (mVar 11) (mCons (mVar 10) mNil))) mNil)))))))))
  (sRet (mVar 8)))))) [fz w, fz i, fz (fr t), fz s, fz pen, ow (ps.map pt), none, none, none, none, none, none, none] = some (.rt (pt (ptOf t ps))) := by
  have e1 : PyData.tuple [.int 1, .int 1] = fr 1 := rfl
  have g := m_law_minus_eq (m := 1) (n := m) (p := 1) (q := t) ⟨by decide, by decide⟩ h3 (by omega)
  obtain ⟨y9, y10, y11, y12, f, _⟩ := spot_loop (a0 := fz w) (a1 := fz i) (a3 := fz s) (a4 := fz pen) (a9 := none) (a10 := none) (a11 := none) (a12 := none) h3 hps hl h4 hc hb
  rw [seq_nx (ρ' := [fz w, fz i, fz (fr t), fz s, fz pen, ow (ps.map pt), fz (fr (1 - t)), none, none, none, none, none, none]) (by simp [e1, g]),
    seq_nx (ρ' := [fz w, fz i, fz (fr t), fz s, fz pen, ow (ps.map pt), fz (fr (1 - t)), fz (.tuple (cs.map .int)), none, none, none, none, none]) (by rw [sSet_ap, hd]; rfl),
    seq_nx (ρ' := [fz w, fz i, fz (fr t), fz s, fz pen, ow (ps.map pt), fz (fr (1 - t)), fz (.tuple (cs.map .int)), fz (pt (0, 0)), none, none, none, none]) (by simp [pt_zero]),
    seq_nx (ρ' := [fz w, fz i, fz (fr t), fz s, fz pen, fz (.list (ps.map pt)), fz (fr (1 - t)), fz (.tuple (cs.map .int)), fz (pt (bsum t cs ps ps.length)), y9, y10, y11, y12]) (by rw [sFrz_ap, frz1_5]; exact f), hs]
  simp
theorem dix_len {w i pen s t r : PyData} {ps : List PyData} {k : Nat} {d : PyData} (hk : ps.length = k) (hd : lkD (.inl (k : Int)) [.inl 2, .inl 3, .inl 4] [.tuple [.int 1, .int 1], .tuple [.int 1, .int 2, .int 1], .tuple [.int 1, .int 3, .int 3, .int 1]] none = some d) :
    mDix [.inl 2, .inl 3, .inl 4] (mCons (mTup (mCons (mK (.int 1)) (mCons (mK (.int 1)) mNil))) (mCons (mTup (mCons (mK (.int 1)) (mCons (mK (.int 2)) (mCons (mK (.int 1)) mNil)))) (mCons (mTup (mCons (mK (.int 1)) (mCons (mK (.int 3)) (mCons (mK (.int 3)) (mCons (mK (.int 1)) mNil))))) mNil))) (mTmp 5 (mCall pLen (mCons (mVar 5) mNil))) [fz w, fz i, fz t, fz s, fz pen, ow ps, fz r, none, none, none, none, none, none] = some d := by
  unfold mDix
  simp only [mTmp_ap, frz1_5, mCall_ap, mCons_ap, mTup_ap, mK_ap, mNil_ap, mVar5, mVar4, mVar0, Option.bind_some, pLen_l, hk]
  rw [if_pos (show flatD (.int (k : Int)) = true from rfl)]
  exact hd
theorem m_law_spot_gen {w : List Stk} {i : Nat} {s : Stk} {t : Rat} {m n : Nat} (hl' : w.length ≤ 1000) (hs : w[i]? = some s) (hps : ∀ p ∈ corners w i s, PS n p) (h3 : Sz m t) (hb : 4 * (4 * m + 15 + n) ≤ 3000) : m__law_spot [wy w, .int (i : Nat), fr t] = some (pt (ptOf t (corners w i s))) := by
  have hi : i < w.length := (List.getElem?_eq_some_iff.mp hs).1
  have e1 := wy_at hs
  have e2 := m_law_pens_eq w hl'
  have e3 := pens_at (w := w) (i := i) (by omega)
  refine run_rt ?_
  unfold b__law_spot
  rw [show startR N__law_spot [wy w, PyData.int ↑i, fr t] = [fz (wy w), fz (.int (i : Nat)), fz (fr t), none, none, none, none, none, none, none, none, none, none] from rfl]
  rw [seq_nx (ρ' := [fz (wy w), fz (.int (i : Nat)), fz (fr t), fz (sk s), none, none, none, none, none, none, none, none, none]) (by simp [e1])]
  have z1 : (1 : Nat) ≤ sizeLine := line_ok (by decide)
  have z2 : (2 : Nat) ≤ sizeLine := line_ok (by decide)
  have z3 : (3 : Nat) ≤ sizeLine := line_ok (by decide)
  have z4 : (4 : Nat) ≤ sizeLine := line_ok (by decide)
  have zl : (1 : Nat) < sizeLine := line_lt (by decide)
  have pens' : ∀ {s : Stk}, sSet 4 (mBin pIx (mCall m__law_pens (mCons (mVar 0) mNil)) (mVar 1)) [fz (wy w), fz (.int (i : Nat)), fz (fr t), fz (sk s), none, none, none, none, none, none, none, none, none] = some (.nx [fz (wy w), fz (.int (i : Nat)), fz (fr t), fz (sk s), fz (pt (penAt w i)), none, none, none, none, none, none, none, none]) := by
    intro s
    simp [e2, e3]
  cases s with
  | move p =>
    rw [seq_rt (d := pt p) (by simp)]
    rfl
  | line p =>
    have hc : pSl (sk (.line p)) (some 1) none = some (.tuple [pt p]) := rfl
    rw [seq_nx (ρ' := [fz (wy w), fz (.int (i : Nat)), fz (fr t), fz (sk (.line p)), none, none, none, none, none, none, none, none, none]) (by simp), seq_nx pens',
      seq_nx (ρ' := [fz (wy w), fz (.int (i : Nat)), fz (fr t), fz (sk (.line p)), fz (pt (penAt w i)), ow ((corners w i (.line p)).map pt), none, none, none, none, none, none, none]) (by simp [mAddL, hc, z2, corners]),
      seq_nx (ρ' := [fz (wy w), fz (.int (i : Nat)), fz (fr t), fz (sk (.line p)), fz (pt (penAt w i)), ow ((corners w i (.line p)).map pt), none, none, none, none, none, none, none]) (by simp)]
    exact spot_end (cs := [1, 1]) h3 hps rfl (by simp [corners]) (by simp) (by omega) (bsum2 t _ _) (dix_len rfl rfl)
  | bow a p =>
    have hc : pSl (sk (.bow a p)) (some 1) none = some (.tuple [pt a, pt p]) := rfl
    rw [seq_nx (ρ' := [fz (wy w), fz (.int (i : Nat)), fz (fr t), fz (sk (.bow a p)), none, none, none, none, none, none, none, none, none]) (by simp), seq_nx pens',
      seq_nx (ρ' := [fz (wy w), fz (.int (i : Nat)), fz (fr t), fz (sk (.bow a p)), fz (pt (penAt w i)), ow ((corners w i (.bow a p)).map pt), none, none, none, none, none, none, none]) (by simp [mAddL, hc, z3, corners]),
      seq_nx (ρ' := [fz (wy w), fz (.int (i : Nat)), fz (fr t), fz (sk (.bow a p)), fz (pt (penAt w i)), ow ((corners w i (.bow a p)).map pt), none, none, none, none, none, none, none]) (by simp)]
    exact spot_end (cs := [1, 2, 1]) h3 hps rfl (by simp [corners]) (by simp) (by omega) (bsum3 t _ _ _) (dix_len rfl rfl)
  | wave a b p =>
    have hc : pSl (sk (.wave a b p)) (some 1) none = some (.tuple [pt a, pt b, pt p]) := rfl
    rw [seq_nx (ρ' := [fz (wy w), fz (.int (i : Nat)), fz (fr t), fz (sk (.wave a b p)), none, none, none, none, none, none, none, none, none]) (by simp), seq_nx pens',
      seq_nx (ρ' := [fz (wy w), fz (.int (i : Nat)), fz (fr t), fz (sk (.wave a b p)), fz (pt (penAt w i)), ow ((corners w i (.wave a b p)).map pt), none, none, none, none, none, none, none]) (by simp [mAddL, hc, z4, corners]),
      seq_nx (ρ' := [fz (wy w), fz (.int (i : Nat)), fz (fr t), fz (sk (.wave a b p)), fz (pt (penAt w i)), ow ((corners w i (.wave a b p)).map pt), none, none, none, none, none, none, none]) (by simp)]
    exact spot_end (cs := [1, 3, 3, 1]) h3 hps rfl (by simp [corners]) (by simp) (by omega) (bsum4 t _ _ _ _) (dix_len rfl rfl)
  | shut =>
    have hc : pSl (sk .shut) (some 1) none = some (.tuple []) := rfl
    have hcut : pSl (wy w) none (some ((i : Int) + 1)) = some (wy (w.take (i + 1))) := by
      show some (PyData.tuple (cutD (w.map sk) none (some (((i + 1 : Nat) : Nat) : Int)))) = _
      rw [cut_upto, ← List.map_take]
      rfl
    have hlen : (w.take (i + 1)).length = i + 1 := by rw [List.length_take]; omega
    have hp := m_law_pens_eq (w.take (i + 1)) (by omega)
    have hlast := pens_last (w.take (i + 1))
    have ht : (w.take (i + 1))[i]? = some .shut := by rw [List.getElem?_take_of_lt (by omega)]; exact hs
    have hpen : penAt (w.take (i + 1)) (w.take (i + 1)).length = begAt w (i + 1) := by rw [hlen, penAt_succ ht, begAt_take]; rfl
    rw [hpen] at hlast
    rw [seq_nx (ρ' := [fz (wy w), fz (.int (i : Nat)), fz (fr t), fz (sk .shut), none, none, none, none, none, none, none, none, none]) (by simp), seq_nx pens',
      seq_nx (ρ' := [fz (wy w), fz (.int (i : Nat)), fz (fr t), fz (sk .shut), fz (pt (penAt w i)), ow [pt (penAt w i)], none, none, none, none, none, none, none]) (by simp [mAddL, hc, z1]),
      seq_nx (ρ' := [fz (wy w), fz (.int (i : Nat)), fz (fr t), fz (sk .shut), fz (pt (penAt w i)), ow ((corners w i .shut).map pt), none, none, none, none, none, none, none]) (by simp [hcut, hp, hlast, zl, corners])]
    exact spot_end (cs := [1, 1]) h3 hps rfl (by simp [corners]) (by simp) (by omega) (bsum2 t _ _) (dix_len rfl rfl)
theorem m_law_spot_eq {w : List Stk} {i : Nat} {s : Stk} {t : Rat} {m : Nat} (hw : GW w) (hl : w.length ≤ 12) (hs : w[i]? = some s) (h3 : Sz m t) (hm : m ≤ 100) : m__law_spot [wy w, .int (i : Nat), fr t] = some (pt (ptOf t (corners w i s))) :=
  m_law_spot_gen (by omega) hs (hw.corners hl hs) h3 (by omega)
end Dm

set_option Elab.async false
set_option linter.all false
set_option maxRecDepth 100000
set_option exponentiation.threshold 20000
namespace Dm
open PySem PySem.Spec L2 Dw
/-! ### comprehensions over a range -/
theorem rng_succ' (lo : Int) (n : Nat) : rng lo (n + 1) = rng lo n ++ [.int (lo + (n : Nat))] := by
  unfold rng
  rw [rmap_succ]
theorem lcL_rng {j : Nat} {fe : Mr PyData} {ρ : Rho} {lo : Int} {f : Nat → PyData} : ∀ n : Nat, (∀ k, k < n → fe (ρ.set j (some (.frz (.int (lo + (k : Nat)))))) = some (f k)) → lcL (gN j) tYesM fe ρ (rng lo n) = some ((List.range n).map f)
  | 0, _ => rfl
  | n + 1, h => by
    have ih := lcL_rng n fun k hk => h k (by omega)
    rw [rng_succ', rmap_succ]
    refine lcL_append ih ?_
    unfold lcL
    simp [h n (by omega), lcL]
/-! ### flat -/
def flatOf (w : List Stk) (n : Nat) (i : Nat) (s : Stk) : List Stk := match s with
  | .bow a p => (List.range n).map fun k => .line (ptOf (Rat.divInt (1 + (k : Nat)) n) (corners w i (.bow a p)))
  | .wave a b p => (List.range n).map fun k => .line (ptOf (Rat.divInt (1 + (k : Nat)) n) (corners w i (.wave a b p)))
  | s => [s]
def flUp (w : List Stk) (n : Nat) : Nat → List Stk
  | 0 => []
  | i + 1 => flUp w n i ++ (match w[i]? with | some s => flatOf w n i s | none => [])
def flatW (w : List Stk) (n : Nat) : List Stk := flUp w n w.length
theorem flUp_succ {w : List Stk} {n i : Nat} {s : Stk} (h : w[i]? = some s) : flUp w n (i + 1) = flUp w n i ++ flatOf w n i s := by simp [flUp, h]
theorem flatOf_len {w : List Stk} {n i : Nat} {s : Stk} (hn : 1 ≤ n) : (flatOf w n i s).length ≤ n := by
  cases s <;> simp [flatOf] <;> omega
theorem flUp_len (w : List Stk) {n : Nat} (hn : 1 ≤ n) : ∀ i, (flUp w n i).length ≤ n * i
  | 0 => by simp [flUp]
  | i + 1 => by
    have ih := flUp_len w hn i
    rw [flUp, List.length_append, Nat.mul_succ]
    cases h : w[i]? with
    | none => simp; omega
    | some s =>
      have := flatOf_len (w := w) (i := i) (s := s) hn
      simp only
      omega
theorem sz_share {k n : Nat} (hk : k < n) (hn : n ≤ 20) : Sz 5 (Rat.divInt (1 + (k : Nat)) n) := Sz.divInt (by omega) (by omega) (by omega)
theorem many_den {n : Nat} (hn : n ≤ 20) : ((n : Nat) : Int).natAbs < 2 ^ 9000 := Nat.lt_of_lt_of_le (m := 2 ^ 5) (by omega) (Nat.pow_le_pow_right (by decide) (by decide))
/-- the lines of one bow or wave, as the program draws them -/
theorem flat_lines {w : List Stk} {nn n i : Nat} {s : Stk} (hw : CW nn w) (hnn : nn ≤ 100) (hl : w.length ≤ 400) (h1 : 1 ≤ n) (hn : n ≤ 20) (hs : w[i]? = some s) {x2 x3 x4 : Option Slt} :
    mCall pTuple (mCons (mLst (mLc (mIt pRng2 (mCons (mK (.int 1)) (mCons (mBin pAdd (mVar 1) (mK (.int 1))) mNil))) (gN 6) tYesM (mTup (mCons (mK c_LINE) (mCons (mCall m_point_of (mCons (mVar 5) (mCons (mCall m_fraction (mCons (mVar 6) (mCons (mVar 1) mNil))) mNil))) mNil))) [6])) mNil) [fz (wy w), fz (.int (n : Nat)), x2, x3, x4, fz (.tuple ((corners w i s).map pt)), none] = some (.tuple ((List.range n).map fun k => sk (.line (ptOf (Rat.divInt (1 + (k : Nat)) n) (corners w i s))))) := by
  have hc := hw _ _ hs
  have hcl : 1 ≤ (corners w i s).length ∧ (corners w i s).length ≤ 4 := by cases s <;> simp [corners]
  have hb : szB 5 ((corners w i s).length - 1) nn ≤ 8900 := by
    have h4 : (corners w i s).length - 1 = 0 ∨ (corners w i s).length - 1 = 1 ∨ (corners w i s).length - 1 = 2 ∨ (corners w i s).length - 1 = 3 := by omega
    rcases h4 with h | h | h | h <;> rw [h] <;> simp only [szB] <;> omega
  have hr : pRng2 [.int 1, .int ((n : Int) + 1)] = some (rng 1 n) := by
    have := pRng2_i (m := 1) (n := (n : Int) + 1) (by simp [rOk]; omega)
    rw [this]
    congr 2
    omega
  have hz : n ≤ sizeLine := line_ok (by omega)
  have hlc := lcL_rng (j := 6) (fe := mTup (mCons (mK c_LINE) (mCons (mCall m_point_of (mCons (mVar 5) (mCons (mCall m_fraction (mCons (mVar 6) (mCons (mVar 1) mNil))) mNil))) mNil))) (ρ := [fz (wy w), fz (.int (n : Nat)), x2, x3, x4, fz (.tuple ((corners w i s).map pt)), none]) (lo := 1) (f := fun k => sk (.line (ptOf (Rat.divInt (1 + (k : Nat)) n) (corners w i s)))) n (by
    intro k hk
    have e1 := m_fraction_eq (u := 1 + (k : Nat)) (l := (n : Nat)) (by omega) (many_den hn)
    obtain ⟨_, e2⟩ := m_point_of_eq (sz_share hk hn) hc hcl.1 (by omega) hb
    simp only [mTup_ap, mCons_ap, mK_ap, mCall_ap, mVar5, mVar6, mVar1, mVar2, mVar3, mVar4, mVar0, List.set_cons_succ, List.set_cons_zero, mNil_ap, Option.bind_some, e1, e2, c_LINE, sk])
  have hm : mLc (mIt pRng2 (mCons (mK (.int 1)) (mCons (mBin pAdd (mVar 1) (mK (.int 1))) mNil))) (gN 6) tYesM (mTup (mCons (mK c_LINE) (mCons (mCall m_point_of (mCons (mVar 5) (mCons (mCall m_fraction (mCons (mVar 6) (mCons (mVar 1) mNil))) mNil))) mNil))) [6] [fz (wy w), fz (.int (n : Nat)), x2, x3, x4, fz (.tuple ((corners w i s).map pt)), none] = some ((List.range n).map fun k => sk (.line (ptOf (Rat.divInt (1 + (k : Nat)) n) (corners w i s)))) := by
    unfold mLc
    rw [← hlc]
    simp only [mIt_ap, mCons_ap, mBin_ap, mVar1, mVar0, mK_ap, Option.bind_some, pAdd_i, mNil_ap, hr, rng_len]
    rw [if_pos hz]
    rfl
  simp only [mCall_ap, mCons_ap, mLst_ap, hm, mNil_ap, Option.bind_some, pTuple_l]
theorem in_bw_no {s : Stk} (h : ∀ a p, s ≠ .bow a p) (h' : ∀ a b p, s ≠ .wave a b p) : ∃ x, pIx (sk s) (.int 0) = some (.str x) ∧ pIn (.str x) (.tuple [.str "bow", .str "wave"]) = some (.bool false) := by
  cases s with
  | move p => exact ⟨_, rfl, by rw [in_bw so_move]; simp⟩
  | line p => exact ⟨_, rfl, by rw [in_bw so_line]; simp⟩
  | bow a p => exact absurd rfl (h a p)
  | wave a b p => exact absurd rfl (h' a b p)
  | shut => exact ⟨_, rfl, by rw [in_bw so_shut]; simp⟩
theorem in_bow : pIn (.str "bow") (.tuple [.str "bow", .str "wave"]) = some (.bool true) := by rw [in_bw so_bow]; simp
theorem in_wave : pIn (.str "wave") (.tuple [.str "bow", .str "wave"]) = some (.bool true) := by rw [in_bw so_wave]; simp
theorem m_flat_eq {w : List Stk} {nn n : Nat} (hw : CW nn w) (hnn : nn ≤ 100) (hl : w.length ≤ 400) (h1 : 1 ≤ n) (hn : n ≤ 20) : m_flat [wy w, .int (n : Nat)] = some (wy (flatW w n)) := by
  refine run_rt ?_
  unfold b_flat
  rw [show startR N_flat [wy w, PyData.int ↑n] = [fz (wy w), fz (.int (n : Nat)), none, none, none, none, none] from rfl]
  rw [seq_nx (ρ' := [fz (wy w), fz (.int (n : Nat)), fz (wy []), none, none, none, none]) (by simp [wy])]
  obtain ⟨ρ', e, x3, x4, x5, rfl⟩ := for_inv (fi := (mIt pEnum (mCons (mVar 0) mNil))) (g := (gT 2 (gs1 (gN 3) (gs1 (gN 4) gs0')))) (body := (sIf (mTest (mBin pIn (mBin pIx (mVar 4) (mK (.int 0))) (mTup (mCons (mK c_BOW) (mCons (mK c_WAVE) mNil))))) (sSeq (sSet 5 (mCall m_corner_points (mCons (mVar 0) (mCons (mVar 3) mNil))))
      (sSet 2 (mBin pAdd (mVar 2) (mCall pTuple (mCons (mLst (mLc (mIt pRng2 (mCons (mK (.int 1)) (mCons (mBin pAdd (mVar 1) (mK (.int 1))) mNil))) (gN 6) tYesM (mTup (mCons (mK c_LINE) (mCons (mCall m_point_of (mCons (mVar 5) (mCons (mCall m_fraction (mCons (mVar 6) (mCons (mVar 1) mNil))) mNil))) mNil))) [6])) mNil)))))
      (sSet 2 (mBin pAdd (mVar 2) (mTup (mCons (mVar 4) mNil)))))) (ds := enumD (w.map sk))
    (ρ := [fz (wy w), fz (.int (n : Nat)), fz (wy []), none, none, none, none])
    (fun i ρ => ∃ x3 x4 x5, ρ = [fz (wy w), fz (.int (n : Nat)), fz (wy (flUp w n i)), x3, x4, x5, none])
    (by simp [wy]) ⟨none, none, none, rfl⟩ (by
      rintro i d ρ hd ⟨x3, x4, x5, rfl⟩
      obtain ⟨d', hd', rfl⟩ := enum_get hd
      obtain ⟨s, hs, rfl, hi⟩ := sk_get hd'
      have hul := flUp_len w h1 i
      have hmul : n * i ≤ 20 * 400 := Nat.mul_le_mul hn (by omega)
      have hcp := m_corner_points_eq hs (by omega)
      have hfl := flat_lines hw hnn hl h1 hn hs (x2 := fz (wy (flUp w n i))) (x3 := fz (.int (i : Nat))) (x4 := fz (sk s))
      rw [flUp_succ hs]
      have hg : gT 2 (gs1 (gN 3) (gs1 (gN 4) gs0')) (.tuple [.int (i : Nat), sk s]) [fz (wy w), fz (.int (n : Nat)), fz (wy (flUp w n i)), x3, x4, x5, none] = some [fz (wy w), fz (.int (n : Nat)), fz (wy (flUp w n i)), fz (.int (i : Nat)), fz (sk s), x5, none] := by simp
      rw [hg, Option.bind_some]
      have ad : ∀ v : List Stk, v.length ≤ 20 → pAdd (wy (flUp w n i)) (wy v) = some (wy (flUp w n i ++ v)) := fun v hv => pAdd_wy (by omega)
      have long : (∃ x, pIx (sk s) (.int 0) = some (.str x) ∧ pIn (.str x) (.tuple [.str "bow", .str "wave"]) = some (.bool true)) → (∃ f : Nat → Stk, flatOf w n i s = (List.range n).map f ∧ ∀ k, sk (f k) = sk (.line (ptOf (Rat.divInt (1 + (k : Nat)) n) (corners w i s)))) →
          ∃ ρ', (sIf (mTest (mBin pIn (mBin pIx (mVar 4) (mK (.int 0))) (mTup (mCons (mK c_BOW) (mCons (mK c_WAVE) mNil))))) (sSeq (sSet 5 (mCall m_corner_points (mCons (mVar 0) (mCons (mVar 3) mNil))))
      (sSet 2 (mBin pAdd (mVar 2) (mCall pTuple (mCons (mLst (mLc (mIt pRng2 (mCons (mK (.int 1)) (mCons (mBin pAdd (mVar 1) (mK (.int 1))) mNil))) (gN 6) tYesM (mTup (mCons (mK c_LINE) (mCons (mCall m_point_of (mCons (mVar 5) (mCons (mCall m_fraction (mCons (mVar 6) (mCons (mVar 1) mNil))) mNil))) mNil))) [6])) mNil)))))
      (sSet 2 (mBin pAdd (mVar 2) (mTup (mCons (mVar 4) mNil))))) [fz (wy w), fz (.int (n : Nat)), fz (wy (flUp w n i)), fz (.int (i : Nat)), fz (sk s), x5, none] = some (.nx ρ') ∧ ∃ x3 x4 x5, ρ' = [fz (wy w), fz (.int (n : Nat)), fz (wy (flUp w n i ++ flatOf w n i s)), x3, x4, x5, none] := by
        rintro ⟨x, hx1, hx2⟩ ⟨f, hf1, hf2⟩
        have hwy : PyData.tuple ((List.range n).map fun k => sk (.line (ptOf (Rat.divInt (1 + (k : Nat)) n) (corners w i s)))) = wy (flatOf w n i s) := by
          rw [hf1]
          unfold wy
          rw [List.map_map]
          congr 1
          exact List.map_congr_left fun k _ => (hf2 k).symm
        rw [hwy] at hfl
        refine ⟨_, ?_, fz (.int (i : Nat)), fz (sk s), fz (.tuple ((corners w i s).map pt)), rfl⟩
        have ha := ad (flatOf w n i s) (by rw [hf1, List.length_map, List.length_range]; omega)
        rw [sIf_ap]
        simp only [mTest_ap, mBin_ap, mVar4, mVar0, mK_ap, mTup_ap, mCons_ap, mNil_ap, Option.bind_some, hx1, c_BOW, c_WAVE, hx2, asB_ap, if_true]
        rw [seq_nx (ρ' := [fz (wy w), fz (.int (n : Nat)), fz (wy (flUp w n i)), fz (.int (i : Nat)), fz (sk s), fz (.tuple ((corners w i s).map pt)), none]) (by simp [hcp])]
        rw [sSet_ap, mBin_ap, hfl]
        simp [ha]
      cases s with
      | bow a p =>
        obtain ⟨ρ', q1, q2⟩ := long ⟨_, rfl, in_bow⟩ ⟨_, rfl, fun _ => rfl⟩
        exact ⟨ρ', .inl q1, q2⟩
      | wave a b p =>
        obtain ⟨ρ', q1, q2⟩ := long ⟨_, rfl, in_wave⟩ ⟨_, rfl, fun _ => rfl⟩
        exact ⟨ρ', .inl q1, q2⟩
      | move p =>
        obtain ⟨x, hx1, hx2⟩ := in_bw_no (s := .move p) (by simp) (by simp)
        refine ⟨_, .inl ?_, fz (.int (i : Nat)), fz (sk (.move p)), x5, rfl⟩
        simp [hx1, c_BOW, c_WAVE, hx2, mk_one, ad [.move p] (by simp), flatOf]
      | line p =>
        obtain ⟨x, hx1, hx2⟩ := in_bw_no (s := .line p) (by simp) (by simp)
        refine ⟨_, .inl ?_, fz (.int (i : Nat)), fz (sk (.line p)), x5, rfl⟩
        simp [hx1, c_BOW, c_WAVE, hx2, mk_one, ad [.line p] (by simp), flatOf]
      | shut =>
        obtain ⟨x, hx1, hx2⟩ := in_bw_no (s := .shut) (by simp) (by simp)
        refine ⟨_, .inl ?_, fz (.int (i : Nat)), fz (sk .shut), x5, rfl⟩
        simp [hx1, c_BOW, c_WAVE, hx2, mk_one, ad [.shut] (by simp), flatOf])
  have hlen : (enumD (w.map sk)).length = w.length := by rw [enum_len, List.length_map]
  rw [hlen] at e
  rw [seq_nx e]
  simp [flatW]
end Dm

set_option Elab.async false
set_option linter.all false
set_option maxRecDepth 100000
set_option exponentiation.threshold 20000
namespace Dm
open PySem PySem.Spec L2 Dw
/-! ### raised -/
def third2 : Rat := Rat.divInt 2 3
def raiseOf (w : List Stk) (i : Nat) (s : Stk) : Stk := match s with
  | .bow a p => .wave (btw (penAt w i) a third2) (btw p a third2) p
  | s => s
def rsUp (w : List Stk) : Nat → List Stk
  | 0 => []
  | i + 1 => rsUp w i ++ (match w[i]? with | some s => [raiseOf w i s] | none => [])
def raiseW (w : List Stk) : List Stk := rsUp w w.length
theorem rsUp_succ {w : List Stk} {i : Nat} {s : Stk} (h : w[i]? = some s) : rsUp w (i + 1) = rsUp w i ++ [raiseOf w i s] := by simp [rsUp, h]
theorem rsUp_len (w : List Stk) : ∀ i, (rsUp w i).length ≤ i
  | 0 => by simp [rsUp]
  | i + 1 => by
    have ih := rsUp_len w i
    rw [rsUp, List.length_append]
    cases h : w[i]? <;> simp <;> omega
theorem sz_third : Sz 2 third2 := Sz.divInt (by decide) (by decide) (by decide)
theorem frac23 : m_fraction [.int 2, .int 3] = some (fr third2) := m_fraction_eq (by decide) (Nat.lt_of_lt_of_le (m := 2 ^ 5) (by decide) (Nat.pow_le_pow_right (by decide) (by decide)))
theorem m_raised_gen {w : List Stk} {n : Nat} (hw : ∀ (i : Nat) (a p : Pt), w[i]? = some (.bow a p) → PS n (penAt w i) ∧ PS n a ∧ PS n p) (hn : n ≤ 100) (hl : w.length ≤ 400) : m_raised [wy w] = some (wy (raiseW w)) := by
  refine run_rt ?_
  unfold b_raised
  rw [show startR N_raised [wy w] = [fz (wy w), none, none, none, none] from rfl]
  rw [seq_nx (ρ' := [fz (wy w), fz (wy []), none, none, none]) (by simp [wy])]
  obtain ⟨ρ', e, x2, x3, x4, rfl⟩ := for_inv (fi := (mIt pZip (mCons (mVar 0) (mCons (mCall m_pens (mCons (mVar 0) mNil)) mNil)))) (g := (gT 2 (gs1 (gN 2) (gs1 (gN 3) gs0')))) (body := (sSeq (sIf (mTest (mBin pEq (mBin pIx (mVar 2) (mK (.int 0))) (mK c_BOW))) (sSeq (sSet 4 (mCall m_between (mCons (mVar 3) (mCons (mBin pIx (mVar 2) (mK (.int 1))) (mCons (mCall m_fraction (mCons (mK (.int 2)) (mCons (mK (.int 3)) mNil))) mNil)))))
      (sSet 2 (mTup (mCons (mK c_WAVE) (mCons (mVar 4) (mCons (mCall m_between (mCons (mBin pIx (mVar 2) (mK (.int 2))) (mCons (mBin pIx (mVar 2) (mK (.int 1))) (mCons (mCall m_fraction (mCons (mK (.int 2)) (mCons (mK (.int 3)) mNil))) mNil)))) (mCons (mBin pIx (mVar 2) (mK (.int 2))) mNil)))))))
      sNil)
      (sSet 1 (mBin pAdd (mVar 1) (mTup (mCons (mVar 2) mNil)))))) (ds := zipD (w.map sk) (pens w))
    (ρ := [fz (wy w), fz (wy []), none, none, none])
    (fun i ρ => ∃ x2 x3 x4, ρ = [fz (wy w), fz (wy (rsUp w i)), x2, x3, x4])
    (by simp [wy, show m_pens [.tuple (w.map sk)] = some (.tuple (pens w)) from m_pens_eq w (by omega)]) ⟨none, none, none, rfl⟩ (by
      rintro i d ρ hd ⟨x2, x3, x4, rfl⟩
      obtain ⟨a, b, ha, hbb, rfl⟩ := zip_get hd
      obtain ⟨s, hs, rfl, hi⟩ := sk_get ha
      obtain ⟨_, rfl⟩ := rmap_get hbb
      have hul := rsUp_len w i
      rw [rsUp_succ hs]
      have ad : ∀ v : Stk, pAdd (wy (rsUp w i)) (wy [v]) = some (wy (rsUp w i ++ [v])) := fun v => pAdd_wy (by simp; omega)
      cases s with
      | bow a p =>
        obtain ⟨hp, h1, h2⟩ := hw i a p hs
        have e1 := m_between_eq hp h1 sz_third (by omega)
        have e2 := m_between_eq h2 h1 sz_third (by omega)
        have mkw : ∀ a b c : Pt, PyData.tuple [.str "wave", pt a, pt b, pt c] = sk (.wave a b c) := fun _ _ _ => rfl
        refine ⟨_, .inl ?_, fz (sk (raiseOf w i (.bow a p))), fz (pt (penAt w i)), fz (pt (btw (penAt w i) a third2)), rfl⟩
        simp [c_BOW, c_WAVE, frac23, e1, e2, mkw, mk_one, ad, raiseOf]
      | move p =>
        refine ⟨_, .inl ?_, fz (sk (.move p)), fz (pt (penAt w i)), x4, rfl⟩
        simp [c_BOW, mk_one, ad, raiseOf]
      | line p =>
        refine ⟨_, .inl ?_, fz (sk (.line p)), fz (pt (penAt w i)), x4, rfl⟩
        simp [c_BOW, mk_one, ad, raiseOf]
      | wave a b p =>
        refine ⟨_, .inl ?_, fz (sk (.wave a b p)), fz (pt (penAt w i)), x4, rfl⟩
        simp [c_BOW, mk_one, ad, raiseOf]
      | shut =>
        refine ⟨_, .inl ?_, fz (sk .shut), fz (pt (penAt w i)), x4, rfl⟩
        simp [c_BOW, mk_one, ad, raiseOf])
  have hlen : (zipD (w.map sk) (pens w)).length = w.length := by simp [zipD, pens]
  rw [hlen] at e
  rw [seq_nx e]
  simp [raiseW]
theorem m_raised_eq {w : List Stk} (hw : GW w) (hl : w.length ≤ 12) : m_raised [wy w] = some (wy (raiseW w)) :=
  m_raised_gen (n := 22) (fun i a p hs => ⟨hw.corners hl hs _ (by simp [corners]), hw.corners hl hs _ (by simp [corners]), hw.corners hl hs _ (by simp [corners])⟩) (by decide) (by omega)
end Dm

set_option Elab.async false
set_option linter.all false
set_option maxRecDepth 100000
set_option exponentiation.threshold 20000
namespace Dm
open PySem PySem.Spec L2 Dw
/-! ### k30: waves and lines, by the law -/
theorem third_first (p a : Pt) : padd (pscale (1 / 3) p) (pscale (2 / 3) a) = btw p a third2 := by
  obtain ⟨p1, p2⟩ := p
  obtain ⟨a1, a2⟩ := a
  have h : third2 = 2 / 3 := by rw [third2, Rat.divInt_eq_div]; rfl
  simp only [padd, pscale, btw, psub, h]
  refine Prod.ext ?_ ?_ <;> simp <;> grind
theorem fr13 : PyData.tuple [.int 1, .int 3] = fr (1 / 3) := by
  have : (1 / 3 : Rat) = Rat.divInt 1 3 := by rw [Rat.divInt_eq_div]; rfl
  rw [this]; rfl
theorem fr23 : PyData.tuple [.int 2, .int 3] = fr (2 / 3) := by
  have : (2 / 3 : Rat) = Rat.divInt 2 3 := by rw [Rat.divInt_eq_div]; rfl
  rw [this]; rfl
theorem sz13 : Sz 2 (1 / 3) := by
  have : (1 / 3 : Rat) = Rat.divInt 1 3 := by rw [Rat.divInt_eq_div]; rfl
  rw [this]; exact Sz.divInt (by decide) (by decide) (by decide)
theorem sz23 : Sz 2 (2 / 3) := by
  have : (2 / 3 : Rat) = Rat.divInt 2 3 := by rw [Rat.divInt_eq_div]; rfl
  rw [this]; exact Sz.divInt (by decide) (by decide) (by decide)
theorem law_third {p a : Pt} (hp : PS 22 p) (ha : PS 22 a) : (m__law_scale [fr (1 / 3), pt p]).bind (fun x => (m__law_scale [fr (2 / 3), pt a]).bind fun y => m__law_add [x, y]) = some (pt (btw p a third2)) := by
  rw [m_law_scale_eq sz13 hp (by decide), m_law_scale_eq sz23 ha (by decide), Option.bind_some, Option.bind_some, m_law_add_eq (PS.scale sz13 hp) (PS.scale sz23 ha) (by decide), third_first]
theorem law_lines {w : List Stk} {n i : Nat} {s : Stk} (hw : GW w) (hl : w.length ≤ 12) (h1 : 1 ≤ n) (hn : n ≤ 20) (hs : w[i]? = some s) {x0 x2 x3 x4 x5 x7 x8 x10 x11 x12 x13 : Option Slt} :
    mCall pTuple (mCons (mLst (mLc (mIt pRng2 (mCons (mK (.int 1)) (mCons (mBin pAdd (mVar 6) (mK (.int 1))) mNil))) (gN 14) tYesM (mTup (mCons (mK (.str "line")) (mCons (mCall m__law_spot (mCons (mVar 1) (mCons (mVar 9) (mCons (mCall m__law_fr (mCons (mVar 14) (mCons (mVar 6) mNil))) mNil)))) mNil))) [14])) mNil) [x0, fz (wy w), x2, x3, x4, x5, fz (.int (n : Nat)), x7, x8, fz (.int (i : Nat)), x10, x11, x12, x13, none] = some (.tuple ((List.range n).map fun k => sk (.line (ptOf (Rat.divInt (1 + (k : Nat)) n) (corners w i s))))) := by
  have hr : pRng2 [.int 1, .int ((n : Int) + 1)] = some (rng 1 n) := by
    have := pRng2_i (m := 1) (n := (n : Int) + 1) (by simp [rOk]; omega)
    rw [this]
    congr 2
    omega
  have hz : n ≤ sizeLine := line_ok (by omega)
  have hlc := lcL_rng (j := 14) (fe := mTup (mCons (mK (.str "line")) (mCons (mCall m__law_spot (mCons (mVar 1) (mCons (mVar 9) (mCons (mCall m__law_fr (mCons (mVar 14) (mCons (mVar 6) mNil))) mNil)))) mNil))) (ρ := [x0, fz (wy w), x2, x3, x4, x5, fz (.int (n : Nat)), x7, x8, fz (.int (i : Nat)), x10, x11, x12, x13, none]) (lo := 1) (f := fun k => sk (.line (ptOf (Rat.divInt (1 + (k : Nat)) n) (corners w i s)))) n (by
    intro k hk
    have e1 := m_law_fr_eq (u := 1 + (k : Nat)) (l := (n : Nat)) (by omega) (many_den hn)
    have e2 := m_law_spot_eq hw hl hs (sz_share hk hn) (by decide)
    simp only [mTup_ap, mCons_ap, mK_ap, mCall_ap, mVar9, mVar14, mVar5, mVar6, mVar1, mVar2, mVar3, mVar4, mVar0, List.set_cons_succ, List.set_cons_zero, mNil_ap, Option.bind_some, e1, e2, sk])
  have hm : mLc (mIt pRng2 (mCons (mK (.int 1)) (mCons (mBin pAdd (mVar 6) (mK (.int 1))) mNil))) (gN 14) tYesM (mTup (mCons (mK (.str "line")) (mCons (mCall m__law_spot (mCons (mVar 1) (mCons (mVar 9) (mCons (mCall m__law_fr (mCons (mVar 14) (mCons (mVar 6) mNil))) mNil)))) mNil))) [14] [x0, fz (wy w), x2, x3, x4, x5, fz (.int (n : Nat)), x7, x8, fz (.int (i : Nat)), x10, x11, x12, x13, none] = some ((List.range n).map fun k => sk (.line (ptOf (Rat.divInt (1 + (k : Nat)) n) (corners w i s)))) := by
    unfold mLc
    rw [← hlc]
    simp only [mIt_ap, mCons_ap, mBin_ap, mVar6, mVar0, mK_ap, Option.bind_some, pAdd_i, mNil_ap, hr, rng_len]
    rw [if_pos hz]
    rfl
  simp only [mCall_ap, mCons_ap, mLst_ap, hm, mNil_ap, Option.bind_some, pTuple_l]
/-- the loop's body, by parts -/
noncomputable def k30new : MS := (sIf (mTest (mBin pEq (mBin pIx (mVar 10) (mK (.int 0))) (mK (.str "bow")))) (sSeq (sSet 12 (mCall m__law_add (mCons (mCall m__law_scale (mCons (mTup (mCons (mK (.int 1)) (mCons (mK (.int 3)) mNil))) (mCons (mBin pIx (mVar 5) (mVar 9)) mNil))) (mCons (mCall m__law_scale (mCons (mTup (mCons (mK (.int 2)) (mCons (mK (.int 3)) mNil))) (mCons (mBin pIx (mVar 10) (mK (.int 1))) mNil))) mNil))))
  (sSeq (sSet 13 (mCall m__law_add (mCons (mCall m__law_scale (mCons (mTup (mCons (mK (.int 1)) (mCons (mK (.int 3)) mNil))) (mCons (mBin pIx (mVar 10) (mK (.int 2))) mNil))) (mCons (mCall m__law_scale (mCons (mTup (mCons (mK (.int 2)) (mCons (mK (.int 3)) mNil))) (mCons (mBin pIx (mVar 10) (mK (.int 1))) mNil))) mNil))))
  (sSet 11 (mTup (mCons (mK (.str "wave")) (mCons (mVar 12) (mCons (mVar 13) (mCons (mBin pIx (mVar 10) (mK (.int 2))) mNil))))))))
  sNil)
noncomputable def k30lines : MS := (sIf (mTest (mBin pIn (mBin pIx (mVar 10) (mK (.int 0))) (mTup (mCons (mK (.str "bow")) (mCons (mK (.str "wave")) mNil))))) (sSet 8 (mBin pAdd (mVar 8) (mCall pTuple (mCons (mLst (mLc (mIt pRng2 (mCons (mK (.int 1)) (mCons (mBin pAdd (mVar 6) (mK (.int 1))) mNil))) (gN 14) tYesM (mTup (mCons (mK (.str "line")) (mCons (mCall m__law_spot (mCons (mVar 1) (mCons (mVar 9) (mCons (mCall m__law_fr (mCons (mVar 14) (mCons (mVar 6) mNil))) mNil)))) mNil))) [14])) mNil))))
  (sSet 8 (mBin pAdd (mVar 8) (mTup (mCons (mVar 10) mNil)))))
section
variable {w : List Stk} {n i : Nat} {s : Stk} {x0 x2 x3 x4 x7 x8 x11 x12 x13 : Option Slt}
theorem k30new_eq (hw : GW w) (hl : w.length ≤ 12) (hs : w[i]? = some s) : ∃ y12 y13, k30new [x0, fz (wy w), x2, x3, x4, fz (.list (pens w)), fz (.int (n : Nat)), x7, x8, fz (.int (i : Nat)), fz (sk s), fz (sk s), x12, x13, none] = some (.nx [x0, fz (wy w), x2, x3, x4, fz (.list (pens w)), fz (.int (n : Nat)), x7, x8, fz (.int (i : Nat)), fz (sk s), fz (sk (raiseOf w i s)), y12, y13, none]) := by
  have hi : i < w.length := (List.getElem?_eq_some_iff.mp hs).1
  have hm := hw.1 s (List.mem_of_getElem? hs)
  have hp := (hw.pen i).ps (by omega)
  have e3 := pens_at (w := w) (i := i) (by omega)
  cases s with
  | bow a p =>
    have h1 := GdP.ps hm.1 hl
    have h2 := GdP.ps hm.2 (by omega)
    have g1 := m_law_scale_eq sz13 hp (by decide)
    have g2 := m_law_scale_eq sz23 h1 (by decide)
    have g3 := m_law_scale_eq sz13 h2 (by decide)
    have g4 := m_law_add_eq (PS.scale sz13 hp) (PS.scale sz23 h1) (by decide)
    have g5 := m_law_add_eq (PS.scale sz13 h2) (PS.scale sz23 h1) (by decide)
    rw [third_first] at g4 g5
    have mkw : ∀ a b c : Pt, PyData.tuple [.str "wave", pt a, pt b, pt c] = sk (.wave a b c) := fun _ _ _ => rfl
    refine ⟨fz (pt (btw (penAt w i) a third2)), fz (pt (btw p a third2)), ?_⟩
    simp only [k30new, sIf_ap, sSeq_ap, sSet_ap, mTest_ap, mBin_ap, mCall_ap, mCons_ap, mTup_ap, mNil_ap, mK_ap, mVar5, mVar9, mVar10, mVar12, mVar13, mVar4, mVar0, Option.bind_some, ix_bow, ix_bow1, ix_bow2, pEq_s, beq_self_eq_true, asB_ap, if_true, fr13, fr23, e3, g1, g2, g3, g4, g5, List.set_cons_succ, List.set_cons_zero, mkw, raiseOf]
  | move p => exact ⟨x12, x13, by simp [k30new, raiseOf]⟩
  | line p => exact ⟨x12, x13, by simp [k30new, raiseOf]⟩
  | wave a b p => exact ⟨x12, x13, by simp [k30new, raiseOf]⟩
  | shut => exact ⟨x12, x13, by simp [k30new, raiseOf]⟩
theorem k30lines_eq (hw : GW w) (hl : w.length ≤ 12) (h1 : 1 ≤ n) (hn : n ≤ 20) (hs : w[i]? = some s) {x5 : Option Slt} : k30lines [x0, fz (wy w), x2, x3, x4, x5, fz (.int (n : Nat)), x7, fz (wy (flUp w n i)), fz (.int (i : Nat)), fz (sk s), x11, x12, x13, none] = some (.nx [x0, fz (wy w), x2, x3, x4, x5, fz (.int (n : Nat)), x7, fz (wy (flUp w n (i + 1))), fz (.int (i : Nat)), fz (sk s), x11, x12, x13, none]) := by
  have hi : i < w.length := (List.getElem?_eq_some_iff.mp hs).1
  have hul := flUp_len w h1 i
  have hmul : n * i ≤ 20 * 12 := Nat.mul_le_mul hn (by omega)
  have hfl := law_lines hw hl h1 hn hs (x0 := x0) (x2 := x2) (x3 := x3) (x4 := x4) (x5 := x5) (x7 := x7) (x8 := fz (wy (flUp w n i))) (x10 := fz (sk s)) (x11 := x11) (x12 := x12) (x13 := x13)
  rw [flUp_succ hs]
  have ad : ∀ v : List Stk, v.length ≤ 20 → pAdd (wy (flUp w n i)) (wy v) = some (wy (flUp w n i ++ v)) := fun v hv => pAdd_wy (by omega)
  have long : (∃ x, pIx (sk s) (.int 0) = some (.str x) ∧ pIn (.str x) (.tuple [.str "bow", .str "wave"]) = some (.bool true)) → (∃ f : Nat → Stk, flatOf w n i s = (List.range n).map f ∧ ∀ k, sk (f k) = sk (.line (ptOf (Rat.divInt (1 + (k : Nat)) n) (corners w i s)))) →
      k30lines [x0, fz (wy w), x2, x3, x4, x5, fz (.int (n : Nat)), x7, fz (wy (flUp w n i)), fz (.int (i : Nat)), fz (sk s), x11, x12, x13, none] = some (.nx [x0, fz (wy w), x2, x3, x4, x5, fz (.int (n : Nat)), x7, fz (wy (flUp w n i ++ flatOf w n i s)), fz (.int (i : Nat)), fz (sk s), x11, x12, x13, none]) := by
    rintro ⟨x, hx1, hx2⟩ ⟨f, hf1, hf2⟩
    have hwy : PyData.tuple ((List.range n).map fun k => sk (.line (ptOf (Rat.divInt (1 + (k : Nat)) n) (corners w i s)))) = wy (flatOf w n i s) := by
      rw [hf1]
      unfold wy
      rw [List.map_map]
      congr 1
      exact List.map_congr_left fun k _ => (hf2 k).symm
    rw [hwy] at hfl
    have ha := ad (flatOf w n i s) (by rw [hf1, List.length_map, List.length_range]; omega)
    rw [k30lines, sIf_ap]
    simp only [mTest_ap, mBin_ap, mVar10, mVar0, mK_ap, mTup_ap, mCons_ap, mNil_ap, Option.bind_some, hx1, hx2, asB_ap, if_true]
    rw [sSet_ap, mBin_ap, hfl]
    simp [ha]
  cases s with
  | bow a p => exact long ⟨_, rfl, in_bow⟩ ⟨_, rfl, fun _ => rfl⟩
  | wave a b p => exact long ⟨_, rfl, in_wave⟩ ⟨_, rfl, fun _ => rfl⟩
  | move p =>
    obtain ⟨x, hx1, hx2⟩ := in_bw_no (s := .move p) (by simp) (by simp)
    simp [k30lines, hx1, hx2, mk_one, ad [.move p] (by simp), flatOf]
  | line p =>
    obtain ⟨x, hx1, hx2⟩ := in_bw_no (s := .line p) (by simp) (by simp)
    simp [k30lines, hx1, hx2, mk_one, ad [.line p] (by simp), flatOf]
  | shut =>
    obtain ⟨x, hx1, hx2⟩ := in_bw_no (s := .shut) (by simp) (by simp)
    simp [k30lines, hx1, hx2, mk_one, ad [.shut] (by simp), flatOf]
end
theorem k30_loop {w : List Stk} {n : Nat} (hw : GW w) (hl : w.length ≤ 12) (h1 : 1 ≤ n) (hn : n ≤ 20) {x0 x2 x3 x4 : Option Slt} :
    ∃ y9 y10 y11 y12 y13, sFor (mIt pEnum (mCons (mVar 1) mNil)) (gT 2 (gs1 (gN 9) (gs1 (gN 10) gs0'))) (sSeq (sSet 11 (mVar 10)) (sSeq k30new (sSeq (sSet 7 (mBin pAdd (mVar 7) (mTup (mCons (mVar 11) mNil)))) k30lines))) [x0, fz (wy w), x2, x3, x4, fz (.list (pens w)), fz (.int (n : Nat)), fz (wy []), fz (wy []), none, none, none, none, none, none] = some (.nx [x0, fz (wy w), x2, x3, x4, fz (.list (pens w)), fz (.int (n : Nat)), fz (wy (raiseW w)), fz (wy (flatW w n)), y9, y10, y11, y12, y13, none]) := by
  obtain ⟨ρ', e, y9, y10, y11, y12, y13, rfl⟩ := for_inv (fi := mIt pEnum (mCons (mVar 1) mNil)) (g := gT 2 (gs1 (gN 9) (gs1 (gN 10) gs0'))) (body := (sSeq (sSet 11 (mVar 10)) (sSeq k30new (sSeq (sSet 7 (mBin pAdd (mVar 7) (mTup (mCons (mVar 11) mNil)))) k30lines)))) (ds := enumD (w.map sk))
    (ρ := [x0, fz (wy w), x2, x3, x4, fz (.list (pens w)), fz (.int (n : Nat)), fz (wy []), fz (wy []), none, none, none, none, none, none])
    (fun i ρ => ∃ y9 y10 y11 y12 y13, ρ = [x0, fz (wy w), x2, x3, x4, fz (.list (pens w)), fz (.int (n : Nat)), fz (wy (rsUp w i)), fz (wy (flUp w n i)), y9, y10, y11, y12, y13, none])
    (by simp [wy]) ⟨none, none, none, none, none, rfl⟩ (by
      rintro i d ρ hd ⟨y9, y10, y11, y12, y13, rfl⟩
      obtain ⟨d', hd', rfl⟩ := enum_get hd
      obtain ⟨s, hs, rfl, hi⟩ := sk_get hd'
      have hul := rsUp_len w i
      have hg : gT 2 (gs1 (gN 9) (gs1 (gN 10) gs0')) (.tuple [.int (i : Nat), sk s]) [x0, fz (wy w), x2, x3, x4, fz (.list (pens w)), fz (.int (n : Nat)), fz (wy (rsUp w i)), fz (wy (flUp w n i)), y9, y10, y11, y12, y13, none] = some [x0, fz (wy w), x2, x3, x4, fz (.list (pens w)), fz (.int (n : Nat)), fz (wy (rsUp w i)), fz (wy (flUp w n i)), fz (.int (i : Nat)), fz (sk s), y11, y12, y13, none] := by simp
      rw [hg, Option.bind_some]
      obtain ⟨z12, z13, e1⟩ := k30new_eq (n := n) (x0 := x0) (x2 := x2) (x3 := x3) (x4 := x4) (x7 := fz (wy (rsUp w i))) (x8 := fz (wy (flUp w n i))) (x12 := y12) (x13 := y13) hw hl hs
      have ad : pAdd (wy (rsUp w i)) (wy [raiseOf w i s]) = some (wy (rsUp w (i + 1))) := by
        rw [rsUp_succ hs]
        exact pAdd_wy (by simp; omega)
      refine ⟨_, .inl ?_, fz (.int (i : Nat)), fz (sk s), fz (sk (raiseOf w i s)), z12, z13, rfl⟩
      rw [seq_nx (ρ' := [x0, fz (wy w), x2, x3, x4, fz (.list (pens w)), fz (.int (n : Nat)), fz (wy (rsUp w i)), fz (wy (flUp w n i)), fz (.int (i : Nat)), fz (sk s), fz (sk s), y12, y13, none]) (by simp),
        seq_nx e1, seq_nx (ρ' := [x0, fz (wy w), x2, x3, x4, fz (.list (pens w)), fz (.int (n : Nat)), fz (wy (rsUp w (i + 1))), fz (wy (flUp w n i)), fz (.int (i : Nat)), fz (sk s), fz (sk (raiseOf w i s)), z12, z13, none]) (by simp [mk_one, ad])]
      exact k30lines_eq hw hl h1 hn hs)
  have hlen : (enumD (w.map sk)).length = w.length := by rw [enum_len, List.length_map]
  rw [hlen] at e
  exact ⟨y9, y10, y11, y12, y13, e⟩
end Dm

set_option Elab.async false
set_option linter.all false
set_option maxRecDepth 100000
set_option exponentiation.threshold 20000
namespace Dm
open PySem PySem.Spec L2 Dw
/-! ### parts, by the law -/
theorem m_law_parts_eq (w : List Stk) (hl : w.length ≤ 1000) : m__law_parts [wy w] = some (.list ((parts w).map wy)) := by
  refine run_rt ?_
  unfold b__law_parts
  rw [show startR N__law_parts [wy w] = [fz (wy w), none, none, none, none, none, none] from rfl]
  rw [seq_nx (ρ' := [fz (wy w), fz (.list (pens w)), none, none, none, none, none]) (by simp [m_law_pens_eq w hl]),
    seq_nx (ρ' := [fz (wy w), fz (.list (pens w)), ow [], none, none, none, none]) (by simp),
    seq_nx (ρ' := [fz (wy w), fz (.list (pens w)), ow [], fz (.bool true), none, none, none]) (by simp)]
  obtain ⟨ρ', e, rows, new, y4, y5, rfl, hr, found, so, hf, hso, hc⟩ := for_inv (fi := mIt pEnum (mCons (mVar 0) mNil)) (g := gT 2 (gs1 (gN 4) (gs1 (gN 5) gs0'))) (body := (sSeq (sIf (mTest (mBin pEq (mBin pIx (mVar 5) (mK (.int 0))) (mK (.str "move")))) (sApp 2 (mTup (mCons (mVar 5) mNil)))
      (sIf (mTest (mVar 3)) (sApp 2 (mTup (mCons (mTup (mCons (mK (.str "move")) (mCons (mBin pIx (mVar 1) (mVar 4)) mNil))) (mCons (mVar 5) mNil))))
      (sPut 2 (mUn pNeg (mK (.int 1))) (mBin pAdd (mIxO 2 (mUn pNeg (mK (.int 1)))) (mTup (mCons (mVar 5) mNil))))))
      (sSet 3 (mBin pEq (mBin pIx (mVar 5) (mK (.int 0))) (mK (.str "shut")))))) (ds := enumD (w.map sk))
    (ρ := [fz (wy w), fz (.list (pens w)), ow [], fz (.bool true), none, none, none])
    (fun i ρ => ∃ (rows : List (List Stk)) (new : Bool) (y4 y5 : Option Slt), ρ = [fz (wy w), fz (.list (pens w)), ow (rows.map wy), fz (.bool new), y4, y5, none] ∧ rows.length ≤ i ∧ ∃ (found : List (List Stk)) (so : List Stk), (found ++ prt (w.drop i) (begAt w i) so).filter big = parts w ∧ so.length ≤ 2 * i ∧
      ((new = true ∧ so = [] ∧ rows.filter big = found.filter big ∧ penAt w i = begAt w i) ∨ (new = false ∧ so ≠ [] ∧ ∃ R, rows = R ++ [so] ∧ R.filter big = found.filter big)))
    (by simp [wy]) ⟨[], true, none, none, rfl, by simp, [], [], rfl, by simp, .inl ⟨rfl, rfl, rfl, rfl⟩⟩ (by
      rintro i d ρ hd ⟨rows, new, y4, y5, rfl, hr, found, so, hf, hso, hc⟩
      obtain ⟨d', hd', rfl⟩ := enum_get hd
      obtain ⟨t, ht, rfl, hi⟩ := sk_get hd'
      rw [drop_at ht] at hf
      have hz : rows.length < sizeLine := line_lt (by omega)
      have hg : gT 2 (gs1 (gN 4) (gs1 (gN 5) gs0')) (.tuple [.int (i : Nat), sk t]) [fz (wy w), fz (.list (pens w)), ow (rows.map wy), fz (.bool new), y4, y5, none] = some [fz (wy w), fz (.list (pens w)), ow (rows.map wy), fz (.bool new), fz (.int (i : Nat)), fz (sk t), none] := by simp
      rw [hg, Option.bind_some]
      have hb := begAt_succ ht
      have hpen := pens_at (w := w) (i := i) (by omega)
      have two : ∀ a b : Stk, PyData.tuple [sk a, sk b] = wy [a, b] := fun _ _ => rfl
      have ln : ∀ t : Stk, (so ++ [t]).length ≤ 2 * (i + 1) := fun t => by simp; omega
      by_cases hmv : ∃ p, t = .move p
      · obtain ⟨p, rfl⟩ := hmv
        refine ⟨_, .inl ?_, rows ++ [[.move p]], false, fz (.int (i : Nat)), fz (sk (.move p)), rfl, by simp; omega, found ++ [so], [.move p], ?_, by simp; omega, .inr ⟨rfl, by simp, rows, rfl, ?_⟩⟩
        · simp [hz, mk_one]
        · rw [hb, ← hf]; simp [prt, begOf]
        · rcases hc with ⟨_, h1, h2, _⟩ | ⟨_, _, R, h1, h2⟩
          · rw [List.filter_append, filt_one so h1, h2, List.append_nil]
          · rw [h1, List.filter_append, List.filter_append, h2]
      · have hbe : begAt w (i + 1) = begAt w i := by
          rw [hb]
          cases t with
          | move p => exact absurd ⟨p, rfl⟩ hmv
          | _ => rfl
        have e1 : ∀ u v : MS, ∀ b : Bool, sIf (mTest (mBin pEq (mBin pIx (mVar 5) (mK (.int 0))) (mK (.str "move")))) u v [fz (wy w), fz (.list (pens w)), ow (rows.map wy), fz (.bool b), fz (.int (i : Nat)), fz (sk t), none] = v [fz (wy w), fz (.list (pens w)), ow (rows.map wy), fz (.bool b), fz (.int (i : Nat)), fz (sk t), none] := by
          intro u v b
          cases t with
          | move p => exact absurd ⟨p, rfl⟩ hmv
          | _ => simp
        have last : ∀ (rs : List (List Stk)) (b : Bool), sSet 3 (mBin pEq (mBin pIx (mVar 5) (mK (.int 0))) (mK (.str "shut"))) [fz (wy w), fz (.list (pens w)), ow (rs.map wy), fz (.bool b), fz (.int (i : Nat)), fz (sk t), none] = some (.nx [fz (wy w), fz (.list (pens w)), ow (rs.map wy), fz (.bool (match t with | .shut => true | _ => false)), fz (.int (i : Nat)), fz (sk t), none]) := by
          intro rs b
          cases t <;> simp
        rcases hc with ⟨rfl, rfl, h2, h3⟩ | ⟨rfl, h1, R, rfl, h2⟩
        · have step : (sIf (mTest (mVar 3)) (sApp 2 (mTup (mCons (mTup (mCons (mK (.str "move")) (mCons (mBin pIx (mVar 1) (mVar 4)) mNil))) (mCons (mVar 5) mNil))))
              (sPut 2 (mUn pNeg (mK (.int 1))) (mBin pAdd (mIxO 2 (mUn pNeg (mK (.int 1)))) (mTup (mCons (mVar 5) mNil))))) [fz (wy w), fz (.list (pens w)), ow (rows.map wy), fz (.bool true), fz (.int (i : Nat)), fz (sk t), none] = some (.nx [fz (wy w), fz (.list (pens w)), ow ((rows ++ [[.move (begAt w i), t]]).map wy), fz (.bool true), fz (.int (i : Nat)), fz (sk t), none]) := by
            simp [hpen, h3, mk_move, two, hz]
          refine ⟨_, .inl ((seq_nx ((e1 _ _ _).trans step)).trans (last _ _)), rows ++ [[.move (begAt w i), t]], _, _, _, rfl, by simp; omega, ?_⟩
          cases t with
          | move p => exact absurd ⟨p, rfl⟩ hmv
          | shut =>
            refine ⟨found ++ [[.move (begAt w i), .shut]], [], ?_, by simp, .inl ⟨rfl, rfl, ?_, ?_⟩⟩
            · rw [hbe, ← hf]; simp [prt]
            · rw [List.filter_append, List.filter_append, h2]
            · rw [penAt_succ ht]; rfl
          | line p =>
            refine ⟨found, [.move (begAt w i), .line p], ?_, by simp; omega, .inr ⟨rfl, by simp, rows, rfl, h2⟩⟩
            rw [hbe, ← hf]; simp [prt]
          | bow a p =>
            refine ⟨found, [.move (begAt w i), .bow a p], ?_, by simp; omega, .inr ⟨rfl, by simp, rows, rfl, h2⟩⟩
            rw [hbe, ← hf]; simp [prt]
          | wave a b p =>
            refine ⟨found, [.move (begAt w i), .wave a b p], ?_, by simp; omega, .inr ⟨rfl, by simp, rows, rfl, h2⟩⟩
            rw [hbe, ← hf]; simp [prt]
        · have hlast : atI ((R ++ [so]).map wy) (-1) = some (wy so) := by
            rw [List.map_append]
            exact atI_last _ _
          have hix : ixN ((R ++ [so]).map wy).length (-1) = some R.length := by
            unfold ixN
            rw [if_neg (by decide), if_pos (by simp; omega)]
            congr 1
            simp
            omega
          have hset : ((R ++ [so]).map wy).set R.length (wy (so ++ [t])) = (R ++ [so ++ [t]]).map wy := by
            rw [List.map_append, List.map_append, List.set_append_right _ _ (by simp)]
            simp
          have had : pAdd (wy so) (wy [t]) = some (wy (so ++ [t])) := pAdd_wy (by simp; omega)
          have step : (sIf (mTest (mVar 3)) (sApp 2 (mTup (mCons (mTup (mCons (mK (.str "move")) (mCons (mBin pIx (mVar 1) (mVar 4)) mNil))) (mCons (mVar 5) mNil))))
              (sPut 2 (mUn pNeg (mK (.int 1))) (mBin pAdd (mIxO 2 (mUn pNeg (mK (.int 1)))) (mTup (mCons (mVar 5) mNil))))) [fz (wy w), fz (.list (pens w)), ow ((R ++ [so]).map wy), fz (.bool false), fz (.int (i : Nat)), fz (sk t), none] = some (.nx [fz (wy w), fz (.list (pens w)), ow ((R ++ [so ++ [t]]).map wy), fz (.bool false), fz (.int (i : Nat)), fz (sk t), none]) := by
            rw [← hset]
            have g2 : getO 2 [fz (wy w), fz (.list (pens w)), ow ((R ++ [so]).map wy), fz (.bool false), fz (.int (i : Nat)), fz (sk t), none] = some ((R ++ [so]).map wy) := rfl
            simp only [sIf_ap, mTest_ap, mVar1, mVar2, mVar3, mVar4, mVar5, mVar0, Option.bind_some, asB_ap, Bool.false_eq_true, if_false, sPut_ap, mBin_ap, mIxO_ap, g2, mUn_ap, mK_ap, pNeg_ap, asI_ap, hlast, mTup_ap, mCons_ap, mNil_ap, mk_one, had, hix, List.set_cons_succ, List.set_cons_zero]
          refine ⟨_, .inl ((seq_nx ((e1 _ _ _).trans step)).trans (last _ _)), R ++ [so ++ [t]], _, _, _, rfl, by simp at hr ⊢; omega, ?_⟩
          have hopn : (if so.isEmpty then [Stk.move (begAt w i)] else so) = so := by
            cases so with
            | nil => exact absurd rfl h1
            | cons a r => rfl
          cases t with
          | move p => exact absurd ⟨p, rfl⟩ hmv
          | shut =>
            refine ⟨found ++ [so ++ [.shut]], [], ?_, by simp, .inl ⟨rfl, rfl, ?_, ?_⟩⟩
            · rw [hbe, ← hf]; simp only [prt, hopn]; simp
            · rw [List.filter_append, List.filter_append, h2]
            · rw [penAt_succ ht]; rfl
          | line p =>
            refine ⟨found, so ++ [.line p], ?_, ln _, .inr ⟨rfl, by simp, R, rfl, h2⟩⟩
            rw [hbe, ← hf]; simp only [prt, hopn]
          | bow a p =>
            refine ⟨found, so ++ [.bow a p], ?_, ln _, .inr ⟨rfl, by simp, R, rfl, h2⟩⟩
            rw [hbe, ← hf]; simp only [prt, hopn]
          | wave a b p =>
            refine ⟨found, so ++ [.wave a b p], ?_, ln _, .inr ⟨rfl, by simp, R, rfl, h2⟩⟩
            rw [hbe, ← hf]; simp only [prt, hopn])
  have hlen : (enumD (w.map sk)).length = w.length := by rw [enum_len, List.length_map]
  rw [hlen] at hf hr hc
  rw [List.drop_length] at hf
  rw [seq_nx e]
  have hrows : rows.filter big = parts w := by
    rw [← hf]
    rcases hc with ⟨_, h1, h2, _⟩ | ⟨_, _, R, h1, h2⟩
    · rw [List.filter_append, show prt [] (begAt w w.length) so = [so] from rfl, filt_one so h1, h2, List.append_nil]
    · rw [h1, List.filter_append, List.filter_append, h2]; rfl
  have hz2 : rows.length ≤ sizeLine := line_ok (by omega)
  have hlc := lcL_big (j := 6) (ρ := [fz (wy w), fz (.list (pens w)), fz (.list (rows.map wy)), fz (.bool new), frzS y4, frzS y5, none]) (by simp) rows
  have hm : mLc (mItems (mVar 2)) (gN 6) (mTest (mBin pGt (mCall pLen (mCons (mVar 6) mNil)) (mK (.int 1)))) (mVar 6) [6] [fz (wy w), fz (.list (pens w)), fz (.list (rows.map wy)), fz (.bool new), frzS y4, frzS y5, none] = some ((parts w).map wy) := by
    unfold mLc
    rw [← hrows, ← hlc]
    simp [hz2, wipeR]
  rw [ret_ap]
  simp only [List.map_cons, frzS_frz, frzS_own, List.map_nil, frzS_none, mLst_ap, hm, Option.bind_some]
end Dm

set_option Elab.async false
set_option linter.all false
set_option maxRecDepth 100000
set_option exponentiation.threshold 20000
namespace Dm
open PySem PySem.Spec L2 Dw
/-! ### the shape of a part -/
def plainS : Stk → Prop
  | .line _ => True
  | .bow _ _ => True
  | .wave _ _ _ => True
  | _ => False
/-- a part: a move, plain strokes, perhaps a shut -/
def Shape (x : List Stk) : Prop := x = [] ∨ ∃ p r, (∀ s ∈ r, plainS s) ∧ (x = .move p :: r ∨ x = .move p :: (r ++ [.shut]))
def Open (so : List Stk) : Prop := so = [] ∨ ∃ p r, (∀ s ∈ r, plainS s) ∧ so = .move p :: r
theorem Open.shape {so : List Stk} (h : Open so) : Shape so := by
  rcases h with h | ⟨p, r, h1, h2⟩
  · exact .inl h
  · exact .inr ⟨p, r, h1, .inl h2⟩
theorem Open.opn {so : List Stk} (h : Open so) (b : Pt) : ∃ p r, (∀ s ∈ r, plainS s) ∧ (if so.isEmpty then [Stk.move b] else so) = .move p :: r := by
  rcases h with h | ⟨p, r, h1, h2⟩
  · subst h
    exact ⟨b, [], by simp, rfl⟩
  · subst h2
    exact ⟨p, r, h1, rfl⟩
theorem prt_shape : ∀ (w : List Stk) (b : Pt) (so : List Stk), Open so → ∀ x ∈ prt w b so, Shape x
  | [], b, so, h, x, hx => by
    simp only [prt, List.mem_singleton] at hx
    subst hx
    exact h.shape
  | .move p :: w, b, so, h, x, hx => by
    simp only [prt, List.mem_cons] at hx
    rcases hx with rfl | hx
    · exact h.shape
    · exact prt_shape w p [.move p] (.inr ⟨p, [], by simp, rfl⟩) x hx
  | .shut :: w, b, so, h, x, hx => by
    simp only [prt, List.mem_cons] at hx
    rcases hx with rfl | hx
    · obtain ⟨p, r, h1, h2⟩ := h.opn b
      rw [h2]
      exact .inr ⟨p, r, h1, .inr rfl⟩
    · exact prt_shape w b [] (.inl rfl) x hx
  | .line q :: w, b, so, h, x, hx => by
    simp only [prt] at hx
    obtain ⟨p, r, h1, h2⟩ := h.opn b
    rw [h2, List.cons_append] at hx
    refine prt_shape w b _ (.inr ⟨p, r ++ [.line q], ?_, rfl⟩) x hx
    intro s hs
    rcases List.mem_append.mp hs with hs | hs
    · exact h1 s hs
    · rw [List.mem_singleton.mp hs]; trivial
  | .bow a q :: w, b, so, h, x, hx => by
    simp only [prt] at hx
    obtain ⟨p, r, h1, h2⟩ := h.opn b
    rw [h2, List.cons_append] at hx
    refine prt_shape w b _ (.inr ⟨p, r ++ [.bow a q], ?_, rfl⟩) x hx
    intro s hs
    rcases List.mem_append.mp hs with hs | hs
    · exact h1 s hs
    · rw [List.mem_singleton.mp hs]; trivial
  | .wave a c q :: w, b, so, h, x, hx => by
    simp only [prt] at hx
    obtain ⟨p, r, h1, h2⟩ := h.opn b
    rw [h2, List.cons_append] at hx
    refine prt_shape w b _ (.inr ⟨p, r ++ [.wave a c q], ?_, rfl⟩) x hx
    intro s hs
    rcases List.mem_append.mp hs with hs | hs
    · exact h1 s hs
    · rw [List.mem_singleton.mp hs]; trivial
/-- a part of a way: open with at least one stroke, or shut -/
theorem parts_shape {w x : List Stk} (hx : x ∈ parts w) : ∃ p r, (∀ s ∈ r, plainS s) ∧ ((r ≠ [] ∧ x = .move p :: r) ∨ x = .move p :: (r ++ [.shut])) := by
  obtain ⟨h1, h2⟩ := List.mem_filter.mp hx
  rcases prt_shape w (0, 0) [] (.inl rfl) x h1 with h | ⟨p, r, g1, g2 | g2⟩
  · subst h; simp [big] at h2
  · refine ⟨p, r, g1, .inl ⟨fun e => ?_, g2⟩⟩
    subst e g2
    simp [big] at h2
  · exact ⟨p, r, g1, .inr g2⟩
/-! ### strokes drawn backwards -/
def bk (s : Stk) (pen : Pt) : Stk := match s with
  | .line _ => .line pen
  | .bow a _ => .bow a pen
  | .wave a b _ => .wave b a pen
  | s => s
theorem bk_eq {s : Stk} (hs : plainS s) (pen : Pt) : ((pSl (sk s) none (some 1)).bind fun x => (pSl (sk s) (some 1) (some (-1))).bind fun y => (pRev y).bind fun y => (pAdd x y).bind fun z => pAdd z (.tuple [pt pen])) = some (sk (bk s pen)) := by
  have a1 : ∀ a : PyData, pAdd (.tuple [a]) (.tuple []) = some (.tuple [a]) := fun a => pAdd_t (line_ok (by simp))
  have a2 : ∀ a b : PyData, pAdd (.tuple [a]) (.tuple [b]) = some (.tuple [a, b]) := fun a b => pAdd_t (line_ok (by simp))
  have a3 : ∀ a b c : PyData, pAdd (.tuple [a]) (.tuple [b, c]) = some (.tuple [a, b, c]) := fun a b c => pAdd_t (line_ok (by simp))
  have a4 : ∀ a b c : PyData, pAdd (.tuple [a, b]) (.tuple [c]) = some (.tuple [a, b, c]) := fun a b c => pAdd_t (line_ok (by simp))
  have a5 : ∀ a b c d : PyData, pAdd (.tuple [a, b, c]) (.tuple [d]) = some (.tuple [a, b, c, d]) := fun a b c d => pAdd_t (line_ok (by simp))
  cases s with
  | move p => exact absurd hs (by simp [plainS])
  | shut => exact absurd hs (by simp [plainS])
  | line p =>
    rw [show pSl (sk (.line p)) none (some 1) = some (.tuple [.str "line"]) from rfl, show pSl (sk (.line p)) (some 1) (some (-1)) = some (.tuple []) from rfl]
    simp [a1, a2, sk, bk]
  | bow a p =>
    rw [show pSl (sk (.bow a p)) none (some 1) = some (.tuple [.str "bow"]) from rfl, show pSl (sk (.bow a p)) (some 1) (some (-1)) = some (.tuple [pt a]) from rfl]
    simp [a2, a4, sk, bk]
  | wave a b p =>
    rw [show pSl (sk (.wave a b p)) none (some 1) = some (.tuple [.str "wave"]) from rfl, show pSl (sk (.wave a b p)) (some 1) (some (-1)) = some (.tuple [pt a, pt b]) from rfl]
    simp [a3, a5, sk, bk]
end Dm

set_option Elab.async false
set_option linter.all false
set_option maxRecDepth 100000
set_option exponentiation.threshold 20000
namespace Dm
open PySem PySem.Spec L2 Dw
/-! ### parts drawn backwards -/
def at_ (x : List Stk) (k : Nat) : Stk := x.getD k .shut
def bkL (x : List Stk) (ks : List Nat) : List Stk := ks.map fun k => bk (at_ x k) (penAt x k)
theorem loopP {x : List Stk} {x0 x1 x2 x3 x4 : Option Slt} : ∀ (ks : List Nat) (f : List Stk) (y6 y7 : Option Slt), (∀ k ∈ ks, plainS (at_ x k)) → f.length + ks.length ≤ 1000 →
    ∃ z6 z7, forL (gT 2 (gs1 (gN 6) (gs1 (gN 7) gs0'))) (sSet 5 (mBin pAdd (mVar 5) (mTup (mCons (mBin pAdd (mBin pAdd (mSl (mVar 6) oNo (oAt (mK (.int 1)))) (mUn pRev (mSl (mVar 6) (oAt (mK (.int 1))) (oAt (mUn pNeg (mK (.int 1))))))) (mTup (mCons (mVar 7) mNil))) mNil)))) (ks.map fun k => .tuple [sk (at_ x k), pt (penAt x k)]) [x0, x1, x2, x3, x4, fz (wy f), y6, y7] = some (.nx [x0, x1, x2, x3, x4, fz (wy (f ++ bkL x ks)), z6, z7])
  | [], f, y6, y7, _, _ => ⟨y6, y7, by simp [forL, bkL]⟩
  | k :: ks, f, y6, y7, h, hl => by
    have hk := bk_eq (h k (by simp)) (penAt x k)
    have hl' : f.length + (ks.length + 1) ≤ 1000 := hl
    obtain ⟨z6, z7, e⟩ := loopP (x := x) (x0 := x0) (x1 := x1) (x2 := x2) (x3 := x3) (x4 := x4) ks (f ++ [bk (at_ x k) (penAt x k)]) (fz (sk (at_ x k))) (fz (pt (penAt x k))) (fun j hj => h j (by simp [hj])) (by simp; omega)
    refine ⟨z6, z7, ?_⟩
    have ad : pAdd (wy f) (wy [bk (at_ x k) (penAt x k)]) = some (wy (f ++ [bk (at_ x k) (penAt x k)])) := pAdd_wy (by simp; omega)
    obtain ⟨a, ha, hk⟩ := Option.bind_eq_some_iff.mp hk
    obtain ⟨b, hb, hk⟩ := Option.bind_eq_some_iff.mp hk
    obtain ⟨b', hb', hk⟩ := Option.bind_eq_some_iff.mp hk
    obtain ⟨c, hc, hk⟩ := Option.bind_eq_some_iff.mp hk
    rw [List.map_cons]
    unfold forL
    rw [show f ++ bkL x (k :: ks) = f ++ [bk (at_ x k) (penAt x k)] ++ bkL x ks by simp [bkL], ← e]
    simp [ha, hb, hb', hc, hk, mk_one, ad]
theorem loopQ {x : List Stk} {x6 : Option Slt} : ∀ (ks : List Nat) (f : List Stk) (y4 y5 x2 : Option Slt), (∀ k ∈ ks, plainS (at_ x k) ∧ k < x.length) → f.length + ks.length ≤ 1000 →
    ∃ z4 z5, forL (gN 4) (sSeq (sSet 5 (mBin pIx (mVar 0) (mVar 4)))
      (sSet 3 (mBin pAdd (mVar 3) (mTup (mCons (mBin pAdd (mBin pAdd (mSl (mVar 5) oNo (oAt (mK (.int 1)))) (mUn pRev (mSl (mVar 5) (oAt (mK (.int 1))) (oAt (mUn pNeg (mK (.int 1))))))) (mTup (mCons (mBin pIx (mVar 1) (mVar 4)) mNil))) mNil))))) (ks.map fun k => .int (k : Nat)) [fz (wy x), fz (.list (pens x)), x2, fz (wy f), y4, y5] = some (.nx [fz (wy x), fz (.list (pens x)), x2, fz (wy (f ++ bkL x ks)), z4, z5])
  | [], f, y4, y5, x2, _, _ => ⟨y4, y5, by simp [forL, bkL]⟩
  | k :: ks, f, y4, y5, x2, h, hl => by
    obtain ⟨hpl, hkl⟩ := h k (by simp)
    have hk := bk_eq hpl (penAt x k)
    have hl' : f.length + (ks.length + 1) ≤ 1000 := hl
    obtain ⟨z4, z5, e⟩ := loopQ (x := x) (x6 := x6) ks (f ++ [bk (at_ x k) (penAt x k)]) (fz (.int (k : Nat))) (fz (sk (at_ x k))) x2 (fun j hj => h j (by simp [hj])) (by simp; omega)
    refine ⟨z4, z5, ?_⟩
    have hat : x[k]? = some (at_ x k) := by
      unfold at_
      rw [List.getD, List.getElem?_eq_getElem hkl]
      rfl
    have g1 := wy_at hat
    have g2 := pens_at (w := x) (i := k) (by omega)
    have ad : pAdd (wy f) (wy [bk (at_ x k) (penAt x k)]) = some (wy (f ++ [bk (at_ x k) (penAt x k)])) := pAdd_wy (by simp; omega)
    obtain ⟨a, ha, hk⟩ := Option.bind_eq_some_iff.mp hk
    obtain ⟨b, hb, hk⟩ := Option.bind_eq_some_iff.mp hk
    obtain ⟨b', hb', hk⟩ := Option.bind_eq_some_iff.mp hk
    obtain ⟨c, hc, hk⟩ := Option.bind_eq_some_iff.mp hk
    rw [List.map_cons]
    unfold forL
    rw [show f ++ bkL x (k :: ks) = f ++ [bk (at_ x k) (penAt x k)] ++ bkL x ks by simp [bkL], ← e]
    simp [g1, g2, ha, hb, hb', hc, hk, mk_one, ad]
end Dm

set_option Elab.async false
set_option linter.all false
set_option maxRecDepth 100000
set_option exponentiation.threshold 20000
namespace Dm
open PySem PySem.Spec L2 Dw
def ksOf (m : Nat) : List Nat := ((List.range m).map (· + 1)).reverse
def pairsTo (x : List Stk) (m : Nat) : List PyData := (List.range m).map fun i => .tuple [sk (at_ x (i + 1)), pt (penAt x (i + 1))]
theorem pairs_rev (x : List Stk) (m : Nat) : (pairsTo x m).reverse = (ksOf m).map fun k => .tuple [sk (at_ x k), pt (penAt x k)] := by
  unfold pairsTo ksOf
  rw [List.map_reverse, List.map_map]
  rfl
theorem zip_drop (x : List Stk) : (zipD (x.map sk) (pens x)).drop 1 = pairsTo x (x.length - 1) := by
  apply List.ext_getElem?
  intro i
  rw [List.getElem?_drop]
  unfold zipD pens pairsTo
  rw [List.getElem?_zipWith, List.getElem?_map, List.getElem?_map, List.getElem?_map]
  by_cases h : 1 + i < x.length
  · rw [List.getElem?_eq_getElem h, List.getElem?_range (by omega), List.getElem?_range (by omega)]
    have : at_ x (i + 1) = x[1 + i] := by
      unfold at_
      rw [List.getD, show i + 1 = 1 + i by omega, List.getElem?_eq_getElem h]
      rfl
    simp [this, Nat.add_comm]
  · rw [List.getElem?_eq_none (by omega), List.getElem?_eq_none (l := List.range (x.length - 1)) (by simp; omega)]
    simp
theorem rng_rev (n : Nat) : (rng 1 n).reverse = (ksOf n).map fun k => .int (k : Nat) := by
  unfold rng ksOf
  rw [List.map_reverse, List.map_map]
  congr 1
  apply List.map_congr_left
  intro k _
  simp [Int.add_comm]
theorem plain_beg : ∀ (r : List Stk) (p : Pt), (∀ s ∈ r, plainS s) → r.foldl begOf p = p
  | [], _, _ => rfl
  | s :: r, p, h => by
    have hs := h s (by simp)
    have e : begOf p s = p := by
      cases s with
      | move q => exact absurd hs (by simp [plainS])
      | _ => rfl
    rw [List.foldl_cons, e]
    exact plain_beg r p fun t ht => h t (by simp [ht])
end Dm

set_option Elab.async false
set_option linter.all false
set_option maxRecDepth 100000
set_option exponentiation.threshold 20000
namespace Dm
open PySem PySem.Spec L2 Dw
theorem pens_lastT (x : List Stk) : pIx (.tuple (pens x)) (.int (-1)) = some (pt (penAt x x.length)) := pens_last x
theorem pens_lastL (x : List Stk) : pIx (.list (pens x)) (.int (-1)) = some (pt (penAt x x.length)) := pens_last x
theorem pens_last2 (x : List Stk) (h : 1 ≤ x.length) : pIx (.tuple (pens x)) (.int (-2)) = some (pt (penAt x (x.length - 1))) := by
  show atI (pens x) (-2) = _
  unfold atI ixN pens
  rw [if_neg (by decide), if_pos (by simp; omega)]
  simp only [Option.bind_some, List.length_map, List.length_range]
  rw [List.getElem?_map, show ((-2 : Int) + ((x.length + 1 : Nat) : Int)).toNat = x.length - 1 by omega, List.getElem?_range (by omega)]
  rfl
theorem wy_last (x : List Stk) (l : Stk) : pIx (wy (x ++ [l])) (.int (-1)) = some (sk l) := by
  show atI ((x ++ [l]).map sk) (-1) = _
  rw [List.map_append]
  exact atI_last _ _
/-- an open part -/
theorem back_open {x : List Stk} {p : Pt} {r : List Stk} (hr : ∀ s ∈ r, plainS s) (hn : r ≠ []) (hx : x = .move p :: r) (hl : x.length ≤ 400) :
    m_backward_part [wy x] = some (wy ([.move (penAt x x.length)] ++ bkL x (ksOf (x.length - 1)))) := by
  have hlen : x.length = r.length + 1 := by rw [hx]; rfl
  obtain ⟨r', l, hrl⟩ : ∃ r' l, r = r' ++ [l] := ⟨r.dropLast, r.getLast hn, (List.dropLast_concat_getLast hn).symm⟩
  have hlp : plainS l := hr l (by rw [hrl]; simp)
  have hlast : pIx (wy x) (.int (-1)) = some (sk l) := by
    have := wy_last (.move p :: r') l
    rw [hx, hrl]
    exact this
  have hks : ∀ k ∈ ksOf (x.length - 1), plainS (at_ x k) := by
    intro k hk
    unfold ksOf at hk
    rw [List.mem_reverse, List.mem_map] at hk
    obtain ⟨j, hj, rfl⟩ := hk
    rw [List.mem_range] at hj
    have hjr : j < r.length := by omega
    have : at_ x (j + 1) = r[j] := by
      have hd : ∀ y : List Stk, y = .move p :: r → y.getD (j + 1) .shut = r[j] := fun y hy => by
        subst hy
        rw [List.getD, List.getElem?_cons_succ, List.getElem?_eq_getElem hjr]
        rfl
      exact hd x hx
    rw [this]
    exact hr _ (List.getElem_mem _)
  refine run_rt ?_
  unfold b_backward_part
  rw [show startR N_backward_part [wy x] = [fz (wy x), none, none, none, none, none, none, none] from rfl]
  have hcl : ∃ s0, pIx (sk l) (.int 0) = some (.str s0) ∧ (s0 == Str.ofString "shut") = false := by
    cases l with
    | move q => exact absurd hlp (by simp [plainS])
    | shut => exact absurd hlp (by simp [plainS])
    | line q => exact ⟨_, rfl, by simp⟩
    | bow a q => exact ⟨_, rfl, by simp⟩
    | wave a b q => exact ⟨_, rfl, by simp⟩
  obtain ⟨s0, hs0, hs1⟩ := hcl
  have hz : (zipD (x.map sk) (pens x)).length ≤ sizeLine := line_ok (by simp [zipD, pens]; omega)
  have hml : mSl (mLst (mLi (mIt pZip (mCons (mVar 0) (mCons (mVar 1) mNil))))) (oAt (mK (.int 1))) oNo [fz (wy x), fz (.tuple (pens x)), fz (.bool false), none, none, none, none, none] = some (.list (pairsTo x (x.length - 1))) := by
    have : mLi (mIt pZip (mCons (mVar 0) (mCons (mVar 1) mNil))) [fz (wy x), fz (.tuple (pens x)), fz (.bool false), none, none, none, none, none] = some (zipD (x.map sk) (pens x)) := by
      unfold mLi
      simp only [mIt_ap, mCons_ap, mVar0, mVar1, mNil_ap, Option.bind_some, pZip_ap, wy, items_t]
      rw [if_pos hz]
    simp only [mSl_ap, mLst_ap, this, oAt_ap, oNo_ap, mK_ap, asI_ap, Option.bind_some, pSl_l, cut_tail, zip_drop]
  obtain ⟨z6, z7, hf⟩ := loopP (x := x) (x0 := fz (wy x)) (x1 := fz (.tuple (pens x))) (x2 := fz (.bool false)) (x3 := fz (.list (pairsTo x (x.length - 1)))) (x4 := fz (pt (penAt x x.length))) (ksOf (x.length - 1)) [.move (penAt x x.length)] none none hks (by simp [ksOf]; omega)
  rw [seq_nx (ρ' := [fz (wy x), fz (.tuple (pens x)), none, none, none, none, none, none]) (by simp [m_pens_eq x (by omega)]),
    seq_nx (ρ' := [fz (wy x), fz (.tuple (pens x)), fz (.bool false), none, none, none, none, none]) (by simp only [sSet_ap, mBin_ap, mVar0, mUn_ap, mK_ap, pNeg_ap, Option.bind_some, hlast, hs0, c_SHUT, pEq_s, hs1, List.set_cons_succ, List.set_cons_zero]),
    seq_nx (ρ' := [fz (wy x), fz (.tuple (pens x)), fz (.bool false), fz (.list (pairsTo x (x.length - 1))), none, none, none, none]) (by rw [sSet_ap, hml]; rfl),
    seq_nx (ρ' := [fz (wy x), fz (.tuple (pens x)), fz (.bool false), fz (.list (pairsTo x (x.length - 1))), fz (pt (penAt x x.length)), none, none, none]) (by simp only [sSet_ap, mBin_ap, mVar1, mVar0, mUn_ap, mK_ap, pNeg_ap, Option.bind_some, pens_lastT, List.set_cons_succ, List.set_cons_zero]),
    seq_nx (ρ' := [fz (wy x), fz (.tuple (pens x)), fz (.bool false), fz (.list (pairsTo x (x.length - 1))), fz (pt (penAt x x.length)), fz (wy [.move (penAt x x.length)]), none, none]) (by simp [c_MOVE, mk_move, mk_one]),
    seq_nx (ρ' := [fz (wy x), fz (.tuple (pens x)), fz (.bool false), fz (.list (pairsTo x (x.length - 1))), fz (pt (penAt x x.length)), fz (wy [.move (penAt x x.length)]), none, none]) (by simp),
    seq_nx (ρ' := [fz (wy x), fz (.tuple (pens x)), fz (.bool false), fz (.list (pairsTo x (x.length - 1))), fz (pt (penAt x x.length)), fz (wy ([.move (penAt x x.length)] ++ bkL x (ksOf (x.length - 1)))), z6, z7]) (by
      rw [sFor_ap]
      simp only [mItems_ap, mUn_ap, mVar3, mVar0, Option.bind_some, pRev_l, items_l, pairs_rev]
      exact hf),
    seq_nx (ρ' := [fz (wy x), fz (.tuple (pens x)), fz (.bool false), fz (.list (pairsTo x (x.length - 1))), fz (pt (penAt x x.length)), fz (wy ([.move (penAt x x.length)] ++ bkL x (ksOf (x.length - 1)))), z6, z7]) (by simp)]
  simp
end Dm

set_option Elab.async false
set_option linter.all false
set_option maxRecDepth 100000
set_option exponentiation.threshold 20000
namespace Dm
open PySem PySem.Spec L2 Dw
theorem at_rest {x : List Stk} {p : Pt} {r t : List Stk} (hr : ∀ s ∈ r, plainS s) (hx : x = .move p :: (r ++ t)) : ∀ k ∈ ksOf r.length, plainS (at_ x k) ∧ k < x.length := by
  intro k hk
  unfold ksOf at hk
  rw [List.mem_reverse, List.mem_map] at hk
  obtain ⟨j, hj, rfl⟩ := hk
  rw [List.mem_range] at hj
  have : at_ x (j + 1) = r[j] := by
    have hd : ∀ y : List Stk, y = .move p :: (r ++ t) → y.getD (j + 1) .shut = r[j] := fun y hy => by
      subst hy
      rw [List.getD, List.getElem?_cons_succ, List.getElem?_append_left hj, List.getElem?_eq_getElem hj]
      rfl
    exact hd x hx
  refine ⟨?_, by rw [hx]; simp; omega⟩
  rw [this]
  exact hr _ (List.getElem_mem _)
/-- the law, an open part -/
theorem lback_open {x : List Stk} {p : Pt} {r : List Stk} (hr : ∀ s ∈ r, plainS s) (hn : r ≠ []) (hx : x = .move p :: r) (hl : x.length ≤ 400) :
    m__law_backward [wy x] = some (wy ([.move (penAt x x.length)] ++ bkL x (ksOf (x.length - 1)))) := by
  have hlen : x.length = r.length + 1 := by rw [hx]; rfl
  obtain ⟨r', l, hrl⟩ : ∃ r' l, r = r' ++ [l] := ⟨r.dropLast, r.getLast hn, (List.dropLast_concat_getLast hn).symm⟩
  have hlp : plainS l := hr l (by rw [hrl]; simp)
  have hlast : pIx (wy x) (.int (-1)) = some (sk l) := by
    have := wy_last (.move p :: r') l
    rw [hx, hrl]
    exact this
  have hks := at_rest (t := []) (x := x) (p := p) hr (by simpa using hx)
  have hkl : x.length - 1 = r.length := by omega
  rw [← hkl] at hks
  have hcl : ∃ s0, pIx (sk l) (.int 0) = some (.str s0) ∧ (s0 == Str.ofString "shut") = false := by
    cases l with
    | move q => exact absurd hlp (by simp [plainS])
    | shut => exact absurd hlp (by simp [plainS])
    | line q => exact ⟨_, rfl, by simp⟩
    | bow a q => exact ⟨_, rfl, by simp⟩
    | wave a b q => exact ⟨_, rfl, by simp⟩
  obtain ⟨s0, hs0, hs1⟩ := hcl
  refine run_rt ?_
  unfold b__law_backward
  rw [show startR N__law_backward [wy x] = [fz (wy x), none, none, none, none, none] from rfl]
  have hz : (rng 1 (x.length - 1)).length ≤ sizeLine := line_ok (by rw [rng_len]; omega)
  have hr2 : pRng2 [.int 1, .int (x.length : Int)] = some (rng 1 (x.length - 1)) := by
    have := pRng2_i (m := 1) (n := (x.length : Int)) (by simp [rOk]; omega)
    rw [this]
    congr 2
    omega
  have hml : mUn pRev (mLst (mLi (mIt pRng2 (mCons (mK (.int 1)) (mCons (mCall pLen (mCons (mVar 0) mNil)) mNil))))) [fz (wy x), fz (.list (pens x)), none, none, none, none] = some (.list ((ksOf (x.length - 1)).map fun k => .int (k : Nat))) := by
    have : mLi (mIt pRng2 (mCons (mK (.int 1)) (mCons (mCall pLen (mCons (mVar 0) mNil)) mNil))) [fz (wy x), fz (.list (pens x)), none, none, none, none] = some (rng 1 (x.length - 1)) := by
      unfold mLi
      simp only [mIt_ap, mCons_ap, mVar0, mK_ap, mCall_ap, mNil_ap, Option.bind_some, pLen_wy, hr2]
      rw [if_pos hz]
    simp only [mUn_ap, mLst_ap, this, Option.bind_some, pRev_l, rng_rev]
  obtain ⟨z4, z5, hf⟩ := loopQ (x := x) (x6 := none) (ksOf (x.length - 1)) [.move (penAt x x.length)] none none (fz (.list ((ksOf (x.length - 1)).map fun k => .int (k : Nat)))) hks (by simp [ksOf]; omega)
  have cond : ∀ (u v : MS) (a b c d e : Option Slt), sIf (mTest (mBin pEq (mBin pIx (mBin pIx (mVar 0) (mUn pNeg (mK (.int 1)))) (mK (.int 0))) (mK (.str "shut")))) u v [fz (wy x), a, b, c, d, e] = v [fz (wy x), a, b, c, d, e] := by
    intro u v a b c d e
    simp only [sIf_ap, mTest_ap, mBin_ap, mVar0, mUn_ap, mK_ap, pNeg_ap, Option.bind_some, hlast, hs0, pEq_s, hs1, asB_ap, Bool.false_eq_true, if_false]
  rw [seq_nx (ρ' := [fz (wy x), fz (.list (pens x)), none, none, none, none]) (by simp [m_law_pens_eq x (by omega)]),
    seq_nx (ρ' := [fz (wy x), fz (.list (pens x)), fz (.list ((ksOf (x.length - 1)).map fun k => .int (k : Nat))), none, none, none]) (by rw [sSet_ap, hml]; rfl),
    seq_nx (ρ' := [fz (wy x), fz (.list (pens x)), fz (.list ((ksOf (x.length - 1)).map fun k => .int (k : Nat))), fz (wy [.move (penAt x x.length)]), none, none]) (by simp only [sSet_ap, mTup_ap, mCons_ap, mNil_ap, mBin_ap, mVar1, mVar0, mUn_ap, mK_ap, pNeg_ap, Option.bind_some, pens_lastL, mk_move, mk_one, List.set_cons_succ, List.set_cons_zero]),
    seq_nx (ρ' := [fz (wy x), fz (.list (pens x)), fz (.list ((ksOf (x.length - 1)).map fun k => .int (k : Nat))), fz (wy [.move (penAt x x.length)]), none, none]) ((cond _ _ _ _ _ _ _).trans rfl),
    seq_nx (ρ' := [fz (wy x), fz (.list (pens x)), fz (.list ((ksOf (x.length - 1)).map fun k => .int (k : Nat))), fz (wy ([.move (penAt x x.length)] ++ bkL x (ksOf (x.length - 1)))), z4, z5]) (by
      rw [sFor_ap]
      simp only [mItems_ap, mVar2, mVar0, Option.bind_some, items_l]
      exact hf),
    seq_nx (ρ' := [fz (wy x), fz (.list (pens x)), fz (.list ((ksOf (x.length - 1)).map fun k => .int (k : Nat))), fz (wy ([.move (penAt x x.length)] ++ bkL x (ksOf (x.length - 1)))), z4, z5]) ((cond _ _ _ _ _ _ _).trans rfl)]
  simp
end Dm

set_option Elab.async false
set_option linter.all false
set_option maxRecDepth 100000
set_option exponentiation.threshold 20000
namespace Dm
open PySem PySem.Spec L2 Dw
theorem shut_pen {x : List Stk} {p : Pt} {r : List Stk} (hr : ∀ s ∈ r, plainS s) (hx : x = .move p :: (r ++ [.shut])) : penAt x x.length = p := by
  have hlen : x.length = (r.length + 1) + 1 := by rw [hx]; simp
  have hs : x[r.length + 1]? = some .shut := by rw [hx]; simp
  rw [hlen, penAt_succ hs]
  show begAt x (r.length + 1 + 1) = p
  rw [begAt_succ hs]
  show begAt x (r.length + 1) = p
  unfold begAt
  rw [hx, List.take_succ_cons, List.take_append_of_le_length (Nat.le_refl _), List.take_length, List.foldl_cons]
  exact plain_beg r p hr
theorem pairs_init (x : List Stk) (m : Nat) : (pairsTo x (m + 1)).dropLast = pairsTo x m := by
  unfold pairsTo
  rw [rmap_succ, List.dropLast_concat]
theorem ks_tail (m : Nat) : ((ksOf (m + 1)).map fun k => PyData.int (k : Nat)).drop 1 = (ksOf m).map fun k => PyData.int (k : Nat) := by
  unfold ksOf
  rw [List.range_succ]
  simp
end Dm

set_option Elab.async false
set_option linter.all false
set_option maxRecDepth 100000
set_option exponentiation.threshold 20000
namespace Dm
open PySem PySem.Spec L2 Dw
theorem mk_line {p : Pt} : PyData.tuple [.str "line", pt p] = sk (.line p) := rfl
theorem mk_shut : PyData.tuple [.str "shut"] = sk .shut := rfl
/-- a shut part -/
theorem back_shut {x : List Stk} {p : Pt} {r : List Stk} (hr : ∀ s ∈ r, plainS s) (hx : x = .move p :: (r ++ [.shut])) (hl : x.length ≤ 400) :
    m_backward_part [wy x] = some (wy ([.move p, .line (penAt x (x.length - 1))] ++ bkL x (ksOf (x.length - 2)) ++ [.shut])) := by
  have hlen : x.length = r.length + 2 := by rw [hx]; simp
  have hpen := shut_pen hr hx
  have hlast : pIx (wy x) (.int (-1)) = some (sk .shut) := by
    have := wy_last (.move p :: r) .shut
    rw [hx]
    exact this
  have hks := at_rest (t := [.shut]) (x := x) (p := p) hr hx
  have hkl : x.length - 2 = r.length := by omega
  rw [← hkl] at hks
  refine run_rt ?_
  unfold b_backward_part
  rw [show startR N_backward_part [wy x] = [fz (wy x), none, none, none, none, none, none, none] from rfl]
  have hz : (zipD (x.map sk) (pens x)).length ≤ sizeLine := line_ok (by simp [zipD, pens]; omega)
  have hml : mSl (mLst (mLi (mIt pZip (mCons (mVar 0) (mCons (mVar 1) mNil))))) (oAt (mK (.int 1))) oNo [fz (wy x), fz (.tuple (pens x)), fz (.bool true), none, none, none, none, none] = some (.list (pairsTo x (x.length - 1))) := by
    have : mLi (mIt pZip (mCons (mVar 0) (mCons (mVar 1) mNil))) [fz (wy x), fz (.tuple (pens x)), fz (.bool true), none, none, none, none, none] = some (zipD (x.map sk) (pens x)) := by
      unfold mLi
      simp only [mIt_ap, mCons_ap, mVar0, mVar1, mNil_ap, Option.bind_some, pZip_ap, wy, items_t]
      rw [if_pos hz]
    simp only [mSl_ap, mLst_ap, this, oAt_ap, oNo_ap, mK_ap, asI_ap, Option.bind_some, pSl_l, cut_tail, zip_drop]
  have hini : (pairsTo x (x.length - 1)).dropLast = pairsTo x (x.length - 2) := by
    have := pairs_init x (x.length - 2)
    rw [show x.length - 2 + 1 = x.length - 1 by omega] at this
    exact this
  have ad1 : pAdd (wy [.move p]) (wy [.line (penAt x (x.length - 1))]) = some (wy [.move p, .line (penAt x (x.length - 1))]) := pAdd_wy (by simp)
  have ad2 : pAdd (wy ([.move p, .line (penAt x (x.length - 1))] ++ bkL x (ksOf (x.length - 2)))) (wy [.shut]) = some (wy ([.move p, .line (penAt x (x.length - 1))] ++ bkL x (ksOf (x.length - 2)) ++ [.shut])) := pAdd_wy (by simp [bkL, ksOf]; omega)
  obtain ⟨z6, z7, hf⟩ := loopP (x := x) (x0 := fz (wy x)) (x1 := fz (.tuple (pens x))) (x2 := fz (.bool true)) (x3 := fz (.list (pairsTo x (x.length - 2)))) (x4 := fz (pt p)) (ksOf (x.length - 2)) [.move p, .line (penAt x (x.length - 1))] none none (fun k hk => (hks k hk).1) (by simp [ksOf]; omega)
  rw [seq_nx (ρ' := [fz (wy x), fz (.tuple (pens x)), none, none, none, none, none, none]) (by simp [m_pens_eq x (by omega)]),
    seq_nx (ρ' := [fz (wy x), fz (.tuple (pens x)), fz (.bool true), none, none, none, none, none]) (by simp only [sSet_ap, mBin_ap, mVar0, mUn_ap, mK_ap, pNeg_ap, Option.bind_some, hlast, ix_shut, c_SHUT, pEq_s, beq_self_eq_true, List.set_cons_succ, List.set_cons_zero]),
    seq_nx (ρ' := [fz (wy x), fz (.tuple (pens x)), fz (.bool true), fz (.list (pairsTo x (x.length - 1))), none, none, none, none]) (by rw [sSet_ap, hml]; rfl),
    seq_nx (ρ' := [fz (wy x), fz (.tuple (pens x)), fz (.bool true), fz (.list (pairsTo x (x.length - 1))), fz (pt p), none, none, none]) (by simp only [sSet_ap, mBin_ap, mVar1, mVar0, mUn_ap, mK_ap, pNeg_ap, Option.bind_some, pens_lastT, hpen, List.set_cons_succ, List.set_cons_zero]),
    seq_nx (ρ' := [fz (wy x), fz (.tuple (pens x)), fz (.bool true), fz (.list (pairsTo x (x.length - 1))), fz (pt p), fz (wy [.move p]), none, none]) (by simp [c_MOVE, mk_move, mk_one]),
    seq_nx (ρ' := [fz (wy x), fz (.tuple (pens x)), fz (.bool true), fz (.list (pairsTo x (x.length - 2))), fz (pt p), fz (wy [.move p, .line (penAt x (x.length - 1))]), none, none]) (by
      have h2 := pens_last2 x (by omega)
      simp [c_LINE, h2, mk_line, mk_one, ad1, cut_init, hini]),
    seq_nx (ρ' := [fz (wy x), fz (.tuple (pens x)), fz (.bool true), fz (.list (pairsTo x (x.length - 2))), fz (pt p), fz (wy ([.move p, .line (penAt x (x.length - 1))] ++ bkL x (ksOf (x.length - 2)))), z6, z7]) (by
      rw [sFor_ap]
      simp only [mItems_ap, mUn_ap, mVar3, mVar0, Option.bind_some, pRev_l, items_l, pairs_rev]
      exact hf),
    seq_nx (ρ' := [fz (wy x), fz (.tuple (pens x)), fz (.bool true), fz (.list (pairsTo x (x.length - 2))), fz (pt p), fz (wy ([.move p, .line (penAt x (x.length - 1))] ++ bkL x (ksOf (x.length - 2)) ++ [.shut])), z6, z7]) (by simp only [sIf_ap, mTest_ap, mVar2, mVar0, Option.bind_some, asB_ap, if_true, sSet_ap, mBin_ap, mVar5, mTup_ap, mCons_ap, mNil_ap, mK_ap, c_SHUT, mk_shut, mk_one, ad2, List.set_cons_succ, List.set_cons_zero])]
  simp
end Dm

set_option Elab.async false
set_option linter.all false
set_option maxRecDepth 100000
set_option exponentiation.threshold 20000
namespace Dm
open PySem PySem.Spec L2 Dw
/-- the law, a shut part -/
theorem lback_shut {x : List Stk} {p : Pt} {r : List Stk} (hr : ∀ s ∈ r, plainS s) (hx : x = .move p :: (r ++ [.shut])) (hl : x.length ≤ 400) :
    m__law_backward [wy x] = some (wy ([.move p, .line (penAt x (x.length - 1))] ++ bkL x (ksOf (x.length - 2)) ++ [.shut])) := by
  have hlen : x.length = r.length + 2 := by rw [hx]; simp
  have hpen := shut_pen hr hx
  have hlast : pIx (wy x) (.int (-1)) = some (sk .shut) := by
    have := wy_last (.move p :: r) .shut
    rw [hx]
    exact this
  have hfirst : pIx (wy x) (.int 0) = some (sk (.move p)) := by
    have h0 : x[0]? = some (.move p) := by rw [hx]; rfl
    exact wy_at h0
  have hks := at_rest (t := [.shut]) (x := x) (p := p) hr hx
  have hkl : x.length - 2 = r.length := by omega
  rw [← hkl] at hks
  refine run_rt ?_
  unfold b__law_backward
  rw [show startR N__law_backward [wy x] = [fz (wy x), none, none, none, none, none] from rfl]
  have hz : (rng 1 (x.length - 1)).length ≤ sizeLine := line_ok (by rw [rng_len]; omega)
  have hr2 : pRng2 [.int 1, .int (x.length : Int)] = some (rng 1 (x.length - 1)) := by
    have := pRng2_i (m := 1) (n := (x.length : Int)) (by simp [rOk]; omega)
    rw [this]
    congr 2
    omega
  have hml : mUn pRev (mLst (mLi (mIt pRng2 (mCons (mK (.int 1)) (mCons (mCall pLen (mCons (mVar 0) mNil)) mNil))))) [fz (wy x), fz (.list (pens x)), none, none, none, none] = some (.list ((ksOf (x.length - 1)).map fun k => .int (k : Nat))) := by
    have : mLi (mIt pRng2 (mCons (mK (.int 1)) (mCons (mCall pLen (mCons (mVar 0) mNil)) mNil))) [fz (wy x), fz (.list (pens x)), none, none, none, none] = some (rng 1 (x.length - 1)) := by
      unfold mLi
      simp only [mIt_ap, mCons_ap, mVar0, mK_ap, mCall_ap, mNil_ap, Option.bind_some, pLen_wy, hr2]
      rw [if_pos hz]
    simp only [mUn_ap, mLst_ap, this, Option.bind_some, pRev_l, rng_rev]
  have htail : ((ksOf (x.length - 1)).map fun k => PyData.int (k : Nat)).drop 1 = (ksOf (x.length - 2)).map fun k => PyData.int (k : Nat) := by
    have := ks_tail (x.length - 2)
    rw [show x.length - 2 + 1 = x.length - 1 by omega] at this
    exact this
  have hp2 : pIx (.list (pens x)) (.int ((x.length : Int) - 1)) = some (pt (penAt x (x.length - 1))) := by
    have := pens_at (w := x) (i := x.length - 1) (by omega)
    rw [show ((x.length - 1 : Nat) : Int) = (x.length : Int) - 1 by omega] at this
    exact this
  have ad2 : pAdd (wy ([.move p, .line (penAt x (x.length - 1))] ++ bkL x (ksOf (x.length - 2)))) (wy [.shut]) = some (wy ([.move p, .line (penAt x (x.length - 1))] ++ bkL x (ksOf (x.length - 2)) ++ [.shut])) := pAdd_wy (by simp [bkL, ksOf]; omega)
  have two : ∀ a b : Stk, PyData.tuple [sk a, sk b] = wy [a, b] := fun _ _ => rfl
  obtain ⟨z4, z5, hf⟩ := loopQ (x := x) (x6 := none) (ksOf (x.length - 2)) [.move p, .line (penAt x (x.length - 1))] none none (fz (.list ((ksOf (x.length - 2)).map fun k => .int (k : Nat)))) hks (by simp [ksOf]; omega)
  have cond : ∀ (u v : MS) (a b c d e : Option Slt), sIf (mTest (mBin pEq (mBin pIx (mBin pIx (mVar 0) (mUn pNeg (mK (.int 1)))) (mK (.int 0))) (mK (.str "shut")))) u v [fz (wy x), a, b, c, d, e] = u [fz (wy x), a, b, c, d, e] := by
    intro u v a b c d e
    simp only [sIf_ap, mTest_ap, mBin_ap, mVar0, mUn_ap, mK_ap, pNeg_ap, Option.bind_some, hlast, ix_shut, pEq_s, beq_self_eq_true, asB_ap, if_true]
  rw [seq_nx (ρ' := [fz (wy x), fz (.list (pens x)), none, none, none, none]) (by simp [m_law_pens_eq x (by omega)]),
    seq_nx (ρ' := [fz (wy x), fz (.list (pens x)), fz (.list ((ksOf (x.length - 1)).map fun k => .int (k : Nat))), none, none, none]) (by rw [sSet_ap, hml]; rfl),
    seq_nx (ρ' := [fz (wy x), fz (.list (pens x)), fz (.list ((ksOf (x.length - 1)).map fun k => .int (k : Nat))), fz (wy [.move p]), none, none]) (by simp only [sSet_ap, mTup_ap, mCons_ap, mNil_ap, mBin_ap, mVar1, mVar0, mUn_ap, mK_ap, pNeg_ap, Option.bind_some, pens_lastL, hpen, mk_move, mk_one, List.set_cons_succ, List.set_cons_zero]),
    seq_nx (ρ' := [fz (wy x), fz (.list (pens x)), fz (.list ((ksOf (x.length - 2)).map fun k => .int (k : Nat))), fz (wy [.move p, .line (penAt x (x.length - 1))]), none, none]) ((cond _ _ _ _ _ _ _).trans (by
      rw [seq_nx (ρ' := [fz (wy x), fz (.list (pens x)), fz (.list ((ksOf (x.length - 1)).map fun k => .int (k : Nat))), fz (wy [.move p, .line (penAt x (x.length - 1))]), none, none]) (by simp only [sSet_ap, mTup_ap, mCons_ap, mNil_ap, mBin_ap, mCall_ap, mVar1, mVar0, mK_ap, Option.bind_some, hfirst, ix_move1, pLen_wy, pSub_i, hp2, mk_move, mk_line, two, List.set_cons_succ, List.set_cons_zero])]
      simp only [sSet_ap, mSl_ap, mVar2, mVar0, oAt_ap, oNo_ap, mK_ap, asI_ap, Option.bind_some, pSl_l, cut_tail, htail, List.set_cons_succ, List.set_cons_zero])),
    seq_nx (ρ' := [fz (wy x), fz (.list (pens x)), fz (.list ((ksOf (x.length - 2)).map fun k => .int (k : Nat))), fz (wy ([.move p, .line (penAt x (x.length - 1))] ++ bkL x (ksOf (x.length - 2)))), z4, z5]) (by
      rw [sFor_ap]
      simp only [mItems_ap, mVar2, mVar0, Option.bind_some, items_l]
      exact hf),
    seq_nx (ρ' := [fz (wy x), fz (.list (pens x)), fz (.list ((ksOf (x.length - 2)).map fun k => .int (k : Nat))), fz (wy ([.move p, .line (penAt x (x.length - 1))] ++ bkL x (ksOf (x.length - 2)) ++ [.shut])), z4, z5]) ((cond _ _ _ _ _ _ _).trans (by simp only [sSet_ap, mBin_ap, mVar3, mVar0, mTup_ap, mCons_ap, mNil_ap, mK_ap, Option.bind_some, mk_shut, mk_one, ad2, List.set_cons_succ, List.set_cons_zero]))]
  simp
end Dm

set_option Elab.async false
set_option linter.all false
set_option maxRecDepth 100000
set_option exponentiation.threshold 20000
namespace Dm
open PySem PySem.Spec L2 Dw
theorem back_both {w x : List Stk} (hx : x ∈ parts w) (hl : x.length ≤ 400) : ∃ y : List Stk, m_backward_part [wy x] = some (wy y) ∧ m__law_backward [wy x] = some (wy y) ∧ y.length ≤ x.length + 1 := by
  obtain ⟨p, r, hr, ⟨hn, he⟩ | he⟩ := parts_shape hx
  · refine ⟨_, back_open hr hn he hl, lback_open hr hn he hl, ?_⟩
    simp [bkL, ksOf] <;> omega
  · have hlen : x.length = r.length + 2 := by rw [he]; simp
    refine ⟨_, back_shut hr he hl, lback_shut hr he hl, ?_⟩
    simp [bkL, ksOf] <;> omega
theorem prt_len : ∀ (w : List Stk) (b : Pt) (so : List Stk), (prt w b so).length ≤ w.length + 1 ∧ ∀ x ∈ prt w b so, x.length ≤ so.length + 2 * w.length + 1
  | [], b, so => by simp [prt]
  | .move p :: w, b, so => by
    obtain ⟨h1, h2⟩ := prt_len w p [.move p]
    refine ⟨by simp only [prt, List.length_cons]; omega, fun x hx => ?_⟩
    simp only [prt, List.mem_cons] at hx
    rcases hx with rfl | hx
    · omega
    · have := h2 x hx
      simp only [List.length_cons, List.length_nil] at this ⊢
      omega
  | .shut :: w, b, so => by
    obtain ⟨h1, h2⟩ := prt_len w b []
    have ho := opn_len (b := b) (Nat.le_refl so.length)
    refine ⟨by simp only [prt, List.length_cons]; omega, fun x hx => ?_⟩
    simp only [prt, List.mem_cons] at hx
    rcases hx with rfl | hx
    · show (opn b so ++ [Stk.shut]).length ≤ _
      simp only [List.length_append, List.length_cons, List.length_nil]
      omega
    · have := h2 x hx
      simp only [List.length_cons, List.length_nil] at this ⊢
      omega
  | .line q :: w, b, so => by
    have ho := opn_len (b := b) (Nat.le_refl so.length)
    obtain ⟨h1, h2⟩ := prt_len w b (opn b so ++ [.line q])
    refine ⟨by simp only [prt, List.length_cons]; exact Nat.le_succ_of_le h1, fun x hx => ?_⟩
    have := h2 x hx
    simp only [List.length_append, List.length_cons, List.length_nil] at this ⊢
    omega
  | .bow a q :: w, b, so => by
    have ho := opn_len (b := b) (Nat.le_refl so.length)
    obtain ⟨h1, h2⟩ := prt_len w b (opn b so ++ [.bow a q])
    refine ⟨by simp only [prt, List.length_cons]; exact Nat.le_succ_of_le h1, fun x hx => ?_⟩
    have := h2 x hx
    simp only [List.length_append, List.length_cons, List.length_nil] at this ⊢
    omega
  | .wave a c q :: w, b, so => by
    have ho := opn_len (b := b) (Nat.le_refl so.length)
    obtain ⟨h1, h2⟩ := prt_len w b (opn b so ++ [.wave a c q])
    refine ⟨by simp only [prt, List.length_cons]; exact Nat.le_succ_of_le h1, fun x hx => ?_⟩
    have := h2 x hx
    simp only [List.length_append, List.length_cons, List.length_nil] at this ⊢
    omega
theorem parts_len (w : List Stk) : (parts w).length ≤ w.length + 1 ∧ ∀ x ∈ parts w, x.length ≤ 2 * w.length + 1 := by
  obtain ⟨h1, h2⟩ := prt_len w (0, 0) []
  refine ⟨Nat.le_trans (List.length_filter_le _ _) h1, fun x hx => ?_⟩
  have := h2 x (List.mem_filter.mp hx).1
  simpa using this
/-- both loops over parts give the same way -/
theorem loops_back {w : List Stk} {x0 : Option Slt} {a0 a1 a2 : Option Slt} {tl : List (Option Slt)} : ∀ (xs : List (List Stk)) (f : List Stk) (y y' : Option Slt), (∀ x ∈ xs, x ∈ parts w ∧ x.length ≤ 100) → f.length + 101 * xs.length ≤ 5000 →
    ∃ (g : List Stk) (z z' : Option Slt), g.length ≤ f.length + 101 * xs.length ∧ forL (gN 2) (sSet 1 (mBin pAdd (mVar 1) (mCall m_backward_part (mCons (mVar 2) mNil)))) (xs.map wy) [x0, fz (wy f), y] = some (.nx [x0, fz (wy g), z]) ∧
      forL (gN 4) (sSet 3 (mBin pAdd (mVar 3) (mCall m__law_backward (mCons (mVar 4) mNil)))) (xs.map wy) (a0 :: a1 :: a2 :: fz (wy f) :: y' :: tl) = some (.nx (a0 :: a1 :: a2 :: fz (wy g) :: z' :: tl))
  | [], f, y, y', _, _ => ⟨f, y, y', by simp, rfl, rfl⟩
  | x :: xs, f, y, y', h, hl => by
    obtain ⟨h1, h2⟩ := h x (by simp)
    obtain ⟨b, e1, e2, e3⟩ := back_both h1 (by omega)
    simp only [List.length_cons] at hl
    have ad : pAdd (wy f) (wy b) = some (wy (f ++ b)) := pAdd_wy (by omega)
    obtain ⟨g, z, z', q0, q1, q2⟩ := loops_back (w := w) (x0 := x0) (a0 := a0) (a1 := a1) (a2 := a2) (tl := tl) xs (f ++ b) (fz (wy x)) (fz (wy x)) (fun t ht => h t (by simp [ht])) (by simp; omega)
    refine ⟨g, z, z', by simp at q0 ⊢; omega, ?_, ?_⟩
    · rw [List.map_cons]
      unfold forL
      rw [← q1]
      simp [e1, ad]
    · rw [List.map_cons]
      unfold forL
      rw [← q2]
      simp [e2, ad]
end Dm

set_option Elab.async false
set_option linter.all false
set_option maxRecDepth 100000
set_option exponentiation.threshold 20000
namespace Dm
open PySem PySem.Spec L2 Dw
theorem pEq_wy (w : List Stk) : pEq (wy w) (wy w) = some (.bool true) := pEq_same (lay_wy w) (Nat.le_trans (dep_wy w) (by decide))
theorem pNe_wy (w : List Stk) : pNe (wy w) (wy w) = some (.bool false) := pNe_same (lay_wy w) (Nat.le_trans (dep_wy w) (by decide))
theorem m_joined_eq {w v : List Stk} (h : w.length + v.length ≤ 100000) : m_joined [wy w, wy v] = some (wy (w ++ v)) := run_rt (by simp [b_joined, startR, pAdd_wy h])
theorem back_way {w : List Stk} (hl : w.length ≤ 12) {a0 a1 a2 y' : Option Slt} {tl : List (Option Slt)} : ∃ (g : List Stk) (z' : Option Slt), m_backward [wy w] = some (wy g) ∧
    sFor (mItems (mUn pRev (mCall m__law_parts (mCons (mVar 1) mNil)))) (gN 4) (sSet 3 (mBin pAdd (mVar 3) (mCall m__law_backward (mCons (mVar 4) mNil)))) (a0 :: fz (wy w) :: a2 :: fz (wy []) :: y' :: tl) = some (.nx (a0 :: fz (wy w) :: a2 :: fz (wy g) :: z' :: tl)) := by
  obtain ⟨h1, h2⟩ := parts_len w
  obtain ⟨g, z, z', _, q1, q2⟩ := loops_back (w := w) (x0 := fz (wy w)) (a0 := a0) (a1 := fz (wy w)) (a2 := a2) (tl := tl) (parts w).reverse [] none y' (fun x hx => ⟨List.mem_reverse.mp hx, by have := h2 x (List.mem_reverse.mp hx); omega⟩) (by simp; omega)
  refine ⟨g, z', run_rt ?_, ?_⟩
  · unfold b_backward
    rw [show startR N_backward [wy w] = [fz (wy w), none, none] from rfl]
    rw [seq_nx (ρ' := [fz (wy w), fz (wy []), none]) (by simp [wy]), seq_nx (ρ' := [fz (wy w), fz (wy g), z]) (by
      rw [sFor_ap]
      simp only [mItems_ap, mUn_ap, mCall_ap, mCons_ap, mVar0, mNil_ap, Option.bind_some, m_parts_eq w (by omega), pRev_t, items_t]
      rw [← List.map_reverse]
      exact q1)]
    simp
  · rw [sFor_ap]
    simp only [mItems_ap, mUn_ap, mCall_ap, mCons_ap, mVar1, mVar0, mNil_ap, Option.bind_some, m_law_parts_eq w (by omega), pRev_l, items_l]
    rw [← List.map_reverse]
    exact q2
theorem plain_k30 : ∀ ns : List Int, ns.length ≤ 63 → m_law_k30 [.list (ns.map .int)] = some (.bool true) := by
  intro ns hn
  obtain ⟨n0, _, _, en0⟩ := m_mixed_eq ns 0
  obtain ⟨n1, _, _, en1⟩ := m_mixed_eq ns 1
  obtain ⟨n2, g2, _, en2⟩ := m_mixed_eq ns 2
  have en0' : m__law_mixed [scr ns, .int 0] = some (.int n0) := en0
  have en1' : m__law_mixed [scr ns, .int 1] = some (.int n1) := en1
  have en2' : m__law_mixed [scr ns, .int 2] = some (.int n2) := en2
  obtain ⟨w, gw, hl, ew⟩ := m_way_eq n0 8 (by decide) (by decide)
  obtain ⟨v, gv, hlv, ev⟩ := m_way_eq n1 8 (by decide) (by decide)
  have hm20 := @pMod_s n2 20 (by decide)
  obtain ⟨n, hnn, hn1, hn2⟩ : ∃ n : Nat, 1 + n2 % 20 = (n : Int) ∧ 1 ≤ n ∧ n ≤ 20 := ⟨(1 + n2 % 20).toNat, by omega, by omega, by omega⟩
  refine run_rt ?_
  show b_law_k30 (startR N_law_k30 [scr ns]) = _
  unfold b_law_k30
  rw [show startR N_law_k30 [scr ns] = [fz (scr ns), none, none, none, none, none, none, none, none, none, none, none, none, none, none] from rfl]
  obtain ⟨g, z4, eb, el⟩ := back_way (w := w) (by omega) (a0 := fz (scr ns)) (a1 := none) (a2 := fz (wy v)) (y' := none) (tl := [none, none, none, none, none, none, none, none, none, none])
  obtain ⟨y9, y10, y11, y12, y13, ek⟩ := k30_loop gw (by omega) hn1 hn2 (x0 := fz (scr ns)) (x2 := fz (wy v)) (x3 := fz (wy g)) (x4 := z4)
  unfold k30new k30lines at ek
  have had : pAdd (wy w) (wy v) = some (wy (w ++ v)) := pAdd_wy (by omega)
  rw [seq_nx (ρ' := [fz (scr ns), fz (wy w), none, none, none, none, none, none, none, none, none, none, none, none, none]) (by simp [en0', ew]),
    seq_nx (ρ' := [fz (scr ns), fz (wy w), fz (wy v), none, none, none, none, none, none, none, none, none, none, none, none]) (by simp [en1', ev]),
    seq_nx (ρ' := [fz (scr ns), fz (wy w), fz (wy v), none, none, none, none, none, none, none, none, none, none, none, none]) (by simp [m_joined_eq (w := w) (v := v) (by omega), had, pNe_wy]),
    seq_nx (ρ' := [fz (scr ns), fz (wy w), fz (wy v), fz (wy []), none, none, none, none, none, none, none, none, none, none, none]) (by simp [wy]),
    seq_nx el,
    seq_nx (ρ' := [fz (scr ns), fz (wy w), fz (wy v), fz (wy g), z4, none, none, none, none, none, none, none, none, none, none]) (by simp [eb, pNe_wy]),
    seq_nx (ρ' := [fz (scr ns), fz (wy w), fz (wy v), fz (wy g), z4, fz (.list (pens w)), none, none, none, none, none, none, none, none, none]) (by simp [m_law_pens_eq w (by omega)]),
    seq_nx (ρ' := [fz (scr ns), fz (wy w), fz (wy v), fz (wy g), z4, fz (.list (pens w)), fz (.int (n : Nat)), none, none, none, none, none, none, none, none]) (by simp [en2', hm20, hnn]),
    seq_nx (ρ' := [fz (scr ns), fz (wy w), fz (wy v), fz (wy g), z4, fz (.list (pens w)), fz (.int (n : Nat)), fz (wy []), none, none, none, none, none, none, none]) (by simp [wy]),
    seq_nx (ρ' := [fz (scr ns), fz (wy w), fz (wy v), fz (wy g), z4, fz (.list (pens w)), fz (.int (n : Nat)), fz (wy []), fz (wy []), none, none, none, none, none, none]) (by simp [wy]),
    seq_nx ek]
  simp [m_raised_eq gw (by omega), m_flat_eq (gw.cw (by omega)) (by decide) (by omega) hn1 hn2, pEq_wy]
end Dm

set_option Elab.async false
set_option linter.all false
set_option maxRecDepth 100000
set_option exponentiation.threshold 20000
namespace Dm
open PySem PySem.Spec L2 Dw
/-! ### comprehensions -/
theorem lcL_gen {α : Type} {g : MG} {ft : Mr Bool} {fe : Mr PyData} {ρ : Rho} {emb f : α → PyData} {p : α → Bool} : ∀ (xs : List α), (∀ x ∈ xs, ∃ ρ1, g (emb x) ρ = some ρ1 ∧ ft ρ1 = some (p x) ∧ (p x = true → fe ρ1 = some (f x))) → lcL g ft fe ρ (xs.map emb) = some ((xs.filter p).map f)
  | [], _ => rfl
  | x :: xs, h => by
    obtain ⟨ρ1, h1, h2, h3⟩ := h x (by simp)
    have ih := lcL_gen xs fun y hy => h y (by simp [hy])
    rw [List.map_cons]
    unfold lcL
    rw [h1]
    simp only [Option.bind_some, h2, ih]
    cases hp : p x
    · simp [hp]
    · simp [hp, h3 hp]
theorem mLc_gen {α : Type} {g : MG} {ft : Mr Bool} {fi : Mr (List PyData)} {fe : Mr PyData} {vs : List Nat} {ρ : Rho} {emb f : α → PyData} {p : α → Bool} {xs : List α} (hi : fi ρ = some (xs.map emb)) (hl : xs.length ≤ 100000)
    (h : ∀ x ∈ xs, ∃ ρ1, g (emb x) (wipeR ρ vs) = some ρ1 ∧ ft ρ1 = some (p x) ∧ (p x = true → fe ρ1 = some (f x))) : mLc fi g ft fe vs ρ = some ((xs.filter p).map f) := by
  unfold mLc
  rw [hi]
  simp only [Option.bind_some]
  rw [if_pos (line_ok (by simpa using hl))]
  exact lcL_gen xs h
theorem tYesM_ap' {ρ : Rho} : tYesM ρ = some true := rfl
/-- no test -/
theorem mLc_all {α : Type} {fi : Mr (List PyData)} {fe : Mr PyData} {j : Nat} {ρ : Rho} {emb f : α → PyData} {xs : List α} (hi : fi ρ = some (xs.map emb)) (hl : xs.length ≤ 100000)
    (h : ∀ x ∈ xs, fe ((wipeR ρ [j]).set j (some (.frz (emb x)))) = some (f x)) : mLc fi (gN j) tYesM fe [j] ρ = some (xs.map f) := by
  have := mLc_gen (g := gN j) (ft := tYesM) (fe := fe) (vs := [j]) (p := fun _ => true) (f := f) hi hl fun x hx => ⟨_, rfl, rfl, fun _ => h x hx⟩
  rw [this, List.filter_eq_self.mpr (by simp)]
theorem rng_map (lo : Int) (n : Nat) : rng lo n = (List.range n).map fun k => .int (lo + (k : Nat)) := by
  simp [rng]
theorem mLc_rng {fi : Mr (List PyData)} {fe : Mr PyData} {j : Nat} {ρ : Rho} {lo : Int} {n : Nat} {f : Nat → PyData} (hi : fi ρ = some (rng lo n)) (hl : n ≤ 100000)
    (h : ∀ k, k < n → fe ((wipeR ρ [j]).set j (some (.frz (.int (lo + (k : Nat)))))) = some (f k)) : mLc fi (gN j) tYesM fe [j] ρ = some ((List.range n).map f) :=
  mLc_all (emb := fun k : Nat => PyData.int (lo + (k : Nat))) (xs := List.range n) (by rw [hi, rng_map]) (by simpa using hl) fun k hk => h k (List.mem_range.mp hk)
/-! ### equality of fractions and points -/
theorem eqv_fr (p q : Rat) : PyData.eqv (fr p) (fr q) = decide (p = q) := by
  have e : PyData.eqv (fr p) (fr q) = (p.num == q.num && (p.den : Int) == (q.den : Int)) := by
    simp [fr, PyData.eqv, PyData.eqvAll]
  rw [e]
  by_cases h : p = q
  · subst h; simp
  · rw [decide_eq_false h]
    cases hb : (p.num == q.num && (p.den : Int) == (q.den : Int))
    · rfl
    · simp only [Bool.and_eq_true, beq_iff_eq] at hb
      exact absurd (Rat.ext hb.1 (by omega)) h
theorem pEq_fr (p q : Rat) : pEq (fr p) (fr q) = some (.bool (decide (p = q))) := by
  rw [pEq_g (eqOk_of (lay_fr p) (lay_fr q) (by rw [dep_fr]; decide)), eqv_fr]
theorem pNe_fr (p q : Rat) : pNe (fr p) (fr q) = some (.bool (!decide (p = q))) := by
  rw [pNe_g (eqOk_of (lay_fr p) (lay_fr q) (by rw [dep_fr]; decide)), eqv_fr]
theorem eqv_pt (p q : Pt) : PyData.eqv (pt p) (pt q) = decide (p = q) := by
  have e : PyData.eqv (pt p) (pt q) = (PyData.eqv (fr p.1) (fr q.1) && PyData.eqv (fr p.2) (fr q.2)) := by
    simp [pt, PyData.eqv, PyData.eqvAll]
  rw [e, eqv_fr, eqv_fr]
  obtain ⟨a, b⟩ := p
  obtain ⟨c, d⟩ := q
  by_cases h1 : a = c <;> by_cases h2 : b = d <;> simp [h1, h2]
theorem pEq_pt (p q : Pt) : pEq (pt p) (pt q) = some (.bool (decide (p = q))) := by
  rw [pEq_g (eqOk_of (lay_pt p) (lay_pt q) (by rw [dep_pt]; decide)), eqv_pt]
theorem pNe_pt (p q : Pt) : pNe (pt p) (pt q) = some (.bool (!decide (p = q))) := by
  rw [pNe_g (eqOk_of (lay_pt p) (lay_pt q) (by rw [dep_pt]; decide)), eqv_pt]
theorem c_NONE_eq : c_NONE = fr 0 := rfl
theorem fr1 : PyData.tuple [.int 1, .int 1] = fr 1 := rfl
theorem fr0 : PyData.tuple [.int 0, .int 1] = fr 0 := rfl
theorem sz0 : Sz 1 0 := ⟨by decide, by decide⟩
theorem sz1 : Sz 1 1 := ⟨by decide, by decide⟩
theorem Gd.sz18 {q : Rat} (h : Gd 0 q) : Sz 18 q := by
  obtain ⟨z, h1, h2⟩ := h
  rw [h1]
  exact Sz.divInt (by decide) (by omega) (by decide)
theorem GdP.ps18 {p : Pt} (h : GdP 0 p) : PS 18 p := ⟨h.1.sz18, h.2.sz18⟩
section
variable {m n : Nat} {p q : Rat}
theorem m_over_eq (h1 : Sz m p) (h2 : Sz n q) (hq : q ≠ 0) (h : m + n ≤ 8900) : m_over [fr p, fr q] = some (fr (p / q)) := by
  have hn : q.num ≠ 0 := fun e => hq (Rat.num_eq_zero.mp e)
  have e1 : ((p.den : Int) * q.num) ≠ 0 := Int.mul_ne_zero (den_pos p) hn
  have e2 : ((p.den : Int) * q.num).natAbs < 2 ^ 9000 := by
    rw [Int.natAbs_mul]
    refine Nat.lt_of_lt_of_le (lt_pow_mul (m := m) (n := n) (by simpa using h1.2) h2.1) (Nat.pow_le_pow_right (by decide) (by omega))
  have e := m_fraction_eq (u := p.num * q.den) e1 e2
  have ev : p / q = Rat.divInt (p.num * q.den) (p.den * q.num) := by
    rw [Rat.div_def, Rat.inv_def]
    conv => lhs; arg 1; rw [← Rat.num_divInt_den p]
    rw [Rat.divInt_mul_divInt]
  rw [ev]
  have hb : b_over (startR N_over [fr p, fr q]) = (m_fraction [.int (p.num * q.den), .int (p.den * q.num)]).bind fun d => some (.rt d) := by
    simp [b_over, startR, fr, pMul_i (mnd h1 h2 h), pMul_i (mdn h1 h2 h)]
  exact run_rt (by rw [hb, e]; rfl)
end
/-! ### maps -/
structure Mp where
  a : Rat
  b : Rat
  c : Rat
  d : Rat
  e : Rat
  f : Rat
def mp (M : Mp) : PyData := .tuple [fr M.a, fr M.b, fr M.c, fr M.d, fr M.e, fr M.f]
def ledM (p : Pt) (M : Mp) : Pt := (M.a * p.1 + M.c * p.2 + M.e, M.b * p.1 + M.d * p.2 + M.f)
def sprM (M : Mp) : Rat := M.a * M.d - M.b * M.c
def behM (M N : Mp) : Mp := ⟨N.a * M.a + N.c * M.b, N.b * M.a + N.d * M.b, N.a * M.c + N.c * M.d, N.b * M.c + N.d * M.d, N.a * M.e + N.c * M.f + N.e, N.b * M.e + N.d * M.f + N.f⟩
def undM (M : Mp) : Mp := ⟨M.d / sprM M, -(M.b / sprM M), -(M.c / sprM M), M.a / sprM M, -(M.d / sprM M * M.e + -(M.c / sprM M) * M.f), -(-(M.b / sprM M) * M.e + M.a / sprM M * M.f)⟩
def oneM : Mp := ⟨1, 0, 0, 1, 0, 0⟩
def fcM (p q r : Pt) : Mp := ⟨q.1 - p.1, q.2 - p.2, r.1 - p.1, r.2 - p.2, p.1, p.2⟩
structure MZ (m l : Nat) (M : Mp) : Prop where
  a : Sz m M.a
  b : Sz m M.b
  c : Sz m M.c
  d : Sz m M.d
  e : Sz l M.e
  f : Sz l M.f
theorem lay_mp (M : Mp) : (mp M).canLay0 = true := by simp [mp, PyData.canLay0, PyData.canLayAll0, lay_fr]
theorem dep_mp (M : Mp) : (mp M).depth = 2 := by simp [mp, PyData.depth, PyData.depthAll, dep_fr]
theorem pEq_mp (M : Mp) : pEq (mp M) (mp M) = some (.bool true) := pEq_same (lay_mp M) (by rw [dep_mp]; decide)
theorem pNe_mp (M : Mp) : pNe (mp M) (mp M) = some (.bool false) := pNe_same (lay_mp M) (by rw [dep_mp]; decide)
section
variable {m n l k : Nat} {p q r : Pt} {M N : Mp}
theorem PS.led (hp : PS n p) (hM : MZ m l M) : PS (2 * (m + n) + 1 + l + 1) (ledM p M) :=
  ⟨(((hM.a.mul hp.1).add (hM.c.mul hp.2)).add hM.e).mono (by omega), (((hM.b.mul hp.1).add (hM.d.mul hp.2)).add hM.f).mono (by omega)⟩
theorem m_led_eq (hp : PS n p) (hM : MZ m l M) (h : 2 * (m + n) + 1 + l ≤ 8900) : m_led [pt p, mp M] = some (pt (ledM p M)) := by
  have t1 := m_times_eq hM.a hp.1 (by omega)
  have t2 := m_times_eq hM.c hp.2 (by omega)
  have t3 := m_times_eq hM.b hp.1 (by omega)
  have t4 := m_times_eq hM.d hp.2 (by omega)
  have a1 := m_plus_eq (hM.a.mul hp.1) (hM.c.mul hp.2) (by omega)
  have a2 := m_plus_eq (hM.b.mul hp.1) (hM.d.mul hp.2) (by omega)
  have b1 := m_plus_eq ((hM.a.mul hp.1).add (hM.c.mul hp.2)) hM.e (by omega)
  have b2 := m_plus_eq ((hM.b.mul hp.1).add (hM.d.mul hp.2)) hM.f (by omega)
  refine run_rt ?_
  unfold b_led
  rw [show startR N_led [pt p, mp M] = [fz (pt p), fz (mp M), none, none, none, none, none, none, none, none, none] from rfl]
  rw [seq_nx (ρ' := [fz (pt p), fz (mp M), fz (fr M.a), fz (fr M.b), fz (fr M.c), fz (fr M.d), fz (fr M.e), fz (fr M.f), none, none, none]) (by simp [mp]),
    seq_nx (ρ' := [fz (pt p), fz (mp M), fz (fr M.a), fz (fr M.b), fz (fr M.c), fz (fr M.d), fz (fr M.e), fz (fr M.f), fz (fr p.1), fz (fr p.2), none]) (by simp [pt]),
    seq_nx (ρ' := [fz (pt p), fz (mp M), fz (fr M.a), fz (fr M.b), fz (fr M.c), fz (fr M.d), fz (fr M.e), fz (fr M.f), fz (fr p.1), fz (fr p.2), fz (fr (M.a * p.1 + M.c * p.2 + M.e))]) (by simp [t1, t2, a1, b1])]
  simp [t3, t4, a2, b2]
  rfl
theorem m_law_led_eq (hp : PS n p) (hM : MZ m l M) (h : 2 * (m + n) + 1 + l ≤ 8900) : m__law_led [pt p, mp M] = some (pt (ledM p M)) := by
  have t1 := m_law_times_eq hM.a hp.1 (by omega)
  have t2 := m_law_times_eq hM.c hp.2 (by omega)
  have t3 := m_law_times_eq hM.b hp.1 (by omega)
  have t4 := m_law_times_eq hM.d hp.2 (by omega)
  have a1 := m_law_plus_eq (hM.a.mul hp.1) (hM.c.mul hp.2) (by omega)
  have a2 := m_law_plus_eq (hM.b.mul hp.1) (hM.d.mul hp.2) (by omega)
  have b1 := m_law_plus_eq ((hM.a.mul hp.1).add (hM.c.mul hp.2)) hM.e (by omega)
  have b2 := m_law_plus_eq ((hM.b.mul hp.1).add (hM.d.mul hp.2)) hM.f (by omega)
  have i0 : pIx (mp M) (.int 0) = some (fr M.a) := rfl
  have i1 : pIx (mp M) (.int 1) = some (fr M.b) := rfl
  have i2 : pIx (mp M) (.int 2) = some (fr M.c) := rfl
  have i3 : pIx (mp M) (.int 3) = some (fr M.d) := rfl
  have i4 : pIx (mp M) (.int 4) = some (fr M.e) := rfl
  have i5 : pIx (mp M) (.int 5) = some (fr M.f) := rfl
  have j0 : pIx (pt p) (.int 0) = some (fr p.1) := rfl
  have j1 : pIx (pt p) (.int 1) = some (fr p.2) := rfl
  refine run_rt ?_
  unfold b__law_led
  rw [show startR N__law_led [pt p, mp M] = [fz (pt p), fz (mp M), none] from rfl]
  rw [seq_nx (ρ' := [fz (pt p), fz (mp M), fz (fr (M.a * p.1 + M.c * p.2 + M.e))]) (by simp [i0, i2, i4, j0, j1, t1, t2, a1, b1])]
  simp [i1, i3, i5, j0, j1, t3, t4, a2, b2]
  rfl
theorem MZ.bare (h : MZ m l M) : MZ m 1 ⟨M.a, M.b, M.c, M.d, 0, 0⟩ := ⟨h.a, h.b, h.c, h.d, sz0, sz0⟩
theorem ledM_bare : ledM p ⟨M.a, M.b, M.c, M.d, 0, 0⟩ = (M.a * p.1 + M.c * p.2, M.b * p.1 + M.d * p.2) := by simp [ledM, Rat.add_zero]
theorem MZ.beh (hM : MZ n k M) (hN : MZ m l N) : MZ (2 * (m + n) + 1) (2 * (m + k) + 1 + l + 1) (behM M N) :=
  ⟨((hN.a.mul hM.a).add (hN.c.mul hM.b)).mono (by omega), ((hN.b.mul hM.a).add (hN.d.mul hM.b)).mono (by omega), ((hN.a.mul hM.c).add (hN.c.mul hM.d)).mono (by omega), ((hN.b.mul hM.c).add (hN.d.mul hM.d)).mono (by omega),
    (((hN.a.mul hM.e).add (hN.c.mul hM.f)).add hN.e).mono (by omega), (((hN.b.mul hM.e).add (hN.d.mul hM.f)).add hN.f).mono (by omega)⟩
theorem cut04 {x y z u v w : PyData} : cutD [x, y, z, u, v, w] none (some 4) = [x, y, z, u] := rfl
theorem cut02 {x y z u v w : PyData} : cutD [x, y, z, u, v, w] none (some 2) = [x, y] := rfl
theorem cut24 {x y z u v w : PyData} : cutD [x, y, z, u, v, w] (some 2) (some 4) = [z, u] := rfl
theorem cut4 {x y z u v w : PyData} : cutD [x, y, z, u, v, w] (some 4) none = [v, w] := rfl
theorem pAdd_ts {a b : List PyData} (h : a.length + b.length ≤ 100) : pAdd (.tuple a) (.tuple b) = some (.tuple (a ++ b)) := pAdd_t (line_ok (by omega))
theorem m_behind_eq (hM : MZ n k M) (hN : MZ m l N) (h1 : 2 * (m + n) + 2 ≤ 8900) (h2 : 2 * (m + k) + 1 + l ≤ 8900) : m_behind [mp M, mp N] = some (mp (behM M N)) := by
  have e1 := m_led_eq (p := (M.a, M.b)) (n := n) (M := ⟨N.a, N.b, N.c, N.d, 0, 0⟩) ⟨hM.a, hM.b⟩ hN.bare (by omega)
  have e2 := m_led_eq (p := (M.c, M.d)) (n := n) (M := ⟨N.a, N.b, N.c, N.d, 0, 0⟩) ⟨hM.c, hM.d⟩ hN.bare (by omega)
  have e3 := m_led_eq (p := (M.e, M.f)) (n := k) ⟨hM.e, hM.f⟩ hN (by omega)
  rw [ledM_bare] at e1 e2
  have c1 : pt (M.a, M.b) = .tuple [fr M.a, fr M.b] := rfl
  have c2 : pt (M.c, M.d) = .tuple [fr M.c, fr M.d] := rfl
  have c3 : pt (M.e, M.f) = .tuple [fr M.e, fr M.f] := rfl
  have c4 : mp ⟨N.a, N.b, N.c, N.d, 0, 0⟩ = .tuple [fr N.a, fr N.b, fr N.c, fr N.d, fr 0, fr 0] := rfl
  rw [c1, c4] at e1
  rw [c2, c4] at e2
  rw [c3] at e3
  refine run_rt ?_
  unfold b_behind
  rw [show startR N_behind [mp M, mp N] = [fz (mp M), fz (mp N), none, none, none] from rfl]
  have s1 : pSl (mp N) none (some 4) = some (.tuple [fr N.a, fr N.b, fr N.c, fr N.d]) := rfl
  have s2 : pSl (mp M) none (some 2) = some (.tuple [fr M.a, fr M.b]) := rfl
  have s3 : pSl (mp M) (some 2) (some 4) = some (.tuple [fr M.c, fr M.d]) := rfl
  have s4 : pSl (mp M) (some 4) none = some (.tuple [fr M.e, fr M.f]) := rfl
  have p1 : pAdd (.tuple [fr N.a, fr N.b, fr N.c, fr N.d]) (.tuple [fr 0, fr 0]) = some (.tuple [fr N.a, fr N.b, fr N.c, fr N.d, fr 0, fr 0]) := pAdd_ts (by simp)
  rw [seq_nx (ρ' := [fz (mp M), fz (mp N), fz (.tuple [fr N.a, fr N.b, fr N.c, fr N.d, fr 0, fr 0]), none, none]) (by simp [s1, c_NONE_eq, p1]),
    seq_nx (ρ' := [fz (mp M), fz (mp N), fz (.tuple [fr N.a, fr N.b, fr N.c, fr N.d, fr 0, fr 0]), fz (pt (N.a * M.a + N.c * M.b, N.b * M.a + N.d * M.b)), none]) (by simp [s2, e1]),
    seq_nx (ρ' := [fz (mp M), fz (mp N), fz (.tuple [fr N.a, fr N.b, fr N.c, fr N.d, fr 0, fr 0]), fz (pt (N.a * M.a + N.c * M.b, N.b * M.a + N.d * M.b)), fz (pt (N.a * M.c + N.c * M.d, N.b * M.c + N.d * M.d))]) (by simp [s3, e2])]
  have p2 : ∀ p q : Pt, pAdd (pt p) (pt q) = some (.tuple [fr p.1, fr p.2, fr q.1, fr q.2]) := fun p q => pAdd_ts (by simp)
  have p3 : ∀ (x y z u : PyData) (q : Pt), pAdd (.tuple [x, y, z, u]) (pt q) = some (.tuple [x, y, z, u, fr q.1, fr q.2]) := fun x y z u q => pAdd_ts (by simp)
  simp [s4, e3, p2, p3]
  rfl
theorem Sz.spr (h : MZ m l M) : Sz (4 * m + 1) (sprM M) := ((h.a.mul h.d).sub (h.b.mul h.c)).mono (by omega)
theorem m_spread_eq (h : MZ m l M) (hb : 4 * m ≤ 8900) : m_spread [mp M] = some (fr (sprM M)) := by
  have i0 : pIx (mp M) (.int 0) = some (fr M.a) := rfl
  have i1 : pIx (mp M) (.int 1) = some (fr M.b) := rfl
  have i2 : pIx (mp M) (.int 2) = some (fr M.c) := rfl
  have i3 : pIx (mp M) (.int 3) = some (fr M.d) := rfl
  have t1 := m_times_eq h.a h.d (by omega)
  have t2 := m_times_eq h.b h.c (by omega)
  have a1 := m_minus_eq (h.a.mul h.d) (h.b.mul h.c) (by omega)
  exact run_rt (by simp [b_spread, startR, i0, i1, i2, i3, t1, t2, a1, sprM])
theorem MZ.und (h : MZ m l M) : MZ (5 * m + 1) (2 * (5 * m + 1 + l) + 1) (undM M) := by
  have s := Sz.spr h
  have a := (h.a.div s (by omega)).mono (show m + (4 * m + 1) ≤ 5 * m + 1 by omega)
  have b := (h.b.div s (by omega)).mono (show m + (4 * m + 1) ≤ 5 * m + 1 by omega)
  have c := (h.c.div s (by omega)).mono (show m + (4 * m + 1) ≤ 5 * m + 1 by omega)
  have d := (h.d.div s (by omega)).mono (show m + (4 * m + 1) ≤ 5 * m + 1 by omega)
  exact ⟨d, b.neg, c.neg, a, (((d.mul h.e).add (c.neg.mul h.f)).neg).mono (by omega), (((b.neg.mul h.e).add (a.mul h.f)).neg).mono (by omega)⟩
theorem zero_sub' (x : Rat) : 0 - x = -x := by grind
theorem m_undone_eq (h : MZ m l M) (hs : sprM M ≠ 0) (hb : 2 * (5 * m + 1 + l) + 2 ≤ 8900) : m_undone [mp M] = some (mp (undM M)) := by
  have s := Sz.spr h
  have a := (h.a.div s (by omega)).mono (show m + (4 * m + 1) ≤ 5 * m + 1 by omega)
  have b := (h.b.div s (by omega)).mono (show m + (4 * m + 1) ≤ 5 * m + 1 by omega)
  have c := (h.c.div s (by omega)).mono (show m + (4 * m + 1) ≤ 5 * m + 1 by omega)
  have d := (h.d.div s (by omega)).mono (show m + (4 * m + 1) ≤ 5 * m + 1 by omega)
  have o1 := m_over_eq h.d s hs (by omega)
  have o2 := m_over_eq h.b s hs (by omega)
  have o3 := m_over_eq h.c s hs (by omega)
  have o4 := m_over_eq h.a s hs (by omega)
  have n2 := m_minus_eq sz0 b (by omega)
  have n3 := m_minus_eq sz0 c (by omega)
  rw [zero_sub'] at n2 n3
  have e3 := m_led_eq (p := (M.e, M.f)) (n := l) (M := ⟨M.d / sprM M, -(M.b / sprM M), -(M.c / sprM M), M.a / sprM M, 0, 0⟩) ⟨h.e, h.f⟩ ⟨d, b.neg, c.neg, a, sz0, sz0⟩ (by omega)
  have el : ledM (M.e, M.f) ⟨M.d / sprM M, -(M.b / sprM M), -(M.c / sprM M), M.a / sprM M, 0, 0⟩ = (M.d / sprM M * M.e + -(M.c / sprM M) * M.f, -(M.b / sprM M) * M.e + M.a / sprM M * M.f) := by simp [ledM, Rat.add_zero]
  rw [el] at e3
  have z1 := m_minus_eq sz0 ((d.mul h.e).add (c.neg.mul h.f)) (by omega)
  have z2 := m_minus_eq sz0 ((b.neg.mul h.e).add (a.mul h.f)) (by omega)
  rw [zero_sub'] at z1 z2
  have c3 : pt (M.e, M.f) = .tuple [fr M.e, fr M.f] := rfl
  have c4 : mp ⟨M.d / sprM M, -(M.b / sprM M), -(M.c / sprM M), M.a / sprM M, 0, 0⟩ = .tuple [fr (M.d / sprM M), fr (-(M.b / sprM M)), fr (-(M.c / sprM M)), fr (M.a / sprM M), fr 0, fr 0] := rfl
  rw [c3, c4] at e3
  have p2 : ∀ x y z u : PyData, pAdd (.tuple [x, y]) (.tuple [z, u]) = some (.tuple [x, y, z, u]) := fun x y z u => pAdd_ts (by simp)
  have p3 : ∀ x y z u v w : PyData, pAdd (.tuple [x, y, z, u]) (.tuple [v, w]) = some (.tuple [x, y, z, u, v, w]) := fun x y z u v w => pAdd_ts (by simp)
  have j0 : ∀ p : Pt, pIx (pt p) (.int 0) = some (fr p.1) := fun _ => rfl
  have j1 : ∀ p : Pt, pIx (pt p) (.int 1) = some (fr p.2) := fun _ => rfl
  refine run_rt ?_
  unfold b_undone
  rw [show startR N_undone [mp M] = [fz (mp M), none, none, none, none, none, none, none, none, none, none] from rfl]
  rw [seq_nx (ρ' := [fz (mp M), fz (fr (sprM M)), none, none, none, none, none, none, none, none, none]) (by simp [m_spread_eq h (by omega)]),
    seq_nx (ρ' := [fz (mp M), fz (fr (sprM M)), none, none, none, none, none, none, none, none, none]) (by simp [c_NONE_eq, pEq_fr, hs]),
    seq_nx (ρ' := [fz (mp M), fz (fr (sprM M)), fz (fr M.a), fz (fr M.b), fz (fr M.c), fz (fr M.d), fz (fr M.e), fz (fr M.f), none, none, none]) (by simp [mp]),
    seq_nx (ρ' := [fz (mp M), fz (fr (sprM M)), fz (fr M.a), fz (fr M.b), fz (fr M.c), fz (fr M.d), fz (fr M.e), fz (fr M.f), fz (.tuple [fr (M.d / sprM M), fr (-(M.b / sprM M))]), none, none]) (by simp [o1, o2, n2, c_NONE_eq]),
    seq_nx (ρ' := [fz (mp M), fz (fr (sprM M)), fz (fr M.a), fz (fr M.b), fz (fr M.c), fz (fr M.d), fz (fr M.e), fz (fr M.f), fz (.tuple [fr (M.d / sprM M), fr (-(M.b / sprM M))]), fz (.tuple [fr (-(M.c / sprM M)), fr (M.a / sprM M)]), none]) (by simp [o3, o4, n3, c_NONE_eq]),
    seq_nx (ρ' := [fz (mp M), fz (fr (sprM M)), fz (fr M.a), fz (fr M.b), fz (fr M.c), fz (fr M.d), fz (fr M.e), fz (fr M.f), fz (.tuple [fr (M.d / sprM M), fr (-(M.b / sprM M))]), fz (.tuple [fr (-(M.c / sprM M)), fr (M.a / sprM M)]), fz (pt (M.d / sprM M * M.e + -(M.c / sprM M) * M.f, -(M.b / sprM M) * M.e + M.a / sprM M * M.f))]) (by simp [p2, p3, e3, c_NONE_eq])]
  simp [p2, p3, j0, j1, z1, z2, c_NONE_eq]
  rfl
theorem r_undone_eq (h : MZ m l M) (hs : sprM M = 0) (hb : 4 * m ≤ 8900) : r_undone [mp M] = some "NoMap" := by
  show rb_undone (startR N_undone [mp M]) = _
  unfold rb_undone
  simp [startR, rSeq, rIf, m_spread_eq h hb, c_NONE_eq, pEq_fr, hs, rK]
theorem m_from_corner_eq (h1 : PS n p) (h2 : PS n q) (h3 : PS n r) (h : 2 * n ≤ 8900) : m_from_corner [.tuple [pt p, pt q, pt r]] = some (mp (fcM p q r)) := by
  have a1 := m_apart_eq h2 h1 (by omega)
  have a2 := m_apart_eq h3 h1 (by omega)
  have p2 : ∀ p q : Pt, pAdd (pt p) (pt q) = some (.tuple [fr p.1, fr p.2, fr q.1, fr q.2]) := fun p q => pAdd_ts (by simp)
  have p3 : ∀ (x y z u : PyData) (q : Pt), pAdd (.tuple [x, y, z, u]) (pt q) = some (.tuple [x, y, z, u, fr q.1, fr q.2]) := fun x y z u q => pAdd_ts (by simp)
  refine run_rt ?_
  simp [b_from_corner, startR, a1, a2, p2, p3]
  rfl
theorem MZ.fc (h1 : PS n p) (h2 : PS n q) (h3 : PS n r) : MZ (2 * n + 1) n (fcM p q r) :=
  ⟨(h2.1.sub h1.1).mono (by omega), (h2.2.sub h1.2).mono (by omega), (h3.1.sub h1.1).mono (by omega), (h3.2.sub h1.2).mono (by omega), h1.1, h1.2⟩
end
end Dm

set_option Elab.async false
set_option linter.all false
set_option maxRecDepth 100000
set_option maxHeartbeats 4000000
/-! k01: things -/
namespace Dm
open PySem PySem.Spec L2 Dw
def isWh : PyData → Bool
  | .int _ => true
  | _ => false
theorem ty_int (d : PyData) : (isTy "int" d && !isTy "bool" d) = isWh d := by cases d <;> rfl
theorem m_is_whole_eq (d : PyData) : m_is_whole [d] = some (.bool (isWh d)) := by
  refine run_rt ?_
  unfold b_is_whole
  rw [show startR N_is_whole [d] = [fz d] from rfl, ret_ap, ← ty_int d]
  cases h : isTy "int" d <;> simp [h]
def isFr : PyData → Bool
  | .tuple [.int a, .int b] => decide (0 < b) && decide (Int.gcd a b = 1)
  | _ => false
def tup2 : PyData → Option (PyData × PyData)
  | .tuple [a, b] => some (a, b)
  | _ => none
theorem m_is_fraction_eq (d : PyData) : m_is_fraction [d] = some (.bool (isFr d)) := by
  refine run_rt ?_
  unfold b_is_fraction
  rw [show startR N_is_fraction [d] = [fz d] from rfl]
  have no : ∀ e : PyData, isTy "tuple" e = false → isFr e = false := fun e h => by cases e <;> first | rfl | cases h
  have tt : ∀ ds, isTy "tuple" (.tuple ds) = true := fun _ => rfl
  by_cases ht : isTy "tuple" d = true
  · obtain ⟨ds, rfl⟩ : ∃ ds, d = .tuple ds := by
      cases d with
      | tuple ds => exact ⟨ds, rfl⟩
      | _ => exact absurd ht Bool.false_ne_true
    clear ht
    by_cases hl : ds.length = 2
    · match ds, hl with
      | [a, b], _ =>
        have wa := m_is_whole_eq a
        have wb := m_is_whole_eq b
        have lp : pLen [.tuple [a, b]] = some (.int 2) := rfl
        have i0 : pIx (.tuple [a, b]) (.int 0) = some a := rfl
        have i1 : pIx (.tuple [a, b]) (.int 1) = some b := rfl
        cases ha : isWh a
        · rw [ha] at wa
          have : isFr (.tuple [a, b]) = false := by cases a <;> first | rfl | cases ha
          rw [this]
          refine seq_rt ?_
          simp [tt, wa]
        · cases hb : isWh b
          · rw [ha] at wa
            rw [hb] at wb
            have : isFr (.tuple [a, b]) = false := by
              cases b with
              | int y => cases hb
              | _ => cases a <;> rfl
            rw [this]
            refine seq_rt ?_
            simp [tt, wa, wb]
          · obtain ⟨x, rfl⟩ : ∃ x, a = .int x := by
              cases a with
              | int x => exact ⟨x, rfl⟩
              | _ => cases ha
            obtain ⟨y, rfl⟩ : ∃ y, b = .int y := by
              cases b with
              | int y => exact ⟨y, rfl⟩
              | _ => cases hb
            rw [seq_nx (ρ' := [fz (.tuple [.int x, .int y])]) (by simp [tt, wa, wb, isWh]), ret_ap]
            have g : (PyData.int (Int.gcd x y : Nat)) = .int ((Int.gcd x y : Nat) : Int) := rfl
            by_cases h0 : 0 < y
            · have e : (((Int.gcd x y : Nat) : Int) == 1) = decide (Int.gcd x y = 1) := by
                by_cases q : Int.gcd x y = 1
                · rw [q]; rfl
                · rw [decide_eq_false q]; simp; omega
              simp [m_divisor_eq, h0, isFr]
              exact e
            · simp [h0, isFr]
    · have lp : pLen [.tuple ds] = some (.int (ds.length : Int)) := by simp
      have : isFr (.tuple ds) = false := by
        unfold isFr
        split
        · rename_i q; cases q; exact absurd rfl hl
        · rfl
      rw [this]
      refine seq_rt ?_
      have hne : ¬ ((ds.length : Int) = 2) := by omega
      simp [tt, hne]
  · have ht' : isTy "tuple" d = false := by simpa using ht
    rw [no d ht']
    exact seq_rt (by simp [ht'])
end Dm

set_option Elab.async false
set_option linter.all false
set_option maxRecDepth 100000
set_option maxHeartbeats 4000000
/-! k01: is_way, by the program and by the law, of any small data -/
namespace Dm
open PySem PySem.Spec L2 Dw
theorem strOk_of (s : String) : PyData.strOk (PySem.Str.ofString s) = true := by
  unfold PyData.strOk
  rw [PySem.Str.ofString_eq_toList]
  simp only [List.all_toArray, List.all_map, List.all_eq_true, Function.comp, decide_eq_true_eq]
  intro c _
  have h := c.valid
  have ht : c.toNat = c.val.toNat := rfl
  simp only [UInt32.isValidChar, Nat.isValidChar] at h
  omega
inductive Sml (n : Nat) : PyData → Prop
  | none : Sml n .none
  | bool (b : Bool) : Sml n (.bool b)
  | int {i : Int} : i.natAbs < 2 ^ n → Sml n (.int i)
  | str {s : Str} : PyData.strOk s = true → Sml n (.str s)
  | list {ds : List PyData} : ds.length ≤ n → (∀ x ∈ ds, Sml n x) → Sml n (.list ds)
  | tuple {ds : List PyData} : ds.length ≤ n → (∀ x ∈ ds, Sml n x) → Sml n (.tuple ds)
theorem Sml.mono {n m : Nat} {d : PyData} (h : Sml n d) (hm : n ≤ m) : Sml m d := by
  induction h with
  | none => exact .none
  | bool b => exact .bool b
  | int h => exact .int (Nat.lt_of_lt_of_le h (Nat.pow_le_pow_right (by decide) hm))
  | str h => exact .str h
  | list hl _ ih => exact .list (Nat.le_trans hl hm) ih
  | tuple hl _ ih => exact .tuple (Nat.le_trans hl hm) ih
theorem layAll_mem {ds : List PyData} (h : ∀ x ∈ ds, x.canLay0 = true) : PyData.canLayAll0 ds = true := by
  induction ds with
  | nil => simp [PyData.canLayAll0]
  | cons x xs ih => simp only [PyData.canLayAll0, h x (by simp), ih fun y hy => h y (by simp [hy]), Bool.and_self]
theorem Sml.lay {n : Nat} {d : PyData} (h : Sml n d) : d.canLay0 = true := by
  induction h with
  | none => simp [PyData.canLay0]
  | bool b => simp [PyData.canLay0]
  | int h => simp [PyData.canLay0]
  | str h => simpa [PyData.canLay0] using h
  | list hl _ ih => simp only [PyData.canLay0]; exact layAll_mem ih
  | tuple hl _ ih => simp only [PyData.canLay0]; exact layAll_mem ih
theorem fr_low {a b : Int} (hb : 0 < b) : (((Rat.divInt a b).num == a) && (((Rat.divInt a b).den : Int) == b)) = decide (Int.gcd a b = 1) := by
  by_cases h : Int.gcd a b = 1
  · have e : Rat.divInt a b = ⟨a, b.toNat, by omega, by unfold Int.gcd at h; rw [show b.toNat = b.natAbs by omega]; exact h⟩ := by
      rw [Rat.mk_eq_divInt]
      congr 1
      omega
    rw [e, decide_eq_true h]
    simp
    omega
  · rw [decide_eq_false h]
    cases hh : (((Rat.divInt a b).num == a) && (((Rat.divInt a b).den : Int) == b))
    · rfl
    · obtain ⟨h1, h2⟩ := Bool.and_eq_true_iff.mp hh
      have h1 := eq_of_beq h1
      have h2 := eq_of_beq h2
      exfalso
      apply h
      have := (Rat.divInt a b).reduced
      unfold Int.gcd
      rw [h1] at this
      rw [show b.natAbs = (Rat.divInt a b).den by omega]
      exact this
theorem isTup (d : PyData) : (∃ ds, d = .tuple ds) ∨ isTy "tuple" d = false := by
  cases d with
  | tuple ds => exact .inl ⟨ds, rfl⟩
  | _ => exact .inr rfl
theorem isStr (d : PyData) : (∃ s, d = .str s) ∨ isTy "str" d = false := by
  cases d with
  | str ds => exact .inl ⟨ds, rfl⟩
  | _ => exact .inr rfl
theorem ty_tup (ds : List PyData) : isTy "tuple" (.tuple ds) = true := rfl
theorem ty_str (s : Str) : isTy "str" (.str s) = true := rfl
theorem isWh_of {d : PyData} (h : isWh d = true) : ∃ x, d = .int x := by
  cases d with
  | int x => exact ⟨x, rfl⟩
  | _ => cases h
theorem isFr_tup {d : PyData} (h : isFr d = true) : ∃ a b : Int, d = .tuple [.int a, .int b] ∧ 0 < b ∧ Int.gcd a b = 1 := by
  unfold isFr at h
  split at h
  · obtain ⟨h1, h2⟩ := Bool.and_eq_true_iff.mp h
    exact ⟨_, _, rfl, of_decide_eq_true h1, of_decide_eq_true h2⟩
  · cases h
theorem isFr_wh {a b : PyData} (h : (isWh a && isWh b) = false) : isFr (.tuple [a, b]) = false := by
  unfold isFr
  split
  · rename_i q; cases q; cases h
  · rfl
theorem isFr_len {ds : List PyData} (h : ds.length ≠ 2) : isFr (.tuple ds) = false := by
  unfold isFr
  split
  · rename_i q; cases q; exact absurd rfl h
  · rfl
theorem m_law_is_fraction_eq {n : Nat} (hn : n ≤ 8000) {d : PyData} (hd : Sml n d) : m__law_is_fraction [d] = some (.bool (isFr d)) := by
  refine run_rt ?_
  unfold b__law_is_fraction
  rw [show startR N__law_is_fraction [d] = [fz d, none, none] from rfl]
  rcases isTup d with ⟨ds, rfl⟩ | h
  · by_cases hl : ds.length = 2
    · match ds, hl with
      | [a, b], _ =>
        have lp : pLen [.tuple [a, b]] = some (.int 2) := rfl
        have i0 : pIx (.tuple [a, b]) (.int 0) = some a := rfl
        have i1 : pIx (.tuple [a, b]) (.int 1) = some b := rfl
        have l2 : pNe (.int 2) (.int 2) = some (.bool false) := rfl
        rw [seq_nx (ρ' := [fz (.tuple [a, b]), none, none]) (by simp only [sIf_ap, mOr_ap, mNot_ap, mTest_ap, mIsi_ap, mVar0, Option.bind_some, asB_ap, ty_tup, Bool.not_true, mBin_ap, mCall_ap, mCons_ap, mNil_ap, lp, mK_ap, l2, sNil_ap, if_neg Bool.false_ne_true])]
        have lc : mLc (mItems (mVar 0)) (gN 2) (mAnd (mTest (mIsi "int" (mVar 2))) (mNot (mTest (mIsi "bool" (mVar 2))))) (mVar 2) [2] [fz (.tuple [a, b]), none, none] = some ([a, b].filter isWh) := by
          have := mLc_gen (emb := id) (f := id) (p := isWh) (xs := [a, b]) (fi := mItems (mVar 0)) (g := gN 2) (ft := mAnd (mTest (mIsi "int" (mVar 2))) (mNot (mTest (mIsi "bool" (mVar 2))))) (fe := mVar 2) (vs := [2]) (ρ := [fz (.tuple [a, b]), none, none]) (by simp) (by simp)
            (fun x _ => ⟨[fz (.tuple [a, b]), none, fz x], rfl, by rw [← ty_int]; cases h : isTy "int" x <;> simp [h], fun _ => rfl⟩)
          rw [this]; simp
        rw [seq_nx (ρ' := [fz (.tuple [a, b]), fz (.list ([a, b].filter isWh)), none]) (by rw [sSetCf_ap, lc]; rfl), ret_ap]
        cases hw : (isWh a && isWh b)
        · rw [isFr_wh hw]
          have : ([a, b].filter isWh).length ≠ 2 := by
            cases ha : isWh a <;> cases hb : isWh b <;> simp [ha, hb] at hw ⊢
          generalize [a, b].filter isWh = zs at *
          have hz : ((zs.length : Int) == 2) = false := by simp; omega
          simp only [List.map_cons, List.map_nil, frzS_frz, frzS_none, mAndV_ap, mBin_ap, mCall_ap, mCons_ap, mNil_ap, mVar1, mVar0, Option.bind_some, pLen_l, mK_ap, pEq_i, hz, asB_ap, if_neg Bool.false_ne_true]
        · obtain ⟨h1, h2⟩ := Bool.and_eq_true_iff.mp hw
          obtain ⟨x, rfl⟩ := isWh_of h1
          obtain ⟨y, rfl⟩ := isWh_of h2
          have e2 : ([PyData.int x, .int y].filter isWh) = [.int x, .int y] := rfl
          rw [e2]
          by_cases h0 : 0 < y
          · cases hd with
            | tuple _ hd =>
              have := hd (.int y) (by simp)
              cases this with
              | int hy =>
                have hy' : y.natAbs < 2 ^ 9000 := Nat.lt_of_lt_of_le hy (Nat.pow_le_pow_right (by decide) (by omega))
                have f1 := m_law_fr_eq (u := x) (l := y) (by omega) hy'
                have f2 : pEq (fr (Rat.divInt x y)) (.tuple [.int x, .int y]) = some (.bool (decide (Int.gcd x y = 1))) := by
                  rw [pEq_g (eqOk_of' (by simp [fr, PyData.canLay0, PyData.canLayAll0]) (by simp [PyData.canLay0, PyData.canLayAll0]) (by simp [PyData.depth, PyData.depthAll]))]
                  rw [← fr_low h0]
                  simp [fr, PyData.eqv, PyData.eqvAll]
                simp [f1, f2, h0, isFr]
          · simp [h0, isFr]
    · rw [isFr_len hl]
      refine seq_rt ?_
      have hne : ¬ ((ds.length : Int) = 2) := by omega
      simp [ty_tup, hne]
  · have : isFr d = false := by cases d <;> first | rfl | cases h
    rw [this]
    exact seq_rt (by simp [h])
end Dm

set_option Elab.async false
set_option linter.all false
set_option maxRecDepth 100000
set_option maxHeartbeats 4000000
namespace Dm
open PySem PySem.Spec L2 Dw
def lowsL : List Int := [1, 2, 4, 5, 10, 20, 25, 50, 100]
def smI (a b : Int) : Bool := decide (a.natAbs ≤ 9999) && lowsL.any (fun z => z == b)
def smB : PyData → Bool
  | .tuple [.int a, .int b] => isFr (.tuple [.int a, .int b]) && smI a b
  | _ => false
def ptB : PyData → Bool
  | .tuple [x, y] => smB x && smB y
  | _ => false
def lenOf (s : Str) : Int := if s = "move" then 2 else if s = "line" then 2 else if s = "bow" then 3 else if s = "wave" then 4 else if s = "shut" then 1 else 0
def stB : PyData → Bool
  | .tuple (.str s :: ps) => (lenOf s == ((ps.length + 1 : Nat) : Int)) && ps.all ptB
  | _ => false
def mvB : List PyData → Bool
  | [] => true
  | .tuple (.str s :: _) :: _ => s == "move"
  | _ => false
def wayB : PyData → Bool
  | .tuple ds => decide (ds.length ≤ 12) && ds.all stB && mvB ds
  | _ => false
theorem smB_fr {d : PyData} (h : isFr d = false) : smB d = false := by
  unfold smB
  split
  · rw [h]; rfl
  · rfl
theorem pIn_low (b : Int) : pIn (.int b) c_LOWERS = some (.bool (lowsL.any fun z => z == b)) := by
  unfold c_LOWERS pIn
  simp only
  rw [if_pos (by simp [inOk, PyData.canLay0, PyData.canLayAll0, PyData.depth])]
  simp [lowsL, PyData.eqv]
theorem abs_le (a : Int) : decide ((if a < 0 then -a else a) ≤ 9999) = decide (a.natAbs ≤ 9999) := by
  by_cases h : a.natAbs ≤ 9999
  · rw [decide_eq_true h, decide_eq_true]; split <;> omega
  · rw [decide_eq_false h, decide_eq_false]; split <;> omega
theorem m_is_small_eq (d : PyData) : m_is_small [d] = some (.bool (smB d)) := by
  refine run_rt ?_
  unfold b_is_small
  rw [show startR N_is_small [d] = [fz d] from rfl, ret_ap]
  have f := m_is_fraction_eq d
  cases h : isFr d
  · rw [smB_fr h]; rw [h] at f; simp [f]
  · obtain ⟨a, b, rfl, h1, h2⟩ := isFr_tup h
    rw [h] at f
    have i0 : pIx (.tuple [.int a, .int b]) (.int 0) = some (.int a) := rfl
    have i1 : pIx (.tuple [.int a, .int b]) (.int 1) = some (.int b) := rfl
    have c1 : pLe (.int (if a < 0 then -a else a)) c_MOST_UPPER = some (.bool (decide (a.natAbs ≤ 9999))) := by rw [← abs_le]; rfl
    have e : smB (.tuple [.int a, .int b]) = smI a b := by
      show (isFr (.tuple [.int a, .int b]) && smI a b) = smI a b
      rw [h]; rfl
    rw [e]
    unfold smI
    simp only [List.map_cons, List.map_nil, frzS_frz, mAndV_ap, mCall_ap, mCons_ap, mNil_ap, mVar0, Option.bind_some, f, asB_ap, if_true, mBin_ap, mK_ap, i0, i1, pAbs_i, c1, pIn_low]
    cases decide (a.natAbs ≤ 9999) <;> simp
theorem ptB_len {ds : List PyData} (h : ds.length ≠ 2) : ptB (.tuple ds) = false := by
  unfold ptB
  split
  · rename_i q; cases q; exact absurd rfl h
  · rfl
theorem ptB_no {d : PyData} (h : isTy "tuple" d = false) : ptB d = false := by cases d <;> first | rfl | cases h
theorem m_is_point_eq (d : PyData) : m_is_point [d] = some (.bool (ptB d)) := by
  refine run_rt ?_
  unfold b_is_point
  rw [show startR N_is_point [d] = [fz d] from rfl, ret_ap]
  rcases isTup d with ⟨ds, rfl⟩ | h
  · by_cases hl : ds.length = 2
    · match ds, hl with
      | [a, b], _ =>
        have lp : pLen [.tuple [a, b]] = some (.int 2) := rfl
        have i0 : pIx (.tuple [a, b]) (.int 0) = some a := rfl
        have i1 : pIx (.tuple [a, b]) (.int 1) = some b := rfl
        have l2 : pEq (.int 2) (.int 2) = some (.bool true) := rfl
        have fa := m_is_small_eq a
        have fb := m_is_small_eq b
        show _ = some (Out.rt (.bool (smB a && smB b)))
        simp only [List.map_cons, List.map_nil, frzS_frz, mAndV_ap, mIsi_ap, ty_tup, mCall_ap, mCons_ap, mNil_ap, mVar0, Option.bind_some, fa, fb, asB_ap, if_true, mBin_ap, mK_ap, i0, i1, lp, l2]
        cases smB a <;> simp
    · rw [ptB_len hl]
      have hne : ¬ ((ds.length : Int) = 2) := by omega
      simp [ty_tup, hne]
  · rw [ptB_no h]
    simp [h]
theorem blsOf_map (l : List Bool) : blsOf (l.map PyData.bool) = some l := by
  induction l with
  | nil => rfl
  | cons b l ih => simp [blsOf, ih]
theorem pAll_map {α : Type} (xs : List α) (p : α → Bool) : pAll [.list (xs.map fun x => PyData.bool (p x))] = some (.bool (xs.all p)) := by
  have e : (xs.map fun x => PyData.bool (p x)) = (xs.map p).map PyData.bool := by simp
  rw [e]
  show (blsOf ((xs.map p).map PyData.bool)).map _ = _
  rw [blsOf_map]
  simp [List.all_map]
theorem gget_len (s : Str) {ρ : Rho} {f : Mr PyData} (hf : f ρ = some (.str s)) : mGget dc_LENGTHS f (mK (.int 0)) ρ = some (.int (lenOf s)) := by
  unfold mGget
  rw [hf]
  simp only [Option.bind_some, mK_ap]
  unfold dc_LENGTHS lenOf
  simp only [List.lookup]
  by_cases h1 : s = "move"
  · subst h1; rfl
  · by_cases h2 : s = "line"
    · subst h2; rfl
    · by_cases h3 : s = "bow"
      · subst h3; rfl
      · by_cases h4 : s = "wave"
        · subst h4; rfl
        · by_cases h5 : s = "shut"
          · subst h5; rfl
          · simp only [beq_eq_false_iff_ne.mpr h1, beq_eq_false_iff_ne.mpr h2, beq_eq_false_iff_ne.mpr h3, beq_eq_false_iff_ne.mpr h4, beq_eq_false_iff_ne.mpr h5, if_neg h1, if_neg h2, if_neg h3, if_neg h4, if_neg h5]
            rfl
theorem cut1 {a : PyData} {ps : List PyData} : cutD (a :: ps) (some 1) none = ps := by
  rw [cut_tail]
  rfl
theorem stB_no {d : PyData} (h : isTy "tuple" d = false) : stB d = false := by cases d <;> first | rfl | cases h
theorem stB_str {d : PyData} {ps : List PyData} (h : isTy "str" d = false) : stB (.tuple (d :: ps)) = false := by cases d <;> first | rfl | cases h
theorem lenOf_le (s : Str) : lenOf s ≤ 4 := by
  unfold lenOf
  repeat' split
  all_goals decide
theorem m_is_stroke_eq (d : PyData) : m_is_stroke [d] = some (.bool (stB d)) := by
  refine run_rt ?_
  unfold b_is_stroke
  rw [show startR N_is_stroke [d] = [fz d, none] from rfl]
  rcases isTup d with ⟨ds, rfl⟩ | h
  · match ds with
    | [] =>
      refine seq_rt ?_
      show _ = some (Out.rt (.bool false))
      simp [ty_tup]
    | a :: ps =>
      have i0 : pIx (.tuple (a :: ps)) (.int 0) = some a := by simp [atI, ixN]
      have hl : ¬ (((a :: ps).length : Int) = 0) := by simp; omega
      rcases isStr a with ⟨s, rfl⟩ | h
      · rw [seq_nx (ρ' := [fz (.tuple (.str s :: ps)), none]) (by
          simp only [sIf_ap, mOr_ap, mNot_ap, mTest_ap, mIsi_ap, mVar0, Option.bind_some, asB_ap, ty_tup, Bool.not_true, mBin_ap, mCall_ap, mCons_ap, mNil_ap, pLen_t, mK_ap, pEq_i, beq_eq_false_iff_ne.mpr hl, i0, ty_str, sNil_ap, if_neg Bool.false_ne_true]), ret_ap]
        show _ = some (Out.rt (.bool ((lenOf s == ((ps.length + 1 : Nat) : Int)) && ps.all ptB)))
        have g := gget_len s (ρ := [fz (.tuple (.str s :: ps)), none]) (f := mBin pIx (mVar 0) (mK (.int 0))) (by simp only [mBin_ap, mVar0, mK_ap, Option.bind_some, i0])
        simp only [List.map_cons, List.map_nil, frzS_frz, frzS_none, mAndV_ap, mBin_ap, g, Option.bind_some, mCall_ap, mCons_ap, mNil_ap, mVar0, pLen_t, pEq_i, asB_ap, List.length_cons, mLst_ap]
        cases hq : (lenOf s == ((ps.length + 1 : Nat) : Int))
        · simp
        · have := eq_of_beq hq
          have h4 := lenOf_le s
          have lc := mLc_all (fi := mItems (mSl (mVar 0) (oAt (mK (.int 1))) oNo)) (fe := mCall m_is_point (mCons (mVar 1) mNil)) (j := 1) (ρ := [fz (.tuple (.str s :: ps)), none]) (emb := id) (f := fun x => PyData.bool (ptB x)) (xs := ps) (by simp [cut1]) (by omega)
            (fun x _ => by
              show (mCall m_is_point (mCons (mVar 1) mNil)) [fz (.tuple (.str s :: ps)), fz x] = _
              simp [m_is_point_eq])
          rw [lc]
          simp only [Option.bind_some, pAll_map]
          simp
      · rw [stB_str h]
        refine seq_rt ?_
        simp [ty_tup, i0, h, hl]
  · rw [stB_no h]
    refine seq_rt ?_
    simp [h]
theorem m_is_way_eq (d : PyData) : m_is_way [d] = some (.bool (wayB d)) := by
  refine run_rt ?_
  unfold b_is_way
  rw [show startR N_is_way [d] = [fz d, none] from rfl]
  rcases isTup d with ⟨ds, rfl⟩ | h
  · have g1 : pGt (.int (ds.length : Int)) c_MOST_STROKES = some (.bool (decide (12 < ds.length))) := by
      show some (PyData.bool (decide ((12 : Int) < ds.length))) = _
      congr 2
      exact decide_eq_decide.mpr (by omega)
    by_cases hl : ds.length ≤ 12
    · have lc := mLc_all (fi := mItems (mVar 0)) (fe := mCall m_is_stroke (mCons (mVar 1) mNil)) (j := 1) (ρ := [fz (.tuple ds), none]) (emb := id) (f := fun x => PyData.bool (stB x)) (xs := ds) (by simp) (by omega)
        (fun x _ => by
          show (mCall m_is_stroke (mCons (mVar 1) mNil)) [fz (.tuple ds), fz x] = _
          simp [m_is_stroke_eq])
      have g2 : ¬ (12 < ds.length) := by omega
      have ew : wayB (.tuple ds) = (ds.all stB && mvB ds) := by simp [wayB, hl]
      rw [ew]
      cases ha : ds.all stB
      · refine seq_rt ?_
        simp only [sIf_ap, mOr_ap, mNot_ap, mTest_ap, mIsi_ap, mVar0, Option.bind_some, asB_ap, ty_tup, Bool.not_true, mBin_ap, mCall_ap, mCons_ap, mNil_ap, pLen_t, mK_ap, g1, decide_eq_false g2, mLst_ap, lc, pAll_map, ha, if_neg Bool.false_ne_true]
        simp
      · rw [seq_nx (ρ' := [fz (.tuple ds), none]) (by
          simp only [sIf_ap, mOr_ap, mNot_ap, mTest_ap, mIsi_ap, mVar0, Option.bind_some, asB_ap, ty_tup, Bool.not_true, mBin_ap, mCall_ap, mCons_ap, mNil_ap, pLen_t, mK_ap, g1, decide_eq_false g2, mLst_ap, lc, pAll_map, ha, if_neg Bool.false_ne_true, sNil_ap]), ret_ap]
        match ds, ha with
        | [], _ => simp [mvB]
        | x :: r, ha =>
          have hx : stB x = true := by simp at ha; exact ha.1
          unfold stB at hx
          split at hx
          · rename_i s ps
            have i0 : pIx (.tuple (.tuple (.str s :: ps) :: r)) (.int 0) = some (.tuple (.str s :: ps)) := by simp [atI, ixN]
            have i1 : pIx (.tuple (.str s :: ps)) (.int 0) = some (.str s) := by simp [atI, ixN]
            have e1 : pEq (.str s) c_MOVE = some (.bool (s == "move")) := rfl
            have hl : ¬ (((PyData.tuple (.str s :: ps) :: r).length : Int) = 0) := by simp; omega
            simp only [List.map_cons, List.map_nil, frzS_frz, frzS_none, mOrV_ap, mBin_ap, Option.bind_some, mCall_ap, mCons_ap, mNil_ap, mVar0, mK_ap, pLen_t, pEq_i, asB_ap, beq_eq_false_iff_ne.mpr hl, if_neg Bool.false_ne_true, i0, i1, e1]
            simp [mvB]
          · cases hx
    · have ew : wayB (.tuple ds) = false := by simp [wayB, hl]
      rw [ew]
      refine seq_rt ?_
      have g2 : 12 < ds.length := by omega
      simp [ty_tup, g1, g2]
  · have : wayB d = false := by cases d <;> first | rfl | cases h
    rw [this]
    refine seq_rt ?_
    simp [h]
end Dm

set_option Elab.async false
set_option linter.all false
set_option maxRecDepth 100000
set_option maxHeartbeats 4000000
namespace Dm
open PySem PySem.Spec L2 Dw
/-- a loop that leaves with False where an item is no good -/
theorem forL_all {g : MG} {body : MS} {P : PyData → Bool} {I : Rho → Prop} : ∀ (ds : List PyData) (ρ : Rho), I ρ →
    (∀ d ∈ ds, ∀ ρ, I ρ → (P d = true → ∃ ρ', (g d ρ).bind body = some (.nx ρ') ∧ I ρ') ∧ (P d = false → (g d ρ).bind body = some (.rt (.bool false)))) →
    (ds.all P = true → ∃ ρ', forL g body ds ρ = some (.nx ρ') ∧ I ρ') ∧ (ds.all P = false → forL g body ds ρ = some (.rt (.bool false)))
  | [], ρ, h0, _ => ⟨fun _ => ⟨ρ, rfl, h0⟩, fun h => by cases h⟩
  | d :: ds, ρ, h0, st => by
    obtain ⟨s1, s2⟩ := st d (by simp) ρ h0
    have un : forL g body (d :: ds) ρ = ((g d ρ).bind body).bind fun o => match o with
      | .nx ρ2 => forL g body ds ρ2
      | .ct ρ2 => forL g body ds ρ2
      | .bk ρ2 => some (.nx ρ2)
      | .rt d => some (.rt d) := by
      show ((g d ρ).bind fun ρ1 => (body ρ1).bind _) = _
      rw [Option.bind_assoc]
      try rfl
    rw [un]
    cases hp : P d
    · refine ⟨fun h => by simp [hp] at h, fun _ => ?_⟩
      rw [s2 hp]
      rfl
    · obtain ⟨ρ', e, h1⟩ := s1 hp
      rw [e]
      have ih := forL_all ds ρ' h1 fun d hd => st d (by simp [hd])
      simpa [hp] using ih
abbrev lowT : Mr PyData := mTup (mCons (mK (.int 1)) (mCons (mK (.int 2)) (mCons (mK (.int 4)) (mCons (mK (.int 5)) (mCons (mK (.int 10)) (mCons (mK (.int 20)) (mCons (mK (.int 25)) (mCons (mK (.int 50)) (mCons (mK (.int 100)) mNil)))))))))
theorem lowT_ap (ρ : Rho) : lowT ρ = some c_LOWERS := rfl
theorem pNotIn_low (b : Int) : pNotIn (.int b) c_LOWERS = some (.bool (!lowsL.any fun z => z == b)) := by
  unfold pNotIn
  rw [pIn_low]
  rfl
theorem abs_gt (a : Int) : decide (9999 < (if a < 0 then -a else a)) = !decide (a.natAbs ≤ 9999) := by
  by_cases h : a.natAbs ≤ 9999
  · rw [decide_eq_true h, decide_eq_false]; rfl; split <;> omega
  · rw [decide_eq_false h, decide_eq_true]; rfl; split <;> omega
noncomputable abbrev body3 : MS := sIf (mOr (mTest (mBin pGt (mCall pAbs (mCons (mVar 3) mNil)) (mK (.int 9999)))) (mTest (mBin pNotIn (mVar 4) lowT))) (sRet (mK (.bool false))) sNil
theorem step3 {x : PyData} (hx : isFr x = true) (z0 z1 z2 z3 z4 z5 : Option Slt) :
    (smB x = true → ∃ z3' z4', ((gT 2 (gs1 (gN 3) (gs1 (gN 4) gs0'))) x [z0, z1, z2, z3, z4, z5]).bind body3 = some (.nx [z0, z1, z2, z3', z4', z5])) ∧
    (smB x = false → ((gT 2 (gs1 (gN 3) (gs1 (gN 4) gs0'))) x [z0, z1, z2, z3, z4, z5]).bind body3 = some (.rt (.bool false))) := by
  obtain ⟨a, b, rfl, h1, h2⟩ := isFr_tup hx
  have e : smB (.tuple [.int a, .int b]) = smI a b := by
    show (isFr (.tuple [.int a, .int b]) && smI a b) = smI a b
    rw [hx]; rfl
  have g : (gT 2 (gs1 (gN 3) (gs1 (gN 4) gs0'))) (.tuple [.int a, .int b]) [z0, z1, z2, z3, z4, z5] = some [z0, z1, z2, fz (.int a), fz (.int b), z5] := by simp
  rw [e, g]
  unfold smI
  simp only [Option.bind_some, sIf_ap, mOr_ap, mTest_ap, mBin_ap, mCall_ap, mCons_ap, mNil_ap, mVar3, mVar4, mVar0, pAbs_i, mK_ap, pGt_i, asB_ap, abs_gt, lowT_ap, pNotIn_low]
  cases decide (a.natAbs ≤ 9999)
  · simp
  · cases (lowsL.any fun z => z == b)
    · simp
    · simp
noncomputable abbrev body2 : MS := (sSeq (sIf (mOr (mNot (mTest (mIsi "tuple" (mVar 2)))) (mTest (mBin pNe (mCall pLen (mCons (mVar 2) mNil)) (mK (.int 2))))) (sRet (mK (.bool false)))
  sNil)
  (sSeq (sIf (mTest (mBin pNe (mLst (mLc (mItems (mVar 2)) (gN 5) (mNot (mTest (mCall m__law_is_fraction (mCons (mVar 5) mNil)))) (mVar 5) [5])) (mLst mNil))) (sRet (mK (.bool false)))
  sNil)
  (sFor (mItems (mVar 2)) (gT 2 (gs1 (gN 3) (gs1 (gN 4) gs0'))) body3)))
theorem smB_isFr {d : PyData} (h : smB d = true) : isFr d = true := by
  cases hh : isFr d
  · rw [smB_fr hh] at h; cases h
  · rfl
theorem Sml.tups {n : Nat} {ds : List PyData} (h : Sml n (.tuple ds)) : ds.length ≤ n ∧ ∀ x ∈ ds, Sml n x := by
  cases h with
  | tuple h1 h2 => exact ⟨h1, h2⟩
theorem step2 {n : Nat} (hn : n ≤ 8000) {p : PyData} (hp : Sml n p) (z0 z1 z2 z3 z4 z5 : Option Slt) :
    (ptB p = true → ∃ z2' z3' z4' z5', (gN 2 p [z0, z1, z2, z3, z4, z5]).bind body2 = some (.nx [z0, z1, z2', z3', z4', z5'])) ∧
    (ptB p = false → (gN 2 p [z0, z1, z2, z3, z4, z5]).bind body2 = some (.rt (.bool false))) := by
  rw [show gN 2 p [z0, z1, z2, z3, z4, z5] = some [z0, z1, fz p, z3, z4, z5] from rfl, Option.bind_some]
  rcases isTup p with ⟨ds, rfl⟩ | h
  · by_cases hl : ds.length = 2
    · match ds, hl with
      | [a, b], _ =>
        obtain ⟨_, hd⟩ := hp.tups
        have lp : pLen [.tuple [a, b]] = some (.int 2) := rfl
        have l2 : pNe (.int 2) (.int 2) = some (.bool false) := rfl
        have ep : ptB (.tuple [a, b]) = (smB a && smB b) := rfl
        rw [ep]
        unfold body2
        rw [seq_nx (ρ' := [z0, z1, fz (.tuple [a, b]), z3, z4, z5]) (by simp only [sIf_ap, mOr_ap, mNot_ap, mTest_ap, mIsi_ap, mVar2, mVar0, Option.bind_some, asB_ap, ty_tup, Bool.not_true, mBin_ap, mCall_ap, mCons_ap, mNil_ap, lp, mK_ap, l2, sNil_ap, if_neg Bool.false_ne_true])]
        have lc := mLc_gen (emb := id) (f := id) (p := fun x => !isFr x) (xs := [a, b]) (fi := mItems (mVar 2)) (g := gN 5) (ft := (mNot (mTest (mCall m__law_is_fraction (mCons (mVar 5) mNil))))) (fe := mVar 5) (vs := [5]) (ρ := [z0, z1, fz (.tuple [a, b]), z3, z4, z5]) (by simp) (by simp)
            (fun x hx => ⟨[z0, z1, fz (.tuple [a, b]), z3, z4, fz x], rfl, by simp [m_law_is_fraction_eq hn (hd x hx)], fun _ => rfl⟩)
        have ne : pNe (.list (([a, b].filter fun x => !isFr x).map id)) (.list []) = some (.bool (!(isFr a && isFr b))) := by
          rw [pNe_g (eqOk_of' (by
            simp only [PyData.canLay0]
            refine layAll_mem fun x hx => ?_
            simp only [List.map_id, List.mem_filter] at hx
            exact (hd x hx.1).lay) (by simp [PyData.canLay0, PyData.canLayAll0]) (by simp [PyData.depth, PyData.depthAll]))]
          cases ha : isFr a <;> cases hb : isFr b <;> simp [ha, hb, PyData.eqv, PyData.eqvAll]
        cases hf : (isFr a && isFr b)
        · have : (smB a && smB b) = false := by
            cases ha : isFr a
            · rw [smB_fr ha]; rfl
            · rw [ha] at hf
              have hb : isFr b = false := by simpa using hf
              rw [smB_fr hb]; simp
          refine ⟨fun h => (by rw [this] at h; cases h), fun _ => seq_rt ?_⟩
          simp only [sIf_ap, mTest_ap, mBin_ap, mLst_ap, lc, mNil_ap, Option.bind_some, ne, hf, asB_ap, Bool.not_false, if_true]
          simp
        · obtain ⟨fa, fb⟩ := Bool.and_eq_true_iff.mp hf
          rw [seq_nx (ρ' := [z0, z1, fz (.tuple [a, b]), z3, z4, z5]) (by simp only [sIf_ap, mTest_ap, mBin_ap, mLst_ap, lc, mNil_ap, Option.bind_some, ne, hf, asB_ap, Bool.not_true, if_neg Bool.false_ne_true, sNil_ap])]
          have fl := forL_all (g := (gT 2 (gs1 (gN 3) (gs1 (gN 4) gs0')))) (body := body3) (P := smB) (I := fun ρ => ∃ z3 z4, ρ = [z0, z1, fz (.tuple [a, b]), z3, z4, z5]) [a, b] [z0, z1, fz (.tuple [a, b]), z3, z4, z5] ⟨_, _, rfl⟩
            (fun d hd ρ ⟨y3, y4, e⟩ => by
              subst e
              have hfd : isFr d = true := by
                rcases List.mem_cons.mp hd with rfl | hd
                · exact fa
                · rcases List.mem_cons.mp hd with rfl | hd
                  · exact fb
                  · cases hd
              obtain ⟨s1, s2⟩ := step3 hfd z0 z1 (fz (.tuple [a, b])) y3 y4 z5
              refine ⟨fun h => ?_, s2⟩
              obtain ⟨a3, a4, e⟩ := s1 h
              exact ⟨_, e, a3, a4, rfl⟩)
          have eq2 : [a, b].all smB = (smB a && smB b) := by simp
          rw [eq2] at fl
          have ef : sFor (mItems (mVar 2)) (gT 2 (gs1 (gN 3) (gs1 (gN 4) gs0'))) body3 [z0, z1, fz (.tuple [a, b]), z3, z4, z5] = forL (gT 2 (gs1 (gN 3) (gs1 (gN 4) gs0'))) body3 [a, b] [z0, z1, fz (.tuple [a, b]), z3, z4, z5] := rfl
          rw [ef]
          refine ⟨fun h => ?_, fl.2⟩
          obtain ⟨ρ', e, y3, y4, rfl⟩ := fl.1 h
          exact ⟨_, _, _, _, e⟩
    · have hne : ¬ ((ds.length : Int) = 2) := by omega
      rw [ptB_len hl]
      refine ⟨fun h => (by cases h), fun _ => seq_rt ?_⟩
      simp [ty_tup, hne]
  · rw [ptB_no h]
    refine ⟨fun h => (by cases h), fun _ => seq_rt ?_⟩
    simp [h]
noncomputable abbrev body1 : MS := (sSeq (sIf (mOr (mNot (mTest (mIsi "tuple" (mVar 1)))) (mOr (mTest (mBin pEq (mCall pLen (mCons (mVar 1) mNil)) (mK (.int 0)))) (mNot (mTest (mIsi "str" (mBin pIx (mVar 1) (mK (.int 0)))))))) (sRet (mK (.bool false)))
  sNil)
  (sSeq (sIf (mTest (mBin pNe (mCall pLen (mCons (mVar 1) mNil)) (mDgt [.inr "move", .inr "line", .inr "bow", .inr "wave", .inr "shut"] (mCons (mK (.int 2)) (mCons (mK (.int 2)) (mCons (mK (.int 3)) (mCons (mK (.int 4)) (mCons (mK (.int 1)) mNil))))) (mBin pIx (mVar 1) (mK (.int 0))) (mK (.int 0))))) (sRet (mK (.bool false)))
  sNil)
  (sFor (mItems (mSl (mVar 1) (oAt (mK (.int 1))) oNo)) (gN 2) body2)))
theorem dgt_len (s : Str) {ρ : Rho} {f : Mr PyData} (hf : f ρ = some (.str s)) : mDgt [.inr "move", .inr "line", .inr "bow", .inr "wave", .inr "shut"] (mCons (mK (.int 2)) (mCons (mK (.int 2)) (mCons (mK (.int 3)) (mCons (mK (.int 4)) (mCons (mK (.int 1)) mNil))))) f (mK (.int 0)) ρ = some (.int (lenOf s)) := by
  unfold mDgt
  rw [hf]
  simp only [Option.bind_some, mK_ap, mCons_ap, mNil_ap, toKey]
  unfold lenOf
  by_cases h1 : s = "move"
  · subst h1; rfl
  · by_cases h2 : s = "line"
    · subst h2; rfl
    · by_cases h3 : s = "bow"
      · subst h3; rfl
      · by_cases h4 : s = "wave"
        · subst h4; rfl
        · by_cases h5 : s = "shut"
          · subst h5; rfl
          · simp [lkD, h1, h2, h3, h4, h5]
theorem step1 {n : Nat} (hn : n ≤ 8000) {p : PyData} (hp : Sml n p) (z0 z1 z2 z3 z4 z5 : Option Slt) :
    (stB p = true → ∃ z1' z2' z3' z4' z5', (gN 1 p [z0, z1, z2, z3, z4, z5]).bind body1 = some (.nx [z0, z1', z2', z3', z4', z5'])) ∧
    (stB p = false → (gN 1 p [z0, z1, z2, z3, z4, z5]).bind body1 = some (.rt (.bool false))) := by
  rw [show gN 1 p [z0, z1, z2, z3, z4, z5] = some [z0, fz p, z2, z3, z4, z5] from rfl, Option.bind_some]
  rcases isTup p with ⟨ds, rfl⟩ | h
  · match ds with
    | [] =>
      refine ⟨fun h => (by cases h), fun _ => seq_rt ?_⟩
      simp [ty_tup]
    | a :: ps =>
      obtain ⟨_, hd⟩ := hp.tups
      have i0 : pIx (.tuple (a :: ps)) (.int 0) = some a := by simp [atI, ixN]
      have hl : ¬ (((a :: ps).length : Int) = 0) := by simp; omega
      rcases isStr a with ⟨s, rfl⟩ | h
      · have es : stB (.tuple (.str s :: ps)) = ((lenOf s == ((ps.length + 1 : Nat) : Int)) && ps.all ptB) := rfl
        rw [es]
        unfold body1
        rw [seq_nx (ρ' := [z0, fz (.tuple (.str s :: ps)), z2, z3, z4, z5]) (by
          simp only [sIf_ap, mOr_ap, mNot_ap, mTest_ap, mIsi_ap, mVar1, mVar0, Option.bind_some, asB_ap, ty_tup, Bool.not_true, mBin_ap, mCall_ap, mCons_ap, mNil_ap, pLen_t, mK_ap, pEq_i, beq_eq_false_iff_ne.mpr hl, i0, ty_str, sNil_ap, if_neg Bool.false_ne_true])]
        have g := dgt_len s (ρ := [z0, fz (.tuple (.str s :: ps)), z2, z3, z4, z5]) (f := mBin pIx (mVar 1) (mK (.int 0))) (by simp only [mBin_ap, mVar1, mVar0, mK_ap, Option.bind_some, i0])
        have hc : ((((PyData.str s :: ps).length : Nat) : Int) == lenOf s) = (lenOf s == ((ps.length + 1 : Nat) : Int)) := by
          rw [List.length_cons]; exact Bool.beq_comm ..
        cases hq : (lenOf s == ((ps.length + 1 : Nat) : Int))
        · refine ⟨fun h => (by cases h), fun _ => seq_rt ?_⟩
          simp only [sIf_ap, mTest_ap, mBin_ap, mCall_ap, mCons_ap, mNil_ap, mVar1, mVar0, Option.bind_some, pLen_t, g, pNe_i, hc, hq, asB_ap, Bool.not_false, if_true]
          simp
        · rw [seq_nx (ρ' := [z0, fz (.tuple (.str s :: ps)), z2, z3, z4, z5]) (by
            simp only [sIf_ap, mTest_ap, mBin_ap, mCall_ap, mCons_ap, mNil_ap, mVar1, mVar0, Option.bind_some, pLen_t, g, pNe_i, hc, hq, asB_ap, Bool.not_true, if_neg Bool.false_ne_true, sNil_ap])]
          have fl := forL_all (g := gN 2) (body := body2) (P := ptB) (I := fun ρ => ∃ z2 z3 z4 z5, ρ = [z0, fz (.tuple (.str s :: ps)), z2, z3, z4, z5]) ps [z0, fz (.tuple (.str s :: ps)), z2, z3, z4, z5] ⟨_, _, _, _, rfl⟩
            (fun d hdm ρ ⟨y2, y3, y4, y5, e⟩ => by
              subst e
              obtain ⟨s1, s2⟩ := step2 hn (hd d (by simp [hdm])) z0 (fz (.tuple (.str s :: ps))) y2 y3 y4 y5
              refine ⟨fun h => ?_, s2⟩
              obtain ⟨a2, a3, a4, a5, e⟩ := s1 h
              exact ⟨_, e, a2, a3, a4, a5, rfl⟩)
          have ef : sFor (mItems (mSl (mVar 1) (oAt (mK (.int 1))) oNo)) (gN 2) body2 [z0, fz (.tuple (.str s :: ps)), z2, z3, z4, z5] = forL (gN 2) body2 ps [z0, fz (.tuple (.str s :: ps)), z2, z3, z4, z5] := by
            rw [sFor_ap]
            have : mItems (mSl (mVar 1) (oAt (mK (.int 1))) oNo) [z0, fz (.tuple (.str s :: ps)), z2, z3, z4, z5] = some ps := by simp [cut1]
            rw [this]; rfl
          rw [ef, Bool.true_and]
          refine ⟨fun h => ?_, fl.2⟩
          obtain ⟨ρ', e, y2, y3, y4, y5, rfl⟩ := fl.1 h
          exact ⟨_, _, _, _, _, e⟩
      · rw [stB_str h]
        refine ⟨fun h => (by cases h), fun _ => seq_rt ?_⟩
        simp [ty_tup, i0, h, hl]
  · rw [stB_no h]
    refine ⟨fun h => (by cases h), fun _ => seq_rt ?_⟩
    simp [h]
theorem stB_shape {x : PyData} (h : stB x = true) : ∃ s ps, x = .tuple (.str s :: ps) := by
  unfold stB at h
  split at h
  · exact ⟨_, _, rfl⟩
  · cases h
theorem m_law_is_way_eq {n : Nat} (hn : n ≤ 8000) {d : PyData} (hd : Sml n d) : m__law_is_way [d] = some (.bool (wayB d)) := by
  refine run_rt ?_
  unfold b__law_is_way
  rw [show startR N__law_is_way [d] = [fz d, none, none, none, none, none] from rfl]
  rcases isTup d with ⟨ds, rfl⟩ | h
  · have g1 : pGt (.int (ds.length : Int)) (.int 12) = some (.bool (decide (12 < ds.length))) := by
      show some (PyData.bool (decide ((12 : Int) < ds.length))) = _
      congr 2
      exact decide_eq_decide.mpr (by omega)
    by_cases hl : ds.length ≤ 12
    · obtain ⟨_, hds⟩ := hd.tups
      have g2 : ¬ (12 < ds.length) := by omega
      have ew : wayB (.tuple ds) = (ds.all stB && mvB ds) := by simp [wayB, hl]
      rw [ew]
      rw [seq_nx (ρ' := [fz (.tuple ds), none, none, none, none, none]) (by
          simp only [sIf_ap, mOr_ap, mNot_ap, mTest_ap, mIsi_ap, mVar0, Option.bind_some, asB_ap, ty_tup, Bool.not_true, mBin_ap, mCall_ap, mCons_ap, mNil_ap, pLen_t, mK_ap, g1, decide_eq_false g2, if_neg Bool.false_ne_true, sNil_ap])]
      have fl := forL_all (g := gN 1) (body := body1) (P := stB) (I := fun ρ => ∃ z1 z2 z3 z4 z5, ρ = [fz (.tuple ds), z1, z2, z3, z4, z5]) ds [fz (.tuple ds), none, none, none, none, none] ⟨_, _, _, _, _, rfl⟩
            (fun d hdm ρ ⟨y1, y2, y3, y4, y5, e⟩ => by
              subst e
              obtain ⟨s1, s2⟩ := step1 hn (hds d hdm) (fz (.tuple ds)) y1 y2 y3 y4 y5
              refine ⟨fun h => ?_, s2⟩
              obtain ⟨a1, a2, a3, a4, a5, e⟩ := s1 h
              exact ⟨_, e, a1, a2, a3, a4, a5, rfl⟩)
      have ef : sFor (mItems (mVar 0)) (gN 1) body1 [fz (.tuple ds), none, none, none, none, none] = forL (gN 1) body1 ds [fz (.tuple ds), none, none, none, none, none] := rfl
      cases ha : ds.all stB
      · exact seq_rt (ef.trans (fl.2 ha))
      · obtain ⟨ρ', e, y1, y2, y3, y4, y5, rfl⟩ := fl.1 ha
        rw [seq_nx (ef.trans e), ret_ap]
        have eqt : pEq (.tuple ds) (.tuple []) = some (.bool (decide (ds = []))) := by
          rw [pEq_g (eqOk_of' hd.lay (by simp [PyData.canLay0, PyData.canLayAll0]) (by simp [PyData.depth, PyData.depthAll]))]
          cases ds <;> simp [PyData.eqv, PyData.eqvAll]
        match ds, ha, eqt with
        | [], _, eqt =>
          simp only [List.map_cons, List.map_nil, frzS_frz, frzS_none, mOrV_ap, mBin_ap, Option.bind_some, mVar0, mTup_ap, mNil_ap, eqt, asB_ap]
          simp [mvB]
        | x :: r, ha, eqt =>
          have hx : stB x = true := by simp at ha; exact ha.1
          obtain ⟨s, ps, rfl⟩ := stB_shape hx
          have i0 : pIx (.tuple (.tuple (.str s :: ps) :: r)) (.int 0) = some (.tuple (.str s :: ps)) := by simp [atI, ixN]
          have i1 : pIx (.tuple (.str s :: ps)) (.int 0) = some (.str s) := by simp [atI, ixN]
          simp only [List.map_cons, List.map_nil, frzS_frz, frzS_none, mOrV_ap, mBin_ap, Option.bind_some, mVar0, mK_ap, mTup_ap, mNil_ap, eqt, asB_ap, i0, i1, pEq_s]
          simp [mvB]
    · have ew : wayB (.tuple ds) = false := by simp [wayB, hl]
      rw [ew]
      refine seq_rt ?_
      have g2 : 12 < ds.length := by omega
      simp [ty_tup, g1, g2]
  · have : wayB d = false := by cases d <;> first | rfl | cases h
    rw [this]
    refine seq_rt ?_
    simp [h]
end Dm

set_option Elab.async false
set_option linter.all false
set_option maxRecDepth 100000
set_option maxHeartbeats 4000000
set_option exponentiation.threshold 20000
namespace Dm
open PySem PySem.Spec L2 Dw
inductive Smn (n : Nat) : PyData → Prop
  | int {i : Int} : i.natAbs < 2 ^ n → Smn n (.int i)
  | str {s : Str} : PyData.strOk s = true → Smn n (.str s)
  | tuple {ds : List PyData} : ds.length ≤ n → (∀ x ∈ ds, Smn n x) → Smn n (.tuple ds)
theorem Smn.sml {n : Nat} {d : PyData} (h : Smn n d) : Sml n d := by
  induction h with
  | int h => exact .int h
  | str h => exact .str h
  | tuple hl _ ih => exact .tuple hl ih
theorem atI_mem {ds : List PyData} {i : Int} (h0 : 0 ≤ i) (h1 : i < ds.length) : ∃ x, x ∈ ds ∧ atI ds i = some x := by
  have hi : i.toNat < ds.length := by omega
  refine ⟨ds[i.toNat], List.getElem_mem hi, ?_⟩
  unfold atI
  have e : ixN ds.length i = some i.toNat := by
    unfold ixN
    rw [if_pos (by omega), if_pos (by omega)]
  rw [e]
  exact List.getElem?_eq_getElem hi
theorem cut_mem {ds : List PyData} {lo hi : Option Int} {x : PyData} (h : x ∈ cutD ds lo hi) : x ∈ ds := by
  unfold cutD at h
  exact List.mem_of_mem_drop (List.mem_of_mem_take h)
theorem cut_len {ds : List PyData} {lo hi : Option Int} : (cutD ds lo hi).length ≤ ds.length := by
  unfold cutD
  simp only [List.length_take, List.length_drop]
  omega
theorem sl_ok {n : Nat} (h : n ≤ 100000) : n ≤ sizeLine := line_ok h
theorem sm_i {n : Nat} (hn : 20 ≤ n) (i : Int) (h : i.natAbs < 2 ^ 20) : Sml n (.int i) := .int (Nat.lt_of_lt_of_le h (Nat.pow_le_pow_right (by decide) hn))
theorem sm_s {n : Nat} (s : String) : Sml n (.str (s : Str)) := .str (strOk_of s)
theorem sm_t0 {n : Nat} : Sml n (.tuple []) := .tuple (by simp) (by simp)
theorem sm_l0 {n : Nat} : Sml n (.list []) := .list (by simp) (by simp)
theorem sm_t1 {n : Nat} (hn : 20 ≤ n) {a : PyData} (h : Sml n a) : Sml n (.tuple [a]) := .tuple (by simp; omega) (by simpa using h)
theorem sm_t2 {n : Nat} (hn : 20 ≤ n) {a b : PyData} (h : Sml n a) (h2 : Sml n b) : Sml n (.tuple [a, b]) := .tuple (by simp; omega) (by simpa using ⟨h, h2⟩)
def wordsL : List PyData := [.none, .str "move", .str "line", .str "bow", .str "wave", .str "shut", .str "arc", .str "", .tuple [], .tuple [.str "shut"], .tuple [.int 0, .int 1], .tuple [.int 1, .int 0], .tuple [.int 2, .int 4]]
def wordsM : List PyData := [.tuple [.int 1, .int 3], .list [], .bool true, .int 0, .tuple [.int 9999, .int 1], .tuple [.int 10000, .int 1], .tuple [.int 1, .int 100], .tuple [.int 1, .int 200], .tuple [.tuple [.int 0, .int 1], .tuple [.int 0, .int 1]]]
def wordsN : List PyData := [.tuple [.str "line", .tuple [.tuple [.int 0, .int 1], .tuple [.int 1, .int 1]]]]
theorem words_ok {n : Nat} (hn : 20 ≤ n) : ∀ x ∈ wordsL ++ wordsM ++ wordsN, Sml n x := by
  intro x hx
  simp only [wordsL, wordsM, wordsN, List.cons_append, List.nil_append, List.mem_cons, List.not_mem_nil, or_false] at hx
  rcases hx with rfl | rfl | rfl | rfl | rfl | rfl | rfl | rfl | rfl | rfl | rfl | rfl | rfl | rfl | rfl | rfl | rfl | rfl | rfl | rfl | rfl | rfl | rfl
  all_goals repeat (first | exact .none | exact .bool _ | exact sm_t0 | exact sm_l0 | exact sm_s _ | refine sm_i hn _ (by decide) | refine sm_t1 hn ?_ | refine sm_t2 hn ?_ ?_)
theorem sml_app {n : Nat} {a b : List PyData} (hl : (a ++ b).length ≤ n) (h1 : ∀ x ∈ a, Sml n x) (h2 : ∀ x ∈ b, Sml n x) : Sml n (.tuple (a ++ b)) :=
  .tuple hl fun x hx => (List.mem_append.mp hx).elim (h1 x) (h2 x)
theorem spoilt_ok {n : Nat} (hn : 20 ≤ n) (hn2 : n ≤ 1000) : ∀ (k : Nat) (d : PyData) (num : Int) (deep : Nat), deep < k → Smn n d → ∃ e, recD N__law_spoilt b__law_spoilt k [d, .int num, .int (deep : Nat)] = some e ∧ Sml (2 * n + 10) e
  | 0, _, _, _, h, _ => absurd h (by omega)
  | k + 1, d, num, deep, hk, hd => by
    have hds : Sml (2 * n + 10) d := hd.sml.mono (by omega)
    suffices h : ∃ e, b__law_spoilt (recD N__law_spoilt b__law_spoilt k) [fz d, fz (.int num), fz (.int (deep : Nat)), none, none, none, none, none] = some (.rt e) ∧ Sml (2 * n + 10) e by
      obtain ⟨e, h1, h2⟩ := h
      exact ⟨e, run_rt h1, h2⟩
    have ih := fun (d : PyData) (num : Int) (deep : Nat) => spoilt_ok hn hn2 k d num deep
    generalize recD N__law_spoilt b__law_spoilt k = rc at ih ⊢
    unfold b__law_spoilt
    have q5 := @pMod_s num 5 (by decide)
    have q8 := @pDiv_s num 8 (by decide) (by decide)
    have q32 := @pDiv_s num 32 (by decide) (by decide)
    have q1024 := @pDiv_s num 1024 (by decide) (by decide)
    by_cases hc : ∃ ds j, d = .tuple ds ∧ 0 < ds.length ∧ deep = j + 1 ∧ 0 < num % 5
    · obtain ⟨ds, j, rfl, hl, rfl, h5⟩ := hc
      cases hd with
      | tuple hn' hx =>
        have l1 : (0 : Int) < ds.length := by omega
        have l2 : (ds.length : Int) < 2 ^ 31 := by omega
        have a0 : 0 ≤ num / 8 % (ds.length : Int) := Int.emod_nonneg _ (by omega)
        have a1 : num / 8 % (ds.length : Int) < ds.length := Int.emod_lt_of_pos _ l1
        have qm := @pMod_s (num / 8) (ds.length : Int) l1
        obtain ⟨x, xm, xe⟩ := atI_mem a0 a1
        obtain ⟨r, r0, _, er⟩ := m_drawn_eq num (j + 1)
        have q4 := @pDiv_s r 4 (by decide) (by decide)
        obtain ⟨e, he, hs⟩ := ih x (r / 4) j (by omega) (hx x xm)
        have c1 : (((j + 1 : Nat) : Int) - 1) = (j : Int) := by omega
        generalize num / 8 % (ds.length : Int) = at_ at *
        refine ⟨.tuple (cutD ds none (some at_) ++ [e] ++ cutD ds (some (at_ + 1)) none), seq_rt ?_, ?_⟩
        · have p1 : pAdd (.tuple (cutD ds none (some at_))) (.tuple [e]) = some (.tuple (cutD ds none (some at_) ++ [e])) := pAdd_t (sl_ok (by have := @cut_len ds none (some at_); simp; omega))
          have p2 : pAdd (.tuple (cutD ds none (some at_) ++ [e])) (.tuple (cutD ds (some (at_ + 1)) none)) = some (.tuple (cutD ds none (some at_) ++ [e] ++ cutD ds (some (at_ + 1)) none)) := pAdd_t (sl_ok (by have := @cut_len ds none (some at_); have := @cut_len ds (some (at_ + 1)) none; simp; omega))
          have g1 : decide ((0 : Int) < ((j + 1 : Nat) : Int)) = true := decide_eq_true (by omega)
          have t1 : (mAnd (mTest (mBin pGt (mVar 2) (mK (.int 0)))) (mAnd (mTest (mIsi "tuple" (mVar 0))) (mAnd (mTest (mBin pGt (mCall pLen (mCons (mVar 0) mNil)) (mK (.int 0)))) (mTest (mBin pGt (mBin pMod (mVar 1) (mK (.int 5))) (mK (.int 0))))))) [fz (.tuple ds), fz (.int num), fz (.int ((j + 1 : Nat) : Int)), none, none, none, none, none] = some true := by
            simp only [mAnd_ap, mTest_ap, mBin_ap, mVar2, mVar0, mVar1, mK_ap, Option.bind_some, pGt_i, asB_ap, g1, if_true, mIsi_ap, ty_tup, mCall_ap, mCons_ap, mNil_ap, pLen_t, decide_eq_true l1, q5, decide_eq_true h5]
          rw [sIf_ap, t1, Option.bind_some, if_pos rfl]
          rw [seq_nx (ρ' := [fz (.tuple ds), fz (.int num), fz (.int ((j + 1 : Nat) : Int)), fz (.int at_), none, none, none, none]) (by
            simp only [sSet_ap, mBin_ap, mVar1, mVar0, mK_ap, Option.bind_some, q8, mCall_ap, mCons_ap, mNil_ap, pLen_t, qm]; rfl)]
          rw [seq_nx (ρ' := [fz (.tuple ds), fz (.int num), fz (.int ((j + 1 : Nat) : Int)), fz (.int at_), fz e, none, none, none]) (by
            simp only [sSet_ap, mBin_ap, mVar1, mVar2, mVar3, mVar0, mK_ap, Option.bind_some, mCall_ap, mCons_ap, mNil_ap, pIx_t, xe, er, q4, pSub_i, c1, he]; rfl)]
          simp only [ret_ap, List.map_cons, List.map_nil, frzS_frz, frzS_none, mBin_ap, mSl_ap, mTup_ap, oNo_ap, oAt_ap, asI_ap, mVar0, mVar3, mVar4, mK_ap, Option.bind_some, pSl_t, mCons_ap, mNil_ap, p1, pAdd_i, p2]
        · refine sml_app ?_ (fun y hy => ?_) fun y hy => (hx y (cut_mem hy)).sml.mono (by omega)
          · have := @cut_len ds none (some at_)
            have := @cut_len ds (some (at_ + 1)) none
            simp only [List.length_append, List.length_cons, List.length_nil]
            omega
          · rcases List.mem_append.mp hy with hy | hy
            · exact (hx y (cut_mem hy)).sml.mono (by omega)
            · simp only [List.mem_singleton] at hy
              subst hy
              exact hs
    · have t1 : (mAnd (mTest (mBin pGt (mVar 2) (mK (.int 0)))) (mAnd (mTest (mIsi "tuple" (mVar 0))) (mAnd (mTest (mBin pGt (mCall pLen (mCons (mVar 0) mNil)) (mK (.int 0)))) (mTest (mBin pGt (mBin pMod (mVar 1) (mK (.int 5))) (mK (.int 0))))))) [fz d, fz (.int num), fz (.int (deep : Nat)), none, none, none, none, none] = some false := by
        cases deep with
        | zero => simp
        | succ j =>
          have g1 : decide ((0 : Int) < ((j + 1 : Nat) : Int)) = true := decide_eq_true (by omega)
          rcases isTup d with ⟨ds, rfl⟩ | h
          · by_cases hl : 0 < ds.length
            · have h5 : ¬ 0 < num % 5 := fun h5 => hc ⟨ds, j, rfl, hl, rfl, h5⟩
              simp only [mAnd_ap, mTest_ap, mBin_ap, mVar2, mVar0, mVar1, mK_ap, Option.bind_some, pGt_i, asB_ap, g1, if_true, mIsi_ap, ty_tup, mCall_ap, mCons_ap, mNil_ap, pLen_t, q5, decide_eq_false h5, ite_self]
            · have l1 : ¬ (0 : Int) < ds.length := by omega
              simp only [mAnd_ap, mTest_ap, mBin_ap, mVar2, mVar0, mVar1, mK_ap, Option.bind_some, pGt_i, asB_ap, g1, if_true, mIsi_ap, ty_tup, mCall_ap, mCons_ap, mNil_ap, pLen_t, decide_eq_false l1, if_neg Bool.false_ne_true]
          · simp only [mAnd_ap, mTest_ap, mBin_ap, mVar2, mVar0, mVar1, mK_ap, Option.bind_some, pGt_i, asB_ap, g1, if_true, mIsi_ap, h, if_neg Bool.false_ne_true]
      rw [seq_nx (ρ' := [fz d, fz (.int num), fz (.int (deep : Nat)), none, none, none, none, none]) (by rw [sIf_ap, t1]; rfl)]
      have k0 : 0 ≤ num / 8 % 4 := Int.emod_nonneg _ (by decide)
      have q84 := @pMod_s (num / 8) 4 (by decide)
      rw [seq_nx (ρ' := [fz d, fz (.int num), fz (.int (deep : Nat)), none, none, fz (.int (num / 8 % 4)), none, none]) (by
        simp only [sSet_ap, mBin_ap, mVar1, mVar0, mK_ap, Option.bind_some, q8, q84]; rfl)]
      generalize num / 8 % 4 = kind at *
      by_cases hc2 : ∃ ds, d = .tuple ds ∧ 0 < ds.length ∧ 0 < kind
      · obtain ⟨ds, rfl, hl, hkk⟩ := hc2
        cases hd with
        | tuple hn' hx =>
          have l1 : (0 : Int) < ds.length := by omega
          have a0 : 0 ≤ num / 32 % (ds.length : Int) := Int.emod_nonneg _ (by omega)
          have a1 : num / 32 % (ds.length : Int) < ds.length := Int.emod_lt_of_pos _ l1
          have qm := @pMod_s (num / 32) (ds.length : Int) l1
          obtain ⟨x, xm, xe⟩ := atI_mem a0 a1
          generalize num / 32 % (ds.length : Int) = at_ at *
          have c1 := @cut_len ds none (some at_)
          have c2 := @cut_len ds (some (at_ + 1)) none
          have c3 := @cut_len ds (some at_) (some (at_ + 1))
          have c4 := @cut_len ds (some at_) none
          have p1 : pAdd (.tuple (cutD ds none (some at_))) (.tuple (cutD ds (some (at_ + 1)) none)) = some (.tuple (cutD ds none (some at_) ++ cutD ds (some (at_ + 1)) none)) := pAdd_t (sl_ok (by omega))
          have p2 : pAdd (.tuple ds) (.tuple (cutD ds (some at_) (some (at_ + 1)))) = some (.tuple (ds ++ cutD ds (some at_) (some (at_ + 1)))) := pAdd_t (sl_ok (by omega))
          have p3 : pAdd (.tuple (cutD ds none (some at_))) (.tuple [x]) = some (.tuple (cutD ds none (some at_) ++ [x])) := pAdd_t (sl_ok (by simp; omega))
          have p4 : pAdd (.tuple (cutD ds none (some at_) ++ [x])) (.tuple (cutD ds (some at_) none)) = some (.tuple (cutD ds none (some at_) ++ [x] ++ cutD ds (some at_) none)) := pAdd_t (sl_ok (by simp; omega))
          have hm : ∀ y ∈ ds, Sml (2 * n + 10) y := fun y hy => (hx y hy).sml.mono (by omega)
          have all : ∀ y ∈ ([.list ds, .tuple (cutD ds none (some at_) ++ cutD ds (some (at_ + 1)) none), .tuple (ds ++ cutD ds (some at_) (some (at_ + 1))), .tuple ds.reverse] : List PyData) ++ [.tuple (cutD ds none (some at_) ++ [x] ++ cutD ds (some at_) none)], Sml (2 * n + 10) y := by
            intro y hy
            simp only [List.cons_append, List.nil_append, List.mem_cons, List.not_mem_nil, or_false] at hy
            rcases hy with rfl | rfl | rfl | rfl | rfl
            · exact .list (by omega) hm
            · exact sml_app (by simp; omega) (fun y hy => hm y (cut_mem hy)) fun y hy => hm y (cut_mem hy)
            · exact sml_app (by simp; omega) hm fun y hy => hm y (cut_mem hy)
            · exact .tuple (by simp; omega) (fun y hy => hm y (by simpa using hy))
            · refine sml_app (by simp; omega) (fun y hy => ?_) fun y hy => hm y (cut_mem hy)
              rcases List.mem_append.mp hy with hy | hy
              · exact hm y (cut_mem hy)
              · simp only [List.mem_singleton] at hy
                subst hy
                exact hm y xm
          have p5 := pAdd_l (a := [.list ds, .tuple (cutD ds none (some at_) ++ cutD ds (some (at_ + 1)) none), .tuple (ds ++ cutD ds (some at_) (some (at_ + 1))), .tuple ds.reverse]) (b := [.tuple (cutD ds none (some at_) ++ [x] ++ cutD ds (some at_) none)]) (sl_ok (by simp))
          have m5 := @pMod_s (num / 1024) 5 (by decide)
          obtain ⟨y, ym, ye⟩ := atI_mem (ds := ([.list ds, .tuple (cutD ds none (some at_) ++ cutD ds (some (at_ + 1)) none), .tuple (ds ++ cutD ds (some at_) (some (at_ + 1))), .tuple ds.reverse] : List PyData) ++ [.tuple (cutD ds none (some at_) ++ [x] ++ cutD ds (some at_) none)]) (i := num / 1024 % 5) (Int.emod_nonneg _ (by decide)) (by simp; exact Int.emod_lt_of_pos _ (by decide))
          refine ⟨y, seq_rt ?_, all y ym⟩
          have t2 : (mAnd (mTest (mIsi "tuple" (mVar 0))) (mAnd (mTest (mBin pGt (mCall pLen (mCons (mVar 0) mNil)) (mK (.int 0)))) (mTest (mBin pGt (mVar 5) (mK (.int 0)))))) [fz (.tuple ds), fz (.int num), fz (.int (deep : Nat)), none, none, fz (.int kind), none, none] = some true := by
            simp only [mAnd_ap, mTest_ap, mBin_ap, mVar5, mVar0, mK_ap, Option.bind_some, pGt_i, asB_ap, if_true, mIsi_ap, ty_tup, mCall_ap, mCons_ap, mNil_ap, pLen_t, decide_eq_true l1, decide_eq_true hkk]
          rw [sIf_ap, t2, Option.bind_some, if_pos rfl]
          rw [seq_nx (ρ' := [fz (.tuple ds), fz (.int num), fz (.int (deep : Nat)), fz (.int at_), none, fz (.int kind), none, none]) (by
            simp only [sSet_ap, mBin_ap, mVar1, mVar0, mK_ap, Option.bind_some, q32, mCall_ap, mCons_ap, mNil_ap, pLen_t, qm]; rfl)]
          rw [seq_nx (ρ' := [fz (.tuple ds), fz (.int num), fz (.int (deep : Nat)), fz (.int at_), none, fz (.int kind), fz (.list [.list ds, .tuple (cutD ds none (some at_) ++ cutD ds (some (at_ + 1)) none), .tuple (ds ++ cutD ds (some at_) (some (at_ + 1))), .tuple ds.reverse]), none]) (by
            simp only [sSet_ap, mBin_ap, mUn_ap, mVar1, mVar3, mVar0, mK_ap, mLst_ap, mSl_ap, oNo_ap, oAt_ap, asI_ap, Option.bind_some, mCall_ap, mCons_ap, mNil_ap, pList_t, pSl_t, pAdd_i, p1, p2, pRev_t]; rfl)]
          simp only [ret_ap, List.map_cons, List.map_nil, frzS_frz, frzS_none, mBin_ap, mLst_ap, mSl_ap, mTup_ap, oNo_ap, oAt_ap, asI_ap, mVar0, mVar1, mVar3, mVar6, mK_ap, Option.bind_some, pSl_t, pIx_t, xe, mCons_ap, mNil_ap, p3, p4, p5, pAdd_i, q1024, m5, pIx_l, ye]
      · have t2 : (mAnd (mTest (mIsi "tuple" (mVar 0))) (mAnd (mTest (mBin pGt (mCall pLen (mCons (mVar 0) mNil)) (mK (.int 0)))) (mTest (mBin pGt (mVar 5) (mK (.int 0)))))) [fz d, fz (.int num), fz (.int (deep : Nat)), none, none, fz (.int kind), none, none] = some false := by
          rcases isTup d with ⟨ds, rfl⟩ | h
          · by_cases hl : 0 < ds.length
            · have h5 : ¬ 0 < kind := fun h5 => hc2 ⟨ds, rfl, hl, h5⟩
              simp only [mAnd_ap, mTest_ap, mBin_ap, mVar5, mVar0, mK_ap, Option.bind_some, pGt_i, asB_ap, if_true, mIsi_ap, ty_tup, mCall_ap, mCons_ap, mNil_ap, pLen_t, decide_eq_false h5, ite_self]
            · have l1 : ¬ (0 : Int) < ds.length := by omega
              simp only [mAnd_ap, mTest_ap, mBin_ap, mVar0, mK_ap, Option.bind_some, pGt_i, asB_ap, if_true, mIsi_ap, ty_tup, mCall_ap, mCons_ap, mNil_ap, pLen_t, decide_eq_false l1, if_neg Bool.false_ne_true]
          · simp only [mAnd_ap, mTest_ap, mVar0, Option.bind_some, asB_ap, mIsi_ap, h, if_neg Bool.false_ne_true]
        rw [seq_nx (ρ' := [fz d, fz (.int num), fz (.int (deep : Nat)), none, none, fz (.int kind), none, none]) (by rw [sIf_ap, t2]; rfl)]
        by_cases hc3 : ∃ i, d = .int i ∧ 0 < kind
        · obtain ⟨i, rfl, hkk⟩ := hc3
          cases hd with
          | int hi =>
            have b1 : i.natAbs.log2 < 1920 := by
              by_cases h0 : i.natAbs = 0
              · rw [h0]; decide
              · have := (Nat.log2_lt h0).mpr hi
                omega
            have ps : pStr [.int i] = some (.str (PySem.Str.ofString (toString i))) := if_pos b1
            have m2 := @pMul_r i 2 (by decide) (by decide)
            have m1000 := @pMul_r i 1000 (by decide) (by decide)
            have m7 := @pMod_s (num / 32) 7 (by decide)
            have p1 : 2 ^ n * 1024 ≤ 2 ^ (2 * n + 10) := by
              rw [show (1024 : Nat) = 2 ^ 10 from rfl, ← Nat.pow_add]
              exact Nat.pow_le_pow_right (by decide) (by omega)
            have p2 : 1 ≤ 2 ^ n := Nat.one_le_two_pow
            have all : ∀ y ∈ ([.int (i + 1), .int (0 - i), .int (i * 2), .str (PySem.Str.ofString (toString i)), .bool (i == 1), .int (i * 1000), .int (i - 1)] : List PyData), Sml (2 * n + 10) y := by
              intro y hy
              simp only [List.mem_cons, List.not_mem_nil, or_false] at hy
              have big : ∀ z : Int, z.natAbs < 2 ^ n * 1024 → Sml (2 * n + 10) (.int z) := fun z hz => .int (Nat.lt_of_lt_of_le hz p1)
              clear p1
              generalize 2 ^ n = N at *
              rcases hy with rfl | rfl | rfl | rfl | rfl | rfl | rfl
              · exact big _ (by omega)
              · exact big _ (by omega)
              · exact big _ (by omega)
              · exact .str (strOk_of _)
              · exact .bool _
              · exact big _ (by omega)
              · exact big _ (by omega)
            obtain ⟨y, ym, ye⟩ := atI_mem (ds := ([.int (i + 1), .int (0 - i), .int (i * 2), .str (PySem.Str.ofString (toString i)), .bool (i == 1), .int (i * 1000), .int (i - 1)] : List PyData)) (i := num / 32 % 7) (Int.emod_nonneg _ (by decide)) (by simp; exact Int.emod_lt_of_pos _ (by decide))
            refine ⟨y, seq_rt ?_, all y ym⟩
            have ti : isTy "int" (.int i) = true := rfl
            simp only [sIf_ap, mAnd_ap, mTest_ap, mIsi_ap, mVar0, Option.bind_some, ti, asB_ap, if_true, mBin_ap, mVar5, mK_ap, pGt_i, decide_eq_true hkk, ret_ap, List.map_cons, List.map_nil, frzS_frz, frzS_none, mLst_ap, mCons_ap, mNil_ap, mCall_ap, pAdd_i, pSub_i, m2, m1000, ps, pEq_i, mVar1, q32, m7, pIx_l, ye]
        · have t3 : (mAnd (mTest (mIsi "int" (mVar 0))) (mTest (mBin pGt (mVar 5) (mK (.int 0))))) [fz d, fz (.int num), fz (.int (deep : Nat)), none, none, fz (.int kind), none, none] = some false := by
            cases hd with
            | int hi =>
              rename_i i
              have h5 : ¬ 0 < kind := fun h5 => hc3 ⟨i, rfl, h5⟩
              simp only [mAnd_ap, mTest_ap, mIsi_ap, mVar0, Option.bind_some, asB_ap, mBin_ap, mVar5, mK_ap, pGt_i, decide_eq_false h5, ite_self]
            | str _ => rfl
            | tuple _ _ => rfl
          rw [seq_nx (ρ' := [fz d, fz (.int num), fz (.int (deep : Nat)), none, none, fz (.int kind), none, none]) (by rw [sIf_ap, t3]; rfl)]
          rw [seq_nx (ρ' := [fz d, fz (.int num), fz (.int (deep : Nat)), none, none, fz (.int kind), none, fz (.list wordsL)]) (by rfl)]
          have p1 := pAdd_l (a := wordsL) (b := wordsM) (sl_ok (by decide))
          have p2 := pAdd_l (a := wordsL ++ wordsM) (b := wordsN) (sl_ok (by decide))
          rw [seq_nx (ρ' := [fz d, fz (.int num), fz (.int (deep : Nat)), none, none, fz (.int kind), none, fz (.list (wordsL ++ wordsM))]) (by
            rw [sSet_ap, mBin_ap, mVar7, mVar0, Option.bind_some]
            rw [show (mLst (mCons (mTup (mCons (mK (.int 1)) (mCons (mK (.int 3)) mNil))) (mCons (mLst mNil) (mCons (mK (.bool true)) (mCons (mK (.int 0)) (mCons (mTup (mCons (mK (.int 9999)) (mCons (mK (.int 1)) mNil))) (mCons (mTup (mCons (mK (.int 10000)) (mCons (mK (.int 1)) mNil))) (mCons (mTup (mCons (mK (.int 1)) (mCons (mK (.int 100)) mNil))) (mCons (mTup (mCons (mK (.int 1)) (mCons (mK (.int 200)) mNil))) (mCons (mTup (mCons (mTup (mCons (mK (.int 0)) (mCons (mK (.int 1)) mNil))) (mCons (mTup (mCons (mK (.int 0)) (mCons (mK (.int 1)) mNil))) mNil))) mNil)))))))))) [fz d, fz (.int num), fz (.int (deep : Nat)), none, none, fz (.int kind), none, fz (.list wordsL)] = some (.list wordsM) from rfl, Option.bind_some, p1]
            rfl)]
          have m23 := @pMod_s (num / 32) 23 (by decide)
          obtain ⟨y, ym, ye⟩ := atI_mem (ds := wordsL ++ wordsM ++ wordsN) (i := num / 32 % 23) (Int.emod_nonneg _ (by decide)) (by
            have : (wordsL ++ wordsM ++ wordsN).length = 23 := rfl
            rw [this]
            exact Int.emod_lt_of_pos _ (by decide))
          refine ⟨y, ?_, words_ok (by omega) y ym⟩
          rw [ret_ap]
          simp only [List.map_cons, List.map_nil, frzS_frz, frzS_none, mBin_ap, mVar7, mVar1, mVar0, Option.bind_some, mK_ap, q32, m23]
          rw [show (mLst (mCons (mTup (mCons (mK (.str "line")) (mCons (mTup (mCons (mTup (mCons (mK (.int 0)) (mCons (mK (.int 1)) mNil))) (mCons (mTup (mCons (mK (.int 1)) (mCons (mK (.int 1)) mNil))) mNil))) mNil))) mNil)) [fz d, fz (.int num), fz (.int (deep : Nat)), none, none, fz (.int kind), none, fz (.list (wordsL ++ wordsM))] = some (.list wordsN) from rfl, Option.bind_some, p2, Option.bind_some, pIx_l, ye, Option.bind_some]
theorem smn_fr {n : Nat} {q : Rat} (h : Sz 22 q) (hn : 22 ≤ n) : Smn n (fr q) := by
  refine .tuple (by simp; omega) fun x hx => ?_
  have p : 2 ^ 22 ≤ 2 ^ n := Nat.pow_le_pow_right (by decide) hn
  simp only [List.mem_cons, List.not_mem_nil, or_false] at hx
  rcases hx with rfl | rfl
  · exact .int (Nat.lt_of_lt_of_le h.1 p)
  · exact .int (Nat.lt_of_lt_of_le (by simpa using h.2) p)
theorem smn_pt {n : Nat} {p : Pt} (h : PS 22 p) (hn : 22 ≤ n) : Smn n (pt p) := by
  refine .tuple (by simp; omega) fun x hx => ?_
  simp only [List.mem_cons, List.not_mem_nil, or_false] at hx
  rcases hx with rfl | rfl
  · exact smn_fr h.1 hn
  · exact smn_fr h.2 hn
theorem smn_wy {w : List Stk} (h : GW w) (hl : w.length ≤ 12) : Smn 22 (wy w) := by
  refine .tuple (by simp; omega) fun x hx => ?_
  obtain ⟨s, hs, rfl⟩ := List.mem_map.mp hx
  have g := h.1 s hs
  have st : ∀ z : String, Smn 22 (.str (z : Str)) := fun z => .str (strOk_of z)
  cases s with
  | move p =>
    refine .tuple (by simp) fun x hx => ?_
    simp only [List.mem_cons, List.not_mem_nil, or_false] at hx
    rcases hx with rfl | rfl
    · exact st _
    · exact smn_pt (GdP.ps g (by omega)) (by omega)
  | line p =>
    refine .tuple (by simp) fun x hx => ?_
    simp only [List.mem_cons, List.not_mem_nil, or_false] at hx
    rcases hx with rfl | rfl
    · exact st _
    · exact smn_pt (GdP.ps g (by omega)) (by omega)
  | bow a p =>
    refine .tuple (by simp) fun x hx => ?_
    simp only [List.mem_cons, List.not_mem_nil, or_false] at hx
    rcases hx with rfl | rfl | rfl
    · exact st _
    · exact smn_pt (GdP.ps g.1 (by omega)) (by omega)
    · exact smn_pt (GdP.ps g.2 (by omega)) (by omega)
  | wave a b p =>
    refine .tuple (by simp) fun x hx => ?_
    simp only [List.mem_cons, List.not_mem_nil, or_false] at hx
    rcases hx with rfl | rfl | rfl | rfl
    · exact st _
    · exact smn_pt (GdP.ps g.1 (by omega)) (by omega)
    · exact smn_pt (GdP.ps g.2.1 (by omega)) (by omega)
    · exact smn_pt (GdP.ps g.2.2 (by omega)) (by omega)
  | shut =>
    refine .tuple (by simp) fun x hx => ?_
    simp only [List.mem_cons, List.not_mem_nil, or_false] at hx
    subst hx
    exact st _
theorem plain_k01 (ns : List Int) (hn : ns.length ≤ 63) : m_law_k01 [scr ns] = some (.bool true) := by
  obtain ⟨n0, a0, _, e0⟩ := m_mixed_eq ns 0
  obtain ⟨n1, a1, _, e1⟩ := m_mixed_eq ns 1
  obtain ⟨n2, a2, _, e2⟩ := m_mixed_eq ns 2
  obtain ⟨n3, a3, _, e3⟩ := m_mixed_eq ns 3
  obtain ⟨n4, a4, _, e4⟩ := m_mixed_eq ns 4
  obtain ⟨n5, a5, _, e5⟩ := m_mixed_eq ns 5
  obtain ⟨n6, a6, _, e6⟩ := m_mixed_eq ns 6
  have e0 : m__law_mixed [scr ns, .int 0] = some (.int n0) := e0
  have e1 : m__law_mixed [scr ns, .int 1] = some (.int n1) := e1
  have e2 : m__law_mixed [scr ns, .int 2] = some (.int n2) := e2
  have e3 : m__law_mixed [scr ns, .int 3] = some (.int n3) := e3
  have e4 : m__law_mixed [scr ns, .int 4] = some (.int n4) := e4
  have e5 : m__law_mixed [scr ns, .int 5] = some (.int n5) := e5
  have e6 : m__law_mixed [scr ns, .int 6] = some (.int n6) := e6
  obtain ⟨w, gw, wl, ew⟩ := m_way_eq n1 12 (by decide) (by decide)
  obtain ⟨q, gq, eq_⟩ := m_number_eq n2 a2
  have sw := smn_wy gw (by omega)
  have sq := smn_fr (gq.sz (by omega)) (Nat.le_refl 22)
  refine run_rt ?_
  unfold b_law_k01
  rw [show startR N_law_k01 [scr ns] = [fz (scr ns), none, none, none, none, none, none, none, none] from rfl]
  rw [seq_nx (ρ' := [fz (scr ns), fz (.int n0), none, none, none, none, none, none, none]) (by simp [e0])]
  rw [seq_nx (ρ' := [fz (scr ns), fz (.int n0), fz (wy w), none, none, none, none, none, none]) (by simp [e1, ew])]
  rw [seq_nx (ρ' := [fz (scr ns), fz (.int n0), fz (wy w), fz (fr q), none, none, none, none, none]) (by simp [e2, eq_])]
  have key : ∃ d1 d2, Sml 100 d1 ∧ Sml 100 d2 ∧ (sIf (mTest (mBin pGt (mBin pMod (mVar 1) (mK (.int 3))) (mK (.int 0)))) (sSeq (sSet 2 (mCall m__law_spoilt (mCons (mVar 2) (mCons (mCall m__law_mixed (mCons (mVar 0) (mCons (mK (.int 3)) mNil))) (mCons (mBin pMod (mBin pDiv (mVar 1) (mK (.int 4))) (mK (.int 5))) mNil)))))
  (sSet 3 (mCall m__law_spoilt (mCons (mVar 3) (mCons (mCall m__law_mixed (mCons (mVar 0) (mCons (mK (.int 4)) mNil))) (mCons (mBin pMod (mBin pDiv (mVar 1) (mK (.int 32))) (mK (.int 2))) mNil))))))
  sNil) [fz (scr ns), fz (.int n0), fz (wy w), fz (fr q), none, none, none, none, none] = some (.nx [fz (scr ns), fz (.int n0), fz d1, fz d2, none, none, none, none, none]) := by
    have m3 := @pMod_s n0 3 (by decide)
    by_cases h3 : 0 < n0 % 3
    · have d4 := @pDiv_s n0 4 (by decide) (by decide)
      have m5 := @pMod_s (n0 / 4) 5 (by decide)
      have d32 := @pDiv_s n0 32 (by decide) (by decide)
      have m2 := @pMod_s (n0 / 32) 2 (by decide)
      have b0 : 0 ≤ n0 / 4 % 5 := Int.emod_nonneg _ (by decide)
      have b1 : n0 / 4 % 5 < 5 := Int.emod_lt_of_pos _ (by decide)
      have c0 : 0 ≤ n0 / 32 % 2 := Int.emod_nonneg _ (by decide)
      have c1 : n0 / 32 % 2 < 2 := Int.emod_lt_of_pos _ (by decide)
      obtain ⟨f1, s1, s2⟩ := spoilt_ok (n := 22) (by decide) (by decide) 6 (wy w) n3 (n0 / 4 % 5).toNat (by omega) sw
      obtain ⟨f2, r1, r2⟩ := spoilt_ok (n := 22) (by decide) (by decide) 6 (fr q) n4 (n0 / 32 % 2).toNat (by omega) sq
      rw [show (((n0 / 4 % 5).toNat : Nat) : Int) = n0 / 4 % 5 by omega] at s1
      rw [show (((n0 / 32 % 2).toNat : Nat) : Int) = n0 / 32 % 2 by omega] at r1
      have s1 : m__law_spoilt [wy w, .int n3, .int (n0 / 4 % 5)] = some f1 := s1
      have r1 : m__law_spoilt [fr q, .int n4, .int (n0 / 32 % 2)] = some f2 := r1
      refine ⟨f1, f2, s2.mono (by decide), r2.mono (by decide), ?_⟩
      simp [m3, h3, d4, m5, d32, m2, e3, e4, s1, r1]
    · exact ⟨_, _, sw.sml.mono (by decide), sq.sml.mono (by decide), by simp [m3, h3]⟩
  obtain ⟨d1, d2, s1, s2, key⟩ := key
  rw [seq_nx key]
  have w1 := m_is_way_eq d1
  have w2 := m_is_way_eq d2
  have f1 := m_is_fraction_eq d1
  have f2 := m_is_fraction_eq d2
  have v1 := m_law_is_way_eq (n := 100) (by decide) s1
  have v2 := m_law_is_way_eq (n := 100) (by decide) s2
  have g1 := m_law_is_fraction_eq (n := 100) (by decide) s1
  have g2 := m_law_is_fraction_eq (n := 100) (by decide) s2
  generalize wayB d1 = b1 at *
  generalize wayB d2 = b2 at *
  generalize isFr d1 = b3 at *
  generalize isFr d2 = b4 at *
  rw [seq_nx (ρ' := [fz (scr ns), fz (.int n0), fz d1, fz d2, fz (.list [.bool b1, .bool b4, .bool b2, .bool b3]), none, none, none, none]) (by simp [w1, w2, f1, f2])]
  rw [seq_nx (ρ' := [fz (scr ns), fz (.int n0), fz d1, fz d2, fz (.list [.bool b1, .bool b4, .bool b2, .bool b3]), fz (.list [.bool b1, .bool b4, .bool b2, .bool b3]), none, none, none]) (by simp [v1, v2, g1, g2])]
  have ne1 : pNe (.list [.bool b1, .bool b4, .bool b2, .bool b3]) (.list [.bool b1, .bool b4, .bool b2, .bool b3]) = some (.bool false) := pNe_same (by simp [PyData.canLay0, PyData.canLayAll0]) (by simp [PyData.depth, PyData.depthAll])
  have ne2 : pNe (.list []) (.list []) = some (.bool false) := pNe_same (by simp [PyData.canLay0, PyData.canLayAll0]) (by simp [PyData.depth, PyData.depthAll])
  rw [seq_nx (ρ' := [fz (scr ns), fz (.int n0), fz d1, fz d2, fz (.list [.bool b1, .bool b4, .bool b2, .bool b3]), fz (.list [.bool b1, .bool b4, .bool b2, .bool b3]), none, none, none]) (by
    have lc : mLc (mItems (mVar 4)) (gN 8) (mNot (mTest (mIsi "bool" (mVar 8)))) (mVar 8) [8] [fz (scr ns), fz (.int n0), fz d1, fz d2, fz (.list [.bool b1, .bool b4, .bool b2, .bool b3]), fz (.list [.bool b1, .bool b4, .bool b2, .bool b3]), none, none, none] = some [] := by
      have := mLc_gen (emb := PyData.bool) (f := PyData.bool) (p := fun _ => false) (xs := [b1, b4, b2, b3]) (fi := mItems (mVar 4)) (g := gN 8) (ft := (mNot (mTest (mIsi "bool" (mVar 8))))) (fe := mVar 8) (vs := [8]) (ρ := [fz (scr ns), fz (.int n0), fz d1, fz d2, fz (.list [.bool b1, .bool b4, .bool b2, .bool b3]), fz (.list [.bool b1, .bool b4, .bool b2, .bool b3]), none, none, none]) (by simp) (by simp)
        (fun x _ => ⟨[fz (scr ns), fz (.int n0), fz d1, fz d2, fz (.list [.bool b1, .bool b4, .bool b2, .bool b3]), fz (.list [.bool b1, .bool b4, .bool b2, .bool b3]), none, none, fz (.bool x)], rfl, rfl, fun h => by cases h⟩)
      rw [this]; simp
    simp only [sIf_ap, mOr_ap, mTest_ap, mBin_ap, mVar4, mVar5, mVar0, Option.bind_some, ne1, asB_ap, if_neg Bool.false_ne_true, mLst_ap, lc, mNil_ap, ne2, sNil_ap])]
  have m4001 := @pMod_s n5 4001 (by decide)
  have m401 := @pMod_s n6 401 (by decide)
  have h0 : 0 ≤ n6 % 401 := Int.emod_nonneg _ (by decide)
  have h1 : n6 % 401 < 401 := Int.emod_lt_of_pos _ (by decide)
  rw [seq_nx (ρ' := [fz (scr ns), fz (.int n0), fz d1, fz d2, fz (.list [.bool b1, .bool b4, .bool b2, .bool b3]), fz (.list [.bool b1, .bool b4, .bool b2, .bool b3]), fz (.int (n5 % 4001 - 2000)), none, none]) (by simp [e5, m4001])]
  rw [seq_nx (ρ' := [fz (scr ns), fz (.int n0), fz d1, fz d2, fz (.list [.bool b1, .bool b4, .bool b2, .bool b3]), fz (.list [.bool b1, .bool b4, .bool b2, .bool b3]), fz (.int (n5 % 4001 - 2000)), fz (.int (n6 % 401 - 200)), none]) (by simp [e6, m401])]
  generalize n5 % 4001 - 2000 = u at *
  obtain ⟨l, hl, hl2, el⟩ : ∃ l : Int, l ≠ 0 ∧ l.natAbs < 2 ^ 9000 ∧ (sIf (mTest (mBin pEq (mVar 7) (mK (.int 0)))) (sSet 7 (mK (.int 7))) sNil) [fz (scr ns), fz (.int n0), fz d1, fz d2, fz (.list [.bool b1, .bool b4, .bool b2, .bool b3]), fz (.list [.bool b1, .bool b4, .bool b2, .bool b3]), fz (.int u), fz (.int (n6 % 401 - 200)), none] = some (.nx [fz (scr ns), fz (.int n0), fz d1, fz d2, fz (.list [.bool b1, .bool b4, .bool b2, .bool b3]), fz (.list [.bool b1, .bool b4, .bool b2, .bool b3]), fz (.int u), fz (.int l), none]) := by
    have big : 2 ^ 20 ≤ 2 ^ 9000 := Nat.pow_le_pow_right (by decide) (by decide)
    by_cases h : n6 % 401 - 200 = 0
    · refine ⟨7, by decide, Nat.lt_of_lt_of_le (by decide) big, ?_⟩
      simp [h]
    · refine ⟨_, h, Nat.lt_of_lt_of_le (show _ < 2 ^ 20 by omega) big, ?_⟩
      simp [h]
  rw [seq_nx el]
  have x1 := m_fraction_eq (u := u) hl hl2
  have x2 := m_law_fr_eq (u := u) hl hl2
  have x3 : pEq (fr (Rat.divInt u l)) (fr (Rat.divInt u l)) = some (.bool true) := pEq_same (by simp [fr, PyData.canLay0, PyData.canLayAll0]) (by rw [dep_fr]; decide)
  simp only [ret_ap, List.map_cons, List.map_nil, frzS_frz, frzS_none, mBin_ap, mCall_ap, mCons_ap, mNil_ap, mVar6, mVar7, mVar0, Option.bind_some, x1, x2, x3]
end Dm

set_option Elab.async false
set_option linter.all false
set_option maxRecDepth 100000
set_option maxHeartbeats 4000000
namespace W01
open PySem PySem.Spec L2 Dw Dm
def topS (i : Nat) : Stmt := PySem.Challenge.pw_drawways_k01_things.main.body.getD i (.Pass ⟨0, 0, 0, 0⟩)
abbrev s_divisor : Stmt := topS 10
theorem sc_divisor : FnScope N_divisor ["one", "other"] (defScope s_divisor) := ⟨rfl, rfl, rfl, by decide +kernel, rfl, by decide +kernel, by decide +kernel⟩
abbrev s_is_whole : Stmt := topS 11
theorem sc_is_whole : FnScope N_is_whole ["thing"] (defScope s_is_whole) := ⟨rfl, rfl, rfl, by decide +kernel, rfl, by decide +kernel, by decide +kernel⟩
abbrev s_is_fraction : Stmt := topS 12
theorem sc_is_fraction : FnScope N_is_fraction ["thing"] (defScope s_is_fraction) := ⟨rfl, rfl, rfl, by decide +kernel, rfl, by decide +kernel, by decide +kernel⟩
abbrev s_is_small : Stmt := topS 13
theorem sc_is_small : FnScope N_is_small ["thing"] (defScope s_is_small) := ⟨rfl, rfl, rfl, by decide +kernel, rfl, by decide +kernel, by decide +kernel⟩
abbrev s_is_point : Stmt := topS 14
theorem sc_is_point : FnScope N_is_point ["thing"] (defScope s_is_point) := ⟨rfl, rfl, rfl, by decide +kernel, rfl, by decide +kernel, by decide +kernel⟩
abbrev s_is_stroke : Stmt := topS 15
theorem sc_is_stroke : FnScope N_is_stroke ["thing"] (defScope s_is_stroke) := ⟨rfl, rfl, rfl, by decide +kernel, rfl, by decide +kernel, by decide +kernel⟩
abbrev s_is_way : Stmt := topS 16
theorem sc_is_way : FnScope N_is_way ["thing"] (defScope s_is_way) := ⟨rfl, rfl, rfl, by decide +kernel, rfl, by decide +kernel, by decide +kernel⟩
abbrev s_fraction : Stmt := topS 17
theorem sc_fraction : FnScope N_fraction ["upper", "lower"] (defScope s_fraction) := ⟨rfl, rfl, rfl, by decide +kernel, rfl, by decide +kernel, by decide +kernel⟩
abbrev s__law_cell_at : Stmt := topS 19
theorem sc__law_cell_at : FnScope N__law_cell_at ["script", "k"] (defScope s__law_cell_at) := ⟨rfl, rfl, rfl, by decide +kernel, rfl, by decide +kernel, by decide +kernel⟩
abbrev s__law_mixed : Stmt := topS 20
theorem sc__law_mixed : FnScope N__law_mixed ["script", "k"] (defScope s__law_mixed) := ⟨rfl, rfl, rfl, by decide +kernel, rfl, by decide +kernel, by decide +kernel⟩
abbrev s__law_drawn : Stmt := topS 21
theorem sc__law_drawn : FnScope N__law_drawn ["number", "k"] (defScope s__law_drawn) := ⟨rfl, rfl, rfl, by decide +kernel, rfl, by decide +kernel, by decide +kernel⟩
abbrev s__law_fr : Stmt := topS 22
theorem sc__law_fr : FnScope N__law_fr ["upper", "lower"] (defScope s__law_fr) := ⟨rfl, rfl, rfl, by decide +kernel, rfl, by decide +kernel, by decide +kernel⟩
abbrev s__law_plus : Stmt := topS 23
theorem sc__law_plus : FnScope N__law_plus ["one", "other"] (defScope s__law_plus) := ⟨rfl, rfl, rfl, by decide +kernel, rfl, by decide +kernel, by decide +kernel⟩
abbrev s__law_times : Stmt := topS 24
theorem sc__law_times : FnScope N__law_times ["one", "other"] (defScope s__law_times) := ⟨rfl, rfl, rfl, by decide +kernel, rfl, by decide +kernel, by decide +kernel⟩
abbrev s__law_minus : Stmt := topS 25
theorem sc__law_minus : FnScope N__law_minus ["one", "other"] (defScope s__law_minus) := ⟨rfl, rfl, rfl, by decide +kernel, rfl, by decide +kernel, by decide +kernel⟩
abbrev s__law_add : Stmt := topS 26
theorem sc__law_add : FnScope N__law_add ["point", "other"] (defScope s__law_add) := ⟨rfl, rfl, rfl, by decide +kernel, rfl, by decide +kernel, by decide +kernel⟩
abbrev s__law_sub : Stmt := topS 27
theorem sc__law_sub : FnScope N__law_sub ["point", "other"] (defScope s__law_sub) := ⟨rfl, rfl, rfl, by decide +kernel, rfl, by decide +kernel, by decide +kernel⟩
abbrev s__law_scale : Stmt := topS 28
theorem sc__law_scale : FnScope N__law_scale ["number", "point"] (defScope s__law_scale) := ⟨rfl, rfl, rfl, by decide +kernel, rfl, by decide +kernel, by decide +kernel⟩
abbrev s__law_number : Stmt := topS 29
theorem sc__law_number : FnScope N__law_number ["number"] (defScope s__law_number) := ⟨rfl, rfl, rfl, by decide +kernel, rfl, by decide +kernel, by decide +kernel⟩
abbrev s__law_point : Stmt := topS 30
theorem sc__law_point : FnScope N__law_point ["number"] (defScope s__law_point) := ⟨rfl, rfl, rfl, by decide +kernel, rfl, by decide +kernel, by decide +kernel⟩
abbrev s__law_goal : Stmt := topS 31
theorem sc__law_goal : FnScope N__law_goal ["number", "pen", "begin"] (defScope s__law_goal) := ⟨rfl, rfl, rfl, by decide +kernel, rfl, by decide +kernel, by decide +kernel⟩
abbrev s__law_stroke : Stmt := topS 32
theorem sc__law_stroke : FnScope N__law_stroke ["number", "pen", "begin", "ahead"] (defScope s__law_stroke) := ⟨rfl, rfl, rfl, by decide +kernel, rfl, by decide +kernel, by decide +kernel⟩
abbrev s__law_way : Stmt := topS 33
theorem sc__law_way : FnScope N__law_way ["number", "most"] (defScope s__law_way) := ⟨rfl, rfl, rfl, by decide +kernel, rfl, by decide +kernel, by decide +kernel⟩
abbrev s__law_pens : Stmt := topS 34
theorem sc__law_pens : FnScope N__law_pens ["way"] (defScope s__law_pens) := ⟨rfl, rfl, rfl, by decide +kernel, rfl, by decide +kernel, by decide +kernel⟩
abbrev s__law_is_fraction : Stmt := topS 35
theorem sc__law_is_fraction : FnScope N__law_is_fraction ["thing"] (defScope s__law_is_fraction) := ⟨rfl, rfl, rfl, by decide +kernel, rfl, by decide +kernel, by decide +kernel⟩
abbrev s__law_is_way : Stmt := topS 36
theorem sc__law_is_way : FnScope N__law_is_way ["thing"] (defScope s__law_is_way) := ⟨rfl, rfl, rfl, by decide +kernel, rfl, by decide +kernel, by decide +kernel⟩
abbrev s__law_spoilt : Stmt := topS 37
theorem sc__law_spoilt : FnScope N__law_spoilt ["thing", "number", "deep"] (defScope s__law_spoilt) := ⟨rfl, rfl, rfl, by decide +kernel, rfl, by decide +kernel, by decide +kernel⟩
abbrev s_law : Stmt := topS 38
theorem sc_law : FnScope N_law_k01 ["script"] (defScope s_law) := ⟨rfl, rfl, rfl, by decide +kernel, rfl, by decide +kernel, by decide +kernel⟩
structure Txt (w : World) (K : PySem.W.Frag) (mg : Str → Option Value) : Prop where
  d_LENGTHS : GDict K w mg "LENGTHS" dc_LENGTHS
  f_divisor : ∃ fd, FunD K "divisor" "divisor" (defArgs s_divisor) (defBody s_divisor) (defScope s_divisor) [] [] (He.fAd K ("divisor", none)) fd
  g_divisor : mg "divisor" = some (.ref (He.fAd K ("divisor", none)))
  f_is_whole : ∃ fd, FunD K "is_whole" "is_whole" (defArgs s_is_whole) (defBody s_is_whole) (defScope s_is_whole) [] [] (He.fAd K ("is_whole", none)) fd
  g_is_whole : mg "is_whole" = some (.ref (He.fAd K ("is_whole", none)))
  f_is_fraction : ∃ fd, FunD K "is_fraction" "is_fraction" (defArgs s_is_fraction) (defBody s_is_fraction) (defScope s_is_fraction) [] [] (He.fAd K ("is_fraction", none)) fd
  g_is_fraction : mg "is_fraction" = some (.ref (He.fAd K ("is_fraction", none)))
  f_is_small : ∃ fd, FunD K "is_small" "is_small" (defArgs s_is_small) (defBody s_is_small) (defScope s_is_small) [] [] (He.fAd K ("is_small", none)) fd
  g_is_small : mg "is_small" = some (.ref (He.fAd K ("is_small", none)))
  f_is_point : ∃ fd, FunD K "is_point" "is_point" (defArgs s_is_point) (defBody s_is_point) (defScope s_is_point) [] [] (He.fAd K ("is_point", none)) fd
  g_is_point : mg "is_point" = some (.ref (He.fAd K ("is_point", none)))
  f_is_stroke : ∃ fd, FunD K "is_stroke" "is_stroke" (defArgs s_is_stroke) (defBody s_is_stroke) (defScope s_is_stroke) [] [] (He.fAd K ("is_stroke", none)) fd
  g_is_stroke : mg "is_stroke" = some (.ref (He.fAd K ("is_stroke", none)))
  f_is_way : ∃ fd, FunD K "is_way" "is_way" (defArgs s_is_way) (defBody s_is_way) (defScope s_is_way) [] [] (He.fAd K ("is_way", none)) fd
  g_is_way : mg "is_way" = some (.ref (He.fAd K ("is_way", none)))
  f_fraction : ∃ fd, FunD K "fraction" "fraction" (defArgs s_fraction) (defBody s_fraction) (defScope s_fraction) [] [] (He.fAd K ("fraction", none)) fd
  g_fraction : mg "fraction" = some (.ref (He.fAd K ("fraction", none)))
  f__law_cell_at : ∃ fd, FunD K "_law_cell_at" "_law_cell_at" (defArgs s__law_cell_at) (defBody s__law_cell_at) (defScope s__law_cell_at) [] [] (He.fAd K ("_law_cell_at", none)) fd
  g__law_cell_at : mg "_law_cell_at" = some (.ref (He.fAd K ("_law_cell_at", none)))
  f__law_mixed : ∃ fd, FunD K "_law_mixed" "_law_mixed" (defArgs s__law_mixed) (defBody s__law_mixed) (defScope s__law_mixed) [] [] (He.fAd K ("_law_mixed", none)) fd
  g__law_mixed : mg "_law_mixed" = some (.ref (He.fAd K ("_law_mixed", none)))
  f__law_drawn : ∃ fd, FunD K "_law_drawn" "_law_drawn" (defArgs s__law_drawn) (defBody s__law_drawn) (defScope s__law_drawn) [] [] (He.fAd K ("_law_drawn", none)) fd
  g__law_drawn : mg "_law_drawn" = some (.ref (He.fAd K ("_law_drawn", none)))
  f__law_fr : ∃ fd, FunD K "_law_fr" "_law_fr" (defArgs s__law_fr) (defBody s__law_fr) (defScope s__law_fr) [] [] (He.fAd K ("_law_fr", none)) fd
  g__law_fr : mg "_law_fr" = some (.ref (He.fAd K ("_law_fr", none)))
  f__law_plus : ∃ fd, FunD K "_law_plus" "_law_plus" (defArgs s__law_plus) (defBody s__law_plus) (defScope s__law_plus) [] [] (He.fAd K ("_law_plus", none)) fd
  g__law_plus : mg "_law_plus" = some (.ref (He.fAd K ("_law_plus", none)))
  f__law_times : ∃ fd, FunD K "_law_times" "_law_times" (defArgs s__law_times) (defBody s__law_times) (defScope s__law_times) [] [] (He.fAd K ("_law_times", none)) fd
  g__law_times : mg "_law_times" = some (.ref (He.fAd K ("_law_times", none)))
  f__law_minus : ∃ fd, FunD K "_law_minus" "_law_minus" (defArgs s__law_minus) (defBody s__law_minus) (defScope s__law_minus) [] [] (He.fAd K ("_law_minus", none)) fd
  g__law_minus : mg "_law_minus" = some (.ref (He.fAd K ("_law_minus", none)))
  f__law_add : ∃ fd, FunD K "_law_add" "_law_add" (defArgs s__law_add) (defBody s__law_add) (defScope s__law_add) [] [] (He.fAd K ("_law_add", none)) fd
  g__law_add : mg "_law_add" = some (.ref (He.fAd K ("_law_add", none)))
  f__law_sub : ∃ fd, FunD K "_law_sub" "_law_sub" (defArgs s__law_sub) (defBody s__law_sub) (defScope s__law_sub) [] [] (He.fAd K ("_law_sub", none)) fd
  g__law_sub : mg "_law_sub" = some (.ref (He.fAd K ("_law_sub", none)))
  f__law_scale : ∃ fd, FunD K "_law_scale" "_law_scale" (defArgs s__law_scale) (defBody s__law_scale) (defScope s__law_scale) [] [] (He.fAd K ("_law_scale", none)) fd
  g__law_scale : mg "_law_scale" = some (.ref (He.fAd K ("_law_scale", none)))
  f__law_number : ∃ fd, FunD K "_law_number" "_law_number" (defArgs s__law_number) (defBody s__law_number) (defScope s__law_number) [] [] (He.fAd K ("_law_number", none)) fd
  g__law_number : mg "_law_number" = some (.ref (He.fAd K ("_law_number", none)))
  f__law_point : ∃ fd, FunD K "_law_point" "_law_point" (defArgs s__law_point) (defBody s__law_point) (defScope s__law_point) [] [] (He.fAd K ("_law_point", none)) fd
  g__law_point : mg "_law_point" = some (.ref (He.fAd K ("_law_point", none)))
  f__law_goal : ∃ fd, FunD K "_law_goal" "_law_goal" (defArgs s__law_goal) (defBody s__law_goal) (defScope s__law_goal) [] [] (He.fAd K ("_law_goal", none)) fd
  g__law_goal : mg "_law_goal" = some (.ref (He.fAd K ("_law_goal", none)))
  f__law_stroke : ∃ fd, FunD K "_law_stroke" "_law_stroke" (defArgs s__law_stroke) (defBody s__law_stroke) (defScope s__law_stroke) [] [] (He.fAd K ("_law_stroke", none)) fd
  g__law_stroke : mg "_law_stroke" = some (.ref (He.fAd K ("_law_stroke", none)))
  f__law_way : ∃ fd, FunD K "_law_way" "_law_way" (defArgs s__law_way) (defBody s__law_way) (defScope s__law_way) [] [] (He.fAd K ("_law_way", none)) fd
  g__law_way : mg "_law_way" = some (.ref (He.fAd K ("_law_way", none)))
  f__law_pens : ∃ fd, FunD K "_law_pens" "_law_pens" (defArgs s__law_pens) (defBody s__law_pens) (defScope s__law_pens) [] [] (He.fAd K ("_law_pens", none)) fd
  g__law_pens : mg "_law_pens" = some (.ref (He.fAd K ("_law_pens", none)))
  f__law_is_fraction : ∃ fd, FunD K "_law_is_fraction" "_law_is_fraction" (defArgs s__law_is_fraction) (defBody s__law_is_fraction) (defScope s__law_is_fraction) [] [] (He.fAd K ("_law_is_fraction", none)) fd
  g__law_is_fraction : mg "_law_is_fraction" = some (.ref (He.fAd K ("_law_is_fraction", none)))
  f__law_is_way : ∃ fd, FunD K "_law_is_way" "_law_is_way" (defArgs s__law_is_way) (defBody s__law_is_way) (defScope s__law_is_way) [] [] (He.fAd K ("_law_is_way", none)) fd
  g__law_is_way : mg "_law_is_way" = some (.ref (He.fAd K ("_law_is_way", none)))
  f__law_spoilt : ∃ fd, FunD K "_law_spoilt" "_law_spoilt" (defArgs s__law_spoilt) (defBody s__law_spoilt) (defScope s__law_spoilt) [] [] (He.fAd K ("_law_spoilt", none)) fd
  g__law_spoilt : mg "_law_spoilt" = some (.ref (He.fAd K ("_law_spoilt", none)))
  f_law : ∃ fd, FunD K "law" "law" (defArgs s_law) (defBody s_law) (defScope s_law) [] [] (He.fAd K ("law", none)) fd
  g_law : mg "law" = some (.ref (He.fAd K ("law", none)))
  z_abs : mg "abs" = none
  z_all : mg "all" = none
  z_bool : mg "bool" = none
  z_int : mg "int" = none
  z_isinstance : mg "isinstance" = none
  z_len : mg "len" = none
  z_list : mg "list" = none
  z_range : mg "range" = none
  z_str : mg "str" = none
  z_tuple : mg "tuple" = none
  c_MOST_UPPER : GlobD K mg "MOST_UPPER" c_MOST_UPPER
  c_LOWERS : GlobD K mg "LOWERS" c_LOWERS
  c_MOST_STROKES : GlobD K mg "MOST_STROKES" c_MOST_STROKES
  c_MOVE : GlobD K mg "MOVE" c_MOVE
  c_LINE : GlobD K mg "LINE" c_LINE
  c_BOW : GlobD K mg "BOW" c_BOW
  c_WAVE : GlobD K mg "WAVE" c_WAVE
  c_SHUT : GlobD K mg "SHUT" c_SHUT
section
variable {P : Program} {w : World} {K : PySem.W.Frag} {mg : Str → Option Value} {base : Heap}
theorem ok_divisor (T : Txt w K mg) : FnD P w K mg base 1 "divisor" 2 m_divisor := by
  obtain ⟨fd, F⟩ := T.f_divisor
  have hb : Binds K fd ["one", "other"] [] := F.bindsN fun _ _ _ _ _ _ us hl => match us, hl with | [_, _], _ => rfl
  refine ⟨_, fd, _, rfl, fn_ok (fb := b_divisor) F sc_divisor rfl (fun cdv A outer s H E hr => ?_), T.g_divisor, F.kp, hb⟩
  exact (dss_cons (ds_set 0 sc_divisor.nd (de_callB cl_abs T.z_abs (by decide +kernel) (da_cons (de_var 0) da_nil)))
  (dss_cons (ds_set 1 sc_divisor.nd (de_callB cl_abs T.z_abs (by decide +kernel) (da_cons (de_var 1) da_nil)))
  (dss_cons (ds_while PassesOwn.never (dt_cmp op_gt2 (de_var 1) de_int (nomark _)) (dss_one (ds_par 0 1 sc_divisor.nd (da_cons (de_var 1) (da_cons (de_op op_mod2 (de_var 0) (de_var 1)) da_nil)))))
  (dss_one (ds_ret (de_var 0))))))
theorem ok_is_whole (T : Txt w K mg) : FnD P w K mg base 1 "is_whole" 1 m_is_whole := by
  obtain ⟨fd, F⟩ := T.f_is_whole
  have hb : Binds K fd ["thing"] [] := F.bindsN fun _ _ _ _ _ _ us hl => match us, hl with | [_], _ => rfl
  refine ⟨_, fd, _, rfl, fn_ok (fb := b_is_whole) F sc_is_whole rfl (fun cdv A outer s H E hr => ?_), T.g_is_whole, F.kp, hb⟩
  exact (dss_one (ds_ret (de_and (de_isi (x := "x") isi_int (by decide +kernel) T.z_isinstance T.z_int (de_var 0)) (de_one (de_not (de_isi (x := "x") isi_bool (by decide +kernel) T.z_isinstance T.z_bool (de_var 0)))))))
theorem ok_is_fraction (T : Txt w K mg) : FnD P w K mg base 2 "is_fraction" 1 m_is_fraction := by
  obtain ⟨fd, F⟩ := T.f_is_fraction
  have G_divisor := ok_divisor (P := P) (w := w) (base := base) T
  have G_is_whole := ok_is_whole (P := P) (w := w) (base := base) T
  have hb : Binds K fd ["thing"] [] := F.bindsN fun _ _ _ _ _ _ us hl => match us, hl with | [_], _ => rfl
  refine ⟨_, fd, _, rfl, fn_ok (fb := b_is_fraction) F sc_is_fraction rfl (fun cdv A outer s H E hr => ?_), T.g_is_fraction, F.kp, hb⟩
  exact (dss_cons (ds_if ((dw_or (dt_not (dt_val (de_isi (x := "x") isi_tuple (by decide +kernel) T.z_isinstance T.z_tuple (de_var 0)))) (dw_or (dt_cmp (op_ne2 hr.units) (de_callB cl_len T.z_len (by decide +kernel) (da_cons (de_var 0) da_nil)) de_int (nomark _)) (dw_or (dt_not (dt_val (de_call G_is_whole (hr.mono (by decide)) (da_cons (de_ix (de_var 0) de_int) da_nil) (ln_cons ln_nil)))) (dw_or1 (dt_not (dt_val (de_call G_is_whole (hr.mono (by decide)) (da_cons (de_ix (de_var 0) de_int) da_nil) (ln_cons ln_nil))))))))).dt (dss_one (ds_ret de_bl))
  dss_nil)
  (dss_one (ds_ret (de_and (de_cmp op_gt2 (de_ix (de_var 0) de_int) de_int (nomark _)) (de_one (de_cmp (op_eq2 hr.units) (de_call G_divisor (hr.mono (by decide)) (da_cons (de_ix (de_var 0) de_int) (da_cons (de_ix (de_var 0) de_int) da_nil)) (ln_cons (ln_cons ln_nil))) de_int (nomark _)))))))
theorem ok_is_small (T : Txt w K mg) : FnD P w K mg base 3 "is_small" 1 m_is_small := by
  obtain ⟨fd, F⟩ := T.f_is_small
  have G_is_fraction := ok_is_fraction (P := P) (w := w) (base := base) T
  have hb : Binds K fd ["thing"] [] := F.bindsN fun _ _ _ _ _ _ us hl => match us, hl with | [_], _ => rfl
  refine ⟨_, fd, _, rfl, fn_ok (fb := b_is_small) F sc_is_small rfl (fun cdv A outer s H E hr => ?_), T.g_is_small, F.kp, hb⟩
  exact (dss_one (ds_ret (de_and (de_call G_is_fraction (hr.mono (by decide)) (da_cons (de_var 0) da_nil) (ln_cons ln_nil)) (de_and (de_cmp op_le2 (de_callB cl_abs T.z_abs (by decide +kernel) (da_cons (de_ix (de_var 0) de_int) da_nil)) (de_glob T.c_MOST_UPPER) (nomark _)) (de_one (de_cmp (op_in2 (u66 hr)) (de_ix (de_var 0) de_int) (de_glob T.c_LOWERS) rfl))))))
theorem ok_is_point (T : Txt w K mg) : FnD P w K mg base 4 "is_point" 1 m_is_point := by
  obtain ⟨fd, F⟩ := T.f_is_point
  have G_is_small := ok_is_small (P := P) (w := w) (base := base) T
  have hb : Binds K fd ["thing"] [] := F.bindsN fun _ _ _ _ _ _ us hl => match us, hl with | [_], _ => rfl
  refine ⟨_, fd, _, rfl, fn_ok (fb := b_is_point) F sc_is_point rfl (fun cdv A outer s H E hr => ?_), T.g_is_point, F.kp, hb⟩
  exact (dss_one (ds_ret (de_and (de_isi (x := "x") isi_tuple (by decide +kernel) T.z_isinstance T.z_tuple (de_var 0)) (de_and (de_cmp (op_eq2 hr.units) (de_callB cl_len T.z_len (by decide +kernel) (da_cons (de_var 0) da_nil)) de_int (nomark _)) (de_and (de_call G_is_small (hr.mono (by decide)) (da_cons (de_ix (de_var 0) de_int) da_nil) (ln_cons ln_nil)) (de_one (de_call G_is_small (hr.mono (by decide)) (da_cons (de_ix (de_var 0) de_int) da_nil) (ln_cons ln_nil))))))))
theorem ok_is_stroke (T : Txt w K mg) : FnD P w K mg base 5 "is_stroke" 1 m_is_stroke := by
  obtain ⟨fd, F⟩ := T.f_is_stroke
  have G_is_point := ok_is_point (P := P) (w := w) (base := base) T
  have hb : Binds K fd ["thing"] [] := F.bindsN fun _ _ _ _ _ _ us hl => match us, hl with | [_], _ => rfl
  refine ⟨_, fd, _, rfl, fn_ok (fb := b_is_stroke) F sc_is_stroke rfl (fun cdv A outer s H E hr => ?_), T.g_is_stroke, F.kp, hb⟩
  exact (dss_cons (ds_if ((dw_or (dt_not (dt_val (de_isi (x := "x") isi_tuple (by decide +kernel) T.z_isinstance T.z_tuple (de_var 0)))) (dw_or (dt_cmp (op_eq2 hr.units) (de_callB cl_len T.z_len (by decide +kernel) (da_cons (de_var 0) da_nil)) de_int (nomark _)) (dw_or1 (dt_not (dt_val (de_isi (x := "x") isi_str (by decide +kernel) T.z_isinstance T.z_str (de_ix (de_var 0) de_int)))))))).dt (dss_one (ds_ret de_bl))
  dss_nil)
  (dss_one (ds_ret (de_and (de_cmp (op_eq2 hr.units) (de_gget T.d_LENGTHS (de_ix (de_var 0) de_int) de_int) (de_callB cl_len T.z_len (by decide +kernel) (da_cons (de_var 0) da_nil)) (nomark _)) (de_one (de_callB (cl_all rfl) T.z_all (by decide +kernel) (da_cons ((dl_comp [("part", 1)] sc_is_stroke.nd (di_val (de_sl (de_var 0) (do_at de_int) do_no)) (fun _ _ _ _ _ => (dg_name 1 sc_is_stroke.nd)) (fun _ _ _ _ _ => dts_nil) (fun _ _ _ _ _ => (de_call G_is_point (hr.mono (by decide)) (da_cons (de_var 1) da_nil) (ln_cons ln_nil))) (blkOk_by (N := ["thing", "part"]) (sc := defScope s_is_stroke) (by decide +kernel)))).de da_nil)))))))
theorem ok_is_way (T : Txt w K mg) : FnD P w K mg base 6 "is_way" 1 m_is_way := by
  obtain ⟨fd, F⟩ := T.f_is_way
  have G_is_stroke := ok_is_stroke (P := P) (w := w) (base := base) T
  have hb : Binds K fd ["thing"] [] := F.bindsN fun _ _ _ _ _ _ us hl => match us, hl with | [_], _ => rfl
  refine ⟨_, fd, _, rfl, fn_ok (fb := b_is_way) F sc_is_way rfl (fun cdv A outer s H E hr => ?_), T.g_is_way, F.kp, hb⟩
  exact (dss_cons (ds_if ((dw_or (dt_not (dt_val (de_isi (x := "x") isi_tuple (by decide +kernel) T.z_isinstance T.z_tuple (de_var 0)))) (dw_or (dt_cmp op_gt2 (de_callB cl_len T.z_len (by decide +kernel) (da_cons (de_var 0) da_nil)) (de_glob T.c_MOST_STROKES) (nomark _)) (dw_or1 (dt_not (dt_val (de_callB (cl_all rfl) T.z_all (by decide +kernel) (da_cons ((dl_comp [("part", 1)] sc_is_way.nd (di_val (de_var 0)) (fun _ _ _ _ _ => (dg_name 1 sc_is_way.nd)) (fun _ _ _ _ _ => dts_nil) (fun _ _ _ _ _ => (de_call G_is_stroke (hr.mono (by decide)) (da_cons (de_var 1) da_nil) (ln_cons ln_nil))) (blkOk_by (N := ["thing", "part"]) (sc := defScope s_is_way) (by decide +kernel)))).de da_nil)))))))).dt (dss_one (ds_ret de_bl))
  dss_nil)
  (dss_one (ds_ret (de_or (de_cmp (op_eq2 hr.units) (de_callB cl_len T.z_len (by decide +kernel) (da_cons (de_var 0) da_nil)) de_int (nomark _)) (de_one (de_cmp (op_eq2 hr.units) (de_ix (de_ix (de_var 0) de_int) de_int) (de_glob T.c_MOVE) (nomark _)))))))
theorem ok_fraction (T : Txt w K mg) : FnD P w K mg base 2 "fraction" 2 m_fraction := by
  obtain ⟨fd, F⟩ := T.f_fraction
  have G_divisor := ok_divisor (P := P) (w := w) (base := base) T
  have hb : Binds K fd ["upper", "lower"] [] := F.bindsN fun _ _ _ _ _ _ us hl => match us, hl with | [_, _], _ => rfl
  refine ⟨_, fd, _, rfl, fn_ok (fb := b_fraction) F sc_fraction rfl (fun cdv A outer s H E hr => ?_), T.g_fraction, F.kp, hb⟩
  exact (dss_cons (ds_set 2 sc_fraction.nd (de_call G_divisor (hr.mono (by decide)) (da_cons (de_var 0) (da_cons (de_var 1) da_nil)) (ln_cons (ln_cons ln_nil))))
  (dss_cons (ds_if (dt_cmp op_lt2 (de_var 1) de_int (nomark _)) (dss_one (ds_set 2 sc_fraction.nd (de_op op_sub2 de_int (de_var 2))))
  dss_nil)
  (dss_one (ds_ret (de_tup (ln_cons (ln_cons ln_nil)) (da_cons (de_op op_div2 (de_var 0) (de_var 2)) (da_cons (de_op op_div2 (de_var 1) (de_var 2)) da_nil)))))))
theorem ok__law_cell_at (T : Txt w K mg) : FnD P w K mg base 1 "_law_cell_at" 2 m__law_cell_at := by
  obtain ⟨fd, F⟩ := T.f__law_cell_at
  have hb : Binds K fd ["script", "k"] [] := F.bindsN fun _ _ _ _ _ _ us hl => match us, hl with | [_, _], _ => rfl
  refine ⟨_, fd, _, rfl, fn_ok (fb := b__law_cell_at) F sc__law_cell_at rfl (fun cdv A outer s H E hr => ?_), T.g__law_cell_at, F.kp, hb⟩
  exact (dss_cons (ds_if (dt_cmp op_lt2 (de_var 1) (de_callB cl_len T.z_len (by decide +kernel) (da_cons (de_var 0) da_nil)) (nomark _)) (dss_one (ds_ret (de_ix (de_var 0) (de_var 1))))
  dss_nil)
  (dss_one (ds_ret de_int)))
theorem ok__law_mixed (T : Txt w K mg) : FnD P w K mg base 2 "_law_mixed" 2 m__law_mixed := by
  obtain ⟨fd, F⟩ := T.f__law_mixed
  have G__law_cell_at := ok__law_cell_at (P := P) (w := w) (base := base) T
  have hb : Binds K fd ["script", "k"] [] := F.bindsN fun _ _ _ _ _ _ us hl => match us, hl with | [_, _], _ => rfl
  refine ⟨_, fd, _, rfl, fn_ok (fb := b__law_mixed) F sc__law_mixed rfl (fun cdv A outer s H E hr => ?_), T.g__law_mixed, F.kp, hb⟩
  exact (dss_cons (ds_set 2 sc__law_mixed.nd (de_op op_mod2 (de_op op_mul2 (de_op op_add2 (de_op op_add2 (de_call G__law_cell_at (hr.mono (by decide)) (da_cons (de_var 0) (da_cons (de_var 1) da_nil)) (ln_cons (ln_cons ln_nil))) (de_op op_mul2 de_int (de_var 1))) de_int) de_int) de_int))
  (dss_one (ds_ret (de_op op_mod2 (de_op op_add2 (de_op op_add2 (de_op op_mul2 (de_var 2) (de_var 2)) (de_op op_mul2 de_int (de_var 2))) (de_var 1)) de_int))))
theorem ok__law_drawn (T : Txt w K mg) : FnD P w K mg base 1 "_law_drawn" 2 m__law_drawn := by
  obtain ⟨fd, F⟩ := T.f__law_drawn
  have hb : Binds K fd ["number", "k"] [] := F.bindsN fun _ _ _ _ _ _ us hl => match us, hl with | [_, _], _ => rfl
  refine ⟨_, fd, _, rfl, fn_ok (fb := b__law_drawn) F sc__law_drawn rfl (fun cdv A outer s H E hr => ?_), T.g__law_drawn, F.kp, hb⟩
  exact (dss_cons (ds_set 2 sc__law_drawn.nd (de_op op_mod2 (de_op op_mul2 (de_op op_add2 (de_op op_add2 (de_var 0) (de_op op_mul2 de_int (de_var 1))) de_int) de_int) de_int))
  (dss_one (ds_ret (de_op op_mod2 (de_op op_add2 (de_op op_add2 (de_op op_mul2 (de_var 2) (de_var 2)) (de_op op_mul2 de_int (de_var 2))) (de_var 1)) de_int))))
theorem ok__law_fr (T : Txt w K mg) : FnD P w K mg base 1 "_law_fr" 2 m__law_fr := by
  obtain ⟨fd, F⟩ := T.f__law_fr
  have hb : Binds K fd ["upper", "lower"] [] := F.bindsN fun _ _ _ _ _ _ us hl => match us, hl with | [_, _], _ => rfl
  refine ⟨_, fd, _, rfl, fn_ok (fb := b__law_fr) F sc__law_fr rfl (fun cdv A outer s H E hr => ?_), T.g__law_fr, F.kp, hb⟩
  exact (dss_cons (ds_set 2 sc__law_fr.nd (de_callB cl_abs T.z_abs (by decide +kernel) (da_cons (de_var 0) da_nil)))
  (dss_cons (ds_set 3 sc__law_fr.nd (de_callB cl_abs T.z_abs (by decide +kernel) (da_cons (de_var 1) da_nil)))
  (dss_cons (ds_while PassesOwn.never (dt_cmp op_gt2 (de_var 3) de_int (nomark _)) (dss_one (ds_par 2 3 sc__law_fr.nd (da_cons (de_var 3) (da_cons (de_op op_mod2 (de_var 2) (de_var 3)) da_nil)))))
  (dss_cons (ds_if (dt_cmp op_lt2 (de_var 1) de_int (nomark _)) (dss_one (ds_set 2 sc__law_fr.nd (de_op op_sub2 de_int (de_var 2))))
  dss_nil)
  (dss_one (ds_ret (de_tup (ln_cons (ln_cons ln_nil)) (da_cons (de_op op_div2 (de_var 0) (de_var 2)) (da_cons (de_op op_div2 (de_var 1) (de_var 2)) da_nil)))))))))
theorem ok__law_plus (T : Txt w K mg) : FnD P w K mg base 2 "_law_plus" 2 m__law_plus := by
  obtain ⟨fd, F⟩ := T.f__law_plus
  have G__law_fr := ok__law_fr (P := P) (w := w) (base := base) T
  have hb : Binds K fd ["one", "other"] [] := F.bindsN fun _ _ _ _ _ _ us hl => match us, hl with | [_, _], _ => rfl
  refine ⟨_, fd, _, rfl, fn_ok (fb := b__law_plus) F sc__law_plus rfl (fun cdv A outer s H E hr => ?_), T.g__law_plus, F.kp, hb⟩
  exact (dss_one (ds_ret (de_call G__law_fr (hr.mono (by decide)) (da_cons (de_op op_add2 (de_op op_mul2 (de_ix (de_var 0) de_int) (de_ix (de_var 1) de_int)) (de_op op_mul2 (de_ix (de_var 1) de_int) (de_ix (de_var 0) de_int))) (da_cons (de_op op_mul2 (de_ix (de_var 0) de_int) (de_ix (de_var 1) de_int)) da_nil)) (ln_cons (ln_cons ln_nil)))))
theorem ok__law_times (T : Txt w K mg) : FnD P w K mg base 2 "_law_times" 2 m__law_times := by
  obtain ⟨fd, F⟩ := T.f__law_times
  have G__law_fr := ok__law_fr (P := P) (w := w) (base := base) T
  have hb : Binds K fd ["one", "other"] [] := F.bindsN fun _ _ _ _ _ _ us hl => match us, hl with | [_, _], _ => rfl
  refine ⟨_, fd, _, rfl, fn_ok (fb := b__law_times) F sc__law_times rfl (fun cdv A outer s H E hr => ?_), T.g__law_times, F.kp, hb⟩
  exact (dss_one (ds_ret (de_call G__law_fr (hr.mono (by decide)) (da_cons (de_op op_mul2 (de_ix (de_var 0) de_int) (de_ix (de_var 1) de_int)) (da_cons (de_op op_mul2 (de_ix (de_var 0) de_int) (de_ix (de_var 1) de_int)) da_nil)) (ln_cons (ln_cons ln_nil)))))
theorem ok__law_minus (T : Txt w K mg) : FnD P w K mg base 3 "_law_minus" 2 m__law_minus := by
  obtain ⟨fd, F⟩ := T.f__law_minus
  have G__law_plus := ok__law_plus (P := P) (w := w) (base := base) T
  have hb : Binds K fd ["one", "other"] [] := F.bindsN fun _ _ _ _ _ _ us hl => match us, hl with | [_, _], _ => rfl
  refine ⟨_, fd, _, rfl, fn_ok (fb := b__law_minus) F sc__law_minus rfl (fun cdv A outer s H E hr => ?_), T.g__law_minus, F.kp, hb⟩
  exact (dss_one (ds_ret (de_call G__law_plus (hr.mono (by decide)) (da_cons (de_var 0) (da_cons (de_tup (ln_cons (ln_cons ln_nil)) (da_cons (de_op op_sub2 de_int (de_ix (de_var 1) de_int)) (da_cons (de_ix (de_var 1) de_int) da_nil))) da_nil)) (ln_cons (ln_cons ln_nil)))))
theorem ok__law_add (T : Txt w K mg) : FnD P w K mg base 3 "_law_add" 2 m__law_add := by
  obtain ⟨fd, F⟩ := T.f__law_add
  have G__law_plus := ok__law_plus (P := P) (w := w) (base := base) T
  have hb : Binds K fd ["point", "other"] [] := F.bindsN fun _ _ _ _ _ _ us hl => match us, hl with | [_, _], _ => rfl
  refine ⟨_, fd, _, rfl, fn_ok (fb := b__law_add) F sc__law_add rfl (fun cdv A outer s H E hr => ?_), T.g__law_add, F.kp, hb⟩
  exact (dss_one (ds_ret (de_tup (ln_cons (ln_cons ln_nil)) (da_cons (de_call G__law_plus (hr.mono (by decide)) (da_cons (de_ix (de_var 0) de_int) (da_cons (de_ix (de_var 1) de_int) da_nil)) (ln_cons (ln_cons ln_nil))) (da_cons (de_call G__law_plus (hr.mono (by decide)) (da_cons (de_ix (de_var 0) de_int) (da_cons (de_ix (de_var 1) de_int) da_nil)) (ln_cons (ln_cons ln_nil))) da_nil)))))
theorem ok__law_sub (T : Txt w K mg) : FnD P w K mg base 4 "_law_sub" 2 m__law_sub := by
  obtain ⟨fd, F⟩ := T.f__law_sub
  have G__law_minus := ok__law_minus (P := P) (w := w) (base := base) T
  have hb : Binds K fd ["point", "other"] [] := F.bindsN fun _ _ _ _ _ _ us hl => match us, hl with | [_, _], _ => rfl
  refine ⟨_, fd, _, rfl, fn_ok (fb := b__law_sub) F sc__law_sub rfl (fun cdv A outer s H E hr => ?_), T.g__law_sub, F.kp, hb⟩
  exact (dss_one (ds_ret (de_tup (ln_cons (ln_cons ln_nil)) (da_cons (de_call G__law_minus (hr.mono (by decide)) (da_cons (de_ix (de_var 0) de_int) (da_cons (de_ix (de_var 1) de_int) da_nil)) (ln_cons (ln_cons ln_nil))) (da_cons (de_call G__law_minus (hr.mono (by decide)) (da_cons (de_ix (de_var 0) de_int) (da_cons (de_ix (de_var 1) de_int) da_nil)) (ln_cons (ln_cons ln_nil))) da_nil)))))
theorem ok__law_scale (T : Txt w K mg) : FnD P w K mg base 3 "_law_scale" 2 m__law_scale := by
  obtain ⟨fd, F⟩ := T.f__law_scale
  have G__law_times := ok__law_times (P := P) (w := w) (base := base) T
  have hb : Binds K fd ["number", "point"] [] := F.bindsN fun _ _ _ _ _ _ us hl => match us, hl with | [_, _], _ => rfl
  refine ⟨_, fd, _, rfl, fn_ok (fb := b__law_scale) F sc__law_scale rfl (fun cdv A outer s H E hr => ?_), T.g__law_scale, F.kp, hb⟩
  exact (dss_one (ds_ret (de_tup (ln_cons (ln_cons ln_nil)) (da_cons (de_call G__law_times (hr.mono (by decide)) (da_cons (de_var 0) (da_cons (de_ix (de_var 1) de_int) da_nil)) (ln_cons (ln_cons ln_nil))) (da_cons (de_call G__law_times (hr.mono (by decide)) (da_cons (de_var 0) (da_cons (de_ix (de_var 1) de_int) da_nil)) (ln_cons (ln_cons ln_nil))) da_nil)))))
theorem ok__law_number (T : Txt w K mg) : FnD P w K mg base 2 "_law_number" 1 m__law_number := by
  obtain ⟨fd, F⟩ := T.f__law_number
  have G__law_fr := ok__law_fr (P := P) (w := w) (base := base) T
  have hb : Binds K fd ["number"] [] := F.bindsN fun _ _ _ _ _ _ us hl => match us, hl with | [_], _ => rfl
  refine ⟨_, fd, _, rfl, fn_ok (fb := b__law_number) F sc__law_number rfl (fun cdv A outer s H E hr => ?_), T.g__law_number, F.kp, hb⟩
  exact (dss_cons (ds_set 1 sc__law_number.nd (de_ix (de_tup (ln_cons (ln_cons (ln_cons (ln_cons (ln_cons (ln_cons (ln_cons (ln_cons (ln_cons (ln_cons ln_nil)))))))))) (da_cons de_int (da_cons de_int (da_cons de_int (da_cons de_int (da_cons de_int (da_cons de_int (da_cons de_int (da_cons de_int (da_cons de_int (da_cons de_int da_nil))))))))))) (de_op op_mod2 (de_var 0) (de_ix (de_tup (ln_cons (ln_cons ln_nil)) (da_cons de_int (da_cons de_int da_nil))) (de_op op_mod2 (de_op op_div2 (de_var 0) de_int) de_int)))))
  (dss_cons (ds_set 2 sc__law_number.nd (de_ix (de_tup (ln_cons (ln_cons (ln_cons ln_nil))) (da_cons de_int (da_cons de_int (da_cons de_int da_nil)))) (de_op op_mod2 (de_op op_div2 (de_var 0) de_int) de_int)))
  (dss_one (ds_ret (de_call G__law_fr (hr.mono (by decide)) (da_cons (de_op op_sub2 (de_op op_mod2 (de_op op_div2 (de_var 0) de_int) (de_op op_add2 (de_op op_mul2 de_int (de_var 2)) de_int)) (de_var 2)) (da_cons (de_var 1) da_nil)) (ln_cons (ln_cons ln_nil)))))))
theorem ok__law_point (T : Txt w K mg) : FnD P w K mg base 3 "_law_point" 1 m__law_point := by
  obtain ⟨fd, F⟩ := T.f__law_point
  have G__law_number := ok__law_number (P := P) (w := w) (base := base) T
  have G__law_drawn := ok__law_drawn (P := P) (w := w) (base := base) T
  have hb : Binds K fd ["number"] [] := F.bindsN fun _ _ _ _ _ _ us hl => match us, hl with | [_], _ => rfl
  refine ⟨_, fd, _, rfl, fn_ok (fb := b__law_point) F sc__law_point rfl (fun cdv A outer s H E hr => ?_), T.g__law_point, F.kp, hb⟩
  exact (dss_one (ds_ret (de_tup (ln_cons (ln_cons ln_nil)) (da_cons (de_call G__law_number (hr.mono (by decide)) (da_cons (de_op op_div2 (de_call G__law_drawn (hr.mono (by decide)) (da_cons (de_var 0) (da_cons de_int da_nil)) (ln_cons (ln_cons ln_nil))) de_int) da_nil) (ln_cons ln_nil)) (da_cons (de_call G__law_number (hr.mono (by decide)) (da_cons (de_op op_div2 (de_call G__law_drawn (hr.mono (by decide)) (da_cons (de_var 0) (da_cons de_int da_nil)) (ln_cons (ln_cons ln_nil))) de_int) da_nil) (ln_cons ln_nil)) da_nil)))))
theorem ok__law_goal (T : Txt w K mg) : FnD P w K mg base 4 "_law_goal" 3 m__law_goal := by
  obtain ⟨fd, F⟩ := T.f__law_goal
  have G__law_point := ok__law_point (P := P) (w := w) (base := base) T
  have hb : Binds K fd ["number", "pen", "begin"] [] := F.bindsN fun _ _ _ _ _ _ us hl => match us, hl with | [_, _, _], _ => rfl
  refine ⟨_, fd, _, rfl, fn_ok (fb := b__law_goal) F sc__law_goal rfl (fun cdv A outer s H E hr => ?_), T.g__law_goal, F.kp, hb⟩
  exact (dss_cons (ds_set 3 sc__law_goal.nd (de_op op_mod2 (de_var 0) de_int))
  (dss_cons (ds_if (dt_cmp (op_eq2 hr.units) (de_var 3) de_int (nomark _)) (dss_one (ds_ret (de_var 1)))
  dss_nil)
  (dss_cons (ds_if (dt_cmp (op_eq2 hr.units) (de_var 3) de_int (nomark _)) (dss_one (ds_ret (de_var 2)))
  dss_nil)
  (dss_cons (ds_set 4 sc__law_goal.nd (de_call G__law_point (hr.mono (by decide)) (da_cons (de_op op_div2 (de_var 0) de_int) da_nil) (ln_cons ln_nil)))
  (dss_cons (ds_if (dt_cmp (op_eq2 hr.units) (de_var 3) de_int (nomark _)) (dss_one (ds_ret (de_tup (ln_cons (ln_cons ln_nil)) (da_cons (de_ix (de_var 1) de_int) (da_cons (de_ix (de_var 4) de_int) da_nil)))))
  dss_nil)
  (dss_cons (ds_if (dt_cmp (op_eq2 hr.units) (de_var 3) de_int (nomark _)) (dss_one (ds_ret (de_tup (ln_cons (ln_cons ln_nil)) (da_cons (de_ix (de_var 4) de_int) (da_cons (de_ix (de_var 1) de_int) da_nil)))))
  dss_nil)
  (dss_one (ds_ret (de_var 4)))))))))
theorem ok__law_stroke (T : Txt w K mg) : FnD P w K mg base 5 "_law_stroke" 4 m__law_stroke := by
  obtain ⟨fd, F⟩ := T.f__law_stroke
  have G__law_sub := ok__law_sub (P := P) (w := w) (base := base) T
  have G__law_scale := ok__law_scale (P := P) (w := w) (base := base) T
  have G__law_point := ok__law_point (P := P) (w := w) (base := base) T
  have G__law_goal := ok__law_goal (P := P) (w := w) (base := base) T
  have hb : Binds K fd ["number", "pen", "begin", "ahead"] [] := F.bindsN fun _ _ _ _ _ _ us hl => match us, hl with | [_, _, _, _], _ => rfl
  refine ⟨_, fd, _, rfl, fn_ok (fb := b__law_stroke) F sc__law_stroke rfl (fun cdv A outer s H E hr => ?_), T.g__law_stroke, F.kp, hb⟩
  exact (dss_cons (ds_set 4 sc__law_stroke.nd (de_op op_mod2 (de_var 0) de_int))
  (dss_cons (ds_set 5 sc__law_stroke.nd (de_call G__law_goal (hr.mono (by decide)) (da_cons (de_op op_div2 (de_var 0) de_int) (da_cons (de_var 1) (da_cons (de_var 2) da_nil))) (ln_cons (ln_cons (ln_cons ln_nil)))))
  (dss_cons (ds_set 6 sc__law_stroke.nd (de_call G__law_point (hr.mono (by decide)) (da_cons (de_op op_div2 (de_var 0) de_int) da_nil) (ln_cons ln_nil)))
  (dss_cons (ds_set 7 sc__law_stroke.nd (de_call G__law_point (hr.mono (by decide)) (da_cons (de_op op_div2 (de_var 0) de_int) da_nil) (ln_cons ln_nil)))
  (dss_cons (ds_if ((dw_and (dt_cmp (op_in2 (u66 hr)) (de_ix (de_var 3) de_int) (de_tup (ln_cons (ln_cons ln_nil)) (da_cons de_str (da_cons de_str da_nil))) rfl) (dw_and1 (dt_cmp (op_eq2 hr.units) (de_op op_mod2 (de_op op_div2 (de_var 0) de_int) de_int) de_int (nomark _))))).dt (dss_one (ds_set 6 sc__law_stroke.nd (de_call G__law_sub (hr.mono (by decide)) (da_cons (de_call G__law_scale (hr.mono (by decide)) (da_cons (de_tup (ln_cons (ln_cons ln_nil)) (da_cons de_int (da_cons de_int da_nil))) (da_cons (de_var 1) da_nil)) (ln_cons (ln_cons ln_nil))) (da_cons (de_ix (de_var 3) (de_neg de_int)) da_nil)) (ln_cons (ln_cons ln_nil)))))
  dss_nil)
  (dss_cons (ds_if (dt_cmp (op_eq2 hr.units) (de_var 4) de_int (nomark _)) (dss_one (ds_ret (de_tup (ln_cons (ln_cons ln_nil)) (da_cons de_str (da_cons (de_var 5) da_nil)))))
  dss_nil)
  (dss_cons (ds_if (dt_cmp op_lt2 (de_var 4) de_int (nomark _)) (dss_one (ds_ret (de_tup (ln_cons (ln_cons ln_nil)) (da_cons de_str (da_cons (de_var 5) da_nil)))))
  dss_nil)
  (dss_cons (ds_if (dt_cmp (op_eq2 hr.units) (de_var 4) de_int (nomark _)) (dss_one (ds_ret (de_tup (ln_cons (ln_cons (ln_cons ln_nil))) (da_cons de_str (da_cons (de_var 6) (da_cons (de_var 5) da_nil))))))
  dss_nil)
  (dss_cons (ds_if (dt_cmp op_lt2 (de_var 4) de_int (nomark _)) (dss_one (ds_ret (de_tup (ln_cons (ln_cons (ln_cons (ln_cons ln_nil)))) (da_cons de_str (da_cons (de_var 6) (da_cons (de_var 7) (da_cons (de_var 5) da_nil)))))))
  dss_nil)
  (dss_one (ds_ret (de_tup (ln_cons ln_nil) (da_cons de_str da_nil)))))))))))))
theorem ok__law_way (T : Txt w K mg) : FnD P w K mg base 6 "_law_way" 2 m__law_way := by
  obtain ⟨fd, F⟩ := T.f__law_way
  have G__law_stroke := ok__law_stroke (P := P) (w := w) (base := base) T
  have G__law_point := ok__law_point (P := P) (w := w) (base := base) T
  have G__law_drawn := ok__law_drawn (P := P) (w := w) (base := base) T
  have hb : Binds K fd ["number", "most"] [] := F.bindsN fun _ _ _ _ _ _ us hl => match us, hl with | [_, _], _ => rfl
  refine ⟨_, fd, _, rfl, fn_ok (fb := b__law_way) F sc__law_way rfl (fun cdv A outer s H E hr => ?_), T.g__law_way, F.kp, hb⟩
  exact (dss_cons (ds_set 2 sc__law_way.nd (de_tup ln_nil da_nil))
  (dss_cons (ds_set 3 sc__law_way.nd (de_tup (ln_cons (ln_cons ln_nil)) (da_cons (de_tup (ln_cons (ln_cons ln_nil)) (da_cons de_int (da_cons de_int da_nil))) (da_cons (de_tup (ln_cons (ln_cons ln_nil)) (da_cons de_int (da_cons de_int da_nil))) da_nil))))
  (dss_cons (ds_set 4 sc__law_way.nd (de_var 3))
  (dss_cons (ds_for PassesOwn.never (di_rng1 T.z_range (da_cons (de_op op_mod2 (de_var 0) (de_op op_add2 (de_var 1) de_int)) da_nil)) (dg_name 5 sc__law_way.nd) (dss_cons (ds_set 6 sc__law_way.nd (de_op op_div2 (de_call G__law_drawn (hr.mono (by decide)) (da_cons (de_var 0) (da_cons (de_op op_add2 de_int (de_var 5)) da_nil)) (ln_cons (ln_cons ln_nil))) de_int))
  (dss_cons (ds_set 7 sc__law_way.nd (de_tup (ln_cons (ln_cons ln_nil)) (da_cons de_str (da_cons (de_call G__law_point (hr.mono (by decide)) (da_cons (de_var 6) da_nil) (ln_cons ln_nil)) da_nil))))
  (dss_cons (ds_if (dt_cmp (op_ne2 hr.units) (de_var 2) (de_tup ln_nil da_nil) (nomark _)) (dss_one (ds_set 7 sc__law_way.nd (de_call G__law_stroke (hr.mono (by decide)) (da_cons (de_var 6) (da_cons (de_var 3) (da_cons (de_var 4) (da_cons (de_ix (de_var 2) (de_neg de_int)) da_nil)))) (ln_cons (ln_cons (ln_cons (ln_cons ln_nil)))))))
  dss_nil)
  (dss_cons (ds_set 2 sc__law_way.nd (de_op op_add2 (de_var 2) (de_tup (ln_cons ln_nil) (da_cons (de_var 7) da_nil))))
  (dss_cons (ds_if (dt_cmp (op_eq2 hr.units) (de_ix (de_var 7) de_int) de_str (nomark _)) (dss_one (ds_set 4 sc__law_way.nd (de_ix (de_var 7) de_int)))
  dss_nil)
  (dss_cons (ds_set 3 sc__law_way.nd (de_var 4))
  (dss_one (ds_if (dt_cmp (op_ne2 hr.units) (de_ix (de_var 7) de_int) de_str (nomark _)) (dss_one (ds_set 3 sc__law_way.nd (de_ix (de_var 7) (de_neg de_int))))
  dss_nil)))))))))
  (dss_one (ds_ret (de_var 2)))))))
theorem ok__law_pens (T : Txt w K mg) : FnD P w K mg base 1 "_law_pens" 1 m__law_pens := by
  obtain ⟨fd, F⟩ := T.f__law_pens
  have hb : Binds K fd ["way"] [] := F.bindsN fun _ _ _ _ _ _ us hl => match us, hl with | [_], _ => rfl
  refine ⟨_, fd, _, rfl, fn_ok (fb := b__law_pens) F sc__law_pens rfl (fun cdv A outer s H E hr => ?_), T.g__law_pens, F.kp, hb⟩
  exact (dss_cons (ds_setL 1 sc__law_pens.nd (dl_lst (ln_cons ln_nil) (da_cons (de_tup (ln_cons (ln_cons ln_nil)) (da_cons (de_tup (ln_cons (ln_cons ln_nil)) (da_cons de_int (da_cons de_int da_nil))) (da_cons (de_tup (ln_cons (ln_cons ln_nil)) (da_cons de_int (da_cons de_int da_nil))) da_nil))) da_nil)))
  (dss_cons (ds_set 2 sc__law_pens.nd (de_ixO 1 de_int))
  (dss_cons (ds_for PassesOwn.never (di_val (de_var 0)) (dg_name 3 sc__law_pens.nd) (dss_cons (ds_if (dt_cmp (op_eq2 hr.units) (de_ix (de_var 3) de_int) de_str (nomark _)) (dss_one (ds_set 2 sc__law_pens.nd (de_ix (de_var 3) de_int)))
  dss_nil)
  (dss_one (ds_app 1 (de_ix (de_op op_add2 (de_var 3) (de_tup (ln_cons ln_nil) (da_cons (de_var 2) da_nil))) (de_op op_sub2 (de_callB cl_len T.z_len (by decide +kernel) (da_cons (de_var 3) da_nil)) (de_callT cl_int T.z_int (by decide +kernel) (da_cons (de_cmp (op_ne2 hr.units) (de_ix (de_var 3) de_int) de_str (nomark _)) da_nil))))))))
  (dss_one (ds_ret (de_var 1))))))
theorem ok__law_is_fraction (T : Txt w K mg) : FnD P w K mg base 2 "_law_is_fraction" 1 m__law_is_fraction := by
  obtain ⟨fd, F⟩ := T.f__law_is_fraction
  have G__law_fr := ok__law_fr (P := P) (w := w) (base := base) T
  have hb : Binds K fd ["thing"] [] := F.bindsN fun _ _ _ _ _ _ us hl => match us, hl with | [_], _ => rfl
  refine ⟨_, fd, _, rfl, fn_ok (fb := b__law_is_fraction) F sc__law_is_fraction rfl (fun cdv A outer s H E hr => ?_), T.g__law_is_fraction, F.kp, hb⟩
  exact (dss_cons (ds_if ((dw_or (dt_not (dt_val (de_isi (x := "x") isi_tuple (by decide +kernel) T.z_isinstance T.z_tuple (de_var 0)))) (dw_or1 (dt_cmp (op_ne2 hr.units) (de_callB cl_len T.z_len (by decide +kernel) (da_cons (de_var 0) da_nil)) de_int (nomark _))))).dt (dss_one (ds_ret de_bl))
  dss_nil)
  (dss_cons (ds_setC false 1 [("part", 2)] sc__law_is_fraction.nd (di_val (de_var 0)) (fun _ _ _ _ _ => (dg_name 2 sc__law_is_fraction.nd)) (fun _ _ _ _ _ => (dts_one ((dw_and (dt_val (de_isi (x := "x") isi_int (by decide +kernel) T.z_isinstance T.z_int (de_var 2))) (dw_and1 (dt_not (dt_val (de_isi (x := "x") isi_bool (by decide +kernel) T.z_isinstance T.z_bool (de_var 2))))))).dt)) (fun _ _ _ _ _ => (de_var 2)) (blkOk_by (N := ["thing", "good", "part"]) (sc := defScope s__law_is_fraction) (by decide +kernel)) (sw_true rfl rfl rfl (by decide +kernel)))
  (dss_one (ds_ret (de_and (de_cmp (op_eq2 hr.units) (de_callB cl_len T.z_len (by decide +kernel) (da_cons (de_var 1) da_nil)) de_int (nomark _)) (de_and (de_cmp op_gt2 (de_ix (de_var 0) de_int) de_int (nomark _)) (de_one (de_cmp (op_eq2 hr.units) (de_call G__law_fr (hr.mono (by decide)) (da_cons (de_ix (de_var 0) de_int) (da_cons (de_ix (de_var 0) de_int) da_nil)) (ln_cons (ln_cons ln_nil))) (de_var 0) (nomark _)))))))))
theorem ok__law_is_way (T : Txt w K mg) : FnD P w K mg base 3 "_law_is_way" 1 m__law_is_way := by
  obtain ⟨fd, F⟩ := T.f__law_is_way
  have G__law_is_fraction := ok__law_is_fraction (P := P) (w := w) (base := base) T
  have hb : Binds K fd ["thing"] [] := F.bindsN fun _ _ _ _ _ _ us hl => match us, hl with | [_], _ => rfl
  refine ⟨_, fd, _, rfl, fn_ok (fb := b__law_is_way) F sc__law_is_way rfl (fun cdv A outer s H E hr => ?_), T.g__law_is_way, F.kp, hb⟩
  exact (dss_cons (ds_if ((dw_or (dt_not (dt_val (de_isi (x := "x") isi_tuple (by decide +kernel) T.z_isinstance T.z_tuple (de_var 0)))) (dw_or1 (dt_cmp op_gt2 (de_callB cl_len T.z_len (by decide +kernel) (da_cons (de_var 0) da_nil)) de_int (nomark _))))).dt (dss_one (ds_ret de_bl))
  dss_nil)
  (dss_cons (ds_for PassesOwn.never (di_val (de_var 0)) (dg_name 1 sc__law_is_way.nd) (dss_cons (ds_if ((dw_or (dt_not (dt_val (de_isi (x := "x") isi_tuple (by decide +kernel) T.z_isinstance T.z_tuple (de_var 1)))) (dw_or (dt_cmp (op_eq2 hr.units) (de_callB cl_len T.z_len (by decide +kernel) (da_cons (de_var 1) da_nil)) de_int (nomark _)) (dw_or1 (dt_not (dt_val (de_isi (x := "x") isi_str (by decide +kernel) T.z_isinstance T.z_str (de_ix (de_var 1) de_int)))))))).dt (dss_one (ds_ret de_bl))
  dss_nil)
  (dss_cons (ds_if (dt_cmp (op_ne2 hr.units) (de_callB cl_len T.z_len (by decide +kernel) (da_cons (de_var 1) da_nil)) (de_dgt (u1 hr) (dp_cons pe_keyS de_int (dp_cons pe_keyS de_int (dp_cons pe_keyS de_int (dp_cons pe_keyS de_int (dp_cons pe_keyS de_int dp_nil))))) (de_ix (de_var 1) de_int) de_int (hl := (ln_cons (ln_cons (ln_cons (ln_cons (ln_cons ln_nil))))))) (nomark _)) (dss_one (ds_ret de_bl))
  dss_nil)
  (dss_one (ds_for PassesOwn.never (di_val (de_sl (de_var 1) (do_at de_int) do_no)) (dg_name 2 sc__law_is_way.nd) (dss_cons (ds_if ((dw_or (dt_not (dt_val (de_isi (x := "x") isi_tuple (by decide +kernel) T.z_isinstance T.z_tuple (de_var 2)))) (dw_or1 (dt_cmp (op_ne2 hr.units) (de_callB cl_len T.z_len (by decide +kernel) (da_cons (de_var 2) da_nil)) de_int (nomark _))))).dt (dss_one (ds_ret de_bl))
  dss_nil)
  (dss_cons (ds_if (dt_cmp (op_ne2 hr.units) ((dl_comp [("part", 5)] sc__law_is_way.nd (di_val (de_var 2)) (fun _ _ _ _ _ => (dg_name 5 sc__law_is_way.nd)) (fun _ _ _ _ _ => (dts_one (dt_not (dt_val (de_call G__law_is_fraction (hr.mono (by decide)) (da_cons (de_var 5) da_nil) (ln_cons ln_nil)))))) (fun _ _ _ _ _ => (de_var 5)) (blkOk_by (N := ["thing", "stroke", "point", "upper", "lower", "part"]) (sc := defScope s__law_is_way) (by decide +kernel)))).de ((dl_lst ln_nil da_nil)).de (nomark _)) (dss_one (ds_ret de_bl))
  dss_nil)
  (dss_one (ds_for PassesOwn.never (di_val (de_var 2)) (dg_tup rfl (dgs_cons (dg_name 3 sc__law_is_way.nd) (dgs_cons (dg_name 4 sc__law_is_way.nd) dgs_nil))) (dss_one (ds_if ((dw_or (dt_cmp op_gt2 (de_callB cl_abs T.z_abs (by decide +kernel) (da_cons (de_var 3) da_nil)) de_int (nomark _)) (dw_or1 (dt_cmp (op_notin2 (u66 hr)) (de_var 4) (de_tup (ln_cons (ln_cons (ln_cons (ln_cons (ln_cons (ln_cons (ln_cons (ln_cons (ln_cons ln_nil))))))))) (da_cons de_int (da_cons de_int (da_cons de_int (da_cons de_int (da_cons de_int (da_cons de_int (da_cons de_int (da_cons de_int (da_cons de_int da_nil)))))))))) rfl)))).dt (dss_one (ds_ret de_bl))
  dss_nil)))))))))))
  (dss_one (ds_ret (de_or (de_cmp (op_eq2 hr.units) (de_var 0) (de_tup ln_nil da_nil) (nomark _)) (de_one (de_cmp (op_eq2 hr.units) (de_ix (de_ix (de_var 0) de_int) de_int) de_str (nomark _))))))))
theorem ok__law_spoilt (T : Txt w K mg) : FnD P w K mg base 7 "_law_spoilt" 3 m__law_spoilt := by
  obtain ⟨fd, F⟩ := T.f__law_spoilt
  have G__law_drawn := ok__law_drawn (P := P) (w := w) (base := base) T
  have hb : Binds K fd ["thing", "number", "deep"] [] := F.bindsN fun _ _ _ _ _ _ us hl => match us, hl with | [_, _, _], _ => rfl
  refine fn_rec (L := 1) (fb := b__law_spoilt) F sc__law_spoilt rfl T.g__law_spoilt hb (fun rec k hL G_rec cdv A outer s H E hr => ?_) 6
  exact (dss_cons (ds_if ((dw_and (dt_cmp op_gt2 (de_var 2) de_int (nomark _)) (dw_and (dt_val (de_isi (x := "x") isi_tuple (by decide +kernel) T.z_isinstance T.z_tuple (de_var 0))) (dw_and (dt_cmp op_gt2 (de_callB cl_len T.z_len (by decide +kernel) (da_cons (de_var 0) da_nil)) de_int (nomark _)) (dw_and1 (dt_cmp op_gt2 (de_op op_mod2 (de_var 1) de_int) de_int (nomark _))))))).dt (dss_cons (ds_set 3 sc__law_spoilt.nd (de_op op_mod2 (de_op op_div2 (de_var 1) de_int) (de_callB cl_len T.z_len (by decide +kernel) (da_cons (de_var 0) da_nil))))
  (dss_cons (ds_set 4 sc__law_spoilt.nd (de_call G_rec hr (da_cons (de_ix (de_var 0) (de_var 3)) (da_cons (de_op op_div2 (de_call G__law_drawn (hr.mono (Nat.le_trans (by decide) hL)) (da_cons (de_var 1) (da_cons (de_var 2) da_nil)) (ln_cons (ln_cons ln_nil))) de_int) (da_cons (de_op op_sub2 (de_var 2) de_int) da_nil))) (ln_cons (ln_cons (ln_cons ln_nil)))))
  (dss_one (ds_ret (de_op op_add2 (de_op op_add2 (de_sl (de_var 0) do_no (do_at (de_var 3))) (de_tup (ln_cons ln_nil) (da_cons (de_var 4) da_nil))) (de_sl (de_var 0) (do_at (de_op op_add2 (de_var 3) de_int)) do_no))))))
  dss_nil)
  (dss_cons (ds_set 5 sc__law_spoilt.nd (de_op op_mod2 (de_op op_div2 (de_var 1) de_int) de_int))
  (dss_cons (ds_if ((dw_and (dt_val (de_isi (x := "x") isi_tuple (by decide +kernel) T.z_isinstance T.z_tuple (de_var 0))) (dw_and (dt_cmp op_gt2 (de_callB cl_len T.z_len (by decide +kernel) (da_cons (de_var 0) da_nil)) de_int (nomark _)) (dw_and1 (dt_cmp op_gt2 (de_var 5) de_int (nomark _)))))).dt (dss_cons (ds_set 3 sc__law_spoilt.nd (de_op op_mod2 (de_op op_div2 (de_var 1) de_int) (de_callB cl_len T.z_len (by decide +kernel) (da_cons (de_var 0) da_nil))))
  (dss_cons (ds_set 6 sc__law_spoilt.nd ((dl_lst (ln_cons (ln_cons (ln_cons (ln_cons ln_nil)))) (da_cons ((dl_callT cl_list T.z_list (by decide +kernel) (da_cons (de_var 0) da_nil))).de (da_cons (de_op op_add2 (de_sl (de_var 0) do_no (do_at (de_var 3))) (de_sl (de_var 0) (do_at (de_op op_add2 (de_var 3) de_int)) do_no)) (da_cons (de_op op_add2 (de_var 0) (de_sl (de_var 0) (do_at (de_var 3)) (do_at (de_op op_add2 (de_var 3) de_int)))) (da_cons (de_rev (de_var 0)) da_nil)))))).de)
  (dss_one (ds_ret (de_ix (de_op op_add2 (de_var 6) ((dl_lst (ln_cons ln_nil) (da_cons (de_op op_add2 (de_op op_add2 (de_sl (de_var 0) do_no (do_at (de_var 3))) (de_tup (ln_cons ln_nil) (da_cons (de_ix (de_var 0) (de_var 3)) da_nil))) (de_sl (de_var 0) (do_at (de_var 3)) do_no)) da_nil))).de) (de_op op_mod2 (de_op op_div2 (de_var 1) de_int) de_int))))))
  dss_nil)
  (dss_cons (ds_if ((dw_and (dt_val (de_isi (x := "x") isi_int (by decide +kernel) T.z_isinstance T.z_int (de_var 0))) (dw_and1 (dt_cmp op_gt2 (de_var 5) de_int (nomark _))))).dt (dss_one (ds_ret (de_ix ((dl_lst (ln_cons (ln_cons (ln_cons (ln_cons (ln_cons (ln_cons (ln_cons ln_nil))))))) (da_cons (de_op op_add2 (de_var 0) de_int) (da_cons (de_op op_sub2 de_int (de_var 0)) (da_cons (de_op op_mul2 (de_var 0) de_int) (da_cons (de_callT cl_str T.z_str (by decide +kernel) (da_cons (de_var 0) da_nil)) (da_cons (de_cmp (op_eq2 hr.units) (de_var 0) de_int (nomark _)) (da_cons (de_op op_mul2 (de_var 0) de_int) (da_cons (de_op op_sub2 (de_var 0) de_int) da_nil))))))))).de (de_op op_mod2 (de_op op_div2 (de_var 1) de_int) de_int))))
  dss_nil)
  (dss_cons (ds_set 7 sc__law_spoilt.nd ((dl_lst (ln_cons (ln_cons (ln_cons (ln_cons (ln_cons (ln_cons (ln_cons (ln_cons (ln_cons (ln_cons (ln_cons (ln_cons (ln_cons ln_nil))))))))))))) (da_cons de_non (da_cons de_str (da_cons de_str (da_cons de_str (da_cons de_str (da_cons de_str (da_cons de_str (da_cons de_str (da_cons (de_tup ln_nil da_nil) (da_cons (de_tup (ln_cons ln_nil) (da_cons de_str da_nil)) (da_cons (de_tup (ln_cons (ln_cons ln_nil)) (da_cons de_int (da_cons de_int da_nil))) (da_cons (de_tup (ln_cons (ln_cons ln_nil)) (da_cons de_int (da_cons de_int da_nil))) (da_cons (de_tup (ln_cons (ln_cons ln_nil)) (da_cons de_int (da_cons de_int da_nil))) da_nil))))))))))))))).de)
  (dss_cons (ds_set 7 sc__law_spoilt.nd (de_op op_add2 (de_var 7) ((dl_lst (ln_cons (ln_cons (ln_cons (ln_cons (ln_cons (ln_cons (ln_cons (ln_cons (ln_cons ln_nil))))))))) (da_cons (de_tup (ln_cons (ln_cons ln_nil)) (da_cons de_int (da_cons de_int da_nil))) (da_cons ((dl_lst ln_nil da_nil)).de (da_cons de_bl (da_cons de_int (da_cons (de_tup (ln_cons (ln_cons ln_nil)) (da_cons de_int (da_cons de_int da_nil))) (da_cons (de_tup (ln_cons (ln_cons ln_nil)) (da_cons de_int (da_cons de_int da_nil))) (da_cons (de_tup (ln_cons (ln_cons ln_nil)) (da_cons de_int (da_cons de_int da_nil))) (da_cons (de_tup (ln_cons (ln_cons ln_nil)) (da_cons de_int (da_cons de_int da_nil))) (da_cons (de_tup (ln_cons (ln_cons ln_nil)) (da_cons (de_tup (ln_cons (ln_cons ln_nil)) (da_cons de_int (da_cons de_int da_nil))) (da_cons (de_tup (ln_cons (ln_cons ln_nil)) (da_cons de_int (da_cons de_int da_nil))) da_nil))) da_nil))))))))))).de))
  (dss_one (ds_ret (de_ix (de_op op_add2 (de_var 7) ((dl_lst (ln_cons ln_nil) (da_cons (de_tup (ln_cons (ln_cons ln_nil)) (da_cons de_str (da_cons (de_tup (ln_cons (ln_cons ln_nil)) (da_cons (de_tup (ln_cons (ln_cons ln_nil)) (da_cons de_int (da_cons de_int da_nil))) (da_cons (de_tup (ln_cons (ln_cons ln_nil)) (da_cons de_int (da_cons de_int da_nil))) da_nil))) da_nil))) da_nil))).de) (de_op op_mod2 (de_op op_div2 (de_var 1) de_int) de_int))))))))))
theorem ok_law (T : Txt w K mg) {fd : FuncData} (F : FunD K "law" "law" (defArgs s_law) (defBody s_law) (defScope s_law) [] [] (He.fAd K ("law", none)) fd) : FnOk P w K mg base CX0 8 (He.fAd K ("law", none)) fd ["script"] (spD K 1 m_law_k01) := by
  have G_fraction := ok_fraction (P := P) (w := w) (base := base) T
  have G__law_fr := ok__law_fr (P := P) (w := w) (base := base) T
  have G__law_mixed := ok__law_mixed (P := P) (w := w) (base := base) T
  have G__law_is_fraction := ok__law_is_fraction (P := P) (w := w) (base := base) T
  have G__law_is_way := ok__law_is_way (P := P) (w := w) (base := base) T
  have G_is_fraction := ok_is_fraction (P := P) (w := w) (base := base) T
  have G_is_way := ok_is_way (P := P) (w := w) (base := base) T
  have G__law_spoilt := ok__law_spoilt (P := P) (w := w) (base := base) T
  have G__law_number := ok__law_number (P := P) (w := w) (base := base) T
  have G__law_way := ok__law_way (P := P) (w := w) (base := base) T
  refine fn_ok (fb := b_law_k01) F sc_law rfl (fun cdv A outer s H E hr => ?_)
  exact (dss_cons (ds_set 1 sc_law.nd (de_call G__law_mixed (hr.mono (by decide)) (da_cons (de_var 0) (da_cons de_int da_nil)) (ln_cons (ln_cons ln_nil))))
  (dss_cons (ds_set 2 sc_law.nd (de_call G__law_way (hr.mono (by decide)) (da_cons (de_call G__law_mixed (hr.mono (by decide)) (da_cons (de_var 0) (da_cons de_int da_nil)) (ln_cons (ln_cons ln_nil))) (da_cons de_int da_nil)) (ln_cons (ln_cons ln_nil))))
  (dss_cons (ds_set 3 sc_law.nd (de_call G__law_number (hr.mono (by decide)) (da_cons (de_call G__law_mixed (hr.mono (by decide)) (da_cons (de_var 0) (da_cons de_int da_nil)) (ln_cons (ln_cons ln_nil))) da_nil) (ln_cons ln_nil)))
  (dss_cons (ds_if (dt_cmp op_gt2 (de_op op_mod2 (de_var 1) de_int) de_int (nomark _)) (dss_cons (ds_set 2 sc_law.nd (de_call G__law_spoilt (hr.mono (by decide)) (da_cons (de_var 2) (da_cons (de_call G__law_mixed (hr.mono (by decide)) (da_cons (de_var 0) (da_cons de_int da_nil)) (ln_cons (ln_cons ln_nil))) (da_cons (de_op op_mod2 (de_op op_div2 (de_var 1) de_int) de_int) da_nil))) (ln_cons (ln_cons (ln_cons ln_nil)))))
  (dss_one (ds_set 3 sc_law.nd (de_call G__law_spoilt (hr.mono (by decide)) (da_cons (de_var 3) (da_cons (de_call G__law_mixed (hr.mono (by decide)) (da_cons (de_var 0) (da_cons de_int da_nil)) (ln_cons (ln_cons ln_nil))) (da_cons (de_op op_mod2 (de_op op_div2 (de_var 1) de_int) de_int) da_nil))) (ln_cons (ln_cons (ln_cons ln_nil)))))))
  dss_nil)
  (dss_cons (ds_set 4 sc_law.nd ((dl_lst (ln_cons (ln_cons (ln_cons (ln_cons ln_nil)))) (da_cons (de_call G_is_way (hr.mono (by decide)) (da_cons (de_var 2) da_nil) (ln_cons ln_nil)) (da_cons (de_call G_is_fraction (hr.mono (by decide)) (da_cons (de_var 3) da_nil) (ln_cons ln_nil)) (da_cons (de_call G_is_way (hr.mono (by decide)) (da_cons (de_var 3) da_nil) (ln_cons ln_nil)) (da_cons (de_call G_is_fraction (hr.mono (by decide)) (da_cons (de_var 2) da_nil) (ln_cons ln_nil)) da_nil)))))).de)
  (dss_cons (ds_set 5 sc_law.nd ((dl_lst (ln_cons (ln_cons (ln_cons (ln_cons ln_nil)))) (da_cons (de_call G__law_is_way (hr.mono (by decide)) (da_cons (de_var 2) da_nil) (ln_cons ln_nil)) (da_cons (de_call G__law_is_fraction (hr.mono (by decide)) (da_cons (de_var 3) da_nil) (ln_cons ln_nil)) (da_cons (de_call G__law_is_way (hr.mono (by decide)) (da_cons (de_var 3) da_nil) (ln_cons ln_nil)) (da_cons (de_call G__law_is_fraction (hr.mono (by decide)) (da_cons (de_var 2) da_nil) (ln_cons ln_nil)) da_nil)))))).de)
  (dss_cons (ds_if ((dw_or (dt_cmp (op_ne2 hr.units) (de_var 4) (de_var 5) (nomark _)) (dw_or1 (dt_cmp (op_ne2 hr.units) ((dl_comp [("part", 8)] sc_law.nd (di_val (de_var 4)) (fun _ _ _ _ _ => (dg_name 8 sc_law.nd)) (fun _ _ _ _ _ => (dts_one (dt_not (dt_val (de_isi (x := "x") isi_bool (by decide +kernel) T.z_isinstance T.z_bool (de_var 8)))))) (fun _ _ _ _ _ => (de_var 8)) (blkOk_by (N := ["script", "number", "way", "pair", "got", "due", "upper", "lower", "part"]) (sc := defScope s_law) (by decide +kernel)))).de ((dl_lst ln_nil da_nil)).de (nomark _))))).dt (dss_one (ds_ret de_bl))
  dss_nil)
  (dss_cons (ds_set 6 sc_law.nd (de_op op_sub2 (de_op op_mod2 (de_call G__law_mixed (hr.mono (by decide)) (da_cons (de_var 0) (da_cons de_int da_nil)) (ln_cons (ln_cons ln_nil))) de_int) de_int))
  (dss_cons (ds_set 7 sc_law.nd (de_op op_sub2 (de_op op_mod2 (de_call G__law_mixed (hr.mono (by decide)) (da_cons (de_var 0) (da_cons de_int da_nil)) (ln_cons (ln_cons ln_nil))) de_int) de_int))
  (dss_cons (ds_if (dt_cmp (op_eq2 hr.units) (de_var 7) de_int (nomark _)) (dss_one (ds_set 7 sc_law.nd de_int))
  dss_nil)
  (dss_one (ds_ret (de_cmp (op_eq2 hr.units) (de_call G_fraction (hr.mono (by decide)) (da_cons (de_var 6) (da_cons (de_var 7) da_nil)) (ln_cons (ln_cons ln_nil))) (de_call G__law_fr (hr.mono (by decide)) (da_cons (de_var 6) (da_cons (de_var 7) da_nil)) (ln_cons (ln_cons ln_nil))) (nomark _))))))))))))))
end
def d_divisor : He.DefD := ⟨("divisor", none), "divisor", "divisor", defArgs s_divisor, defBody s_divisor, defScope s_divisor, [], []⟩
def d_is_whole : He.DefD := ⟨("is_whole", none), "is_whole", "is_whole", defArgs s_is_whole, defBody s_is_whole, defScope s_is_whole, [], []⟩
def d_is_fraction : He.DefD := ⟨("is_fraction", none), "is_fraction", "is_fraction", defArgs s_is_fraction, defBody s_is_fraction, defScope s_is_fraction, [], []⟩
def d_is_small : He.DefD := ⟨("is_small", none), "is_small", "is_small", defArgs s_is_small, defBody s_is_small, defScope s_is_small, [], []⟩
def d_is_point : He.DefD := ⟨("is_point", none), "is_point", "is_point", defArgs s_is_point, defBody s_is_point, defScope s_is_point, [], []⟩
def d_is_stroke : He.DefD := ⟨("is_stroke", none), "is_stroke", "is_stroke", defArgs s_is_stroke, defBody s_is_stroke, defScope s_is_stroke, [], []⟩
def d_is_way : He.DefD := ⟨("is_way", none), "is_way", "is_way", defArgs s_is_way, defBody s_is_way, defScope s_is_way, [], []⟩
def d_fraction : He.DefD := ⟨("fraction", none), "fraction", "fraction", defArgs s_fraction, defBody s_fraction, defScope s_fraction, [], []⟩
def d__law_cell_at : He.DefD := ⟨("_law_cell_at", none), "_law_cell_at", "_law_cell_at", defArgs s__law_cell_at, defBody s__law_cell_at, defScope s__law_cell_at, [], []⟩
def d__law_mixed : He.DefD := ⟨("_law_mixed", none), "_law_mixed", "_law_mixed", defArgs s__law_mixed, defBody s__law_mixed, defScope s__law_mixed, [], []⟩
def d__law_drawn : He.DefD := ⟨("_law_drawn", none), "_law_drawn", "_law_drawn", defArgs s__law_drawn, defBody s__law_drawn, defScope s__law_drawn, [], []⟩
def d__law_fr : He.DefD := ⟨("_law_fr", none), "_law_fr", "_law_fr", defArgs s__law_fr, defBody s__law_fr, defScope s__law_fr, [], []⟩
def d__law_plus : He.DefD := ⟨("_law_plus", none), "_law_plus", "_law_plus", defArgs s__law_plus, defBody s__law_plus, defScope s__law_plus, [], []⟩
def d__law_times : He.DefD := ⟨("_law_times", none), "_law_times", "_law_times", defArgs s__law_times, defBody s__law_times, defScope s__law_times, [], []⟩
def d__law_minus : He.DefD := ⟨("_law_minus", none), "_law_minus", "_law_minus", defArgs s__law_minus, defBody s__law_minus, defScope s__law_minus, [], []⟩
def d__law_add : He.DefD := ⟨("_law_add", none), "_law_add", "_law_add", defArgs s__law_add, defBody s__law_add, defScope s__law_add, [], []⟩
def d__law_sub : He.DefD := ⟨("_law_sub", none), "_law_sub", "_law_sub", defArgs s__law_sub, defBody s__law_sub, defScope s__law_sub, [], []⟩
def d__law_scale : He.DefD := ⟨("_law_scale", none), "_law_scale", "_law_scale", defArgs s__law_scale, defBody s__law_scale, defScope s__law_scale, [], []⟩
def d__law_number : He.DefD := ⟨("_law_number", none), "_law_number", "_law_number", defArgs s__law_number, defBody s__law_number, defScope s__law_number, [], []⟩
def d__law_point : He.DefD := ⟨("_law_point", none), "_law_point", "_law_point", defArgs s__law_point, defBody s__law_point, defScope s__law_point, [], []⟩
def d__law_goal : He.DefD := ⟨("_law_goal", none), "_law_goal", "_law_goal", defArgs s__law_goal, defBody s__law_goal, defScope s__law_goal, [], []⟩
def d__law_stroke : He.DefD := ⟨("_law_stroke", none), "_law_stroke", "_law_stroke", defArgs s__law_stroke, defBody s__law_stroke, defScope s__law_stroke, [], []⟩
def d__law_way : He.DefD := ⟨("_law_way", none), "_law_way", "_law_way", defArgs s__law_way, defBody s__law_way, defScope s__law_way, [], []⟩
def d__law_pens : He.DefD := ⟨("_law_pens", none), "_law_pens", "_law_pens", defArgs s__law_pens, defBody s__law_pens, defScope s__law_pens, [], []⟩
def d__law_is_fraction : He.DefD := ⟨("_law_is_fraction", none), "_law_is_fraction", "_law_is_fraction", defArgs s__law_is_fraction, defBody s__law_is_fraction, defScope s__law_is_fraction, [], []⟩
def d__law_is_way : He.DefD := ⟨("_law_is_way", none), "_law_is_way", "_law_is_way", defArgs s__law_is_way, defBody s__law_is_way, defScope s__law_is_way, [], []⟩
def d__law_spoilt : He.DefD := ⟨("_law_spoilt", none), "_law_spoilt", "_law_spoilt", defArgs s__law_spoilt, defBody s__law_spoilt, defScope s__law_spoilt, [], []⟩
def d_law : He.DefD := ⟨("law", none), "law", "law", defArgs s_law, defBody s_law, defScope s_law, [], []⟩
def fn : List He.DefD := [d_divisor, d_is_whole, d_is_fraction, d_is_small, d_is_point, d_is_stroke, d_is_way, d_fraction, d__law_cell_at, d__law_mixed, d__law_drawn, d__law_fr, d__law_plus, d__law_times, d__law_minus, d__law_add, d__law_sub, d__law_scale, d__law_number, d__law_point, d__law_goal, d__law_stroke, d__law_way, d__law_pens, d__law_is_fraction, d__law_is_way, d__law_spoilt, d_law]
def fa : List He.Fa := [.glo "divisor", .glo "is_whole", .glo "is_fraction", .glo "is_small", .glo "is_point", .glo "is_stroke", .glo "is_way", .glo "fraction", .glo "_law_cell_at", .glo "_law_mixed", .glo "_law_drawn", .glo "_law_fr", .glo "_law_plus", .glo "_law_times", .glo "_law_minus", .glo "_law_add", .glo "_law_sub", .glo "_law_scale", .glo "_law_number", .glo "_law_point", .glo "_law_goal", .glo "_law_stroke", .glo "_law_way", .glo "_law_pens", .glo "_law_is_fraction", .glo "_law_is_way", .glo "_law_spoilt", .glo "law", .free "abs", .free "all", .free "bool", .free "int", .free "isinstance", .free "len", .free "list", .free "range", .free "str", .free "tuple"]
def gl : List (Str × PyData) := [("MOST_UPPER", c_MOST_UPPER), ("LOWERS", c_LOWERS), ("MOST_STROKES", c_MOST_STROKES), ("MOVE", c_MOVE), ("LINE", c_LINE), ("BOW", c_BOW), ("WAVE", c_WAVE), ("SHUT", c_SHUT)]
abbrev R : PySem.W.OpenRow := PySem.W.OpenLaw.row PySem.Challenge.rw_drawways_k01_things
def dcs : DcS := [("LENGTHS", dc_LENGTHS)]
abbrev hk : PySem.W.Hook := hookZ 4 dcs fa gl fn
def ob (s : PySem.W.SharedT) : AlZ := obsZG 4 dcs fa gl fn (HandSHeadRun.getT s)
theorem ob_eq (s : PySem.W.SharedT) : ob s = hk.obs s.abs := obsZG_eq (HandSHeadRun.getT_eq s)
def loose0 : List Str := ["MOST_UPPER", "LOWERS", "MOST_STROKES", "MOVE", "LINE", "BOW", "WAVE", "SHUT", "LENGTHS", "divisor", "is_whole", "is_fraction"]
def loose1 : List Str := ["is_small", "is_point", "is_stroke", "is_way", "fraction", "_law_cell_at", "_law_mixed", "_law_drawn", "_law_fr", "_law_plus", "_law_times", "_law_minus"]
def loose2 : List Str := ["_law_add", "_law_sub", "_law_scale", "_law_number", "_law_point", "_law_goal", "_law_stroke", "_law_way", "_law_pens", "_law_is_fraction", "_law_is_way", "_law_spoilt"]
def loose : List Str := loose0 ++ loose1 ++ loose2
theorem txt {w : World} {K : PySem.W.Frag} {h : Heap} {mg : Str → Option Value} (X : K.In h) (G : h.Ns mainGlobals mg) (c : SaysX fa gl fn K) (y : SaysZ dcs fa gl fn w K) : Txt w K mg where
  d_LENGTHS := y.dic X G 0 (t := ("LENGTHS", dc_LENGTHS)) rfl
  f_divisor := c.def_ 0 (d := d_divisor) rfl
  g_divisor := He.glo_ok X G (c.fact 0 (f := .glo "divisor") rfl)
  f_is_whole := c.def_ 1 (d := d_is_whole) rfl
  g_is_whole := He.glo_ok X G (c.fact 1 (f := .glo "is_whole") rfl)
  f_is_fraction := c.def_ 2 (d := d_is_fraction) rfl
  g_is_fraction := He.glo_ok X G (c.fact 2 (f := .glo "is_fraction") rfl)
  f_is_small := c.def_ 3 (d := d_is_small) rfl
  g_is_small := He.glo_ok X G (c.fact 3 (f := .glo "is_small") rfl)
  f_is_point := c.def_ 4 (d := d_is_point) rfl
  g_is_point := He.glo_ok X G (c.fact 4 (f := .glo "is_point") rfl)
  f_is_stroke := c.def_ 5 (d := d_is_stroke) rfl
  g_is_stroke := He.glo_ok X G (c.fact 5 (f := .glo "is_stroke") rfl)
  f_is_way := c.def_ 6 (d := d_is_way) rfl
  g_is_way := He.glo_ok X G (c.fact 6 (f := .glo "is_way") rfl)
  f_fraction := c.def_ 7 (d := d_fraction) rfl
  g_fraction := He.glo_ok X G (c.fact 7 (f := .glo "fraction") rfl)
  f__law_cell_at := c.def_ 8 (d := d__law_cell_at) rfl
  g__law_cell_at := He.glo_ok X G (c.fact 8 (f := .glo "_law_cell_at") rfl)
  f__law_mixed := c.def_ 9 (d := d__law_mixed) rfl
  g__law_mixed := He.glo_ok X G (c.fact 9 (f := .glo "_law_mixed") rfl)
  f__law_drawn := c.def_ 10 (d := d__law_drawn) rfl
  g__law_drawn := He.glo_ok X G (c.fact 10 (f := .glo "_law_drawn") rfl)
  f__law_fr := c.def_ 11 (d := d__law_fr) rfl
  g__law_fr := He.glo_ok X G (c.fact 11 (f := .glo "_law_fr") rfl)
  f__law_plus := c.def_ 12 (d := d__law_plus) rfl
  g__law_plus := He.glo_ok X G (c.fact 12 (f := .glo "_law_plus") rfl)
  f__law_times := c.def_ 13 (d := d__law_times) rfl
  g__law_times := He.glo_ok X G (c.fact 13 (f := .glo "_law_times") rfl)
  f__law_minus := c.def_ 14 (d := d__law_minus) rfl
  g__law_minus := He.glo_ok X G (c.fact 14 (f := .glo "_law_minus") rfl)
  f__law_add := c.def_ 15 (d := d__law_add) rfl
  g__law_add := He.glo_ok X G (c.fact 15 (f := .glo "_law_add") rfl)
  f__law_sub := c.def_ 16 (d := d__law_sub) rfl
  g__law_sub := He.glo_ok X G (c.fact 16 (f := .glo "_law_sub") rfl)
  f__law_scale := c.def_ 17 (d := d__law_scale) rfl
  g__law_scale := He.glo_ok X G (c.fact 17 (f := .glo "_law_scale") rfl)
  f__law_number := c.def_ 18 (d := d__law_number) rfl
  g__law_number := He.glo_ok X G (c.fact 18 (f := .glo "_law_number") rfl)
  f__law_point := c.def_ 19 (d := d__law_point) rfl
  g__law_point := He.glo_ok X G (c.fact 19 (f := .glo "_law_point") rfl)
  f__law_goal := c.def_ 20 (d := d__law_goal) rfl
  g__law_goal := He.glo_ok X G (c.fact 20 (f := .glo "_law_goal") rfl)
  f__law_stroke := c.def_ 21 (d := d__law_stroke) rfl
  g__law_stroke := He.glo_ok X G (c.fact 21 (f := .glo "_law_stroke") rfl)
  f__law_way := c.def_ 22 (d := d__law_way) rfl
  g__law_way := He.glo_ok X G (c.fact 22 (f := .glo "_law_way") rfl)
  f__law_pens := c.def_ 23 (d := d__law_pens) rfl
  g__law_pens := He.glo_ok X G (c.fact 23 (f := .glo "_law_pens") rfl)
  f__law_is_fraction := c.def_ 24 (d := d__law_is_fraction) rfl
  g__law_is_fraction := He.glo_ok X G (c.fact 24 (f := .glo "_law_is_fraction") rfl)
  f__law_is_way := c.def_ 25 (d := d__law_is_way) rfl
  g__law_is_way := He.glo_ok X G (c.fact 25 (f := .glo "_law_is_way") rfl)
  f__law_spoilt := c.def_ 26 (d := d__law_spoilt) rfl
  g__law_spoilt := He.glo_ok X G (c.fact 26 (f := .glo "_law_spoilt") rfl)
  f_law := c.def_ 27 (d := d_law) rfl
  g_law := He.glo_ok X G (c.fact 27 (f := .glo "law") rfl)
  z_abs := He.free_ok X G (c.fact 28 (f := .free "abs") rfl)
  z_all := He.free_ok X G (c.fact 29 (f := .free "all") rfl)
  z_bool := He.free_ok X G (c.fact 30 (f := .free "bool") rfl)
  z_int := He.free_ok X G (c.fact 31 (f := .free "int") rfl)
  z_isinstance := He.free_ok X G (c.fact 32 (f := .free "isinstance") rfl)
  z_len := He.free_ok X G (c.fact 33 (f := .free "len") rfl)
  z_list := He.free_ok X G (c.fact 34 (f := .free "list") rfl)
  z_range := He.free_ok X G (c.fact 35 (f := .free "range") rfl)
  z_str := He.free_ok X G (c.fact 36 (f := .free "str") rfl)
  z_tuple := He.free_ok X G (c.fact 37 (f := .free "tuple") rfl)
  c_MOST_UPPER := globB_ok X G (c.glob 0 (q := ("MOST_UPPER", c_MOST_UPPER)) rfl)
  c_LOWERS := globB_ok X G (c.glob 1 (q := ("LOWERS", c_LOWERS)) rfl)
  c_MOST_STROKES := globB_ok X G (c.glob 2 (q := ("MOST_STROKES", c_MOST_STROKES)) rfl)
  c_MOVE := globB_ok X G (c.glob 3 (q := ("MOVE", c_MOVE)) rfl)
  c_LINE := globB_ok X G (c.glob 4 (q := ("LINE", c_LINE)) rfl)
  c_BOW := globB_ok X G (c.glob 5 (q := ("BOW", c_BOW)) rfl)
  c_WAVE := globB_ok X G (c.glob 6 (q := ("WAVE", c_WAVE)) rfl)
  c_SHUT := globB_ok X G (c.glob 7 (q := ("SHUT", c_SHUT)) rfl)
theorem facts {P : Program} {w : World} {K : PySem.W.Frag} {h : Heap} {mg : Str → Option Value} {f : Addr} (X : K.In h) (G : h.Ns mainGlobals mg) (hfa : mg ("law" : Str) = some (.ref f)) (c0 : SaysZ dcs fa gl fn w K) :
    ∃ fd : FuncData, (∀ (s : Shared) (v : Value), BindsTo s fd ⟨[v], []⟩ [("script", v)]) ∧ ∀ base : Heap, K.In base → base.Ns mainGlobals mg → FnOk P w K mg base CX0 8 f fd ["script"] (spD K 1 m_law_k01) := by
  have T := txt X G c0.y.x c0
  obtain ⟨fd, F⟩ := T.f_law
  have e := hfa.symm.trans T.g_law
  cases e
  have b := FunD.bindsA (ps := ["script"]) F fun _ _ _ _ _ _ us hl => match us, hl with | [_], _ => rfl
  exact ⟨fd, fun s v => b s [v] rfl, fun base _ _ => ok_law T F⟩
end W01

open PySem PySem.W PySem.Calls PyProof.Rows
set_option maxHeartbeats 0 in
theorem PySem.Challenge.cw_drawways_k01_things_holds : PySem.Challenge.rw_drawways_k01_things.Holds := by
  w_on; o_law
  o_head W01.hk
  case hw => w_witness2
  case hc =>
    refine L2.walk_ofE (l := PySem.Challenge.rw_drawways_k01_things) (n := 63) (k := 8) (x := "script") (CX := L2.CX0) rfl (by decide) (by kernel_rfl) ⟨rfl, by decide, by decide⟩ ?F (fun _ _ _ _ z => z)
    intro w mg fa h Y G hmg0
    obtain ⟨K, KX, c⟩ := Y
    have hmg : mg ("law" : PySem.Str) = some (.ref fa) := hmg0
    obtain ⟨fd, hb, hF⟩ := W01.facts (P := (PySem.Challenge.rw_drawways_k01_things).prog) (w := w) KX G hmg c
    exact ⟨K, fd, Dw.spD K 1 Dm.m_law_k01, KX, hb, fun H a ns hl _ hS => Dw.law_sp Dm.plain_k01 H a ns hl hS, hF⟩
