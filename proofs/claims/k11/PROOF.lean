import PyProof.Rows.All
import Wide.All
import OpenK.AllK
import Wide.FinOn
import HandS.ForMost
import HandS.Exc
import HandS.WordsExc
import HandS.ExcInit
import HandS.Flow
import HandS.Style
import HandS.Defaults
import HandS.IsInst
import HandS.DictComp
import HandS.Conv
import HandS.FStr
import HandS.SortKw
import HandS.Walk
import KE.SortData
import KE.SortKeyHeap
import KE.DatumMore
import KE.DataIsa
import KE.DataMinMax
import KE.GoesNew
import PyProof.ListStr
import HandS.HeadHook2
import HandS.HeadEnd
import HandS.Head2
import HandS.OwnEq
import HandS.IterVal
import PyProof.InstNe
import HandS.TupAny
import PySem.Challenge.RW_toldpaths_k11_books_told
set_option Elab.async false
set_option linter.all false
set_option maxRecDepth 100000
set_option maxHeartbeats 4000000
/-! Values told by data: what a def's names hold (Sl), frozen or its own, and judgements BE, BT, BS over that. -/
namespace B
open PySem PySem.Spec PyProof.Rows L2

/-! ### data in a heap that only grows -/
def keyD : Key → PyData
  | .inl i => .int i
  | .inr x => .str x
section
variable (K : PySem.W.Frag)
mutual
inductive Rp (Z : Hp) : V → PyData → Prop
  | non : Rp Z .non .none
  | bl (b : Bool) : Rp Z (.bl b) (.bool b)
  | int (i : Int) : Rp Z (.int i) (.int i)
  | str (x : Str) : Rp Z (.str x) (.str x)
  | lst {a : Addr} {xs : List V} {ds : List PyData} : Z a = some (.lst xs) → RpA Z xs ds → Rp Z (.ref a) (.list ds)
  | tup {a : Addr} {xs : List V} {ds : List PyData} : SqT K Z a xs → RpA Z xs ds → Rp Z (.ref a) (.tuple ds)
  | dic {a : Addr} {kvs : List (Key × V)} {ds : List (PyData × PyData)} : Z a = some (.dK kvs) → RpK Z kvs ds → Rp Z (.ref a) (.dict ds)
  | dicT {a : Addr} {kvs : List (List Key × V)} {ds : List (PyData × PyData)} : Z a = some (.dT kvs) → RpT Z kvs ds → Rp Z (.ref a) (.dict ds)
inductive RpA (Z : Hp) : List V → List PyData → Prop
  | nil : RpA Z [] []
  | cons {v : V} {vs : List V} {d : PyData} {ds : List PyData} : Rp Z v d → RpA Z vs ds → RpA Z (v :: vs) (d :: ds)
inductive RpK (Z : Hp) : List (Key × V) → List (PyData × PyData) → Prop
  | nil : RpK Z [] []
  | cons {k : Key} {v : V} {vs : List (Key × V)} {d : PyData} {ds : List (PyData × PyData)} : Rp Z v d → RpK Z vs ds → RpK Z ((k, v) :: vs) ((keyD k, d) :: ds)
inductive RpT (Z : Hp) : List (List Key × V) → List (PyData × PyData) → Prop
  | nil : RpT Z [] []
  | cons {k : List Key} {v : V} {vs : List (List Key × V)} {d : PyData} {ds : List (PyData × PyData)} : Rp Z v d → RpT Z vs ds → RpT Z ((k, v) :: vs) ((.tuple (k.map keyD), d) :: ds)
end
end
section
variable {K : PySem.W.Frag} {Z Z' : Hp}
theorem Same.seqT {a : Addr} {xs : List V} (e : Same Z Z') (h : SqT K Z a xs) : SqT K Z' a xs := by
  rcases h with (h | ⟨o, h⟩) | h
  · exact .inl (.inl (e _ _ h))
  · exact .inl (.inr ⟨o, e _ _ h⟩)
  · exact .inr h
mutual
theorem Rp.mono (e : Same Z Z') : ∀ (d : PyData) (v : V), Rp K Z v d → Rp K Z' v d
  | .none, _, h => by cases h; exact .non
  | .bool b, _, h => by cases h; exact .bl b
  | .int i, _, h => by cases h; exact .int i
  | .str x, _, h => by cases h; exact .str x
  | .list ds, _, h => by
    cases h with
    | lst h1 h2 => exact .lst (e _ _ h1) (RpA.mono e ds _ h2)
  | .tuple ds, _, h => by
    cases h with
    | tup h1 h2 => exact .tup (Same.seqT e h1) (RpA.mono e ds _ h2)
  | .dict ds, _, h => by
    cases h with
    | dic h1 h2 => exact .dic (e _ _ h1) (RpK.mono e ds _ h2)
    | dicT h1 h2 => exact .dicT (e _ _ h1) (RpT.mono e ds _ h2)
theorem RpA.mono (e : Same Z Z') : ∀ (ds : List PyData) (vs : List V), RpA K Z vs ds → RpA K Z' vs ds
  | [], _, h => by cases h; exact .nil
  | d :: ds, _, h => by
    cases h with
    | cons h1 h2 => exact .cons (Rp.mono e d _ h1) (RpA.mono e ds _ h2)
theorem RpK.mono (e : Same Z Z') : ∀ (ds : List (PyData × PyData)) (vs : List (Key × V)), RpK K Z vs ds → RpK K Z' vs ds
  | [], _, h => by cases h; exact .nil
  | (k, d) :: ds, _, h => by
    cases h with
    | cons h1 h2 => exact .cons (Rp.mono e d _ h1) (RpK.mono e ds _ h2)
theorem RpT.mono (e : Same Z Z') : ∀ (ds : List (PyData × PyData)) (vs : List (List Key × V)), RpT K Z vs ds → RpT K Z' vs ds
  | [], _, h => by cases h; exact .nil
  | (k, d) :: ds, _, h => by
    cases h with
    | cons h1 h2 => exact .cons (Rp.mono e d _ h1) (RpT.mono e ds _ h2)
end
theorem RpA.length : ∀ {vs : List V} {ds : List PyData}, RpA K Z vs ds → vs.length = ds.length
  | _, _, .nil => rfl
  | _, _, .cons _ t => by simp [RpA.length t]
theorem RpA.get : ∀ {vs : List V} {ds : List PyData} {i : Nat} {d : PyData}, RpA K Z vs ds → ds[i]? = some d → ∃ v, vs[i]? = some v ∧ Rp K Z v d
  | _, _, _, _, .nil, e => by simp at e
  | _, _, 0, _, .cons r _, e => by simp at e; subst e; exact ⟨_, rfl, r⟩
  | _, _, i + 1, d, .cons _ t, e => by
    obtain ⟨u, h1, h2⟩ := RpA.get (i := i) (d := d) t (by simpa using e)
    exact ⟨u, by simpa using h1, h2⟩
theorem RpA.get' : ∀ {vs : List V} {ds : List PyData} {i : Nat} {v : V}, RpA K Z vs ds → vs[i]? = some v → ∃ d, ds[i]? = some d ∧ Rp K Z v d
  | _, _, _, _, .nil, e => by simp at e
  | _, _, 0, _, .cons r _, e => by simp at e; subst e; exact ⟨_, rfl, r⟩
  | _, _, i + 1, d, .cons _ t, e => by
    obtain ⟨u, h1, h2⟩ := RpA.get' (i := i) (v := d) t (by simpa using e)
    exact ⟨u, by simpa using h1, h2⟩
theorem RpA.append : ∀ {vs ws : List V} {ds es : List PyData}, RpA K Z vs ds → RpA K Z ws es → RpA K Z (vs ++ ws) (ds ++ es)
  | _, _, _, _, .nil, s => s
  | _, _, _, _, .cons r t, s => .cons r (RpA.append t s)
theorem RpA.take : ∀ {vs : List V} {ds : List PyData} (n : Nat), RpA K Z vs ds → RpA K Z (vs.take n) (ds.take n)
  | _, _, 0, _ => .nil
  | _, _, _ + 1, .nil => .nil
  | _, _, n + 1, .cons r t => .cons r (RpA.take n t)
theorem RpA.drop : ∀ {vs : List V} {ds : List PyData} (n : Nat), RpA K Z vs ds → RpA K Z (vs.drop n) (ds.drop n)
  | _, _, 0, r => r
  | _, _, _ + 1, .nil => .nil
  | _, _, n + 1, .cons _ t => RpA.drop n t
theorem RpA.set {v : V} {d : PyData} (r : Rp K Z v d) : ∀ {vs : List V} {ds : List PyData} (n : Nat), RpA K Z vs ds → RpA K Z (vs.set n v) (ds.set n d)
  | _, _, _, .nil => .nil
  | _, _, 0, .cons _ t => .cons r t
  | _, _, n + 1, .cons q t => .cons q (RpA.set r n t)
theorem RpA.reverse : ∀ {vs : List V} {ds : List PyData}, RpA K Z vs ds → RpA K Z vs.reverse ds.reverse
  | _, _, .nil => .nil
  | _, _, .cons r t => by
    rw [List.reverse_cons, List.reverse_cons]
    exact (RpA.reverse t).append (.cons r .nil)
theorem rpA_ints : ∀ (ns : List Int), RpA K Z (ns.map V.int) (ns.map .int)
  | [] => .nil
  | n :: ns => .cons (.int n) (rpA_ints ns)
theorem rpA_strs : ∀ (ns : List Str), RpA K Z (ns.map V.str) (ns.map .str)
  | [] => .nil
  | n :: ns => .cons (.str n) (rpA_strs ns)
theorem rpA_of_ints : ∀ {vs : List V} (ns : List Int), RpA K Z vs (ns.map .int) → vs = ns.map V.int
  | _, [], h => by cases h; rfl
  | _, n :: ns, h => by
    cases h with
    | cons h1 h2 =>
      cases h1
      rw [rpA_of_ints ns h2] <;> rfl
theorem rpA_of_strs : ∀ {vs : List V} (ns : List Str), RpA K Z vs (ns.map .str) → vs = ns.map V.str
  | _, [], h => by cases h; rfl
  | _, n :: ns, h => by
    cases h with
    | cons h1 h2 =>
      cases h1
      rw [rpA_of_strs ns h2] <;> rfl
theorem rpA_of_bools : ∀ {vs : List V} (ns : List Bool), RpA K Z vs (ns.map .bool) → vs = ns.map V.bl
  | _, [], h => by cases h; rfl
  | _, n :: ns, h => by
    cases h with
    | cons h1 h2 =>
      cases h1
      rw [rpA_of_bools ns h2] <;> rfl
end

/-! ### what is said of a value: it stays true while the frozen part grows -/
structure SV where
  p : Hp → V → Prop
  mono : ∀ {Z Z' : Hp} {v : V}, Same Z Z' → p Z v → p Z' v
def IsD (K : PySem.W.Frag) (d : PyData) : SV := ⟨fun Z v => Rp K Z v d, fun e h => Rp.mono e _ _ h⟩
/-- some value of a family -/
def SV.ex {ι : Type} (Φ : ι → Prop) (P : ι → SV) : SV := ⟨fun Z v => ∃ i, Φ i ∧ (P i).p Z v, fun e ⟨i, h, q⟩ => ⟨i, h, (P i).mono e q⟩⟩
/-- any value -/
def SV.any : SV := ⟨fun _ _ => True, fun _ h => h⟩
def SV.le (P P' : SV) : Prop := ∀ Z v, P.p Z v → P'.p Z v
theorem SV.le_refl (P : SV) : P.le P := fun _ _ h => h

/-- what is the def's own: it hangs on its footprint in the heap and on the frozen part -/
structure OV where
  p : V → (Addr → Prop) → Hp → Hp → Prop
  stab : ∀ {v : V} {F : Addr → Prop} {H H' Z Z' : Hp}, p v F H Z → Same Z Z' → (∀ a, F a → H' a = H a) → p v F H' Z'

def OV.le (O O' : OV) : Prop := ∀ v F H Z, O.p v F H Z → O'.p v F H Z
/-- one of a family -/
def OV.ex {ι : Type} (Φ : ι → Prop) (O : ι → OV) : OV := ⟨fun v F H Z => ∃ i, Φ i ∧ (O i).p v F H Z, fun ⟨i, h, q⟩ z k => ⟨i, h, (O i).stab q z k⟩⟩

inductive Sl where
  | un
  | fz (P : SV)
  | own (O : OV)

abbrev Foot := Nat → Addr → Prop
def SlOk (s : Sl) (v : Option (Option V)) (F : Addr → Prop) (Z H : Hp) : Prop :=
  match s with
  | .un => True
  | .fz P => ∃ x, v = some (some x) ∧ P.p Z x
  | .own O => ∃ x, v = some (some x) ∧ O.p x F H Z

structure En (Γ : List Sl) (Z : Hp) (F : Foot) (σ : L2.St) (H : Hp) : Prop where
  zh : Same Z H
  fsep : ∀ i j a, F i a → F j a → i = j
  fz : ∀ i a, F i a → Z a = none
  fsome : ∀ i a, F i a → ∃ o, H a = some o
  slots : ∀ i s, Γ[i]? = some s → SlOk s σ[i]? (F i) Z H
  len : σ.length = Γ.length

/-- a step: the frozen part grows, what belongs to nobody stays -/
structure Stp (Z : Hp) (F : Foot) (H : Hp) (Z' : Hp) (F' : Foot) (H' : Hp) : Prop where
  z : Same Z Z'
  f : ∀ i a, F' i a → (∃ j, F j a) ∨ H a = none
  zn : ∀ a o, Z' a = some o → Z a = some o ∨ H a = none ∨ ∃ j, F j a
  fr : ∀ a o, H a = some o → (∀ j, ¬ F j a) → H' a = some o
  al : ∀ a o, H a = some o → ∃ o', H' a = some o'
/-- a growth -/
structure Gr (Z H Z' H' : Hp) : Prop where
  h : Same H H'
  z : Same Z Z'
  zh : Same Z' H'
  nw : ∀ a o, Z' a = some o → Z a = some o ∨ H a = none
section
variable {Z Z1 Z2 H H1 H2 : Hp} {F F1 F2 : Foot} {Γ Γ' : List Sl} {σ σ' : L2.St}
theorem Stp.refl : Stp Z F H Z F H := ⟨Same.refl _, fun i _ h => .inl ⟨i, h⟩, fun _ _ h => .inl h, fun _ _ h _ => h, fun _ o h => ⟨o, h⟩⟩
theorem Stp.trans (a : Stp Z F H Z1 F1 H1) (b : Stp Z1 F1 H1 Z2 F2 H2) : Stp Z F H Z2 F2 H2 := by
  have back : ∀ x, H1 x = none → H x = none ∨ ∃ j, F j x := fun x h => by
    cases q : H x with
    | none => exact .inl rfl
    | some o =>
      by_cases hf : ∃ j, F j x
      · exact .inr hf
      · have := a.fr x o q fun j hj => hf ⟨j, hj⟩
        rw [h] at this
        cases this
  refine ⟨a.z.trans b.z, fun i x h => ?_, fun x o h => ?_, fun x o h hn => ?_, fun x o h => (a.al x o h).elim fun o' h' => b.al x o' h'⟩
  · rcases b.f i x h with ⟨j, h1⟩ | h1
    · exact a.f j x h1
    · rcases back x h1 with h2 | h2
      · exact .inr h2
      · exact .inl h2
  · rcases b.zn x o h with h1 | h1 | ⟨j, h1⟩
    · exact a.zn x o h1
    · rcases back x h1 with h2 | h2
      · exact .inr (.inl h2)
      · exact .inr (.inr h2)
    · rcases a.f j x h1 with h2 | h2
      · exact .inr (.inr h2)
      · exact .inr (.inl h2)
  · refine b.fr x o (a.fr x o h hn) fun j hj => ?_
    rcases a.f j x hj with ⟨i, h1⟩ | h1
    · exact hn i h1
    · rw [h] at h1
      cases h1
theorem Gr.refl (h : Same Z H) : Gr Z H Z H := ⟨Same.refl _, Same.refl _, h, fun _ _ e => .inl e⟩
theorem Gr.trans (a : Gr Z H Z1 H1) (b : Gr Z1 H1 Z2 H2) : Gr Z H Z2 H2 := ⟨a.h.trans b.h, a.z.trans b.z, b.zh, fun x o e => by
  rcases b.nw x o e with h | h
  · exact a.nw x o h
  · exact .inr (a.h.free h)⟩
/-- a new thing, frozen at once -/
theorem Gr.new {p : Addr} {o : HO} (zh : Same Z H) (h : H p = none) : Gr Z H (upd Z p o) (upd H p o) := by
  have hz : Z p = none := zh.free h
  refine ⟨fun b u e => by rw [upd_ne (ne_of_none e h)]; exact e, fun b u e => by rw [upd_ne (ne_of_none e hz)]; exact e, fun b u e => ?_, fun b u e => ?_⟩
  · by_cases hb : b = p
    · subst hb
      rw [upd_same] at e ⊢
      exact e
    · rw [upd_ne hb] at e ⊢
      exact zh b u e
  · by_cases hb : b = p
    · subst hb
      exact .inr h
    · rw [upd_ne hb] at e
      exact .inl e
/-- a new thing that is not told -/
theorem Gr.lost {p : Addr} {o : HO} (zh : Same Z H) (h : H p = none) : Gr Z H Z (upd H p o) := by
  have hh : Same H (upd H p o) := fun b u e => by rw [upd_ne (ne_of_none e h)]; exact e
  exact ⟨hh, Same.refl _, zh.trans hh, fun _ _ e => .inl e⟩
theorem Gr.stp (g : Gr Z H Z1 H1) : Stp Z F H Z1 F H1 := ⟨g.z, fun i _ h => .inl ⟨i, h⟩, fun a o e => (g.nw a o e).elim .inl fun h => .inr (.inl h), fun a o e _ => g.h a o e, fun a o e => ⟨o, g.h a o e⟩⟩
theorem SlOk.grow {s : Sl} {v : Option (Option V)} {F : Addr → Prop} (h : SlOk s v F Z H) (z : Same Z Z1) (k : ∀ a, F a → H1 a = H a) : SlOk s v F Z1 H1 := by
  cases s with
  | un => trivial
  | fz P =>
    obtain ⟨x, e, q⟩ := h
    exact ⟨x, e, P.mono z q⟩
  | own O =>
    obtain ⟨x, e, q⟩ := h
    exact ⟨x, e, O.stab q z k⟩
theorem En.grow (E : En Γ Z F σ H) (g : Gr Z H Z1 H1) : En Γ Z1 F σ H1 := by
  have fk : ∀ i a, F i a → H1 a = H a := fun i a h => by
    obtain ⟨o, e⟩ := E.fsome i a h
    rw [e, g.h a o e]
  refine ⟨g.zh, E.fsep, fun i a h => ?_, fun i a h => ?_, fun i s e => (E.slots i s e).grow g.z (fk i), E.len⟩
  · cases q : Z1 a with
    | none => rfl
    | some o =>
      rcases g.nw a o q with e | e
      · rw [E.fz i a h] at e
        cases e
      · obtain ⟨u, e2⟩ := E.fsome i a h
        rw [e] at e2
        cases e2
  · obtain ⟨o, e⟩ := E.fsome i a h
    exact ⟨o, g.h a o e⟩
/-- a name is stored, its value frozen -/
theorem En.set (E : En Γ Z F σ H) {P : SV} {v : V} (i : Nat) (h : P.p Z v) : En (Γ.set i (.fz P)) Z F (σ.set i (some v)) H := by
  refine ⟨E.zh, E.fsep, E.fz, E.fsome, fun j s e => ?_, by rw [List.length_set, List.length_set]; exact E.len⟩
  by_cases hj : i = j
  · subst hj
    rw [List.getElem?_set] at e
    simp only [if_true] at e
    split at e
    · rename_i hl
      cases e
      refine ⟨v, ?_, h⟩
      rw [List.getElem?_set]
      simp [E.len, hl]
    · cases e
  · rw [List.getElem?_set_ne hj] at e ⊢
    exact E.slots j s e
/-- a slot is forgotten -/
theorem En.forget (E : En Γ Z F σ H) (i : Nat) : En (Γ.set i .un) Z F σ H := by
  refine ⟨E.zh, E.fsep, E.fz, E.fsome, fun j s e => ?_, by rw [List.length_set]; exact E.len⟩
  by_cases hj : i = j
  · subst hj
    rw [List.getElem?_set] at e
    simp only [if_true] at e
    split at e
    · cases e
      trivial
    · cases e
  · rw [List.getElem?_set_ne hj] at e
    exact E.slots j s e
def footSet (F : Foot) (i : Nat) (G : Addr → Prop) : Foot := fun j a => if j = i then G a else F j a
theorem foot_at {F : Foot} {i : Nat} {G : Addr → Prop} {a : Addr} : footSet F i G i a = G a := by unfold footSet; rw [if_pos rfl]
theorem foot_ne {F : Foot} {i j : Nat} {G : Addr → Prop} {a : Addr} (h : j ≠ i) : footSet F i G j a = F j a := by unfold footSet; rw [if_neg h]
/-- a name gets what is the def's own -/
theorem En.setOwn (E : En Γ Z F σ H) {O : OV} {v : V} (i : Nat) {G : Addr → Prop} (h : O.p v G H Z) (hz : ∀ a, G a → Z a = none) (hs : ∀ a, G a → ∃ o, H a = some o) (hd : ∀ j a, j ≠ i → G a → ¬ F j a) :
    En (Γ.set i (.own O)) Z (footSet F i G) (σ.set i (some v)) H := by
  refine ⟨E.zh, fun j k a h1 h2 => ?_, fun j a h1 => ?_, fun j a h1 => ?_, fun j s e => ?_, by rw [List.length_set, List.length_set]; exact E.len⟩
  · by_cases hj : j = i
    · by_cases hk : k = i
      · rw [hj, hk]
      · rw [hj, foot_at] at h1
        rw [foot_ne hk] at h2
        exact absurd h2 (hd k a hk h1)
    · by_cases hk : k = i
      · rw [hk, foot_at] at h2
        rw [foot_ne hj] at h1
        exact absurd h1 (hd j a hj h2)
      · rw [foot_ne hj] at h1
        rw [foot_ne hk] at h2
        exact E.fsep j k a h1 h2
  · by_cases hj : j = i
    · rw [hj, foot_at] at h1
      exact hz a h1
    · rw [foot_ne hj] at h1
      exact E.fz j a h1
  · by_cases hj : j = i
    · rw [hj, foot_at] at h1
      exact hs a h1
    · rw [foot_ne hj] at h1
      exact E.fsome j a h1
  · by_cases hj : i = j
    · subst hj
      rw [List.getElem?_set] at e
      simp only [if_true] at e
      split at e
      · rename_i hl
        cases e
        refine ⟨v, ?_, ?_⟩
        · rw [List.getElem?_set]
          simp [E.len, hl]
        · have : (footSet F i G i) = G := by funext a; exact foot_at
          rw [this]
          exact h
      · cases e
    · rw [List.getElem?_set_ne hj] at e ⊢
      have : (footSet F i G j) = F j := by funext a; exact foot_ne (Ne.symm hj)
      rw [this]
      exact E.slots j s e
/-- what is the def's own in slot i changes at p -/
theorem En.mut (E : En Γ Z F σ H) {O : OV} {i : Nat} {p : Addr} {o : HO} {v : V} (hp : F i p) (hv : σ[i]? = some (some v)) (h : O.p v (F i) (upd H p o) Z) : En (Γ.set i (.own O)) Z F σ (upd H p o) := by
  have zp : Z p = none := E.fz i p hp
  refine ⟨fun b u e => by rw [upd_ne (ne_of_none e zp)]; exact E.zh b u e, E.fsep, E.fz, fun j a h1 => ?_, fun j s e => ?_, by rw [List.length_set]; exact E.len⟩
  · by_cases ha : a = p
    · exact ⟨o, by rw [ha, upd_same]⟩
    · obtain ⟨u, e⟩ := E.fsome j a h1
      exact ⟨u, by rw [upd_ne ha]; exact e⟩
  · by_cases hj : i = j
    · subst hj
      rw [List.getElem?_set] at e
      simp only [if_true] at e
      split at e
      · cases e
        exact ⟨v, hv, h⟩
      · cases e
    · rw [List.getElem?_set_ne hj] at e
      refine (E.slots j s e).grow (Same.refl _) fun a ha => upd_ne fun z => ?_
      rw [z] at ha
      exact hj (E.fsep i j p hp ha)
theorem Stp.mut {p : Addr} {o : HO} {i : Nat} (hp : F i p) : Stp Z F H Z F (upd H p o) :=
  ⟨Same.refl _, fun i _ h => .inl ⟨i, h⟩, fun _ _ h => .inl h, fun a u e hn => by rw [upd_ne fun z => hn i (by rw [z]; exact hp)]; exact e, fun a u e => by
    by_cases ha : a = p
    · exact ⟨o, by rw [ha, upd_same]⟩
    · exact ⟨u, by rw [upd_ne ha]; exact e⟩⟩
theorem Stp.setOwn {i : Nat} {G : Addr → Prop} (st : Stp Z F H Z1 F1 H1) (hG : ∀ a, G a → (∃ j, F j a) ∨ H a = none) : Stp Z F H Z1 (footSet F1 i G) H1 :=
  ⟨st.z, fun j a h => by
    by_cases hj : j = i
    · rw [hj, foot_at] at h
      exact hG a h
    · rw [foot_ne hj] at h
      exact st.f j a h, st.zn, st.fr, st.al⟩
theorem Stp.back (st : Stp Z F H Z1 F1 H1) {p : Addr} (h : H1 p = none) : H p = none := by
  cases q : H p with
  | none => rfl
  | some o =>
    obtain ⟨o', e⟩ := st.al p o q
    rw [h] at e
    cases e
theorem En.weaken (E : En Γ Z F σ H) (hl : Γ'.length = Γ.length) (h : ∀ (i : Nat) (s' : Sl), Γ'[i]? = some s' → s' = .un ∨ Γ[i]? = some s' ∨ (∃ P P' : SV, Γ[i]? = some (.fz P) ∧ s' = .fz P' ∧ P.le P') ∨ (∃ O O' : OV, Γ[i]? = some (.own O) ∧ s' = .own O' ∧ O.le O') ∨ ∃ (O : OV) (P : SV), Γ[i]? = some (.own O) ∧ s' = .fz P ∧ ∀ v F H Z, O.p v F H Z → P.p Z v) : En Γ' Z F σ H := by
  refine ⟨E.zh, E.fsep, E.fz, E.fsome, fun i s e => ?_, by rw [hl]; exact E.len⟩
  rcases h i s e with r | r | ⟨P, P', r, r', q⟩ | ⟨O, O', r, r', q⟩ | ⟨O, P, r, r', q⟩
  · subst r
    trivial
  · exact E.slots i s r
  · subst r'
    obtain ⟨x, e1, e2⟩ := E.slots i _ r
    exact ⟨x, e1, q _ _ e2⟩
  · subst r'
    obtain ⟨x, e1, e2⟩ := E.slots i _ r
    exact ⟨x, e1, q _ _ _ _ e2⟩
  · subst r'
    obtain ⟨x, e1, e2⟩ := E.slots i _ r
    exact ⟨x, e1, q _ _ _ _ e2⟩
end

/-! ### the judgements -/
def tE (Γ : List Sl) (P : SV) (Γ' : List Sl) : TE := fun σ H Q => ∃ Z F, En Γ Z F σ H ∧ ∀ v Z' F' H', En Γ' Z' F' σ H' → Stp Z F H Z' F' H' → P.p Z' v → Q v H'
def tT (Γ : List Sl) (β : Bool → Prop) (Γ' : List Sl) : TT := fun σ H Q => ∃ Z F, En Γ Z F σ H ∧ ∀ b Z' F' H', En Γ' Z' F' σ H' → Stp Z F H Z' F' H' → β b → Q b H'
def tA (Γ : List Sl) (Ps : List SV) (Γ' : List Sl) : TA := fun σ H Q => ∃ Z F, En Γ Z F σ H ∧ ∀ vs Z' F' H', En Γ' Z' F' σ H' → Stp Z F H Z' F' H' → Paired (fun (P : SV) v => P.p Z' v) Ps vs → Q vs H'
/-- what is returned: a value that is known, or what slot i holds -/
inductive RV where
  | fz (P : SV)
  | at (i : Nat)
def RV.ok : RV → Hp → L2.St → V → Prop
  | .fz P, Z, _, v => P.p Z v
  | .at i, _, σ, v => σ[i]? = some (some v)
def RV.le : RV → SV → Prop
  | .fz P, R => P.le R
  | .at _, _ => False
/-- what is wanted behind a statement: where it goes on, what it returns, a break, a continue -/
structure Post where
  nx : List Sl → Prop
  rt : RV → List Sl → Prop
  bk : List Sl → Prop := fun _ => False
  ct : List Sl → Prop := fun _ => False
def tS (Γ : List Sl) (R : Post) : TS := fun D σ H => ∃ Z F, En Γ Z F σ H ∧
  (∀ Γ' Z' F' σ' H', R.nx Γ' → En Γ' Z' F' σ' H' → Stp Z F H Z' F' H' → D.nx σ' H') ∧
  (∀ P Γ' v Z' F' σ' H', R.rt P Γ' → En Γ' Z' F' σ' H' → Stp Z F H Z' F' H' → P.ok Z' σ' v → D.rt v H') ∧
  (∀ Γ' Z' F' σ' H', R.bk Γ' → En Γ' Z' F' σ' H' → Stp Z F H Z' F' H' → D.bk σ' H') ∧
  (∀ Γ' Z' F' σ' H', R.ct Γ' → En Γ' Z' F' σ' H' → Stp Z F H Z' F' H' → D.ct σ' H')
def BE (X : Cx) (Γ : List Sl) (e : Expr) (P : SV) (Γ' : List Sl) : Prop := PE X e (tE Γ P Γ')
def BT (X : Cx) (Γ : List Sl) (e : Expr) (β : Bool → Prop) (Γ' : List Sl) : Prop := PT X e (tT Γ β Γ')
def BW (X : Cx) (Γ : List Sl) (e : Expr) (β : Bool → Prop) (Γ' : List Sl) : Prop := PW X e (tT Γ β Γ')
def BA (X : Cx) (Γ : List Sl) (es : List Expr) (Ps : List SV) (Γ' : List Sl) : Prop := PA X es (tA Γ Ps Γ')
def BS (X : Cx) (Γ : List Sl) (st : Stmt) (R : Post) : Prop := PS X st (tS Γ R)
def BSs (X : Cx) (Γ : List Sl) (st : List Stmt) (R : Post) : Prop := PSs X st (tS Γ R)
section
variable {X : Cx}
theorem PE.imp {e : Expr} {t t' : TE} (h : PE X e t) (k : ∀ σ H Q, t' σ H Q → t σ H Q) : PE X e t' := ⟨fun pins s σ H Q I q => h.run pins s σ H Q I (k σ H Q q)⟩
theorem PT.imp {e : Expr} {t t' : TT} (h : PT X e t) (k : ∀ σ H Q, t' σ H Q → t σ H Q) : PT X e t' := ⟨fun pins s σ H Q I q => h.run pins s σ H Q I (k σ H Q q)⟩
theorem PW.imp {e : Expr} {t t' : TT} (h : PW X e t) (k : ∀ σ H Q, t' σ H Q → t σ H Q) : PW X e t' := ⟨fun wh pins s σ H Q I q => h.run wh pins s σ H Q I (k σ H Q q)⟩
theorem PA.imp {e : List Expr} {t t' : TA} (h : PA X e t) (k : ∀ σ H Q, t' σ H Q → t σ H Q) : PA X e t' := ⟨fun pos pins s σ H Q I q => h.run pos pins s σ H Q I (k σ H Q q)⟩
theorem PS.imp {e : Stmt} {t t' : TS} (h : PS X e t) (k : ∀ D σ H, t' D σ H → t D σ H) : PS X e t' := ⟨fun pins s σ H D I q => h.run pins s σ H D I (k D σ H q)⟩
theorem PSs.imp {e : List Stmt} {t t' : TS} (h : PSs X e t) (k : ∀ D σ H, t' D σ H → t D σ H) : PSs X e t' := ⟨fun pins s σ H D I q => h.run pins s σ H D I (k D σ H q)⟩
variable {Γ Γ' Γ1 Γ2 Γ3 : List Sl} {P P' P1 P2 P3 : SV} {a b c e : Expr} {pos : Pos}
theorem BE.le (h : BE X Γ e P Γ') (k : P.le P') : BE X Γ e P' Γ' := PE.imp h fun σ H Q ⟨Z, F, E, q⟩ => ⟨Z, F, E, fun v Z' F' H' E' S p => q v Z' F' H' E' S (k _ _ p)⟩
theorem BT.le {β β' : Bool → Prop} (h : BT X Γ e β Γ') (k : ∀ b, β b → β' b) : BT X Γ e β' Γ' := PT.imp h fun σ H Q ⟨Z, F, E, q⟩ => ⟨Z, F, E, fun v Z' F' H' E' S p => q v Z' F' H' E' S (k _ p)⟩

/-! ### names, constants -/
theorem be_var (i : Nat) {x : Str} (hP : Γ[i]? = some (.fz P)) (hN : X.N[i]? = some x) (hv : Vis X.env.scope x) (hd : (x == ("__debug__" : Str)) = false := by decide) (hcd : (x == ("__classdict__" : Str)) = false := by decide) : BE X Γ (.Name x pos) P Γ :=
  PE.imp (pe_var hN hv hd hcd) fun σ H Q ⟨Z, F, E, q⟩ => by
    obtain ⟨v, e, p⟩ := E.slots i _ hP
    exact ⟨v, e, q v Z F H E Stp.refl p⟩
/-- a value that hangs on no heap -/
theorem be_val {v : V} (h : PE X e (tC v)) (p : ∀ Z, P.p Z v) : BE X Γ e P Γ := PE.imp h fun σ H Q ⟨Z, F, E, q⟩ => q v Z F H E Stp.refl (p Z)
theorem be_int {i : Int} {j : Nat} : BE X Γ (.Constant (.int i) j pos) (IsD X.K (.int i)) Γ := be_val pe_int fun _ => .int i
theorem be_bl {i : Bool} {j : Nat} : BE X Γ (.Constant (.bool i) j pos) (IsD X.K (.bool i)) Γ := be_val pe_bl fun _ => .bl i
theorem be_str {i : Str} {j : Nat} : BE X Γ (.Constant (.str i) j pos) (IsD X.K (.str i)) Γ := be_val pe_str fun _ => .str i
theorem be_non {j : Nat} : BE X Γ (.Constant .none j pos) (IsD X.K .none) Γ := be_val pe_non fun _ => .non
theorem be_glob {x : Str} {u : Value} {v : V} (hg : Gl X x) (hm : X.mg x = some u) (r : RelV v u) (p : ∀ Z, P.p Z v) (hd : (x == ("__debug__" : Str)) = false := by decide) : BE X Γ (.Name x pos) P Γ := be_val (pe_glob hg hm r hd) p

/-! ### operators -/
def rB (P1 P2 P : SV) : R2 := fun x y H Q => ∃ Z, Same Z H ∧ P1.p Z x ∧ P2.p Z y ∧ ∀ v Z' H', Gr Z H Z' H' → P.p Z' v → Q v H'
def OpB (X : Cx) (f : Value → Value → Sem Value) (P1 P2 P : SV) : Prop := OpR X f (rB P1 P2 P)
theorem OpR.imp {f : Value → Value → Sem Value} {r r' : R2} (h : OpR X f r) (k : ∀ x y H Q, r' x y H Q → r x y H Q) : OpR X f r' := fun pins s σ H x y v u Q I rx ry q => h pins s σ H x y v u Q I rx ry (k x y H Q q)
theorem t_op (σ : L2.St) (H : Hp) (Q : VK) (h : tE Γ P Γ2 σ H Q) : tOp (rB P1 P2 P) (tE Γ P1 Γ1) (tE Γ1 P2 Γ2) σ H Q := by
  obtain ⟨Z, F, E, q⟩ := h
  refine ⟨Z, F, E, fun v1 Z1 F1 H1 E1 S1 p1 => ⟨Z1, F1, E1, fun v2 Z2 F2 H2 E2 S2 p2 => ⟨Z2, E2.zh, P1.mono S2.z p1, p2, fun v Z' H' g p => ?_⟩⟩⟩
  exact q v Z' F2 H' (E2.grow g) ((S1.trans S2).trans g.stp) p
theorem be_op {op : Operator} (ha : BE X Γ a P1 Γ1) (hb : BE X Γ1 b P2 Γ2) (ho : OpB X (binaryOp op) P1 P2 P) : BE X Γ (.BinOp a op b pos) P Γ2 := PE.imp (pe_op ho ha hb) t_op
theorem be_cmp {op : CmpOp} (ha : BE X Γ a P1 Γ1) (hb : BE X Γ1 b P2 Γ2) (ho : OpB X (compareOp op) P1 P2 P) (hm : behindInMarks op b = false := by first | exact nomark _ (by decide) (by decide) | with_unfolding_all rfl) : BE X Γ (.Compare a [op] [b] pos) P Γ2 :=
  PE.imp (pe_cmpR ho ha hb hm) t_op
theorem bt_cmp {op : CmpOp} {k : Bool} (ha : BE X Γ a P1 Γ1) (hb : BE X Γ1 b P2 Γ2) (ho : OpB X (compareOp op) P1 P2 (IsD X.K (.bool k))) (hm : behindInMarks op b = false := by first | exact nomark _ (by decide) (by decide) | with_unfolding_all rfl) :
    BT X Γ (.Compare a [op] [b] pos) (· = k) Γ2 :=
  PT.imp (pt_cmpR ho ha hb hm) fun σ H Q h => t_op σ H _ (by
    obtain ⟨Z, F, E, q⟩ := h
    refine ⟨Z, F, E, fun v Z' F' H' E' S p => ?_⟩
    cases p
    exact ⟨k, rfl, q k Z' F' H' E' S rfl⟩)
/-- a value that is a truth value, as a test -/
theorem bt_val {k : Bool} (h : BE X Γ e (IsD X.K (.bool k)) Γ') (he : ∀ whole, isTrue e X.env whole = (do let v ← whole; standAt e.pos; holding [v] (truthy v)) := by intro _; rfl) : BT X Γ e (· = k) Γ' :=
  PT.imp (pt_val h he) fun σ H Q ⟨Z, F, E, q⟩ => ⟨Z, F, E, fun v Z' F' H' E' S p => by
    cases p
    exact ⟨k, rfl, q k Z' F' H' E' S rfl⟩⟩
theorem bt_not {β : Bool → Prop} (h : BT X Γ a β Γ') : BT X Γ (.UnaryOp .Not a pos) (fun b => β (!b)) Γ' :=
  PT.imp (pt_not h) fun σ H Q ⟨Z, F, E, q⟩ => ⟨Z, F, E, fun v Z' F' H' E' S p => q (!v) Z' F' H' E' S (by show β (!(!v)); rw [Bool.not_not]; exact p)⟩
theorem bt_notD {k : Bool} (h : BT X Γ a (· = k) Γ') : BT X Γ (.UnaryOp .Not a pos) (· = !k) Γ' := (bt_not h).le fun b e => by
  have e' : (!b) = k := e
  rw [← e', Bool.not_not]
theorem bt_of_bw {β : Bool → Prop} (h : BW X Γ e β Γ') : BT X Γ e β Γ' := PW.pt h
theorem bw_and1 {β : Bool → Prop} (h : BT X Γ a β Γ') : BW X Γ (.BoolOp .And [a] pos) β Γ' := pw_and1 h
theorem bw_or1 {β : Bool → Prop} (h : BT X Γ a β Γ') : BW X Γ (.BoolOp .Or [a] pos) β Γ' := pw_or1 h
theorem bw_and {rest : List Expr} {k k' : Bool} (ha : BT X Γ a (· = k) Γ1) (hb : k = true → BW X Γ1 (.BoolOp .And (b :: rest) pos) (· = k') Γ1) : BW X Γ (.BoolOp .And (a :: b :: rest) pos) (· = (k && k')) Γ1 := by
  cases k with
  | true =>
    refine PW.imp (pw_and ha (hb rfl)) fun σ H Q ⟨Z, F, E, q⟩ => ⟨Z, F, E, fun v Z' F' H' E' S p => ?_⟩
    have p' : v = true := p
    subst p'
    show (if true = true then _ else _)
    rw [if_pos rfl]
    exact ⟨Z', F', E', fun v2 Z2 F2 H2 E2 S2 p2 => q v2 Z2 F2 H2 E2 (S.trans S2) p2⟩
  | false =>
    refine ⟨fun wh pins s σ H Q I ⟨Z, F, E, q⟩ => ?_⟩
    refine PyProof.Rows.isTrue_and (thn (PT.run ha pins s σ H _ I ⟨Z, F, E, fun v Z' F' H' E' S p => (⟨p, q v Z' F' H' E' S p⟩ : (fun v H' => v = false ∧ Q v H') v H')⟩) fun c s1 ⟨H1, I1, e1, q1⟩ => ?_)
    subst e1
    exact ⟨H1, I1, q1⟩
theorem bw_or {rest : List Expr} {k k' : Bool} (ha : BT X Γ a (· = k) Γ1) (hb : k = false → BW X Γ1 (.BoolOp .Or (b :: rest) pos) (· = k') Γ1) : BW X Γ (.BoolOp .Or (a :: b :: rest) pos) (· = (k || k')) Γ1 := by
  cases k with
  | false =>
    refine PW.imp (pw_or ha (hb rfl)) fun σ H Q ⟨Z, F, E, q⟩ => ⟨Z, F, E, fun v Z' F' H' E' S p => ?_⟩
    have p' : v = false := p
    subst p'
    show (if false = true then _ else _)
    rw [if_neg Bool.false_ne_true]
    exact ⟨Z', F', E', fun v2 Z2 F2 H2 E2 S2 p2 => q v2 Z2 F2 H2 E2 (S.trans S2) p2⟩
  | true =>
    refine ⟨fun wh pins s σ H Q I ⟨Z, F, E, q⟩ => ?_⟩
    refine PyProof.Rows.isTrue_or (thn (PT.run ha pins s σ H _ I ⟨Z, F, E, fun v Z' F' H' E' S p => (⟨p, q v Z' F' H' E' S p⟩ : (fun v H' => v = true ∧ Q v H') v H')⟩) fun c s1 ⟨H1, I1, e1, q1⟩ => ?_)
    subst e1
    exact ⟨H1, I1, q1⟩
end
end B

/-! Operators over data; displays; subscripts; slices. -/
namespace B
open PySem PySem.Spec PyProof.Rows L2
section
variable {X : Cx} {Γ Γ' Γ1 Γ2 Γ3 : List Sl} {P P' P1 P2 P3 : SV} {a b c e : Expr} {pos : Pos} {K : PySem.W.Frag}
abbrev dI (K : PySem.W.Frag) (i : Int) : SV := IsD K (.int i)
abbrev dS (K : PySem.W.Frag) (i : Str) : SV := IsD K (.str i)
abbrev dB (K : PySem.W.Frag) (i : Bool) : SV := IsD K (.bool i)
abbrev dL (K : PySem.W.Frag) (i : List PyData) : SV := IsD K (.list i)
abbrev dU (K : PySem.W.Frag) (i : List PyData) : SV := IsD K (.tuple i)
abbrev dN (K : PySem.W.Frag) : SV := IsD K .none
theorem dI_p {Z : Hp} {i : Int} {v : V} (h : (dI K i).p Z v) : v = .int i := by cases h; rfl
theorem dS_p {Z : Hp} {i : Str} {v : V} (h : (dS K i).p Z v) : v = .str i := by cases h; rfl
theorem dB_p {Z : Hp} {i : Bool} {v : V} (h : (dB K i).p Z v) : v = .bl i := by cases h; rfl
theorem dN_p {Z : Hp} {v : V} (h : (dN K).p Z v) : v = .non := by cases h; rfl
theorem dL_p {Z : Hp} {ds : List PyData} {v : V} (h : (dL K ds).p Z v) : ∃ a xs, v = .ref a ∧ Z a = some (.lst xs) ∧ RpA K Z xs ds := by
  cases h with
  | lst h1 h2 => exact ⟨_, _, rfl, h1, h2⟩
theorem dU_p {Z : Hp} {ds : List PyData} {v : V} (h : (dU K ds).p Z v) : ∃ a xs, v = .ref a ∧ SqT K Z a xs ∧ RpA K Z xs ds := by
  cases h with
  | tup h1 h2 => exact ⟨_, _, rfl, h1, h2⟩
theorem SqT.up {Z H : Hp} {a : Addr} {xs : List V} (zh : Same Z H) (h : SqT K Z a xs) : SqT K H a xs := Same.seqT zh h

/-- an operation on two values that leaves the heap -/
theorem opb_pure {f : Value → Value → Sem Value} {r : R2} (h : OpR X f r) (k : ∀ Z H x y Q, Same Z H → P1.p Z x → P2.p Z y → (∀ v, P.p Z v → Q v H) → r x y H Q) : OpB X f P1 P2 P :=
  OpR.imp h fun x y H Q ⟨Z, zh, p1, p2, q⟩ => k Z H x y Q zh p1 p2 fun v p => q v Z H (Gr.refl zh) p
theorem opb_ii {f : Value → Value → Sem Value} {g : Int → Int → V} {i j : Int} (h : OpR X f (rI0 g)) (k : ∀ Z, P.p Z (g i j)) : OpB X f (dI X.K i) (dI X.K j) P :=
  opb_pure h fun Z H x y Q zh p1 p2 q => ⟨i, j, dI_p p1, dI_p p2, q _ (k Z)⟩
theorem opb_iic {f : Value → Value → Sem Value} {C : Int → Int → Prop} {g : Int → Int → V} {i j : Int} (h : OpR X f (rI C g)) (hc : C i j) (k : ∀ Z, P.p Z (g i j)) : OpB X f (dI X.K i) (dI X.K j) P :=
  opb_pure h fun Z H x y Q zh p1 p2 q => ⟨i, j, dI_p p1, dI_p p2, hc, q _ (k Z)⟩
theorem ob_add {i j : Int} : OpB X (binaryOp .Add) (dI X.K i) (dI X.K j) (dI X.K (i + j)) := opb_ii op_add fun _ => .int _
theorem ob_sub {i j : Int} : OpB X (binaryOp .Sub) (dI X.K i) (dI X.K j) (dI X.K (i - j)) := opb_ii op_sub fun _ => .int _
theorem ob_mul {i j : Int} (h : CMul i j) : OpB X (binaryOp .Mult) (dI X.K i) (dI X.K j) (dI X.K (i * j)) := opb_iic op_mul h fun _ => .int _
theorem ob_fdiv {i j : Int} (h : CDiv i j) : OpB X (binaryOp .FloorDiv) (dI X.K i) (dI X.K j) (dI X.K (i / j)) := opb_iic op_fdiv h fun _ => .int _
theorem ob_mod {i j : Int} (h : 0 < j) : OpB X (binaryOp .Mod) (dI X.K i) (dI X.K j) (dI X.K (i % j)) := opb_iic op_mod h fun _ => .int _
theorem ob_pow {i j : Int} (h : CPow i j) : OpB X (binaryOp .Pow) (dI X.K i) (dI X.K j) (dI X.K (i ^ j.toNat)) := opb_iic op_pow h fun _ => .int _
theorem ob_lt {i j : Int} : OpB X (compareOp .Lt) (dI X.K i) (dI X.K j) (dB X.K (decide (i < j))) := opb_ii op_lt fun _ => .bl _
theorem ob_le {i j : Int} : OpB X (compareOp .LtE) (dI X.K i) (dI X.K j) (dB X.K (decide (i ≤ j))) := opb_ii op_le fun _ => .bl _
theorem ob_gt {i j : Int} : OpB X (compareOp .Gt) (dI X.K i) (dI X.K j) (dB X.K (decide (j < i))) := opb_ii op_gt fun _ => .bl _
theorem ob_ge {i j : Int} : OpB X (compareOp .GtE) (dI X.K i) (dI X.K j) (dB X.K (decide (j ≤ i))) := opb_ii op_ge fun _ => .bl _
theorem ob_addS {i j : Str} (h : i.length + j.length ≤ sizeLine) : OpB X (binaryOp .Add) (dS X.K i) (dS X.K j) (dS X.K (i ++ j)) :=
  opb_pure op_add_str fun Z H x y Q zh p1 p2 q => ⟨i, j, dS_p p1, dS_p p2, h, q _ (.str _)⟩
theorem iob_addS {i j : Str} (h : i.length + j.length ≤ sizeLine) : OpB X (inplaceOp .Add) (dS X.K i) (dS X.K j) (dS X.K (i ++ j)) :=
  opb_pure iop_add_str fun Z H x y Q zh p1 p2 q => ⟨i, j, dS_p p1, dS_p p2, h, q _ (.str _)⟩
theorem iob_add {i j : Int} : OpB X (inplaceOp .Add) (dI X.K i) (dI X.K j) (dI X.K (i + j)) := opb_ii iop_add fun _ => .int _
theorem iob_sub {i j : Int} : OpB X (inplaceOp .Sub) (dI X.K i) (dI X.K j) (dI X.K (i - j)) := opb_ii iop_sub fun _ => .int _
theorem ob_ltS {i j : Str} : OpB X (compareOp .Lt) (dS X.K i) (dS X.K j) (dB X.K (decide (i.cps.toList < j.cps.toList))) :=
  opb_pure op_lt_str fun Z H x y Q zh p1 p2 q => ⟨i, j, dS_p p1, dS_p p2, q _ (.bl _)⟩
theorem ob_leS {i j : Str} : OpB X (compareOp .LtE) (dS X.K i) (dS X.K j) (dB X.K (!decide (j.cps.toList < i.cps.toList))) :=
  opb_pure op_le_str fun Z H x y Q zh p1 p2 q => ⟨i, j, dS_p p1, dS_p p2, q _ (.bl _)⟩
theorem ob_geS {i j : Str} : OpB X (compareOp .GtE) (dS X.K i) (dS X.K j) (dB X.K (!decide (i.cps.toList < j.cps.toList))) :=
  opb_pure op_ge_str fun Z H x y Q zh p1 p2 q => ⟨i, j, dS_p p1, dS_p p2, q _ (.bl _)⟩
/-- one sign in a text -/
theorem ob_inS {c : Nat} {j : Str} : OpB X (compareOp .In) (dS X.K ⟨#[c]⟩) (dS X.K j) (dB X.K (decide (c ∈ j.cps.toList))) :=
  opb_pure op_in_sign fun Z H x y Q zh p1 p2 q => ⟨c, j, dS_p p1, dS_p p2, q _ (.bl _)⟩
theorem ob_notInS {c : Nat} {j : Str} : OpB X (compareOp .NotIn) (dS X.K ⟨#[c]⟩) (dS X.K j) (dB X.K (!decide (c ∈ j.cps.toList))) :=
  opb_pure op_notIn_sign fun Z H x y Q zh p1 p2 q => ⟨c, j, dS_p p1, dS_p p2, q _ (.bl _)⟩
theorem ob_isN {d : PyData} : OpB X (compareOp .Is) (IsD X.K d) (dN X.K) (dB X.K (match d with | .none => true | _ => false)) :=
  opb_pure op_isN fun Z H x y Q zh p1 p2 q => ⟨dN_p p2, q _ (by cases p1 <;> exact .bl _)⟩
theorem ob_notN {d : PyData} : OpB X (compareOp .IsNot) (IsD X.K d) (dN X.K) (dB X.K (match d with | .none => false | _ => true)) :=
  opb_pure op_notN fun Z H x y Q zh p1 p2 q => ⟨dN_p p2, q _ (by cases p1 <;> exact .bl _)⟩
/-- == of data: texts, numbers, lists, tuples, none, nested -/
theorem Dp_of_Rp {Z H : Hp} (zh : Same Z H) : ∀ (d : PyData) (v : V), d.canLay0 = true → Rp K Z v d → Dp K H v d := by
  intro d
  exact go d
where
  go : ∀ (d : PyData) (v : V), d.canLay0 = true → Rp K Z v d → Dp K H v d
  | .none, _, _, h => by cases h; exact .non
  | .bool b, _, _, h => by cases h; exact .bl b
  | .int i, _, _, h => by cases h; exact .int i
  | .str x, _, _, h => by cases h; exact .str x
  | .list ds, _, c, h => by
    cases h with
    | lst h1 h2 => exact .lst (SqL.of (zh _ _ h1)) (goAll ds _ (by simpa [PyData.canLay0] using c) h2)
  | .tuple ds, _, c, h => by
    cases h with
    | tup h1 h2 => exact .tup (Same.seqT zh h1) (goAll ds _ (by simpa [PyData.canLay0] using c) h2)
  | .dict ds, _, c, _ => by simp [PyData.canLay0] at c
  goAll : ∀ (ds : List PyData) (vs : List V), PyData.canLayAll0 ds = true → RpA K Z vs ds → DpAll K H vs ds
  | [], _, _, h => by cases h; exact .nil
  | d :: ds, _, c, h => by
    have c' : d.canLay0 = true ∧ PyData.canLayAll0 ds = true := by simpa [PyData.canLayAll0] using c
    cases h with
    | cons h1 h2 => exact .cons (go d _ c'.1 h1) (goAll ds _ c'.2 h2)
theorem ob_eq {d e : PyData} (hu : X.A.units + 64 < cLine) (hd : SeqAt.shaped d = true) (he : SeqAt.shaped e = true) : OpB X (compareOp .Eq) (IsD X.K d) (IsD X.K e) (dB X.K (PyData.eqv d e)) :=
  opb_pure (op_eqD hu) fun Z H x y Q zh p1 p2 q => ⟨d, e, Dp_of_Rp zh d x (SeqAt.canLay_of_shaped hd) p1, Dp_of_Rp zh e y (SeqAt.canLay_of_shaped he) p2, hd, he, q _ (.bl _)⟩
theorem ob_ne {d e : PyData} (hu : X.A.units + 64 < cLine) (hd : SeqAt.shaped d = true) (he : SeqAt.shaped e = true) : OpB X (compareOp .NotEq) (IsD X.K d) (IsD X.K e) (dB X.K (!PyData.eqv d e)) :=
  opb_pure (op_neD hu) fun Z H x y Q zh p1 p2 q => ⟨d, e, Dp_of_Rp zh d x (SeqAt.canLay_of_shaped hd) p1, Dp_of_Rp zh e y (SeqAt.canLay_of_shaped he) p2, hd, he, q _ (.bl _)⟩
/-- == of two texts, of two numbers -/
theorem ob_eqS {x y : Str} : OpB X (compareOp .Eq) (dS X.K x) (dS X.K y) (dB X.K (decide (x = y))) :=
  opb_pure op_eq fun Z H u v Q zh p1 p2 q => by
    cases p1; cases p2
    refine ⟨rfl, q _ ?_⟩
    have e : decide (V.str x = V.str y) = decide (x = y) := by
      by_cases h : x = y
      · subst h; simp
      · simp [h]
    rw [e]
    exact .bl _
theorem ob_neS {x y : Str} : OpB X (compareOp .NotEq) (dS X.K x) (dS X.K y) (dB X.K (!decide (x = y))) :=
  opb_pure op_ne fun Z H u v Q zh p1 p2 q => by
    cases p1; cases p2
    refine ⟨rfl, q _ ?_⟩
    have e : decide (V.str x = V.str y) = decide (x = y) := by
      by_cases h : x = y
      · subst h; simp
      · simp [h]
    rw [e]
    exact .bl _
theorem ob_eqI {x y : Int} : OpB X (compareOp .Eq) (dI X.K x) (dI X.K y) (dB X.K (decide (x = y))) :=
  opb_pure op_eq fun Z H u v Q zh p1 p2 q => by
    cases p1; cases p2
    refine ⟨rfl, q _ ?_⟩
    have e : decide (V.int x = V.int y) = decide (x = y) := by
      by_cases h : x = y
      · subst h; simp
      · simp [h]
    rw [e]
    exact .bl _
theorem ob_neI {x y : Int} : OpB X (compareOp .NotEq) (dI X.K x) (dI X.K y) (dB X.K (!decide (x = y))) :=
  opb_pure op_ne fun Z H u v Q zh p1 p2 q => by
    cases p1; cases p2
    refine ⟨rfl, q _ ?_⟩
    have e : decide (V.int x = V.int y) = decide (x = y) := by
      by_cases h : x = y
      · subst h; simp
      · simp [h]
    rw [e]
    exact .bl _
/-- list + list -/
theorem ob_addL {xs ys : List PyData} (h : xs.length + ys.length ≤ sizeLine) : OpB X (binaryOp .Add) (dL X.K xs) (dL X.K ys) (dL X.K (xs ++ ys)) :=
  OpR.imp op_cat fun x y H Q ⟨Z, zh, p1, p2, q⟩ => by
    obtain ⟨l, us, rfl, h1, r1⟩ := dL_p p1
    obtain ⟨m, ws, rfl, h2, r2⟩ := dL_p p2
    refine ⟨l, m, us, ws, rfl, rfl, zh _ _ h1, zh _ _ h2, by rw [r1.length, r2.length]; exact h, fun p hp => ?_⟩
    have g := Gr.new (o := .lst (us ++ ws)) zh hp
    exact q _ _ _ g (.lst upd_same ((RpA.mono g.z _ _ r1).append (RpA.mono g.z _ _ r2)))
/-- item in list, tuple: flat items -/
def flatD : PyData → Bool
  | .none => true
  | .bool _ => true
  | .int _ => true
  | .str _ => true
  | _ => false
theorem flatV_of {Z : Hp} {v : V} {d : PyData} (h : Rp K Z v d) (f : flatD d = true) : flatV v = true := by
  cases h <;> first | rfl | exact absurd f Bool.false_ne_true
theorem flatVs_of {Z : Hp} : ∀ {vs : List V} {ds : List PyData}, RpA K Z vs ds → ds.all flatD = true → vs.all flatV = true
  | _, _, .nil, _ => rfl
  | _, _, .cons r t, f => by
    rw [List.all_cons, Bool.and_eq_true] at f
    rw [List.all_cons, flatV_of r f.1, flatVs_of t f.2] <;> rfl
theorem eqV_eqv {Z : Hp} {v u : V} {d e : PyData} (h : Rp K Z v d) (h' : Rp K Z u e) (f : flatD d = true) (f' : flatD e = true) : eqV v u = PyData.eqv d e := by
  cases h <;> first
    | (cases h' <;> first | rfl | exact absurd f' Bool.false_ne_true)
    | exact absurd f Bool.false_ne_true
def inD (x : PyData) (xs : List PyData) : Bool := xs.any fun y => PyData.eqv y x
theorem inV_inD {Z : Hp} {v : V} {d : PyData} (h : Rp K Z v d) (f : flatD d = true) : ∀ {vs : List V} {ds : List PyData}, RpA K Z vs ds → ds.all flatD = true → inV v vs = inD d ds
  | _, _, .nil, _ => rfl
  | _, _, .cons r t, f' => by
    rw [List.all_cons, Bool.and_eq_true] at f'
    unfold inV inD
    rw [List.any_cons, List.any_cons, eqV_eqv r h f'.1 f]
    have := inV_inD h f t f'.2
    unfold inV inD at this
    rw [this]
theorem ob_inL {d : PyData} {ds : List PyData} (f : flatD d = true) (fs : ds.all flatD = true) : OpB X (compareOp .In) (IsD X.K d) (dL X.K ds) (dB X.K (inD d ds)) :=
  opb_pure op_in_seq fun Z H x y Q zh p1 p2 q => by
    obtain ⟨l, us, rfl, h1, r1⟩ := dL_p p2
    refine ⟨l, us, rfl, .inl (SqL.of (zh _ _ h1)), flatV_of p1 f, flatVs_of r1 fs, q _ ?_⟩
    rw [if_neg Bool.false_ne_true, inV_inD p1 f r1 fs]
    exact .bl _
theorem ob_notInL {d : PyData} {ds : List PyData} (f : flatD d = true) (fs : ds.all flatD = true) : OpB X (compareOp .NotIn) (IsD X.K d) (dL X.K ds) (dB X.K (!inD d ds)) :=
  opb_pure op_notIn_seq fun Z H x y Q zh p1 p2 q => by
    obtain ⟨l, us, rfl, h1, r1⟩ := dL_p p2
    refine ⟨l, us, rfl, .inl (SqL.of (zh _ _ h1)), flatV_of p1 f, flatVs_of r1 fs, q _ ?_⟩
    rw [if_pos rfl, inV_inD p1 f r1 fs]
    exact .bl _
theorem ob_inU {d : PyData} {ds : List PyData} (f : flatD d = true) (fs : ds.all flatD = true) : OpB X (compareOp .In) (IsD X.K d) (dU X.K ds) (dB X.K (inD d ds)) :=
  opb_pure op_in_seq fun Z H x y Q zh p1 p2 q => by
    obtain ⟨l, us, rfl, h1, r1⟩ := dU_p p2
    refine ⟨l, us, rfl, .inr (SqT.up zh h1), flatV_of p1 f, flatVs_of r1 fs, q _ ?_⟩
    rw [if_neg Bool.false_ne_true, inV_inD p1 f r1 fs]
    exact .bl _
theorem ob_notInU {d : PyData} {ds : List PyData} (f : flatD d = true) (fs : ds.all flatD = true) : OpB X (compareOp .NotIn) (IsD X.K d) (dU X.K ds) (dB X.K (!inD d ds)) :=
  opb_pure op_notIn_seq fun Z H x y Q zh p1 p2 q => by
    obtain ⟨l, us, rfl, h1, r1⟩ := dU_p p2
    refine ⟨l, us, rfl, .inr (SqT.up zh h1), flatV_of p1 f, flatVs_of r1 fs, q _ ?_⟩
    rw [if_pos rfl, inV_inD p1 f r1 fs]
    exact .bl _

/-! ### argument lists, displays -/
theorem ba_nil : BA X Γ [] [] Γ := PA.imp pa_nil fun σ H Q ⟨Z, F, E, q⟩ => q [] Z F H E Stp.refl .nil
theorem paired_mono {Z Z' : Hp} (e : Same Z Z') : ∀ {Ps : List SV} {vs : List V}, Paired (fun (P : SV) v => P.p Z v) Ps vs → Paired (fun (P : SV) v => P.p Z' v) Ps vs
  | _, _, .nil => .nil
  | _, _, .cons r t => .cons (SV.mono _ e r) (paired_mono e t)
theorem ba_cons {es : List Expr} {Ps : List SV} (ha : BE X Γ e P Γ1) (hr : BA X Γ1 es Ps Γ2) (hs : starEach (e :: es) X.env = (false, eval e X.env) :: starEach es X.env := by rfl) : BA X Γ (e :: es) (P :: Ps) Γ2 :=
  PA.imp (pa_cons ha hr hs) fun σ H Q ⟨Z, F, E, q⟩ => ⟨Z, F, E, fun v1 Z1 F1 H1 E1 S1 p1 => ⟨Z1, F1, E1, fun vs Z2 F2 H2 E2 S2 ps => q _ Z2 F2 H2 E2 (S1.trans S2) (.cons (P.mono S2.z p1) ps)⟩⟩
theorem rpA_of {Z : Hp} : ∀ {ds : List PyData} {vs : List V}, Paired (fun (P : SV) v => P.p Z v) (ds.map (IsD K)) vs → RpA K Z vs ds
  | [], _, h => by cases h; exact .nil
  | d :: ds, _, h => by
    cases h with
    | cons r t => exact .cons r (rpA_of t)
theorem be_lst {es : List Expr} {ds : List PyData} {Ps : List SV} (h : BA X Γ es Ps Γ') (hP : Ps = ds.map (IsD X.K)) (hl : ds.length ≤ sizeLine := by decide) : BE X Γ (.List es pos) (dL X.K ds) Γ' :=
  PE.imp (pe_lst h) fun σ H Q ⟨Z, F, E, q⟩ => ⟨Z, F, E, fun vs Z1 F1 H1 E1 S1 ps => by
    subst hP
    have r := rpA_of ps
    refine ⟨by rw [r.length]; exact hl, fun p hp => ?_⟩
    have g := Gr.new (o := .lst vs) E1.zh hp
    exact q _ _ F1 _ (E1.grow g) (S1.trans g.stp) (.lst upd_same (RpA.mono g.z _ _ r))⟩
theorem be_tup {es : List Expr} {ds : List PyData} {Ps : List SV} {x1} (h : BA X Γ es Ps Γ') (hP : Ps = ds.map (IsD X.K)) (hl : ds.length ≤ sizeLine := by decide) : BE X Γ (.Tuple es x1 pos) (dU X.K ds) Γ' :=
  PE.imp (pe_tup h) fun σ H Q ⟨Z, F, E, q⟩ => ⟨Z, F, E, fun vs Z1 F1 H1 E1 S1 ps => by
    subst hP
    have r := rpA_of ps
    refine ⟨by rw [r.length]; exact hl, fun p hp => ?_⟩
    have g := Gr.new (o := .tup vs) E1.zh hp
    exact q _ _ F1 _ (E1.grow g) (S1.trans g.stp) (.tup (SqT.of upd_same) (RpA.mono g.z _ _ r))⟩
theorem be_if {k : Bool} {t : Expr} (ht : BT X Γ t (· = k) Γ1) (ha : k = true → BE X Γ1 a P Γ2) (hb : k = false → BE X Γ1 b P Γ2) : BE X Γ (.IfExp t a b pos) P Γ2 := by
  cases k with
  | true =>
    refine ⟨fun pins s σ H Q I ⟨Z, F, E, q⟩ => ?_⟩
    refine wpAny_IfExp (thn (PT.run ht pins s σ H _ I ⟨Z, F, E, fun v Z' F' H' E' S p => (⟨p, Z', F', E', S⟩ : (fun v H' => v = true ∧ ∃ Z' F', En Γ1 Z' F' σ H' ∧ Stp Z F H Z' F' H') v H')⟩) fun d s1 ⟨H1, I1, e1, Z1, F1, E1, S1⟩ => ?_)
    subst e1
    exact PE.run (ha rfl) pins s1 σ H1 Q I1 ⟨Z1, F1, E1, fun v Z' F' H' E' S p => q v Z' F' H' E' (S1.trans S) p⟩
  | false =>
    refine ⟨fun pins s σ H Q I ⟨Z, F, E, q⟩ => ?_⟩
    refine wpAny_IfExp (thn (PT.run ht pins s σ H _ I ⟨Z, F, E, fun v Z' F' H' E' S p => (⟨p, Z', F', E', S⟩ : (fun v H' => v = false ∧ ∃ Z' F', En Γ1 Z' F' σ H' ∧ Stp Z F H Z' F' H') v H')⟩) fun d s1 ⟨H1, I1, e1, Z1, F1, E1, S1⟩ => ?_)
    subst e1
    exact PE.run (hb rfl) pins s1 σ H1 Q I1 ⟨Z1, F1, E1, fun v Z' F' H' E' S p => q v Z' F' H' E' (S1.trans S) p⟩

/-! ### a[i], a[i:j] -/
theorem be_ixL {ds : List PyData} {i : Int} {d : PyData} (ha : BE X Γ a (dL X.K ds) Γ1) (hb : BE X Γ1 b (dI X.K i) Γ2) (hi : atI ds i = some d) (hs : PlainIx b := by exact fun _ _ => rfl) : BE X Γ (.Subscript a b pos) (IsD X.K d) Γ2 :=
  PE.imp (pe_ix ix_list ha hb hs) fun σ H Q ⟨Z, F, E, q⟩ => ⟨Z, F, E, fun v1 Z1 F1 H1 E1 S1 p1 => ⟨Z1, F1, E1, fun v2 Z2 F2 H2 E2 S2 p2 => by
    obtain ⟨l, us, rfl, h1, r1⟩ := dL_p ((dL X.K ds).mono S2.z p1)
    obtain rfl := dI_p p2
    have hl := r1.length
    unfold atI at hi
    cases e : ixN ds.length i with
    | none => rw [e] at hi; cases hi
    | some j =>
      rw [e, Option.bind_some] at hi
      obtain ⟨u, hu, ru⟩ := r1.get hi
      exact ⟨l, us, i, u, rfl, rfl, SqL.of (E2.zh _ _ h1), by unfold atI; rw [hl, e, Option.bind_some]; exact hu, q _ Z2 F2 H2 E2 (S1.trans S2) ru⟩⟩⟩
theorem be_ixU {ds : List PyData} {i : Int} {d : PyData} (ha : BE X Γ a (dU X.K ds) Γ1) (hb : BE X Γ1 b (dI X.K i) Γ2) (hi : atI ds i = some d) (hs : PlainIx b := by exact fun _ _ => rfl) : BE X Γ (.Subscript a b pos) (IsD X.K d) Γ2 :=
  PE.imp (pe_ix ix_tup ha hb hs) fun σ H Q ⟨Z, F, E, q⟩ => ⟨Z, F, E, fun v1 Z1 F1 H1 E1 S1 p1 => ⟨Z1, F1, E1, fun v2 Z2 F2 H2 E2 S2 p2 => by
    obtain ⟨l, us, rfl, h1, r1⟩ := dU_p ((dU X.K ds).mono S2.z p1)
    obtain rfl := dI_p p2
    have hl := r1.length
    unfold atI at hi
    cases e : ixN ds.length i with
    | none => rw [e] at hi; cases hi
    | some j =>
      rw [e, Option.bind_some] at hi
      obtain ⟨u, hu, ru⟩ := r1.get hi
      exact ⟨l, us, i, u, rfl, rfl, SqT.up E2.zh h1, by unfold atI; rw [hl, e, Option.bind_some]; exact hu, q _ Z2 F2 H2 E2 (S1.trans S2) ru⟩⟩⟩
theorem be_ixS {z : Str} {i : Int} {c : Nat} (ha : BE X Γ a (dS X.K z) Γ1) (hb : BE X Γ1 b (dI X.K i) Γ2) (hz : z.length ≤ sizeLine) (hi : atI z.cps.toList i = some c) (hs : PlainIx b := by exact fun _ _ => rfl) : BE X Γ (.Subscript a b pos) (dS X.K ⟨#[c]⟩) Γ2 :=
  PE.imp (pe_ix ix_str ha hb hs) fun σ H Q ⟨Z, F, E, q⟩ => ⟨Z, F, E, fun v1 Z1 F1 H1 E1 S1 p1 => ⟨Z1, F1, E1, fun v2 Z2 F2 H2 E2 S2 p2 => by
    obtain rfl := dS_p p1
    obtain rfl := dI_p p2
    exact ⟨z, i, c, rfl, rfl, hz, hi, q _ Z2 F2 H2 E2 (S1.trans S2) (.str _)⟩⟩⟩
end
end B

/-! New lists, statements, loops, comprehensions. -/
namespace B
open PySem PySem.Spec PyProof.Rows L2
section
variable {X : Cx} {Γ Γ' Γ1 Γ2 Γ3 : List Sl} {P P' P1 P2 P3 : SV} {a b c e : Expr} {pos : Pos} {K : PySem.W.Frag} {R : Post}

/-! ### less is known -/
/-- a value that is known, seen as one's own with nothing in it -/
def ovS (P : SV) : OV := ⟨fun v F H Z => (∀ a, ¬ F a) ∧ P.p Z v, fun ⟨n, p⟩ z k => ⟨n, P.mono z p⟩⟩
inductive WkS : Sl → Sl → Prop
  | un {s : Sl} : WkS s .un
  | refl {s : Sl} : WkS s s
  | le {P P' : SV} : P.le P' → WkS (.fz P) (.fz P')
  | leO {O O' : OV} : O.le O' → WkS (.own O) (.own O')
  | ofO {O : OV} {P : SV} : (∀ v F H Z, O.p v F H Z → P.p Z v) → WkS (.own O) (.fz P)
abbrev Wk (Γ Γ' : List Sl) : Prop := Paired WkS Γ Γ'
theorem WkS.ofS {P : SV} : WkS (.own (ovS P)) (.fz P) := .ofO fun _ _ _ _ p => p.2
theorem WkS.trans {a b c : Sl} (h : WkS a b) (h' : WkS b c) : WkS a c := by
  cases h with
  | un => cases h' <;> exact .un
  | refl => exact h'
  | le k =>
    cases h' with
    | un => exact .un
    | refl => exact .le k
    | le k' => exact .le fun Z v p => k' Z v (k Z v p)
  | leO k =>
    cases h' with
    | un => exact .un
    | refl => exact .leO k
    | leO k' => exact .leO fun v F H Z p => k' v F H Z (k v F H Z p)
    | ofO k' => exact .ofO fun v F H Z p => k' v F H Z (k v F H Z p)
  | ofO k =>
    cases h' with
    | un => exact .un
    | refl => exact .ofO k
    | le k' => exact .ofO fun v F H Z p => k' Z v (k v F H Z p)
theorem Wk.trans : ∀ {a b c : List Sl}, Wk a b → Wk b c → Wk a c
  | _, _, _, .nil, .nil => .nil
  | _, _, _, .cons r t, .cons r' t' => .cons (r.trans r') (Wk.trans t t')
theorem Wk.len : ∀ {Γ Γ' : List Sl}, Wk Γ Γ' → Γ.length = Γ'.length
  | _, _, .nil => rfl
  | _, _, .cons _ t => by simp [Wk.len t]
theorem Wk.get : ∀ {Γ Γ' : List Sl} {i : Nat} {s : Sl}, Wk Γ Γ' → Γ'[i]? = some s → ∃ s0, Γ[i]? = some s0 ∧ WkS s0 s
  | _, _, _, _, .nil, e => by simp at e
  | _, _, 0, _, .cons r _, e => by simp at e; subst e; exact ⟨_, rfl, r⟩
  | _, _, i + 1, s, .cons _ t, e => by
    obtain ⟨u, h1, h2⟩ := Wk.get (i := i) (s := s) t (by simpa using e)
    exact ⟨u, by simpa using h1, h2⟩
theorem Wk.refl : ∀ (Γ : List Sl), Wk Γ Γ
  | [] => .nil
  | _ :: t => .cons .refl (Wk.refl t)
theorem En.wk {Z H : Hp} {F : Foot} {σ : L2.St} (E : En Γ Z F σ H) (w : Wk Γ Γ') : En Γ' Z F σ H := E.weaken w.len.symm fun i s' e => by
  obtain ⟨s0, h1, h2⟩ := w.get e
  cases h2 with
  | un => exact .inl rfl
  | refl => exact .inr (.inl h1)
  | le h => exact .inr (.inr (.inl ⟨_, _, h1, rfl, h⟩))
  | leO h => exact .inr (.inr (.inr (.inl ⟨_, _, h1, rfl, h⟩)))
  | ofO k => exact .inr (.inr (.inr (.inr ⟨_, _, h1, rfl, k⟩)))
theorem BE.wk (h : BE X Γ' e P Γ1) (w : Wk Γ Γ') : BE X Γ e P Γ1 := PE.imp h fun σ H Q ⟨Z, F, E, q⟩ => ⟨Z, F, E.wk w, q⟩
theorem BT.wk {β : Bool → Prop} (h : BT X Γ' e β Γ1) (w : Wk Γ Γ') : BT X Γ e β Γ1 := PT.imp h fun σ H Q ⟨Z, F, E, q⟩ => ⟨Z, F, E.wk w, q⟩
theorem BS.wk {st : Stmt} (h : BS X Γ' st R) (w : Wk Γ Γ') : BS X Γ st R := PS.imp h fun D σ H ⟨Z, F, E, q⟩ => ⟨Z, F, E.wk w, q⟩
theorem BSs.wk {st : List Stmt} (h : BSs X Γ' st R) (w : Wk Γ Γ') : BSs X Γ st R := PSs.imp h fun D σ H ⟨Z, F, E, q⟩ => ⟨Z, F, E.wk w, q⟩

/-! ### a new list, nobody's as yet -/
def BN (X : Cx) (Γ : List Sl) (e : Expr) (Ψ : List PyData → Prop) (Γ' : List Sl) : Prop := PE X e fun σ H Q => ∃ Z F, En Γ Z F σ H ∧ ∀ p xs ds Z' F' H', En Γ' Z' F' σ H' → Stp Z F H Z' F' H' → H p = none → H' p = some (.lst xs) → Z' p = none → (∀ j, ¬ F' j p) → RpA X.K Z' xs ds → Ψ ds → Q (.ref p) H'
theorem En.freeze {Z H : Hp} {F : Foot} {σ : L2.St} {p : Addr} {o : HO} (E : En Γ Z F σ H) (hp : H p = some o) (hz : Z p = none) (hf : ∀ j, ¬ F j p) : En Γ (upd Z p o) F σ H := by
  have zz : Same Z (upd Z p o) := fun b u e => by rw [upd_ne (ne_of_none e hz)]; exact e
  refine ⟨fun b u e => ?_, E.fsep, fun i b h => ?_, E.fsome, fun i s h => (E.slots i s h).grow zz fun _ _ => rfl, E.len⟩
  · by_cases hb : b = p
    · subst hb
      rw [upd_same] at e
      rw [hp]
      exact e
    · rw [upd_ne hb] at e
      exact E.zh b u e
  · rw [upd_ne fun z => hf i (by rw [← z]; exact h)]
    exact E.fz i b h
theorem Stp.freeze {Z H Z1 H1 : Hp} {F F1 : Foot} {p : Addr} {o : HO} (S : Stp Z F H Z1 F1 H1) (hp : H p = none) (hz : Z1 p = none) : Stp Z F H (upd Z1 p o) F1 H1 :=
  ⟨fun b u e => by rw [upd_ne (ne_of_none (S.z b u e) hz)]; exact S.z b u e, S.f, fun b u e => by
    by_cases hb : b = p
    · subst hb
      exact .inr (.inl hp)
    · rw [upd_ne hb] at e
      exact S.zn b u e, S.fr, S.al⟩
theorem be_new {Ψ : List PyData → Prop} (h : BN X Γ e Ψ Γ') : BE X Γ e (.ex Ψ (dL X.K)) Γ' := PE.imp h fun σ H Q ⟨Z, F, E, q⟩ => ⟨Z, F, E, fun p xs ds Z' F' H' E' S hp hp' hz hf r ψ => by
  have zz : Same Z' (upd Z' p (.lst xs)) := fun b u e => by rw [upd_ne (ne_of_none e hz)]; exact e
  exact q _ _ F' H' (E'.freeze hp' hz hf) (S.freeze hp hz) ⟨ds, ψ, .lst upd_same (RpA.mono zz _ _ r)⟩⟩
theorem be_newD {ds : List PyData} (h : BN X Γ e (· = ds) Γ') : BE X Γ e (dL X.K ds) Γ' := (be_new h).le fun Z v ⟨d, h1, h2⟩ => by
  have h1' : d = ds := h1
  rw [← h1']
  exact h2
theorem BN.le {Ψ Ψ' : List PyData → Prop} (h : BN X Γ e Ψ Γ') (k : ∀ ds, Ψ ds → Ψ' ds) : BN X Γ e Ψ' Γ' := PE.imp h fun σ H Q ⟨Z, F, E, q⟩ => ⟨Z, F, E, fun p xs ds Z' F' H' E' S hp hp' hz hf r ψ => q p xs ds Z' F' H' E' S hp hp' hz hf r (k _ ψ)⟩
/-- from a rule that lays a new list at any free place -/
theorem bn_of {t : TE} {Ψ : List PyData → Prop} (h : PE X e t) (k : ∀ σ H Q, (∃ Z F, En Γ Z F σ H ∧ ∀ xs ds Z1 F1 H1, En Γ' Z1 F1 σ H1 → Stp Z F H Z1 F1 H1 → RpA X.K Z1 xs ds → Ψ ds → ∀ p, H1 p = none → Q (.ref p) (upd H1 p (.lst xs))) → t σ H Q) : BN X Γ e Ψ Γ' :=
  PE.imp h fun σ H Q ⟨Z, F, E, q⟩ => k σ H Q ⟨Z, F, E, fun xs ds Z1 F1 H1 E1 S1 r ψ p hp => by
    have g := Gr.lost (o := .lst xs) E1.zh hp
    have h0 : H p = none := S1.back hp
    exact q p xs ds Z1 F1 _ (E1.grow g) (S1.trans g.stp) h0 upd_same (E1.zh.free hp) (fun j hj => by
      obtain ⟨o, ho⟩ := E1.fsome j p hj
      rw [hp] at ho
      cases ho) r ψ⟩
end
end B

/-! Statements, what is walked, loops, comprehensions. -/
namespace B
open PySem PySem.Spec PyProof.Rows L2
section
variable {X : Cx} {Γ Γ' Γ1 Γ2 Γ3 : List Sl} {P P' P1 P2 P3 : SV} {a b c e : Expr} {pos : Pos} {K : PySem.W.Frag} {R : Post} {st : Stmt} {rest : List Stmt}

/-! ### statements -/
theorem bss_nil (h : R.nx Γ) : BSs X Γ [] R := PSs.imp pss_nil fun D σ H ⟨Z, F, E, nx, _⟩ => nx _ Z F σ H h E Stp.refl
theorem bss_cons {M : List Sl → Prop} (h1 : BS X Γ st { R with nx := M }) (h2 : ∀ Γ', M Γ' → BSs X Γ' rest R) : BSs X Γ (st :: rest) R := by
  have h2' : PSs X rest (fun D σ H => ∃ Γ', M Γ' ∧ tS Γ' R D σ H) := ⟨fun pins s σ H D I ⟨Γ', m, q⟩ => PSs.run (h2 Γ' m) pins s σ H D I q⟩
  refine PSs.imp (pss_cons h1 h2') fun D σ H ⟨Z, F, E, nx, rt, bk, ct⟩ => ⟨Z, F, E, fun Γ' Z' F' σ' H' m E' S => ⟨Γ', m, Z', F', E', fun Γ2 Z2 F2 σ2 H2 m2 E2 S2 => nx Γ2 Z2 F2 σ2 H2 m2 E2 (S.trans S2), fun P Γ2 v Z2 F2 σ2 H2 m2 E2 S2 => rt P Γ2 v Z2 F2 σ2 H2 m2 E2 (S.trans S2),
    fun Γ2 Z2 F2 σ2 H2 m2 E2 S2 => bk Γ2 Z2 F2 σ2 H2 m2 E2 (S.trans S2), fun Γ2 Z2 F2 σ2 H2 m2 E2 S2 => ct Γ2 Z2 F2 σ2 H2 m2 E2 (S.trans S2)⟩, rt, bk, ct⟩
theorem bss_go (h1 : BS X Γ st { R with nx := fun Γ' => BSs X Γ' rest R }) : BSs X Γ (st :: rest) R := bss_cons h1 fun _ h => h
theorem bss_one (h1 : BS X Γ st R) : BSs X Γ [st] R := pss_one h1
theorem BS.imp {R' : Post} (h : BS X Γ st R) (nx : ∀ Γ', R.nx Γ' → R'.nx Γ') (rt : ∀ P Γ', R.rt P Γ' → R'.rt P Γ') (bk : ∀ Γ', R.bk Γ' → R'.bk Γ') (ct : ∀ Γ', R.ct Γ' → R'.ct Γ') : BS X Γ st R' :=
  PS.imp h fun D σ H ⟨Z, F, E, a, b, c, d⟩ => ⟨Z, F, E, fun Γ' Z' F' σ' H' m => a Γ' Z' F' σ' H' (nx _ m), fun P Γ' v Z' F' σ' H' m => b P Γ' v Z' F' σ' H' (rt _ _ m), fun Γ' Z' F' σ' H' m => c Γ' Z' F' σ' H' (bk _ m), fun Γ' Z' F' σ' H' m => d Γ' Z' F' σ' H' (ct _ m)⟩
theorem BSs.imp {R' : Post} {st : List Stmt} (h : BSs X Γ st R) (nx : ∀ Γ', R.nx Γ' → R'.nx Γ') (rt : ∀ P Γ', R.rt P Γ' → R'.rt P Γ') (bk : ∀ Γ', R.bk Γ' → R'.bk Γ') (ct : ∀ Γ', R.ct Γ' → R'.ct Γ') : BSs X Γ st R' :=
  PSs.imp h fun D σ H ⟨Z, F, E, a, b, c, d⟩ => ⟨Z, F, E, fun Γ' Z' F' σ' H' m => a Γ' Z' F' σ' H' (nx _ m), fun P Γ' v Z' F' σ' H' m => b P Γ' v Z' F' σ' H' (rt _ _ m), fun Γ' Z' F' σ' H' m => c Γ' Z' F' σ' H' (bk _ m), fun Γ' Z' F' σ' H' m => d Γ' Z' F' σ' H' (ct _ m)⟩
theorem bs_pass (h : R.nx Γ) : BS X Γ (.Pass pos) R := PS.imp ps_pass fun D σ H ⟨Z, F, E, nx, _⟩ => nx _ Z F σ H h E Stp.refl
theorem bs_break (h : R.bk Γ) : BS X Γ (.Break pos) R := PS.imp ps_break fun D σ H ⟨Z, F, E, _, _, bk, _⟩ => bk _ Z F σ H h E Stp.refl
theorem bs_continue (h : R.ct Γ) : BS X Γ (.Continue pos) R := PS.imp ps_continue fun D σ H ⟨Z, F, E, _, _, _, ct⟩ => ct _ Z F σ H h E Stp.refl
theorem bs_expr (he : BE X Γ e P Γ1) (h : R.nx Γ1) (hs : swapsWith e none pos.line X.env = pure false := by rfl) : BS X Γ (.Expr e pos) R :=
  PS.imp (ps_expr he hs) fun D σ H ⟨Z, F, E, nx, _⟩ => ⟨Z, F, E, fun v Z' F' H' E' S p => nx _ Z' F' σ H' h E' S⟩
theorem bs_ret (he : BE X Γ e P Γ1) (h : R.rt (.fz P) Γ1) : BS X Γ (.Return (some e) pos) R :=
  PS.imp (ps_ret he) fun D σ H ⟨Z, F, E, _, rt, _⟩ => ⟨Z, F, E, fun v Z' F' H' E' S p => rt _ _ v Z' F' σ H' h E' S p⟩
theorem bs_retN (h : R.rt (.fz (dN X.K)) Γ) : BS X Γ (.Return none pos) R :=
  PS.imp ps_retN fun D σ H ⟨Z, F, E, _, rt, _⟩ => rt _ _ .non Z F σ H h E Stp.refl .non
theorem bs_ifN {β : Bool → Prop} {t u : List Stmt} (hc : BT X Γ c β Γ1) (ha : β true → BSs X Γ1 t R) (hb : β false → BSs X Γ1 u R) : BS X Γ (.If c t u pos) R := by
  refine ⟨fun pins s σ H D I ⟨Z, F, E, nx, rt, bk, ct⟩ => ?_⟩
  refine wpAny_If (thn (PT.run hc pins s σ H _ I ⟨Z, F, E, fun v Z' F' H' E' S p => (⟨p, Z', F', E', S⟩ : (fun v H' => β v ∧ ∃ Z' F', En Γ1 Z' F' σ H' ∧ Stp Z F H Z' F' H') v H')⟩) fun d s1 ⟨H1, I1, e1, Z1, F1, E1, S1⟩ => ?_)
  have q : tS Γ1 R D σ H1 := ⟨Z1, F1, E1, fun Γ2 Z2 F2 σ2 H2 m2 E2 S2 => nx Γ2 Z2 F2 σ2 H2 m2 E2 (S1.trans S2), fun P Γ2 v Z2 F2 σ2 H2 m2 E2 S2 => rt P Γ2 v Z2 F2 σ2 H2 m2 E2 (S1.trans S2),
    fun Γ2 Z2 F2 σ2 H2 m2 E2 S2 => bk Γ2 Z2 F2 σ2 H2 m2 E2 (S1.trans S2), fun Γ2 Z2 F2 σ2 H2 m2 E2 S2 => ct Γ2 Z2 F2 σ2 H2 m2 E2 (S1.trans S2)⟩
  cases d with
  | true => exact PSs.run (ha e1) pins s1 σ H1 D I1 q
  | false => exact PSs.run (hb e1) pins s1 σ H1 D I1 q
theorem bs_if {k : Bool} {t u : List Stmt} (hc : BT X Γ c (· = k) Γ1) (ha : k = true → BSs X Γ1 t R) (hb : k = false → BSs X Γ1 u R) : BS X Γ (.If c t u pos) R := bs_ifN hc (fun h => ha h.symm) fun h => hb h.symm
/-- a way that cannot be -/
theorem bs_never (h : False) : BS X Γ st R := h.elim
theorem bss_never {sts : List Stmt} (h : False) : BSs X Γ sts R := h.elim
theorem bs_set {x : Str} {pos' : Pos} (i : Nat) (he : BE X Γ e P Γ1) (h : R.nx (Γ1.set i (.fz P))) (hN : X.N.Nodup) (hi : X.N[i]? = some x) (hx : Loc X.env.scope x)
    (hs : swapsWith e (some (.Name x pos')) pos.line X.env = pure false := by rfl) (hf : X.fn x = true ∨ X.env.scope.names.lookup x = some .local := by first | exact .inl rfl | exact .inr rfl | assumption) : BS X Γ (.Assign [.Name x pos'] e pos) R :=
  PS.imp (ps_set hN hi hx he hs hf) fun D σ H ⟨Z, F, E, nx, _⟩ => ⟨Z, F, E, fun v Z' F' H' E' S p => nx _ Z' F' _ H' h (E'.set i p) S⟩
theorem bs_setX {x : Str} {pos' : Pos} {ι : Type} {Φ : ι → Prop} {Pf : ι → SV} (i : Nat) (he : BE X Γ e (.ex Φ Pf) Γ1) (h : ∀ k, Φ k → R.nx (Γ1.set i (.fz (Pf k)))) (hN : X.N.Nodup) (hi : X.N[i]? = some x) (hx : Loc X.env.scope x)
    (hs : swapsWith e (some (.Name x pos')) pos.line X.env = pure false := by rfl) (hf : X.fn x = true ∨ X.env.scope.names.lookup x = some .local := by first | exact .inl rfl | exact .inr rfl | assumption) : BS X Γ (.Assign [.Name x pos'] e pos) R :=
  PS.imp (ps_set hN hi hx he hs hf) fun D σ H ⟨Z, F, E, nx, _⟩ => ⟨Z, F, E, fun v Z' F' H' E' S ⟨k, φ, p⟩ => nx _ Z' F' _ H' (h k φ) (E'.set i p) S⟩
/-- the def's own list, at a -/
def ownL (K : PySem.W.Frag) (p : Addr) (ds : List PyData) : OV := ⟨fun v F H Z => v = .ref p ∧ F p ∧ ∃ xs, H p = some (.lst xs) ∧ RpA K Z xs ds, fun ⟨e, f, xs, h, r⟩ z k => ⟨e, f, xs, by rw [k p f]; exact h, RpA.mono z _ _ r⟩⟩
/-- something new, nobody's as yet -/
def BO (X : Cx) (Γ : List Sl) (e : Expr) {ρ : Type} (Ψ : ρ → Prop) (O : ρ → OV) (Γ' : List Sl) : Prop := PE X e fun σ H Q => ∃ Z F, En Γ Z F σ H ∧
  ∀ r v (G : Addr → Prop) Z' F' H', En Γ' Z' F' σ H' → Stp Z F H Z' F' H' → Ψ r → (O r).p v G H' Z' → (∀ a, G a → Z' a = none ∧ ((∃ j, F j a) ∨ H a = none) ∧ (∃ o, H' a = some o) ∧ ∀ j, ¬ F' j a) → Q v H'
theorem be_of_bo {ρ : Type} {Ψ : ρ → Prop} {Pf : ρ → SV} (h : BO X Γ e Ψ (fun r => ovS (Pf r)) Γ') : BE X Γ e (.ex Ψ Pf) Γ' :=
  PE.imp h fun σ H Q ⟨Z, F, E, q⟩ => ⟨Z, F, E, fun r v G Z' F' H' E' S ψ o g => q v Z' F' H' E' S ⟨r, ψ, o.2⟩⟩
theorem bo_of_bn {Ψ : List PyData → Prop} (h : BN X Γ e Ψ Γ') : BO X Γ e (fun r : Addr × List PyData => Ψ r.2) (fun r => ownL X.K r.1 r.2) Γ' :=
  PE.imp h fun σ H Q ⟨Z, F, E, q⟩ => ⟨Z, F, E, fun p xs ds Z' F' H' E' S hp hp' hz hn r ψ => q (p, ds) (.ref p) (· = p) Z' F' H' E' S ψ ⟨rfl, rfl, xs, hp', r⟩ fun a e => by
    rw [e]
    exact ⟨hz, .inr hp, ⟨_, hp'⟩, hn⟩⟩
theorem bs_setO {x : Str} {pos' : Pos} {ρ : Type} {Ψ : ρ → Prop} {O : ρ → OV} (i : Nat) (he : BO X Γ e Ψ O Γ1) (h : ∀ r, Ψ r → R.nx (Γ1.set i (.own (O r)))) (hN : X.N.Nodup) (hi : X.N[i]? = some x) (hx : Loc X.env.scope x)
    (hs : swapsWith e (some (.Name x pos')) pos.line X.env = pure false := by rfl) (hf : X.fn x = true ∨ X.env.scope.names.lookup x = some .local := by first | exact .inl rfl | exact .inr rfl | assumption) : BS X Γ (.Assign [.Name x pos'] e pos) R :=
  PS.imp (ps_set hN hi hx he hs hf) fun D σ H ⟨Z, F, E, nx, _⟩ => ⟨Z, F, E, fun r v G Z' F' H' E' S ψ o g =>
    nx _ Z' _ _ H' (h r ψ) (E'.setOwn i o (fun a ha => (g a ha).1) (fun a ha => (g a ha).2.2.1) fun j a _ ha => (g a ha).2.2.2 j) (S.setOwn fun a ha => (g a ha).2.1)⟩
theorem bs_setN {x : Str} {pos' : Pos} {Ψ : List PyData → Prop} (i : Nat) (he : BN X Γ e Ψ Γ1) (h : ∀ p ds, Ψ ds → R.nx (Γ1.set i (.own (ownL X.K p ds)))) (hN : X.N.Nodup) (hi : X.N[i]? = some x) (hx : Loc X.env.scope x)
    (hs : swapsWith e (some (.Name x pos')) pos.line X.env = pure false := by rfl) (hf : X.fn x = true ∨ X.env.scope.names.lookup x = some .local := by first | exact .inl rfl | exact .inr rfl | assumption) : BS X Γ (.Assign [.Name x pos'] e pos) R :=
  bs_setO i (bo_of_bn he) (fun r ψ => h r.1 r.2 ψ) hN hi hx hs hf
theorem bs_aug {x : Str} {pos' : Pos} {op : Operator} (i : Nat) (hΓ : Γ[i]? = some (.fz P1)) (he : BE X Γ e P2 Γ1) (ho : OpB X (inplaceOp op) P1 P2 P) (h : R.nx (Γ1.set i (.fz P))) (hN : X.N.Nodup) (hi : X.N[i]? = some x) (hx : Loc X.env.scope x)
    (hf : X.fn x = true ∨ X.env.scope.names.lookup x = some .local := by first | exact .inl rfl | exact .inr rfl | assumption) : BS X Γ (.AugAssign (.Name x pos') op e pos) R :=
  PS.imp (ps_aug (ti := rB P1 P2 P) hN hi hx he ho hf) fun D σ H ⟨Z, F, E, nx, _⟩ => by
    obtain ⟨v, e1, p1⟩ := E.slots i _ hΓ
    exact ⟨v, e1, Z, F, E, fun v2 Z' F' H' E' S p2 => ⟨Z', E'.zh, P1.mono S.z p1, p2, fun w Z2 H2 g p => nx _ Z2 F' _ H2 h ((E'.grow g).set i p) (S.trans g.stp)⟩⟩
/-- x.append(e) of the def's own list -/
theorem be_own {x : Str} (i : Nat) {O : OV} (hΓ : Γ[i]? = some (.own O)) (hN : X.N[i]? = some x) (hv : Vis X.env.scope x) (hd : (x == ("__debug__" : Str)) = false := by decide) (hcd : (x == ("__classdict__" : Str)) = false := by decide) :
    PE X (.Name x pos) (fun σ H Q => ∃ Z F, En Γ Z F σ H ∧ ∀ v, σ[i]? = some (some v) → O.p v (F i) H Z → Q v H) :=
  PE.imp (pe_var hN hv hd hcd) fun σ H Q ⟨Z, F, E, q⟩ => by
    obtain ⟨v, e, p⟩ := E.slots i _ hΓ
    exact ⟨v, e, q v e p⟩
theorem bs_append {x : Str} {p1 p2 p3 : Pos} {q : Addr} {ds : List PyData} {d : PyData} (i : Nat) (hΓ : Γ[i]? = some (.own (ownL X.K q ds))) (he : BE X Γ e (IsD X.K d) Γ1) (hΓ1 : Γ1[i]? = some (.own (ownL X.K q ds))) (hl : ds.length < sizeLine)
    (h : R.nx (Γ1.set i (.own (ownL X.K q (ds ++ [d]))))) (hN : X.N[i]? = some x) (hv : Vis X.env.scope x) (hd : (x == ("__debug__" : Str)) = false := by decide) (hcd : (x == ("__classdict__" : Str)) = false := by decide)
    (hbm : ∀ (t : TE) (t2 : TA), PE X (.Name x p1) t → PA X [e] t2 → PE X (.Call (.Attribute (.Name x p1) "append" p2) [e] [] p3) (tBM X.K "list" rAppend t t2) := by
      exact fun _ _ h1 h2 => pe_bm PySem.F.plainAttrs_list PySem.F.slot_list_append PySem.F.type_list_append mt_append h1 h2)
    (hs : swapsWith (.Call (.Attribute (.Name x p1) "append" p2) [e] [] p3) none pos.line X.env = pure false := by rfl) (hst : starEach [e] X.env = (false, eval e X.env) :: starEach [] X.env := by rfl) :
    BS X Γ (.Expr (.Call (.Attribute (.Name x p1) "append" p2) [e] [] p3) pos) R :=
  PS.imp (ps_expr (hbm _ _ (be_own i hΓ hN hv hd hcd) (pa_cons he pa_nil hst)) hs) fun D σ H ⟨Z, F, E, nx, _⟩ => ⟨Z, F, E, fun v ev ⟨e1, hf, xs, hp, r⟩ => by
    subst e1
    refine ⟨.inl ⟨rfl, xs, SqL.of hp⟩, Z, F, E, fun v2 Z1 F1 H1 E1 S1 p2 => ?_⟩
    obtain ⟨w, ew, e2, hf1, ys, hq, r1⟩ := E1.slots i _ hΓ1
    refine ⟨q, ys, v2, rfl, rfl, hq, by rw [r1.length]; exact hl, ?_⟩
    exact nx _ Z1 F1 σ _ h (E1.mut hf1 ev ⟨rfl, hf1, _, upd_same, r1.append (.cons p2 .nil)⟩) (S1.trans (Stp.mut hf1))⟩

/-! ### what is walked -/
structure WalkB {α : Type} (J : It) (Z1 : Hp) (S : α → SV) (xs : List α) : Prop where
  goes : ∀ i H, i < xs.length → Same Z1 H → J.go i H
  stops : ∀ H, Same Z1 H → J.stop xs.length H
  yields : ∀ i H x H' Z, i < xs.length → Same Z1 Z → Same Z H → J.yld i H x H' → ∃ Z' z, Gr Z H Z' H' ∧ xs[i]? = some z ∧ (S z).p Z' x
/-- the same, by what stands (C: of the frozen part and the heap) -/
structure WalkC {α : Type} (J : It) (C : Hp → Hp → Prop) (S : α → SV) (xs : List α) : Prop where
  goes : ∀ i Z H, i < xs.length → C Z H → J.go i H
  stops : ∀ Z H, C Z H → J.stop xs.length H
  yields : ∀ i H x H' Z, i < xs.length → C Z H → Same Z H → J.yld i H x H' → ∃ Z' z, Gr Z H Z' H' ∧ xs[i]? = some z ∧ (S z).p Z' x
theorem WalkB.toC {α : Type} {J : It} {Z1 : Hp} {S : α → SV} {xs : List α} (w : WalkB J Z1 S xs) : WalkC J (fun (Z H : Hp) => Same Z1 Z ∧ Same Z H) S xs :=
  ⟨fun i Z H hi c => w.goes i H hi (c.1.trans c.2), fun Z H c => w.stops H (c.1.trans c.2), fun i H x H' Z hi c z y => w.yields i H x H' Z hi c.1 z y⟩
/-- walked as long as W is known -/
def BIW (X : Cx) (Γ : List Sl) (tg iter : Expr) {α : Type} (S : α → SV) (xs : List α) (Γ' : List Sl) (W : List Sl → Prop) : Prop :=
  PI X tg iter fun σ H R => ∃ Z F, En Γ Z F σ H ∧ ∀ J C Z1 F1 H1, En Γ' Z1 F1 σ H1 → Stp Z F H Z1 F1 H1 → (∀ Γ2 Z2 F2 σ2 H2, W Γ2 → En Γ2 Z2 F2 σ2 H2 → Same Z1 Z2 → C Z2 H2) → WalkC J C S xs → R J H1
def BI (X : Cx) (Γ : List Sl) (tg iter : Expr) {α : Type} (S : α → SV) (xs : List α) (Γ' : List Sl) : Prop :=
  PI X tg iter fun σ H R => ∃ Z F, En Γ Z F σ H ∧ ∀ J Z1 F1 H1, En Γ' Z1 F1 σ H1 → Stp Z F H Z1 F1 H1 → WalkB J Z1 S xs → R J H1
theorem PI.imp {tg iter : Expr} {t t' : TI} (h : PI X tg iter t) (k : ∀ σ H R, t' σ H R → t σ H R) : PI X tg iter t' := ⟨fun pins s σ H R I q => h.run pins s σ H R I (k σ H R q)⟩
theorem BI.w {tg iter : Expr} {α : Type} {S : α → SV} {xs : List α} (h : BI X Γ tg iter S xs Γ') : BIW X Γ tg iter S xs Γ' fun _ => True :=
  PI.imp h fun σ H R ⟨Z, F, E, q⟩ => ⟨Z, F, E, fun J Z1 F1 H1 E1 S1 w => q J (fun (Z H : Hp) => Same Z1 Z ∧ Same Z H) Z1 F1 H1 E1 S1 (fun Γ2 Z2 F2 σ2 H2 _ E2 z => ⟨z, E2.zh⟩) w.toC⟩
theorem bi_list {tg : Expr} {α : Type} {g : α → PyData} {xs : List α} {ds : List PyData} (h : BE X Γ e (dL X.K ds) Γ1) (hd : ds = xs.map g) : BI X Γ tg e (fun x => IsD X.K (g x)) xs Γ1 :=
  PI.imp (pi_list h) fun σ H R ⟨Z, F, E, q⟩ => ⟨Z, F, E, fun v Z1 F1 H1 E1 S1 p => by
    obtain ⟨a, us, rfl, ha, r⟩ := dL_p p
    subst hd
    refine ⟨a, rfl, ⟨us, SqL.of (E1.zh _ _ ha)⟩, q _ Z1 F1 H1 E1 S1 ⟨fun i H hi z => ?_, fun H z => ?_, fun i H x H' Z hi z1 z2 y => ?_⟩⟩
    · have hl := r.length
      rw [List.length_map] at hl
      exact ⟨us, us[i]'(by omega), SqL.of (z _ _ ha), by simp⟩
    · have hl := r.length
      rw [List.length_map] at hl
      exact ⟨us, SqL.of (z _ _ ha), by omega⟩
    · obtain ⟨rfl, y⟩ := y
      have e1 := y us (SqL.of (z2 _ _ (z1 _ _ ha)))
      obtain ⟨d, e2, rd⟩ := r.get' e1
      rw [List.getElem?_map, List.getElem?_eq_getElem hi] at e2
      cases e2
      exact ⟨Z, xs[i], Gr.refl z2, List.getElem?_eq_getElem hi, Rp.mono z1 _ _ rd⟩⟩
theorem bi_tup {tg : Expr} {α : Type} {g : α → PyData} {xs : List α} {ds : List PyData} (h : BE X Γ e (dU X.K ds) Γ1) (hd : ds = xs.map g) : BI X Γ tg e (fun x => IsD X.K (g x)) xs Γ1 :=
  PI.imp (pi_tup h) fun σ H R ⟨Z, F, E, q⟩ => ⟨Z, F, E, fun v Z1 F1 H1 E1 S1 p => by
    obtain ⟨a, us, rfl, ha, r⟩ := dU_p p
    subst hd
    refine ⟨a, rfl, ⟨us, SqT.up E1.zh ha⟩, q _ Z1 F1 H1 E1 S1 ⟨fun i H hi z => ?_, fun H z => ?_, fun i H x H' Z hi z1 z2 y => ?_⟩⟩
    · have hl := r.length
      rw [List.length_map] at hl
      exact ⟨us, us[i]'(by omega), SqT.up z ha, by simp⟩
    · have hl := r.length
      rw [List.length_map] at hl
      exact ⟨us, SqT.up z ha, by omega⟩
    · obtain ⟨rfl, y⟩ := y
      have e1 := y us (SqT.up z2 (SqT.up z1 ha))
      obtain ⟨d, e2, rd⟩ := r.get' e1
      rw [List.getElem?_map, List.getElem?_eq_getElem hi] at e2
      cases e2
      exact ⟨Z, xs[i], Gr.refl z2, List.getElem?_eq_getElem hi, Rp.mono z1 _ _ rd⟩⟩
theorem bi_str {tg : Expr} {z : Str} (h : BE X Γ e (dS X.K z) Γ1) : BI X Γ tg e (fun c => dS X.K ⟨#[c]⟩) z.cps.toList Γ1 :=
  PI.imp (pi_str h) fun σ H R ⟨Z, F, E, q⟩ => ⟨Z, F, E, fun v Z1 F1 H1 E1 S1 p => by
    cases p
    have hl : z.cps.toList.length = z.cps.size := by simp
    refine ⟨z, rfl, q _ Z1 F1 H1 E1 S1 ⟨fun i H hi _ => walk_str.goes i H (by omega) trivial, fun H _ => by rw [hl]; exact walk_str.stops H trivial, fun i H x H' Z hi z1 z2 y => ?_⟩⟩
    obtain ⟨rfl, c, e1, rfl⟩ := walk_str.yields i H x H' (by omega) trivial y
    exact ⟨Z, c, Gr.refl z2, by rw [Array.getElem?_toList]; exact e1, .str _⟩⟩
theorem bi_range1 {tg : Expr} {p : Pos} {n : Int} (hg : Gl X "range") (hm : X.mg "range" = none) (h : BA X Γ [a] [dI X.K n] Γ1) (h0 : -(2 ^ 62) ≤ n) (h1 : n < 2 ^ 62) (hs : starEach [a] X.env = [(false, eval a X.env)] := by rfl) :
    BI X Γ tg (.Call (.Name "range" p) [a] [] pos) (fun i : Nat => dI X.K (i : Int)) (List.range n.toNat) Γ1 :=
  PI.imp (pi_range1 hg hm h hs) fun σ H R ⟨Z, F, E, q⟩ => ⟨Z, F, E, fun vs Z1 F1 H1 E1 S1 ps => by
    cases ps with
    | cons p1 ps =>
      cases ps
      cases p1
      refine ⟨n, rfl, h0, h1, q _ Z1 F1 H1 E1 S1 ⟨fun i H hi _ => walk_range.goes i H (by simpa using hi) trivial, fun H _ => by rw [List.length_range]; exact walk_range.stops H trivial, fun i H x H' Z hi z1 z2 y => ?_⟩⟩
      rw [List.length_range] at hi
      obtain ⟨rfl, rfl⟩ := walk_range.yields i H x H' hi trivial y
      exact ⟨Z, i, Gr.refl z2, by simp [hi], by show Rp X.K Z (.int (0 + (i : Int))) (.int (i : Int)); rw [Int.zero_add]; exact .int _⟩⟩
theorem bi_range2 {tg : Expr} {p : Pos} {m n : Int} (hg : Gl X "range") (hm : X.mg "range" = none) (h : BA X Γ [a, b] [dI X.K m, dI X.K n] Γ1) (hb : -(2 ^ 62) ≤ m ∧ m < 2 ^ 62 ∧ -(2 ^ 62) ≤ n ∧ n < 2 ^ 62)
    (hs : starEach [a, b] X.env = [(false, eval a X.env), (false, eval b X.env)] := by rfl) (hs2 : starEach [b] X.env = [(false, eval b X.env)] := by rfl) :
    BI X Γ tg (.Call (.Name "range" p) [a, b] [] pos) (fun i : Nat => dI X.K (m + (i : Int))) (List.range (n - m).toNat) Γ1 :=
  PI.imp (pi_range2 hg hm h hs hs2) fun σ H R ⟨Z, F, E, q⟩ => ⟨Z, F, E, fun vs Z1 F1 H1 E1 S1 ps => by
    cases ps with
    | cons p1 ps =>
      cases ps with
      | cons p2 ps =>
        cases ps
        cases p1
        cases p2
        refine ⟨m, n, rfl, hb, q _ Z1 F1 H1 E1 S1 ⟨fun i H hi _ => walk_range.goes i H (by simpa using hi) trivial, fun H _ => by rw [List.length_range]; exact walk_range.stops H trivial, fun i H x H' Z hi z1 z2 y => ?_⟩⟩
        rw [List.length_range] at hi
        obtain ⟨rfl, rfl⟩ := walk_range.yields i H x H' hi trivial y
        exact ⟨Z, i, Gr.refl z2, by simp [hi], .int _⟩⟩
theorem bi_enum {elts : List Expr} {kk : Nat} {tpos p : Pos} {ds : List PyData} (hg : Gl X "enumerate") (hm : X.mg "enumerate" = none) (h : BA X Γ [e] [dL X.K ds] Γ1) (hs : starEach [e] X.env = [(false, eval e X.env)] := by rfl) :
    BI X Γ (.Tuple elts kk tpos) (.Call (.Name "enumerate" p) [e] [] pos) (fun x : PyData × Nat => dU X.K [.int (x.2 : Int), x.1]) ds.zipIdx Γ1 :=
  PI.imp (pi_enum hg hm h hs) fun σ H R ⟨Z, F, E, q⟩ => ⟨Z, F, E, fun vs Z1 F1 H1 E1 S1 ps => by
    cases ps with
    | cons p1 ps =>
      cases ps
      obtain ⟨a, us, rfl, ha, r⟩ := dL_p p1
      have hl := r.length
      refine ⟨a, us, rfl, SqL.of (E1.zh _ _ ha), q _ Z1 F1 H1 E1 S1 ⟨fun i H hi z => walk_enum.goes i H (by simpa [hl] using hi) (SqL.of (z _ _ ha)), fun H z => by rw [List.length_zipIdx, ← hl]; exact walk_enum.stops H (SqL.of (z _ _ ha)), fun i H x H' Z hi z1 z2 y => ?_⟩⟩
      rw [List.length_zipIdx] at hi
      obtain ⟨T, u, w, rfl, hT, rfl, e1, e2⟩ := walk_enum.yields i H x H' (by omega) (SqL.of (z2 _ _ (z1 _ _ ha))) y
      cases e1
      obtain ⟨d, e3, rd⟩ := r.get' e2
      have g := Gr.new (o := .tup [V.int (i : Nat), w]) z2 hT
      exact ⟨_, (d, i), g, by simp [e3], .tup (SqT.of upd_same) (.cons (.int _) (.cons (Rp.mono (z1.trans g.z) _ _ rd) .nil))⟩⟩
theorem bi_zip {elts : List Expr} {kk : Nat} {tpos p : Pos} {ds es : List PyData} (hg : Gl X "zip") (hm : X.mg "zip" = none) (h : BA X Γ [a, b] [dL X.K ds, dL X.K es] Γ1)
    (hs : starEach [a, b] X.env = (false, eval a X.env) :: starEach [b] X.env := by rfl) (hpl : (backTo pos (starEach [b] X.env)).any (·.1) = false := by rfl) :
    BI X Γ (.Tuple elts kk tpos) (.Call (.Name "zip" p) [a, b] [] pos) (fun x : PyData × PyData => dU X.K [x.1, x.2]) (ds.zip es) Γ1 :=
  PI.imp (pi_zip hg hm h hs hpl) fun σ H R ⟨Z, F, E, q⟩ => ⟨Z, F, E, fun vs Z1 F1 H1 E1 S1 ps => by
    cases ps with
    | cons p1 ps =>
      cases ps with
      | cons p2 ps =>
        cases ps
        obtain ⟨a, us, rfl, ha, r⟩ := dL_p p1
        obtain ⟨b, ws, rfl, hb, r'⟩ := dL_p p2
        have hl := r.length
        have hl' := r'.length
        have hn : (ds.zip es).length = min us.length ws.length := by rw [List.length_zip, hl, hl']
        refine ⟨a, b, us, ws, rfl, SqL.of (E1.zh _ _ ha), SqL.of (E1.zh _ _ hb), q _ Z1 F1 H1 E1 S1 ⟨fun i H hi z => (walk_zip hn).goes i H hi ⟨SqL.of (z _ _ ha), SqL.of (z _ _ hb)⟩, fun H z => (walk_zip hn).stops H ⟨SqL.of (z _ _ ha), SqL.of (z _ _ hb)⟩, fun i H x H' Z hi z1 z2 y => ?_⟩⟩
        obtain ⟨T, u, w, rfl, hT, rfl, e1, e2⟩ := (walk_zip hn).yields i H x H' hi ⟨SqL.of (z2 _ _ (z1 _ _ ha)), SqL.of (z2 _ _ (z1 _ _ hb))⟩ y
        obtain ⟨d, e3, rd⟩ := r.get' e1
        obtain ⟨d', e3', rd'⟩ := r'.get' e2
        have g := Gr.new (o := .tup [u, w]) z2 hT
        exact ⟨_, (d, d'), g, by rw [List.getElem?_zip_eq_some]; exact ⟨e3, e3'⟩, .tup (SqT.of upd_same) (.cons (Rp.mono (z1.trans g.z) _ _ rd) (.cons (Rp.mono (z1.trans g.z) _ _ rd') .nil))⟩⟩

/-! ### targets -/
/-- a store of a value of which P holds: what is known behind it; ts: the slots that it stores to -/
structure BG (X : Cx) (Γ : List Sl) (tg : Expr) (P : SV) (Γ' : List Sl) (ts : List Nat) : Prop where
  pg : PG X tg fun v σ H Q => ∃ Z F, En Γ Z F σ H ∧ P.p Z v ∧ ∀ σ', En Γ' Z F σ' H → (∀ i, i ∉ ts → σ'[i]? = σ[i]?) → Q σ' H
  len : Γ'.length = Γ.length
  out : ∀ i, i ∉ ts → Γ'[i]? = Γ[i]?
structure BGs (X : Cx) (K0 : PySem.W.Frag) (Γ : List Sl) (tgs : List Expr) (ds : List PyData) (Γ' : List Sl) (ts : List Nat) : Prop where
  pg : PGs X tgs fun vs σ H Q => ∃ Z F, En Γ Z F σ H ∧ RpA K0 Z vs ds ∧ ∀ σ', En Γ' Z F σ' H → (∀ i, i ∉ ts → σ'[i]? = σ[i]?) → Q σ' H
  len : Γ'.length = Γ.length
  out : ∀ i, i ∉ ts → Γ'[i]? = Γ[i]?
theorem PG.imp {tg : Expr} {t t' : TG} (h : PG X tg t) (k : ∀ v σ H Q, t' v σ H Q → t v σ H Q) : PG X tg t' := ⟨fun pins s σ H v u Q I r q => h.run pins s σ H v u Q I r (k v σ H Q q)⟩
theorem PGs.imp {tg : List Expr} {t t' : TGs} (h : PGs X tg t) (k : ∀ v σ H Q, t' v σ H Q → t v σ H Q) : PGs X tg t' := ⟨fun pins s σ H v u Q I r q => h.run pins s σ H v u Q I r (k v σ H Q q)⟩
theorem ne_one {i j : Nat} (h : j ∉ [i]) : i ≠ j := fun z => h (by rw [z]; exact List.mem_singleton.mpr rfl)
theorem bg_name {x : Str} (i : Nat) (hN : X.N.Nodup) (hi : X.N[i]? = some x) (hx : Loc X.env.scope x) (hf : X.fn x = true ∨ X.env.scope.names.lookup x = some .local := by first | exact .inl rfl | exact .inr rfl | assumption) : BG X Γ (.Name x pos) P (Γ.set i (.fz P)) [i] :=
  ⟨PG.imp (pg_name hN hi hx hf) fun v σ H Q ⟨Z, F, E, p, q⟩ => q _ (E.set i p) fun j hj => List.getElem?_set_ne (ne_one hj), List.length_set, fun j hj => List.getElem?_set_ne (ne_one hj)⟩
theorem bgs_nil : BGs X K Γ [] [] Γ [] := ⟨PGs.imp pgs_nil fun vs σ H Q ⟨Z, F, E, p, q⟩ => by
  cases p
  exact ⟨rfl, q _ E fun _ _ => rfl⟩, rfl, fun _ _ => rfl⟩
theorem bgs_cons {es : List Expr} {d : PyData} {ds : List PyData} {ts us : List Nat} (h1 : BG X Γ e (IsD K d) Γ1 ts) (h2 : BGs X K Γ1 es ds Γ2 us) (hs : (assignEach (e :: es) X.env).map (·.2) = assign e X.env :: (assignEach es X.env).map (·.2) := by rfl) : BGs X K Γ (e :: es) (d :: ds) Γ2 (ts ++ us) :=
  ⟨PGs.imp (pgs_cons h1.pg h2.pg hs) fun vs σ H Q ⟨Z, F, E, p, q⟩ => by
    cases p with
    | cons p1 p2 => exact ⟨_, _, rfl, Z, F, E, p1, fun σ' E' k => ⟨Z, F, E', p2, fun σ2 E2 k2 => q σ2 E2 fun i hi => (k2 i fun z => hi (List.mem_append_right _ z)).trans (k i fun z => hi (List.mem_append_left _ z))⟩⟩,
    h2.len.trans h1.len, fun i hi => (h2.out i fun z => hi (List.mem_append_right _ z)).trans (h1.out i fun z => hi (List.mem_append_left _ z))⟩
theorem bg_tup {es : List Expr} {k : Nat} {ds : List PyData} {ts : List Nat} (h : BGs X K Γ es ds Γ' ts) (hc : X.calm = true) (hK : X.K = K := by rfl) (hn : (assignEach es X.env).length = ds.length := by rfl) (hst : (assignEach es X.env).findIdx? (·.1) = none := by rfl) : BG X Γ (.Tuple es k pos) (dU K ds) Γ' ts :=
  ⟨PG.imp (pg_tup hc h.pg hn hst) fun v σ H Q ⟨Z, F, E, p, q⟩ => by
    subst hK
    obtain ⟨a, us, rfl, ha, r⟩ := dU_p p
    exact ⟨a, us, rfl, SqT.up E.zh ha, r.length, Z, F, E, r, q⟩, h.len, h.out⟩
theorem BG.le {tg : Expr} {ts : List Nat} (h : BG X Γ tg P' Γ' ts) (k : P.le P') : BG X Γ tg P Γ' ts := ⟨PG.imp h.pg fun v σ H Q ⟨Z, F, E, p, q⟩ => ⟨Z, F, E, k _ _ p, q⟩, h.len, h.out⟩
/-- target = e, the target any -/
theorem bs_asg {tg : Expr} {ts : List Nat} (he : BE X Γ e P Γ1) (hg : BG X Γ1 tg P Γ2 ts) (h : R.nx Γ2) (hs : swapsWithSole [tg] e pos.line X.env = pure false := by rfl) (hw : swappedStores [tg] e X.env = pure none := by rfl)
    (h1 : (assignEach [tg] X.env).map (·.2) = [assign tg X.env] := by rfl) : BS X Γ (.Assign [tg] e pos) R :=
  PS.imp (ps_asg he hg.pg hs hw h1) fun D σ H ⟨Z, F, E, nx, _⟩ => ⟨Z, F, E, fun v Z1 F1 H1 E1 S1 p => ⟨Z1, F1, E1, p, fun σ' E2 _ => nx _ Z1 F1 σ' H1 h E2 S1⟩⟩
/-- a, b = x, y of plain names -/
theorem bs_par {x y : Str} {px py pt : Pos} {kt k2 pt2} (i j : Nat) (ha : BA X Γ [a, b] [P1, P2] Γ1) (h : R.nx ((Γ1.set i (.fz P1)).set j (.fz P2))) (hc : X.calm = true) (hN : X.N.Nodup) (hi : X.N[i]? = some x) (hj : X.N[j]? = some y) (hij : i ≠ j)
    (hx : X.env.scope.names.lookup x = some .local) (hy : X.env.scope.names.lookup y = some .local) (hw : swappedStores [.Tuple [.Name x px, .Name y py] kt pt] (.Tuple [a, b] k2 pt2) X.env = pure (some [x, y]))
    (hs : swapsWithSole [.Tuple [.Name x px, .Name y py] kt pt] (.Tuple [a, b] k2 pt2) pos.line X.env = pure false := by rfl) : BS X Γ (.Assign [.Tuple [.Name x px, .Name y py] kt pt] (.Tuple [a, b] k2 pt2) pos) R :=
  PS.imp (ps_par hc hN hi hj hij hx hy ha hw hs) fun D σ H ⟨Z, F, E, nx, _⟩ => ⟨Z, F, E, fun vs Z1 F1 H1 E1 S1 ps => by
    cases ps with
    | cons p1 ps =>
      cases ps with
      | cons p2 ps =>
        cases ps
        exact ⟨_, _, rfl, nx _ Z1 F1 _ H1 h ((E1.set i p1).set j p2) S1⟩⟩

/-! ### loops -/
theorem bs_for {α : Type} {S : α → SV} {xs : List α} {tg iter : Expr} {body : List Stmt} {W : List Sl → Prop} (hI : BIW X Γ tg iter S xs Γ1 W) (inv : Nat → List Sl → Prop) (h0 : inv 0 Γ1) (hW : ∀ i Γ', inv i Γ' → W Γ')
    (hs : ∀ i x Γ', xs[i]? = some x → inv i Γ' → ∃ Γ'' Γ2 ts, Wk Γ' Γ'' ∧ BG X Γ'' tg (S x) Γ2 ts ∧ BSs X Γ2 body { R with nx := inv (i + 1), ct := inv (i + 1), bk := R.nx }) (hd : ∀ Γ', inv xs.length Γ' → R.nx Γ')
    (hp : PassesOwn (model X.prog X.w) X.A X.env X.xe) (hc : X.calm = true) (hfs : ∀ x, foldedSetIterable iter X.env x = pure x := by intro _; rfl) : BS X Γ (.For tg iter body [] pos) R := by
  -- the target, the body: at any turn and any invariant
  have hg : PG X tg (fun v σ H Q => ∃ (i : Nat) (x : α) (Γ' Γ2 : List Sl) (ts : List Nat) (Z : Hp) (F : Foot), xs[i]? = some x ∧ BG X Γ' tg (S x) Γ2 ts ∧ En Γ' Z F σ H ∧ (S x).p Z v ∧ ∀ σ', En Γ2 Z F σ' H → Q σ' H) :=
    ⟨fun pins s σ H v u Q I r ⟨i, x, Γ', Γ2, ts, Z, F, e, bg, E, p, q⟩ => PG.run bg.pg pins s σ H v u Q I r ⟨Z, F, E, p, fun σ' E' _ => q σ' E'⟩⟩
  have hb : PSs X body (fun D σ H => ∃ i x Γ' Γ2, xs[i]? = some x ∧ inv i Γ' ∧ BSs X Γ2 body { R with nx := inv (i + 1), ct := inv (i + 1), bk := R.nx } ∧ tS Γ2 { R with nx := inv (i + 1), ct := inv (i + 1), bk := R.nx } D σ H) :=
    ⟨fun pins s σ H D I ⟨i, x, Γ', Γ2, e, iv, bb, q⟩ => PSs.run bb pins s σ H D I q⟩
  refine PS.imp (ps_for hp hc hI hg hb hfs) fun D σ H ⟨Z, F, E, nx, rt, bk, ct⟩ => ⟨Z, F, E, fun J C Z1 F1 H1 E1 S1 cc w => ?_⟩
  refine ⟨fun i m σ' H' => m = xs.length - i ∧ i ≤ xs.length ∧ ∃ Γ' Z' F', inv i Γ' ∧ En Γ' Z' F' σ' H' ∧ Stp Z F H Z' F' H' ∧ Same Z1 Z', ⟨xs.length, by simp, Nat.zero_le _, Γ1, Z1, F1, h0, E1, S1, Same.refl _⟩, ?_⟩
  rintro i m σ' H' ⟨rfl, hi, Γ', Z', F', iv, E', S', z'⟩
  have c' := cc _ _ _ _ _ (hW i Γ' iv) E' z'
  by_cases hlt : i < xs.length
  · refine .inr ⟨w.goes i Z' H' hlt c', fun σ2 H2 => ∃ Γ2 Z2 F2, inv (i + 1) Γ2 ∧ En Γ2 Z2 F2 σ2 H2 ∧ Stp Z F H Z2 F2 H2 ∧ Same Z1 Z2, fun σ2 H2 q => ⟨xs.length - (i + 1), by omega, rfl, hlt, q⟩, fun x H2 y => ?_⟩
    obtain ⟨Z2, z, g, ez, p⟩ := w.yields i H' x H2 Z' hlt c' E'.zh y
    obtain ⟨Γ'', Γ2, ts, wk, bg, bb⟩ := hs i z Γ' ez iv
    refine ⟨i, z, Γ'', Γ2, ts, Z2, F', ez, bg, (E'.grow g).wk wk, p, fun σ3 E3 => ?_⟩
    have S3 := S'.trans (g.stp (F := F'))
    refine ⟨i, z, Γ', Γ2, ez, iv, bb, Z2, F', E3, fun Γ4 Z4 F4 σ4 H4 m4 E4 S4 => ⟨Γ4, Z4, F4, m4, E4, S3.trans S4, (z'.trans g.z).trans S4.z⟩, fun P4 Γ4 v4 Z4 F4 σ4 H4 m4 E4 S4 p4 => rt P4 Γ4 v4 Z4 F4 σ4 H4 m4 E4 (S3.trans S4) p4,
      fun Γ4 Z4 F4 σ4 H4 m4 E4 S4 => nx Γ4 Z4 F4 σ4 H4 m4 E4 (S3.trans S4), fun Γ4 Z4 F4 σ4 H4 m4 E4 S4 => ⟨Γ4, Z4, F4, m4, E4, S3.trans S4, (z'.trans g.z).trans S4.z⟩⟩
  · have e : i = xs.length := by omega
    subst e
    exact .inl ⟨w.stops Z' H' c', nx Γ' Z' F' σ' H' (hd Γ' iv) E' S'⟩
theorem bs_while {body : List Stmt} (inv : Nat → List Sl → Prop) (n : Nat) (h0 : inv n Γ)
    (hs : ∀ n Γ', inv n Γ' → ∃ β Γ2, BT X Γ' c β Γ2 ∧ (β true → BSs X Γ2 body { R with nx := fun Γ3 => ∃ m, m < n ∧ inv m Γ3, ct := fun Γ3 => ∃ m, m < n ∧ inv m Γ3, bk := R.nx }) ∧ (β false → R.nx Γ2))
    (hp : PassesOwn (model X.prog X.w) X.A X.env X.xe) : BS X Γ (.While c body [] pos) R := by
  have ht : PT X c (fun σ H Q => ∃ n Γ' β Γ2 Z F, inv n Γ' ∧ BT X Γ' c β Γ2 ∧ En Γ' Z F σ H ∧ ∀ b Z' F' H', En Γ2 Z' F' σ H' → Stp Z F H Z' F' H' → β b → Q b H') :=
    ⟨fun pins s σ H Q I ⟨n, Γ', β, Γ2, Z, F, iv, bt, E, q⟩ => PT.run bt pins s σ H Q I ⟨Z, F, E, q⟩⟩
  have hb : PSs X body (fun D σ H => ∃ n Γ2, BSs X Γ2 body { R with nx := fun Γ3 => ∃ m, m < n ∧ inv m Γ3, ct := fun Γ3 => ∃ m, m < n ∧ inv m Γ3, bk := R.nx } ∧ tS Γ2 { R with nx := fun Γ3 => ∃ m, m < n ∧ inv m Γ3, ct := fun Γ3 => ∃ m, m < n ∧ inv m Γ3, bk := R.nx } D σ H) :=
    ⟨fun pins s σ H D I ⟨n, Γ2, bb, q⟩ => PSs.run bb pins s σ H D I q⟩
  refine PS.imp (ps_while hp ht hb) fun D σ H ⟨Z, F, E, nx, rt, bk, ct⟩ => ?_
  refine ⟨fun m σ' H' => ∃ Γ' Z' F', inv m Γ' ∧ En Γ' Z' F' σ' H' ∧ Stp Z F H Z' F' H', ⟨n, Γ, Z, F, h0, E, Stp.refl⟩, ?_⟩
  rintro m σ' H' ⟨Γ', Z', F', iv, E', S'⟩
  obtain ⟨β, Γ2, bt, b1, b2⟩ := hs m Γ' iv
  refine ⟨m, Γ', β, Γ2, Z', F', iv, bt, E', fun k Z2 F2 H2 E2 S2 hk => ?_⟩
  have S3 := S'.trans S2
  cases k with
  | true =>
    show (if true = true then _ else _)
    rw [if_pos rfl]
    refine ⟨fun σ3 H3 => ∃ m', m' < m ∧ ∃ Γ3 Z3 F3, inv m' Γ3 ∧ En Γ3 Z3 F3 σ3 H3 ∧ Stp Z F H Z3 F3 H3, fun _ _ q => q, m, Γ2, b1 hk, Z2, F2, E2, fun Γ4 Z4 F4 σ4 H4 ⟨m', hm, iv'⟩ E4 S4 => ⟨m', hm, Γ4, Z4, F4, iv', E4, S3.trans S4⟩,
      fun P4 Γ4 v4 Z4 F4 σ4 H4 m4 E4 S4 p4 => rt P4 Γ4 v4 Z4 F4 σ4 H4 m4 E4 (S3.trans S4) p4, fun Γ4 Z4 F4 σ4 H4 m4 E4 S4 => nx Γ4 Z4 F4 σ4 H4 m4 E4 (S3.trans S4), fun Γ4 Z4 F4 σ4 H4 ⟨m', hm, iv'⟩ E4 S4 => ⟨m', hm, Γ4, Z4, F4, iv', E4, S3.trans S4⟩⟩
  | false =>
    show (if false = true then _ else _)
    rw [if_neg Bool.false_ne_true]
    exact nx Γ2 Z2 F2 σ' H2 (b2 hk) E2 S3
/-- by what is known at each turn, as a function of what is gone through -/
theorem bs_forF {α : Type} {S : α → SV} {xs : List α} {tg iter : Expr} {body : List Stmt} {W : List Sl → Prop} (hI : BIW X Γ tg iter S xs Γ1 W) (G : List α → List Sl) (h0 : Wk Γ1 (G [])) (hW : ∀ p Γ', Wk Γ' (G p) → W Γ')
    (hs : ∀ p x r, xs = p ++ x :: r → ∃ Γ2 ts, BG X (G p) tg (S x) Γ2 ts ∧ BSs X Γ2 body { R with nx := fun Γ' => Wk Γ' (G (p ++ [x])), ct := fun Γ' => Wk Γ' (G (p ++ [x])), bk := R.nx }) (hd : ∀ Γ', Wk Γ' (G xs) → R.nx Γ')
    (hp : PassesOwn (model X.prog X.w) X.A X.env X.xe) (hc : X.calm = true) (hfs : ∀ x, foldedSetIterable iter X.env x = pure x := by intro _; rfl) : BS X Γ (.For tg iter body [] pos) R := by
  refine bs_for hI (fun i Γ' => Wk Γ' (G (xs.take i))) (by rw [List.take_zero]; exact h0) (fun i Γ' w => hW _ Γ' w) (fun i x Γ' e w => ?_) (fun Γ' w => hd Γ' (by rw [List.take_length] at w; exact w)) hp hc hfs
  have hlt : i < xs.length := (List.getElem?_eq_some_iff.mp e).1
  have ex : xs[i] = x := (List.getElem?_eq_some_iff.mp e).2
  obtain ⟨Γ2, ts, bg, bb⟩ := hs (xs.take i) x (xs.drop (i + 1)) (by rw [← ex, ← List.drop_eq_getElem_cons hlt, List.take_append_drop])
  have et : xs.take (i + 1) = xs.take i ++ [x] := by rw [List.take_add_one, e] <;> rfl
  rw [et]
  exact ⟨_, Γ2, ts, w, bg, bb⟩

/-! ### list comprehensions -/
inductive Lc {α : Type} (β : α → Bool → Prop) (Φ : α → PyData → Prop) : List α → List PyData → Prop
  | nil : Lc β Φ [] []
  | skip {xs : List α} {ds : List PyData} {x : α} : Lc β Φ xs ds → β x false → Lc β Φ (xs ++ [x]) ds
  | take {xs : List α} {ds : List PyData} {x : α} {d : PyData} : Lc β Φ xs ds → β x true → Φ x d → Lc β Φ (xs ++ [x]) (ds ++ [d])
theorem Lc.len {α : Type} {β : α → Bool → Prop} {Φ : α → PyData → Prop} {xs : List α} {ds : List PyData} (h : Lc β Φ xs ds) : ds.length ≤ xs.length := by
  induction h with
  | nil => exact Nat.le_refl _
  | skip _ _ ih => rw [List.length_append]; exact Nat.le_trans ih (Nat.le_add_right _ _)
  | take _ _ _ ih => rw [List.length_append, List.length_append]; exact Nat.add_le_add_right ih 1
theorem Lc.det {α : Type} {k : α → Bool} {f : α → PyData} {xs : List α} {ds : List PyData} (h : Lc (fun x b => b = k x) (fun x d => d = f x) xs ds) : ds = (xs.filter k).map f := by
  induction h with
  | nil => rfl
  | skip _ h ih =>
    rw [List.filter_append, List.map_append, ← ih, List.filter_cons, if_neg (by rw [← h]; exact Bool.false_ne_true)]
    simp
  | take _ h h2 ih =>
    rw [List.filter_append, List.map_append, ← ih, List.filter_cons, if_pos h.symm, h2]
    rfl
def BTs (X : Cx) (Γ : List Sl) (ifs : List Expr) (β : Bool → Prop) : Prop := PTs X ifs (tT Γ β Γ)
theorem PTs.imp {ifs : List Expr} {t t' : TT} (h : PTs X ifs t) (k : ∀ σ H Q, t' σ H Q → t σ H Q) : PTs X ifs t' := ⟨fun pins s σ H Q I q => h.run pins s σ H Q I (k σ H Q q)⟩
theorem bts_nil : BTs X Γ [] (· = true) := PTs.imp pts_nil fun σ H Q ⟨Z, F, E, q⟩ => q true Z F H E Stp.refl rfl
theorem bts_one {β : Bool → Prop} (h : BT X Γ c β Γ) : BTs X Γ [c] β := pts_one h
/-- the comprehension's own names are forgotten -/
def wipeG (Γ : List Sl) : List Nat → List Sl
  | [] => Γ
  | i :: r => (wipeG Γ r).set i .un
theorem wipeG_len (Γ : List Sl) : ∀ (vs : List Nat), (wipeG Γ vs).length = Γ.length
  | [] => rfl
  | i :: r => by unfold wipeG; rw [List.length_set, wipeG_len Γ r]
theorem wipeG_get (Γ : List Sl) : ∀ (vs : List Nat) (i : Nat), i ∉ vs → (wipeG Γ vs)[i]? = Γ[i]?
  | [], _, _ => rfl
  | j :: r, i, h => by
    have h1 : j ≠ i := fun z => h (by rw [z]; exact List.mem_cons_self)
    unfold wipeG
    rw [List.getElem?_set_ne h1]
    exact wipeG_get Γ r i fun z => h (List.mem_cons_of_mem _ z)
theorem wipeG_in (Γ : List Sl) : ∀ (vs : List Nat) (i : Nat) (s : Sl), i ∈ vs → (wipeG Γ vs)[i]? = some s → s = .un
  | [], _, _, h, _ => by simp at h
  | j :: r, i, s, h, e => by
    unfold wipeG at e
    by_cases hj : j = i
    · subst hj
      rw [List.getElem?_set] at e
      simp only [if_true] at e
      split at e <;> cases e
      rfl
    · rw [List.getElem?_set_ne hj] at e
      rcases List.mem_cons.mp h with z | z
      · exact absurd z.symm hj
      · exact wipeG_in Γ r i s z e
theorem wipe_in (σ : L2.St) : ∀ (vs : List Nat) (i : Nat), i ∈ vs → i < σ.length → (wipe σ vs)[i]? = some none
  | [], _, h, _ => by simp at h
  | j :: r, i, h, hl => by
    unfold wipe
    by_cases hj : j = i
    · subst hj
      rw [List.getElem?_set_self (by rw [wipe_length]; exact hl)]
    · rw [List.getElem?_set_ne hj]
      rcases List.mem_cons.mp h with z | z
      · exact absurd z.symm hj
      · exact wipe_in σ r i z hl
theorem wipe_eq {σ σ' : L2.St} {vs : List Nat} (hl : σ'.length = σ.length) (h : ∀ i, i ∉ vs → σ'[i]? = σ[i]?) : wipe σ' vs = wipe σ vs := by
  refine List.ext_getElem? fun i => ?_
  by_cases hi : i ∈ vs
  · by_cases hlt : i < σ.length
    · rw [wipe_in σ vs i hi hlt, wipe_in σ' vs i hi (by rw [hl]; exact hlt)]
    · rw [List.getElem?_eq_none (by rw [wipe_length]; omega), List.getElem?_eq_none (by rw [wipe_length]; omega)]
  · rw [wipe_out hi, wipe_out hi, h i hi]
theorem wipe_wipe (σ : L2.St) (vs : List Nat) : wipe (wipe σ vs) vs = wipe σ vs := wipe_eq (wipe_length σ vs) fun i hi => wipe_out hi
theorem En.wiped {Z H : Hp} {F : Foot} {σ : L2.St} (E : En Γ Z F σ H) (vs : List Nat) : En (wipeG Γ vs) Z F (wipe σ vs) H :=
  ⟨E.zh, E.fsep, E.fz, E.fsome, fun i s e => by
    by_cases h : i ∈ vs
    · rw [wipeG_in Γ vs i s h e]
      trivial
    · rw [wipeG_get Γ vs i h] at e
      rw [wipe_out h]
      exact E.slots i s e, by rw [wipe_length, wipeG_len]; exact E.len⟩
/-- back from the comprehension's block -/
theorem En.unwiped {Z Z0 H H0 : Hp} {F F0 : Foot} {σ σ2 : L2.St} {Γx : List Sl} {vs : List Nat} (E0 : En Γ Z0 F0 σ H0) (E : En Γx Z F σ2 H) (z : Same Z0 Z) (hw : wipe σ2 vs = wipe σ vs) (hx : ∀ i, i ∉ vs → Γx[i]? = Γ[i]?) (ho : ∀ i O, i ∈ vs → Γ[i]? ≠ some (.own O)) : En Γ Z F σ H := by
  refine ⟨E.zh, E.fsep, E.fz, E.fsome, fun i s e => ?_, E0.len⟩
  by_cases h : i ∈ vs
  · have q := E0.slots i s e
    cases s with
    | un => trivial
    | fz P =>
      obtain ⟨x, e1, p⟩ := q
      exact ⟨x, e1, P.mono z p⟩
    | own O => exact absurd e (ho i O h)
  · have q := E.slots i s (by rw [hx i h]; exact e)
    have e1 : σ2[i]? = σ[i]? := by rw [← wipe_out (σ := σ2) h, ← wipe_out (σ := σ) h, hw]
    rw [e1] at q
    exact q
def noOwn (Γ : List Sl) (vs : List Nat) : Bool := vs.all fun i => match Γ[i]? with | some (.own _) => false | _ => true
theorem bn_lc {α : Type} {S : α → SV} {xs : List α} {β : α → Bool → Prop} {Φ : α → PyData → Prop} {elt tg iter : Expr} {ifs : List Expr} {scope : Scope} {own : List (Str × Nat)} {Γx : α → List Sl} {ts : List Nat} {W : List Sl → Prop} (hI : BIW X Γ tg iter S xs Γ1 W) (hW : W Γ1)
    (hg : ∀ (s : Shared) (H : Hp) (C : Addr) (cl : List (Str × Addr)) (fp : List Addr) (x : α), x ∈ xs → BG (X.blk s H scope (compEnvC scope cl C X.env) fp) (wipeG Γ1 (own.map (·.2))) tg (S x) (Γx x) ts)
    (ht : ∀ (s : Shared) (H : Hp) (C : Addr) (cl : List (Str × Addr)) (fp : List Addr) (x : α), x ∈ xs → BTs (X.blk s H scope (compEnvC scope cl C X.env) fp) (Γx x) ifs (β x))
    (he : ∀ (s : Shared) (H : Hp) (C : Addr) (cl : List (Str × Addr)) (fp : List Addr) (x : α), x ∈ xs → β x true → BE (X.blk s H scope (compEnvC scope cl C X.env) fp) (Γx x) elt (.ex (Φ x) (IsD X.K)) (Γx x))
    (hno : noOwn Γ1 (own.map (·.2)) = true) (hts' : (ts.all fun i => (own.map (·.2)).contains i) = true) (hz : xs.length ≤ sizeLine) (hc : X.calm = true) (hN : X.N.Nodup) (ok : BlkOk X.N X.env.scope scope own)
    (hs : ∀ x, foldedSetIterable iter X.env x = pure x := by intro _; rfl) : BN X Γ (.ListComp elt [⟨tg, iter, ifs, 0⟩] scope pos) (Lc β Φ xs) Γ1 := by
  have ho : ∀ i O, i ∈ own.map (·.2) → Γ1[i]? ≠ some (.own O) := fun i O hi e => by
    have := List.all_eq_true.mp hno i hi
    rw [e] at this
    cases this
  have hts : ∀ i ∈ ts, i ∈ own.map (·.2) := fun i hi => List.contains_iff_mem.mp (List.all_eq_true.mp hts' i hi)
  generalize hvs : own.map (·.2) = vs at *
  -- the parts, for any item
  have Hg : ∀ (s : Shared) (H : Hp) (C : Addr) (cl : List (Str × Addr)) (fp : List Addr), PG (X.blk s H scope (compEnvC scope cl C X.env) fp) tg (fun v σ H Q => ∃ x Z F, x ∈ xs ∧ En (wipeG Γ1 vs) Z F σ H ∧ (S x).p Z v ∧ ∀ σ', En (Γx x) Z F σ' H → (∀ i, i ∉ ts → σ'[i]? = σ[i]?) → Q σ' H) :=
    fun s H C cl fp => ⟨fun pins s' σ H' v u Q I r ⟨x, Z, F, m, E, p, q⟩ => PG.run (hg s H C cl fp x m).pg pins s' σ H' v u Q I r ⟨Z, F, E, p, q⟩⟩
  have Ht : ∀ (s : Shared) (H : Hp) (C : Addr) (cl : List (Str × Addr)) (fp : List Addr), PTs (X.blk s H scope (compEnvC scope cl C X.env) fp) ifs (fun σ H Q => ∃ x, x ∈ xs ∧ tT (Γx x) (β x) (Γx x) σ H Q) :=
    fun s H C cl fp => ⟨fun pins s' σ H' Q I ⟨x, m, q⟩ => PTs.run (ht s H C cl fp x m) pins s' σ H' Q I q⟩
  have He : ∀ (s : Shared) (H : Hp) (C : Addr) (cl : List (Str × Addr)) (fp : List Addr), PE (X.blk s H scope (compEnvC scope cl C X.env) fp) elt (fun σ H Q => ∃ x, x ∈ xs ∧ β x true ∧ tE (Γx x) (.ex (Φ x) (IsD X.K)) (Γx x) σ H Q) :=
    fun s H C cl fp => ⟨fun pins s' σ H' Q I ⟨x, m, b, q⟩ => PE.run (he s H C cl fp x m b) pins s' σ H' Q I q⟩
  refine PE.imp (pe_lc hc hN hI ok Hg Ht He hs) fun σ H Q ⟨Z, F, E, q⟩ => ⟨Z, F, E, fun J C Z1 F1 H1 E1 S1 cc w => ?_⟩
  rw [hvs]
  intro D hD
  have g0 := Gr.lost (o := .lst []) E1.zh hD
  refine ⟨fun i m H' => m = xs.length - i ∧ i ≤ xs.length ∧ ∃ Z' F' acc ds, En Γ1 Z' F' σ H' ∧ Stp Z1 F1 H1 Z' F' H' ∧ Z' D = none ∧ (∀ j, ¬ F' j D) ∧ H' D = some (.lst acc) ∧ RpA X.K Z' acc ds ∧ Lc β Φ (xs.take i) ds,
    ⟨xs.length, by simp, Nat.zero_le _, Z1, F1, [], [], E1.grow g0, g0.stp, E1.zh.free hD, fun j hj => ?_, upd_same, .nil, by rw [List.take_zero]; exact .nil⟩, ?_⟩
  · obtain ⟨o, ho'⟩ := E1.fsome j D hj
    rw [hD] at ho'
    cases ho'
  rintro i m H' ⟨rfl, hi, Z', F', acc, ds, E', S', zD, fD, hD', r, lc⟩
  have c' := cc _ _ _ _ _ hW E' S'.z
  by_cases hlt : i < xs.length
  · refine .inr ⟨w.goes i Z' H' hlt c', fun H2 => ∃ Z2 F2 acc2 ds2, En Γ1 Z2 F2 σ H2 ∧ Stp Z1 F1 H1 Z2 F2 H2 ∧ Z2 D = none ∧ (∀ j, ¬ F2 j D) ∧ H2 D = some (.lst acc2) ∧ RpA X.K Z2 acc2 ds2 ∧ Lc β Φ (xs.take (i + 1)) ds2,
      fun H2 q2 => ⟨xs.length - (i + 1), by omega, rfl, hlt, q2⟩, fun v H2 y => ?_⟩
    obtain ⟨Z2, x, g, ex, p⟩ := w.yields i H' v H2 Z' hlt c' E'.zh y
    have mx : x ∈ xs := List.mem_of_getElem? ex
    have bgx := hg X.s_0 X.H_0 0 [] [] x mx
    have tk : xs.take (i + 1) = xs.take i ++ [x] := by rw [List.take_add_one, ex] <;> rfl
    rw [tk]
    have E2 := E'.grow g
    have S2 := S'.trans (g.stp (F := F'))
    have zD2 : Z2 D = none := by
      cases z : Z2 D with
      | none => rfl
      | some o =>
        rcases g.nw D o z with h | h
        · rw [zD] at h; cases h
        · rw [hD'] at h; cases h
    refine ⟨x, Z2, F', mx, E2.wiped vs, p, fun σ2 E3 k => ?_⟩
    have hw : wipe σ2 vs = wipe σ vs := by
      rw [← wipe_wipe σ vs]
      refine wipe_eq ?_ fun j hj => k j fun z => hj (hts j z)
      rw [E3.len, (E2.wiped vs).len, bgx.len]
    have hx : ∀ i, i ∉ vs → (Γx x)[i]? = Γ1[i]? := fun i hi => (bgx.out i fun z => hi (hts i z)).trans (wipeG_get Γ1 vs i hi)
    have back : ∀ {Z3 : Hp} {F3 : Foot} {H3 : Hp}, En (Γx x) Z3 F3 σ2 H3 → Stp Z2 F' H2 Z3 F3 H3 → En Γ1 Z3 F3 σ H3 := fun E4 S4 => E1.unwiped E4 (S2.z.trans S4.z) hw hx ho
    have keep : ∀ {Z3 : Hp} {F3 : Foot} {H3 : Hp}, Stp Z2 F' H2 Z3 F3 H3 → Z3 D = none ∧ (∀ j, ¬ F3 j D) ∧ H3 D = some (.lst acc) := fun {Z3 F3 H3} S4 => by
      have hD2 : H2 D = some (.lst acc) := g.h D _ hD'
      refine ⟨?_, fun j hj => ?_, S4.fr D _ hD2 fD⟩
      · cases z : Z3 D with
        | none => rfl
        | some o =>
          rcases S4.zn D o z with h | h | ⟨j, h⟩
          · rw [zD2] at h; cases h
          · rw [hD2] at h; cases h
          · exact absurd h (fD j)
      · rcases S4.f j D hj with ⟨l, h⟩ | h
        · exact fD l h
        · rw [hD2] at h; cases h
    refine ⟨hw, x, mx, Z2, F', E3, fun b Z3 F3 H3 E4 S4 hb => ?_⟩
    cases b with
    | false =>
      show (if false = true then _ else _)
      rw [if_neg Bool.false_ne_true]
      obtain ⟨k1, k2, k3⟩ := keep S4
      exact ⟨Z3, F3, acc, ds, back E4 S4, S2.trans S4, k1, k2, k3, RpA.mono (g.z.trans S4.z) _ _ r, .skip lc hb⟩
    | true =>
      show (if true = true then _ else _)
      rw [if_pos rfl]
      refine ⟨x, mx, hb, Z3, F3, E4, fun u Z4 F4 H4 E5 S5 ⟨d, hd, pd⟩ => ?_⟩
      have S6 := S4.trans S5
      obtain ⟨k1, k2, k3⟩ := keep S6
      have l1 : acc.length ≤ i := by
        have := lc.len
        rw [← r.length, List.length_take] at this
        omega
      have E6 := back E5 S6
      have nD : ∀ {b : Addr} {o : HO}, Z4 b = some o → b ≠ D := fun e => ne_of_none e k1
      have E7 : En Γ1 Z4 F4 σ (upd H4 D (.lst (acc ++ [u]))) := by
        refine ⟨fun b o e => by rw [upd_ne (nD e)]; exact E6.zh b o e, E6.fsep, E6.fz, fun j b hj => ?_, fun j s e => (E6.slots j s e).grow (Same.refl _) fun b hb => upd_ne fun z => k2 j (by rw [← z]; exact hb), E6.len⟩
        obtain ⟨o, e⟩ := E6.fsome j b hj
        exact ⟨o, by rw [upd_ne fun z => k2 j (by rw [← z]; exact hj)]; exact e⟩
      have S7 := S2.trans S6
      have S8 : Stp Z1 F1 H1 Z4 F4 (upd H4 D (.lst (acc ++ [u]))) := ⟨S7.z, S7.f, S7.zn, fun b o e hn => by rw [upd_ne (ne_of_none e hD)]; exact S7.fr b o e hn, fun b o e => by
        rw [upd_ne (ne_of_none e hD)]
        exact S7.al b o e⟩
      exact ⟨acc, k3, by omega, Z4, F4, acc ++ [u], ds ++ [d], E7, S8, k1, k2, upd_same, (RpA.mono (g.z.trans S6.z) _ _ r).append (.cons pd .nil), .take lc hb hd⟩
  · have e : i = xs.length := by omega
    subst e
    rw [List.take_length] at lc
    exact .inl ⟨w.stops Z' H' c', q D acc ds Z' F' H' E' (S1.trans S') (S1.back hD) hD' zD fD r lc⟩
/-- deterministic -/
theorem bn_lcD {α : Type} {S : α → SV} {xs : List α} {k : α → Bool} {f : α → PyData} {elt tg iter : Expr} {ifs : List Expr} {scope : Scope} {own : List (Str × Nat)} {Γx : α → List Sl} {ts : List Nat} {W : List Sl → Prop} (hI : BIW X Γ tg iter S xs Γ1 W) (hW : W Γ1)
    (hg : ∀ (s : Shared) (H : Hp) (C : Addr) (cl : List (Str × Addr)) (fp : List Addr) (x : α), x ∈ xs → BG (X.blk s H scope (compEnvC scope cl C X.env) fp) (wipeG Γ1 (own.map (·.2))) tg (S x) (Γx x) ts)
    (ht : ∀ (s : Shared) (H : Hp) (C : Addr) (cl : List (Str × Addr)) (fp : List Addr) (x : α), x ∈ xs → BTs (X.blk s H scope (compEnvC scope cl C X.env) fp) (Γx x) ifs (· = k x))
    (he : ∀ (s : Shared) (H : Hp) (C : Addr) (cl : List (Str × Addr)) (fp : List Addr) (x : α), x ∈ xs → k x = true → BE (X.blk s H scope (compEnvC scope cl C X.env) fp) (Γx x) elt (IsD X.K (f x)) (Γx x))
    (hz : xs.length ≤ sizeLine) (hc : X.calm = true) (hN : X.N.Nodup) (ok : BlkOk X.N X.env.scope scope own) (hno : noOwn Γ1 (own.map (·.2)) = true) (hts' : (ts.all fun i => (own.map (·.2)).contains i) = true)
    (hs : ∀ x, foldedSetIterable iter X.env x = pure x := by intro _; rfl) : BN X Γ (.ListComp elt [⟨tg, iter, ifs, 0⟩] scope pos) (· = (xs.filter k).map f) Γ1 :=
  (bn_lc (β := fun x b => b = k x) (Φ := fun x d => d = f x) hI hW hg (fun s H C cl fp x m => ht s H C cl fp x m) (fun s H C cl fp x m b => (he s H C cl fp x m b.symm).le fun Z v p => ⟨f x, rfl, p⟩) hno hts' hz hc hN ok hs).le fun ds h => h.det
theorem bn_lcM {α : Type} {S : α → SV} {xs : List α} {f : α → PyData} {elt tg iter : Expr} {scope : Scope} {own : List (Str × Nat)} {Γx : α → List Sl} {ts : List Nat} {W : List Sl → Prop} (hI : BIW X Γ tg iter S xs Γ1 W) (hW : W Γ1)
    (hg : ∀ (s : Shared) (H : Hp) (C : Addr) (cl : List (Str × Addr)) (fp : List Addr) (x : α), x ∈ xs → BG (X.blk s H scope (compEnvC scope cl C X.env) fp) (wipeG Γ1 (own.map (·.2))) tg (S x) (Γx x) ts)
    (he : ∀ (s : Shared) (H : Hp) (C : Addr) (cl : List (Str × Addr)) (fp : List Addr) (x : α), x ∈ xs → BE (X.blk s H scope (compEnvC scope cl C X.env) fp) (Γx x) elt (IsD X.K (f x)) (Γx x))
    (hz : xs.length ≤ sizeLine) (hc : X.calm = true) (hN : X.N.Nodup) (ok : BlkOk X.N X.env.scope scope own) (hno : noOwn Γ1 (own.map (·.2)) = true) (hts' : (ts.all fun i => (own.map (·.2)).contains i) = true)
    (hs : ∀ x, foldedSetIterable iter X.env x = pure x := by intro _; rfl) : BN X Γ (.ListComp elt [⟨tg, iter, [], 0⟩] scope pos) (· = xs.map f) Γ1 :=
  (bn_lcD (k := fun _ => true) hI hW hg (fun _ _ _ _ _ _ _ => bts_nil) (fun s H C cl fp x m _ => he s H C cl fp x m) hz hc hN ok hno hts' hs).le fun ds h => by rw [h, List.filter_eq_self.mpr fun _ _ => rfl]
end
end B

/-! What a def promises of data: FS (its arguments frozen), FM (its first argument its own to change); calls. -/
namespace B
open PySem PySem.Spec PyProof.Rows L2
def foot0 (G : Addr → Prop) : Foot := fun j a => j = 0 ∧ G a
abbrev Ps (Z : Hp) (Ps : List SV) (vs : List V) : Prop := Paired (fun (P : SV) v => P.p Z v) Ps vs
def FS {ι : Type} (Φ : ι → Prop) (A : ι → List SV) (R : ι → SV) : Sp := fun vs H Q _ => ∃ i Z, Φ i ∧ Same Z H ∧ Ps Z (A i) vs ∧ ∀ v Z' H', Gr Z H Z' H' → (R i).p Z' v → Q v H'
abbrev noF : Foot := fun _ _ => False
/-- what is new in a result: nobody's -/
def NewF (G : Addr → Prop) (Z' H H' : Hp) (G0 G' : Addr → Prop) : Prop := ∀ a, G a → Z' a = none ∧ (G0 a ∨ H a = none) ∧ (∃ o, H' a = some o) ∧ ¬ G' a
/-- arguments frozen, the result new and one's own -/
def FN {ι ρ : Type} (Φ : ι → Prop) (A : ι → List SV) (Ψ : ι → ρ → Prop) (RO : ι → ρ → OV) : Sp := fun vs H Q _ => ∃ i Z, Φ i ∧ Same Z H ∧ Ps Z (A i) vs ∧
  ∀ r v Z' (G : Addr → Prop) H', Ψ i r → Stp Z noF H Z' noF H' → Same Z' H' → (RO i r).p v G H' Z' → NewF G Z' H H' (fun _ => False) (fun _ => False) → Q v H'
/-- the first argument is the def's own, to change; the result may be new -/
def FW {ι ρ : Type} (Φ : ι → Prop) (O : ι → OV) (A : ι → List SV) (Ψ : ι → ρ → Prop) (RO : ι → ρ → OV) (O' : ι → OV) : Sp := fun vs H Q _ => ∃ i Z v0 ws, ∃ G : Addr → Prop, vs = v0 :: ws ∧ Φ i ∧ Same Z H ∧ (∀ a, G a → Z a = none) ∧ (∀ a, G a → ∃ o, H a = some o) ∧ (O i).p v0 G H Z ∧ Ps Z (A i) ws ∧
  ∀ r v Z' (G' Gr : Addr → Prop) H', Ψ i r → Stp Z (foot0 G) H Z' (foot0 G') H' → Same Z' H' → (∀ a, G' a → Z' a = none) → (∀ a, G' a → ∃ o, H' a = some o) → (O' i).p v0 G' H' Z' → (RO i r).p v Gr H' Z' → NewF Gr Z' H H' G G' → Q v H'
abbrev FM {ι ρ : Type} (Φ : ι → Prop) (O : ι → OV) (A : ι → List SV) (Ψ : ι → ρ → Prop) (R : ι → ρ → SV) (O' : ι → OV) : Sp := FW Φ O A Ψ (fun i r => ovS (R i r)) O'
/-- what is returned is what was promised -/
def RV.gives : RV → List Sl → OV → Prop
  | .fz P, _, O => ∀ Z v, P.p Z v → ∀ H, O.p v (fun _ => False) H Z
  | .at j, Γ, O => ∃ O0 : OV, Γ[j]? = some (.own O0) ∧ O0.le O
theorem OV.le_refl (O : OV) : O.le O := fun _ _ _ _ h => h
/-- what is one's own at slot 0 in the end -/
def Ends (Γ : List Sl) (O : OV) : Prop := ∃ O0 : OV, Γ[0]? = some (.own O0) ∧ O0.le O
theorem RV.gives_fz {P P' : SV} (Γ : List Sl) (h : P.le P') : (RV.fz P).gives Γ (ovS P') := fun Z v p _ => ⟨fun _ z => z, h Z v p⟩
/-- the def named x keeps sp (dvs: the defaults that fill up) -/
def Df (P : Program) (w : World) (K : PySem.W.Frag) (mg : Str → Option Value) (base : Heap) (x : Str) (ps : List Str) (dvs : List V) (k : Nat) (sp : Sp) : Prop :=
  ∃ f fd ds, mg x = some (.ref f) ∧ PySem.W.keepIn K (.ref f) = true ∧ Binds K fd ps ds ∧ Vals dvs ds ∧ FnOk P w K mg base CX0 k f fd ps sp
section
variable {P : Program} {w : World} {K : PySem.W.Frag} {mg : Str → Option Value} {base : Heap}
theorem ps_len {Z : Hp} : ∀ {A : List SV} {vs : List V}, Ps Z A vs → A.length = vs.length
  | _, _, .nil => rfl
  | _, _, .cons _ t => by simp [ps_len t]
theorem slots_start {Z H : Hp} : ∀ {A : List SV} {vs : List V} (n : Nat), Ps Z A vs → ∀ (i : Nat) (s : Sl), (A.map Sl.fz ++ List.replicate n Sl.un)[i]? = some s → SlOk s (vs.map some ++ List.replicate n (none : Option V))[i]? (fun _ => False) Z H
  | _, _, n, .nil, i, s, e => by
    simp only [List.map_nil, List.nil_append, List.getElem?_replicate] at e
    split at e <;> cases e
    trivial
  | _, _, n, .cons r t, 0, s, e => by
    simp at e
    subst e
    exact ⟨_, rfl, r⟩
  | _, _, n, .cons r t, i + 1, s, e => slots_start n t i s (by simpa using e)
abbrev G0 (N ps : List Str) (A : List SV) : List Sl := A.map .fz ++ List.replicate (N.length - ps.length) .un
theorem Fun.okB {x qual : Str} {st : Stmt} {f : Addr} {fd : FuncData} {N ps : List Str} {k : Nat} {ι : Type} {Φ : ι → Prop} {A : ι → List SV} {R : ι → SV} (F : Fun K x qual st f fd) (S : FnScope N ps (defScope st)) (hA : ∀ i, (A i).length = ps.length)
    (hb : ∀ (cdv : Value) (B : Around) (outer : List Env) (s : Shared) (H : Hp) (E : XK) (i : ι), Room k (B.deeper (envOfC qual (defScope st) s.heap.objs.size f cdv)) → Φ i →
      BSs (cxOf CX0 P w K mg base N qual (defScope st) f cdv B outer s H E).nox (G0 N ps (A i)) (defBody st) { nx := fun _ => (dN K).le (R i), rt := fun P _ => P.le (R i) }) : FnOk P w K mg base CX0 (k + 1) f fd ps (FS Φ A R) := by
  refine F.ok S (fun vs H Q E ⟨i, Z, φ, z, p, _⟩ => by rw [← ps_len p, hA]) (fun cdv B outer s H vs Q E hr ⟨i, Z, φ, zh, p, q⟩ => ⟨_, hb cdv B outer s H E i hr φ, Z, fun _ _ => False, ?_, ?_, ?_, ?_, ?_⟩)
  · refine ⟨zh, fun _ _ _ h => h.elim, fun _ _ h => h.elim, fun _ _ h => h.elim, fun j s' e => ?_, ?_⟩
    · have e2 := slots_start (H := H) (N.length - ps.length) p j s' e
      show SlOk s' (vs.map some ++ List.replicate (N.length - vs.length) none)[j]? _ Z H
      rw [← ps_len p, hA]
      exact e2
    · show (vs.map some ++ List.replicate (N.length - vs.length) none).length = _
      rw [List.length_append, List.length_append, List.length_map, List.length_map, List.length_replicate, List.length_replicate, ← ps_len p, hA]
  · intro Γ' Z' F' σ' H' n E' S'
    exact q _ Z' H' ⟨fun a o e => S'.fr a o e fun _ h => h, S'.z, E'.zh, fun a o e => (S'.zn a o e).elim .inl fun h => h.elim .inr fun ⟨_, h⟩ => h.elim⟩ (n Z' _ .non)
  · intro P' Γ' v Z' F' σ' H' n E' S' pv
    cases P' with
    | fz P0 => exact q _ Z' H' ⟨fun a o e => S'.fr a o e fun _ h => h, S'.z, E'.zh, fun a o e => (S'.zn a o e).elim .inl fun h => h.elim .inr fun ⟨_, h⟩ => h.elim⟩ (n Z' _ pv)
    | «at» j => exact n.elim
  · intro Γ' Z' F' σ' H' n E' S'
    exact n.elim
  · intro Γ' Z' F' σ' H' n E' S'
    exact n.elim
/-- with a new result -/
theorem Fun.okN {x qual : Str} {st : Stmt} {f : Addr} {fd : FuncData} {N ps : List Str} {k : Nat} {ι ρ : Type} {Φ : ι → Prop} {A : ι → List SV} {Ψ : ι → ρ → Prop} {RO : ι → ρ → OV} (F : Fun K x qual st f fd) (S : FnScope N ps (defScope st)) (hA : ∀ i, (A i).length = ps.length)
    (hb : ∀ (cdv : Value) (B : Around) (outer : List Env) (s : Shared) (H : Hp) (E : XK) (i : ι), Room k (B.deeper (envOfC qual (defScope st) s.heap.objs.size f cdv)) → Φ i →
      BSs (cxOf CX0 P w K mg base N qual (defScope st) f cdv B outer s H E).nox (G0 N ps (A i)) (defBody st) { nx := fun _ => False, rt := fun P Γ => ∃ r, Ψ i r ∧ P.gives Γ (RO i r) }) : FnOk P w K mg base CX0 (k + 1) f fd ps (FN Φ A Ψ RO) := by
  refine F.ok S (fun vs H Q E ⟨i, Z, φ, z, p, _⟩ => by rw [← ps_len p, hA]) (fun cdv B outer s H vs Q E hr ⟨i, Z, φ, zh, p, q⟩ => ⟨_, hb cdv B outer s H E i hr φ, Z, noF, ?_, ?_, ?_, ?_, ?_⟩)
  · refine ⟨zh, fun _ _ _ h => h.elim, fun _ _ h => h.elim, fun _ _ h => h.elim, fun j s' e => ?_, ?_⟩
    · have e2 := slots_start (H := H) (N.length - ps.length) p j s' e
      show SlOk s' (vs.map some ++ List.replicate (N.length - vs.length) none)[j]? _ Z H
      rw [← ps_len p, hA]
      exact e2
    · show (vs.map some ++ List.replicate (N.length - vs.length) none).length = _
      rw [List.length_append, List.length_append, List.length_map, List.length_map, List.length_replicate, List.length_replicate, ← ps_len p, hA]
  all_goals try exact fun _ _ _ _ _ n => n.elim
  intro P' Γ' v Z' F' σ' H' ⟨r, ψ, n⟩ E' S' pv
  have S2 : Stp Z noF H Z' noF H' := ⟨S'.z, fun _ _ h => h.elim, S'.zn, S'.fr, S'.al⟩
  cases P' with
  | fz P0 => exact q r v Z' (fun _ => False) H' ψ S2 E'.zh (n Z' v pv H') fun _ h => h.elim
  | «at» j =>
    obtain ⟨O0, n0, nle⟩ := n
    obtain ⟨y, ey, oy0⟩ := E'.slots j _ n0
    have oy := nle _ _ _ _ oy0
    have pv' : σ'[j]? = some (some v) := pv
    rw [ey] at pv'
    cases pv'
    refine q r v Z' (F' j) H' ψ S2 E'.zh oy fun a h => ⟨E'.fz j a h, ?_, E'.fsome j a h, fun z => z⟩
    rcases S'.f j a h with ⟨_, z⟩ | z
    · exact z.elim
    · exact .inr z
/-- with a first argument of its own -/
theorem Fun.okW {x qual : Str} {st : Stmt} {f : Addr} {fd : FuncData} {N ps : List Str} {k : Nat} {ι ρ : Type} {Φ : ι → Prop} {O : ι → OV} {A : ι → List SV} {Ψ : ι → ρ → Prop} {RO : ι → ρ → OV} {O' : ι → OV} (F : Fun K x qual st f fd) (S : FnScope N ps (defScope st)) (hA : ∀ i, (A i).length + 1 = ps.length)
    (hv : ∀ i, ∃ v0, (∀ v G H Z, (O i).p v G H Z → v = v0) ∧ ∀ v G H Z, (O' i).p v G H Z → v = v0)
    (hb : ∀ (cdv : Value) (B : Around) (outer : List Env) (s : Shared) (H : Hp) (E : XK) (i : ι), Room k (B.deeper (envOfC qual (defScope st) s.heap.objs.size f cdv)) → Φ i →
      BSs (cxOf CX0 P w K mg base N qual (defScope st) f cdv B outer s H E).nox (.own (O i) :: G0 N ps (A i)) (defBody st)
        { nx := fun Γ => ∃ r, Ψ i r ∧ (RV.fz (dN K)).gives Γ (RO i r) ∧ Ends Γ (O' i), rt := fun P Γ => ∃ r, Ψ i r ∧ P ≠ .at 0 ∧ P.gives Γ (RO i r) ∧ Ends Γ (O' i) }) : FnOk P w K mg base CX0 (k + 1) f fd ps (FW Φ O A Ψ RO O') := by
  refine F.ok S (fun vs H Q E ⟨i, Z, v0, ws, G, e, φ, z, g1, g2, o, p, _⟩ => by rw [e, List.length_cons, ← ps_len p, hA]) (fun cdv B outer s H vs Q E hr ⟨i, Z, v0, ws, G, e, φ, zh, g1, g2, o, p, q⟩ => ⟨_, hb cdv B outer s H E i hr φ, Z, foot0 G, ?_, ?_, ?_, ?_, ?_⟩)
  · subst e
    refine ⟨zh, fun a b _ h h' => by rw [h.1, h'.1], fun _ _ h => g1 _ h.2, fun _ _ h => g2 _ h.2, fun j s' e => ?_, ?_⟩
    · cases j with
      | zero =>
        simp at e
        subst e
        refine ⟨v0, rfl, ?_⟩
        have : foot0 G 0 = G := by funext a; simp [foot0]
        rw [this]
        exact o
      | succ j =>
        have e2 := slots_start (H := H) (N.length - ps.length) p j s' (by simpa using e)
        show SlOk s' (some v0 :: ws.map some ++ List.replicate (N.length - (v0 :: ws).length) none)[j + 1]? _ Z H
        rw [List.length_cons, ← ps_len p, hA]
        have : foot0 G (j + 1) = fun _ => False := by funext a; simp [foot0]
        rw [this]
        simpa using e2
    · show (some v0 :: ws.map some ++ List.replicate (N.length - (v0 :: ws).length) none).length = _
      have l1 := ps_len p
      have l2 := hA i
      simp only [List.length_append, List.length_map, List.length_replicate, List.length_cons]
      omega
  all_goals try exact fun _ _ _ _ _ n => n.elim
  · intro Γ' Z' F' σ' H' ⟨r, ψ, n, O0, e0, ele⟩ E' S'
    obtain ⟨y, ey, oy0⟩ := E'.slots 0 _ e0
    have oy := ele _ _ _ _ oy0
    obtain ⟨w0, h1, h2⟩ := hv i
    have e1 : y = v0 := (h2 _ _ _ _ oy).trans (h1 _ _ _ _ o).symm
    subst e1
    exact q r _ Z' (F' 0) (fun _ => False) H' ψ ⟨S'.z, fun j a h => (S'.f 0 a h.2), S'.zn, S'.fr, S'.al⟩ E'.zh (fun a h => E'.fz 0 a h) (fun a h => E'.fsome 0 a h) oy (n Z' _ .non H') fun _ h => h.elim
  · intro P' Γ' v Z' F' σ' H' ⟨r, ψ, p0, n, O0, e0, ele⟩ E' S' pv
    obtain ⟨y, ey, oy0⟩ := E'.slots 0 _ e0
    have oy := ele _ _ _ _ oy0
    obtain ⟨w0, h1, h2⟩ := hv i
    have e1 : y = v0 := (h2 _ _ _ _ oy).trans (h1 _ _ _ _ o).symm
    subst e1
    have S2 : Stp Z (foot0 G) H Z' (foot0 (F' 0)) H' := ⟨S'.z, fun j a h => (S'.f 0 a h.2), S'.zn, S'.fr, S'.al⟩
    cases P' with
    | fz P0 => exact q r _ Z' (F' 0) (fun _ => False) H' ψ S2 E'.zh (fun a h => E'.fz 0 a h) (fun a h => E'.fsome 0 a h) oy (n Z' _ pv H') fun _ h => h.elim
    | «at» j =>
      obtain ⟨O1, n1, nle⟩ := n
      obtain ⟨u, eu, ou0⟩ := E'.slots j _ n1
      have ou := nle _ _ _ _ ou0
      have pv' : σ'[j]? = some (some v) := pv
      rw [eu] at pv'
      cases pv'
      refine q r _ Z' (F' 0) (F' j) H' ψ S2 E'.zh (fun a h => E'.fz 0 a h) (fun a h => E'.fsome 0 a h) oy ou fun a h => ⟨E'.fz j a h, ?_, E'.fsome j a h, fun z => ?_⟩
      · rcases S'.f j a h with ⟨_, z⟩ | z
        · exact .inl z.2
        · exact .inr z
      · exact p0 (by rw [E'.fsep j 0 a h z])
end

/-! ### calls -/
section
variable {X : Cx} {Γ Γ' Γ1 Γ2 Γ3 : List Sl} {P P' P1 P2 P3 : SV} {a b c e : Expr} {es : List Expr} {pos p apos : Pos} {K : PySem.W.Frag} {R : Post} {x m : Str} {ps : List Str} {dvs : List V} {k : Nat} {ι ρ : Type}
  {Φ : ι → Prop} {A : ι → List SV} {Rf : ι → SV} {O : ι → OV} {Ψ : ι → ρ → Prop} {Rm : ι → ρ → SV} {O' : ι → OV}
theorem be_call (i : ι) (D : Df X.prog X.w X.K X.mg X.base x ps [] k (FS Φ A Rf)) (hr : Room k X.A) (hg : Gl X x) (ha : BA X Γ (e :: es) (A i) Γ') (φ : Φ i) (hdb : (x == ("__debug__" : Str)) = false := by decide)
    (he : starEach (e :: es) X.env = (false, eval e X.env) :: starEach es X.env := by rfl) (hpl : (backTo pos (starEach es X.env)).any (·.1) = false := by rfl) : BE X Γ (.Call (.Name x p) (e :: es) [] pos) (Rf i) Γ' := by
  obtain ⟨f, fd, ds, hm, hk, hb, hd, F⟩ := D
  refine PE.imp (pe_call F hr hg hm hk hb hd pass0 ha hdb he hpl) fun σ H Q ⟨Z, F0, E, q⟩ => ⟨Z, F0, E, fun vs Z1 F1 H1 E1 S1 ps => ⟨i, Z1, φ, E1.zh, by rw [List.append_nil]; exact ps, fun v Z' H' g pv => q v Z' F1 H' (E1.grow g) (S1.trans g.stp) pv⟩⟩
/-- with one default value -/
theorem be_callD {dvs : List V} {Ad : List SV} (i : ι) (D : Df X.prog X.w X.K X.mg X.base x ps dvs k (FS Φ A Rf)) (hr : Room k X.A) (hg : Gl X x) {As : List SV} (ha : BA X Γ (e :: es) As Γ') (hA : A i = As ++ Ad) (hdv : ∀ Z, Ps Z Ad dvs) (φ : Φ i) (hdb : (x == ("__debug__" : Str)) = false := by decide)
    (he : starEach (e :: es) X.env = (false, eval e X.env) :: starEach es X.env := by rfl) (hpl : (backTo pos (starEach es X.env)).any (·.1) = false := by rfl) : BE X Γ (.Call (.Name x p) (e :: es) [] pos) (Rf i) Γ' := by
  obtain ⟨f, fd, ds, hm, hk, hb, hd, F⟩ := D
  have app : ∀ {Z : Hp} {A B : List SV} {vs ws : List V}, Ps Z A vs → Ps Z B ws → Ps Z (A ++ B) (vs ++ ws) := by
    intro Z A B vs ws h h'
    induction h with
    | nil => exact h'
    | cons r _ ih => exact .cons r ih
  refine PE.imp (pe_call F hr hg hm hk hb hd pass0 ha hdb he hpl) fun σ H Q ⟨Z, F0, E, q⟩ => ⟨Z, F0, E, fun vs Z1 F1 H1 E1 S1 ps => ⟨i, Z1, φ, E1.zh, by rw [hA]; exact app ps (hdv Z1), fun v Z' H' g pv => q v Z' F1 H' (E1.grow g) (S1.trans g.stp) pv⟩⟩
/-- what a call that changes slot j leaves -/
theorem En.called {Z Z' H H' : Hp} {F : Foot} {σ : L2.St} {j : Nat} {v : V} {O' : OV} {G' : Addr → Prop} (E : En Γ Z F σ H) (S : Stp Z (foot0 (F j)) H Z' (foot0 G') H') (hz : Same Z' H') (g1 : ∀ a, G' a → Z' a = none) (g2 : ∀ a, G' a → ∃ o, H' a = some o) (hv : σ[j]? = some (some v)) (o : O'.p v G' H' Z') :
    En (Γ.set j (.own O')) Z' (footSet F j G') σ H' ∧ Stp Z F H Z' (footSet F j G') H' := by
  have new : ∀ a, G' a → F j a ∨ H a = none := fun a h => by
    rcases S.f 0 a ⟨rfl, h⟩ with ⟨_, h1⟩ | h1
    · exact .inl h1.2
    · exact .inr h1
  have keep : ∀ i a, i ≠ j → F i a → H' a = H a := fun i a hi h => by
    obtain ⟨o, e⟩ := E.fsome i a h
    rw [e]
    exact S.fr a o e fun l hl => hi (E.fsep i j a h hl.2)
  refine ⟨⟨hz, fun i l a h1 h2 => ?_, fun i a h => ?_, fun i a h => ?_, fun i s e => ?_, by rw [List.length_set]; exact E.len⟩, ⟨S.z, fun i a h => ?_, fun a o e => ?_, fun a o e hn => S.fr a o e fun l hl => hn j hl.2, S.al⟩⟩
  · by_cases hi : i = j
    · by_cases hl : l = j
      · rw [hi, hl]
      · rw [hi, foot_at] at h1
        rw [foot_ne hl] at h2
        rcases new a h1 with z | z
        · exact absurd (E.fsep l j a h2 z) hl
        · obtain ⟨o, e⟩ := E.fsome l a h2
          rw [z] at e; cases e
    · by_cases hl : l = j
      · rw [hl, foot_at] at h2
        rw [foot_ne hi] at h1
        rcases new a h2 with z | z
        · exact absurd (E.fsep i j a h1 z) hi
        · obtain ⟨o, e⟩ := E.fsome i a h1
          rw [z] at e; cases e
      · rw [foot_ne hi] at h1
        rw [foot_ne hl] at h2
        exact E.fsep i l a h1 h2
  · by_cases hi : i = j
    · rw [hi, foot_at] at h
      exact g1 a h
    · rw [foot_ne hi] at h
      cases z : Z' a with
      | none => rfl
      | some o =>
        rcases S.zn a o z with q | q | ⟨l, q⟩
        · rw [E.fz i a h] at q; cases q
        · obtain ⟨o', e⟩ := E.fsome i a h
          rw [q] at e; cases e
        · exact absurd (E.fsep i j a h q.2) hi
  · by_cases hi : i = j
    · rw [hi, foot_at] at h
      exact g2 a h
    · rw [foot_ne hi] at h
      obtain ⟨o, e⟩ := E.fsome i a h
      exact ⟨o, by rw [keep i a hi h]; exact e⟩
  · by_cases hi : j = i
    · subst hi
      rw [List.getElem?_set] at e
      simp only [if_true] at e
      split at e
      · cases e
        refine ⟨v, hv, ?_⟩
        have : footSet F j G' j = G' := by funext a; exact foot_at
        rw [this]
        exact o
      · cases e
    · rw [List.getElem?_set_ne hi] at e
      have : footSet F j G' i = F i := by funext a; exact foot_ne (Ne.symm hi)
      rw [this]
      exact (E.slots i s e).grow S.z (keep i · (Ne.symm hi))
  · by_cases hi : i = j
    · rw [hi, foot_at] at h
      exact (new a h).elim (fun z => .inl ⟨j, z⟩) .inr
    · rw [foot_ne hi] at h
      exact .inl ⟨i, h⟩
  · rcases S.zn a o e with q | q | ⟨l, q⟩
    · exact .inl q
    · exact .inr (.inl q)
    · exact .inr (.inr ⟨j, q.2⟩)
/-- what a call that changes something that is no slot's leaves -/
theorem En.aside {Z Z' H H' : Hp} {F : Foot} {σ : L2.St} {G G' : Addr → Prop} (E : En Γ Z F σ H) (S : Stp Z (foot0 G) H Z' (foot0 G') H') (hz : Same Z' H') (hG : ∀ a, G a → ∀ j, ¬ F j a) : En Γ Z' F σ H' := by
  have keep : ∀ i a, F i a → H' a = H a := fun i a h => by
    obtain ⟨o, e⟩ := E.fsome i a h
    rw [e]
    exact S.fr a o e fun l hl => hG a hl.2 i h
  refine ⟨hz, E.fsep, fun i a h => ?_, fun i a h => ?_, fun i s e => (E.slots i s e).grow S.z (keep i), E.len⟩
  · cases z : Z' a with
    | none => rfl
    | some o =>
      rcases S.zn a o z with q | q | ⟨l, q⟩
      · rw [E.fz i a h] at q; cases q
      · obtain ⟨o', e⟩ := E.fsome i a h
        rw [q] at e; cases e
      · exact absurd h (hG a q.2 i)
  · obtain ⟨o, e⟩ := E.fsome i a h
    exact ⟨o, by rw [keep i a h]; exact e⟩
variable {RO : ι → ρ → OV} {C : Addr}
/-- f(e, ..) with a new result -/
theorem bo_call (i : ι) (D : Df X.prog X.w X.K X.mg X.base x ps [] k (FN Φ A Ψ RO)) (hr : Room k X.A) (hg : Gl X x) (ha : BA X Γ (e :: es) (A i) Γ') (φ : Φ i) (hdb : (x == ("__debug__" : Str)) = false := by decide)
    (he : starEach (e :: es) X.env = (false, eval e X.env) :: starEach es X.env := by rfl) (hpl : (backTo pos (starEach es X.env)).any (·.1) = false := by rfl) : BO X Γ (.Call (.Name x p) (e :: es) [] pos) (Ψ i) (RO i) Γ' := by
  obtain ⟨f, fd, ds, hm, hk, hb, hd, F⟩ := D
  refine PE.imp (pe_call F hr hg hm hk hb hd pass0 ha hdb he hpl) fun σ H Q ⟨Z, F0, E, q⟩ => ⟨Z, F0, E, fun vs Z1 F1 H1 E1 S1 ps => ⟨i, Z1, φ, E1.zh, by rw [List.append_nil]; exact ps, fun r v Z' G H' ψ S2 hz o n => ?_⟩⟩
  have g : Gr Z1 H1 Z' H' := ⟨fun a o e => S2.fr a o e fun _ h => h, S2.z, hz, fun a o e => (S2.zn a o e).elim .inl fun h => h.elim .inr fun ⟨_, h⟩ => h.elim⟩
  refine q r v G Z' F1 H' (E1.grow g) (S1.trans g.stp) ψ o fun a h => ?_
  obtain ⟨n1, n2, n3, n4⟩ := n a h
  have h1 : H1 a = none := n2.elim (fun z => z.elim) id
  refine ⟨n1, .inr (S1.back h1), n3, fun j hj => ?_⟩
  obtain ⟨o', e⟩ := E1.fsome j a hj
  rw [h1] at e
  cases e
/-- behind a call that changes slot j -/
theorem bo_after {Z Z1 Z' H H1 H' : Hp} {F F1 : Foot} {σ : L2.St} {j : Nat} {v0 : V} {O' : OV} {G' Gn : Addr → Prop} (E1 : En Γ1 Z1 F1 σ H1) (S1 : Stp Z F H Z1 F1 H1) (S' : Stp Z1 (foot0 (F1 j)) H1 Z' (foot0 G') H') (hz : Same Z' H') (g1 : ∀ a, G' a → Z' a = none) (g2 : ∀ a, G' a → ∃ o, H' a = some o)
    (ev : σ[j]? = some (some v0)) (o' : O'.p v0 G' H' Z') (n : NewF Gn Z' H1 H' (F1 j) G') : En (Γ1.set j (.own O')) Z' (footSet F1 j G') σ H' ∧ Stp Z F H Z' (footSet F1 j G') H' ∧ ∀ a, Gn a → Z' a = none ∧ ((∃ j, F j a) ∨ H a = none) ∧ (∃ o, H' a = some o) ∧ ∀ l, ¬ footSet F1 j G' l a := by
  obtain ⟨E2, S2⟩ := E1.called S' hz g1 g2 ev o'
  refine ⟨E2, S1.trans S2, fun a h => ?_⟩
  obtain ⟨n1, n2, n3, n4⟩ := n a h
  refine ⟨n1, ?_, n3, fun l hl => ?_⟩
  · rcases n2 with z | z
    · exact S1.f j a z
    · exact .inr (S1.back z)
  · by_cases hlj : l = j
    · rw [hlj, foot_at] at hl
      exact n4 hl
    · rw [foot_ne hlj] at hl
      rcases n2 with z | z
      · exact hlj (E1.fsep l j a hl z)
      · obtain ⟨o, e⟩ := E1.fsome l a hl
        rw [z] at e
        cases e
/-- f(x, e, ..): x, in slot j, is the caller's own and f's to change -/
theorem bo_callW {y : Str} {py : Pos} (j : Nat) (i : ι) (D : Df X.prog X.w X.K X.mg X.base x ps [] k (FW Φ O A Ψ RO O')) (hr : Room k X.A) (hg : Gl X x) (hΓ : Γ[j]? = some (.own (O i))) (ha : BA X Γ es (A i) Γ1) (hΓ1 : Γ1[j]? = some (.own (O i))) (φ : Φ i)
    (hN : X.N[j]? = some y) (hv : Vis X.env.scope y) (hdb : (x == ("__debug__" : Str)) = false := by decide) (hd : (y == ("__debug__" : Str)) = false := by decide) (hcd : (y == ("__classdict__" : Str)) = false := by decide)
    (he : starEach (.Name y py :: es) X.env = (false, eval (.Name y py) X.env) :: starEach es X.env := by rfl) (hpl : (backTo pos (starEach es X.env)).any (·.1) = false := by rfl) :
    BO X Γ (.Call (.Name x p) (.Name y py :: es) [] pos) (Ψ i) (RO i) (Γ1.set j (.own (O' i))) := by
  obtain ⟨f, fd, ds, hm, hk, hb, hds, F⟩ := D
  refine PE.imp (pe_call F hr hg hm hk hb hds pass0 (pa_cons (be_own j hΓ hN hv hd hcd) ha he) hdb he hpl) fun σ H Q ⟨Z, F0, E, q⟩ => ⟨Z, F0, E, fun v ev o => ⟨Z, F0, E, fun vs Z1 F1 H1 E1 S1 ps => ?_⟩⟩
  obtain ⟨u, eu, ou⟩ := E1.slots j _ hΓ1
  rw [ev] at eu
  cases eu
  refine ⟨i, Z1, v, vs, F1 j, by rw [List.append_nil], φ, E1.zh, E1.fz j, E1.fsome j, ou, ps, fun r u Z' G' Gn H' ψ S' hz g1 g2 o' pr n => ?_⟩
  obtain ⟨E2, S2, n2⟩ := bo_after E1 S1 S' hz g1 g2 ev o' n
  exact q r u Gn Z' _ H' E2 S2 ψ pr n2
/-- a method's place in its class -/
def DfM (P : Program) (w : World) (K : PySem.W.Frag) (mg : Str → Option Value) (base : Heap) (C : Addr) (m : Str) (ps : List Str) (dvs : List V) (k : Nat) (sp : Sp) : Prop :=
  ∃ f fd ds, Cls K C ∧ Meth K C m f ∧ Binds K fd ps ds ∧ Vals dvs ds ∧ FnOk P w K mg base CX0 k f fd ps sp
/-- an instance of C, without the attribute m -/
def InsV (C : Addr) (m : Str) (v : V) (H : Hp) : Prop := ∃ a dx fs, v = .ref a ∧ H a = some (.ins C dx fs) ∧ fs.lookup m = none
/-- x.m(e, ..): x, in slot j, is the caller's own and m's to change -/
theorem bo_methW {pl : Sem Bool} {y : Str} {py : Pos} (j : Nat) (i : ι) (D : DfM X.prog X.w X.K X.mg X.base C m ps [] k (FW Φ O A Ψ RO O')) (hr : Room k X.A) (hI : ∀ v F H Z, (O i).p v F H Z → InsV C m v H) (hΓ : Γ[j]? = some (.own (O i))) (ha : BA X Γ (e :: es) (A i) Γ1) (hΓ1 : Γ1[j]? = some (.own (O i))) (φ : Φ i)
    (hN : X.N[j]? = some y) (hv : Vis X.env.scope y) (hd : (y == ("__debug__" : Str)) = false := by decide) (hcd : (y == ("__classdict__" : Str)) = false := by decide)
    (hst : starEach (e :: es) X.env = (false, eval e X.env) :: starEach es X.env := by rfl) (hpl : (backTo pos (starEach es X.env)).any (·.1) = false := by rfl)
    (ht : eval (.Call (.Attribute (.Name y py) m apos) (e :: es) [] pos) X.env = (do
      let ov ← eval (.Name y py) X.env
      standAt apos.atName
      let (f, first) ← holding [ov] (getMethod ov m pl)
      callWith pos f first (backTo pos (starEach (e :: es) X.env)) (backToKw pos (keywordEach [] X.env))) := by rfl) :
    BO X Γ (.Call (.Attribute (.Name y py) m apos) (e :: es) [] pos) (Ψ i) (RO i) (Γ1.set j (.own (O' i))) := by
  obtain ⟨f, fd, ds, cl, hm, hb, hds, F⟩ := D
  refine PE.imp (pe_meth (be_own j hΓ hN hv hd hcd) cl hm F hr hb hds pass0 ha hst hpl ht) fun σ H Q ⟨Z, F0, E, q⟩ => ⟨Z, F0, E, fun v ev o => ?_⟩
  obtain ⟨a, dx, fs, e1, e2, e3⟩ := hI _ _ _ _ o
  refine ⟨a, dx, fs, e1, e2, e3, Z, F0, E, fun vs Z1 F1 H1 E1 S1 ps => ?_⟩
  obtain ⟨u, eu, ou⟩ := E1.slots j _ hΓ1
  rw [ev] at eu
  cases eu
  refine ⟨i, Z1, v, vs, F1 j, by rw [List.append_nil], φ, E1.zh, E1.fz j, E1.fsome j, ou, ps, fun r u Z' G' Gn H' ψ S' hz g1 g2 o' pr n => ?_⟩
  obtain ⟨E2, S2, n2⟩ := bo_after E1 S1 S' hz g1 g2 ev o' n
  exact q r u Gn Z' _ H' E2 S2 ψ pr n2
theorem bo_methW0 {pl : Sem Bool} {y : Str} {py : Pos} (j : Nat) (i : ι) (D : DfM X.prog X.w X.K X.mg X.base C m ps [] k (FW Φ O A Ψ RO O')) (hr : Room k X.A) (hI : ∀ v F H Z, (O i).p v F H Z → InsV C m v H) (hΓ : Γ[j]? = some (.own (O i))) (hA : A i = []) (φ : Φ i)
    (hN : X.N[j]? = some y) (hv : Vis X.env.scope y) (hd : (y == ("__debug__" : Str)) = false := by decide) (hcd : (y == ("__classdict__" : Str)) = false := by decide)
    (ht : eval (.Call (.Attribute (.Name y py) m apos) [] [] pos) X.env = (do
      let ov ← eval (.Name y py) X.env
      standAt apos.atName
      let (f, first) ← holding [ov] (getMethod ov m pl)
      callWith pos f first (backTo pos (starEach [] X.env)) (backToKw pos (keywordEach [] X.env))) := by rfl) :
    BO X Γ (.Call (.Attribute (.Name y py) m apos) [] [] pos) (Ψ i) (RO i) (Γ.set j (.own (O' i))) := by
  obtain ⟨f, fd, ds, cl, hm, hb, hds, F⟩ := D
  refine PE.imp (pe_meth0 (be_own j hΓ hN hv hd hcd) cl hm F hr hb hds pass0 ht) fun σ H Q ⟨Z, F0, E, q⟩ => ⟨Z, F0, E, fun v ev o => ?_⟩
  obtain ⟨a, dx, fs, e1, e2, e3⟩ := hI _ _ _ _ o
  refine ⟨a, dx, fs, e1, e2, e3, ?_⟩
  refine ⟨i, Z, v, [], F0 j, rfl, φ, E.zh, E.fz j, E.fsome j, o, by rw [hA]; exact .nil, fun r u Z' G' Gn H' ψ S' hz g1 g2 o' pr n => ?_⟩
  obtain ⟨E2, S2, n2⟩ := bo_after E Stp.refl S' hz g1 g2 ev o' n
  exact q r u Gn Z' _ H' E2 S2 ψ pr n2
/-- a new instance of C, still bare -/
def ownNew (C p : Addr) : OV := ⟨fun v F H Z => v = .ref p ∧ (∀ a, F a ↔ a = p) ∧ ∃ dx, H p = some (.ins C dx []), fun ⟨e, f, dx, h⟩ z k => ⟨e, f, dx, by rw [k p ((f p).mpr rfl)]; exact h⟩⟩
/-- C(e, ..), by what its __init__ promises of the bare instance -/
def DfC (P : Program) (w : World) (K : PySem.W.Frag) (mg : Str → Option Value) (base : Heap) (x : Str) (C : Addr) (ps : List Str) (dvs : List V) (k : Nat) (sp : Sp) : Prop :=
  ∃ f fd ds, Mk K C f ∧ mg x = some (.ref C) ∧ Binds K fd ps ds ∧ Vals dvs ds ∧ FnOk P w K mg base CX0 k f fd ps sp
theorem bo_make {RS : ι → ρ → SV} (i : Addr → ι) (D : DfC X.prog X.w X.K X.mg X.base x C ps [] k (FM Φ O A Ψ RS O')) (hr : Room (k + 1) X.A) (hg : Gl X x) {As : List SV} (ha : BA X Γ (e :: es) As Γ1) (hA : ∀ p, A (i p) = As) (hO : ∀ p, O (i p) = ownNew C p) (hv : ∀ p v G H Z, (O' (i p)).p v G H Z → v = .ref p) (hR : ∀ p r, (RS (i p) r).le (dN X.K)) (φ : ∀ p, Φ (i p))
    (hdb : (x == ("__debug__" : Str)) = false := by decide) (he : starEach (e :: es) X.env = (false, eval e X.env) :: starEach es X.env := by rfl) (hpl : (backTo pos (starEach es X.env)).any (·.1) = false := by rfl) : BO X Γ (.Call (.Name x p) (e :: es) [] pos) (fun _ : Addr => True) (fun p => O' (i p)) Γ1 := by
  obtain ⟨f, fd, ds, M, hm, hb, hds, F⟩ := D
  refine PE.imp (pe_make M F hr hg hm hb hds pass0 ha hdb he hpl) fun σ H Q ⟨Z, F0, E, q⟩ => ⟨Z, F0, E, fun vs Z1 F1 H1 E1 S1 ps y dx hy hdx ne => ?_⟩
  have gA := Gr.lost (o := .own y) E1.zh hdx
  have hy2 : upd H1 dx (.own y) y = none := by rw [upd_ne (Ne.symm ne)]; exact hy
  have gB := Gr.lost (o := .ins C dx []) gA.zh hy2
  have g := gA.trans gB
  have E2 := E1.grow g
  have zy : Z1 y = none := E1.zh.free hy
  refine ⟨i y, Z1, .ref y, vs, (· = y), by rw [List.append_nil], φ y, E2.zh, fun a e => by rw [e]; exact zy, fun a e => by rw [e]; exact ⟨_, upd_same⟩, by rw [hO]; exact ⟨rfl, fun a => Iff.rfl, dx, upd_same⟩, by rw [hA]; exact ps, fun r u Z' G' Gn H' ψ S' hz g1 g2 o' pr n => ⟨dN_p (hR y r _ _ pr.2), ?_⟩⟩
  have noY : ∀ a, a = y → ∀ j, ¬ F1 j a := fun a e j h => by
    obtain ⟨o, e2⟩ := E1.fsome j a h
    rw [e, hy] at e2
    cases e2
  have E3 := E2.aside S' hz noY
  have back2 : ∀ a, upd (upd H1 dx (.own y)) y (.ins C dx []) a = none → H1 a = none := fun a h => g.h.free h
  have S3 : Stp Z1 F1 H1 Z' F1 H' := ⟨S'.z, fun l a h => .inl ⟨l, h⟩, fun a o e => by
    rcases S'.zn a o e with h | h | ⟨l, h⟩
    · exact .inl h
    · exact .inr (.inl (back2 a h))
    · exact .inr (.inl (by rw [h.2]; exact hy)), fun a o e hn => S'.fr a o (g.h a o e) (fun l hl => by
        have : a = y := hl.2
        rw [this, hy] at e
        cases e), fun a o e => S'.al a o (g.h a o e)⟩
  have new : ∀ a, G' a → H1 a = none := fun a h => by
    rcases S'.f 0 a ⟨rfl, h⟩ with ⟨l, z⟩ | z
    · have : a = y := z.2
      rw [this]
      exact hy
    · exact back2 a z
  refine q y (.ref y) G' Z' F1 H' E3 (S1.trans S3) trivial o' fun a h => ⟨g1 a h, .inr (S1.back (new a h)), g2 a h, fun j hj => ?_⟩
  obtain ⟨o, e⟩ := E1.fsome j a hj
  rw [new a h] at e
  cases e
end
end B

/-! zip of two texts; built-in calls; methods of texts. -/
namespace B
open PySem PySem.Spec PyProof.Rows L2
/-- two texts side by side, the signs in new pairs -/
def ItzS (x y : Str) : It :=
  ⟨fun i _ => i < min x.cps.size y.cps.size, fun i H v H' => ∃ T c d, v = .ref T ∧ H T = none ∧ H' = upd H T (.tup [.str ⟨#[c]⟩, .str ⟨#[d]⟩]) ∧ x.cps[i]? = some c ∧ y.cps[i]? = some d, fun i _ => i = min x.cps.size y.cps.size⟩
theorem turn_zipS {P : Program} {w : World} {K : PySem.W.Frag} {elts : List Expr} {kk : Nat} {tpos : Pos} {x y : Str} {t u : Tok} {z TI TO i1 i2 : Addr} (D : ZipSep2 z TI TO i1 i2 [i1] [i2]) :
    Turn P w K (.Tuple elts kk tpos) (ItzS x y) [z, TI, TO, i1, i2] z (fun i h => IsZip h z TI TO .none ∧ IsTupOf2 h TI (.ref i1) (.ref i2) ∧ (∃ a1 a2, IsTupOf2 h TO a1 a2) ∧ h.IsStrIter i1 (strIterType x) x t i ∧ h.IsStrIter i2 (strIterType y) y u i) where
  mem := by simp
  obj := fun i h st c hc => by
    obtain ⟨hz, hTI, ⟨a1, a2, hTO⟩, ⟨o1, e1, _, d1⟩, ⟨o2, e2, _, d2⟩⟩ := st
    have e' : c = z ∨ c = TI ∨ c = TO ∨ c = i1 ∨ c = i2 := by simpa using hc
    rcases e' with q | q | q | q | q
    · rw [q]; exact ⟨_, hz, fun v q => nomatch q⟩
    · rw [q]; exact ⟨_, hTI, fun v q => nomatch q⟩
    · rw [q]; exact ⟨_, hTO, fun v q => nomatch q⟩
    · rw [q]; exact ⟨o1, e1, fun v q => by rw [d1] at q; cases q⟩
    · rw [q]; exact ⟨o2, e2, fun v q => by rw [d2] at q; cases q⟩
  keep := fun i h h' st k => by
    obtain ⟨hz, hTI, ⟨x, y, hTO⟩, ⟨o1, e1, f1⟩, ⟨o2, e2, f2⟩⟩ := st
    exact ⟨k z (by simp) _ hz, k TI (by simp) _ hTI, ⟨x, y, k TO (by simp) _ hTO⟩, ⟨o1, k i1 (by simp) _ e1, f1⟩, ⟨o2, k i2 (by simp) _ e2, f2⟩⟩
  item := by
    intro X hP hw hK hc i pins s σ H E I hf st hg
    subst hP hw hK
    have hh : X.A.in1.handled = none := I.ok.hd hc
    have W := GoesN.zip2 (prog := X.prog) (w := X.w) (A := X.A) (elts := elts) (x1 := kk) (pos := tpos) D (Draws.text hh i1 x t) (Draws.text hh i2 y u)
    have zlt : ∀ c ∈ [z, TI, TO, i1, i2], c < s.heap.objs.size := fun c hcm => by
      obtain ⟨hz, hTI, ⟨a1, a2, hTO⟩, ⟨o1, e1, _, d1⟩, ⟨o2, e2, _, d2⟩⟩ := st
      have e' : c = z ∨ c = TI ∨ c = TO ∨ c = i1 ∨ c = i2 := by simpa using hcm
      rcases e' with q | q | q | q | q
      · rw [q]; exact Heap.lt_size hz
      · rw [q]; exact Heap.lt_size hTI
      · rw [q]; exact Heap.lt_size hTO
      · rw [q]; exact Heap.lt_size e1
      · rw [q]; exact Heap.lt_size e2
    refine W.goes i s (fun u' s2 => ∃ x_1 H', L2.Inv X pins σ H' s2 ∧ RelV x_1 u' ∧ (ItzS x y).yld i H x_1 H' ∧ (IsZip s2.heap z TI TO .none ∧ IsTupOf2 s2.heap TI (.ref i1) (.ref i2) ∧ (∃ a1 a2, IsTupOf2 s2.heap TO a1 a2) ∧ s2.heap.IsStrIter i1 (strIterType x) x t (i + 1) ∧ s2.heap.IsStrIter i2 (strIterType y) y u (i + 1)) ∧ ∀ b ∈ [z, TI, TO, i1, i2], H' b = none) _ hg st fun v h' tk ⟨T, vx, vy, ev, hT, ⟨c, t1, ex, evx⟩, ⟨d, t2, ey, evy⟩, hTup⟩ st' hk htk => ?_
    subst ev evx evy
    obtain ⟨o, ho, hcl, n, hd⟩ := hTup
    have new : ObjOk X.prog X.w (upd H T (.tup [.str ⟨#[c]⟩, .str ⟨#[d]⟩])) h' T (.tup [.str ⟨#[c]⟩, .str ⟨#[d]⟩]) :=
      ⟨by show 2 ≤ sizeLine; decide, [.str ⟨#[c]⟩ t1, .str ⟨#[d]⟩ t2], .cons ⟨_, rfl⟩ (.cons ⟨_, rfl⟩ .nil), ⟨o, ho, hcl, n, hd⟩⟩
    have I1 := I.turnedNew (t' := tk) (ch := [z, TI, TO, i1, i2]) (fun b o hb q => hk b o (fun q' => hb (by
      have : b = z ∨ b = TO ∨ b = i1 ∨ b = i2 := by simpa using q'
      rcases this with r | r | r | r <;> simp [r])) q) hf hT new
    refine ⟨.ref T, _, I1, rfl, ⟨T, c, d, rfl, I.hok.fresh hT, rfl, ex, ey⟩, st', fun b hb => ?_⟩
    rw [upd_ne (Nat.ne_of_lt (Nat.lt_of_lt_of_le (zlt b hb) hT))]
    exact (hf b hb).1
  done := by
    intro X hP hw hK hc i pins s σ H E I hf st hg
    subst hP hw hK
    have hh : X.A.in1.handled = none := I.ok.hd hc
    have hg' : i = min x.cps.size y.cps.size := hg
    subst hg'
    have W := GoesN.zip2 (prog := X.prog) (w := X.w) (A := X.A) (elts := elts) (x1 := kk) (pos := tpos) D (Draws.text hh i1 x t) (Draws.text hh i2 y u)
    exact W.stops s _ _ st fun h' tk hk htk => I.turnedL (ch := [z, TI, TO, i1, i2]) (fun b o hb q => hk b o (fun q' => hb (by
      have : b = z ∨ b = TO ∨ b = i1 ∨ b = i2 := by simpa using q'
      rcases this with r | r | r | r <;> simp [r])) q) hf
  self := fun A i s Q E st h => wpAny_pyIter_zip st.1 h
def iZipS (ta : TA) : TI := fun σ H R => ta σ H fun vs H1 => ∃ x y, vs = [.str x, .str y] ∧ R (ItzS x y) H1
theorem pi_zipS {X : Cx} {e e2 : Expr} {ta : TA} {p pos tpos : Pos} {elts : List Expr} {kk : Nat} (hg : Gl X "zip") (hm : X.mg "zip" = none) (ha : PA X [e, e2] ta)
    (hs : starEach [e, e2] X.env = (false, eval e X.env) :: starEach [e2] X.env := by rfl) (hpl : (backTo pos (starEach [e2] X.env)).any (·.1) = false := by rfl) :
    PI X (.Tuple elts kk tpos) (.Call (.Name "zip" p) [e, e2] [] pos) (iZipS ta) := by
  refine ⟨fun pins s σ H R I h => ?_⟩
  refine Call_ (ld_blt I hg hm PyProof.Rows.boot_zip (PyProof.Rows.callWith_type1 (thn (ha.run pos pins s σ H _ I h) fun us s1 ⟨vs, H1, I1, r1, q1⟩ => ?_) hs hpl))
  obtain ⟨x, y, ex, q⟩ := q1
  subst ex
  cases r1 with
  | cons r rr =>
    cases rr with
    | cons r' rr =>
      cases rr
      obtain ⟨t, rfl⟩ := r
      obtain ⟨u, rfl⟩ := r'
      refine zip_begins2 (begins_text x t) (begins_text y u) trivial trivial fun h' hz hTI hTO h1 h2 hsz hk => wpAny_pyIter_zip hz ?_
      have I2 : L2.Inv X pins σ H1 { s1 with heap := h' } := I1.kept (t' := s1.toks) hk
      have D : ZipSep2 (s1.heap.objs.size + 4) (s1.heap.objs.size + 2) (s1.heap.objs.size + 3) s1.heap.objs.size (s1.heap.objs.size + 1) [s1.heap.objs.size] [s1.heap.objs.size + 1] := zip_sep2 (fp1 := []) (fp2 := []) (by simp) (by simp)
      refine ⟨s1.heap.objs.size + 4, [s1.heap.objs.size + 4, s1.heap.objs.size + 2, s1.heap.objs.size + 3, s1.heap.objs.size, s1.heap.objs.size + 1], _, _, H1, rfl, I2, turn_zipS (t := t) (u := u) D, ⟨hz, hTI, ⟨_, _, hTO⟩, ⟨_, h1, rfl, rfl⟩, ⟨_, h2, rfl, rfl⟩⟩, fun c hcm => ?_, q⟩
      have e' : c = s1.heap.objs.size + 4 ∨ c = s1.heap.objs.size + 2 ∨ c = s1.heap.objs.size + 3 ∨ c = s1.heap.objs.size ∨ c = s1.heap.objs.size + 1 := by simpa using hcm
      have hle : s1.heap.objs.size ≤ c := by
        rcases e' with z | z | z | z | z
        · rw [z]; exact Nat.le_add_right _ _
        · rw [z]; exact Nat.le_add_right _ _
        · rw [z]; exact Nat.le_add_right _ _
        · rw [z]; exact Nat.le_refl _
        · rw [z]; exact Nat.le_add_right _ _
      exact I1.fpOk hle (I1.hok.fresh hle)
section
variable {X : Cx} {Γ Γ' Γ1 Γ2 Γ3 : List Sl} {P P' P1 P2 P3 : SV} {a b c e : Expr} {es : List Expr} {pos p apos : Pos} {K : PySem.W.Frag} {R : Post} {x m : Str}
theorem bi_zipS {elts : List Expr} {kk : Nat} {tpos : Pos} {s t : Str} (hg : Gl X "zip") (hm : X.mg "zip" = none) (h : BA X Γ [a, b] [dS X.K s, dS X.K t] Γ1)
    (hs : starEach [a, b] X.env = (false, eval a X.env) :: starEach [b] X.env := by rfl) (hpl : (backTo pos (starEach [b] X.env)).any (·.1) = false := by rfl) :
    BI X Γ (.Tuple elts kk tpos) (.Call (.Name "zip" p) [a, b] [] pos) (fun x : Nat × Nat => dU X.K [.str ⟨#[x.1]⟩, .str ⟨#[x.2]⟩]) (s.cps.toList.zip t.cps.toList) Γ1 :=
  PI.imp (pi_zipS hg hm h hs hpl) fun σ H R ⟨Z, F, E, q⟩ => ⟨Z, F, E, fun vs Z1 F1 H1 E1 S1 ps => by
    cases ps with
    | cons p1 ps =>
      cases ps with
      | cons p2 ps =>
        cases ps
        obtain rfl := dS_p p1
        obtain rfl := dS_p p2
        have hn : (s.cps.toList.zip t.cps.toList).length = min s.cps.size t.cps.size := by rw [List.length_zip]; simp
        refine ⟨s, t, rfl, q _ Z1 F1 H1 E1 S1 ⟨fun i H hi z => by rw [hn] at hi; exact hi, fun H z => hn, fun i H x H' Z hi z1 z2 y => ?_⟩⟩
        obtain ⟨T, c, d, rfl, hT, rfl, e1, e2⟩ := y
        have g := Gr.new (o := .tup [.str ⟨#[c]⟩, .str ⟨#[d]⟩]) z2 hT
        exact ⟨_, (c, d), g, by rw [List.getElem?_zip_eq_some]; exact ⟨by simpa using e1, by simpa using e2⟩, .tup (SqT.of upd_same) (.cons (.str _) (.cons (.str _) .nil))⟩⟩

/-! ### built-in calls -/
def CallB (X : Cx) (f : Value) (As : List SV) (P : SV) : Prop := CallR X f fun vs H Q => ∃ Z, Same Z H ∧ Ps Z As vs ∧ ∀ v Z' H', Gr Z H Z' H' → P.p Z' v → Q v H'
theorem CallR.imp {f : Value} {r r' : List V → Hp → VK → Prop} (h : CallR X f r) (k : ∀ xs H Q, r' xs H Q → r xs H Q) : CallR X f r' := fun pins s σ H xs us Q I r q => h pins s σ H xs us Q I r (k xs H Q q)
theorem be_builtin {id : String} {As : List SV} (hc : CallB X (.builtin id) As P) (hg : Gl X x) (hm : X.mg x = none) (hv : bootBuiltins x = some (.builtin id)) (ha : BA X Γ (e :: es) As Γ') (hn : x ≠ "__name__" := by decide) (hdb : (x == ("__debug__" : Str)) = false := by decide)
    (he : starEach (e :: es) X.env = (false, eval e X.env) :: starEach es X.env := by rfl) (hpl : (backTo pos (starEach es X.env)).any (·.1) = false := by rfl) : BE X Γ (.Call (.Name x p) (e :: es) [] pos) P Γ' :=
  PE.imp (pe_callB hc hg hm hv ha hn hdb he hpl) fun σ H Q ⟨Z, F, E, q⟩ => ⟨Z, F, E, fun vs Z1 F1 H1 E1 S1 ps => ⟨Z1, E1.zh, ps, fun v Z' H' g pv => q v Z' F1 H' (E1.grow g) (S1.trans g.stp) pv⟩⟩
theorem be_type {T : String} {As : List SV} (hc : CallB X (.type T) As P) (hg : Gl X x) (hm : X.mg x = none) (hv : bootBuiltins x = some (.type T)) (ha : BA X Γ (e :: es) As Γ') (hn : x ≠ "__name__" := by decide) (hdb : (x == ("__debug__" : Str)) = false := by decide)
    (he : starEach (e :: es) X.env = (false, eval e X.env) :: starEach es X.env := by rfl) (hpl : (backTo pos (starEach es X.env)).any (·.1) = false := by rfl) : BE X Γ (.Call (.Name x p) (e :: es) [] pos) P Γ' :=
  PE.imp (pe_callTy hc hg hm hv ha hn hdb he hpl) fun σ H Q ⟨Z, F, E, q⟩ => ⟨Z, F, E, fun vs Z1 F1 H1 E1 S1 ps => ⟨Z1, E1.zh, ps, fun v Z' H' g pv => q v Z' F1 H' (E1.grow g) (S1.trans g.stp) pv⟩⟩
/-- a built-in that gives a new list -/
theorem bn_type {T : String} {As : List SV} {ds : List PyData} (hc : CallR X (.type T) fun vs H Q => ∃ Z, Same Z H ∧ Ps Z As vs ∧ ∀ us, RpA X.K Z us ds → ∀ p, H p = none → Q (.ref p) (upd H p (.lst us))) (hg : Gl X x) (hm : X.mg x = none) (hv : bootBuiltins x = some (.type T)) (ha : BA X Γ (e :: es) As Γ')
    (hn : x ≠ "__name__" := by decide) (hdb : (x == ("__debug__" : Str)) = false := by decide) (he : starEach (e :: es) X.env = (false, eval e X.env) :: starEach es X.env := by rfl) (hpl : (backTo pos (starEach es X.env)).any (·.1) = false := by rfl) : BN X Γ (.Call (.Name x p) (e :: es) [] pos) (· = ds) Γ' :=
  bn_of (pe_callTy hc hg hm hv ha hn hdb he hpl) fun σ H Q ⟨Z, F, E, q⟩ => ⟨Z, F, E, fun vs Z1 F1 H1 E1 S1 ps => ⟨Z1, E1.zh, ps, fun us r p hp => q us ds Z1 F1 H1 E1 S1 r rfl p hp⟩⟩
theorem cb_lenL {ds : List PyData} : CallB X (.builtin "len") [dL X.K ds] (dI X.K (ds.length : Int)) :=
  CallR.imp call_len_seq fun vs H Q ⟨Z, zh, ps, q⟩ => by
    cases ps with
    | cons p ps =>
      cases ps
      obtain ⟨a, us, rfl, h, r⟩ := dL_p p
      exact ⟨a, us, rfl, .inl (SqL.of (zh _ _ h)), q _ Z H (Gr.refl zh) (by rw [r.length]; exact .int _)⟩
theorem cb_lenU {ds : List PyData} : CallB X (.builtin "len") [dU X.K ds] (dI X.K (ds.length : Int)) :=
  CallR.imp call_len_seq fun vs H Q ⟨Z, zh, ps, q⟩ => by
    cases ps with
    | cons p ps =>
      cases ps
      obtain ⟨a, us, rfl, h, r⟩ := dU_p p
      exact ⟨a, us, rfl, .inr (SqT.up zh h), q _ Z H (Gr.refl zh) (by rw [r.length]; exact .int _)⟩
theorem cb_lenS {z : Str} (hz : z.length ≤ sizeLine) : CallB X (.builtin "len") [dS X.K z] (dI X.K (z.length : Int)) :=
  CallR.imp call_len_str fun vs H Q ⟨Z, zh, ps, q⟩ => by
    cases ps with
    | cons p ps =>
      cases ps
      obtain rfl := dS_p p
      exact ⟨z, rfl, hz, q _ Z H (Gr.refl zh) (.int _)⟩
theorem cb_all {bs : List Bool} (hc : X.calm = true) : CallB X (.builtin "all") [dL X.K (bs.map .bool)] (dB X.K (bs.all id)) :=
  CallR.imp (cr_all hc) fun vs H Q ⟨Z, zh, ps, q⟩ => by
    cases ps with
    | cons p ps =>
      cases ps
      obtain ⟨a, us, rfl, h, r⟩ := dL_p p
      have e := rpA_of_bools bs r
      subst e
      exact ⟨a, bs, rfl, SqL.of (zh _ _ h), q _ Z H (Gr.refl zh) (.bl _)⟩
theorem cb_any {bs : List Bool} (hc : X.calm = true) : CallB X (.builtin "any") [dL X.K (bs.map .bool)] (dB X.K (bs.any id)) :=
  CallR.imp (cr_any hc) fun vs H Q ⟨Z, zh, ps, q⟩ => by
    cases ps with
    | cons p ps =>
      cases ps
      obtain ⟨a, us, rfl, h, r⟩ := dL_p p
      have e := rpA_of_bools bs r
      subst e
      exact ⟨a, bs, rfl, SqL.of (zh _ _ h), q _ Z H (Gr.refl zh) (.bl _)⟩
theorem cb_int {i : Int} : CallB X (.type "int") [dI X.K i] (dI X.K i) :=
  CallR.imp call_int1 fun vs H Q ⟨Z, zh, ps, q⟩ => by
    cases ps with
    | cons p ps =>
      cases ps
      obtain rfl := dI_p p
      exact .inl ⟨i, rfl, q _ Z H (Gr.refl zh) (.int _)⟩
/-- all([..]), any([..]) -/
theorem be_allC {α : Type} {xs : List α} {k : α → Bool} (h : BN X Γ e (· = xs.map fun x => PyData.bool (k x)) Γ') (hg : Gl X "all") (hm : X.mg "all" = none) (hc : X.calm = true) (he : starEach [e] X.env = (false, eval e X.env) :: starEach [] X.env := by rfl) : BE X Γ (.Call (.Name "all" p) [e] [] pos) (dB X.K (xs.all k)) Γ' := by
  have h' : BN X Γ e (· = (xs.map k).map PyData.bool) Γ' := h.le fun ds e => by
    have e' : ds = xs.map fun x => PyData.bool (k x) := e
    show ds = (xs.map k).map PyData.bool
    rw [e', List.map_map]
    rfl
  have q := be_builtin (p := p) (pos := pos) (x := "all") (cb_all hc) hg hm (by decide +kernel) (ba_cons (be_newD h') ba_nil he) (he := he)
  rw [List.all_map] at q
  exact q
theorem be_anyC {α : Type} {xs : List α} {k : α → Bool} (h : BN X Γ e (· = xs.map fun x => PyData.bool (k x)) Γ') (hg : Gl X "any") (hm : X.mg "any" = none) (hc : X.calm = true) (he : starEach [e] X.env = (false, eval e X.env) :: starEach [] X.env := by rfl) : BE X Γ (.Call (.Name "any" p) [e] [] pos) (dB X.K (xs.any k)) Γ' := by
  have h' : BN X Γ e (· = (xs.map k).map PyData.bool) Γ' := h.le fun ds e => by
    have e' : ds = xs.map fun x => PyData.bool (k x) := e
    show ds = (xs.map k).map PyData.bool
    rw [e', List.map_map]
    rfl
  have q := be_builtin (p := p) (pos := pos) (x := "any") (cb_any hc) hg hm (by decide +kernel) (ba_cons (be_newD h') ba_nil he) (he := he)
  rw [List.any_map] at q
  exact q
/-- list(xs) -/
theorem bn_listL {ds : List PyData} (hg : Gl X "list") (hm : X.mg "list" = none) (ha : BA X Γ [e] [dL X.K ds] Γ') (he : starEach [e] X.env = (false, eval e X.env) :: starEach [] X.env := by rfl) : BN X Γ (.Call (.Name "list" p) [e] [] pos) (· = ds) Γ' :=
  bn_type (T := "list") (CallR.imp call_list_of fun vs H Q ⟨Z, zh, ps, q⟩ => by
    cases ps with
    | cons p ps =>
      cases ps
      obtain ⟨a, us, rfl, h, r⟩ := dL_p p
      exact ⟨a, us, rfl, .inl (SqL.of (zh _ _ h)), fun l hl => q us r l hl⟩) hg hm (by decide +kernel) ha (he := he)
/-- the class str, int, .. as a value -/
def tyS (n : String) : SV := ⟨fun _ v => v = .ty n, fun _ h => h⟩
theorem be_ty {n : String} (hg : Gl X x) (hm : X.mg x = none) (hv : bootBuiltins x = some (.type n)) (hn : x ≠ "__name__" := by decide) (hd : (x == ("__debug__" : Str)) = false := by decide) : BE X Γ (.Name x pos) (tyS n) Γ := be_val (pe_bltn hg hm hv (v := .ty n) rfl hn hd) fun _ => rfl

/-! ### methods of texts -/
theorem be_lower {z : Str} (h : BE X Γ e (dS X.K z) Γ') (hz : z.length ≤ 5592405) (hpe : ∀ t, PE X e t → PE X (.Call (.Attribute e "lower" apos) [] [] pos) (tM0 (fun x xs H Q => ∃ a, x = .str a ∧ xs = [] ∧ a.length ≤ 5592405 ∧ Q (.str (Txt.lower a)) H) t) := by exact fun _ h => pe_lower h) :
    BE X Γ (.Call (.Attribute e "lower" apos) [] [] pos) (dS X.K (Txt.lower z)) Γ' :=
  PE.imp (hpe _ h) fun σ H Q ⟨Z, F, E, q⟩ => ⟨Z, F, E, fun v Z' F' H' E' S p => by
    obtain rfl := dS_p p
    exact ⟨⟨z, rfl⟩, z, rfl, rfl, hz, q _ Z' F' H' E' S (.str _)⟩⟩
theorem be_upper {z : Str} (h : BE X Γ e (dS X.K z) Γ') (hz : z.length ≤ 5592405) (hpe : ∀ t, PE X e t → PE X (.Call (.Attribute e "upper" apos) [] [] pos) (tM0 (fun x xs H Q => ∃ a, x = .str a ∧ xs = [] ∧ a.length ≤ 5592405 ∧ Q (.str (Txt.upper a)) H) t) := by exact fun _ h => pe_upper h) :
    BE X Γ (.Call (.Attribute e "upper" apos) [] [] pos) (dS X.K (Txt.upper z)) Γ' :=
  PE.imp (hpe _ h) fun σ H Q ⟨Z, F, E, q⟩ => ⟨Z, F, E, fun v Z' F' H' E' S p => by
    obtain rfl := dS_p p
    exact ⟨⟨z, rfl⟩, z, rfl, rfl, hz, q _ Z' F' H' E' S (.str _)⟩⟩
theorem be_join {z : Str} {ys : List Str} (h : BE X Γ a (dS X.K z) Γ1) (hb : BE X Γ1 b (dL X.K (ys.map .str)) Γ2) (hz : (ys.map (·.length)).sum + ys.length * z.length ≤ 16777216)
    (hpe : ∀ t t', PE X a t → PE X b t' → PE X (.Call (.Attribute a "join" apos) [b] [] pos) (tM1 (fun x xs H Q => ∃ a p, ∃ ys : List Str, x = .str a ∧ xs = [.ref p] ∧ (SqL X.K H p (ys.map V.str) ∨ SqT X.K H p (ys.map V.str)) ∧ (ys.map (·.length)).sum + ys.length * a.length ≤ 16777216 ∧ Q (.str (Txt.join a ys)) H) t t') := by exact fun _ _ h h' => pe_join h h') :
    BE X Γ (.Call (.Attribute a "join" apos) [b] [] pos) (dS X.K (Txt.join z ys)) Γ2 :=
  PE.imp (hpe _ _ h hb) fun σ H Q ⟨Z, F, E, q⟩ => ⟨Z, F, E, fun v Z' F' H' E' S p => by
    obtain rfl := dS_p p
    refine ⟨⟨z, rfl⟩, Z', F', E', fun v2 Z2 F2 H2 E2 S2 p2 => ?_⟩
    obtain ⟨l, us, rfl, h1, r⟩ := dL_p p2
    have e := rpA_of_strs ys r
    subst e
    exact ⟨z, l, ys, rfl, rfl, .inl (SqL.of (E2.zh _ _ h1)), hz, q _ Z2 F2 H2 E2 (S.trans S2) (.str _)⟩⟩
end
end B

/-! Slices; truth of values; chains; unary minus; stores to one's own lists. -/
namespace B
open PySem PySem.Spec PyProof.Rows L2
section
variable {X : Cx} {Γ Γ' Γ1 Γ2 Γ3 : List Sl} {P P' P1 P2 P3 : SV} {a b c e : Expr} {es : List Expr} {pos p apos : Pos} {K : PySem.W.Frag} {R : Post} {x m : Str}
def BP (X : Cx) (Γ : List Sl) (e : Option Expr) (o : Option Int) (Γ' : List Sl) : Prop := PO X e fun σ H Q => ∃ Z F, En Γ Z F σ H ∧ ∀ Z' F' H', En Γ' Z' F' σ H' → Stp Z F H Z' F' H' → Q o H'
theorem PO.imp {e : Option Expr} {t t' : TO} (h : PO X e t) (k : ∀ σ H Q, t' σ H Q → t σ H Q) : PO X e t' := ⟨fun pins s σ H Q I q => h.run pins s σ H Q I (k σ H Q q)⟩
theorem bp_none : BP X Γ none none Γ := PO.imp po_none fun σ H Q ⟨Z, F, E, q⟩ => q Z F H E Stp.refl
theorem bp_some {i : Int} (h : BE X Γ e (dI X.K i) Γ') : BP X Γ (some e) (some i) Γ' := PO.imp (po_some h) fun σ H Q ⟨Z, F, E, q⟩ => ⟨Z, F, E, fun v Z' F' H' E' S p => ⟨i, dI_p p, q Z' F' H' E' S⟩⟩
theorem be_slS {lo hi : Option Expr} {l u : Option Int} {p2 : Pos} {z : Str} (he : BE X Γ e (dS X.K z) Γ1) (hl : BP X Γ1 lo l Γ2) (hu : BP X Γ2 hi u Γ3) (hz : z.length ≤ sizeLine) : BE X Γ (.Subscript e (.Slice lo hi none p2) pos) (dS X.K (cutS z l u)) Γ3 :=
  PE.imp (pe_slice sl_str he hl hu) fun σ H Q ⟨Z, F, E, q⟩ => ⟨Z, F, E, fun v Z1 F1 H1 E1 S1 p => ⟨Z1, F1, E1, fun Z2 F2 H2 E2 S2 => ⟨Z2, F2, E2, fun Z3 F3 H3 E3 S3 => ⟨z, dS_p p, hz, q _ Z3 F3 H3 E3 ((S1.trans S2).trans S3) (.str _)⟩⟩⟩⟩
def cutL {α : Type} (xs : List α) (lo hi : Option Int) : List α := (xs.drop (HT.sIx xs.length 0 lo)).take (HT.sIx xs.length xs.length hi - HT.sIx xs.length 0 lo)
theorem cutL_from {α : Type} (xs : List α) (n : Nat) : cutL xs (some (n : Int)) none = xs.drop n := by
  unfold cutL
  rw [HT.sIx_nat, HT.sIx_none]
  by_cases h : n ≤ xs.length
  · rw [Nat.min_eq_left h, List.take_of_length_le (by simp)]
  · rw [Nat.min_eq_right (by omega), List.drop_of_length_le (Nat.le_refl _), List.drop_of_length_le (by omega), List.take_nil]
theorem cutL_to {α : Type} (xs : List α) (n : Nat) : cutL xs none (some (n : Int)) = xs.take n := by
  unfold cutL
  rw [HT.sIx_nat, HT.sIx_none, List.drop_zero, Nat.sub_zero]
  by_cases h : n ≤ xs.length
  · rw [Nat.min_eq_left h]
  · rw [Nat.min_eq_right (by omega), List.take_of_length_le (Nat.le_refl _), List.take_of_length_le (by omega)]
theorem cutL_last {α : Type} (xs : List α) : cutL xs none (some (-1)) = xs.dropLast := by
  unfold cutL
  rw [HT.sIx_none, List.drop_zero, Nat.sub_zero]
  show List.take (if (-1 : Int) < 0 then ((-1 : Int) + (xs.length : Int)).toNat else min ((-1 : Int).toNat) xs.length) xs = _
  rw [if_pos (by decide), List.dropLast_eq_take]
  congr 1
  omega
theorem cutS_cut (z : Str) (lo hi : Option Int) : (cutS z lo hi).cps.toList = cutL z.cps.toList lo hi := by
  unfold cutS cutL
  have : z.cps.toList.length = z.length := by simp [Str.length]
  rw [this]
theorem bn_slL {lo hi : Option Expr} {l u : Option Int} {p2 : Pos} {ds : List PyData} (he : BE X Γ e (dL X.K ds) Γ1) (hl : BP X Γ1 lo l Γ2) (hu : BP X Γ2 hi u Γ3) : BN X Γ (.Subscript e (.Slice lo hi none p2) pos) (· = cutL ds l u) Γ3 :=
  bn_of (pe_slice sl_list he hl hu) fun σ H Q ⟨Z, F, E, q⟩ => ⟨Z, F, E, fun v Z1 F1 H1 E1 S1 p => ⟨Z1, F1, E1, fun Z2 F2 H2 E2 S2 => ⟨Z2, F2, E2, fun Z3 F3 H3 E3 S3 => by
    obtain ⟨a, us, rfl, ha, r⟩ := dL_p ((dL X.K ds).mono (S2.z.trans S3.z) p)
    have hlen := r.length
    refine ⟨a, us, rfl, SqL.of (E3.zh _ _ ha), fun p hp => q _ _ Z3 F3 H3 E3 ((S1.trans S2).trans S3) ?_ rfl p hp⟩
    unfold cutV cutL
    rw [hlen]
    exact (r.drop _).take _⟩⟩⟩
theorem be_neg {i : Int} (h : BE X Γ a (dI X.K i) Γ') : BE X Γ (.UnaryOp .USub a pos) (dI X.K (-i)) Γ' := PE.imp (pe_un un_neg h) fun σ H Q ⟨Z, F, E, q⟩ => ⟨Z, F, E, fun v Z' F' H' E' S p => ⟨i, dI_p p, q _ Z' F' H' E' S (.int _)⟩⟩
/-- truth of what is a text, a list, .. -/
theorem bt_truth {k : Bool} (h : BE X Γ a P Γ') (ht : ∀ Z H v, Same Z H → P.p Z v → TruV X.K v H k) (he : ∀ whole, isTrue a X.env whole = (do let v ← whole; standAt a.pos; holding [v] (truthy v)) := by intro _; rfl) : BT X Γ a (· = k) Γ' :=
  PT.imp (pt_truth h he) fun σ H Q ⟨Z, F, E, q⟩ => ⟨Z, F, E, fun v Z' F' H' E' S p => ⟨k, ht Z' H' v E'.zh p, q k Z' F' H' E' S rfl⟩⟩
/-- not x, x and y, x or y as values -/
theorem be_not {k : Bool} (h : BE X Γ a (dB X.K k) Γ') : BE X Γ (.UnaryOp .Not a pos) (dB X.K (!k)) Γ' := PE.imp (pe_not h) fun σ H Q ⟨Z, F, E, q⟩ => ⟨Z, F, E, fun v Z' F' H' E' S p => ⟨k, dB_p p, q _ Z' F' H' E' S (.bl _)⟩⟩
theorem be_one {op} (h : BE X Γ a P Γ') : BE X Γ (.BoolOp op [a] pos) P Γ' := pe_one h
theorem be_and {rest : List Expr} {k k' : Bool} (ha : BE X Γ a (dB X.K k) Γ1) (hb : k = true → BE X Γ1 (.BoolOp .And (b :: rest) pos) (dB X.K k') Γ1) : BE X Γ (.BoolOp .And (a :: b :: rest) pos) (dB X.K (k && k')) Γ1 := by
  cases k with
  | true =>
    refine PE.imp (pe_and ha (hb rfl)) fun σ H Q ⟨Z, F, E, q⟩ => ⟨Z, F, E, fun v Z' F' H' E' S p => ⟨true, dB_p p, ?_⟩⟩
    rw [if_pos rfl]
    exact ⟨Z', F', E', fun v2 Z2 F2 H2 E2 S2 p2 => q v2 Z2 F2 H2 E2 (S.trans S2) p2⟩
  | false =>
    refine ⟨fun pins s σ H Q I ⟨Z, F, E, q⟩ => ?_⟩
    refine PyProof.Rows.BoolOp_and (thn (PE.run ha pins s σ H _ I ⟨Z, F, E, fun v Z' F' H' E' S p => (⟨dB_p p, q _ Z' F' H' E' S (.bl _)⟩ : (fun v H' => v = .bl false ∧ Q (.bl (false && k')) H') v H')⟩) fun v s1 ⟨x, H1, I1, r1, e1, q1⟩ => ?_)
    subst e1
    cases r1
    exact wpAny_truthy_bool ⟨.bl false, H1, I1, rfl, q1⟩
theorem be_or {rest : List Expr} {k k' : Bool} (ha : BE X Γ a (dB X.K k) Γ1) (hb : k = false → BE X Γ1 (.BoolOp .Or (b :: rest) pos) (dB X.K k') Γ1) : BE X Γ (.BoolOp .Or (a :: b :: rest) pos) (dB X.K (k || k')) Γ1 := by
  cases k with
  | false =>
    refine PE.imp (pe_or ha (hb rfl)) fun σ H Q ⟨Z, F, E, q⟩ => ⟨Z, F, E, fun v Z' F' H' E' S p => ⟨false, dB_p p, ?_⟩⟩
    rw [if_neg Bool.false_ne_true]
    exact ⟨Z', F', E', fun v2 Z2 F2 H2 E2 S2 p2 => q v2 Z2 F2 H2 E2 (S.trans S2) p2⟩
  | true =>
    refine ⟨fun pins s σ H Q I ⟨Z, F, E, q⟩ => ?_⟩
    refine PyProof.Rows.BoolOp_or (thn (PE.run ha pins s σ H _ I ⟨Z, F, E, fun v Z' F' H' E' S p => (⟨dB_p p, q _ Z' F' H' E' S (.bl _)⟩ : (fun v H' => v = .bl true ∧ Q (.bl (true || k')) H') v H')⟩) fun v s1 ⟨x, H1, I1, r1, e1, q1⟩ => ?_)
    subst e1
    cases r1
    exact wpAny_truthy_bool ⟨.bl true, H1, I1, rfl, q1⟩
/-- any two of a Bool's answers: a test whose outcome hangs on what is drawn -/
theorem BT.any {k : Bool} (h : BT X Γ e (· = k) Γ') : BT X Γ e (fun _ => True) Γ' := h.le fun _ _ => trivial

/-! ### one's own list: read, stored to -/
/-- what can be read of a value for one step: an own thing, seen as data -/
theorem be_ownIx {y : Str} {py : Pos} {q : Addr} {ds : List PyData} {i : Int} {d : PyData} (j : Nat) (hΓ : Γ[j]? = some (.own (ownL X.K q ds))) (hb : BE X Γ b (dI X.K i) Γ1) (hΓ1 : Γ1[j]? = some (.own (ownL X.K q ds))) (hi : atI ds i = some d) (hN : X.N[j]? = some y) (hv : Vis X.env.scope y)
    (hs : PlainIx b := by exact fun _ _ => rfl) (hd : (y == ("__debug__" : Str)) = false := by decide) (hcd : (y == ("__classdict__" : Str)) = false := by decide) : BE X Γ (.Subscript (.Name y py) b pos) (IsD X.K d) Γ1 :=
  PE.imp (pe_ix ix_list (be_own j hΓ hN hv hd hcd) hb hs) fun σ H Q ⟨Z, F, E, q⟩ => ⟨Z, F, E, fun v ev o => ⟨Z, F, E, fun v2 Z2 F2 H2 E2 S2 p2 => by
    obtain ⟨u, eu, rfl, f, us, h1, r1⟩ := E2.slots j _ hΓ1
    rw [ev] at eu
    cases eu
    obtain rfl := dI_p p2
    have hl := r1.length
    unfold atI at hi
    cases e : ixN ds.length i with
    | none => rw [e] at hi; cases hi
    | some j =>
      rw [e, Option.bind_some] at hi
      obtain ⟨u, hu, ru⟩ := r1.get hi
      exact ⟨_, us, i, u, rfl, rfl, SqL.of h1, by unfold atI; rw [hl, e, Option.bind_some]; exact hu, q _ Z2 F2 H2 E2 S2 ru⟩⟩⟩
/-- x[i] = e -/
theorem bs_ownSet {y : Str} {py p2 : Pos} {q : Addr} {ds : List PyData} {i : Int} {k : Nat} {d : PyData} (j : Nat) (he : BE X Γ e (IsD X.K d) Γ1) (hΓ1 : Γ1[j]? = some (.own (ownL X.K q ds))) (hb : BE X Γ1 b (dI X.K i) Γ1) (hk : ixN ds.length i = some k)
    (h : R.nx (Γ1.set j (.own (ownL X.K q (ds.set k d))))) (hN : X.N[j]? = some y) (hv : Vis X.env.scope y)
    (hasg : ∀ (g : TG) (t : TE), PE X e t → PG X (.Subscript (.Name y py) b p2) g → PS X (.Assign [.Subscript (.Name y py) b p2] e pos) (tAsg t g) := by exact fun _ _ h1 h2 => ps_asg h1 h2)
    (hsub : ∀ (t t' : TE), PE X (.Name y py) t → PE X b t' → PG X (.Subscript (.Name y py) b p2) (gSub t t' rSetL) := by exact fun _ _ h1 h2 => pg_sub h1 h2 set_list)
    (hd : (y == ("__debug__" : Str)) = false := by decide) (hcd : (y == ("__classdict__" : Str)) = false := by decide) : BS X Γ (.Assign [.Subscript (.Name y py) b p2] e pos) R :=
  PS.imp (hasg _ _ he (hsub _ _ (be_own j hΓ1 hN hv hd hcd) hb)) fun D σ H ⟨Z, F, E, nx, _⟩ => ⟨Z, F, E, fun v Z1 F1 H1 E1 S1 pv => ⟨Z1, F1, E1, fun w ew ⟨e1, f, us, h1, r1⟩ => ⟨Z1, F1, E1, fun v2 Z2 F2 H2 E2 S2 p2 => by
    subst e1
    obtain rfl := dI_p p2
    obtain ⟨u, eu, e2, f2, us2, h2, r2⟩ := E2.slots j _ hΓ1
    refine ⟨q, us2, i, k, rfl, rfl, h2, by rw [r2.length]; exact hk, ?_⟩
    exact nx _ Z2 F2 σ _ h (E2.mut f2 ew ⟨rfl, f2, _, upd_same, r2.set ((IsD X.K d).mono S2.z pv) k⟩) ((S1.trans S2).trans (Stp.mut f2))⟩⟩⟩
/-- len(x) of one's own list, in x: by what stands there -/
theorem be_ownLen {y : Str} {py : Pos} {q : Addr} {ds : List PyData} (j : Nat) (hΓ : Γ[j]? = some (.own (ownL X.K q ds))) (hg : Gl X "len") (hm : X.mg "len" = none) (hN : X.N[j]? = some y) (hv : Vis X.env.scope y) (hd : (y == ("__debug__" : Str)) = false := by decide) (hcd : (y == ("__classdict__" : Str)) = false := by decide)
    (he : starEach [.Name y py] X.env = (false, eval (.Name y py) X.env) :: starEach [] X.env := by rfl) : BE X Γ (.Call (.Name "len" p) [.Name y py] [] pos) (dI X.K (ds.length : Int)) Γ :=
  PE.imp (pe_callB call_len_seq hg hm PySem.boot_len (pa_cons (be_own j hΓ hN hv hd hcd) pa_nil he) (he := he)) fun σ H Q ⟨Z, F, E, q⟩ => ⟨Z, F, E, fun v ev ⟨e1, f, us, h1, r1⟩ => by
    subst e1
    exact ⟨_, us, rfl, .inl (SqL.of h1), q _ Z F H E Stp.refl (by rw [r1.length]; exact .int _)⟩⟩
/-- one's own list handed on: from here on it is frozen -/
theorem En.frozen {Z H : Hp} {F : Foot} {σ : L2.St} {i : Nat} {p : Addr} {o : HO} {P : SV} {v : V} (E : En Γ Z F σ H) (hp : F i p) (ho : H p = some o) (hv : σ[i]? = some (some v)) (h : P.p (upd Z p o) v) : En (Γ.set i (.fz P)) (upd Z p o) (footSet F i fun _ => False) σ H := by
  have hz := E.fz i p hp
  have zz : Same Z (upd Z p o) := fun b u e => by rw [upd_ne (ne_of_none e hz)]; exact e
  refine ⟨fun b u e => ?_, fun j k a h1 h2 => ?_, fun j a h1 => ?_, fun j a h1 => ?_, fun j s e => ?_, by rw [List.length_set]; exact E.len⟩
  · by_cases hb : b = p
    · subst hb
      rw [upd_same] at e
      rw [ho]
      exact e
    · rw [upd_ne hb] at e
      exact E.zh b u e
  · by_cases hj : j = i
    · rw [hj, foot_at] at h1
      exact h1.elim
    · by_cases hk : k = i
      · rw [hk, foot_at] at h2
        exact h2.elim
      · rw [foot_ne hj] at h1
        rw [foot_ne hk] at h2
        exact E.fsep j k a h1 h2
  · by_cases hj : j = i
    · rw [hj, foot_at] at h1
      exact h1.elim
    · rw [foot_ne hj] at h1
      rw [upd_ne fun z => hj (E.fsep j i a h1 (by rw [z]; exact hp))]
      exact E.fz j a h1
  · by_cases hj : j = i
    · rw [hj, foot_at] at h1
      exact h1.elim
    · rw [foot_ne hj] at h1
      exact E.fsome j a h1
  · by_cases hj : i = j
    · subst hj
      rw [List.getElem?_set] at e
      simp only [if_true] at e
      split at e
      · cases e
        exact ⟨v, hv, h⟩
      · cases e
    · rw [List.getElem?_set_ne hj] at e
      have : footSet F i (fun _ => False) j = F j := by funext a; exact foot_ne (Ne.symm hj)
      rw [this]
      exact (E.slots j s e).grow zz fun _ _ => rfl
theorem be_freeze {y : Str} {q : Addr} {ds : List PyData} (j : Nat) (hΓ : Γ[j]? = some (.own (ownL X.K q ds))) (hN : X.N[j]? = some y) (hv : Vis X.env.scope y) (hd : (y == ("__debug__" : Str)) = false := by decide) (hcd : (y == ("__classdict__" : Str)) = false := by decide) :
    BE X Γ (.Name y pos) (dL X.K ds) (Γ.set j (.fz (dL X.K ds))) :=
  PE.imp (be_own j hΓ hN hv hd hcd) fun σ H Q ⟨Z, F, E, k⟩ => ⟨Z, F, E, fun v ev ⟨e1, f, us, h1, r1⟩ => by
    subst e1
    have hz := E.fz j q f
    have zz : Same Z (upd Z q (.lst us)) := fun b u e => by rw [upd_ne (ne_of_none e hz)]; exact e
    have pv : (dL X.K ds).p (upd Z q (.lst us)) (.ref q) := .lst upd_same (RpA.mono zz _ _ r1)
    refine k _ _ _ H (E.frozen f h1 ev pv) ⟨zz, fun i a h => ?_, fun a o e => ?_, fun a o e _ => e, fun a o e => ⟨o, e⟩⟩ pv
    · by_cases hj : i = j
      · rw [hj, foot_at] at h
        exact h.elim
      · rw [foot_ne hj] at h
        exact .inl ⟨i, h⟩
    · by_cases ha : a = q
      · subst ha
        exact .inr (.inr ⟨j, f⟩)
      · rw [upd_ne ha] at e
        exact .inl e⟩
end
end B

/-! enumerate over a tuple. -/
namespace B
open PySem PySem.Spec PyProof.Rows L2
theorem meets_enumerate_one {v : Value} {o : Obj} {H : Heap → Prop} (B : Begins v o H) :
    Meets (Builtin.«enumerate.__new__» ⟨[.type "enumerate", v], []⟩) (fun _ R s => H s.heap ∧
      R (.ok (.ret (.ref (s.heap.push o).objs.size))) { s with heap := (s.heap.push o).push { cls := .type "enumerate", data := .fields #[.none, .bool false, .ref s.heap.objs.size, rawInt 0, .none, .none] } }) :=
  .of_wp fun prog w A R s h => by
    obtain ⟨hp, g, d, tk, os⟩ := s; obtain ⟨h1, h⟩ := h
    have hsub := sub_enumerate
    have q1 : ∀ {A' : Around} {E : Value → Shared → Prop} {Q : Value → Shared → Prop}, Q (.ref hp.objs.size) ⟨hp.push o, g, d, tk, os⟩ → wpAny (model prog w) A' (pyIter v) Q E ⟨hp, g, d, tk, os⟩ :=
      fun q => B.iter prog w _ _ ⟨hp, g, d, tk, os⟩ _ h1 q
    wp_walk using q1
    refine wpAny_stack_any fun st => wpAny_pure ?_
    split
    · rename_i c _ _ _ _ _
      cases (c == Value.type "enumerate")
      · wp_walk using q1
        exact ⟨_, rfl, h⟩
      · wp_walk using q1
        exact ⟨_, rfl, h⟩
    · wp_walk using q1
      exact ⟨_, rfl, h⟩
section
variable {prog : Program} {w : World} {A : Around} {E : Value → Shared → Prop} {s : Shared}
theorem call_enumerate_one {v : Value} {o : Obj} {H : Heap → Prop} {Q : Value → Shared → Prop} (B : Begins v o H) (h1 : H s.heap)
    (h : ∀ h', IsEnum h' (s.heap.objs.size + 1) s.heap.objs.size 0 .none → h'.get? s.heap.objs.size = some o → h'.objs.size = s.heap.objs.size + 2 →
      (∀ b o, s.heap.get? b = some o → h'.get? b = some o) → Q (.ref (s.heap.objs.size + 1)) { s with heap := h' }) :
    wpAny (model prog w) A (call (.type "enumerate") [v]) Q E s := by
  refine callType_new F.called_enumerate (by decide) (F.typeCall_enumerate_1 _) (F.newCall_enumerate_1 _) (fun obj => F.args_object_init_2 obj _) F.entry_enumerate_new
    (meets_enumerate_one B) ⟨h1, ?_⟩
  have hz : (s.heap.push o).objs.size = s.heap.objs.size + 1 := Heap.size_push ..
  show _ ∧ _
  rw [hz]
  have he : IsEnum ((s.heap.push o).push
      { cls := .type "enumerate", data := .fields #[.none, .bool false, .ref s.heap.objs.size, rawInt 0, .none, .none] }) (s.heap.objs.size + 1) s.heap.objs.size 0 .none := by
    have := Heap.get?_push_size (s.heap.push o)
      (o := { cls := .type "enumerate", data := .fields #[.none, .bool false, .ref s.heap.objs.size, rawInt 0, .none, .none] }) rfl
    rw [hz] at this; exact this
  refine ⟨⟨_, he, rfl⟩, h _ he (Heap.get?_push_of_some _ (Heap.get?_push_size _ B.free)) (by rw [Heap.size_push, hz]) fun b o x => Heap.get?_push_of_some _ (Heap.get?_push_of_some _ x)⟩
end
/-- the tuple at a, each item in a new pair -/
def Iteu (K : PySem.W.Frag) (a : Addr) : It :=
  ⟨fun i H => ∃ (xs : List V) (x : V), SqT K H a xs ∧ xs[i]? = some x, fun i H v H' => ∃ T x, v = .ref T ∧ H T = none ∧ H' = upd H T (.tup [.int (i : Nat), x]) ∧ ∀ xs, SqT K H a xs → xs[i]? = some x, fun i H => ∃ xs : List V, SqT K H a xs ∧ xs.length = i⟩
theorem turn_enumU {P : Program} {w : World} {K : PySem.W.Frag} {elts : List Expr} {kk : Nat} {tpos : Pos} (a e it : Addr) :
    Turn P w K (.Tuple elts kk tpos) (Iteu K a) [e, it] e (fun i h => (∃ old, IsEnum h e it ((0 : Int) + (i : Int)) old) ∧ h.IsTupleIter it a i ∧ e ≠ it ∧ e ≠ a ∧ it ≠ a) where
  mem := by simp
  obj := fun i h st b hb => by
    obtain ⟨⟨old, he⟩, ⟨o, ho, hc, hd⟩, _⟩ := st
    have e' : b = e ∨ b = it := by simpa using hb
    rcases e' with z | z
    · rw [z]; exact ⟨_, he, fun v q => nomatch q⟩
    · rw [z]; exact ⟨o, ho, fun v q => by rw [hd] at q; cases q⟩
  keep := fun i h h' st k => let ⟨⟨old, he⟩, hi, hne⟩ := st; ⟨⟨old, k e (by simp) _ he⟩, hi.at fun o q => k it (by simp) o q, hne⟩
  item := by
    intro X hP hw hK hc i pins s σ H E I hf st hg
    subst hP hw hK
    obtain ⟨⟨old, he⟩, hit, hne, hea, hia⟩ := st
    obtain ⟨xs, x, hq, hx⟩ := hg
    obtain ⟨its, rv, p, hz⟩ := I.tuple hq
    obtain ⟨u, hu, ru⟩ := rv.get hx
    have hel : e < s.heap.objs.size := Heap.lt_size he
    have hil : it < s.heap.objs.size := by obtain ⟨_, q, _⟩ := hit; exact Heap.lt_size q
    have hh : X.A.in1.handled = none := I.ok.hd hc
    have ht : s.heap.IsTuple a its.toArray := p
    have W := GoesN.enumFrom (prog := X.prog) (w := X.w) (A := X.A) (elts := elts) (x1 := kk) (pos := tpos) 0 (Draws.tuple hh it a (Ne.symm hia) its.toArray) e hne (by simp [hne, hea]) (by simp)
    have hlt : i < its.toArray.size := by
      have := (List.getElem?_eq_some_iff.mp hu).1
      simpa using this
    refine W.goes i s (fun u' s2 => ∃ x_1 H', L2.Inv X pins σ H' s2 ∧ RelV x_1 u' ∧ (Iteu X.K a).yld i H x_1 H' ∧ ((∃ old, IsEnum s2.heap e it ((0 : Int) + ((i + 1 : Nat) : Int)) old) ∧ s2.heap.IsTupleIter it a (i + 1) ∧ e ≠ it ∧ e ≠ a ∧ it ≠ a) ∧ ∀ b ∈ [e, it], H' b = none) _ hlt ⟨⟨old, he⟩, hit, ht⟩ fun v h' tk ⟨T, t, y, ev, hT, ey, hTup⟩ st' hk htk => ?_
    subst ev
    obtain ⟨o, ho, hcl, n, hd⟩ := hTup
    have ey' : y = u := by
      have e1 : its[i]? = some y := by simpa using ey
      rw [hu] at e1
      exact (Option.some.inj e1).symm
    subst ey'
    have e0 : (0 : Int) + (i : Int) = ((i : Nat) : Int) := by omega
    rw [e0] at hd
    have new : ObjOk X.prog X.w (upd H T (.tup [.int (i : Nat), x])) h' T (.tup [.int (i : Nat), x]) :=
      ⟨by show 2 ≤ sizeLine; decide, [.int i t, y], .cons ⟨_, rfl⟩ (.cons ru .nil), ⟨o, ho, hcl, n, hd⟩⟩
    have I1 := I.turnedNew (t' := tk) (ch := [e, it]) hk hf hT new
    refine ⟨.ref T, _, I1, rfl, ⟨T, x, rfl, I.hok.fresh hT, rfl, fun ys hy => by rw [I.tuple_inj hy hq]; exact hx⟩, ⟨st'.1, st'.2.1, hne, hea, hia⟩, fun b hb => ?_⟩
    have hb' : b < s.heap.objs.size := by
      have e' : b = e ∨ b = it := by simpa using hb
      rcases e' with z | z
      · rw [z]; exact hel
      · rw [z]; exact hil
    rw [upd_ne (Nat.ne_of_lt (Nat.lt_of_lt_of_le hb' hT))]
    exact (hf b hb).1
  done := by
    intro X hP hw hK hc i pins s σ H E I hf st hg
    subst hP hw hK
    obtain ⟨⟨old, he⟩, hit, hne, hea, hia⟩ := st
    obtain ⟨xs, hq, hx⟩ := hg
    obtain ⟨its, rv, p, hz⟩ := I.tuple hq
    have hl := rv.length
    have hh : X.A.in1.handled = none := I.ok.hd hc
    have ht : s.heap.IsTuple a its.toArray := p
    have W := GoesN.enumFrom (prog := X.prog) (w := X.w) (A := X.A) (elts := elts) (x1 := kk) (pos := tpos) 0 (Draws.tuple hh it a (Ne.symm hia) its.toArray) e hne (by simp [hne, hea]) (by simp)
    have hi : i = its.toArray.size := by
      rw [← hx, hl]
      simp
    subst hi
    exact W.stops s _ _ ⟨⟨old, he⟩, hit, ht⟩ fun h' tk hk htk => I.turnedL (ch := [e, it]) hk hf
  self := fun A i s Q E st h => let ⟨⟨_, he⟩, _⟩ := st; wpAny_pyIter_enum he h
def iEnumU (K : PySem.W.Frag) (ta : TA) : TI := fun σ H R => ta σ H fun vs H1 => ∃ a xs, vs = [.ref a] ∧ SqT K H1 a xs ∧ R (Iteu K a) H1
theorem pi_enumU {X : Cx} {e : Expr} {ta : TA} {p pos tpos : Pos} {elts : List Expr} {kk : Nat} (hg : Gl X "enumerate") (hm : X.mg "enumerate" = none) (ha : PA X [e] ta) (hs : starEach [e] X.env = [(false, eval e X.env)] := by rfl) :
    PI X (.Tuple elts kk tpos) (.Call (.Name "enumerate" p) [e] [] pos) (iEnumU X.K ta) := by
  refine ⟨fun pins s σ H R I h => ?_⟩
  refine Call_ (ld_blt I hg hm boot_enumerate (PyProof.Rows.callWith_type1 (thn (ha.run pos pins s σ H _ I h) fun us s1 ⟨vs, H1, I1, r1, q1⟩ => ?_) hs rfl))
  obtain ⟨a, xs, ex, hq, q⟩ := q1
  subst ex
  cases r1 with
  | cons r rr =>
    cases rr
    cases r
    obtain ⟨its, rv, p', hz⟩ := I1.tuple hq
    have ht : s1.heap.IsTuple a its.toArray := p'
    have hal : a < s1.heap.objs.size := by obtain ⟨_, q, _⟩ := ht; exact Heap.lt_size q
    refine call_enumerate_one (begins_tuple a its.toArray) ht fun h' he hit hsz hk => wpAny_pyIter_enum he ?_
    have I2 : Inv X pins σ H1 { s1 with heap := h' } := I1.kept (t' := s1.toks) hk
    refine ⟨s1.heap.objs.size + 1, [s1.heap.objs.size + 1, s1.heap.objs.size], _, _, H1, rfl, I2, turn_enumU a (s1.heap.objs.size + 1) s1.heap.objs.size, ⟨⟨.none, he⟩, ⟨_, hit, rfl, rfl⟩, Nat.succ_ne_self _, Nat.ne_of_gt (Nat.lt_succ_of_lt hal), Nat.ne_of_gt hal⟩, fun b hb => ?_, q⟩
    have e' : b = s1.heap.objs.size + 1 ∨ b = s1.heap.objs.size := by simpa using hb
    have hle : s1.heap.objs.size ≤ b := by
      rcases e' with z | z
      · rw [z]; exact Nat.le_add_right _ _
      · rw [z]; exact Nat.le_refl _
    exact I1.fpOk hle (I1.hok.fresh hle)
section
variable {X : Cx} {Γ Γ' Γ1 Γ2 Γ3 : List Sl} {P P' P1 P2 P3 : SV} {a b c e : Expr} {es : List Expr} {pos p apos : Pos} {K : PySem.W.Frag} {R : Post} {x m : Str}
theorem bi_enumU {elts : List Expr} {kk : Nat} {tpos p : Pos} {α : Type} {g : α → PyData} {xs : List α} {ds : List PyData} (hg : Gl X "enumerate") (hm : X.mg "enumerate" = none) (h : BA X Γ [e] [dU X.K ds] Γ1) (hd : ds = xs.map g) (hs : starEach [e] X.env = [(false, eval e X.env)] := by rfl) :
    BI X Γ (.Tuple elts kk tpos) (.Call (.Name "enumerate" p) [e] [] pos) (fun x : Nat × α => dU X.K [.int x.1, g x.2]) ((List.range xs.length).zip xs) Γ1 :=
  PI.imp (pi_enumU hg hm h hs) fun σ H R ⟨Z, F, E, q⟩ => ⟨Z, F, E, fun vs Z1 F1 H1 E1 S1 ps => by
    cases ps with
    | cons p ps =>
      cases ps
      obtain ⟨a, us, rfl, ha, r⟩ := dU_p p
      subst hd
      have hl := r.length
      rw [List.length_map] at hl
      have hz : ((List.range xs.length).zip xs).length = xs.length := by rw [List.length_zip, List.length_range, Nat.min_self]
      refine ⟨a, us, rfl, SqT.up E1.zh ha, q _ Z1 F1 H1 E1 S1 ⟨fun i H hi z => ?_, fun H z => ?_, fun i H x H' Z hi z1 z2 y => ?_⟩⟩
      · rw [hz] at hi
        exact ⟨us, us[i]'(by omega), SqT.up z ha, by simp⟩
      · exact ⟨us, SqT.up z ha, by rw [hz]; exact hl⟩
      · rw [hz] at hi
        obtain ⟨T, x0, rfl, hT, rfl, y⟩ := y
        have e1 := y us (SqT.up z2 (SqT.up z1 ha))
        obtain ⟨d, e2, rd⟩ := r.get' e1
        rw [List.getElem?_map, List.getElem?_eq_getElem hi] at e2
        cases e2
        have g := Gr.new (o := .tup [.int (i : Nat), x0]) z2 hT
        refine ⟨_, (i, xs[i]), g, ?_, .tup (SqT.of upd_same) (.cons (.int _) (.cons (Rp.mono (z1.trans g.z) _ _ rd) .nil))⟩
        rw [List.getElem?_zip_eq_some]
        exact ⟨by rw [List.getElem?_range hi], List.getElem?_eq_getElem hi⟩⟩
/-! ### the script -/
def scr (K : PySem.W.Frag) (ns : List Int) : SV := ⟨fun Z v => ∃ a, v = .ref a ∧ SqL K Z a (ns.map V.int), fun e ⟨a, h, q⟩ => ⟨a, h, Same.seq e q⟩⟩
theorem bn_slQ {lo hi : Option Expr} {l u : Option Int} {p2 : Pos} {ns : List Int} (he : BE X Γ e (scr X.K ns) Γ1) (hl : BP X Γ1 lo l Γ2) (hu : BP X Γ2 hi u Γ3) : BN X Γ (.Subscript e (.Slice lo hi none p2) pos) (· = (cutL ns l u).map .int) Γ3 :=
  bn_of (pe_slice sl_list he hl hu) fun σ H Q ⟨Z, F, E, q⟩ => ⟨Z, F, E, fun v Z1 F1 H1 E1 S1 p => ⟨Z1, F1, E1, fun Z2 F2 H2 E2 S2 => ⟨Z2, F2, E2, fun Z3 F3 H3 E3 S3 => by
    obtain ⟨a, rfl, ha⟩ := p
    refine ⟨a, _, rfl, Same.seq (S2.z.trans (S3.z.trans E3.zh)) ha, fun p hp => q _ _ Z3 F3 H3 E3 ((S1.trans S2).trans S3) ?_ rfl p hp⟩
    have : cutV (ns.map V.int) l u = (cutL ns l u).map V.int := by
      unfold cutV cutL
      rw [List.length_map, List.map_take, List.map_drop]
    rw [this]
    exact rpA_ints _⟩⟩⟩
end
end B

/-! isinstance; dispatch by what is known; what is one's own: read, walked, changed. -/
namespace B
open PySem PySem.Spec PyProof.Rows L2
section
variable {X : Cx} {Γ Γ' Γ1 Γ2 Γ3 : List Sl} {P P' P1 P2 P3 : SV} {a b c e : Expr} {es : List Expr} {pos p apos : Pos} {K : PySem.W.Frag} {R : Post} {x m : Str}

/-! ### isinstance -/
def tyD : PyData → String
  | .none => "NoneType"
  | .bool _ => "bool"
  | .int _ => "int"
  | .str _ => "str"
  | .list _ => "list"
  | .tuple _ => "tuple"
  | .dict _ => "dict"
def isTy (t n : String) : Bool := t == n || (t == "bool" && n == "int")
def tysA : List String := ["NoneType", "bool", "int", "str", "list", "tuple", "dict"]
def tysB : List String := ["str", "int", "bool", "list", "tuple", "dict"]
theorem kitB_all : (tysA.all fun t => tysB.all fun n => kitB t n == some (isTy t n)) = true := by decide +kernel
theorem tyD_mem (d : PyData) : tyD d ∈ tysA := by cases d <;> simp [tyD, tysA]
theorem kit_isTy (d : PyData) {n : String} (h : n ∈ tysB) : PySem.W.kitOne K (.type (tyD d)) (.type n) = some (isTy (tyD d) n) := by
  have h1 := List.all_eq_true.mp (List.all_eq_true.mp kitB_all _ (tyD_mem d)) _ h
  exact kit_ty (by simpa using h1)
theorem ty_of {Z H : Hp} {v : V} {d : PyData} (zh : Same Z H) (h : Rp K Z v d) : TyX K H v (.type (tyD d)) := by
  cases h with
  | non => exact .base .non
  | bl b => exact .base (.bl b)
  | int i => exact .base (.int i)
  | str x => exact .base (.str x)
  | lst h1 h2 => exact .base (.lst (zh _ _ h1))
  | tup h1 h2 =>
    rcases Same.seqT zh h1 with (h | ⟨o, h⟩) | ⟨o, its, n, hk, hc, _⟩
    · exact .base (.tup h)
    · exact .fTuple h
    · exact .kTuple hk hc
  | dic h1 h2 => exact .base (.dK (zh _ _ h1))
  | dicT h1 h2 => exact .base (.dT (zh _ _ h1))
theorem cb_isi {d : PyData} {n : String} {k : Bool} (hn : n ∈ tysB) (hk : isTy (tyD d) n = k) : CallB X (.builtin "isinstance") [IsD X.K d, tyS n] (dB X.K k) :=
  CallR.imp call_isi fun vs H Q ⟨Z, zh, ps, q⟩ => by
    cases ps with
    | cons p1 ps =>
      cases ps with
      | cons p2 ps =>
        cases ps
        cases p2
        exact ⟨_, _, _, _, _, rfl, .ty n, ty_of zh p1, kit_isTy d hn, q _ Z H (Gr.refl zh) (by rw [hk]; exact .bl _)⟩
/-- a tuple of classes -/
def tysS (ns : List String) : SV := ⟨fun Z v => ∃ tp, v = .ref tp ∧ Z tp = some (.tup (ns.map V.ty)), fun e ⟨tp, h, q⟩ => ⟨tp, h, e _ _ q⟩⟩
theorem tys_of {Z : Hp} : ∀ {ns : List String} {vs : List V}, Ps Z (ns.map tyS) vs → vs = ns.map V.ty
  | [], _, .nil => rfl
  | n :: ns, _, .cons r t => by
    have r' := r
    cases r'
    rw [tys_of t]
    rfl
theorem be_tys {ns : List String} {Pl : List SV} {x1} (h : BA X Γ es Pl Γ') (hP : Pl = ns.map tyS) (hl : ns.length ≤ sizeLine := by decide) : BE X Γ (.Tuple es x1 pos) (tysS ns) Γ' :=
  PE.imp (pe_tup h) fun σ H Q ⟨Z, F, E, q⟩ => ⟨Z, F, E, fun vs Z1 F1 H1 E1 S1 ps => by
    subst hP
    have e := tys_of ps
    subst e
    refine ⟨by rw [List.length_map]; exact hl, fun p hp => ?_⟩
    have g := Gr.new (o := .tup (ns.map V.ty)) E1.zh hp
    exact q _ _ F1 _ (E1.grow g) (S1.trans g.stp) ⟨p, rfl, upd_same⟩⟩
theorem kitAny_all (d : PyData) : ∀ (ns : List String), (∀ n ∈ ns, n ∈ tysB) → PySem.W.kitAny K (.type (tyD d)) (ns.map Value.type) = some (ns.any (isTy (tyD d)))
  | [], _ => kitAny_nil
  | n :: ns, h => by
    refine kitAny_cons (kit_isTy d (h n List.mem_cons_self)) (fun e => ?_) fun e => ?_
    · rw [List.any_cons, e, Bool.false_or]
      exact kitAny_all d ns fun m hm => h m (List.mem_cons_of_mem _ hm)
    · rw [List.any_cons, e, Bool.true_or]
theorem cls_all : ∀ (ns : List String), Paired ClsV (ns.map V.ty) (ns.map Value.type)
  | [] => .nil
  | n :: ns => .cons (.ty n) (cls_all ns)
theorem cb_isiT {d : PyData} {ns : List String} {k : Bool} (hn : (ns.all fun n => tysB.contains n) = true) (hk : ns.any (isTy (tyD d)) = k) : CallB X (.builtin "isinstance") [IsD X.K d, tysS ns] (dB X.K k) :=
  CallR.imp call_isiT fun vs H Q ⟨Z, zh, ps, q⟩ => by
    cases ps with
    | cons p1 ps =>
      cases ps with
      | cons p2 ps =>
        cases ps
        obtain ⟨tp, rfl, ht⟩ := p2
        exact ⟨_, tp, _, _, _, _, rfl, zh _ _ ht, cls_all ns, ty_of zh p1, kitAny_all d ns fun n h => List.contains_iff_mem.mp (List.all_eq_true.mp hn n h), q _ Z H (Gr.refl zh) (by rw [hk]; exact .bl _)⟩
theorem be_isi {d : PyData} {n : String} {k : Bool} {e2 : Expr} (ha : BA X Γ [e, e2] [IsD X.K d, tyS n] Γ') (hk : isTy (tyD d) n = k) (hn : n ∈ tysB) (hg : Gl X "isinstance") (hm : X.mg "isinstance" = none)
    (he : starEach [e, e2] X.env = (false, eval e X.env) :: starEach [e2] X.env := by rfl) (hpl : (backTo pos (starEach [e2] X.env)).any (·.1) = false := by rfl) : BE X Γ (.Call (.Name "isinstance" p) [e, e2] [] pos) (dB X.K k) Γ' :=
  be_builtin (cb_isi hn hk) hg hm boot_isinstance ha (by decide) (by decide) he hpl
theorem be_isiT {d : PyData} {ns : List String} {k : Bool} {e2 : Expr} (ha : BA X Γ [e, e2] [IsD X.K d, tysS ns] Γ') (hk : ns.any (isTy (tyD d)) = k) (hn : (ns.all fun n => tysB.contains n) = true) (hg : Gl X "isinstance") (hm : X.mg "isinstance" = none)
    (he : starEach [e, e2] X.env = (false, eval e X.env) :: starEach [e2] X.env := by rfl) (hpl : (backTo pos (starEach [e2] X.env)).any (·.1) = false := by rfl) : BE X Γ (.Call (.Name "isinstance" p) [e, e2] [] pos) (dB X.K k) Γ' :=
  be_builtin (cb_isiT hn hk) hg hm boot_isinstance ha (by decide) (by decide) he hpl

/-! ### == of two truth values, none -/
theorem ob_eqB {x y : Bool} : OpB X (compareOp .Eq) (dB X.K x) (dB X.K y) (dB X.K (decide (x = y))) :=
  opb_pure op_eq fun Z H u v Q zh p1 p2 q => by
    cases p1; cases p2
    refine ⟨rfl, q _ ?_⟩
    have e : decide (V.bl x = V.bl y) = decide (x = y) := by
      by_cases h : x = y
      · subst h; simp
      · simp [h]
    rw [e]
    exact .bl _
theorem ob_neB {x y : Bool} : OpB X (compareOp .NotEq) (dB X.K x) (dB X.K y) (dB X.K (!decide (x = y))) :=
  opb_pure op_ne fun Z H u v Q zh p1 p2 q => by
    cases p1; cases p2
    refine ⟨rfl, q _ ?_⟩
    have e : decide (V.bl x = V.bl y) = decide (x = y) := by
      by_cases h : x = y
      · subst h; simp
      · simp [h]
    rw [e]
    exact .bl _

/-! ### a[i] by what a is -/
def IxB (X : Cx) (P1 P2 P : SV) : Prop := ∀ {Γ Γ1 Γ2 : List Sl} {a b : Expr} {pos : Pos}, BE X Γ a P1 Γ1 → BE X Γ1 b P2 Γ2 → PlainIx b → BE X Γ (.Subscript a b pos) P Γ2
theorem be_ix (ha : BE X Γ a P1 Γ1) (hb : BE X Γ1 b P2 Γ2) (h : IxB X P1 P2 P) (hs : PlainIx b := by exact fun _ _ => rfl) : BE X Γ (.Subscript a b pos) P Γ2 := h ha hb hs
theorem ix_L {ds : List PyData} {i : Int} {d : PyData} (h : atI ds i = some d) : IxB X (dL X.K ds) (dI X.K i) (IsD X.K d) := fun ha hb hs => be_ixL ha hb h hs
theorem ix_U {ds : List PyData} {i : Int} {d : PyData} (h : atI ds i = some d) : IxB X (dU X.K ds) (dI X.K i) (IsD X.K d) := fun ha hb hs => be_ixU ha hb h hs
theorem ix_S {z : Str} {i : Int} {c : Nat} (h : atI z.cps.toList i = some c) (hz : z.length ≤ sizeLine) : IxB X (dS X.K z) (dI X.K i) (dS X.K ⟨#[c]⟩) := fun ha hb hs => be_ixS ha hb hz h hs

/-! ### something that is looked at and changes nothing -/
def BR (X : Cx) (Γ : List Sl) (e : Expr) (v : V) : Prop := PE X e fun σ H Q => ∃ Z F, En Γ Z F σ H ∧ Q v H
theorem br_own {y : Str} {v0 : V} (j : Nat) {O : OV} (hΓ : Γ[j]? = some (.own O)) (hO : ∀ v F H Z, O.p v F H Z → v = v0) (hN : X.N[j]? = some y) (hv : Vis X.env.scope y) (hd : (y == ("__debug__" : Str)) = false := by decide) (hcd : (y == ("__classdict__" : Str)) = false := by decide) : BR X Γ (.Name y pos) v0 :=
  PE.imp (be_own j hΓ hN hv hd hcd) fun σ H Q ⟨Z, F, E, q⟩ => ⟨Z, F, E, fun v ev o => by
    rw [hO _ _ _ _ o]
    exact q⟩
/-- O's instance has the field f, and u stands there -/
def FldIs (K : PySem.W.Frag) (O : OV) (f : Str) (u : V) : Prop := ∀ v F H Z, O.p v F H Z → ∃ a C dx fs, v = .ref a ∧ H a = some (.ins C dx fs) ∧ Cls K C ∧ NoAttr K C f ∧ fs.lookup f = some u
def FldP (K : PySem.W.Frag) (O : OV) (f : Str) (P : SV) : Prop := ∀ v F H Z, O.p v F H Z → ∃ a C dx fs u, v = .ref a ∧ H a = some (.ins C dx fs) ∧ Cls K C ∧ NoAttr K C f ∧ fs.lookup f = some u ∧ P.p Z u
theorem br_fld {y f : Str} {u : V} {py : Pos} (j : Nat) {O : OV} (hO : FldIs X.K O f u) (hΓ : Γ[j]? = some (.own O)) (hN : X.N[j]? = some y) (hv : Vis X.env.scope y) (hb : attributeBase (.Name y py) f X.env (eval (.Name y py) X.env) = eval (.Name y py) X.env := by rfl)
    (hd : (y == ("__debug__" : Str)) = false := by decide) (hcd : (y == ("__classdict__" : Str)) = false := by decide) : BR X Γ (.Attribute (.Name y py) f pos) u :=
  PE.imp (pe_fld (be_own j hΓ hN hv hd hcd) hb) fun σ H Q ⟨Z, F, E, q⟩ => ⟨Z, F, E, fun v ev o => by
    obtain ⟨a, C, dx, fs, e1, e2, e3, e4, e5⟩ := hO _ _ _ _ o
    exact ⟨a, C, dx, fs, u, e1, e2, e3, e4, e5, q⟩⟩
theorem be_fld {y f : Str} {py : Pos} (j : Nat) {O : OV} (hO : FldP X.K O f P) (hΓ : Γ[j]? = some (.own O)) (hN : X.N[j]? = some y) (hv : Vis X.env.scope y) (hb : attributeBase (.Name y py) f X.env (eval (.Name y py) X.env) = eval (.Name y py) X.env := by rfl)
    (hd : (y == ("__debug__" : Str)) = false := by decide) (hcd : (y == ("__classdict__" : Str)) = false := by decide) : BE X Γ (.Attribute (.Name y py) f pos) P Γ :=
  PE.imp (pe_fld (be_own j hΓ hN hv hd hcd) hb) fun σ H Q ⟨Z, F, E, q⟩ => ⟨Z, F, E, fun v ev o => by
    obtain ⟨a, C, dx, fs, u, e1, e2, e3, e4, e5, e6⟩ := hO _ _ _ _ o
    exact ⟨a, C, dx, fs, u, e1, e2, e3, e4, e5, q u Z F H E Stp.refl e6⟩⟩
/-- x.f = e, e a value that is known -/
def FldTo (K : PySem.W.Frag) (O : OV) (f : Str) (P : SV) (O' : OV) : Prop := ∀ v F H Z u, O.p v F H Z → P.p Z u → ∃ a C dx fs, v = .ref a ∧ F a ∧ H a = some (.ins C dx fs) ∧ Cls K C ∧ NoAttr K C f ∧ fs.length < 1000 ∧ O'.p v F (upd H a (.ins C dx (putF f u fs))) Z
theorem bs_fld {y f : Str} {py p2 : Pos} (j : Nat) {O O' : OV} (he : BE X Γ e P Γ1) (hΓ1 : Γ1[j]? = some (.own O)) (hO : FldTo X.K O f P O') (h : R.nx (Γ1.set j (.own O'))) (hN : X.N[j]? = some y) (hv : Vis X.env.scope y) (hs : swapsWith e (some (.Attribute (.Name y py) f p2)) pos.line X.env = pure false := by rfl)
    (hd : (y == ("__debug__" : Str)) = false := by decide) (hcd : (y == ("__classdict__" : Str)) = false := by decide) : BS X Γ (.Assign [.Attribute (.Name y py) f p2] e pos) R :=
  PS.imp (ps_fld (be_own j hΓ1 hN hv hd hcd) he hs) fun D σ H ⟨Z, F, E, nx, _⟩ => ⟨Z, F, E, fun u Z1 F1 H1 E1 S1 pu => ⟨Z1, F1, E1, fun v ev o => by
    obtain ⟨a, C, dx, fs, e1, f1, e2, e3, e4, e5, o'⟩ := hO _ _ _ _ _ o pu
    exact ⟨a, C, dx, fs, e1, e2, e3, e4, e5, nx _ Z1 F1 σ _ h (E1.mut f1 ev o') (S1.trans (Stp.mut f1))⟩⟩⟩
/-- x.f = e, e new: it is x's from here on -/
def FldToO (K : PySem.W.Frag) (O : OV) (f : Str) (O1 : OV) (O' : OV) : Prop := ∀ v F H Z u G, O.p v F H Z → O1.p u G H Z → (∀ a, G a → ¬ F a) → ∃ a C dx fs, v = .ref a ∧ F a ∧ H a = some (.ins C dx fs) ∧ Cls K C ∧ NoAttr K C f ∧ fs.length < 1000 ∧ O'.p v (fun b => F b ∨ G b) (upd H a (.ins C dx (putF f u fs))) Z
theorem bs_fldO {y f : Str} {py p2 : Pos} {ρ : Type} {Ψ : ρ → Prop} {O1 : ρ → OV} (j : Nat) {O : OV} {O' : ρ → OV} (he : BO X Γ e Ψ O1 Γ1) (hΓ1 : Γ1[j]? = some (.own O)) (hO : ∀ r, Ψ r → FldToO X.K O f (O1 r) (O' r)) (h : ∀ r, Ψ r → R.nx (Γ1.set j (.own (O' r)))) (hN : X.N[j]? = some y) (hv : Vis X.env.scope y) (hs : swapsWith e (some (.Attribute (.Name y py) f p2)) pos.line X.env = pure false := by rfl)
    (hd : (y == ("__debug__" : Str)) = false := by decide) (hcd : (y == ("__classdict__" : Str)) = false := by decide) : BS X Γ (.Assign [.Attribute (.Name y py) f p2] e pos) R :=
  PS.imp (ps_fld (be_own j hΓ1 hN hv hd hcd) he hs) fun D σ H ⟨Z, F, E, nx, _⟩ => ⟨Z, F, E, fun r u G Z1 F1 H1 E1 S1 ψ pu g => ⟨Z1, F1, E1, fun v ev o => by
    obtain ⟨a, C, dx, fs, e1, f1, e2, e3, e4, e5, o'⟩ := hO r ψ _ _ _ _ _ _ o pu fun b hb => (g b hb).2.2.2 j
    refine ⟨a, C, dx, fs, e1, e2, e3, e4, e5, ?_⟩
    -- first the footprint grows, then the store
    have St := Stp.trans S1 (Stp.mut (o := .ins C dx (putF f u fs)) f1)
    have E2 : En (Γ1.set j .un) Z1 F1 σ H1 := E1.forget j
    have E3 : En ((Γ1.set j .un).set j (.own ⟨fun v F H Z => v = .ref a ∧ F a, fun ⟨h1, h2⟩ _ _ => ⟨h1, h2⟩⟩)) Z1 (footSet F1 j fun b => F1 j b ∨ G b) (σ.set j (some v)) H1 :=
      E2.setOwn j ⟨e1, .inl f1⟩ (fun b hb => hb.elim (E1.fz j b) fun z => (g b z).1) (fun b hb => hb.elim (E1.fsome j b) fun z => (g b z).2.2.1) fun l b hl hb hf => hb.elim (fun z => hl (E1.fsep l j b hf z)) fun z => (g b z).2.2.2 l hf
    have es : σ.set j (some v) = σ := by
      refine List.ext_getElem? fun i => ?_
      by_cases hij : j = i
      · subst hij
        rw [ev, List.getElem?_set_self (List.getElem?_eq_some_iff.mp ev).1]
      · rw [List.getElem?_set_ne hij]
    rw [es] at E3
    have fj : footSet F1 j (fun b => F1 j b ∨ G b) j = fun b => F1 j b ∨ G b := by funext b; exact foot_at
    have E4 := E3.mut (O := O' r) (i := j) (p := a) (o := .ins C dx (putF f u fs)) (by rw [fj]; exact .inl f1) ev (by rw [fj]; exact o')
    have eΓ : ((Γ1.set j .un).set j (.own ⟨fun v F H Z => v = .ref a ∧ F a, fun ⟨h1, h2⟩ _ _ => ⟨h1, h2⟩⟩)).set j (.own (O' r)) = Γ1.set j (.own (O' r)) := by rw [List.set_set, List.set_set]
    rw [eΓ] at E4
    exact nx _ Z1 _ σ _ (h r ψ) E4 (St.setOwn fun b hb => hb.elim (fun z => S1.f j b z) fun z => (g b z).2.1)⟩⟩

/-! ### a list that is one's own: at q -/
def LstAt (K : PySem.W.Frag) (O : OV) (q : Addr) (ds : List PyData) : Prop := ∀ v F H Z, O.p v F H Z → F q ∧ ∃ us, H q = some (.lst us) ∧ RpA K Z us ds
def LstTo (K : PySem.W.Frag) (O : OV) (q : Addr) (ds : List PyData) (O' : OV) : Prop := ∀ v F H Z us, O.p v F H Z → RpA K Z us ds → O'.p v F (upd H q (.lst us)) Z
theorem ownL_at {q : Addr} {ds : List PyData} : LstAt K (ownL K q ds) q ds := fun v F H Z ⟨e, f, us, h, r⟩ => ⟨f, us, h, r⟩
theorem ownL_to {q : Addr} {ds ds' : List PyData} : LstTo K (ownL K q ds) q ds' (ownL K q ds') := fun v F H Z us ⟨e, f, _, _, _⟩ r => ⟨e, f, us, upd_same, r⟩
theorem ownL_v {q : Addr} {ds : List PyData} : ∀ v F H Z, (ownL K q ds).p v F H Z → v = .ref q := fun v F H Z h => h.1
theorem wk_lst {q : Addr} {ds : List PyData} {O : OV} {j : Nat} (w : Wk Γ' Γ) (hΓ : Γ[j]? = some (.own O)) (hO : LstAt K O q ds) : ∃ O0 : OV, Γ'[j]? = some (.own O0) ∧ LstAt K O0 q ds := by
  obtain ⟨s0, h1, h2⟩ := w.get hΓ
  cases h2 with
  | refl => exact ⟨_, h1, hO⟩
  | leO k => exact ⟨_, h1, fun v F H Z p => hO v F H Z (k v F H Z p)⟩
theorem bi_own {tg : Expr} {α : Type} {g : α → PyData} {xs : List α} {q : Addr} {ds : List PyData} {O : OV} (j : Nat) (h : BR X Γ e (.ref q)) (hΓ : Γ[j]? = some (.own O)) (hO : LstAt X.K O q ds) (hd : ds = xs.map g) : BIW X Γ tg e (fun x => IsD X.K (g x)) xs Γ (fun Γ' => ∃ O0 : OV, Γ'[j]? = some (.own O0) ∧ LstAt X.K O0 q ds) :=
  PI.imp (pi_list h) fun σ H R ⟨Z, F, E, k⟩ => ⟨Z, F, E, by
    obtain ⟨v, ev, o⟩ := E.slots j _ hΓ
    obtain ⟨f, us, hq, r⟩ := hO _ _ _ _ o
    subst hd
    refine ⟨q, rfl, ⟨us, SqL.of hq⟩, k _ (fun Z H => ∃ us, H q = some (.lst us) ∧ RpA X.K Z us (xs.map g)) Z F H E Stp.refl (fun Γ2 Z2 F2 σ2 H2 w E2 z => ?_) ⟨fun i Z H hi c => ?_, fun Z H c => ?_, fun i H x H' Z hi c z2 y => ?_⟩⟩
    · obtain ⟨O0, w1, w2⟩ := w
      obtain ⟨v2, ev2, o2⟩ := E2.slots j _ w1
      obtain ⟨_, us2, hq2, r2⟩ := w2 _ _ _ _ o2
      exact ⟨us2, hq2, r2⟩
    · obtain ⟨us, ha, r⟩ := c
      have hl := r.length
      rw [List.length_map] at hl
      exact ⟨us, us[i]'(by omega), SqL.of ha, by simp⟩
    · obtain ⟨us, ha, r⟩ := c
      have hl := r.length
      rw [List.length_map] at hl
      exact ⟨us, SqL.of ha, by omega⟩
    · obtain ⟨us, ha, r⟩ := c
      obtain ⟨rfl, y⟩ := y
      have e1 := y us (SqL.of ha)
      obtain ⟨d, e2, rd⟩ := r.get' e1
      rw [List.getElem?_map, List.getElem?_eq_getElem hi] at e2
      cases e2
      exact ⟨Z, xs[i], Gr.refl z2, List.getElem?_eq_getElem hi, rd⟩⟩
/-- o.append(e) -/
theorem bs_appendO {o : Expr} {p2 p3 : Pos} {q : Addr} {ds : List PyData} {d : PyData} {O O' : OV} (j : Nat) (ho : BR X Γ o (.ref q)) (hΓ : Γ[j]? = some (.own O)) (he : BE X Γ e (IsD X.K d) Γ1) (hΓ1 : Γ1[j]? = some (.own O)) (hO : LstAt X.K O q ds) (hO' : LstTo X.K O q (ds ++ [d]) O') (hl : ds.length < sizeLine)
    (h : R.nx (Γ1.set j (.own O')))
    (hbm : ∀ (t : TE) (t2 : TA), PE X o t → PA X [e] t2 → PE X (.Call (.Attribute o "append" p2) [e] [] p3) (tBM X.K "list" rAppend t t2) := by
      exact fun _ _ h1 h2 => pe_bm PySem.F.plainAttrs_list PySem.F.slot_list_append PySem.F.type_list_append mt_append h1 h2)
    (hs : swapsWith (.Call (.Attribute o "append" p2) [e] [] p3) none pos.line X.env = pure false := by rfl) (hst : starEach [e] X.env = (false, eval e X.env) :: starEach [] X.env := by rfl) :
    BS X Γ (.Expr (.Call (.Attribute o "append" p2) [e] [] p3) pos) R := by
  refine PS.imp (ps_expr (hbm _ _ ho (pa_cons he pa_nil hst)) hs) fun D σ H ⟨Z, F, E, nx, _⟩ => ⟨Z, F, E, ?_⟩
  obtain ⟨v, ev, o1⟩ := E.slots j _ hΓ
  obtain ⟨f, us, hq, r⟩ := hO _ _ _ _ o1
  refine ⟨.inl ⟨rfl, us, SqL.of hq⟩, Z, F, E, fun v2 Z1 F1 H1 E1 S1 p2 => ?_⟩
  obtain ⟨w, ew, o2⟩ := E1.slots j _ hΓ1
  obtain ⟨f1, us1, hq1, r1⟩ := hO _ _ _ _ o2
  refine ⟨q, us1, v2, rfl, rfl, hq1, by rw [r1.length]; exact hl, ?_⟩
  exact nx _ Z1 F1 σ _ h (E1.mut f1 ew (hO' _ _ _ _ _ o2 (r1.append (.cons p2 .nil)))) (S1.trans (Stp.mut f1))
/-- o.pop(), its value dropped -/
theorem bs_popO {o : Expr} {p2 p3 : Pos} {q : Addr} {ds : List PyData} {O O' : OV} (j : Nat) (ho : BR X Γ o (.ref q)) (hΓ : Γ[j]? = some (.own O)) (hO : LstAt X.K O q ds) (hO' : LstTo X.K O q ds.dropLast O') (hne : ds ≠ [])
    (h : R.nx (Γ.set j (.own O')))
    (hbm : ∀ (t : TE), PE X o t → PE X (.Call (.Attribute o "pop" p2) [] [] p3) (tBM0 X.K "list" rPop t) := by
      exact fun _ h1 => pe_bm0 PySem.F.plainAttrs_list PySem.F.slot_list_pop PySem.F.type_list_pop mt_pop h1)
    (hs : swapsWith (.Call (.Attribute o "pop" p2) [] [] p3) none pos.line X.env = pure false := by rfl) :
    BS X Γ (.Expr (.Call (.Attribute o "pop" p2) [] [] p3) pos) R := by
  refine PS.imp (ps_expr (hbm _ ho) hs) fun D σ H ⟨Z, F, E, nx, _⟩ => ⟨Z, F, E, ?_⟩
  obtain ⟨v, ev, o1⟩ := E.slots j _ hΓ
  obtain ⟨f, us, hq, r⟩ := hO _ _ _ _ o1
  have hl := r.length
  have hpos : 0 < ds.length := List.length_pos_iff.mpr hne
  refine ⟨.inl ⟨rfl, us, SqL.of hq⟩, q, us, us[us.length - 1]'(by omega), rfl, rfl, hq, by simp, ?_⟩
  refine nx _ Z F σ _ h (E.mut f ev (hO' _ _ _ _ _ o1 ?_)) (Stp.mut f)
  rw [List.dropLast_eq_take, List.dropLast_eq_take, hl]
  exact r.take _
/-- one's own list beside what is known: it is seen as frozen for a while -/
theorem En.seen {Z H : Hp} {F : Foot} {σ : L2.St} {q : Addr} {o : HO} {j : Nat} (E : En Γ Z F σ H) (f : F j q) (ho : H q = some o) {Z' H' : Hp} (g : Gr (upd Z q o) H Z' H') : ∃ Z2, En Γ Z2 F σ H' ∧ Stp Z F H Z2 F H' := by
  have hz := E.fz j q f
  refine ⟨fun b => if b = q then none else Z' b, ?_⟩
  have z2 : Same Z fun b => if b = q then none else Z' b := fun b u e => by
    have hb : b ≠ q := ne_of_none e hz
    show (if b = q then none else Z' b) = _
    rw [if_neg hb]
    exact g.z b u (by rw [upd_ne hb]; exact e)
  have zh : Same (fun b => if b = q then none else Z' b) H' := fun b u e => by
    have e' : (if b = q then none else Z' b) = some u := e
    by_cases hb : b = q
    · rw [if_pos hb] at e'; cases e'
    · rw [if_neg hb] at e'
      exact g.zh b u e'
  have fk : ∀ i a, F i a → H' a = H a := fun i a h => by
    obtain ⟨u, e⟩ := E.fsome i a h
    rw [e, g.h a u e]
  refine ⟨⟨zh, E.fsep, fun i a h => ?_, fun i a h => ?_, fun i s e => (E.slots i s e).grow z2 (fk i), E.len⟩, ⟨z2, fun i a h => .inl ⟨i, h⟩, fun a u e => ?_, fun a u e _ => g.h a u e, fun a u e => ⟨u, g.h a u e⟩⟩⟩
  · show (if a = q then none else Z' a) = none
    by_cases hb : a = q
    · rw [if_pos hb]
    · rw [if_neg hb]
      cases z : Z' a with
      | none => rfl
      | some u =>
        rcases g.nw a u z with h1 | h1
        · rw [upd_ne hb, E.fz i a h] at h1; cases h1
        · obtain ⟨u2, e2⟩ := E.fsome i a h
          rw [h1] at e2; cases e2
  · obtain ⟨u, e⟩ := E.fsome i a h
    exact ⟨u, g.h a u e⟩
  · have e' : (if a = q then none else Z' a) = some u := e
    by_cases hb : a = q
    · rw [if_pos hb] at e'; cases e'
    · rw [if_neg hb] at e'
      rcases g.nw a u e' with h1 | h1
      · exact .inl (by rw [upd_ne hb] at h1; exact h1)
      · exact .inr (.inl h1)
theorem seen_p {Z H : Hp} {q : Addr} {us : List V} {ds : List PyData} (hz : Z q = none) (r : RpA K Z us ds) : (dL K ds).p (upd Z q (.lst us)) (.ref q) :=
  .lst upd_same (RpA.mono (fun b u e => by rw [upd_ne (ne_of_none e hz)]; exact e) _ _ r)
theorem upd_zh {Z H : Hp} {q : Addr} {o : HO} (zh : Same Z H) (h : H q = some o) : Same (upd Z q o) H := fun b u e => by
  by_cases hb : b = q
  · subst hb
    rw [upd_same] at e
    rw [h]
    exact e
  · rw [upd_ne hb] at e
    exact zh b u e
/-- a comparison of one's own list with something, a truth value comes -/
theorem bt_cmpO {op : CmpOp} {k : Bool} {q : Addr} {ds : List PyData} {O : OV} (j : Nat) (ha : BR X Γ a (.ref q)) (hΓ : Γ[j]? = some (.own O)) (hO : LstAt X.K O q ds) (hb : BE X Γ b P2 Γ1) (hΓ1 : Γ1[j]? = some (.own O)) (ho : OpB X (compareOp op) (dL X.K ds) P2 (dB X.K k)) (hm : behindInMarks op b = false := by first | exact nomark _ (by decide) (by decide) | with_unfolding_all rfl) :
    BT X Γ (.Compare a [op] [b] pos) (· = k) Γ1 :=
  PT.imp (pt_cmpR ho ha hb hm) fun σ H Q ⟨Z, F, E, q1⟩ => ⟨Z, F, E, Z, F, E, fun v2 Z2 F2 H2 E2 S2 p2 => by
    obtain ⟨v, ev, o1⟩ := E2.slots j _ hΓ1
    obtain ⟨f, us, hq, r⟩ := hO _ _ _ _ o1
    have hz := E2.fz j q f
    refine ⟨upd Z2 q (.lst us), upd_zh E2.zh hq, seen_p (H := H2) hz r, P2.mono (fun b u e => by rw [upd_ne (ne_of_none e hz)]; exact e) p2, fun w Z' H' g pw => ?_⟩
    obtain ⟨Z3, E3, S3⟩ := E2.seen f hq g
    cases pw
    exact ⟨k, rfl, q1 k Z3 F2 H' E3 (S2.trans S3) rfl⟩⟩
theorem be_cmpO {op : CmpOp} {k : Bool} {q : Addr} {ds : List PyData} {O : OV} (j : Nat) (ha : BR X Γ a (.ref q)) (hΓ : Γ[j]? = some (.own O)) (hO : LstAt X.K O q ds) (hb : BE X Γ b P2 Γ1) (hΓ1 : Γ1[j]? = some (.own O)) (ho : OpB X (compareOp op) (dL X.K ds) P2 (dB X.K k)) (hm : behindInMarks op b = false := by first | exact nomark _ (by decide) (by decide) | with_unfolding_all rfl) :
    BE X Γ (.Compare a [op] [b] pos) (dB X.K k) Γ1 :=
  PE.imp (pe_cmpR ho ha hb hm) fun σ H Q ⟨Z, F, E, q1⟩ => ⟨Z, F, E, Z, F, E, fun v2 Z2 F2 H2 E2 S2 p2 => by
    obtain ⟨v, ev, o1⟩ := E2.slots j _ hΓ1
    obtain ⟨f, us, hq, r⟩ := hO _ _ _ _ o1
    have hz := E2.fz j q f
    refine ⟨upd Z2 q (.lst us), upd_zh E2.zh hq, seen_p (H := H2) hz r, P2.mono (fun b u e => by rw [upd_ne (ne_of_none e hz)]; exact e) p2, fun w Z' H' g pw => ?_⟩
    obtain ⟨Z3, E3, S3⟩ := E2.seen f hq g
    cases pw
    exact q1 _ Z3 F2 H' E3 (S2.trans S3) (.bl k)⟩
theorem be_lenO {o : Expr} {q : Addr} {ds : List PyData} {O : OV} (j : Nat) (ho : BR X Γ o (.ref q)) (hΓ : Γ[j]? = some (.own O)) (hO : LstAt X.K O q ds) (hg : Gl X "len") (hm : X.mg "len" = none) (he : starEach [o] X.env = (false, eval o X.env) :: starEach [] X.env := by rfl) : BE X Γ (.Call (.Name "len" p) [o] [] pos) (dI X.K (ds.length : Int)) Γ :=
  PE.imp (pe_callB call_len_seq hg hm PySem.boot_len (pa_cons ho pa_nil he) (he := he)) fun σ H Q ⟨Z, F, E, q1⟩ => ⟨Z, F, E, by
    obtain ⟨v, ev, o1⟩ := E.slots j _ hΓ
    obtain ⟨f, us, h1, r1⟩ := hO _ _ _ _ o1
    exact ⟨_, us, rfl, .inl (SqL.of h1), q1 _ Z F H E Stp.refl (by rw [r1.length]; exact .int _)⟩⟩
theorem be_ixO {o : Expr} {q : Addr} {ds : List PyData} {i : Int} {d : PyData} {O : OV} (j : Nat) (ho : BR X Γ o (.ref q)) (hb : BE X Γ b (dI X.K i) Γ1) (hΓ1 : Γ1[j]? = some (.own O)) (hO : LstAt X.K O q ds) (hi : atI ds i = some d)
    (hs : PlainIx b := by exact fun _ _ => rfl) : BE X Γ (.Subscript o b pos) (IsD X.K d) Γ1 :=
  PE.imp (pe_ix ix_list ho hb hs) fun σ H Q ⟨Z, F, E, k⟩ => ⟨Z, F, E, Z, F, E, fun v2 Z2 F2 H2 E2 S2 p2 => by
    obtain ⟨v, ev, o1⟩ := E2.slots j _ hΓ1
    obtain ⟨f, us, h1, r1⟩ := hO _ _ _ _ o1
    obtain rfl := dI_p p2
    have hl := r1.length
    unfold atI at hi
    cases e : ixN ds.length i with
    | none => rw [e] at hi; cases hi
    | some j =>
      rw [e, Option.bind_some] at hi
      obtain ⟨u, hu, ru⟩ := r1.get hi
      exact ⟨_, us, i, u, rfl, rfl, SqL.of h1, by unfold atI; rw [hl, e, Option.bind_some]; exact hu, k _ Z2 F2 H2 E2 S2 ru⟩⟩

/-! ### what hangs on a choice -/
theorem bss_open {sts : List Stmt} {ι : Type} {Φ : ι → Prop} {O : ι → OV} (j : Nat) (hΓ : Γ[j]? = some (.own (.ex Φ O))) (h : ∀ i, Φ i → BSs X (Γ.set j (.own (O i))) sts R) : BSs X Γ sts R := by
  refine ⟨fun pins s σ H D I ⟨Z, F, E, q⟩ => ?_⟩
  obtain ⟨v, ev, i, φ, o⟩ := E.slots j _ hΓ
  refine PSs.run (h i φ) pins s σ H D I ⟨Z, F, ⟨E.zh, E.fsep, E.fz, E.fsome, fun l s' e => ?_, by rw [List.length_set]; exact E.len⟩, q⟩
  by_cases hl : j = l
  · subst hl
    rw [List.getElem?_set] at e
    simp only [if_true] at e
    split at e
    · cases e
      exact ⟨v, ev, o⟩
    · cases e
  · rw [List.getElem?_set_ne hl] at e
    exact E.slots l s' e
theorem bss_openF {sts : List Stmt} {ι : Type} {Φ : ι → Prop} {Pf : ι → SV} (j : Nat) (hΓ : Γ[j]? = some (.fz (.ex Φ Pf))) (h : ∀ i, Φ i → BSs X (Γ.set j (.fz (Pf i))) sts R) : BSs X Γ sts R := by
  refine ⟨fun pins s σ H D I ⟨Z, F, E, q⟩ => ?_⟩
  obtain ⟨v, ev, i, φ, o⟩ := E.slots j _ hΓ
  refine PSs.run (h i φ) pins s σ H D I ⟨Z, F, ⟨E.zh, E.fsep, E.fz, E.fsome, fun l s' e => ?_, by rw [List.length_set]; exact E.len⟩, q⟩
  by_cases hl : j = l
  · subst hl
    rw [List.getElem?_set] at e
    simp only [if_true] at e
    split at e
    · cases e
      exact ⟨v, ev, o⟩
    · cases e
  · rw [List.getElem?_set_ne hl] at e
    exact E.slots l s' e
/-- return of what slot j holds, one's own -/
theorem bs_retO {y : Str} {py : Pos} (j : Nat) {O : OV} (hΓ : Γ[j]? = some (.own O)) (h : R.rt (.at j) Γ) (hN : X.N[j]? = some y) (hv : Vis X.env.scope y) (hd : (y == ("__debug__" : Str)) = false := by decide) (hcd : (y == ("__classdict__" : Str)) = false := by decide) : BS X Γ (.Return (some (.Name y py)) pos) R :=
  PS.imp (ps_ret (be_own j hΓ hN hv hd hcd)) fun D σ H ⟨Z, F, E, _, rt, _⟩ => ⟨Z, F, E, fun v ev o => rt _ _ v Z F σ H h E Stp.refl ev⟩
theorem bss_wk {sts : List Stmt} (h : BSs X Γ' sts R) (w : Wk Γ Γ') : BSs X Γ sts R := h.wk w
end
end B

/-! list(text), x[i] op= e, two names at once, freezing, slices by what is cut. -/
namespace B
open PySem PySem.Spec PyProof.Rows L2
section
variable {X : Cx} {Γ Γ' Γ1 Γ2 Γ3 : List Sl} {P P' P1 P2 P3 : SV} {a b c e : Expr} {es : List Expr} {pos p apos : Pos} {K : PySem.W.Frag} {R : Post} {x m : Str}
theorem call_list_signs (hc : X.calm = true) : CallR X (.type "list") (fun xs H Q => ∃ z : Str, xs = [.str z] ∧ z.length ≤ sizeLine ∧ ∀ q, H q = none → Q (.ref q) (upd H q (.lst (z.cps.toList.map fun c => V.str ⟨#[c]⟩)))) := by
  intro pins s σ H xs us Q I r h
  obtain ⟨z, rfl, hz, q⟩ := h
  obtain ⟨u, rfl, t, rfl⟩ := vals1 r
  refine PySem.call_list_str (I.ok.hd hc) z t (hn := hz) fun h' tk acc c' hk e hi => ?_
  refine ⟨.ref s.heap.objs.size, upd H s.heap.objs.size (.lst (z.cps.toList.map fun c => V.str ⟨#[c]⟩)), I.laid hk (Nat.le_refl _) ⟨by rw [List.length_map, Array.length_toList]; exact hz, acc.toList, c', ?_, by rw [Array.toArray_toList]; exact e⟩, rfl, q _ (I.hok.fresh (Nat.le_refl _))⟩
  refine vals_of_idx _ _ (by rw [List.length_map, Array.length_toList, Array.length_toList]; exact hi.1) fun j u hj => ?_
  obtain ⟨c, t', hc, rfl⟩ := hi.2 j u (by rw [← Array.getElem?_toList]; exact hj)
  exact ⟨.str ⟨#[c]⟩, by simp [hc], ⟨_, rfl⟩⟩
def signsD (z : Str) : List PyData := z.cps.toList.map fun c => .str ⟨#[c]⟩
theorem rpA_signs {Z : Hp} : ∀ (l : List Nat), RpA K Z (l.map fun c => V.str ⟨#[c]⟩) (l.map fun c => PyData.str ⟨#[c]⟩)
  | [] => .nil
  | n :: ns => .cons (.str _) (rpA_signs ns)
theorem bn_listS {z : Str} (ha : BA X Γ [e] [dS X.K z] Γ') (hz : z.length ≤ sizeLine) (hg : Gl X "list") (hm : X.mg "list" = none) (hc : X.calm = true) (he : starEach [e] X.env = (false, eval e X.env) :: starEach [] X.env := by rfl) : BN X Γ (.Call (.Name "list" p) [e] [] pos) (· = signsD z) Γ' :=
  bn_type (T := "list") (CallR.imp (call_list_signs hc) fun vs H Q ⟨Z, zh, ps, q⟩ => by
    cases ps with
    | cons p ps =>
      cases ps
      obtain rfl := dS_p p
      exact ⟨z, rfl, hz, fun l hl => q _ (rpA_signs _) l hl⟩) hg hm boot_list ha (he := he)

/-! ### x[i] op= e of one's own list -/
theorem get_listL : PGet X (rIxL X.K) := by
  intro pins s σ H x y v u Q I rx ry h
  obtain ⟨p, xs, i, z, rfl, rfl, hq, he, q⟩ := h
  cases rx
  obtain ⟨t, rfl⟩ := ry
  obtain ⟨its, r, pl, hz⟩ := I.list hq
  obtain ⟨j, h1, h2, h3, h4, h5⟩ := atI_get he
  obtain ⟨w, ew, rw'⟩ := r.get h2
  have hl := r.length
  have hn := line63
  have fin : EP X pins σ Q w s := ⟨z, H, I, rw', q⟩
  by_cases h0 : 0 ≤ i
  · have hj : i.toNat = j := by
      rw [seqIndex_of h0 h5] at h1
      exact Option.some.inj h1
    exact wpAny_getItem_list pl.isList h0 (by omega) (by rw [hj]; simpa using ew) fin
  · have hj : (i + (its.toArray.size : Int)).toNat = j := by
      rw [seqIndex_neg (by omega) h4] at h1
      rw [List.size_toArray, ← hl]
      exact Option.some.inj h1
    exact wpAny_getItem_list_neg pl.isList (by omega) (by rw [List.size_toArray] <;> omega) (by omega) (by rw [hj]; simpa using ew) fin
theorem bs_augIxO {o : Expr} {p2 : Pos} {op : Operator} {q : Addr} {ds : List PyData} {i : Int} {k : Nat} {d d' : PyData} {O O' : OV} (j : Nat) (ho : BR X Γ o (.ref q)) (hb : BE X Γ b (dI X.K i) Γ) (he : BE X Γ e P2 Γ1) (hΓ : Γ[j]? = some (.own O)) (hΓ1 : Γ1[j]? = some (.own O)) (hO : LstAt X.K O q ds)
    (hk : ixN ds.length i = some k) (hd : ds[k]? = some d) (hop : OpB X (inplaceOp op) (IsD X.K d) P2 (IsD X.K d')) (hO' : LstTo X.K O q (ds.set k d') O') (h : R.nx (Γ1.set j (.own O')))
    (ha : ∀ ov iv new, augStore b ov iv new = (do holding [new, ov, iv] (setItem ov iv new); release [new, ov, iv] []; pure .next) := by intros; rfl) : BS X Γ (.AugAssign (.Subscript o b p2) op e pos) R :=
  PS.imp (ps_augS (tip := rB (IsD X.K d) P2 (IsD X.K d')) ho hb get_listL he hop set_list ha) fun D σ H ⟨Z, F, E, nx, _⟩ => ⟨Z, F, E, Z, F, E, fun v2 Z2 F2 H2 E2 S2 p2 => by
    obtain rfl := dI_p p2
    obtain ⟨v, ev, o1⟩ := E2.slots j _ hΓ
    obtain ⟨f, us, hq, r⟩ := hO _ _ _ _ o1
    have hl := r.length
    obtain ⟨u, hu, ru⟩ := r.get hd
    refine ⟨q, us, i, u, rfl, rfl, SqL.of hq, by unfold atI; rw [hl, hk, Option.bind_some]; exact hu, Z2, F2, E2, fun v3 Z3 F3 H3 E3 S3 p3 => ⟨Z3, E3.zh, Rp.mono S3.z _ _ ru, p3, fun w Z4 H4 g pw => ?_⟩⟩
    have E4 := E3.grow g
    obtain ⟨v4, ev4, o4⟩ := E4.slots j _ hΓ1
    obtain ⟨f4, us4, hq4, r4⟩ := hO _ _ _ _ o4
    exact ⟨q, us4, i, k, rfl, rfl, hq4, by rw [r4.length]; exact hk, nx _ Z4 F3 σ _ h (E4.mut f4 ev4 (hO' _ _ _ _ _ o4 (r4.set pw k))) (((S2.trans S3).trans g.stp).trans (Stp.mut f4))⟩⟩

/-! ### two names at once -/
theorem bo_of_be (h : BE X Γ e P Γ') : BO X Γ e (fun _ : Unit => True) (fun _ => ovS P) Γ' :=
  PE.imp h fun σ H Q ⟨Z, F, E, q⟩ => ⟨Z, F, E, fun v Z' F' H' E' S p => q () v (fun _ => False) Z' F' H' E' S trivial ⟨fun _ h => h, p⟩ fun _ h => h.elim⟩
theorem wk_ofS : ∀ (Γ : List Sl) (i : Nat) (P : SV), Wk (Γ.set i (.own (ovS P))) (Γ.set i (.fz P))
  | [], _, _ => .nil
  | s :: t, 0, P => .cons .ofS (Wk.refl t)
  | s :: t, i + 1, P => .cons .refl (wk_ofS t i P)
/-- a, b = x, y of plain names, what is new is one's own -/
theorem bs_parO {x y : Str} {px py pt : Pos} {kt k2 pt2} {ρ ρ' : Type} {Ψ : ρ → Prop} {Ψ' : ρ' → Prop} {O : ρ → OV} {O' : ρ' → OV} (i j : Nat) (ha : BO X Γ a Ψ O Γ1) (hb : BO X Γ1 b Ψ' O' Γ2) (h : ∀ r r', Ψ r → Ψ' r' → R.nx ((Γ2.set i (.own (O r))).set j (.own (O' r')))) (hc : X.calm = true) (hN : X.N.Nodup) (hi : X.N[i]? = some x) (hj : X.N[j]? = some y) (hij : i ≠ j)
    (hx : X.env.scope.names.lookup x = some .local) (hy : X.env.scope.names.lookup y = some .local) (hw : swappedStores [.Tuple [.Name x px, .Name y py] kt pt] (.Tuple [a, b] k2 pt2) X.env = pure (some [x, y]))
    (hs : swapsWithSole [.Tuple [.Name x px, .Name y py] kt pt] (.Tuple [a, b] k2 pt2) pos.line X.env = pure false := by rfl) (hst : starEach [a, b] X.env = (false, eval a X.env) :: starEach [b] X.env := by rfl) (hst2 : starEach [b] X.env = (false, eval b X.env) :: starEach [] X.env := by rfl) : BS X Γ (.Assign [.Tuple [.Name x px, .Name y py] kt pt] (.Tuple [a, b] k2 pt2) pos) R :=
  PS.imp (ps_par hc hN hi hj hij hx hy (pa_cons ha (pa_cons hb pa_nil hst2) hst) hw hs) fun D σ H ⟨Z, F, E, nx, _⟩ => ⟨Z, F, E, fun r v G Z1 F1 H1 E1 S1 ψ o g => ⟨Z1, F1, E1, fun r' v' G' Z2 F2 H2 E2 S2 ψ' o' g' => by
    refine ⟨v, v', rfl, ?_⟩
    have keep : ∀ b, G b → H2 b = H1 b := fun b hb => by
      obtain ⟨u, e⟩ := (g b hb).2.2.1
      rw [e]
      exact S2.fr b u e (g b hb).2.2.2
    have gz : ∀ b, G b → Z2 b = none := fun b hb => by
      cases z : Z2 b with
      | none => rfl
      | some u =>
        obtain ⟨w, e⟩ := (g b hb).2.2.1
        rcases S2.zn b u z with q | q | ⟨l, q⟩
        · rw [(g b hb).1] at q; cases q
        · rw [e] at q; cases q
        · exact absurd q ((g b hb).2.2.2 l)
    have gf : ∀ b, G b → ∀ l, ¬ F2 l b := fun b hb l q => by
      rcases S2.f l b q with ⟨l', q'⟩ | q'
      · exact (g b hb).2.2.2 l' q'
      · obtain ⟨w, e⟩ := (g b hb).2.2.1
        rw [e] at q'; cases q'
    have gg : ∀ b, G b → ¬ G' b := fun b hb q => by
      rcases (g' b q).2.1 with ⟨l, q'⟩ | q'
      · exact (g b hb).2.2.2 l q'
      · obtain ⟨w, e⟩ := (g b hb).2.2.1
        rw [e] at q'; cases q'
    have E3 := E2.setOwn i ((O r).stab o S2.z keep) gz (fun b hb => by rw [keep b hb]; exact (g b hb).2.2.1) fun l b _ hb => gf b hb l
    have E4 := E3.setOwn j o' (fun b hb => (g' b hb).1) (fun b hb => (g' b hb).2.2.1) fun l b hl hb q => by
      by_cases hli : l = i
      · rw [hli, foot_at] at q
        exact gg b q hb
      · rw [foot_ne hli] at q
        exact (g' b hb).2.2.2 l q
    have S3 := (S1.trans S2).setOwn (i := i) (G := G) fun b hb => (g b hb).2.1
    have S4 := S3.setOwn (i := j) (G := G') fun b hb => by
      rcases (g' b hb).2.1 with ⟨l, q⟩ | q
      · exact S1.f l b q
      · exact .inr (S1.back q)
    exact nx _ Z2 _ _ H2 (h r r' ψ ψ') E4 S4⟩⟩
/-- one's own list is frozen from here on -/
theorem bss_freeze {sts : List Stmt} {q : Addr} {ds : List PyData} (j : Nat) (hΓ : Γ[j]? = some (.own (ownL X.K q ds))) (h : BSs X (Γ.set j (.fz (dL X.K ds))) sts R) : BSs X Γ sts R := by
  refine ⟨fun pins s σ H D I ⟨Z, F, E, nx, rt, bk, ct⟩ => ?_⟩
  obtain ⟨v, ev, e1, f, us, h1, r1⟩ := E.slots j _ hΓ
  subst e1
  have hz := E.fz j q f
  have zz : Same Z (upd Z q (.lst us)) := fun b u e => by rw [upd_ne (ne_of_none e hz)]; exact e
  have S : Stp Z F H (upd Z q (.lst us)) (footSet F j fun _ => False) H := ⟨zz, fun i a h => by
    by_cases hj : i = j
    · rw [hj, foot_at] at h
      exact h.elim
    · rw [foot_ne hj] at h
      exact .inl ⟨i, h⟩, fun a o e => by
    by_cases ha : a = q
    · subst ha
      exact .inr (.inr ⟨j, f⟩)
    · rw [upd_ne ha] at e
      exact .inl e, fun a o e _ => e, fun a o e => ⟨o, e⟩⟩
  exact PSs.run h pins s σ H D I ⟨_, _, E.frozen f h1 ev (.lst upd_same (RpA.mono zz _ _ r1)), fun Γ2 Z2 F2 σ2 H2 m2 E2 S2 => nx Γ2 Z2 F2 σ2 H2 m2 E2 (S.trans S2), fun P Γ2 v Z2 F2 σ2 H2 m2 E2 S2 => rt P Γ2 v Z2 F2 σ2 H2 m2 E2 (S.trans S2),
    fun Γ2 Z2 F2 σ2 H2 m2 E2 S2 => bk Γ2 Z2 F2 σ2 H2 m2 E2 (S.trans S2), fun Γ2 Z2 F2 σ2 H2 m2 E2 S2 => ct Γ2 Z2 F2 σ2 H2 m2 E2 (S.trans S2)⟩

/-! ### a[i:j] by what a is; len -/
def SlB (X : Cx) (P1 : SV) (l u : Option Int) (P : SV) : Prop := ∀ {Γ Γ1 Γ2 Γ3 : List Sl} {a : Expr} {lo hi : Option Expr} {p2 pos : Pos}, BE X Γ a P1 Γ1 → BP X Γ1 lo l Γ2 → BP X Γ2 hi u Γ3 → BE X Γ (.Subscript a (.Slice lo hi none p2) pos) P Γ3
theorem be_sl {lo hi : Option Expr} {l u : Option Int} {p2 : Pos} (ha : BE X Γ a P1 Γ1) (hl : BP X Γ1 lo l Γ2) (hu : BP X Γ2 hi u Γ3) (h : SlB X P1 l u P) : BE X Γ (.Subscript a (.Slice lo hi none p2) pos) P Γ3 := h ha hl hu
theorem sl_S {z : Str} {l u : Option Int} (hz : z.length ≤ sizeLine) : SlB X (dS X.K z) l u (dS X.K (cutS z l u)) := fun ha hl hu => be_slS ha hl hu hz
theorem sl_L {ds : List PyData} {l u : Option Int} : SlB X (dL X.K ds) l u (dL X.K (cutL ds l u)) := fun ha hl hu => be_newD (bn_slL ha hl hu)
theorem be_len {As : List SV} (ha : BA X Γ [e] As Γ') (hc : CallB X (.builtin "len") As P) (hg : Gl X "len") (hm : X.mg "len" = none) (he : starEach [e] X.env = (false, eval e X.env) :: starEach [] X.env := by rfl) : BE X Γ (.Call (.Name "len" p) [e] [] pos) P Γ' :=
  be_builtin hc hg hm PySem.boot_len ha (by decide) (by decide) he
theorem be_intc {i : Int} (ha : BA X Γ [e] [dI X.K i] Γ') (hg : Gl X "int") (hm : X.mg "int" = none) (he : starEach [e] X.env = (false, eval e X.env) :: starEach [] X.env := by rfl) : BE X Γ (.Call (.Name "int" p) [e] [] pos) (dI X.K i) Γ' :=
  be_type cb_int hg hm boot_int ha (by decide) (by decide) he

/-! ### displays, by data -/
def BAd (X : Cx) (Γ : List Sl) (es : List Expr) (ds : List PyData) (Γ' : List Sl) : Prop := BA X Γ es (ds.map (IsD X.K)) Γ'
theorem bad_nil : BAd X Γ [] [] Γ := ba_nil
theorem bad_cons {d : PyData} {ds : List PyData} (ha : BE X Γ e (IsD X.K d) Γ1) (hr : BAd X Γ1 es ds Γ2) (hs : starEach (e :: es) X.env = (false, eval e X.env) :: starEach es X.env := by rfl) : BAd X Γ (e :: es) (d :: ds) Γ2 := ba_cons ha hr hs
theorem be_tupD {ds : List PyData} {x1} (h : BAd X Γ es ds Γ') (hl : ds.length ≤ sizeLine) : BE X Γ (.Tuple es x1 pos) (dU X.K ds) Γ' := be_tup h rfl hl
theorem bn_lstD {ds : List PyData} (h : BAd X Γ es ds Γ') (hl : ds.length ≤ sizeLine) : BN X Γ (.List es pos) (· = ds) Γ' :=
  bn_of (pe_lst h) fun σ H Q ⟨Z, F, E, q⟩ => ⟨Z, F, E, fun vs Z1 F1 H1 E1 S1 ps => by
    have r := rpA_of ps
    exact ⟨by rw [r.length]; exact hl, fun p hp => q vs ds Z1 F1 H1 E1 S1 r rfl p hp⟩⟩
theorem be_lstD {ds : List PyData} (h : BAd X Γ es ds Γ') (hl : ds.length ≤ sizeLine) : BE X Γ (.List es pos) (dL X.K ds) Γ' := be_newD (bn_lstD h hl)
end
end B

/-! Returning something new; the draws' state. -/
namespace B
open PySem PySem.Spec PyProof.Rows L2
section
variable {X : Cx} {Γ Γ' Γ1 Γ2 Γ3 : List Sl} {P P' P1 P2 P3 : SV} {a b c e : Expr} {es : List Expr} {pos p apos : Pos} {K : PySem.W.Frag} {R : Post} {x m : Str}
theorem En.ext {Z H : Hp} {F : Foot} {σ : L2.St} {O : OV} {v : V} {G : Addr → Prop} (E : En Γ Z F σ H) (h : O.p v G H Z) (hz : ∀ a, G a → Z a = none) (hs : ∀ a, G a → ∃ o, H a = some o) (hd : ∀ j a, G a → ¬ F j a) : En (Γ ++ [.own O]) Z (footSet F Γ.length G) (σ ++ [some v]) H := by
  refine ⟨E.zh, fun j k a h1 h2 => ?_, fun j a h1 => ?_, fun j a h1 => ?_, fun j s e => ?_, by rw [List.length_append, List.length_append, E.len]; rfl⟩
  · by_cases hj : j = Γ.length
    · by_cases hk : k = Γ.length
      · rw [hj, hk]
      · rw [hj, foot_at] at h1
        rw [foot_ne hk] at h2
        exact absurd h2 (hd k a h1)
    · by_cases hk : k = Γ.length
      · rw [hk, foot_at] at h2
        rw [foot_ne hj] at h1
        exact absurd h1 (hd j a h2)
      · rw [foot_ne hj] at h1
        rw [foot_ne hk] at h2
        exact E.fsep j k a h1 h2
  · by_cases hj : j = Γ.length
    · rw [hj, foot_at] at h1
      exact hz a h1
    · rw [foot_ne hj] at h1
      exact E.fz j a h1
  · by_cases hj : j = Γ.length
    · rw [hj, foot_at] at h1
      exact hs a h1
    · rw [foot_ne hj] at h1
      exact E.fsome j a h1
  · by_cases hj : j < Γ.length
    · rw [List.getElem?_append_left hj] at e
      rw [List.getElem?_append_left (by rw [E.len]; exact hj)]
      have : footSet F Γ.length G j = F j := by funext a; exact foot_ne (Nat.ne_of_lt hj)
      rw [this]
      exact E.slots j s e
    · have hlt := (List.getElem?_eq_some_iff.mp e).1
      rw [List.length_append] at hlt
      have hj' : j = Γ.length := Nat.le_antisymm (Nat.lt_succ_iff.mp hlt) (Nat.le_of_not_lt hj)
      subst hj'
      rw [List.getElem?_append_right (Nat.le_refl _), Nat.sub_self] at e
      cases e
      refine ⟨v, by rw [← E.len, List.getElem?_append_right (Nat.le_refl _), Nat.sub_self]; rfl, ?_⟩
      have : footSet F Γ.length G Γ.length = G := by funext a; exact foot_at
      rw [this]
      exact h
/-- return of something new -/
theorem bs_retB {ρ : Type} {Ψ : ρ → Prop} {O : ρ → OV} (he : BO X Γ e Ψ O Γ1) (h : ∀ r, Ψ r → R.rt (.at Γ1.length) (Γ1 ++ [.own (O r)])) : BS X Γ (.Return (some e) pos) R :=
  PS.imp (ps_ret he) fun D σ H ⟨Z, F, E, _, rt, _⟩ => ⟨Z, F, E, fun r v G Z' F' H' E' S ψ o g =>
    rt _ _ v Z' _ (σ ++ [some v]) H' (h r ψ) (E'.ext o (fun a ha => (g a ha).1) (fun a ha => (g a ha).2.2.1) fun j a ha => (g a ha).2.2.2 j) (S.setOwn fun a ha => (g a ha).2.1) (by
      show (σ ++ [some v])[Γ1.length]? = some (some v)
      rw [← E'.len, List.getElem?_append_right (Nat.le_refl _), Nat.sub_self]
      rfl)⟩
theorem BO.to {ρ ρ' : Type} {Ψ : ρ → Prop} {O : ρ → OV} {Ψ' : ρ' → Prop} {O' : ρ' → OV} (h : BO X Γ e Ψ O Γ1) (g : ρ → ρ') (k : ∀ r, Ψ r → Ψ' (g r) ∧ (O r).le (O' (g r))) : BO X Γ e Ψ' O' Γ1 :=
  PE.imp h fun σ H Q ⟨Z, F, E, q⟩ => ⟨Z, F, E, fun r v G Z' F' H' E' S ψ o n => q (g r) v G Z' F' H' E' S (k r ψ).1 ((k r ψ).2 _ _ _ _ o) n⟩
theorem gives_last {O : OV} : (RV.at Γ.length).gives (Γ ++ [.own O]) O := by
  refine ⟨O, ?_, OV.le_refl O⟩
  rw [List.getElem?_append_right (Nat.le_refl _), Nat.sub_self]
  rfl
theorem ends {O O' : OV} (h : Γ[0]? = some (.own O)) (k : O.le O') : Ends Γ O' := ⟨O, h, k⟩
theorem ends_rfl {O : OV} (h : Γ[0]? = some (.own O)) : Ends Γ O := ⟨O, h, OV.le_refl O⟩
section
variable {ps : List Str} {k : Nat} {ι ρ : Type} {Φ : ι → Prop} {A : ι → List SV} {O : ι → OV} {Ψ : ι → ρ → Prop} {Rm : ι → ρ → SV} {O' : ι → OV} {C : Addr}
theorem be_callM {y : Str} {py : Pos} (j : Nat) (i : ι) (D : Df X.prog X.w X.K X.mg X.base x ps [] k (FM Φ O A Ψ Rm O')) (hr : Room k X.A) (hg : Gl X x) (hΓ : Γ[j]? = some (.own (O i))) (ha : BA X Γ es (A i) Γ1) (hΓ1 : Γ1[j]? = some (.own (O i))) (φ : Φ i)
    (hN : X.N[j]? = some y) (hv : Vis X.env.scope y) (hdb : (x == ("__debug__" : Str)) = false := by decide) (hd : (y == ("__debug__" : Str)) = false := by decide) (hcd : (y == ("__classdict__" : Str)) = false := by decide)
    (he : starEach (.Name y py :: es) X.env = (false, eval (.Name y py) X.env) :: starEach es X.env := by rfl) (hpl : (backTo pos (starEach es X.env)).any (·.1) = false := by rfl) :
    BE X Γ (.Call (.Name x p) (.Name y py :: es) [] pos) (.ex (Ψ i) (Rm i)) (Γ1.set j (.own (O' i))) := be_of_bo (bo_callW j i D hr hg hΓ ha hΓ1 φ hN hv hdb hd hcd he hpl)
theorem be_methM {pl : Sem Bool} {y : Str} {py : Pos} (j : Nat) (i : ι) (D : DfM X.prog X.w X.K X.mg X.base C m ps [] k (FM Φ O A Ψ Rm O')) (hr : Room k X.A) (hI : ∀ v F H Z, (O i).p v F H Z → InsV C m v H) (hΓ : Γ[j]? = some (.own (O i))) (ha : BA X Γ (e :: es) (A i) Γ1) (hΓ1 : Γ1[j]? = some (.own (O i))) (φ : Φ i)
    (hN : X.N[j]? = some y) (hv : Vis X.env.scope y) (hd : (y == ("__debug__" : Str)) = false := by decide) (hcd : (y == ("__classdict__" : Str)) = false := by decide)
    (hst : starEach (e :: es) X.env = (false, eval e X.env) :: starEach es X.env := by rfl) (hpl : (backTo pos (starEach es X.env)).any (·.1) = false := by rfl)
    (ht : eval (.Call (.Attribute (.Name y py) m apos) (e :: es) [] pos) X.env = (do
      let ov ← eval (.Name y py) X.env
      standAt apos.atName
      let (f, first) ← holding [ov] (getMethod ov m pl)
      callWith pos f first (backTo pos (starEach (e :: es) X.env)) (backToKw pos (keywordEach [] X.env))) := by rfl) :
    BE X Γ (.Call (.Attribute (.Name y py) m apos) (e :: es) [] pos) (.ex (Ψ i) (Rm i)) (Γ1.set j (.own (O' i))) := be_of_bo (bo_methW j i D hr hI hΓ ha hΓ1 φ hN hv hd hcd hst hpl ht)
theorem be_methM0 {pl : Sem Bool} {y : Str} {py : Pos} (j : Nat) (i : ι) (D : DfM X.prog X.w X.K X.mg X.base C m ps [] k (FM Φ O A Ψ Rm O')) (hr : Room k X.A) (hI : ∀ v F H Z, (O i).p v F H Z → InsV C m v H) (hΓ : Γ[j]? = some (.own (O i))) (hA : A i = []) (φ : Φ i)
    (hN : X.N[j]? = some y) (hv : Vis X.env.scope y) (hd : (y == ("__debug__" : Str)) = false := by decide) (hcd : (y == ("__classdict__" : Str)) = false := by decide)
    (ht : eval (.Call (.Attribute (.Name y py) m apos) [] [] pos) X.env = (do
      let ov ← eval (.Name y py) X.env
      standAt apos.atName
      let (f, first) ← holding [ov] (getMethod ov m pl)
      callWith pos f first (backTo pos (starEach [] X.env)) (backToKw pos (keywordEach [] X.env))) := by rfl) :
    BE X Γ (.Call (.Attribute (.Name y py) m apos) [] [] pos) (.ex (Ψ i) (Rm i)) (Γ.set j (.own (O' i))) := be_of_bo (bo_methW0 j i D hr hI hΓ hA φ hN hv hd hcd ht)
end
def WT (X : Cx) (Γ : List Sl) (c : Expr) (body : List Stmt) (R : Post) (inv : Nat → List Sl → Prop) (n : Nat) : Prop := ∃ (k : Bool) (Γ2 : List Sl), BT X Γ c (· = k) Γ2 ∧ (k = true → BSs X Γ2 body { R with nx := fun Γ3 => ∃ m, m < n ∧ inv m Γ3, ct := fun Γ3 => ∃ m, m < n ∧ inv m Γ3, bk := R.nx }) ∧ (k = false → R.nx Γ2)
theorem wt {body : List Stmt} {inv : Nat → List Sl → Prop} {n : Nat} {k : Bool} (hw : Wk Γ Γ') (hc : BT X Γ' c (· = k) Γ2) (ht : k = true → BSs X Γ2 body { R with nx := fun Γ3 => ∃ m, m < n ∧ inv m Γ3, ct := fun Γ3 => ∃ m, m < n ∧ inv m Γ3, bk := R.nx }) (hf : k = false → R.nx Γ2) : WT X Γ c body R inv n := ⟨k, Γ2, hc.wk hw, ht, hf⟩
theorem bs_whileD {body : List Stmt} (inv : Nat → List Sl → Prop) (n : Nat) (h0 : inv n Γ) (hs : ∀ n Γ', inv n Γ' → WT X Γ' c body R inv n)
    (hp : PassesOwn (model X.prog X.w) X.A X.env X.xe) : BS X Γ (.While c body [] pos) R :=
  bs_while inv n h0 (fun n Γ' iv => by
    obtain ⟨k, Γ2, h1, h2, h3⟩ := hs n Γ' iv
    exact ⟨_, Γ2, h1, fun e => h2 e.symm, fun e => h3 e.symm⟩) hp
theorem bt_truthB {k : Bool} (h : BE X Γ a (dB X.K k) Γ') (he : ∀ whole, isTrue a X.env whole = (do let v ← whole; standAt a.pos; holding [v] (truthy v)) := by intro _; rfl) : BT X Γ a (· = k) Γ' := bt_val h he
end
theorem atI_in {α : Type} {xs : List α} {i : Int} (h0 : 0 ≤ i) (h1 : i < xs.length) : ∃ v, v ∈ xs ∧ atI xs i = some v := by
  obtain ⟨n, rfl⟩ := Int.eq_ofNat_of_zero_le h0
  have hn : n < xs.length := Int.ofNat_lt.mp h1
  exact ⟨xs[n], List.getElem_mem hn, atI_nat (List.getElem?_eq_getElem hn)⟩
theorem atI_ints {xs : List Int} {i : Int} (h0 : 0 ≤ i) (h1 : i < (xs.map PyData.int).length) : ∃ c : Int, atI (xs.map PyData.int) i = some (.int c) := by
  obtain ⟨v, hv, e⟩ := atI_in h0 h1
  obtain ⟨c, _, rfl⟩ := List.mem_map.mp hv
  exact ⟨c, e⟩
/-! ### the state that draws -/
def stD (cells : List Int) (nth left : Int) (mixed : Bool) : List PyData := [.list (cells.map .int), .int nth, .int left, .bool mixed]
structure Sta where
  cells : List Int
  nth : Int
  left : Int
  mixed : Bool
def Sta.d (c : Sta) : List PyData := stD c.cells c.nth c.left c.mixed
def ownSt (K : PySem.W.Frag) (p : Addr) : OV := .ex (fun c : Sta => c.cells.length ≤ 63) fun c => ownL K p c.d
theorem ownSt_v {K : PySem.W.Frag} {p : Addr} : ∀ v F H Z, (ownSt K p).p v F H Z → v = .ref p := fun v F H Z ⟨_, _, h⟩ => h.1
theorem ownSt_of {K : PySem.W.Frag} {p : Addr} {cells : List Int} {nth left : Int} {mixed : Bool} (h : cells.length ≤ 63) : (ownL K p (stD cells nth left mixed)).le (ownSt K p) := fun v F H Z q => ⟨⟨cells, nth, left, mixed⟩, h, q⟩
end B

/-! Values of which only a family is known. -/
namespace B
open PySem PySem.Spec PyProof.Rows L2
section
variable {X : Cx} {Γ Γ' Γ1 Γ2 Γ3 : List Sl} {P P' P1 P2 P3 : SV} {a b c e : Expr} {es : List Expr} {pos p apos : Pos} {K : PySem.W.Frag} {R : Post} {x m : Str}
theorem OpB.exL {f : Value → Value → Sem Value} {ι : Type} {Ψ : ι → Prop} {Pf : ι → SV} (h : ∀ i, Ψ i → OpB X f (Pf i) P2 P) : OpB X f (.ex Ψ Pf) P2 P := fun pins s σ H x y v u Q I rx ry ⟨Z, zh, ⟨i, ψ, p1⟩, p2, q⟩ => h i ψ pins s σ H x y v u Q I rx ry ⟨Z, zh, p1, p2, q⟩
theorem OpB.exR {f : Value → Value → Sem Value} {ι : Type} {Ψ : ι → Prop} {Pf : ι → SV} (h : ∀ i, Ψ i → OpB X f P1 (Pf i) P) : OpB X f P1 (.ex Ψ Pf) P := fun pins s σ H x y v u Q I rx ry ⟨Z, zh, p1, ⟨i, ψ, p2⟩, q⟩ => h i ψ pins s σ H x y v u Q I rx ry ⟨Z, zh, p1, p2, q⟩
theorem OpB.le {f : Value → Value → Sem Value} (h : OpB X f P1 P2 P) (k : P.le P') : OpB X f P1 P2 P' := fun pins s σ H x y v u Q I rx ry ⟨Z, zh, p1, p2, q⟩ => h pins s σ H x y v u Q I rx ry ⟨Z, zh, p1, p2, fun w Z' H' g pw => q w Z' H' g (k _ _ pw)⟩
theorem ex_of {ι : Type} {Ψ : ι → Prop} {Pf : ι → SV} (i : ι) (h : Ψ i) : (Pf i).le (.ex Ψ Pf) := fun Z v p => ⟨i, h, p⟩
theorem bt_cmpE {op : CmpOp} {β : Bool → Prop} (ha : BE X Γ a P1 Γ1) (hb : BE X Γ1 b P2 Γ2) (ho : OpB X (compareOp op) P1 P2 (.ex β (dB X.K))) (hm : behindInMarks op b = false := by first | exact nomark _ (by decide) (by decide) | with_unfolding_all rfl) :
    BT X Γ (.Compare a [op] [b] pos) β Γ2 :=
  PT.imp (pt_cmpR ho ha hb hm) fun σ H Q h => t_op σ H _ (by
    obtain ⟨Z, F, E, q⟩ := h
    refine ⟨Z, F, E, fun v Z' F' H' E' S p => ?_⟩
    obtain ⟨k, hk, pk⟩ := p
    cases pk
    exact ⟨k, rfl, q k Z' F' H' E' S hk⟩)
theorem bt_truthE {β : Bool → Prop} (h : BE X Γ a (.ex β (dB X.K)) Γ') (he : ∀ whole, isTrue a X.env whole = (do let v ← whole; standAt a.pos; holding [v] (truthy v)) := by intro _; rfl) : BT X Γ a β Γ' :=
  PT.imp (pt_val h he) fun σ H Q ⟨Z, F, E, q⟩ => ⟨Z, F, E, fun v Z' F' H' E' S p => by
    obtain ⟨k, hk, pk⟩ := p
    cases pk
    exact ⟨k, rfl, q k Z' F' H' E' S hk⟩⟩
/-- an int that is drawn against a number: either answer -/
theorem ob_cmpAny {op : CmpOp} {Ψ : Int → Prop} {j : Int} {g : Int → Bool} (h : ∀ i, Ψ i → OpB X (compareOp op) (dI X.K i) (dI X.K j) (dB X.K (g i))) : OpB X (compareOp op) (.ex Ψ (dI X.K)) (dI X.K j) (.ex (fun _ : Bool => True) (dB X.K)) :=
  OpB.exL fun i ψ => (h i ψ).le (ex_of (Pf := dB X.K) (g i) trivial)
theorem be_ixLx {ds : List PyData} (ha : BE X Γ a (dL X.K ds) Γ1) (hb : BE X Γ1 b P2 Γ2) (h : P2.le (.ex (fun i : Int => 0 ≤ i ∧ i < ds.length) (dI X.K))) (hs : PlainIx b := by exact fun _ _ => rfl) : BE X Γ (.Subscript a b pos) (.ex (fun d => d ∈ ds) (IsD X.K)) Γ2 :=
  PE.imp (pe_ix ix_list ha hb hs) fun σ H Q ⟨Z, F, E, q⟩ => ⟨Z, F, E, fun v1 Z1 F1 H1 E1 S1 p1 => ⟨Z1, F1, E1, fun v2 Z2 F2 H2 E2 S2 p2' => by
    obtain ⟨i, ⟨g0, g1⟩, p2⟩ := h _ _ p2'
    obtain ⟨l, us, rfl, h1, r1⟩ := dL_p ((dL X.K ds).mono S2.z p1)
    obtain rfl := dI_p p2
    obtain ⟨n, rfl⟩ := Int.eq_ofNat_of_zero_le g0
    have hn : n < ds.length := Int.ofNat_lt.mp g1
    obtain ⟨u, hu, ru⟩ := r1.get (List.getElem?_eq_getElem hn)
    exact ⟨l, us, _, u, rfl, rfl, SqL.of (E2.zh _ _ h1), atI_nat hu, q _ Z2 F2 H2 E2 (S1.trans S2) ⟨_, List.getElem_mem hn, ru⟩⟩⟩⟩
theorem bs_retX {ι : Type} {Φ : ι → Prop} {Pf : ι → SV} (he : BE X Γ e (.ex Φ Pf) Γ1) (h : ∀ k, Φ k → R.rt (.fz (Pf k)) Γ1) : BS X Γ (.Return (some e) pos) R :=
  PS.imp (ps_ret he) fun D σ H ⟨Z, F, E, _, rt, _⟩ => ⟨Z, F, E, fun v Z' F' H' E' S ⟨k, φ, p⟩ => rt _ _ v Z' F' σ H' (h k φ) E' S p⟩
end
end B

/-! zip of two tuples; is of truth values. -/
namespace B
open PySem PySem.Spec PyProof.Rows L2
/-- the tuples at a and b side by side, the items in new pairs -/
def ItzU (K : PySem.W.Frag) (a b : Addr) : It :=
  ⟨fun i H => ∃ (xs ys : List V) (x y : V), SqT K H a xs ∧ SqT K H b ys ∧ xs[i]? = some x ∧ ys[i]? = some y,
    fun i H v H' => ∃ T x y, v = .ref T ∧ H T = none ∧ H' = upd H T (.tup [x, y]) ∧ (∀ xs, SqT K H a xs → xs[i]? = some x) ∧ ∀ ys, SqT K H b ys → ys[i]? = some y,
    fun i H => ∃ xs ys : List V, SqT K H a xs ∧ SqT K H b ys ∧ i = min xs.length ys.length⟩
theorem turn_zipU {P : Program} {w : World} {K : PySem.W.Frag} {elts : List Expr} {kk : Nat} {tpos : Pos} {a b z TI TO i1 i2 : Addr} (D : ZipSep2 z TI TO i1 i2 [i1, a] [i2, b]) (n1 : a ≠ i1) (n2 : b ≠ i2) :
    Turn P w K (.Tuple elts kk tpos) (ItzU K a b) [z, TI, TO, i1, i2] z (fun i h => IsZip h z TI TO .none ∧ IsTupOf2 h TI (.ref i1) (.ref i2) ∧ (∃ a1 a2, IsTupOf2 h TO a1 a2) ∧ h.IsTupleIter i1 a i ∧ h.IsTupleIter i2 b i) where
  mem := by simp
  obj := fun i h st c hc => by
    obtain ⟨hz, hTI, ⟨a1, a2, hTO⟩, ⟨o1, e1, _, d1⟩, ⟨o2, e2, _, d2⟩⟩ := st
    have e' : c = z ∨ c = TI ∨ c = TO ∨ c = i1 ∨ c = i2 := by simpa using hc
    rcases e' with q | q | q | q | q
    · rw [q]; exact ⟨_, hz, fun v q => nomatch q⟩
    · rw [q]; exact ⟨_, hTI, fun v q => nomatch q⟩
    · rw [q]; exact ⟨_, hTO, fun v q => nomatch q⟩
    · rw [q]; exact ⟨o1, e1, fun v q => by rw [d1] at q; cases q⟩
    · rw [q]; exact ⟨o2, e2, fun v q => by rw [d2] at q; cases q⟩
  keep := fun i h h' st k => by
    obtain ⟨hz, hTI, ⟨x, y, hTO⟩, h1, h2⟩ := st
    exact ⟨k z (by simp) _ hz, k TI (by simp) _ hTI, ⟨x, y, k TO (by simp) _ hTO⟩, h1.at fun o q => k i1 (by simp) o q, h2.at fun o q => k i2 (by simp) o q⟩
  item := by
    intro X hP hw hK hc i pins s σ H E I hf st hg
    subst hP hw hK
    obtain ⟨hz, hTI, hTO, h1, h2⟩ := st
    obtain ⟨xs, ys, x, y, hqx, hqy, hx, hy⟩ := hg
    obtain ⟨its, rv, p, _⟩ := I.tuple hqx
    obtain ⟨its2, rv2, p2, _⟩ := I.tuple hqy
    obtain ⟨u, hu, ru⟩ := rv.get hx
    obtain ⟨u2, hu2, ru2⟩ := rv2.get hy
    have t1 : s.heap.IsTuple a its.toArray := p
    have t2 : s.heap.IsTuple b its2.toArray := p2
    have hh : X.A.in1.handled = none := I.ok.hd hc
    have W := GoesN.zip2 (prog := X.prog) (w := X.w) (A := X.A) (elts := elts) (x1 := kk) (pos := tpos) D (Draws.tuple hh i1 a n1 its.toArray) (Draws.tuple hh i2 b n2 its2.toArray)
    have l1 : i < its.toArray.size := by simpa using (List.getElem?_eq_some_iff.mp hu).1
    have l2 : i < its2.toArray.size := by simpa using (List.getElem?_eq_some_iff.mp hu2).1
    have zlt : ∀ c ∈ [z, TI, TO, i1, i2], c < s.heap.objs.size := fun c hcm => by
      have e' : c = z ∨ c = TI ∨ c = TO ∨ c = i1 ∨ c = i2 := by simpa using hcm
      rcases e' with q | q | q | q | q
      · rw [q]; exact Heap.lt_size hz
      · rw [q]; exact Heap.lt_size hTI
      · rw [q]; obtain ⟨_, _, q2⟩ := hTO; exact Heap.lt_size q2
      · rw [q]; obtain ⟨_, e1, _⟩ := h1; exact Heap.lt_size e1
      · rw [q]; obtain ⟨_, e1, _⟩ := h2; exact Heap.lt_size e1
    refine W.goes i s (fun u' s2 => ∃ x_1 H', L2.Inv X pins σ H' s2 ∧ RelV x_1 u' ∧ (ItzU X.K a b).yld i H x_1 H' ∧ (IsZip s2.heap z TI TO .none ∧ IsTupOf2 s2.heap TI (.ref i1) (.ref i2) ∧ (∃ a1 a2, IsTupOf2 s2.heap TO a1 a2) ∧ s2.heap.IsTupleIter i1 a (i + 1) ∧ s2.heap.IsTupleIter i2 b (i + 1)) ∧ ∀ b ∈ [z, TI, TO, i1, i2], H' b = none) _ (by rw [Nat.lt_min]; exact ⟨l1, l2⟩) ⟨hz, hTI, hTO, ⟨h1, t1⟩, h2, t2⟩ fun v h' tk ⟨T, vx, vy, ev, hT, ex, ey, hTup⟩ st' hk htk => ?_
    subst ev
    have ex' : vx = u := by
      have e1 : its[i]? = some vx := by simpa using ex
      rw [hu] at e1
      exact (Option.some.inj e1).symm
    have ey' : vy = u2 := by
      have e1 : its2[i]? = some vy := by simpa using ey
      rw [hu2] at e1
      exact (Option.some.inj e1).symm
    subst ex' ey'
    obtain ⟨o, ho, hcl, n, hd⟩ := hTup
    have new : ObjOk X.prog X.w (upd H T (.tup [x, y])) h' T (.tup [x, y]) := ⟨by show 2 ≤ sizeLine; decide, [vx, vy], .cons ru (.cons ru2 .nil), ⟨o, ho, hcl, n, hd⟩⟩
    have I1 := I.turnedNew (t' := tk) (ch := [z, TI, TO, i1, i2]) (fun c o hb q => hk c o (fun q' => hb (by
      have : c = z ∨ c = TO ∨ c = i1 ∨ c = i2 := by simpa using q'
      rcases this with r | r | r | r <;> simp [r])) q) hf hT new
    refine ⟨.ref T, _, I1, rfl, ⟨T, x, y, rfl, I.hok.fresh hT, rfl, fun l hl => by rw [I.tuple_inj hl hqx]; exact hx, fun l hl => by rw [I.tuple_inj hl hqy]; exact hy⟩, ⟨st'.1, st'.2.1, st'.2.2.1, st'.2.2.2.1.1, st'.2.2.2.2.1⟩, fun c hcm => ?_⟩
    rw [upd_ne (Nat.ne_of_lt (Nat.lt_of_lt_of_le (zlt c hcm) hT))]
    exact (hf c hcm).1
  done := by
    intro X hP hw hK hc i pins s σ H E I hf st hg
    subst hP hw hK
    obtain ⟨hz, hTI, hTO, h1, h2⟩ := st
    obtain ⟨xs, ys, hqx, hqy, hi⟩ := hg
    obtain ⟨its, rv, p, _⟩ := I.tuple hqx
    obtain ⟨its2, rv2, p2, _⟩ := I.tuple hqy
    have t1 : s.heap.IsTuple a its.toArray := p
    have t2 : s.heap.IsTuple b its2.toArray := p2
    have l1 := rv.length
    have l2 := rv2.length
    have hh : X.A.in1.handled = none := I.ok.hd hc
    have W := GoesN.zip2 (prog := X.prog) (w := X.w) (A := X.A) (elts := elts) (x1 := kk) (pos := tpos) D (Draws.tuple hh i1 a n1 its.toArray) (Draws.tuple hh i2 b n2 its2.toArray)
    have hi' : i = min its.toArray.size its2.toArray.size := by
      rw [hi, l1, l2]
      simp
    subst hi'
    exact W.stops s _ _ ⟨hz, hTI, hTO, ⟨h1, t1⟩, h2, t2⟩ fun h' tk hk htk => I.turnedL (ch := [z, TI, TO, i1, i2]) (fun c o hb q => hk c o (fun q' => hb (by
      have : c = z ∨ c = TO ∨ c = i1 ∨ c = i2 := by simpa using q'
      rcases this with r | r | r | r <;> simp [r])) q) hf
  self := fun A i s Q E st h => wpAny_pyIter_zip st.1 h
def iZipU (K : PySem.W.Frag) (ta : TA) : TI := fun σ H R => ta σ H fun vs H1 => ∃ a b xs ys, vs = [.ref a, .ref b] ∧ SqT K H1 a xs ∧ SqT K H1 b ys ∧ R (ItzU K a b) H1
theorem pi_zipU {X : Cx} {e e2 : Expr} {ta : TA} {p pos tpos : Pos} {elts : List Expr} {kk : Nat} (hg : Gl X "zip") (hm : X.mg "zip" = none) (ha : PA X [e, e2] ta)
    (hs : starEach [e, e2] X.env = (false, eval e X.env) :: starEach [e2] X.env := by rfl) (hpl : (backTo pos (starEach [e2] X.env)).any (·.1) = false := by rfl) :
    PI X (.Tuple elts kk tpos) (.Call (.Name "zip" p) [e, e2] [] pos) (iZipU X.K ta) := by
  refine ⟨fun pins s σ H R I h => ?_⟩
  refine Call_ (ld_blt I hg hm PyProof.Rows.boot_zip (PyProof.Rows.callWith_type1 (thn (ha.run pos pins s σ H _ I h) fun us s1 ⟨vs, H1, I1, r1, q1⟩ => ?_) hs hpl))
  obtain ⟨a, b, xs, ys, ex, hqx, hqy, q⟩ := q1
  subst ex
  cases r1 with
  | cons r rr =>
    cases rr with
    | cons r' rr =>
      cases rr
      cases r
      cases r'
      obtain ⟨its, rv, pa, _⟩ := I1.tuple hqx
      obtain ⟨its2, rv2, pb, _⟩ := I1.tuple hqy
      have t1 : s1.heap.IsTuple a its.toArray := pa
      have t2 : s1.heap.IsTuple b its2.toArray := pb
      have al : a < s1.heap.objs.size := by obtain ⟨_, q, _⟩ := t1; exact Heap.lt_size q
      have bl : b < s1.heap.objs.size := by obtain ⟨_, q, _⟩ := t2; exact Heap.lt_size q
      refine zip_begins2 (begins_tuple a its.toArray) (begins_tuple b its2.toArray) t1 t2 fun h' hz hTI hTO h1 h2 hsz hk => wpAny_pyIter_zip hz ?_
      have I2 : L2.Inv X pins σ H1 { s1 with heap := h' } := I1.kept (t' := s1.toks) hk
      have D : ZipSep2 (s1.heap.objs.size + 4) (s1.heap.objs.size + 2) (s1.heap.objs.size + 3) s1.heap.objs.size (s1.heap.objs.size + 1) [s1.heap.objs.size, a] [s1.heap.objs.size + 1, b] := zip_sep2 (fp1 := [a]) (fp2 := [b]) (by simpa using al) (by simpa using bl)
      refine ⟨s1.heap.objs.size + 4, [s1.heap.objs.size + 4, s1.heap.objs.size + 2, s1.heap.objs.size + 3, s1.heap.objs.size, s1.heap.objs.size + 1], _, _, H1, rfl, I2, turn_zipU D (Nat.ne_of_lt al) (Nat.ne_of_lt (Nat.lt_succ_of_lt bl)), ⟨hz, hTI, ⟨_, _, hTO⟩, ⟨_, h1, rfl, rfl⟩, ⟨_, h2, rfl, rfl⟩⟩, fun c hcm => ?_, q⟩
      have e' : c = s1.heap.objs.size + 4 ∨ c = s1.heap.objs.size + 2 ∨ c = s1.heap.objs.size + 3 ∨ c = s1.heap.objs.size ∨ c = s1.heap.objs.size + 1 := by simpa using hcm
      have hle : s1.heap.objs.size ≤ c := by
        rcases e' with z | z | z | z | z
        · rw [z]; exact Nat.le_add_right _ _
        · rw [z]; exact Nat.le_add_right _ _
        · rw [z]; exact Nat.le_add_right _ _
        · rw [z]; exact Nat.le_refl _
        · rw [z]; exact Nat.le_add_right _ _
      exact I1.fpOk hle (I1.hok.fresh hle)
section
variable {X : Cx} {Γ Γ' Γ1 Γ2 Γ3 : List Sl} {P P' P1 P2 P3 : SV} {a b c e : Expr} {es : List Expr} {pos p apos : Pos} {K : PySem.W.Frag} {R : Post} {x m : Str}
theorem bi_zipU {elts : List Expr} {kk : Nat} {tpos : Pos} {ds es : List PyData} (hg : Gl X "zip") (hm : X.mg "zip" = none) (h : BA X Γ [a, b] [dU X.K ds, dU X.K es] Γ1)
    (hs : starEach [a, b] X.env = (false, eval a X.env) :: starEach [b] X.env := by rfl) (hpl : (backTo pos (starEach [b] X.env)).any (·.1) = false := by rfl) :
    BI X Γ (.Tuple elts kk tpos) (.Call (.Name "zip" p) [a, b] [] pos) (fun x : PyData × PyData => dU X.K [x.1, x.2]) (ds.zip es) Γ1 :=
  PI.imp (pi_zipU hg hm h hs hpl) fun σ H R ⟨Z, F, E, q⟩ => ⟨Z, F, E, fun vs Z1 F1 H1 E1 S1 ps => by
    cases ps with
    | cons p1 ps =>
      cases ps with
      | cons p2 ps =>
        cases ps
        obtain ⟨a1, us, rfl, ha, r⟩ := dU_p p1
        obtain ⟨a2, ws, rfl, hb, r'⟩ := dU_p p2
        have hl := r.length
        have hl' := r'.length
        have hn : (ds.zip es).length = min us.length ws.length := by rw [List.length_zip, hl, hl']
        refine ⟨a1, a2, us, ws, rfl, SqT.up E1.zh ha, SqT.up E1.zh hb, q _ Z1 F1 H1 E1 S1 ⟨fun i H hi z => ?_, fun H z => ?_, fun i H x H' Z hi z1 z2 y => ?_⟩⟩
        · rw [hn, Nat.lt_min] at hi
          exact ⟨us, ws, us[i]'hi.1, ws[i]'hi.2, SqT.up z ha, SqT.up z hb, by simp, by simp⟩
        · exact ⟨us, ws, SqT.up z ha, SqT.up z hb, hn⟩
        · obtain ⟨T, x0, y0, rfl, hT, rfl, k1, k2⟩ := y
          have e1 := k1 us (SqT.up z2 (SqT.up z1 ha))
          have e2 := k2 ws (SqT.up z2 (SqT.up z1 hb))
          obtain ⟨d, e3, rd⟩ := r.get' e1
          obtain ⟨d', e3', rd'⟩ := r'.get' e2
          have g := Gr.new (o := .tup [x0, y0]) z2 hT
          exact ⟨_, (d, d'), g, by rw [List.getElem?_zip_eq_some]; exact ⟨e3, e3'⟩, .tup (SqT.of upd_same) (.cons (Rp.mono (z1.trans g.z) _ _ rd) (.cons (Rp.mono (z1.trans g.z) _ _ rd') .nil))⟩⟩
theorem ob_isB {k k' : Bool} : OpB X (compareOp .Is) (dB X.K k) (dB X.K k') (dB X.K (decide (k = k'))) :=
  opb_pure op_isBl fun Z H x y Q zh p1 p2 q => ⟨k, k', dB_p p1, dB_p p2, q _ (.bl _)⟩
def BAt (X : Cx) (Γ : List Sl) (es : List Expr) (ns : List String) (Γ' : List Sl) : Prop := BA X Γ es (ns.map tyS) Γ'
theorem bat_nil : BAt X Γ [] [] Γ := ba_nil
theorem bat_cons {n : String} {ns : List String} (ha : BE X Γ e (tyS n) Γ1) (hr : BAt X Γ1 es ns Γ2) (hs : starEach (e :: es) X.env = (false, eval e X.env) :: starEach es X.env := by rfl) : BAt X Γ (e :: es) (n :: ns) Γ2 := ba_cons ha hr hs
theorem be_tysT {ns : List String} {x1} (h : BAt X Γ es ns Γ') (hl : ns.length ≤ sizeLine) : BE X Γ (.Tuple es x1 pos) (tysS ns) Γ' := be_tys h rfl hl
theorem be_callR {ps : List Str} {k : Nat} {ι : Type} {Φ : ι → Prop} {A : ι → List SV} {Rf : ι → SV} (i : ι) (D : Df X.prog X.w X.K X.mg X.base x ps [] k (FS Φ A Rf)) (hr : Room k X.A) (hg : Gl X x) (ha : BA X Γ (e :: es) (A i) Γ') (φ : Φ i) (hR : (Rf i).le P) (hdb : (x == ("__debug__" : Str)) = false := by decide)
    (he : starEach (e :: es) X.env = (false, eval e X.env) :: starEach es X.env := by rfl) (hpl : (backTo pos (starEach es X.env)).any (·.1) = false := by rfl) : BE X Γ (.Call (.Name x p) (e :: es) [] pos) P Γ' := (be_call i D hr hg ha φ hdb he hpl).le hR
theorem dB_le {k : Bool} (h : k = true) : (dB K k).le (dB K true) := by rw [h]; exact SV.le_refl _
end
end B

/-! Data that is not too deep: == of it. -/
namespace B
open PySem PySem.Spec PyProof.Rows L2
/-- lists and tuples of texts, numbers, truth values, none, n deep -/
inductive Okd : Nat → PyData → Prop
  | non {n} : Okd n .none
  | bl {n} (b : Bool) : Okd n (.bool b)
  | int {n} (i : Int) : Okd n (.int i)
  | str {n} (s : Str) : PyData.strOk s = true → Okd n (.str s)
  | lst {n} {ds : List PyData} : ds.length ≤ 1000 → (∀ d ∈ ds, Okd n d) → Okd (n + 1) (.list ds)
  | tup {n} {ds : List PyData} : ds.length ≤ 1000 → (∀ d ∈ ds, Okd n d) → Okd (n + 1) (.tuple ds)
theorem Okd.le {n m : Nat} {d : PyData} (h : Okd n d) (k : n ≤ m) : Okd m d := by
  induction h generalizing m with
  | non => exact .non
  | bl b => exact .bl b
  | int i => exact .int i
  | str s h => exact .str s h
  | lst hl _ ih =>
    obtain ⟨m', rfl⟩ : ∃ m', m = m' + 1 := ⟨m - 1, by omega⟩
    exact .lst hl fun d hd => ih d hd (by omega)
  | tup hl _ ih =>
    obtain ⟨m', rfl⟩ : ∃ m', m = m' + 1 := ⟨m - 1, by omega⟩
    exact .tup hl fun d hd => ih d hd (by omega)
theorem lay_all : ∀ {ds : List PyData}, (∀ d ∈ ds, d.canLay0 = true) → PyData.canLayAll0 ds = true
  | [], _ => by simp [PyData.canLayAll0]
  | d :: ds, h => by
    simp only [PyData.canLayAll0, Bool.and_eq_true]
    exact ⟨h d List.mem_cons_self, lay_all fun e he => h e (List.mem_cons_of_mem _ he)⟩
theorem depth_all {n : Nat} : ∀ {ds : List PyData}, (∀ d ∈ ds, d.depth ≤ n) → PyData.depthAll ds ≤ n
  | [], _ => by simp [PyData.depthAll]
  | d :: ds, h => by
    simp only [PyData.depthAll]
    exact Nat.max_le.mpr ⟨h d List.mem_cons_self, depth_all fun e he => h e (List.mem_cons_of_mem _ he)⟩
theorem Okd.lay {n : Nat} {d : PyData} (h : Okd n d) : d.canLay0 = true := by
  induction h with
  | non => simp [PyData.canLay0]
  | bl b => simp [PyData.canLay0]
  | int i => simp [PyData.canLay0]
  | str s h => simpa [PyData.canLay0] using h
  | lst _ _ ih => simp only [PyData.canLay0]; exact lay_all ih
  | tup _ _ ih => simp only [PyData.canLay0]; exact lay_all ih
theorem Okd.deep {n : Nat} {d : PyData} (h : Okd n d) : d.depth ≤ n := by
  induction h with
  | non => simp [PyData.depth]
  | bl b => simp [PyData.depth]
  | int i => simp [PyData.depth]
  | str s h => simp [PyData.depth]
  | lst _ _ ih => simp only [PyData.depth]; exact Nat.succ_le_succ (depth_all ih)
  | tup _ _ ih => simp only [PyData.depth]; exact Nat.succ_le_succ (depth_all ih)
theorem Okd.shaped {n : Nat} {d : PyData} (h : Okd n d) (k : n ≤ 64) : SeqAt.shaped d = true := by
  unfold SeqAt.shaped
  rw [h.lay, Bool.true_and]
  exact decide_eq_true (Nat.le_trans h.deep k)
theorem eqv_all : ∀ {ds : List PyData}, (∀ d ∈ ds, PyData.eqv d d = true) → PyData.eqvAll ds ds = true
  | [], _ => by simp [PyData.eqvAll]
  | d :: ds, h => by
    simp only [PyData.eqvAll, Bool.and_eq_true]
    exact ⟨h d List.mem_cons_self, eqv_all fun e he => h e (List.mem_cons_of_mem _ he)⟩
theorem Okd.eqv {n : Nat} {d : PyData} (h : Okd n d) : PyData.eqv d d = true := by
  induction h with
  | non => simp [PyData.eqv]
  | bl b => simp [PyData.eqv]
  | int i => simp [PyData.eqv]
  | str s h => simp [PyData.eqv]
  | lst _ _ ih => simp only [PyData.eqv]; exact eqv_all ih
  | tup _ _ ih => simp only [PyData.eqv]; exact eqv_all ih
theorem eqv_nil (ds : List PyData) : PyData.eqv (.list ds) (.list []) = ds.isEmpty := by cases ds <;> simp [PyData.eqv, PyData.eqvAll]
theorem okd_strs (l : List Str) (h : l.length ≤ 1000) (ho : ∀ s ∈ l, PyData.strOk s = true) : Okd 1 (.list (l.map .str)) := .lst (by rw [List.length_map]; exact h) fun d hd => by
  obtain ⟨s, hs, rfl⟩ := List.mem_map.mp hd
  exact .str s (ho s hs)
section
variable {X : Cx} {Γ Γ' Γ1 Γ2 Γ3 : List Sl} {P P' P1 P2 P3 : SV} {a b c e : Expr} {es : List Expr} {pos p apos : Pos} {K : PySem.W.Frag} {R : Post} {x m : Str}
theorem ex_unit {P : SV} : (SV.ex (fun _ : Unit => True) (fun _ => P)).le P := fun _ _ ⟨_, _, h⟩ => h
/-- a new list of which it is known what it holds, frozen at once -/
theorem be_boL {ρ : Type} {Ψ : ρ → Prop} {O : ρ → OV} {ds : List PyData} (h : BO X Γ e Ψ O Γ') (hO : ∀ r, ∃ q, (O r).le (ownL X.K q ds)) : BE X Γ e (dL X.K ds) Γ' :=
  PE.imp h fun σ H Q ⟨Z, F, E, q⟩ => ⟨Z, F, E, fun r v G Z' F' H' E' S ψ o n => by
    obtain ⟨a, le⟩ := hO r
    obtain ⟨e1, f, us, h1, r1⟩ := le _ _ _ _ o
    subst e1
    obtain ⟨n1, n2, n3, n4⟩ := n _ f
    have zz : Same Z' (upd Z' a (.lst us)) := fun b u e => by rw [upd_ne (ne_of_none e n1)]; exact e
    refine q _ _ F' H' (E'.freeze h1 n1 n4) ⟨fun b u e => zz b u (S.z b u e), S.f, fun b u e => ?_, S.fr, S.al⟩ (.lst upd_same (RpA.mono zz _ _ r1))
    by_cases hb : b = a
    · subst hb
      exact n2.elim (fun z => .inr (.inr z)) fun z => .inr (.inl z)
    · rw [upd_ne hb] at e
      exact S.zn b u e⟩
/-- isinstance of one's own list -/
theorem be_isiO {q : Addr} {ds : List PyData} {O : OV} {n : String} {k : Bool} {e2 : Expr} (j : Nat) (ha : BR X Γ e (.ref q)) (hΓ : Γ[j]? = some (.own O)) (hO : LstAt X.K O q ds) (hb : BE X Γ e2 (tyS n) Γ1) (hΓ1 : Γ1[j]? = some (.own O)) (hk : isTy "list" n = k) (hn : n ∈ tysB) (hg : Gl X "isinstance") (hm : X.mg "isinstance" = none)
    (he : starEach [e, e2] X.env = (false, eval e X.env) :: starEach [e2] X.env := by rfl) (he2 : starEach [e2] X.env = (false, eval e2 X.env) :: starEach [] X.env := by rfl) (hpl : (backTo pos (starEach [e2] X.env)).any (·.1) = false := by rfl) : BE X Γ (.Call (.Name "isinstance" p) [e, e2] [] pos) (dB X.K k) Γ1 :=
  PE.imp (pe_callB call_isi hg hm boot_isinstance (pa_cons ha (pa_cons hb pa_nil he2) he) (he := he) (hpl := hpl)) fun σ H Q ⟨Z, F, E, q1⟩ => ⟨Z, F, E, Z, F, E, fun v Z1 F1 H1 E1 S1 p1 => by
    obtain ⟨w, ew, o1⟩ := E1.slots j _ hΓ1
    obtain ⟨f, us, h1, r1⟩ := hO _ _ _ _ o1
    cases p1
    have kk : PySem.W.kitOne X.K (.type "list") (.type n) = some k := by
      rw [← hk]
      exact kit_isTy (.list []) hn
    exact ⟨_, _, _, _, _, rfl, .ty n, .base (.lst h1), kk, q1 _ Z1 F1 H1 E1 S1 (.bl _)⟩⟩
theorem be_isiTO {q : Addr} {ds : List PyData} {O : OV} {ns : List String} {k : Bool} {e2 : Expr} (j : Nat) (ha : BR X Γ e (.ref q)) (hΓ : Γ[j]? = some (.own O)) (hO : LstAt X.K O q ds) (hb : BE X Γ e2 (tysS ns) Γ1) (hΓ1 : Γ1[j]? = some (.own O)) (hk : ns.any (isTy "list") = k) (hn : (ns.all fun n => tysB.contains n) = true) (hg : Gl X "isinstance") (hm : X.mg "isinstance" = none)
    (he : starEach [e, e2] X.env = (false, eval e X.env) :: starEach [e2] X.env := by rfl) (he2 : starEach [e2] X.env = (false, eval e2 X.env) :: starEach [] X.env := by rfl) (hpl : (backTo pos (starEach [e2] X.env)).any (·.1) = false := by rfl) : BE X Γ (.Call (.Name "isinstance" p) [e, e2] [] pos) (dB X.K k) Γ1 :=
  PE.imp (pe_callB call_isiT hg hm boot_isinstance (pa_cons ha (pa_cons hb pa_nil he2) he) (he := he) (hpl := hpl)) fun σ H Q ⟨Z, F, E, q1⟩ => ⟨Z, F, E, Z, F, E, fun v Z1 F1 H1 E1 S1 ⟨tp, e1, ht⟩ => by
    obtain ⟨w, ew, o1⟩ := E1.slots j _ hΓ1
    obtain ⟨f, us, h1, r1⟩ := hO _ _ _ _ o1
    subst e1
    have kk : PySem.W.kitAny X.K (.type "list") (ns.map Value.type) = some k := by
      rw [← hk]
      exact kitAny_all (.list []) ns fun n h => List.contains_iff_mem.mp (List.all_eq_true.mp hn n h)
    exact ⟨_, tp, _, _, _, _, rfl, E1.zh _ _ ht, cls_all ns, .base (.lst h1), kk, q1 _ Z1 F1 H1 E1 S1 (.bl _)⟩⟩
/-- without lists -/
inductive Okt : Nat → PyData → Prop
  | non {n} : Okt n .none
  | bl {n} (b : Bool) : Okt n (.bool b)
  | int {n} (i : Int) : Okt n (.int i)
  | str {n} (s : Str) : Okt n (.str s)
  | tup {n} {ds : List PyData} : (∀ d ∈ ds, Okt n d) → Okt (n + 1) (.tuple ds)
end
end B

/-! Walks of which only a family is known. -/
namespace B
open PySem PySem.Spec PyProof.Rows L2
section
variable {X : Cx} {Γ Γ' Γ1 Γ2 Γ3 : List Sl} {P P' P1 P2 P3 : SV} {a b c e : Expr} {es : List Expr} {pos p apos : Pos} {K : PySem.W.Frag} {R : Post} {x m : Str}
def BIF (X : Cx) (Γ : List Sl) (tg iter : Expr) {ι α : Type} (S : α → SV) (Φ : ι → Prop) (xs : ι → List α) (Γ' : List Sl) (W : List Sl → Prop) : Prop :=
  PI X tg iter fun σ H R => ∃ Z F, En Γ Z F σ H ∧ ∀ J C Z1 F1 H1 ix, En Γ' Z1 F1 σ H1 → Stp Z F H Z1 F1 H1 → Φ ix → (∀ Γ2 Z2 F2 σ2 H2, W Γ2 → En Γ2 Z2 F2 σ2 H2 → Same Z1 Z2 → C Z2 H2) → WalkC J C S (xs ix) → R J H1
theorem bs_forE {ι α : Type} {S : α → SV} {Φ : ι → Prop} {xs : ι → List α} {tg iter : Expr} {body : List Stmt} {W : List Sl → Prop} (hI : BIF X Γ tg iter S Φ xs Γ1 W) (inv : Nat → List Sl → Prop) (h0 : inv 0 Γ1) (hW : ∀ i Γ', inv i Γ' → W Γ')
    (hs : ∀ ix, Φ ix → ∀ i x Γ', (xs ix)[i]? = some x → inv i Γ' → ∃ Γ'' Γ2 ts, Wk Γ' Γ'' ∧ BG X Γ'' tg (S x) Γ2 ts ∧ BSs X Γ2 body { R with nx := inv (i + 1), ct := inv (i + 1), bk := R.nx }) (hd : ∀ ix, Φ ix → ∀ Γ', inv (xs ix).length Γ' → R.nx Γ')
    (hp : PassesOwn (model X.prog X.w) X.A X.env X.xe) (hc : X.calm = true) (hfs : ∀ x, foldedSetIterable iter X.env x = pure x := by intro _; rfl) : BS X Γ (.For tg iter body [] pos) R := by
  -- the target, the body: at any turn and any invariant
  have hg : PG X tg (fun v σ H Q => ∃ (i : Nat) (x : α) (Γ' Γ2 : List Sl) (ts : List Nat) (Z : Hp) (F : Foot), BG X Γ' tg (S x) Γ2 ts ∧ En Γ' Z F σ H ∧ (S x).p Z v ∧ ∀ σ', En Γ2 Z F σ' H → Q σ' H) :=
    ⟨fun pins s σ H v u Q I r ⟨i, x, Γ', Γ2, ts, Z, F, bg, E, p, q⟩ => PG.run bg.pg pins s σ H v u Q I r ⟨Z, F, E, p, fun σ' E' _ => q σ' E'⟩⟩
  have hb : PSs X body (fun D σ H => ∃ i Γ2, BSs X Γ2 body { R with nx := inv (i + 1), ct := inv (i + 1), bk := R.nx } ∧ tS Γ2 { R with nx := inv (i + 1), ct := inv (i + 1), bk := R.nx } D σ H) :=
    ⟨fun pins s σ H D I ⟨i, Γ2, bb, q⟩ => PSs.run bb pins s σ H D I q⟩
  refine PS.imp (ps_for hp hc hI hg hb hfs) fun D σ H ⟨Z, F, E, nx, rt, bk, ct⟩ => ⟨Z, F, E, fun J C Z1 F1 H1 ix E1 S1 φ cc w => ?_⟩
  refine ⟨fun i m σ' H' => m = (xs ix).length - i ∧ i ≤ (xs ix).length ∧ ∃ Γ' Z' F', inv i Γ' ∧ En Γ' Z' F' σ' H' ∧ Stp Z F H Z' F' H' ∧ Same Z1 Z', ⟨(xs ix).length, by simp, Nat.zero_le _, Γ1, Z1, F1, h0, E1, S1, Same.refl _⟩, ?_⟩
  rintro i m σ' H' ⟨rfl, hi, Γ', Z', F', iv, E', S', z'⟩
  have c' := cc _ _ _ _ _ (hW i Γ' iv) E' z'
  by_cases hlt : i < (xs ix).length
  · refine .inr ⟨w.goes i Z' H' hlt c', fun σ2 H2 => ∃ Γ2 Z2 F2, inv (i + 1) Γ2 ∧ En Γ2 Z2 F2 σ2 H2 ∧ Stp Z F H Z2 F2 H2 ∧ Same Z1 Z2, fun σ2 H2 q => ⟨(xs ix).length - (i + 1), by omega, rfl, hlt, q⟩, fun x H2 y => ?_⟩
    obtain ⟨Z2, z, g, ez, p⟩ := w.yields i H' x H2 Z' hlt c' E'.zh y
    obtain ⟨Γ'', Γ2, ts, wk, bg, bb⟩ := hs ix φ i z Γ' ez iv
    refine ⟨i, z, Γ'', Γ2, ts, Z2, F', bg, (E'.grow g).wk wk, p, fun σ3 E3 => ?_⟩
    have S3 := S'.trans (g.stp (F := F'))
    refine ⟨i, Γ2, bb, Z2, F', E3, fun Γ4 Z4 F4 σ4 H4 m4 E4 S4 => ⟨Γ4, Z4, F4, m4, E4, S3.trans S4, (z'.trans g.z).trans S4.z⟩, fun P4 Γ4 v4 Z4 F4 σ4 H4 m4 E4 S4 p4 => rt P4 Γ4 v4 Z4 F4 σ4 H4 m4 E4 (S3.trans S4) p4,
      fun Γ4 Z4 F4 σ4 H4 m4 E4 S4 => nx Γ4 Z4 F4 σ4 H4 m4 E4 (S3.trans S4), fun Γ4 Z4 F4 σ4 H4 m4 E4 S4 => ⟨Γ4, Z4, F4, m4, E4, S3.trans S4, (z'.trans g.z).trans S4.z⟩⟩
  · have e : i = (xs ix).length := by omega
    subst e
    exact .inl ⟨w.stops Z' H' c', nx Γ' Z' F' σ' H' (hd ix φ Γ' iv) E' S'⟩

theorem bi_range1E {tg : Expr} {p : Pos} {Ψ : Int → Prop} (hg : Gl X "range") (hm : X.mg "range" = none) (h : BE X Γ a P Γ1) (hP : P.le (.ex Ψ (dI X.K))) (hn : ∀ n, Ψ n → -(2 ^ 62) ≤ n ∧ n < 2 ^ 62) (hs : starEach [a] X.env = [(false, eval a X.env)] := by rfl) :
    BIF X Γ tg (.Call (.Name "range" p) [a] [] pos) (fun i : Nat => dI X.K (i : Int)) Ψ (fun n => List.range n.toNat) Γ1 fun _ => True :=
  PI.imp (pi_range1 hg hm (ba_cons h ba_nil hs) hs) fun σ H R ⟨Z, F, E, q⟩ => ⟨Z, F, E, fun vs Z1 F1 H1 E1 S1 ps => by
    cases ps with
    | cons p1' ps =>
      cases ps
      obtain ⟨n, ψ, p1⟩ := hP _ _ p1'
      cases p1
      have w : WalkB (Itr 0 n.toNat) Z1 (fun i : Nat => dI X.K (i : Int)) (List.range n.toNat) := ⟨fun i H hi _ => walk_range.goes i H (by simpa using hi) trivial, fun H _ => by rw [List.length_range]; exact walk_range.stops H trivial, fun i H x H' Z hi z1 z2 y => by
        rw [List.length_range] at hi
        obtain ⟨rfl, rfl⟩ := walk_range.yields i H x H' hi trivial y
        exact ⟨Z, i, Gr.refl z2, by simp [hi], by show Rp X.K Z (.int (0 + (i : Int))) (.int (i : Int)); rw [Int.zero_add]; exact .int _⟩⟩
      exact ⟨n, rfl, (hn n ψ).1, (hn n ψ).2, q _ (fun (Z H : Hp) => Same Z1 Z ∧ Same Z H) Z1 F1 H1 n E1 S1 ψ (fun Γ2 Z2 F2 σ2 H2 _ E2 z => ⟨z, E2.zh⟩) w.toC⟩⟩
theorem be_ifN {β : Bool → Prop} {t : Expr} (ht : BT X Γ t β Γ1) (ha : β true → BE X Γ1 a P Γ2) (hb : β false → BE X Γ1 b P Γ2) : BE X Γ (.IfExp t a b pos) P Γ2 := by
  refine ⟨fun pins s σ H Q I ⟨Z, F, E, q⟩ => ?_⟩
  refine wpAny_IfExp (thn (PT.run ht pins s σ H _ I ⟨Z, F, E, fun v Z' F' H' E' S p => (⟨p, Z', F', E', S⟩ : (fun v H' => β v ∧ ∃ Z' F', En Γ1 Z' F' σ H' ∧ Stp Z F H Z' F' H') v H')⟩) fun d s1 ⟨H1, I1, e1, Z1, F1, E1, S1⟩ => ?_)
  cases d with
  | true => exact PE.run (ha e1) pins s1 σ H1 Q I1 ⟨Z1, F1, E1, fun v Z' F' H' E' S p => q v Z' F' H' E' (S1.trans S) p⟩
  | false => exact PE.run (hb e1) pins s1 σ H1 Q I1 ⟨Z1, F1, E1, fun v Z' F' H' E' S p => q v Z' F' H' E' (S1.trans S) p⟩
/-- and, its right part open -/
theorem bw_andN {rest : List Expr} {k : Bool} {β : Bool → Prop} (ha : BT X Γ a (· = k) Γ1) (hb : k = true → BW X Γ1 (.BoolOp .And (b :: rest) pos) β Γ1) : BW X Γ (.BoolOp .And (a :: b :: rest) pos) (fun r => r = true → k = true ∧ β true) Γ1 := by
  cases k with
  | true =>
    refine PW.imp (pw_and ha (hb rfl)) fun σ H Q ⟨Z, F, E, q⟩ => ⟨Z, F, E, fun v Z' F' H' E' S p => ?_⟩
    have p' : v = true := p
    subst p'
    show (if true = true then _ else _)
    rw [if_pos rfl]
    refine ⟨Z', F', E', fun v2 Z2 F2 H2 E2 S2 p2 => q v2 Z2 F2 H2 E2 (S.trans S2) fun e => ⟨rfl, ?_⟩⟩
    subst e
    exact p2
  | false =>
    refine ⟨fun wh pins s σ H Q I ⟨Z, F, E, q⟩ => ?_⟩
    refine PyProof.Rows.isTrue_and (thn (PT.run ha pins s σ H _ I ⟨Z, F, E, fun v Z' F' H' E' S p => (⟨p, q v Z' F' H' E' S fun e => by rw [show v = false from p] at e; cases e⟩ : (fun v H' => v = false ∧ Q v H') v H')⟩) fun c s1 ⟨H1, I1, e1, q1⟩ => ?_)
    subst e1
    exact ⟨H1, I1, q1⟩
/-- or, its right part open -/
theorem bw_orN {rest : List Expr} {k : Bool} {β : Bool → Prop} (ha : BT X Γ a (· = k) Γ1) (hb : k = false → BW X Γ1 (.BoolOp .Or (b :: rest) pos) β Γ1) : BW X Γ (.BoolOp .Or (a :: b :: rest) pos) (fun r => r = false → k = false ∧ β false) Γ1 := by
  cases k with
  | false =>
    refine PW.imp (pw_or ha (hb rfl)) fun σ H Q ⟨Z, F, E, q⟩ => ⟨Z, F, E, fun v Z' F' H' E' S p => ?_⟩
    have p' : v = false := p
    subst p'
    show (if false = true then _ else _)
    rw [if_neg Bool.false_ne_true]
    refine ⟨Z', F', E', fun v2 Z2 F2 H2 E2 S2 p2 => q v2 Z2 F2 H2 E2 (S.trans S2) fun e => ⟨rfl, ?_⟩⟩
    subst e
    exact p2
  | true =>
    refine ⟨fun wh pins s σ H Q I ⟨Z, F, E, q⟩ => ?_⟩
    refine PyProof.Rows.isTrue_or (thn (PT.run ha pins s σ H _ I ⟨Z, F, E, fun v Z' F' H' E' S p => (⟨p, q v Z' F' H' E' S fun e => by rw [show v = true from p] at e; cases e⟩ : (fun v H' => v = true ∧ Q v H') v H')⟩) fun c s1 ⟨H1, I1, e1, q1⟩ => ?_)
    subst e1
    exact ⟨H1, I1, q1⟩
theorem bs_augX {x : Str} {pos' : Pos} {op : Operator} {ι : Type} {Φ : ι → Prop} {Pf : ι → SV} (i : Nat) (hΓ : Γ[i]? = some (.fz P1)) (he : BE X Γ e P2 Γ1) (ho : OpB X (inplaceOp op) P1 P2 (.ex Φ Pf)) (h : ∀ k, Φ k → R.nx (Γ1.set i (.fz (Pf k)))) (hN : X.N.Nodup) (hi : X.N[i]? = some x) (hx : Loc X.env.scope x)
    (hf : X.fn x = true ∨ X.env.scope.names.lookup x = some .local := by first | exact .inl rfl | exact .inr rfl | assumption) : BS X Γ (.AugAssign (.Name x pos') op e pos) R :=
  PS.imp (ps_aug (ti := rB P1 P2 (.ex Φ Pf)) hN hi hx he ho hf) fun D σ H ⟨Z, F, E, nx, _⟩ => by
    obtain ⟨v, e1, p1⟩ := E.slots i _ hΓ
    exact ⟨v, e1, Z, F, E, fun v2 Z' F' H' E' S p2 => ⟨Z', E'.zh, P1.mono S.z p1, p2, fun w Z2 H2 g ⟨k, φ, p⟩ => nx _ Z2 F' _ H2 (h k φ) ((E'.grow g).set i p) (S.trans g.stp)⟩⟩
/-- a value seen as one of a family -/
theorem be_some {ι : Type} {Φ : ι → Prop} {Pf : ι → SV} (i : ι) (h : BE X Γ e (Pf i) Γ1) (φ : Φ i) : BE X Γ e (.ex Φ Pf) Γ1 := h.le (ex_of i φ)
end
end B

/-! Texts of which only a family is known. -/
namespace B
open PySem PySem.Spec PyProof.Rows L2
section
variable {X : Cx} {Γ Γ' Γ1 Γ2 Γ3 : List Sl} {P P' P1 P2 P3 : SV} {a b c e : Expr} {es : List Expr} {pos p apos : Pos} {K : PySem.W.Frag} {R : Post} {x m : Str}
theorem be_callME {ps : List Str} {k : Nat} {ι ρ : Type} {Φ : ι → Prop} {A : ι → List SV} {O : ι → OV} {Ψ : ι → ρ → Prop} {Rm : ι → ρ → SV} {O' : ι → OV} {y : Str} {py : Pos} (j : Nat) (i : ι) (D : Df X.prog X.w X.K X.mg X.base x ps [] k (FM Φ O A Ψ Rm O')) (hr : Room k X.A) (hg : Gl X x) (hΓ : Γ[j]? = some (.own (O i))) (ha : BA X Γ es (A i) Γ1) (hΓ1 : Γ1[j]? = some (.own (O i))) (φ : Φ i) (hE : Γ1.set j (.own (O' i)) = Γ2)
    (hN : X.N[j]? = some y) (hv : Vis X.env.scope y) (hdb : (x == ("__debug__" : Str)) = false := by decide) (hd : (y == ("__debug__" : Str)) = false := by decide) (hcd : (y == ("__classdict__" : Str)) = false := by decide)
    (he : starEach (.Name y py :: es) X.env = (false, eval (.Name y py) X.env) :: starEach es X.env := by rfl) (hpl : (backTo pos (starEach es X.env)).any (·.1) = false := by rfl) :
    BE X Γ (.Call (.Name x p) (.Name y py :: es) [] pos) (.ex (Ψ i) (Rm i)) Γ2 := by
  rw [← hE]
  exact be_callM j i D hr hg hΓ ha hΓ1 φ hN hv hdb hd hcd he hpl
theorem be_joinX {z : Str} {Φ : List Str → Prop} (h : BE X Γ a (dS X.K z) Γ1) (hb : BE X Γ1 b P2 Γ2) (hP : P2.le (.ex Φ fun ys : List Str => dL X.K (ys.map .str))) (hz : ∀ ys, Φ ys → (ys.map (·.length)).sum + ys.length * z.length ≤ 16777216)
    (hpe : ∀ t t', PE X a t → PE X b t' → PE X (.Call (.Attribute a "join" apos) [b] [] pos) (tM1 (fun x xs H Q => ∃ a p, ∃ ys : List Str, x = .str a ∧ xs = [.ref p] ∧ (SqL X.K H p (ys.map V.str) ∨ SqT X.K H p (ys.map V.str)) ∧ (ys.map (·.length)).sum + ys.length * a.length ≤ 16777216 ∧ Q (.str (Txt.join a ys)) H) t t') := by exact fun _ _ h h' => pe_join h h') :
    BE X Γ (.Call (.Attribute a "join" apos) [b] [] pos) (.ex Φ fun ys : List Str => dS X.K (Txt.join z ys)) Γ2 :=
  PE.imp (hpe _ _ h hb) fun σ H Q ⟨Z, F, E, q⟩ => ⟨Z, F, E, fun v Z' F' H' E' S p => by
    obtain rfl := dS_p p
    refine ⟨⟨z, rfl⟩, Z', F', E', fun v2 Z2 F2 H2 E2 S2 p2' => ?_⟩
    obtain ⟨ys, φ, p2⟩ := hP _ _ p2'
    obtain ⟨l, us, rfl, h1, r⟩ := dL_p p2
    have e := rpA_of_strs ys r
    subst e
    exact ⟨z, l, ys, rfl, rfl, .inl (SqL.of (E2.zh _ _ h1)), hz ys φ, q _ Z2 F2 H2 E2 (S.trans S2) ⟨ys, φ, .str _⟩⟩⟩
theorem be_slSX {lo hi : Option Expr} {l u : Option Int} {p2 : Pos} {ι : Type} {Φ : ι → Prop} {f : ι → Str} (he : BE X Γ e P Γ1) (hP : P.le (.ex Φ fun i => dS X.K (f i))) (hl : BP X Γ1 lo l Γ2) (hu : BP X Γ2 hi u Γ3) (hz : ∀ i, Φ i → (f i).length ≤ sizeLine) : BE X Γ (.Subscript e (.Slice lo hi none p2) pos) (.ex Φ fun i => dS X.K (cutS (f i) l u)) Γ3 :=
  PE.imp (pe_slice sl_str he hl hu) fun σ H Q ⟨Z, F, E, q⟩ => ⟨Z, F, E, fun v Z1 F1 H1 E1 S1 p' => ⟨Z1, F1, E1, fun Z2 F2 H2 E2 S2 => ⟨Z2, F2, E2, fun Z3 F3 H3 E3 S3 => by
    obtain ⟨i, φ, p⟩ := hP _ _ p'
    exact ⟨f i, dS_p p, hz i φ, q _ Z3 F3 H3 E3 ((S1.trans S2).trans S3) ⟨i, φ, .str _⟩⟩⟩⟩⟩
end
theorem lc_sub {α : Type} {β : α → Bool → Prop} {f : α → PyData} {xs : List α} {ds : List PyData} (h : Lc β (fun x d => d = f x) xs ds) : ∃ cs : List α, cs.Sublist xs ∧ ds = cs.map f := by
  induction h with
  | nil => exact ⟨[], List.Sublist.slnil, rfl⟩
  | @skip xs ds x _ _ ih =>
    obtain ⟨cs, h1, h2⟩ := ih
    exact ⟨cs, h1.trans (List.sublist_append_left xs [x]), h2⟩
  | @take xs ds x d _ _ hd ih =>
    obtain ⟨cs, h1, h2⟩ := ih
    exact ⟨cs ++ [x], List.Sublist.append h1 (List.Sublist.refl _), by rw [List.map_append, h2, hd]; rfl⟩
theorem cutL_pre {α : Type} (xs : List α) (u : Option Int) : ∃ k, cutL xs none u = xs.take k := by
  unfold cutL
  rw [HT.sIx_none, List.drop_zero]
  exact ⟨_, rfl⟩
theorem join_signs (cs : List Nat) : (Txt.join "" (cs.map fun c => (⟨#[c]⟩ : Str))).cps.toList = cs := by
  have go : ∀ (l : List Nat) (a : Array Nat), ((l.map fun c => (⟨#[c]⟩ : Str)).foldl (fun acc p => acc ++ (Str.ofString "").cps ++ p.cps) a).toList = a.toList ++ l := by
    intro l
    induction l with
    | nil => intro a; simp
    | cons c l ih =>
      intro a
      rw [List.map_cons, List.foldl_cons, ih]
      have e : (Str.ofString "").cps = #[] := rfl
      rw [e]
      simp
  cases cs with
  | nil => rfl
  | cons c l =>
    exact (go l #[c]).trans rfl
end B

/-! A call that is shown one's own list inside a new one. -/
namespace B
open PySem PySem.Spec PyProof.Rows L2
section
variable {X : Cx} {Γ Γ' Γ1 Γ2 Γ3 : List Sl} {P P' P1 P2 P3 : SV} {a b c e : Expr} {es : List Expr} {pos p apos : Pos} {K : PySem.W.Frag} {R : Post} {x m : Str}
/-- what grows beside a frozen part that is larger for a while: back to it without q and r -/
theorem En.seen2 {Z H Zp : Hp} {F : Foot} {σ : L2.St} {q r : Addr} (E : En Γ Z F σ H) (hz : Z q = none) (hr : Z r = none) (hs : Same Z Zp) (only : ∀ b u, Zp b = some u → Z b = some u ∨ b = q ∨ b = r) {Z' H' : Hp} (g : Gr Zp H Z' H') : ∃ Z2, En Γ Z2 F σ H' ∧ Stp Z F H Z2 F H' := by
  refine ⟨fun b => if b = q ∨ b = r then none else Z' b, ?_⟩
  have z2 : Same Z fun b => if b = q ∨ b = r then none else Z' b := fun b u e => by
    have hb : ¬ (b = q ∨ b = r) := by
      rintro (z | z)
      · rw [z, hz] at e; cases e
      · rw [z, hr] at e; cases e
    show (if b = q ∨ b = r then none else Z' b) = _
    rw [if_neg hb]
    exact g.z b u (hs b u e)
  have zh : Same (fun b => if b = q ∨ b = r then none else Z' b) H' := fun b u e => by
    have e' : (if b = q ∨ b = r then none else Z' b) = some u := e
    by_cases hb : b = q ∨ b = r
    · rw [if_pos hb] at e'; cases e'
    · rw [if_neg hb] at e'
      exact g.zh b u e'
  have fk : ∀ i a, F i a → H' a = H a := fun i a h => by
    obtain ⟨u, e⟩ := E.fsome i a h
    rw [e, g.h a u e]
  refine ⟨⟨zh, E.fsep, fun i a h => ?_, fun i a h => ?_, fun i s e => (E.slots i s e).grow z2 (fk i), E.len⟩, ⟨z2, fun i a h => .inl ⟨i, h⟩, fun a u e => ?_, fun a u e _ => g.h a u e, fun a u e => ⟨u, g.h a u e⟩⟩⟩
  · show (if a = q ∨ a = r then none else Z' a) = none
    by_cases hb : a = q ∨ a = r
    · rw [if_pos hb]
    · rw [if_neg hb]
      cases z : Z' a with
      | none => rfl
      | some u =>
        rcases g.nw a u z with h1 | h1
        · rcases only a u h1 with h2 | h2 | h2
          · rw [E.fz i a h] at h2; cases h2
          · exact absurd (.inl h2) hb
          · exact absurd (.inr h2) hb
        · obtain ⟨u2, e2⟩ := E.fsome i a h
          rw [h1] at e2; cases e2
  · obtain ⟨u, e⟩ := E.fsome i a h
    exact ⟨u, g.h a u e⟩
  · have e' : (if a = q ∨ a = r then none else Z' a) = some u := e
    by_cases hb : a = q ∨ a = r
    · rw [if_pos hb] at e'; cases e'
    · rw [if_neg hb] at e'
      rcases g.nw a u e' with h1 | h1
      · rcases only a u h1 with h2 | h2 | h2
        · exact .inl h2
        · exact absurd (.inl h2) hb
        · exact absurd (.inr h2) hb
      · exact .inr (.inl h1)
/-- f([y, e2], e3): y one's own list -/
theorem be_callSeen {y : Expr} {e2 e3 : Expr} {lp : Pos} {q : Addr} {ds : List PyData} {d2 d3 : PyData} {O : OV} {k : Bool} {ps : List Str} {kk : Nat} {ι : Type} {Φ : ι → Prop} {A : ι → List SV} {Rf : ι → SV} (j : Nat) (i : ι) (D : Df X.prog X.w X.K X.mg X.base x ps [] kk (FS Φ A Rf)) (hr : Room kk X.A) (hg : Gl X x)
    (ha : BR X Γ y (.ref q)) (h2 : BE X Γ e2 (IsD X.K d2) Γ1) (h3 : BE X Γ1 e3 (IsD X.K d3) Γ2) (hΓ2 : Γ2[j]? = some (.own O)) (hO : LstAt X.K O q ds) (hA : A i = [dL X.K [.list ds, d2], IsD X.K d3]) (φ : Φ i) (hR : (Rf i).le (dB X.K k)) (hdb : (x == ("__debug__" : Str)) = false := by decide)
    (he1 : starEach [y, e2] X.env = (false, eval y X.env) :: starEach [e2] X.env := by rfl) (he2 : starEach [e2] X.env = (false, eval e2 X.env) :: starEach [] X.env := by rfl) (he3 : starEach [e3] X.env = (false, eval e3 X.env) :: starEach [] X.env := by rfl)
    (he : starEach [.List [y, e2] lp, e3] X.env = (false, eval (.List [y, e2] lp) X.env) :: starEach [e3] X.env := by rfl) (hpl : (backTo pos (starEach [e3] X.env)).any (·.1) = false := by rfl) :
    BE X Γ (.Call (.Name x p) [.List [y, e2] lp, e3] [] pos) (dB X.K k) Γ2 := by
  obtain ⟨f, fd, dfl, hm, hk, hb, hd, F⟩ := D
  refine PE.imp (pe_call F hr hg hm hk hb hd pass0 (pa_cons (pe_lst (pa_cons ha (pa_cons h2 pa_nil he2) he1)) (pa_cons h3 pa_nil he3) he) hdb he hpl) fun σ H Q ⟨Z, F0, E, q1⟩ => ⟨Z, F0, E, Z, F0, E, fun v2 Z1 F1 H1 E1 S1 p2 => ⟨by show 2 ≤ sizeLine; decide, fun l hl => ?_⟩⟩
  have zl : Z1 l = none := E1.zh.free hl
  have g1 := Gr.lost (o := .lst [.ref q, v2]) E1.zh hl
  refine ⟨Z1, F1, E1.grow g1, fun v3 Z3 F3 H3 E3 S3 p3 => ?_⟩
  obtain ⟨w, ew, o3⟩ := E3.slots j _ hΓ2
  obtain ⟨f3, us, hq, r3⟩ := hO _ _ _ _ o3
  have zq := E3.fz j q f3
  have nl : ∀ i, ¬ F1 i l := fun i h => by
    obtain ⟨u, e⟩ := E1.fsome i l h
    rw [hl] at e; cases e
  have hl3 : H3 l = some (.lst [.ref q, v2]) := S3.fr l _ upd_same nl
  have zl3 : Z3 l = none := by
    cases z : Z3 l with
    | none => rfl
    | some u =>
      rcases S3.zn l u z with h | h | ⟨i, h⟩
      · rw [zl] at h; cases h
      · rw [upd_same] at h; cases h
      · exact absurd h (nl i)
  have nql : l ≠ q := fun e => by
    rcases S3.f j q f3 with ⟨i, h⟩ | h
    · exact nl i (by rw [e]; exact h)
    · rw [← e, upd_same] at h; cases h
  let Zp := upd (upd Z3 q (.lst us)) l (.lst [.ref q, v2])
  have hs : Same Z3 Zp := fun b u e => by
    show upd (upd Z3 q (.lst us)) l (.lst [.ref q, v2]) b = _
    rw [upd_ne (ne_of_none e zl3), upd_ne (ne_of_none e zq)]
    exact e
  have hzp : Same Zp H3 := fun b u e => by
    by_cases h1 : b = l
    · subst h1
      have e' : upd (upd Z3 q (.lst us)) b (.lst [.ref q, v2]) b = some u := e
      rw [upd_same] at e'
      rw [hl3]
      exact e'
    · have e' : upd (upd Z3 q (.lst us)) l (.lst [.ref q, v2]) b = some u := e
      rw [upd_ne h1] at e'
      by_cases h2 : b = q
      · subst h2
        rw [upd_same] at e'
        rw [hq]
        exact e'
      · rw [upd_ne h2] at e'
        exact E3.zh b u e'
  have only : ∀ b u, Zp b = some u → Z3 b = some u ∨ b = q ∨ b = l := fun b u e => by
    by_cases h1 : b = l
    · exact .inr (.inr h1)
    · have e' : upd (upd Z3 q (.lst us)) l (.lst [.ref q, v2]) b = some u := e
      rw [upd_ne h1] at e'
      by_cases h2 : b = q
      · exact .inr (.inl h2)
      · rw [upd_ne h2] at e'
        exact .inl e'
  have zpq : Zp q = some (.lst us) := by
    show upd (upd Z3 q (.lst us)) l (.lst [.ref q, v2]) q = _
    rw [upd_ne (Ne.symm nql), upd_same]
  have args : Ps Zp (A i) [.ref l, v3] := by
    rw [hA]
    refine .cons (.lst (show Zp l = _ from upd_same) (.cons (.lst zpq (RpA.mono hs _ _ r3)) (.cons (Rp.mono (S3.z.trans hs) _ _ p2) .nil))) (.cons (Rp.mono hs _ _ p3) .nil)
  refine ⟨i, Zp, φ, hzp, by rw [List.append_nil]; exact args, fun u Z' H' g pu => ?_⟩
  obtain ⟨Z4, E4, S4⟩ := E3.seen2 zq zl3 hs only g
  have pb := hR _ _ pu
  cases pb
  exact q1 _ Z4 F3 H' E4 (((S1.trans g1.stp).trans S3).trans S4) (.bl k)
theorem bw_andE {rest : List Expr} {β β' : Bool → Prop} (ha : BT X Γ a β Γ1) (hb : β true → BW X Γ1 (.BoolOp .And (b :: rest) pos) β' Γ1) : BW X Γ (.BoolOp .And (a :: b :: rest) pos) (fun r => r = true → β true ∧ β' true) Γ1 := by
  by_cases hβ : β true
  · refine PW.imp (pw_and ha (hb hβ)) fun σ H Q ⟨Z, F, E, q⟩ => ⟨Z, F, E, fun v Z' F' H' E' S p => ?_⟩
    cases v with
    | true =>
      show (if true = true then _ else _)
      rw [if_pos rfl]
      refine ⟨Z', F', E', fun v2 Z2 F2 H2 E2 S2 p2 => q v2 Z2 F2 H2 E2 (S.trans S2) fun e => ⟨hβ, ?_⟩⟩
      subst e
      exact p2
    | false =>
      show (if false = true then _ else _)
      rw [if_neg Bool.false_ne_true]
      exact q false Z' F' H' E' S fun e => by cases e
  · refine ⟨fun wh pins s σ H Q I ⟨Z, F, E, q⟩ => ?_⟩
    refine PyProof.Rows.isTrue_and (thn (PT.run ha pins s σ H _ I ⟨Z, F, E, fun v Z' F' H' E' S p => (by
      cases v with
      | true => exact absurd p hβ
      | false => exact ⟨rfl, q false Z' F' H' E' S fun e => by cases e⟩ : (fun v H' => v = false ∧ Q v H') v H')⟩) fun c s1 ⟨H1, I1, e1, q1⟩ => ?_)
    subst e1
    exact ⟨H1, I1, q1⟩
end
end B

/-! A head by the kernel's own run: what the end leans on. -/
namespace B
open PySem PySem.Spec PyProof.Rows L2
theorem fun_ofD {K : PySem.W.Frag} {x qual : Str} {st : Stmt} {f : Addr} {fd : FuncData} (F : FunD K x qual (defArgs st) (defBody st) (defScope st) [] [] f fd) : Fun K x qual st f fd := by
  obtain ⟨oc, od, dV, kV, doc, pm, an, cdv, ct, osl, rfl, lk, hcd, hD, hK⟩ := F.ex
  rcases hD with ⟨_, rfl⟩ | ⟨e, _⟩
  · exact ⟨⟨oc, od, kV, doc, pm, an, cdv, ct, osl, rfl, lk, hcd⟩, F.kp⟩
  · exact absurd rfl e
/-- facts by names, defs, one more look -/
def hookB (n : Nat) (fa : List He.Fa) (fn : List He.DefD) (ex : PySem.W.Frag → Bool) : PySem.W.Hook where
  α := He.AlD × Bool
  obs := fun s => (He.obsDG n fa fn s.heap.get?, ex (He.frG s.heap.get? (He.asD s.heap.get? n)))
  val := fun _ => (He.valD fn, true)
  says := fun _ h => ∃ K : PySem.W.Frag, K.In h ∧ He.SaysD fa fn K ∧ ex K = true
  of := fun _ _ e => ⟨_, He.frG_in, congrArg (fun z : He.AlD × Bool => z.1) e, congrArg (fun z : He.AlD × Bool => z.2) e⟩
  keeps := fun _ _ _ ⟨K, hK, c⟩ k => ⟨K, PySem.W.Frag.In.keeps hK k, c⟩
def obsB (n : Nat) (fa : List He.Fa) (fn : List He.DefD) (ex : PySem.W.Frag → Bool) (s : PySem.W.SharedT) : He.AlD × Bool := (He.obsDG n fa fn (HandSHeadRun.getT s), ex (He.frG (HandSHeadRun.getT s) (He.asD (HandSHeadRun.getT s) n)))
theorem obsB_eq {n : Nat} {fa : List He.Fa} {fn : List He.DefD} {ex : PySem.W.Frag → Bool} (s : PySem.W.SharedT) : obsB n fa fn ex s = (hookB n fa fn ex).obs s.abs := by
  have e : HandSHeadRun.getT s = s.abs.heap.get? := funext fun a => HandSHeadRun.getT_eq s a
  unfold obsB
  rw [e] <;> rfl
end B

/-! Frozen instances: ==, !=, len and walks by the text's own methods. -/
namespace B
open PySem PySem.Spec PyProof.Rows L2
section
variable {X : Cx} {pins : List (Addr × Obj)} {σ : L2.St} {H : Hp} {s : Shared} {n k : Nat} {A : Around} {f C : Addr} {fd : FuncData} {ps : List Str} {sp : Sp}
/-- a def of the text called somewhere below the running body -/
theorem run_at {Q : VK} {us : List Value} {vs : List V} (sb : Sub X n A) (F : FnOk X.prog X.w X.K X.mg X.base CX0 n f fd ps sp) (hb : Binds X.K fd ps []) (I : Inv X pins σ H s) (r : Vals vs us) (hsp : sp vs H Q E0) :
    wpAny (model X.prog X.w) A (call (.ref f) us) (EP X pins σ Q) X.xe s := by
  have e0 : Env0 X.prog X.w X.K X.mg X.base A X.stack s H :=
    let e := I.env0
    ⟨sb.fr.trans e.frames, e.mod, e.bs, e.bsz, e.funs, e.frf, e.hok, e.bare⟩
  have hl : us.length = ps.length := r.length.symm.trans (F.len _ _ _ _ hsp)
  have bd : BindsTo s fd ⟨us, []⟩ (ps.zip us) := by simpa using hb s us I.kIn (by simpa using hl)
  refine wpAny_call (codeAny_mono (F.run A X.stack s H _ us vs Q E0 sb.room e0 bd r hsp) fun z s' hz => ?_)
  match z, hz with
  | .ok (.ret w), hz => exact I.after hz
theorem looks_ty {y : V} {u t : Value} (I : Inv X pins σ H s) (ry : RelV y u) (ty : TyX X.K H y t) : PySem.W.Looks (model X.prog X.w) s.heap (typeOf u) t := by
  obtain ⟨P, Z, hP, _⟩ := kit_of I ry ty
  exact Z.ty _ _ I.kIn hP
/-- a special method of the class at C, a def of the text -/
structure Spc (X : Cx) (C : Addr) (nm : Str) (n : Nat) (ps : List Str) (sp : Sp) : Prop where
  ex : ∃ (f : Addr) (fd : FuncData), PySem.W.findIn X.K (.ref C) nm = some (some (.ref f)) ∧ PySem.W.isFn X.K (.ref f) = true ∧ FnOk X.prog X.w X.K X.mg X.base CX0 n f fd ps sp ∧ Binds X.K fd ps []
theorem call_lenO (D : Spc X C "__len__" n ps sp) (hr : Room (n + 1) X.A) : CallR X (.builtin "len") (fun xs H Q => ∃ a dx fs, xs = [.ref a] ∧ H a = some (.ins C dx fs) ∧ sp [.ref a] H (fun v H' => ∃ i : Int, v = .int i ∧ 0 ≤ i ∧ i < 2 ^ 63 ∧ Q (.int i) H') E0) := by
  obtain ⟨f, fd, hs, hf, F, hb⟩ := D.ex
  intro pins s σ H xs us Q I r ⟨a, dx, fs, exs, ha, hsp⟩
  subst exs
  cases r with
  | cons ra rn =>
    cases rn
    cases ra
    obtain ⟨mA, J, _⟩ := ins_get I.hok ha
    obtain ⟨od, J, _⟩ := J.look
    obtain ⟨m, hF⟩ := I.fr
    refine PySem.W.len_K hF I.ok.mod.kin J hs hf ?_
    refine thn (run_at (Sub.in1 ⟨hr, rfl⟩) F hb I (.cons (show RelV (.ref a) (.ref a) from rfl) .nil) hsp) fun u s' ⟨z, H', I', rz, i, ez, h0, h1, q⟩ => ?_
    subst ez
    obtain ⟨t, rfl⟩ := rz
    exact ⟨⟨h0, h1⟩, .int i, H', I'.tok _, ⟨_, rfl⟩, q⟩
theorem op_eqO (D : Spc X C "__eq__" n ps sp) (hr : Room n X.A) : OpR X (compareOp .Eq) (fun x y H Q => ∃ a dx fs tb, x = .ref a ∧ H a = some (.ins C dx fs) ∧ TyX X.K H y tb ∧ PySem.W.notFirst X.K C tb = true ∧ sp [x, y] H (fun v H' => ∃ b, v = .bl b ∧ Q (.bl b) H') E0) := by
  obtain ⟨f, fd, hs, hf, F, hb⟩ := D.ex
  intro pins s σ H x y v u Q I rx ry ⟨a, dx, fs, tb, ex, ha, ty, hn, hsp⟩
  subst ex
  cases rx
  obtain ⟨mA, J, _⟩ := ins_get I.hok ha
  obtain ⟨od, J, _⟩ := J.look
  obtain ⟨m, hF⟩ := I.fr
  show wpAny (model X.prog X.w) X.A (richCompare .Eq (.ref a) u) (EP X pins σ Q) X.xe s
  refine PySem.W.cmp_K (op := .Eq) (tb := tb) hr.units0 hF I.ok.mod.kin J (looks_ty I ry ty) hn hs hf ?_
  refine thn (run_at ⟨hr, rfl⟩ F hb I (.cons (show RelV (.ref a) (.ref a) from rfl) (.cons ry .nil)) hsp) fun w s' ⟨z, H', I', rz, b, ez, q⟩ => ?_
  subst ez
  cases rz
  exact ⟨.bl b, H', I', rfl, q⟩
end
/-- the class at C, straight under object, has __eq__ at f and no __ne__ -/
def neIn (K : PySem.W.Frag) (C f : Addr) : Bool := match K.lookup C with
  | some ⟨.type "type", _, .cls cd, sl⟩ => (match cd.mro, sl.toList with
    | [.ref C', .type b], [_, _, _, _, some (.builtin _), _] => C' == C && (b == "object" && (!cd.hasDel && (PySem.W.nsOkIn K cd.ns && (decide (PySem.W.nsIn K cd.ns "__eq__" = some (some (.ref f))) && (decide (PySem.W.nsIn K cd.ns "__ne__" = some none) && (match K.lookup f with | some o => o.cls == .type "function" | none => false))))))
    | _, _ => false)
  | _ => false
theorem ns_at {K : PySem.W.Frag} {h : Heap} {N : Addr} {m : Str → Option Value} {x : Str} {v : Value} (X : K.In h) (G : h.Ns N m) (e : PySem.W.nsIn K N x = some (some v)) : m x = some v := by
  obtain ⟨o, es, ep, ho, hd, _, hf⟩ := G
  unfold PySem.W.nsIn at e
  split at e
  · rename_i q
    have hq := X _ _ q
    rw [ho] at hq
    cases hq
    cases hd
    split at e
    · rename_i e1 he
      cases e
      rw [← hf]
      unfold PySem.nsFind PySem.findBy
      rw [← Array.find?_toList, he] <;> rfl
    · split at e <;> cases e
  · cases e
theorem ne_own {K : PySem.W.Frag} {C f x : Addr} {h : Heap} {o : Obj} (X : K.In h) (q : neIn K C f = true) (hx : h.get? x = some o) (hc : o.cls = .ref C) : h.OwnEqNoNe x C f "object" [.type "object"] := by
  unfold neIn at q
  split at q
  · rename_i dd cd sl ho
    split at q
    · rename_i C' b k0 k1 k2 k3 n k5 hm hs
      simp only [Bool.and_eq_true, beq_iff_eq, Bool.not_eq_true', decide_eq_true_eq] at q
      obtain ⟨rfl, rfl, hdel, hok, he, hne, hfn⟩ := q
      obtain ⟨nm, bs, mro, ns, qn, hd, sn, sub, ab, col, del⟩ := cd
      dsimp only at hm hdel hok he hne
      subst hm hdel
      have hsl : sl = #[k0, k1, k2, k3, some (.builtin n), k5] := by
        obtain ⟨l⟩ := sl
        simp only at hs
        rw [hs]
      subst hsl
      obtain ⟨of, hof, hofc⟩ : ∃ o, K.lookup f = some o ∧ o.cls = .type "function" := by
        cases e : K.lookup f with
        | none => rw [e] at hfn; cases hfn
        | some w => rw [e] at hfn; exact ⟨w, rfl, by simpa using hfn⟩
      have hns : h.Ns ns (h.nsMap ns) := .of_isNs (PySem.W.isNs_of_in X hok)
      obtain ⟨y, hy⟩ : ∃ y, typeLookup (.type "object") "__eq__" = pure y := ⟨some (.builtin "object.__eq__"), by rw [typeLookup_type, builtinLookup_eq_fast]; kernel_rfl⟩
      exact ⟨o, of, nm, qn, ns, bs, hd, sn, sub, ab, col, dd, k0, k1, k2, k3, k5, n, h.nsMap ns, y, hx, hc, X _ _ ho, hns, ns_at X hns he, X _ _ hof, hofc, PySem.F.mro_object, hy, PySem.W.nsMap_none_of_in X hok hne⟩
    · cases q
  · cases q
section
variable {X : Cx} {n : Nat} {C : Addr} {ps : List Str} {sp : Sp}
theorem op_neO (D : Spc X C "__eq__" n ps sp) (hr : Room (n + 1) X.A) (hne : ∀ f, PySem.W.findIn X.K (.ref C) "__eq__" = some (some (.ref f)) → neIn X.K C f = true) :
    OpR X (compareOp .NotEq) (fun x y H Q => ∃ a b dx dy fs gs, x = .ref a ∧ y = .ref b ∧ H a = some (.ins C dx fs) ∧ H b = some (.ins C dy gs) ∧ sp [x, y] H (fun v H' => ∃ k, v = .bl k ∧ Q (.bl (!k)) H') E0) := by
  obtain ⟨f, fd, hs, hf, F, hb⟩ := D.ex
  intro pins s σ H x y v u Q I rx ry ⟨a, b, dx, dy, fs, gs, ex, ey, ha, hb', hsp⟩
  subst ex ey
  cases rx
  cases ry
  have ta := (show ObjOk X.prog X.w H s.heap a (.ins C dx fs) from I.hok a _ ha).2.2.2.1
  have tb := (show ObjOk X.prog X.w H s.heap b (.ins C dy gs) from I.hok b _ hb').2.2.2.1
  have oe := ne_own I.kIn (hne f hs) ta rfl
  have run := run_at (Sub.in1 ⟨hr, rfl⟩) F hb I (.cons (show RelV (.ref a) (.ref a) from rfl) (.cons (show RelV (.ref b) (.ref b) from rfl) .nil)) hsp
  obtain ⟨hp, g, d, t, os⟩ := s
  refine compareOp_ne_ownEq PySem.F.cmp_object oe tb rfl (by have := hr.un; omega) (thn run fun w s' ⟨z, H', I', rz, k, ez, q⟩ => ?_)
  subst ez
  cases rz
  exact ⟨k, rfl, .bl (!k), H', I', rfl, q⟩
end
end B

/-! Frozen instances over data; walks by an own __iter__; new things frozen at once; one's own list shown to a class. -/
namespace B
open PySem PySem.Spec PyProof.Rows L2
section
variable {X : Cx} {pins : List (Addr × Obj)} {σ : L2.St} {H : Hp} {s : Shared} {k : Nat} {A : Around} {f C : Addr} {fd : FuncData} {N ps : List Str} {x qual : Str} {st : Stmt} {Q : VK} {us : List Value} {vs : List V}
/-- a def called, by its body read at this very state -/
theorem run_sized (sb : Sub X (k + 1) A) (F : Fun X.K x qual st f fd) (S : FnScope N ps (defScope st)) (hb : Binds X.K fd ps []) (I : Inv X pins σ H s) (r : Vals vs us) (hl : vs.length = ps.length)
    (body : ∀ cdv, ∃ t, PSs (cxOf CX0 X.prog X.w X.K X.mg X.base N qual (defScope st) f cdv A X.stack s H E0) (defBody st) t ∧ t { nx := fun _ _ => False, rt := Q } (start N vs) H) :
    wpAny (model X.prog X.w) A (call (.ref f) us) (EP X pins σ Q) X.xe s := by
  have e0 : Env0 X.prog X.w X.K X.mg X.base A X.stack s H :=
    let e := I.env0
    ⟨sb.fr.trans e.frames, e.mod, e.bs, e.bsz, e.funs, e.frf, e.hok, e.bare⟩
  have bd : BindsTo s fd ⟨us, []⟩ (ps.zip us) := by simpa using hb s us I.kIn (by simpa using r.length.symm.trans hl)
  obtain ⟨oc, od, kV, doc, pm, an, cdv, ct, osl, rfl, lk, hcd⟩ := F.ex
  have kx : X.K.In s.heap := I.kIn
  have lm : s.heap.NoLimit := I.nolimit
  have kinds : ∀ y ∈ ps.zip us, (defScope st).names.lookup y.1 = some .local ∨ ((defScope st).names.lookup y.1 = some .cell ∧ ((cellsFrom (s.heap.objs.size + 1) (defScope st).names []).lookup y.1).isSome = true) := fun ⟨n, v⟩ hy => by
    rcases S.par n (List.of_mem_zip hy).1 with c | c
    · exact .inl c
    · exact .inr ⟨c, PySem.W.cellsFrom_some _ _ _ (.inl c)⟩
  have go : codeAny (model X.prog X.w) A (.call (.ref f) ⟨us, []⟩) (CR CX0 X.stack X.prog X.w H s Q E0) s := by
    refine codeAny_call_function sb.room.depth (kx _ _ lk) rfl S.co S.gen rfl
      (PySem.W.codeRec_of kx hcd) (bd _ _ _ _ ?_)
    refine wpAny_newFunctionEnv_cells S.kind kinds fun env he s1 ic => ?_
    subst he
    refine ⟨lm.keeps ic.toInCall.keep, codeAny_func ?_⟩
    obtain ⟨t, ht, hq⟩ := body cdv
    have J : Inv (cxOf CX0 X.prog X.w X.K X.mg X.base N qual (defScope st) f cdv A X.stack s H E0) [] (start N vs) H s1 := inv_start S sb.room.hd e0 hl r ic
    refine wpAny_mono (ht.run [] s1 (start N vs) H _ J hq) (fun fl s2 h2 => ?_) fun e s2 h2 => h2
    cases fl with
    | ret u =>
      obtain ⟨v, σ', H', J', rv, q⟩ := h2
      exact ⟨v, H', J'.os, J'.bare, J'.base, J'.hok, rv, q⟩
    | next =>
      obtain ⟨_, _, _, q⟩ := h2
      exact q.elim
    | brk =>
      obtain ⟨_, _, _, q⟩ := h2
      exact q.elim
    | cont =>
      obtain ⟨_, _, _, q⟩ := h2
      exact q.elim
  refine wpAny_call (codeAny_mono go fun z s' hz => ?_)
  match z, hz with
  | .ok (.ret w), hz => exact I.after hz
end
/-- iter(o) of an instance of the class at C walks the list in its attribute fld -/
def IterOk (X : Cx) (C : Addr) (fld : Str) (n : Nat) : Prop := ∃ f, PySem.W.findIn X.K (.ref C) "__iter__" = some (some (.ref f)) ∧ PySem.W.isFn X.K (.ref f) = true ∧
  ∀ (pins : List (Addr × Obj)) (σ : L2.St) (H : Hp) (s : Shared) (a dx l : Addr) (fs : List (Str × V)) (zs : List V) (Q : VK), Room n X.A → Inv X pins σ H s → H a = some (.ins C dx fs) → fs.lookup fld = some (.ref l) → SqL X.K H l zs →
    (∀ it, H it = none → s.heap.objs.size ≤ it → Q (.ref it) (upd H it (ItO l it 0))) → wpAny (model X.prog X.w) X.A (call (.ref f) [.ref a]) (EP X pins σ Q) X.xe s
section
variable {X : Cx} {Γ Γ' Γ1 Γ2 Γ3 : List Sl} {P P' P1 P2 P3 : SV} {a b c e o : Expr} {es : List Expr} {pos p apos : Pos} {K : PySem.W.Frag} {R : Post} {x m fld : Str} {n k : Nat} {C : Addr}
theorem next_of {it l : Addr} {s : Shared} {M : Model} {A : Around} {Q : Option Value → Shared → Prop} {E : Value → Shared → Prop} (h : s.heap.get? it = some (GNX.itObj l 0)) (q : Q (some (.builtin "list_iterator.__next__")) s) : wpAny M A (specialOf (.ref it) "__next__") Q E s := by
  unfold specialOf
  refine wpAny_bind (wpAny_typeOf_ref h ?_)
  rw [show typeLookup (GNX.itObj l 0).cls "__next__" = pure (some (.builtin "list_iterator.__next__")) from by show typeLookup (.type "list_iterator") "__next__" = _; rw [typeLookup_type, builtinLookup_eq_fast]; kernel_rfl]
  exact wpAny_pure q
theorem pi_own {tg : Expr} {te : TE} (D : IterOk X C fld n) (hr : Room n X.A) (he : PE X e te) : PI X tg e (fun σ H R => te σ H fun v H1 => ∃ a dx fs l zs, v = .ref a ∧ H1 a = some (.ins C dx fs) ∧ fs.lookup fld = some (.ref l) ∧ SqL X.K H1 l zs ∧ R (Itl X.K l) H1) := by
  obtain ⟨f, hs, hf, run⟩ := D
  refine ⟨fun pins s σ H R I h => ?_⟩
  refine thn (he.run pins s σ H _ I h) fun v s1 ⟨y, H1, I1, ry, a, dx, fs, l, zs, ey, ha, hl, hz, q⟩ => ?_
  subst ey
  cases ry
  obtain ⟨mA, J, _⟩ := ins_get I1.hok ha
  obtain ⟨od, J, _⟩ := J.look
  obtain ⟨mm, hF⟩ := I1.fr
  refine PySem.W.owit_iter hF I1.ok.mod.kin J hs hf ?_
  refine thn (run pins σ H1 s1 a dx l fs zs (fun v H' => ∃ it, v = .ref it ∧ H1 it = none ∧ s1.heap.objs.size ≤ it ∧ H' = upd H1 it (ItO l it 0)) hr I1 ha hl hz fun it h1 h2 => ⟨it, rfl, h1, h2, rfl⟩) fun w s2 ⟨y, H2, I2, rw', it, ey, hn, hle, eH⟩ => ?_
  subst ey eH
  cases rw'
  have ho := itO_get (l := l) (it := it) (i := 0) I2 upd_same
  unfold PySem.W.OwitIt
  refine next_of ho ?_
  have I3 := ItX.inv_drop (a := it) I2 (by rw [upd_same] <;> rfl)
  rw [ItX.dropH_upd hn] at I3
  refine ⟨it, [it], _, Itl X.K l, H1, rfl, I3, turn_list l it, ⟨_, ho, rfl, rfl⟩, fun b hb => ?_, q⟩
  rw [List.mem_singleton.mp hb]
  exact I1.fpOk hle hn
/-- a walk of a frozen instance -/
theorem bi_ownI {tg : Expr} {α : Type} {g : α → PyData} {xs : List α} (D : IterOk X C fld n) (hr : Room n X.A) (h : BE X Γ e P Γ1) (hP : ∀ Z v, P.p Z v → ∃ a dx fs l us, v = .ref a ∧ Z a = some (.ins C dx fs) ∧ fs.lookup fld = some (.ref l) ∧ Z l = some (.lst us) ∧ RpA X.K Z us (xs.map g)) : BI X Γ tg e (fun x => IsD X.K (g x)) xs Γ1 :=
  PI.imp (pi_own D hr h) fun σ H R ⟨Z, F, E, q⟩ => ⟨Z, F, E, fun v Z1 F1 H1 E1 S1 p => by
    obtain ⟨a, dx, fs, l, us, rfl, h1, h2, ha, r⟩ := hP _ _ p
    have hl := r.length
    rw [List.length_map] at hl
    refine ⟨a, dx, fs, l, us, rfl, E1.zh _ _ h1, h2, SqL.of (E1.zh _ _ ha), q _ Z1 F1 H1 E1 S1 ⟨fun i H hi z => ⟨us, us[i]'(by omega), SqL.of (z _ _ ha), by simp⟩, fun H z => ⟨us, SqL.of (z _ _ ha), by omega⟩, fun i H x H' Z hi z1 z2 y => ?_⟩⟩
    obtain ⟨rfl, y⟩ := y
    have e1 := y us (SqL.of (z2 _ _ (z1 _ _ ha)))
    obtain ⟨d, e2, rd⟩ := r.get' e1
    rw [List.getElem?_map, List.getElem?_eq_getElem hi] at e2
    cases e2
    exact ⟨Z, xs[i], Gr.refl z2, List.getElem?_eq_getElem hi, Rp.mono z1 _ _ rd⟩⟩
/-! ### fields, methods, operators of what is frozen -/
def InsZ (C : Addr) (P : SV) : Prop := ∀ Z v, P.p Z v → ∃ a dx fs, v = .ref a ∧ Z a = some (.ins C dx fs)
def InsM (C : Addr) (m : Str) (P : SV) : Prop := ∀ Z v, P.p Z v → ∃ a dx fs, v = .ref a ∧ Z a = some (.ins C dx fs) ∧ fs.lookup m = none
def FldZ (K : PySem.W.Frag) (P : SV) (f : Str) (P' : SV) : Prop := ∀ Z v, P.p Z v → ∃ a C dx fs u, v = .ref a ∧ Z a = some (.ins C dx fs) ∧ Cls K C ∧ NoAttr K C f ∧ fs.lookup f = some u ∧ P'.p Z u
theorem be_fldZ {f : Str} (he : BE X Γ o P Γ1) (hP : FldZ X.K P f P') (hb : attributeBase o f X.env (eval o X.env) = eval o X.env := by rfl) : BE X Γ (.Attribute o f pos) P' Γ1 :=
  PE.imp (pe_fld he hb) fun σ H Q ⟨Z, F, E, q⟩ => ⟨Z, F, E, fun v Z1 F1 H1 E1 S1 p => by
    obtain ⟨a, C, dx, fs, u, e1, e2, e3, e4, e5, e6⟩ := hP _ _ p
    exact ⟨a, C, dx, fs, u, e1, E1.zh _ _ e2, e3, e4, e5, q _ Z1 F1 H1 E1 S1 e6⟩⟩
variable {ps : List Str} {ι ρ : Type} {Φ : ι → Prop} {As : ι → List SV} {Rf : ι → SV} {Ψ : ι → ρ → Prop} {RO : ι → ρ → OV}
theorem be_methZ {pl : Sem Bool} {Al : List SV} (i : ι) (D : DfM X.prog X.w X.K X.mg X.base C m ps [] k (FS Φ As Rf)) (hr : Room k X.A) (ho : BE X Γ o P1 Γ1) (hI : InsM C m P1) (ha : BA X Γ1 (e :: es) Al Γ2) (hA : As i = P1 :: Al) (φ : Φ i) (hR : (Rf i).le P)
    (hst : starEach (e :: es) X.env = (false, eval e X.env) :: starEach es X.env := by rfl) (hpl : (backTo pos (starEach es X.env)).any (·.1) = false := by rfl)
    (ht : eval (.Call (.Attribute o m apos) (e :: es) [] pos) X.env = (do
      let ov ← eval o X.env
      standAt apos.atName
      let (g, one) ← holding [ov] (getMethod ov m pl)
      callWith pos g one (backTo pos (starEach (e :: es) X.env)) (backToKw pos (keywordEach [] X.env))) := by rfl) : BE X Γ (.Call (.Attribute o m apos) (e :: es) [] pos) P Γ2 := by
  obtain ⟨f, fd, ds, cl, hm, hb, hds, F⟩ := D
  refine PE.imp (pe_meth ho cl hm F hr hb hds pass0 ha hst hpl ht) fun σ H Q ⟨Z, F0, E, q⟩ => ⟨Z, F0, E, fun v Z1 F1 H1 E1 S1 p1 => ?_⟩
  obtain ⟨a, dx, fs, e1, e2, e3⟩ := hI _ _ p1
  refine ⟨a, dx, fs, e1, E1.zh _ _ e2, e3, Z1, F1, E1, fun vs Z2 F2 H2 E2 S2 pl2 => ⟨i, Z2, φ, E2.zh, ?_, fun u Z' H' g pu => q u Z' F2 H' (E2.grow g) ((S1.trans S2).trans g.stp) (hR _ _ pu)⟩⟩
  rw [hA, List.append_nil]
  exact .cons (P1.mono S2.z p1) pl2
theorem be_methZ0 {pl : Sem Bool} (i : ι) (D : DfM X.prog X.w X.K X.mg X.base C m ps [] k (FS Φ As Rf)) (hr : Room k X.A) (ho : BE X Γ o P1 Γ1) (hI : InsM C m P1) (hA : As i = [P1]) (φ : Φ i) (hR : (Rf i).le P)
    (ht : eval (.Call (.Attribute o m apos) [] [] pos) X.env = (do
      let ov ← eval o X.env
      standAt apos.atName
      let (g, one) ← holding [ov] (getMethod ov m pl)
      callWith pos g one (backTo pos (starEach [] X.env)) (backToKw pos (keywordEach [] X.env))) := by rfl) : BE X Γ (.Call (.Attribute o m apos) [] [] pos) P Γ1 := by
  obtain ⟨f, fd, ds, cl, hm, hb, hds, F⟩ := D
  refine PE.imp (pe_meth0 ho cl hm F hr hb hds pass0 ht) fun σ H Q ⟨Z, F0, E, q⟩ => ⟨Z, F0, E, fun v Z1 F1 H1 E1 S1 p1 => ?_⟩
  obtain ⟨a, dx, fs, e1, e2, e3⟩ := hI _ _ p1
  exact ⟨a, dx, fs, e1, E1.zh _ _ e2, e3, i, Z1, φ, E1.zh, by rw [hA]; exact .cons p1 .nil, fun u Z' H' g pu => q u Z' F1 H' (E1.grow g) (S1.trans g.stp) (hR _ _ pu)⟩
/-- with a new result -/
theorem bo_methZ0 {pl : Sem Bool} (i : ι) (D : DfM X.prog X.w X.K X.mg X.base C m ps [] k (FN Φ As Ψ RO)) (hr : Room k X.A) (ho : BE X Γ o P1 Γ1) (hI : InsM C m P1) (hA : As i = [P1]) (φ : Φ i)
    (ht : eval (.Call (.Attribute o m apos) [] [] pos) X.env = (do
      let ov ← eval o X.env
      standAt apos.atName
      let (g, one) ← holding [ov] (getMethod ov m pl)
      callWith pos g one (backTo pos (starEach [] X.env)) (backToKw pos (keywordEach [] X.env))) := by rfl) : BO X Γ (.Call (.Attribute o m apos) [] [] pos) (Ψ i) (RO i) Γ1 := by
  obtain ⟨f, fd, ds, cl, hm, hb, hds, F⟩ := D
  refine PE.imp (pe_meth0 ho cl hm F hr hb hds pass0 ht) fun σ H Q ⟨Z, F0, E, q⟩ => ⟨Z, F0, E, fun v Z1 F1 H1 E1 S1 p1 => ?_⟩
  obtain ⟨a, dx, fs, e1, e2, e3⟩ := hI _ _ p1
  refine ⟨a, dx, fs, e1, E1.zh _ _ e2, e3, i, Z1, φ, E1.zh, by rw [hA]; exact .cons p1 .nil, fun r v Z' G H' ψ S2 hz oo nn => ?_⟩
  have g : Gr Z1 H1 Z' H' := ⟨fun a o e => S2.fr a o e fun _ h => h, S2.z, hz, fun a o e => (S2.zn a o e).elim .inl fun h => h.elim .inr fun ⟨_, h⟩ => h.elim⟩
  refine q r v G Z' F1 H' (E1.grow g) (S1.trans g.stp) ψ oo fun a h => ?_
  obtain ⟨n1, n2, n3, n4⟩ := nn a h
  have h1 : H1 a = none := n2.elim (fun z => z.elim) id
  exact ⟨n1, .inr (S1.back h1), n3, fun j hj => by
    obtain ⟨u, eu⟩ := E1.fsome j a hj
    rw [h1] at eu
    cases eu⟩
theorem ob_eqZ {kk : Bool} (i : ι) (D : Spc X C "__eq__" n ps (FS Φ As Rf)) (hr : Room n X.A) (φ : Φ i) (hA : As i = [P1, P2]) (hR : (Rf i).le (dB X.K kk)) (hI : InsZ C P1) (hT : ∀ Z H v, Same Z H → P2.p Z v → ∃ tb, TyX X.K H v tb ∧ PySem.W.notFirst X.K C tb = true) : OpB X (compareOp .Eq) P1 P2 (dB X.K kk) :=
  fun pins s σ H x y v u Q I rx ry ⟨Z, zh, p1, p2, q⟩ => by
    obtain ⟨a, dx, fs, e1, e2⟩ := hI _ _ p1
    obtain ⟨tb, ty, hn⟩ := hT _ _ _ zh p2
    exact op_eqO D hr pins s σ H x y v u Q I rx ry ⟨a, dx, fs, tb, e1, zh _ _ e2, ty, hn, i, Z, φ, zh, by rw [hA]; exact .cons p1 (.cons p2 .nil), fun w Z' H' g pw => ⟨kk, dB_p (hR _ _ pw), q _ Z' H' g (.bl kk)⟩⟩
theorem ob_neZ {kk : Bool} (i : ι) (D : Spc X C "__eq__" n ps (FS Φ As Rf)) (hr : Room (n + 1) X.A) (hne : ∀ f, PySem.W.findIn X.K (.ref C) "__eq__" = some (some (.ref f)) → neIn X.K C f = true) (φ : Φ i) (hA : As i = [P1, P2]) (hR : (Rf i).le (dB X.K kk)) (hI : InsZ C P1) (hI2 : InsZ C P2) : OpB X (compareOp .NotEq) P1 P2 (dB X.K (!kk)) :=
  fun pins s σ H x y v u Q I rx ry ⟨Z, zh, p1, p2, q⟩ => by
    obtain ⟨a, dx, fs, e1, e2⟩ := hI _ _ p1
    obtain ⟨b, dy, gs, f1, f2⟩ := hI2 _ _ p2
    exact op_neO D hr hne pins s σ H x y v u Q I rx ry ⟨a, b, dx, dy, fs, gs, e1, f1, zh _ _ e2, zh _ _ f2, i, Z, φ, zh, by rw [hA]; exact .cons p1 (.cons p2 .nil), fun w Z' H' g pw => ⟨kk, dB_p (hR _ _ pw), q _ Z' H' g (.bl _)⟩⟩
theorem cb_lenZ {j : Int} (i : ι) (D : Spc X C "__len__" n ps (FS Φ As Rf)) (hr : Room (n + 1) X.A) (φ : Φ i) (hA : As i = [P1]) (hR : (Rf i).le (dI X.K j)) (h0 : 0 ≤ j) (h1 : j < 2 ^ 63) (hI : InsZ C P1) : CallB X (.builtin "len") [P1] (dI X.K j) :=
  CallR.imp (call_lenO D hr) fun xs H Q ⟨Z, zh, pp, q⟩ => by
    cases pp with
    | cons p1 pn =>
      cases pn
      obtain ⟨a, dx, fs, e1, e2⟩ := hI _ _ p1
      exact ⟨a, dx, fs, by rw [e1], zh _ _ e2, i, Z, φ, zh, by rw [hA, ← e1]; exact .cons p1 .nil, fun w Z' H' g pw => ⟨j, dI_p (hR _ _ pw), h0, h1, q _ Z' H' g (.int j)⟩⟩
/-! ### what is new, frozen at once -/
theorem be_frz {Ψ : ρ → Prop} {O : ρ → OV} (h : BO X Γ e Ψ O Γ') (hP : ∀ r, Ψ r → ∀ v G H Z Z2, (O r).p v G H Z → Same Z Z2 → (∀ a u, G a → H a = some u → Z2 a = some u) → P.p Z2 v) : BE X Γ e P Γ' :=
  PE.imp h fun σ H Q ⟨Z, F, E, q⟩ => ⟨Z, F, E, fun r v G Z1 F1 H1 E1 S1 ψ o nn => by
    classical
    let Z2 : Hp := fun b => if G b then H1 b else Z1 b
    have z2 : Same Z1 Z2 := fun b u e => by
      show (if G b then H1 b else Z1 b) = some u
      by_cases hb : G b
      · rw [(nn b hb).1] at e; cases e
      · rw [if_neg hb]; exact e
    have inG : ∀ b u, G b → H1 b = some u → Z2 b = some u := fun b u hb e => by
      show (if G b then H1 b else Z1 b) = some u
      rw [if_pos hb]; exact e
    have out : ∀ b u, Z2 b = some u → (G b ∧ H1 b = some u) ∨ (¬ G b ∧ Z1 b = some u) := fun b u e => by
      have e' : (if G b then H1 b else Z1 b) = some u := e
      by_cases hb : G b
      · rw [if_pos hb] at e'; exact .inl ⟨hb, e'⟩
      · rw [if_neg hb] at e'; exact .inr ⟨hb, e'⟩
    have E2 : En Γ' Z2 F1 σ H1 := by
      refine ⟨fun b u e => (out b u e).elim (fun h => h.2) fun h => E1.zh _ _ h.2, E1.fsep, fun i b hb => ?_, E1.fsome, fun i sl e => (E1.slots i sl e).grow z2 fun _ _ => rfl, E1.len⟩
      cases z : Z2 b with
      | none => rfl
      | some u =>
        rcases out b u z with ⟨h1, _⟩ | ⟨_, h2⟩
        · exact absurd hb ((nn b h1).2.2.2 i)
        · rw [E1.fz i b hb] at h2
          cases h2
    have S2 : Stp Z F H Z2 F1 H1 := by
      refine ⟨S1.z.trans z2, S1.f, fun b u e => ?_, S1.fr, S1.al⟩
      rcases out b u e with ⟨h1, _⟩ | ⟨_, h2⟩
      · rcases (nn b h1).2.1 with h | h
        · exact .inr (.inr h)
        · exact .inr (.inl h)
      · exact S1.zn b u h2
    exact q v Z2 F1 H1 E2 S2 (hP r ψ v G H1 Z1 Z2 o z2 inG)⟩
/-- f(e), e something new that f may change -/
theorem be_callNew {ρ0 : Type} {Ψ0 : ρ0 → Prop} {O0 : ρ0 → OV} {O O' : ι → OV} {Rm : ι → ρ → SV} (i : ρ0 → ι) (D : Df X.prog X.w X.K X.mg X.base x ps [] k (FM Φ O As Ψ Rm O')) (hr : Room k X.A) (hg : Gl X x) (he0 : BO X Γ e Ψ0 O0 Γ1) (hO : ∀ r, Ψ0 r → (O0 r).le (O (i r))) (hA : ∀ r, As (i r) = []) (φ : ∀ r, Ψ0 r → Φ (i r)) (hR : ∀ r r', (Rm (i r) r').le P)
    (hdb : (x == ("__debug__" : Str)) = false := by decide) (he : starEach [e] X.env = (false, eval e X.env) :: starEach [] X.env := by rfl) (hpl : (backTo pos (starEach [] X.env)).any (·.1) = false := by rfl) : BE X Γ (.Call (.Name x p) [e] [] pos) P Γ1 := by
  obtain ⟨f, fd, ds, hm, hk, hb, hd, F⟩ := D
  refine PE.imp (pe_call F hr hg hm hk hb hd pass0 (pa_cons he0 pa_nil he) hdb he hpl) fun σ H Q ⟨Z, F0, E, q⟩ => ⟨Z, F0, E, fun r v G Z1 F1 H1 E1 S1 ψ o nn => ⟨i r, Z1, v, [], G, rfl, φ r ψ, E1.zh, fun a h => (nn a h).1, fun a h => (nn a h).2.2.1, hO r ψ _ _ _ _ o, by rw [hA]; exact .nil, fun r' u Z' G' Gn H' ψ' S' hz g1 g2 o' pr _ => ?_⟩⟩
  have E2 := E1.aside S' hz fun a h j => (nn a h).2.2.2 j
  refine q u Z' F1 H' E2 ⟨S1.z.trans S'.z, S1.f, fun a w e => ?_, fun a w e hn => ?_, fun a w e => ?_⟩ (hR r r' _ _ pr.2)
  · rcases S'.zn a w e with h | h | ⟨l, h⟩
    · exact S1.zn a w h
    · exact .inr (.inl (S1.back h))
    · rcases (nn a h.2).2.1 with h | h
      · exact .inr (.inr h)
      · exact .inr (.inl h)
  · refine S'.fr a w (S1.fr a w e hn) fun l hl => ?_
    rcases (nn a hl.2).2.1 with ⟨j, h⟩ | h
    · exact hn j h
    · rw [h] at e; cases e
  · obtain ⟨w', e'⟩ := S1.al a w e
    exact S'.al a w' e'
/-- C(e1, y): y one's own list, shown for a while -/
theorem bo_makeSeen {y : Expr} {e1 : Expr} {q : Addr} {ds : List PyData} {O0 : OV} {O O' : ι → OV} {RS : ι → ρ → SV} (j : Nat) (i : Addr → ι) (D : DfC X.prog X.w X.K X.mg X.base x C ps [] k (FM Φ O As Ψ RS O')) (hr : Room (k + 1) X.A) (hg : Gl X x)
    (h1 : BE X Γ e1 P1 Γ1) (hy : BR X Γ1 y (.ref q)) (hΓ1 : Γ1[j]? = some (.own O0)) (hO0 : LstAt X.K O0 q ds) (hA : ∀ p, As (i p) = [P1, dL X.K ds]) (hO : ∀ p, O (i p) = ownNew C p) (hR : ∀ p r, (RS (i p) r).le (dN X.K)) (φ : ∀ p, Φ (i p)) (hZ : ∀ p v G H Z Z2, (O' (i p)).p v G H Z → v = .ref p ∧ (O' (i p)).p v G H Z2)
    (hdb : (x == ("__debug__" : Str)) = false := by decide) (he1 : starEach [e1, y] X.env = (false, eval e1 X.env) :: starEach [y] X.env := by rfl) (he2 : starEach [y] X.env = (false, eval y X.env) :: starEach [] X.env := by rfl) (hpl : (backTo pos (starEach [y] X.env)).any (·.1) = false := by rfl) :
    BO X Γ (.Call (.Name x p) [e1, y] [] pos) (fun _ : Addr => True) (fun p => O' (i p)) Γ1 := by
  obtain ⟨f, fd, dfl, M, hm, hb, hds, F⟩ := D
  refine PE.imp (pe_make M F hr hg hm hb hds pass0 (pa_cons h1 (pa_cons hy pa_nil he2) he1) hdb he1 hpl) fun σ H Q ⟨Z, F0, E, q1⟩ => ⟨Z, F0, E, fun v1 Z1 F1 H1 E1 S1 p1 => ⟨Z1, F1, E1, fun y dx hy0 hdx ne => ?_⟩⟩
  have gA := Gr.lost (o := .own y) E1.zh hdx
  have hy2 : upd H1 dx (.own y) y = none := by rw [upd_ne (Ne.symm ne)]; exact hy0
  have gB := Gr.lost (o := .ins C dx []) gA.zh hy2
  have g := gA.trans gB
  obtain ⟨w, ew, ow⟩ := E1.slots j _ hΓ1
  obtain ⟨f3, us, hq, r3⟩ := hO0 _ _ _ _ ow
  have zq := E1.fz j q f3
  have zy : Z1 y = none := E1.zh.free hy0
  have nqy : y ≠ q := fun z => by rw [z, hq] at hy0; cases hy0
  have hs : Same Z1 (upd Z1 q (.lst us)) := fun b u e => by rw [upd_ne (ne_of_none e zq)]; exact e
  have hzp : Same (upd Z1 q (.lst us)) (upd (upd H1 dx (.own y)) y (.ins C dx [])) := fun b u e => by
    by_cases hb : b = q
    · subst hb
      rw [upd_same] at e
      exact g.h _ _ (hq.trans e)
    · rw [upd_ne hb] at e
      exact g.h _ _ (E1.zh _ _ e)
  refine ⟨i y, upd Z1 q (.lst us), .ref y, [v1, .ref q], (· = y), by simp, φ y, hzp, fun a e => by rw [e, upd_ne nqy]; exact zy, fun a e => by rw [e]; exact ⟨_, upd_same⟩, by rw [hO]; exact ⟨rfl, fun a => Iff.rfl, dx, upd_same⟩, by rw [hA]; exact .cons (P1.mono hs p1) (.cons (.lst upd_same (RpA.mono hs _ _ r3)) .nil), fun r u Z' G' Gn H' ψ S' hz g1 g2 o' pr n => ⟨dN_p (hR y r _ _ pr.2), ?_⟩⟩
  have noY : ∀ i a, F1 i a → a ≠ y := fun i a h z => by
    obtain ⟨u, eu⟩ := E1.fsome i a h
    rw [z, hy0] at eu; cases eu
  have keep : ∀ i a, F1 i a → H' a = H1 a := fun i a h => by
    obtain ⟨u, eu⟩ := E1.fsome i a h
    rw [eu]
    exact S'.fr a u (g.h a u eu) fun l hl => noY i a h hl.2
  let Z4 : Hp := fun b => if b = q then none else Z' b
  have z4 : Same Z1 Z4 := fun b u e => by
    show (if b = q then none else Z' b) = some u
    rw [if_neg (ne_of_none e zq)]
    exact S'.z b u (hs b u e)
  have z4' : ∀ b u, Z4 b = some u → b ≠ q ∧ Z' b = some u := fun b u e => by
    have e' : (if b = q then none else Z' b) = some u := e
    by_cases hb : b = q
    · rw [if_pos hb] at e'; cases e'
    · rw [if_neg hb] at e'; exact ⟨hb, e'⟩
  have old : ∀ b u, b ≠ q → Z' b = some u → Z1 b = some u ∨ H1 b = none := fun b u hb e => by
    rcases S'.zn b u e with h | h | ⟨l, h⟩
    · rw [upd_ne hb] at h; exact .inl h
    · exact .inr (g.h.free h)
    · exact .inr (by rw [show b = y from h.2]; exact hy0)
  have E4 : En Γ1 Z4 F1 σ H' := by
    refine ⟨fun b u e => hz _ _ (z4' b u e).2, E1.fsep, fun i b hb => ?_, fun i b hb => ?_, fun i sl e => (E1.slots i sl e).grow z4 (keep i), E1.len⟩
    · cases z : Z4 b with
      | none => rfl
      | some u =>
        obtain ⟨nb, z'⟩ := z4' b u z
        rcases old b u nb z' with h | h
        · rw [E1.fz i b hb] at h
          cases h
        · obtain ⟨w, ew⟩ := E1.fsome i b hb
          rw [h] at ew
          cases ew
    · obtain ⟨w, ew⟩ := E1.fsome i b hb
      exact ⟨w, by rw [keep i b hb]; exact ew⟩
  have S4 : Stp Z1 F1 H1 Z4 F1 H' := by
    refine ⟨z4, fun i b h => .inl ⟨i, h⟩, fun b u e => ?_, fun b u e hn => S'.fr b u (g.h b u e) fun l hl => ?_, fun b u e => S'.al b u (g.h b u e)⟩
    · obtain ⟨nb, z'⟩ := z4' b u e
      exact (old b u nb z').elim .inl fun h => .inr (.inl h)
    · rw [show b = y from hl.2, hy0] at e
      cases e
  have new : ∀ a, G' a → H1 a = none := fun a h => by
    rcases S'.f 0 a ⟨rfl, h⟩ with ⟨l, z⟩ | z
    · rw [show a = y from z.2]; exact hy0
    · exact g.h.free z
  obtain ⟨ev, o4⟩ := hZ y _ _ _ _ Z4 o'
  refine q1 y (.ref y) G' Z4 F1 H' E4 (S1.trans S4) trivial o4 fun a h => ⟨?_, .inr (S1.back (new a h)), g2 a h, fun j hj => ?_⟩
  · show (if a = q then none else Z' a) = none
    rw [g1 a h]
    split <;> rfl
  · obtain ⟨u, eu⟩ := E1.fsome j a hj
    rw [new a h] at eu
    cases eu
end
end B

/-! in one's own list, chains, slices of tuples and backwards, ranges as lists, empty dicts, append of what is popped. -/
namespace B
open PySem PySem.Spec PyProof.Rows L2
section
variable {X : Cx} {Γ Γ' Γ1 Γ2 Γ3 : List Sl} {P P' P1 P2 P3 : SV} {a b c e o : Expr} {es : List Expr} {pos p apos : Pos} {K : PySem.W.Frag} {R : Post} {x m : Str}
/-- a comparison with one's own list on the right -/
theorem bt_cmpOR {op : CmpOp} {k : Bool} {q : Addr} {ds : List PyData} {O : OV} (j : Nat) (ha : BE X Γ a P1 Γ1) (hb : BR X Γ1 b (.ref q)) (hΓ1 : Γ1[j]? = some (.own O)) (hO : LstAt X.K O q ds) (ho : OpB X (compareOp op) P1 (dL X.K ds) (dB X.K k)) (hm : behindInMarks op b = false := by first | exact nomark _ (by decide) (by decide) | with_unfolding_all rfl) :
    BT X Γ (.Compare a [op] [b] pos) (· = k) Γ1 :=
  PT.imp (pt_cmpR ho ha hb hm) fun σ H Q ⟨Z, F, E, q1⟩ => ⟨Z, F, E, fun v1 Z2 F2 H2 E2 S2 p1 => ⟨Z2, F2, E2, by
    obtain ⟨v, ev, o1⟩ := E2.slots j _ hΓ1
    obtain ⟨f, us, hq, r⟩ := hO _ _ _ _ o1
    have hz := E2.fz j q f
    refine ⟨upd Z2 q (.lst us), upd_zh E2.zh hq, P1.mono (fun b u e => by rw [upd_ne (ne_of_none e hz)]; exact e) p1, seen_p (H := H2) hz r, fun w Z' H' g pw => ?_⟩
    obtain ⟨Z3, E3, S3⟩ := E2.seen f hq g
    cases pw
    exact ⟨k, rfl, q1 k Z3 F2 H' E3 (S2.trans S3) rfl⟩⟩⟩
/-- a <= b < c of ints, the first holds -/
theorem bt_chainI {i j m : Int} (ha : BE X Γ a (dI X.K i) Γ1) (hb : BE X Γ1 b (dI X.K j) Γ2) (hc : BE X Γ2 c (dI X.K m) Γ3) (hle : i ≤ j) (hm : lastMarks [.LtE, .Lt] [b, c] = false := by with_unfolding_all rfl) : BT X Γ (.Compare a [.LtE, .Lt] [b, c] pos) (· = decide (j < m)) Γ3 :=
  PT.imp (pt_chain op_le op_lt ha hb hc hm) fun σ H Q ⟨Z, F, E, q⟩ => ⟨Z, F, E, fun v Z1 F1 H1 E1 S1 p1 => ⟨Z1, F1, E1, fun w Z2 F2 H2 E2 S2 p2 => by
    cases dI_p p1
    cases dI_p p2
    refine ⟨i, j, rfl, rfl, true, (by show V.bl (decide (i ≤ j)) = _; rw [decide_eq_true hle]), ?_⟩
    rw [if_pos rfl]
    exact ⟨Z2, F2, E2, fun u Z3 F3 H3 E3 S3 p3 => ⟨j, m, rfl, dI_p p3, _, rfl, q _ Z3 F3 H3 E3 ((S1.trans S2).trans S3) rfl⟩⟩⟩⟩
theorem bn_rev {ds : List PyData} {k : Nat} {p1 p2 p3 : Pos} (he : BE X Γ e (dL X.K ds) Γ1) : BN X Γ (.Subscript e (.Slice none none (some (.UnaryOp .USub (.Constant (.int 1) k p1) p2)) p3) pos) (· = ds.reverse) Γ1 :=
  bn_of (pe_revL he) fun σ H Q ⟨Z, F, E, q⟩ => ⟨Z, F, E, fun v Z1 F1 H1 E1 S1 pv => by
    obtain ⟨a, us, rfl, ha, r⟩ := dL_p pv
    exact ⟨a, us, rfl, SqL.of (E1.zh _ _ ha), fun p hp => q _ _ Z1 F1 H1 E1 S1 r.reverse rfl p hp⟩⟩
theorem be_dict0 : BE X Γ (.Dict [] [] pos) (IsD X.K (.dict [])) Γ :=
  PE.imp pe_dnewK fun σ H Q ⟨Z, F, E, q⟩ => fun d hd => by
    have g := Gr.new (o := .dK []) E.zh hd
    exact q (.ref d) _ F _ (E.grow g) g.stp (.dic upd_same .nil)
theorem sl_U {ds : List PyData} {l u : Option Int} : SlB X (dU X.K ds) l u (dU X.K (cutL ds l u)) := fun he hl hu =>
  PE.imp (pe_slice sl_tupA he hl hu) fun σ H Q ⟨Z, F, E, q⟩ => ⟨Z, F, E, fun v Z1 F1 H1 E1 S1 pv => ⟨Z1, F1, E1, fun Z2 F2 H2 E2 S2 => ⟨Z2, F2, E2, fun Z3 F3 H3 E3 S3 => by
    obtain ⟨a, us, rfl, ha, r⟩ := dU_p ((dU X.K ds).mono (S2.z.trans S3.z) pv)
    have hlen := r.length
    have hcut : RpA X.K Z3 (cutV us l u) (cutL ds l u) := by
      unfold cutV cutL
      rw [hlen]
      exact (r.drop _).take _
    refine ⟨a, us, rfl, Same.seqT E3.zh ha, fun w => ?_, fun _ p hp => ?_⟩
    · refine q (.ref a) Z3 F3 H3 E3 ((S1.trans S2).trans S3) (.tup ha ?_)
      have e : cutL ds l u = ds := by
        unfold cutL
        rw [hlen] at w
        rw [w.1, w.2]
        simp
      rw [e]
      exact r
    · have g := Gr.new (o := .tup (cutV us l u)) E3.zh hp
      exact q (.ref p) _ F3 _ (E3.grow g) (((S1.trans S2).trans S3).trans g.stp) (.tup (SqT.of upd_same) (RpA.mono g.z _ _ hcut))⟩⟩⟩
theorem cb_tupleL {ds : List PyData} : CallB X (.type "tuple") [dL X.K ds] (dU X.K ds) :=
  CallR.imp call_tuple_of fun xs H Q ⟨Z, zh, pp, q⟩ => by
    cases pp with
    | cons p1 pn =>
      cases pn
      obtain ⟨a, us, rfl, ha, r⟩ := dL_p p1
      refine ⟨a, us, rfl, .inl ⟨SqL.of (zh _ _ ha), fun l hl => ?_⟩⟩
      have g := Gr.new (o := .tup us) zh hl
      exact q _ _ _ g (.tup (SqT.of upd_same) (RpA.mono g.z _ _ r))
theorem bn_listU {ds : List PyData} (hg : Gl X "list") (hm : X.mg "list" = none) (ha : BA X Γ [e] [dU X.K ds] Γ') (he : starEach [e] X.env = (false, eval e X.env) :: starEach [] X.env := by rfl) : BN X Γ (.Call (.Name "list" p) [e] [] pos) (· = ds) Γ' :=
  bn_type (T := "list") (CallR.imp call_list_of fun vs H Q ⟨Z, zh, ps, q⟩ => by
    cases ps with
    | cons p ps =>
      cases ps
      obtain ⟨a, us, rfl, h, r⟩ := dU_p p
      exact ⟨a, us, rfl, .inr (Same.seqT zh h), fun l hl => q us r l hl⟩) hg hm (by decide +kernel) ha (he := he)
def rgD (n : Nat) : List PyData := (List.range n).map fun i => .int (i : Nat)
theorem rpA_ofRange {Z : Hp} (n : Nat) : RpA K Z (rgV 0 (n : Int)) (rgD n) := by
  have e : rgV 0 (n : Int) = ((List.range n).map fun i => ((i : Nat) : Int)).map V.int := by
    unfold rgV
    rw [List.map_map]
    have : ((n : Int) - 0).toNat = n := by omega
    rw [this]
    exact List.map_congr_left fun i _ => by simp
  have e2 : rgD n = ((List.range n).map fun i => ((i : Nat) : Int)).map .int := by unfold rgD; rw [List.map_map] <;> rfl
  rw [e, e2]
  exact rpA_ints _
theorem bn_listRg {n : Nat} {p2 p3 : Pos} (hn : n ≤ 1000) (hc : X.calm = true) (hg : Gl X "list") (hm : X.mg "list" = none) (hg2 : Gl X "range") (hm2 : X.mg "range" = none) (ha : BE X Γ e (dI X.K (n : Int)) Γ')
    (he : starEach [e] X.env = (false, eval e X.env) :: starEach [] X.env := by rfl) (he2 : starEach [.Call (.Name "range" p2) [e] [] p3] X.env = (false, eval (.Call (.Name "range" p2) [e] [] p3) X.env) :: starEach [] X.env := by rfl) :
    BN X Γ (.Call (.Name "list" p) [.Call (.Name "range" p2) [e] [] p3] [] pos) (· = rgD n) Γ' :=
  bn_of (pe_listRg hc hg hm (prg_1 hg2 hm2 ha he) he2) fun σ H Q ⟨Z, F, E, q⟩ => ⟨Z, F, E, fun v Z1 F1 H1 E1 S1 pv => by
    cases dI_p pv
    exact ⟨n, rfl, RgOk.of_le (by omega) (by omega) (by omega) (by omega), fun l hl => q _ _ Z1 F1 H1 E1 S1 (rpA_ofRange n) rfl l hl⟩⟩
theorem seqIx {i : Int} {n : Nat} (h0 : 0 ≤ i) (h1 : i < n) : seqIndex? i n = some i.toNat := by
  unfold seqIndex?
  have e : (if i < 0 then i + (n : Int) else i) = i := if_neg (by omega)
  simp only [e]
  rw [if_pos (by simp [h0, h1])]
theorem RpA.erase {Z : Hp} : ∀ {vs : List V} {ds : List PyData} (n : Nat), RpA K Z vs ds → RpA K Z (vs.eraseIdx n) (ds.eraseIdx n)
  | _, _, _, .nil => .nil
  | _, _, 0, .cons _ t => t
  | _, _, n + 1, .cons r t => .cons r (RpA.erase n t)
/-- f.append(l.pop(e)), both one's own lists -/
theorem bs_appPop {of ol ei : Expr} {qf ql : Addr} {fs ls : List PyData} {p2 p3 p4 p5 : Pos} (jf jl : Nat) (hof : BR X Γ of (.ref qf)) (hol : BR X Γ ol (.ref ql)) (hi : BE X Γ ei (.ex (fun i : Int => 0 ≤ i ∧ i < ls.length) (dI X.K)) Γ1)
    (hf0 : Γ[jf]? = some (.own (ownL X.K qf fs))) (hl0 : Γ[jl]? = some (.own (ownL X.K ql ls))) (hf1 : Γ1[jf]? = some (.own (ownL X.K qf fs))) (hl1 : Γ1[jl]? = some (.own (ownL X.K ql ls))) (hne : jf ≠ jl) (hfs : fs.length < sizeLine) (hls : ls.length ≤ 1000)
    (h : ∀ (k : Nat) d, ls[k]? = some d → R.nx ((Γ1.set jl (.own (ownL X.K ql (ls.eraseIdx k)))).set jf (.own (ownL X.K qf (fs ++ [d])))))
    (hbm : ∀ (t : TE) (t2 : TA), PE X of t → PA X [.Call (.Attribute ol "pop" p4) [ei] [] p5] t2 → PE X (.Call (.Attribute of "append" p2) [.Call (.Attribute ol "pop" p4) [ei] [] p5] [] p3) (tBM X.K "list" rAppend t t2) := by
      exact fun _ _ h1 h2 => pe_bm PySem.F.plainAttrs_list PySem.F.slot_list_append PySem.F.type_list_append mt_append h1 h2)
    (hbm2 : ∀ (t : TE) (t2 : TA), PE X ol t → PA X [ei] t2 → PE X (.Call (.Attribute ol "pop" p4) [ei] [] p5) (tBM X.K "list" rPopAt t t2) := by
      exact fun _ _ h1 h2 => pe_bm PySem.F.plainAttrs_list PySem.F.slot_list_pop PySem.F.type_list_pop mt_popAt h1 h2)
    (hs : swapsWith (.Call (.Attribute of "append" p2) [.Call (.Attribute ol "pop" p4) [ei] [] p5] [] p3) none pos.line X.env = pure false := by rfl) (hst : starEach [ei] X.env = (false, eval ei X.env) :: starEach [] X.env := by rfl)
    (hst2 : starEach [.Call (.Attribute ol "pop" p4) [ei] [] p5] X.env = (false, eval (.Call (.Attribute ol "pop" p4) [ei] [] p5) X.env) :: starEach [] X.env := by rfl) :
    BS X Γ (.Expr (.Call (.Attribute of "append" p2) [.Call (.Attribute ol "pop" p4) [ei] [] p5] [] p3) pos) R := by
  refine PS.imp (ps_expr (hbm _ _ hof (pa_cons (hbm2 _ _ hol (pa_cons hi pa_nil hst)) pa_nil hst2)) hs) fun D σ H ⟨Z, F, E, nx, _⟩ => ⟨Z, F, E, ?_⟩
  obtain ⟨_, _, o1⟩ := E.slots jf _ hf0
  obtain ⟨_, us, hq, r⟩ := ownL_at _ _ _ _ o1
  obtain ⟨_, _, o2⟩ := E.slots jl _ hl0
  obtain ⟨_, us2, hq2, r2⟩ := ownL_at _ _ _ _ o2
  refine ⟨.inl ⟨rfl, us, SqL.of hq⟩, Z, F, E, .inl ⟨rfl, us2, SqL.of hq2⟩, Z, F, E, fun v Z1 F1 H1 E1 S1 ⟨i, ⟨h0, h1⟩, pi⟩ => ?_⟩
  cases dI_p pi
  obtain ⟨wf, ewf, of1⟩ := E1.slots jf _ hf1
  obtain ⟨ff, uf, hqf, rf⟩ := ownL_at _ _ _ _ of1
  obtain ⟨wl, ewl, ol1⟩ := E1.slots jl _ hl1
  obtain ⟨fl, ul, hql, rl⟩ := ownL_at _ _ _ _ ol1
  have nq : qf ≠ ql := fun e => hne (E1.fsep jf jl qf ff (by rw [e]; exact fl))
  have hlen := rl.length
  have hk : i.toNat < ul.length := by omega
  have hd : ls[i.toNat]? = some (ls[i.toNat]'(by omega)) := List.getElem?_eq_getElem _
  obtain ⟨d', ed, rd⟩ := rl.get' (i := i.toNat) (List.getElem?_eq_getElem hk)
  refine ⟨ql, ul, i, i.toNat, ul[i.toNat], rfl, rfl, hql, by omega, by omega, seqIx h0 (by omega), List.getElem?_eq_getElem hk, qf, uf, _, rfl, rfl, by rw [upd_ne nq]; exact hqf, by rw [rf.length]; exact hfs, ?_⟩
  have E2 := E1.mut fl ewl (ownL_to _ _ _ _ _ ol1 (rl.erase i.toNat))
  have ewf2 := ewf
  have hf2 : (Γ1.set jl (.own (ownL X.K ql (ls.eraseIdx i.toNat))))[jf]? = some (.own (ownL X.K qf fs)) := by rw [List.getElem?_set_ne (Ne.symm hne)]; exact hf1
  obtain ⟨wf2, ewf2, of2⟩ := E2.slots jf _ hf2
  have E3 := E2.mut ff ewf2 (ownL_to _ _ _ _ _ of2 (rf.append (.cons rd .nil)))
  exact nx _ Z1 F1 σ _ (h i.toNat d' ed) E3 ((S1.trans (Stp.mut fl)).trans (Stp.mut ff))
end
end B

/-! Calls by what is wanted; isinstance of own classes. -/
namespace B
open PySem PySem.Spec PyProof.Rows L2
section
variable {X : Cx} {Γ Γ' Γ1 Γ2 Γ3 : List Sl} {P P' P1 P2 P3 : SV} {a b c e o : Expr} {es : List Expr} {pos p apos : Pos} {K : PySem.W.Frag} {R : Post} {x m : Str} {ps : List Str} {k : Nat} {C : Addr}
variable {ι ρ ρ' : Type} {Φ : ι → Prop} {As : ι → List SV} {Rf : ι → SV} {Ψ : ι → ρ → Prop} {RO : ι → ρ → OV}
theorem bo_callR {Ψ' : ρ' → Prop} {O' : ρ' → OV} (i : ι) (D : Df X.prog X.w X.K X.mg X.base x ps [] k (FN Φ As Ψ RO)) (hr : Room k X.A) (hg : Gl X x) (ha : BA X Γ (e :: es) (As i) Γ') (φ : Φ i) (g : ρ → ρ') (hR : ∀ r, Ψ i r → Ψ' (g r) ∧ (RO i r).le (O' (g r))) (hdb : (x == ("__debug__" : Str)) = false := by decide)
    (he : starEach (e :: es) X.env = (false, eval e X.env) :: starEach es X.env := by rfl) (hpl : (backTo pos (starEach es X.env)).any (·.1) = false := by rfl) : BO X Γ (.Call (.Name x p) (e :: es) [] pos) Ψ' O' Γ' :=
  BO.to (bo_call i D hr hg ha φ hdb he hpl) g hR
/-- a class of one's own as a value -/
def clsS (C : Addr) : SV := ⟨fun _ v => v = .ref C, fun _ h => h⟩
theorem be_clsN (hg : Gl X x) (hm : X.mg x = some (.ref C)) (hd : (x == ("__debug__" : Str)) = false := by decide) : BE X Γ (.Name x pos) (clsS C) Γ :=
  be_glob (v := .ref C) hg hm rfl (fun _ => rfl) hd
theorem cb_isiC {kk : Bool} (h : ∀ Z H v, Same Z H → P1.p Z v → ∃ t, TyX X.K H v t ∧ PySem.W.kitOne X.K t (.ref C) = some kk) : CallB X (.builtin "isinstance") [P1, clsS C] (dB X.K kk) :=
  CallR.imp call_isi fun vs H Q ⟨Z, zh, ps, q⟩ => by
    cases ps with
    | cons p1 ps =>
      cases ps with
      | cons p2 ps =>
        cases ps
        cases (show _ = V.ref C from p2)
        obtain ⟨t, ty, hk⟩ := h _ _ _ zh p1
        exact ⟨_, _, t, _, kk, rfl, .own C, ty, hk, q _ Z H (Gr.refl zh) (.bl _)⟩
theorem be_isiC {kk : Bool} {e2 : Expr} (ha : BA X Γ [e, e2] [P1, clsS C] Γ') (h : ∀ Z H v, Same Z H → P1.p Z v → ∃ t, TyX X.K H v t ∧ PySem.W.kitOne X.K t (.ref C) = some kk) (hg : Gl X "isinstance") (hm : X.mg "isinstance" = none)
    (he : starEach [e, e2] X.env = (false, eval e X.env) :: starEach [e2] X.env := by rfl) (hpl : (backTo pos (starEach [e2] X.env)).any (·.1) = false := by rfl) : BE X Γ (.Call (.Name "isinstance" p) [e, e2] [] pos) (dB X.K kk) Γ' :=
  be_builtin (cb_isiC h) hg hm boot_isinstance ha (by decide) (by decide) he hpl
/-- == of lists of texts -/
theorem eqv_strs : ∀ (l r : List Str), PyData.eqv (.list (l.map .str)) (.list (r.map .str)) = decide (l = r)
  | [], [] => by simp [PyData.eqv, PyData.eqvAll]
  | [], _ :: _ => by simp [PyData.eqv, PyData.eqvAll]
  | _ :: _, [] => by simp [PyData.eqv, PyData.eqvAll]
  | a :: l, b :: r => by
    have ih := eqv_strs l r
    simp only [PyData.eqv] at ih
    simp only [PyData.eqv, List.map_cons, PyData.eqvAll]
    rw [ih]
    by_cases h : a = b
    · subst h
      simp
    · have h' : (a == b) = false := by simpa using h
      simp [h, h']
end
end B

/-! New results of x if t else y. -/
namespace B
open PySem PySem.Spec PyProof.Rows L2
section
variable {X : Cx} {Γ Γ' Γ1 Γ2 Γ3 : List Sl} {P P' P1 P2 P3 : SV} {a b c e o : Expr} {es : List Expr} {pos p apos : Pos} {K : PySem.W.Frag} {R : Post} {x m : Str}
theorem bo_ifN {ρ : Type} {Ψ : ρ → Prop} {O : ρ → OV} {β : Bool → Prop} {t : Expr} (ht : BT X Γ t β Γ1) (ha : β true → BO X Γ1 a Ψ O Γ2) (hb : β false → BO X Γ1 b Ψ O Γ2) : BO X Γ (.IfExp t a b pos) Ψ O Γ2 := by
  have key : ∀ {F F1 : Foot} {Z H Z1 H1 : Hp} {G : Addr → Prop} {Z' : Hp} {F' : Foot} {H' : Hp}, Stp Z F H Z1 F1 H1 → (∀ a, G a → Z' a = none ∧ ((∃ j, F1 j a) ∨ H1 a = none) ∧ (∃ o, H' a = some o) ∧ ∀ j, ¬ F' j a) → ∀ a, G a → Z' a = none ∧ ((∃ j, F j a) ∨ H a = none) ∧ (∃ o, H' a = some o) ∧ ∀ j, ¬ F' j a := by
    intro F F1 Z H Z1 H1 G Z' F' H' S g a ha
    obtain ⟨h1, h2, h3, h4⟩ := g a ha
    refine ⟨h1, ?_, h3, h4⟩
    rcases h2 with ⟨j, h⟩ | h
    · exact S.f j a h
    · exact .inr (S.back h)
  refine ⟨fun pins s σ H Q I ⟨Z, F, E, q⟩ => ?_⟩
  refine wpAny_IfExp (thn (PT.run ht pins s σ H _ I ⟨Z, F, E, fun v Z' F' H' E' S p => (⟨p, Z', F', E', S⟩ : (fun v H' => β v ∧ ∃ Z' F', En Γ1 Z' F' σ H' ∧ Stp Z F H Z' F' H') v H')⟩) fun d s1 ⟨H1, I1, e1, Z1, F1, E1, S1⟩ => ?_)
  cases d with
  | true => exact PE.run (ha e1) pins s1 σ H1 Q I1 ⟨Z1, F1, E1, fun r v G Z' F' H' E' S ψ o g => q r v G Z' F' H' E' (S1.trans S) ψ o (key S1 g)⟩
  | false => exact PE.run (hb e1) pins s1 σ H1 Q I1 ⟨Z1, F1, E1, fun r v G Z' F' H' E' S ψ o g => q r v G Z' F' H' E' (S1.trans S) ψ o (key S1 g)⟩
end
end B

/-! A call that changes its first argument, by what is wanted of its value. -/
namespace B
open PySem PySem.Spec PyProof.Rows L2
section
variable {X : Cx} {Γ Γ' Γ1 Γ2 Γ3 : List Sl} {P P' P1 P2 P3 : SV} {a b c e o : Expr} {es : List Expr} {pos p apos : Pos} {K : PySem.W.Frag} {R : Post} {x m : Str}
theorem be_callMR {ps : List Str} {k : Nat} {ι ρ : Type} {Φ : ι → Prop} {A : ι → List SV} {O : ι → OV} {Ψ : ι → ρ → Prop} {Rm : ι → ρ → SV} {O' : ι → OV} {y : Str} {py : Pos} (j : Nat) (i : ι) (D : Df X.prog X.w X.K X.mg X.base x ps [] k (FM Φ O A Ψ Rm O')) (hr : Room k X.A) (hg : Gl X x) (hΓ : Γ[j]? = some (.own (O i))) (ha : BA X Γ es (A i) Γ1) (hΓ1 : Γ1[j]? = some (.own (O i))) (φ : Φ i) (hE : Γ1.set j (.own (O' i)) = Γ2)
    (hP : ∀ r, Ψ i r → (Rm i r).le P) (hN : X.N[j]? = some y) (hv : Vis X.env.scope y) (hdb : (x == ("__debug__" : Str)) = false := by decide) (hd : (y == ("__debug__" : Str)) = false := by decide) (hcd : (y == ("__classdict__" : Str)) = false := by decide)
    (he : starEach (.Name y py :: es) X.env = (false, eval (.Name y py) X.env) :: starEach es X.env := by rfl) (hpl : (backTo pos (starEach es X.env)).any (·.1) = false := by rfl) :
    BE X Γ (.Call (.Name x p) (.Name y py :: es) [] pos) P Γ2 :=
  (be_callME j i D hr hg hΓ ha hΓ1 φ hE hN hv hdb hd hcd he hpl).le fun Z v ⟨r, ψ, h⟩ => hP r ψ Z v h
end
end B

/-! Comprehensions over a list of a family; calls with families. -/
namespace B
open PySem PySem.Spec PyProof.Rows L2
section
variable {X : Cx} {Γ Γ' Γ1 Γ2 Γ3 : List Sl} {P P' P1 P2 P3 : SV} {a b c e o : Expr} {es : List Expr} {pos p apos : Pos} {K : PySem.W.Frag} {R : Post} {x m : Str}
theorem bn_lcF {ι α : Type} {M : ι → Prop} {S : α → SV} {xs : ι → List α} {β : α → Bool → Prop} {Φ : α → PyData → Prop} {elt tg iter : Expr} {ifs : List Expr} {scope : Scope} {own : List (Str × Nat)} {Γx : α → List Sl} {ts : List Nat} {W : List Sl → Prop} (hI : BIF X Γ tg iter S M xs Γ1 W) (hW : W Γ1)
    (hg : ∀ (s : Shared) (H : Hp) (C : Addr) (cl : List (Str × Addr)) (fp : List Addr) (x : α), (∃ ix, M ix ∧ x ∈ xs ix) → BG (X.blk s H scope (compEnvC scope cl C X.env) fp) (wipeG Γ1 (own.map (·.2))) tg (S x) (Γx x) ts)
    (ht : ∀ (s : Shared) (H : Hp) (C : Addr) (cl : List (Str × Addr)) (fp : List Addr) (x : α), (∃ ix, M ix ∧ x ∈ xs ix) → BTs (X.blk s H scope (compEnvC scope cl C X.env) fp) (Γx x) ifs (β x))
    (he : ∀ (s : Shared) (H : Hp) (C : Addr) (cl : List (Str × Addr)) (fp : List Addr) (x : α), (∃ ix, M ix ∧ x ∈ xs ix) → β x true → BE (X.blk s H scope (compEnvC scope cl C X.env) fp) (Γx x) elt (.ex (Φ x) (IsD X.K)) (Γx x))
    (hno : noOwn Γ1 (own.map (·.2)) = true) (hts' : (ts.all fun i => (own.map (·.2)).contains i) = true) (hz : ∀ ix, M ix → (xs ix).length ≤ sizeLine) (hc : X.calm = true) (hN : X.N.Nodup) (ok : BlkOk X.N X.env.scope scope own)
    (hs : ∀ x, foldedSetIterable iter X.env x = pure x := by intro _; rfl) : BN X Γ (.ListComp elt [⟨tg, iter, ifs, 0⟩] scope pos) (fun ds => ∃ ix, M ix ∧ Lc β Φ (xs ix) ds) Γ1 := by
  have ho : ∀ i O, i ∈ own.map (·.2) → Γ1[i]? ≠ some (.own O) := fun i O hi e => by
    have := List.all_eq_true.mp hno i hi
    rw [e] at this
    cases this
  have hts : ∀ i ∈ ts, i ∈ own.map (·.2) := fun i hi => List.contains_iff_mem.mp (List.all_eq_true.mp hts' i hi)
  generalize hvs : own.map (·.2) = vs at *
  -- the parts, for any item
  have Hg : ∀ (s : Shared) (H : Hp) (C : Addr) (cl : List (Str × Addr)) (fp : List Addr), PG (X.blk s H scope (compEnvC scope cl C X.env) fp) tg (fun v σ H Q => ∃ x Z F, (∃ ix, M ix ∧ x ∈ xs ix) ∧ En (wipeG Γ1 vs) Z F σ H ∧ (S x).p Z v ∧ ∀ σ', En (Γx x) Z F σ' H → (∀ i, i ∉ ts → σ'[i]? = σ[i]?) → Q σ' H) :=
    fun s H C cl fp => ⟨fun pins s' σ H' v u Q I r ⟨x, Z, F, m, E, p, q⟩ => PG.run (hg s H C cl fp x m).pg pins s' σ H' v u Q I r ⟨Z, F, E, p, q⟩⟩
  have Ht : ∀ (s : Shared) (H : Hp) (C : Addr) (cl : List (Str × Addr)) (fp : List Addr), PTs (X.blk s H scope (compEnvC scope cl C X.env) fp) ifs (fun σ H Q => ∃ x, (∃ ix, M ix ∧ x ∈ xs ix) ∧ tT (Γx x) (β x) (Γx x) σ H Q) :=
    fun s H C cl fp => ⟨fun pins s' σ H' Q I ⟨x, m, q⟩ => PTs.run (ht s H C cl fp x m) pins s' σ H' Q I q⟩
  have He : ∀ (s : Shared) (H : Hp) (C : Addr) (cl : List (Str × Addr)) (fp : List Addr), PE (X.blk s H scope (compEnvC scope cl C X.env) fp) elt (fun σ H Q => ∃ x, (∃ ix, M ix ∧ x ∈ xs ix) ∧ β x true ∧ tE (Γx x) (.ex (Φ x) (IsD X.K)) (Γx x) σ H Q) :=
    fun s H C cl fp => ⟨fun pins s' σ H' Q I ⟨x, m, b, q⟩ => PE.run (he s H C cl fp x m b) pins s' σ H' Q I q⟩
  refine PE.imp (pe_lc hc hN hI ok Hg Ht He hs) fun σ H Q ⟨Z, F, E, q⟩ => ⟨Z, F, E, fun J C Z1 F1 H1 ix E1 S1 mi cc w => ?_⟩
  have hz' := hz ix mi
  rw [hvs]
  intro D hD
  have g0 := Gr.lost (o := .lst []) E1.zh hD
  refine ⟨fun i m H' => m = (xs ix).length - i ∧ i ≤ (xs ix).length ∧ ∃ Z' F' acc ds, En Γ1 Z' F' σ H' ∧ Stp Z1 F1 H1 Z' F' H' ∧ Z' D = none ∧ (∀ j, ¬ F' j D) ∧ H' D = some (.lst acc) ∧ RpA X.K Z' acc ds ∧ Lc β Φ ((xs ix).take i) ds,
    ⟨(xs ix).length, by simp, Nat.zero_le _, Z1, F1, [], [], E1.grow g0, g0.stp, E1.zh.free hD, fun j hj => ?_, upd_same, .nil, by rw [List.take_zero]; exact .nil⟩, ?_⟩
  · obtain ⟨o, ho'⟩ := E1.fsome j D hj
    rw [hD] at ho'
    cases ho'
  rintro i m H' ⟨rfl, hi, Z', F', acc, ds, E', S', zD, fD, hD', r, lc⟩
  have c' := cc _ _ _ _ _ hW E' S'.z
  by_cases hlt : i < (xs ix).length
  · refine .inr ⟨w.goes i Z' H' hlt c', fun H2 => ∃ Z2 F2 acc2 ds2, En Γ1 Z2 F2 σ H2 ∧ Stp Z1 F1 H1 Z2 F2 H2 ∧ Z2 D = none ∧ (∀ j, ¬ F2 j D) ∧ H2 D = some (.lst acc2) ∧ RpA X.K Z2 acc2 ds2 ∧ Lc β Φ ((xs ix).take (i + 1)) ds2,
      fun H2 q2 => ⟨(xs ix).length - (i + 1), by omega, rfl, hlt, q2⟩, fun v H2 y => ?_⟩
    obtain ⟨Z2, x, g, ex, p⟩ := w.yields i H' v H2 Z' hlt c' E'.zh y
    have mx : ∃ ix, M ix ∧ x ∈ xs ix := ⟨ix, mi, List.mem_of_getElem? ex⟩
    have bgx := hg X.s_0 X.H_0 0 [] [] x mx
    have tk : (xs ix).take (i + 1) = (xs ix).take i ++ [x] := by rw [List.take_add_one, ex] <;> rfl
    rw [tk]
    have E2 := E'.grow g
    have S2 := S'.trans (g.stp (F := F'))
    have zD2 : Z2 D = none := by
      cases z : Z2 D with
      | none => rfl
      | some o =>
        rcases g.nw D o z with h | h
        · rw [zD] at h; cases h
        · rw [hD'] at h; cases h
    refine ⟨x, Z2, F', mx, E2.wiped vs, p, fun σ2 E3 k => ?_⟩
    have hw : wipe σ2 vs = wipe σ vs := by
      rw [← wipe_wipe σ vs]
      refine wipe_eq ?_ fun j hj => k j fun z => hj (hts j z)
      rw [E3.len, (E2.wiped vs).len, bgx.len]
    have hx : ∀ i, i ∉ vs → (Γx x)[i]? = Γ1[i]? := fun i hi => (bgx.out i fun z => hi (hts i z)).trans (wipeG_get Γ1 vs i hi)
    have back : ∀ {Z3 : Hp} {F3 : Foot} {H3 : Hp}, En (Γx x) Z3 F3 σ2 H3 → Stp Z2 F' H2 Z3 F3 H3 → En Γ1 Z3 F3 σ H3 := fun E4 S4 => E1.unwiped E4 (S2.z.trans S4.z) hw hx ho
    have keep : ∀ {Z3 : Hp} {F3 : Foot} {H3 : Hp}, Stp Z2 F' H2 Z3 F3 H3 → Z3 D = none ∧ (∀ j, ¬ F3 j D) ∧ H3 D = some (.lst acc) := fun {Z3 F3 H3} S4 => by
      have hD2 : H2 D = some (.lst acc) := g.h D _ hD'
      refine ⟨?_, fun j hj => ?_, S4.fr D _ hD2 fD⟩
      · cases z : Z3 D with
        | none => rfl
        | some o =>
          rcases S4.zn D o z with h | h | ⟨j, h⟩
          · rw [zD2] at h; cases h
          · rw [hD2] at h; cases h
          · exact absurd h (fD j)
      · rcases S4.f j D hj with ⟨l, h⟩ | h
        · exact fD l h
        · rw [hD2] at h; cases h
    refine ⟨hw, x, mx, Z2, F', E3, fun b Z3 F3 H3 E4 S4 hb => ?_⟩
    cases b with
    | false =>
      show (if false = true then _ else _)
      rw [if_neg Bool.false_ne_true]
      obtain ⟨k1, k2, k3⟩ := keep S4
      exact ⟨Z3, F3, acc, ds, back E4 S4, S2.trans S4, k1, k2, k3, RpA.mono (g.z.trans S4.z) _ _ r, .skip lc hb⟩
    | true =>
      show (if true = true then _ else _)
      rw [if_pos rfl]
      refine ⟨x, mx, hb, Z3, F3, E4, fun u Z4 F4 H4 E5 S5 ⟨d, hd, pd⟩ => ?_⟩
      have S6 := S4.trans S5
      obtain ⟨k1, k2, k3⟩ := keep S6
      have l1 : acc.length ≤ i := by
        have := lc.len
        rw [← r.length, List.length_take] at this
        omega
      have E6 := back E5 S6
      have nD : ∀ {b : Addr} {o : HO}, Z4 b = some o → b ≠ D := fun e => ne_of_none e k1
      have E7 : En Γ1 Z4 F4 σ (upd H4 D (.lst (acc ++ [u]))) := by
        refine ⟨fun b o e => by rw [upd_ne (nD e)]; exact E6.zh b o e, E6.fsep, E6.fz, fun j b hj => ?_, fun j s e => (E6.slots j s e).grow (Same.refl _) fun b hb => upd_ne fun z => k2 j (by rw [← z]; exact hb), E6.len⟩
        obtain ⟨o, e⟩ := E6.fsome j b hj
        exact ⟨o, by rw [upd_ne fun z => k2 j (by rw [← z]; exact hj)]; exact e⟩
      have S7 := S2.trans S6
      have S8 : Stp Z1 F1 H1 Z4 F4 (upd H4 D (.lst (acc ++ [u]))) := ⟨S7.z, S7.f, S7.zn, fun b o e hn => by rw [upd_ne (ne_of_none e hD)]; exact S7.fr b o e hn, fun b o e => by
        rw [upd_ne (ne_of_none e hD)]
        exact S7.al b o e⟩
      exact ⟨acc, k3, by omega, Z4, F4, acc ++ [u], ds ++ [d], E7, S8, k1, k2, upd_same, (RpA.mono (g.z.trans S6.z) _ _ r).append (.cons pd .nil), .take lc hb hd⟩
  · have e : i = (xs ix).length := by omega
    subst e
    rw [List.take_length] at lc
    exact .inl ⟨w.stops Z' H' c', q D acc ds Z' F' H' E' (S1.trans S') (S1.back hD) hD' zD fD r ⟨ix, mi, lc⟩⟩
/-- deterministic -/
theorem bi_listE {tg : Expr} {ι α : Type} {g : α → PyData} {Ψ : ι → Prop} {xs : ι → List α} (h : BE X Γ e P Γ1) (hP : P.le (.ex Ψ fun ix => dL X.K ((xs ix).map g))) : BIF X Γ tg e (fun x => IsD X.K (g x)) Ψ xs Γ1 fun _ => True :=
  PI.imp (pi_list h) fun σ H R ⟨Z, F, E, q⟩ => ⟨Z, F, E, fun v Z1 F1 H1 E1 S1 p' => by
    obtain ⟨ix, ψ, pd⟩ := hP _ _ p'
    obtain ⟨a, us, rfl, ha, r⟩ := dL_p pd
    have hl := r.length
    rw [List.length_map] at hl
    have w : WalkB (Itl X.K a) Z1 (fun x => IsD X.K (g x)) (xs ix) := by
      refine ⟨fun i H hi z => ⟨us, us[i]'(by omega), SqL.of (z _ _ ha), by simp⟩, fun H z => ⟨us, SqL.of (z _ _ ha), by omega⟩, fun i H x H' Z hi z1 z2 y => ?_⟩
      obtain ⟨rfl, y⟩ := y
      have e1 := y us (SqL.of (z2 _ _ (z1 _ _ ha)))
      obtain ⟨d, e2, rd⟩ := r.get' e1
      rw [List.getElem?_map, List.getElem?_eq_getElem hi] at e2
      cases e2
      exact ⟨Z, (xs ix)[i], Gr.refl z2, List.getElem?_eq_getElem hi, Rp.mono z1 _ _ rd⟩
    exact ⟨a, rfl, ⟨us, SqL.of (E1.zh _ _ ha)⟩, q _ (fun (Z H : Hp) => Same Z1 Z ∧ Same Z H) Z1 F1 H1 ix E1 S1 ψ (fun Γ2 Z2 F2 σ2 H2 _ E2 z => ⟨z, E2.zh⟩) w.toC⟩⟩
variable {ps : List Str} {k : Nat} {C : Addr} {ι ρ ρ' : Type} {Φ : ι → Prop} {As : ι → List SV} {Rf : ι → SV} {Ψ : ι → ρ → Prop} {RO : ι → ρ → OV}
theorem bo_callWR {O O' : ι → OV} {Ψ' : ρ' → Prop} {O2 : ρ' → OV} {y : Str} {py : Pos} (j : Nat) (i : ι) (D : Df X.prog X.w X.K X.mg X.base x ps [] k (FW Φ O As Ψ RO O')) (hr : Room k X.A) (hg : Gl X x) (hΓ : Γ[j]? = some (.own (O i))) (ha : BA X Γ es (As i) Γ1) (hΓ1 : Γ1[j]? = some (.own (O i))) (φ : Φ i) (hE : Γ1.set j (.own (O' i)) = Γ2)
    (g : ρ → ρ') (hR : ∀ r, Ψ i r → Ψ' (g r) ∧ (RO i r).le (O2 (g r))) (hN : X.N[j]? = some y) (hv : Vis X.env.scope y) (hdb : (x == ("__debug__" : Str)) = false := by decide) (hd : (y == ("__debug__" : Str)) = false := by decide) (hcd : (y == ("__classdict__" : Str)) = false := by decide)
    (he : starEach (.Name y py :: es) X.env = (false, eval (.Name y py) X.env) :: starEach es X.env := by rfl) (hpl : (backTo pos (starEach es X.env)).any (·.1) = false := by rfl) : BO X Γ (.Call (.Name x p) (.Name y py :: es) [] pos) Ψ' O2 Γ2 := by
  rw [← hE]
  exact BO.to (bo_callW j i D hr hg hΓ ha hΓ1 φ hN hv hdb hd hcd he hpl) g hR
theorem be_methZE {pl : Sem Bool} {ι0 : Type} {Ψ0 : ι0 → Prop} {Pf : ι0 → SV} (i : ι0 → ι) (D : DfM X.prog X.w X.K X.mg X.base C m ps [] k (FS Φ As Rf)) (hr : Room k X.A) (ho : BE X Γ o P1 Γ1) (hI : InsM C m P1) (ha : BE X Γ1 e P2 Γ2) (hP2 : P2.le (.ex Ψ0 Pf)) (hA : ∀ b, As (i b) = [P1, Pf b]) (φ : ∀ b, Ψ0 b → Φ (i b)) (hR : ∀ b, (Rf (i b)).le P)
    (hst : starEach [e] X.env = (false, eval e X.env) :: starEach [] X.env := by rfl) (hpl : (backTo pos (starEach [] X.env)).any (·.1) = false := by rfl)
    (ht : eval (.Call (.Attribute o m apos) [e] [] pos) X.env = (do
      let ov ← eval o X.env
      standAt apos.atName
      let (g, one) ← holding [ov] (getMethod ov m pl)
      callWith pos g one (backTo pos (starEach [e] X.env)) (backToKw pos (keywordEach [] X.env))) := by rfl) : BE X Γ (.Call (.Attribute o m apos) [e] [] pos) P Γ2 := by
  obtain ⟨f, fd, ds, cl, hm, hb, hds, F⟩ := D
  refine PE.imp (pe_meth ho cl hm F hr hb hds pass0 (pa_cons ha pa_nil hst) hst hpl ht) fun σ H Q ⟨Z, F0, E, q⟩ => ⟨Z, F0, E, fun v Z1 F1 H1 E1 S1 p1 => ?_⟩
  obtain ⟨a, dx, fs, e1, e2, e3⟩ := hI _ _ p1
  refine ⟨a, dx, fs, e1, E1.zh _ _ e2, e3, Z1, F1, E1, fun w Z2 F2 H2 E2 S2 p2 => ?_⟩
  obtain ⟨b, ψ, pb⟩ := hP2 _ _ p2
  refine ⟨i b, Z2, φ b ψ, E2.zh, ?_, fun u Z' H' g pu => q u Z' F2 H' (E2.grow g) ((S1.trans S2).trans g.stp) (hR b _ _ pu)⟩
  rw [hA, List.append_nil]
  exact .cons (P1.mono S2.z p1) (.cons pb .nil)
end
end B

open PySem PySem.Spec PyProof.Rows L2 B
local macro_rules | `(tactic| wtm_at "bvar") => `(tactic| first | exact be_var 0 rfl rfl (by wtm_at "bv") | exact be_var 1 rfl rfl (by wtm_at "bv") | exact be_var 2 rfl rfl (by wtm_at "bv") | exact be_var 3 rfl rfl (by wtm_at "bv") | exact be_var 4 rfl rfl (by wtm_at "bv") | exact be_var 5 rfl rfl (by wtm_at "bv") | exact be_var 6 rfl rfl (by wtm_at "bv") | exact be_var 7 rfl rfl (by wtm_at "bv") | exact be_var 8 rfl rfl (by wtm_at "bv") | exact be_var 9 rfl rfl (by wtm_at "bv") | exact be_var 10 rfl rfl (by wtm_at "bv") | exact be_var 11 rfl rfl (by wtm_at "bv") | exact be_var 12 rfl rfl (by wtm_at "bv") | exact be_var 13 rfl rfl (by wtm_at "bv"))
local macro_rules | `(tactic| wtm_at "bv") => `(tactic| first | exact Or.inl rfl | exact Or.inr (Or.inl rfl) | exact Or.inr (Or.inr rfl))
local macro_rules | `(tactic| wtm_at "bl") => `(tactic| first | exact Or.inl rfl | exact Or.inr rfl)
local macro_rules | `(tactic| wtm_at "bglo") => `(tactic| fail)
local macro_rules | `(tactic| wtm_at "bty") => `(tactic| first | ((with_reducible show BE _ _ (.Name "list" _) _ _); exact be_ty rfl (by assumption) PyProof.Rows.boot_list) | ((with_reducible show BE _ _ (.Name "tuple" _) _ _); exact be_ty rfl (by assumption) PyProof.Rows.boot_tuple) | ((with_reducible show BE _ _ (.Name "int" _) _ _); exact be_ty rfl (by assumption) PyProof.Rows.boot_int) | ((with_reducible show BE _ _ (.Name "bool" _) _ _); exact be_ty rfl (by assumption) PyProof.Rows.boot_bool) | ((with_reducible show BE _ _ (.Name "str" _) _ _); exact be_ty rfl (by assumption) PyProof.Rows.boot_str))
local macro_rules | `(tactic| wtm_at "bmul") => `(tactic| first | ((with_reducible show OpB _ (binaryOp .Add) (IsD _ (.int _)) (IsD _ (.int _)) _); exact ob_add) | ((with_reducible show OpB _ (binaryOp .Mult) (IsD _ (.int _)) (IsD _ (.int _)) _); apply ob_mul) | ((with_reducible show OpB _ (binaryOp .Add) (IsD _ (.str _)) (IsD _ (.str _)) _); apply ob_addS) | ((with_reducible show OpB _ (binaryOp .Sub) (IsD _ (.int _)) (IsD _ (.int _)) _); exact ob_sub) | ((with_reducible show OpB _ (binaryOp .FloorDiv) (IsD _ (.int _)) (IsD _ (.int _)) _); apply ob_fdiv) | ((with_reducible show OpB _ (binaryOp .Mod) (IsD _ (.int _)) (IsD _ (.int _)) _); apply ob_mod) | ((with_reducible show OpB _ (binaryOp .Pow) (IsD _ (.int _)) (IsD _ (.int _)) _); apply ob_pow) | ((with_reducible show OpB _ (binaryOp .Add) (IsD _ (.list _)) (IsD _ (.list _)) _); apply ob_addL))
local macro_rules | `(tactic| wtm_at "biop") => `(tactic| first | ((with_reducible show OpB _ (inplaceOp .Add) (IsD _ (.int _)) (IsD _ (.int _)) _); exact iob_add) | ((with_reducible show OpB _ (inplaceOp .Sub) (IsD _ (.int _)) (IsD _ (.int _)) _); exact iob_sub) | ((with_reducible show OpB _ (inplaceOp .Add) (IsD _ (.str _)) (IsD _ (.str _)) _); apply iob_addS))
local macro_rules | `(tactic| wtm_at "bcmp") => `(tactic| first | ((with_reducible show OpB _ (compareOp .Eq) (IsD _ (.str _)) (IsD _ (.str _)) _); exact ob_eqS) | ((with_reducible show OpB _ (compareOp .Eq) (IsD _ (.int _)) (IsD _ (.int _)) _); exact ob_eqI) | ((with_reducible show OpB _ (compareOp .Eq) (IsD _ (.bool _)) (IsD _ (.bool _)) _); exact ob_eqB) | ((with_reducible show OpB _ (compareOp .Eq) _ _ _); apply ob_eq) | ((with_reducible show OpB _ (compareOp .NotEq) (IsD _ (.str _)) (IsD _ (.str _)) _); exact ob_neS) | ((with_reducible show OpB _ (compareOp .NotEq) (IsD _ (.int _)) (IsD _ (.int _)) _); exact ob_neI) | ((with_reducible show OpB _ (compareOp .NotEq) (IsD _ (.bool _)) (IsD _ (.bool _)) _); exact ob_neB) | ((with_reducible show OpB _ (compareOp .NotEq) _ _ _); apply ob_ne) | ((with_reducible show OpB _ (compareOp .Lt) (IsD _ (.int _)) (IsD _ (.int _)) _); exact ob_lt) | ((with_reducible show OpB _ (compareOp .LtE) (IsD _ (.int _)) (IsD _ (.int _)) _); exact ob_le) | ((with_reducible show OpB _ (compareOp .Gt) (IsD _ (.int _)) (IsD _ (.int _)) _); exact ob_gt) | ((with_reducible show OpB _ (compareOp .GtE) (IsD _ (.int _)) (IsD _ (.int _)) _); exact ob_ge) | ((with_reducible show OpB _ (compareOp .Lt) (IsD _ (.str _)) (IsD _ (.str _)) _); exact ob_ltS) | ((with_reducible show OpB _ (compareOp .LtE) (IsD _ (.str _)) (IsD _ (.str _)) _); exact ob_leS) | ((with_reducible show OpB _ (compareOp .GtE) (IsD _ (.str _)) (IsD _ (.str _)) _); exact ob_geS) | ((with_reducible show OpB _ (compareOp .In) (IsD _ (.str _)) (IsD _ (.str _)) _); exact ob_inS) | ((with_reducible show OpB _ (compareOp .NotIn) (IsD _ (.str _)) (IsD _ (.str _)) _); exact ob_notInS) | ((with_reducible show OpB _ (compareOp .In) _ (IsD _ (.tuple _)) _); apply ob_inU) | ((with_reducible show OpB _ (compareOp .NotIn) _ (IsD _ (.tuple _)) _); apply ob_notInU) | ((with_reducible show OpB _ (compareOp .In) _ (IsD _ (.list _)) _); apply ob_inL) | ((with_reducible show OpB _ (compareOp .NotIn) _ (IsD _ (.list _)) _); apply ob_notInL) | ((with_reducible show OpB _ (compareOp .Is) _ (IsD _ .none) _); exact ob_isN) | ((with_reducible show OpB _ (compareOp .Is) (IsD _ (.bool _)) (IsD _ (.bool _)) _); exact ob_isB) | ((with_reducible show OpB _ (compareOp .IsNot) _ (IsD _ .none) _); exact ob_notN))
local macro_rules | `(tactic| wtm_at "bop") => `(tactic| first | ((with_reducible show OpB _ (binaryOp _) _ _ _); wtm_at "bmul") | ((with_reducible show OpB _ (compareOp _) _ _ _); wtm_at "bcmp") | ((with_reducible show OpB _ (inplaceOp _) _ _ _); wtm_at "biop"))
local macro_rules | `(tactic| wtm_at "bws") => `(tactic| first | apply bw_and1 | apply bw_or1 | apply bw_and | apply bw_or)
local macro_rules | `(tactic| wtm_at "bts") => `(tactic| first | ((with_reducible show BT _ _ (.Compare _ _ _ _) _ _); apply bt_cmp) | ((with_reducible show BT _ _ (.UnaryOp _ _ _) _ _); apply bt_notD) | ((with_reducible show BT _ _ (.BoolOp _ _ _) _ _); (apply bt_of_bw; wtm_at "bws")) | apply bt_val)
local macro_rules | `(tactic| wtm_at "bcall") => `(tactic| fail)
local macro_rules | `(tactic| wtm_at "bes") => `(tactic| first | ((with_reducible show BE _ _ (.Constant _ _ _) _ _); first | exact be_int | exact be_str | exact be_bl | exact be_non) | ((with_reducible show BE _ _ (.Name _ _) _ _); first | wtm_at "bty" | wtm_at "bglo" | wtm_at "bvar" | wtm_at "bcall") | ((with_reducible show BE _ _ (.Compare _ _ _ _) _ _); apply be_cmp) | ((with_reducible show BE _ _ (.BinOp _ _ _ _) _ _); apply be_op) | ((with_reducible show BE _ _ (.Subscript _ (.Slice _ _ _ _) _) _ _); apply be_sl) | ((with_reducible show BE _ _ (.Subscript _ _ _) _ _); first | (refine' be_ownIx 0 rfl ?_ ?_ ?_ rfl (by wtm_at "bv")) | apply be_ix) | ((with_reducible show BE _ _ (.UnaryOp _ _ _) _ _); first | apply be_neg | apply be_not) | ((with_reducible show BE _ _ (.BoolOp _ _ _) _ _); first | apply be_one | apply be_and | apply be_or) | ((with_reducible show BE _ _ (.Call (.Name "len" _) _ _ _) _ _); apply be_len) | ((with_reducible show BE _ _ (.Call (.Name "int" _) _ _ _) _ _); apply be_intc) | ((with_reducible show BE _ _ (.Call (.Name "isinstance" _) [_, .Tuple _ _ _] _ _) _ _); apply be_isiT) | ((with_reducible show BE _ _ (.Call (.Name "isinstance" _) _ _ _) _ _); apply be_isi) | ((with_reducible show BE _ _ (.Tuple _ _ _) (tysS _) _); apply be_tysT) | ((with_reducible show BE _ _ (.Tuple _ _ _) _ _); apply be_tupD) | ((with_reducible show BE _ _ (.List _ _) _ _); apply be_lstD) | ((with_reducible show BE _ _ (.Call (.Attribute _ "upper" _) _ _ _) _ _); apply be_upper) | ((with_reducible show BE _ _ (.Call (.Attribute _ "lower" _) _ _ _) _ _); apply be_lower) | wtm_at "bcall")
local macro_rules | `(tactic| wtm_at "bside") => `(tactic| first | ((with_reducible show _ = _); first | assumption | rfl | exact nomark _ (by decide) (by decide) | with_unfolding_all rfl) | ((with_reducible show Df _ _ _ _ _ _ _ _ _ _); assumption) | ((with_reducible show Room _ _); first | assumption | exact Room.mono (by assumption) (by decide)) | ((with_reducible show Gl _ _); rfl) | ((with_reducible show PlainIx _); exact fun _ _ => rfl) | ((with_reducible show _ ∈ tysB); decide) | ((with_reducible show _ ≤ _); exact Nat.le_of_ble_eq_true rfl) | ((with_reducible show _ < _); first | assumption | exact (show Room _ _ by assumption).units | exact hu_of (by assumption) | decide) | ((with_reducible show CMul _ _); first | exact Or.inl ⟨by decide, by decide⟩ | exact Or.inr ⟨by decide, by decide⟩) | ((with_reducible show CPow _ _); exact ⟨by decide, by decide, by decide⟩) | ((with_reducible show autoParam _ _); first | rfl | exact nomark _ (by decide) (by decide) | with_unfolding_all rfl | exact fun _ => rfl | exact fun _ _ => rfl | decide))
local macro_rules | `(tactic| wtm_at "bs") => `(tactic| first | ((with_reducible show BE _ _ _ _ _); wtm_at "bes") | ((with_reducible show BAd _ _ _ _ _); first | exact bad_nil | apply bad_cons) | ((with_reducible show BAt _ _ _ _ _); first | exact bat_nil | apply bat_cons) | ((with_reducible show BA _ _ _ _ _); first | exact ba_nil | apply ba_cons) | ((with_reducible show BT _ _ _ _ _); wtm_at "bts") | ((with_reducible show BW _ _ _ _ _); wtm_at "bws") | ((with_reducible show OpB _ _ _ _ _); wtm_at "bop") | ((with_reducible show BP _ _ _ _ _); first | exact bp_none | apply bp_some) | ((with_reducible show IxB _ _ _ _); first | ((with_reducible show IxB _ (IsD _ (.list _)) _ _); first | exact ix_L rfl | apply ix_L) | ((with_reducible show IxB _ (IsD _ (.tuple _)) _ _); first | exact ix_U rfl | apply ix_U) | apply ix_S) | ((with_reducible show SlB _ _ _ _ _); first | ((with_reducible show SlB _ (IsD _ (.list _)) _ _ _); exact sl_L) | apply sl_S) | ((with_reducible show CallB _ _ _ _); first | ((with_reducible show CallB _ _ [IsD _ (.list _)] _); exact cb_lenL) | ((with_reducible show CallB _ _ [IsD _ (.tuple _)] _); exact cb_lenU) | ((with_reducible show CallB _ _ [IsD _ (.str _)] _); apply cb_lenS)) | (refine fun (_ : _ = (_ : Bool)) => ?_) | wtm_at "bside")
local macro_rules | `(tactic| wtm_at "callM") => `(tactic| (apply be_callM; (case' hg => rfl); (case' hr => first | assumption | exact Room.mono (by assumption) (by decide)); (all_goals try ((with_reducible show autoParam _ _); first | rfl | decide))))
local macro_rules | `(tactic| wtm_at "par") => `(tactic| ((case hc => rfl); (case hN => (show List.Nodup _; assumption)); (case hi => rfl); (case hj => rfl); (case hij => decide); (case hx => rfl); (case hy => rfl); (case hw => rfl); (all_goals try ((with_reducible show autoParam _ _); rfl))))
local macro_rules | `(tactic| wtm_at "lc") => `(tactic| ((case hW => first | trivial | rfl); (try (case hc => rfl)); (case hN => (show List.Nodup _; assumption)); (case hno => rfl); (case hts' => rfl); (all_goals try ((with_reducible show autoParam _ _); first | rfl | exact fun _ => rfl))))
local macro_rules | `(tactic| wtm_at "meth") => `(tactic| ((case' hr => first | assumption | exact Room.mono (by assumption) (by decide)); (all_goals try ((with_reducible show autoParam _ _); first | rfl | decide))))
local macro_rules | `(tactic| wtm_at "callN") => `(tactic| (apply be_callM; (case' hg => rfl); (all_goals try ((with_reducible show autoParam _ _); first | rfl | decide))))
local macro_rules | `(tactic| wtm_at "callE") => `(tactic| (apply be_callME; (case' hg => rfl); (all_goals try ((with_reducible show autoParam _ _); first | rfl | decide))))
local macro_rules | `(tactic| wtm_at "hrm") => `(tactic| (case hr => first | assumption | exact Room.mono (by assumption) (by decide)))
local macro_rules | `(tactic| wtm_at "sides") => `(tactic| first | rfl | (show List.Nodup _; assumption) | exact Or.inl rfl | decide)
local macro_rules | `(tactic| wtm_at "wk") => `(tactic| repeat' first | exact Paired.nil | exact WkS.refl | exact WkS.un | exact WkS.ofS | apply Paired.cons)
local macro_rules | `(tactic| wtm_at "vis") => `(tactic| exact Or.inl rfl)
local macro_rules | `(tactic| wtm_at "set0") => `(tactic| (apply bss_go; apply bs_set 0; (case' he => repeat' wtm_at "bs"); (case hN => (show List.Nodup _; assumption)); (case hi => rfl); (case hx => wtm_at "bl"); (try (case hs => rfl)); (try (case hf => exact Or.inl rfl))))
local macro_rules | `(tactic| wtm_at "augset0") => `(tactic| (apply bss_go; apply bs_aug 0; (case hΓ => rfl); (case' he => repeat' wtm_at "bs"); (case' ho => repeat' wtm_at "bs"); (case hN => (show List.Nodup _; assumption)); (case hi => rfl); (case hx => wtm_at "bl"); (try (case hf => exact Or.inl rfl))))
local macro_rules | `(tactic| wtm_at "one0") => `(tactic| (apply bss_one; apply bs_set 0; (case' he => repeat' wtm_at "bs"); (case hN => (show List.Nodup _; assumption)); (case hi => rfl); (case hx => wtm_at "bl"); (try (case hs => rfl)); (try (case hf => exact Or.inl rfl))))
local macro_rules | `(tactic| wtm_at "augone0") => `(tactic| (apply bss_one; apply bs_aug 0; (case hΓ => rfl); (case' he => repeat' wtm_at "bs"); (case' ho => repeat' wtm_at "bs"); (case hN => (show List.Nodup _; assumption)); (case hi => rfl); (case hx => wtm_at "bl"); (try (case hf => exact Or.inl rfl))))
local macro_rules | `(tactic| wtm_at "set1") => `(tactic| (apply bss_go; apply bs_set 1; (case' he => repeat' wtm_at "bs"); (case hN => (show List.Nodup _; assumption)); (case hi => rfl); (case hx => wtm_at "bl"); (try (case hs => rfl)); (try (case hf => exact Or.inl rfl))))
local macro_rules | `(tactic| wtm_at "augset1") => `(tactic| (apply bss_go; apply bs_aug 1; (case hΓ => rfl); (case' he => repeat' wtm_at "bs"); (case' ho => repeat' wtm_at "bs"); (case hN => (show List.Nodup _; assumption)); (case hi => rfl); (case hx => wtm_at "bl"); (try (case hf => exact Or.inl rfl))))
local macro_rules | `(tactic| wtm_at "one1") => `(tactic| (apply bss_one; apply bs_set 1; (case' he => repeat' wtm_at "bs"); (case hN => (show List.Nodup _; assumption)); (case hi => rfl); (case hx => wtm_at "bl"); (try (case hs => rfl)); (try (case hf => exact Or.inl rfl))))
local macro_rules | `(tactic| wtm_at "augone1") => `(tactic| (apply bss_one; apply bs_aug 1; (case hΓ => rfl); (case' he => repeat' wtm_at "bs"); (case' ho => repeat' wtm_at "bs"); (case hN => (show List.Nodup _; assumption)); (case hi => rfl); (case hx => wtm_at "bl"); (try (case hf => exact Or.inl rfl))))
local macro_rules | `(tactic| wtm_at "set2") => `(tactic| (apply bss_go; apply bs_set 2; (case' he => repeat' wtm_at "bs"); (case hN => (show List.Nodup _; assumption)); (case hi => rfl); (case hx => wtm_at "bl"); (try (case hs => rfl)); (try (case hf => exact Or.inl rfl))))
local macro_rules | `(tactic| wtm_at "augset2") => `(tactic| (apply bss_go; apply bs_aug 2; (case hΓ => rfl); (case' he => repeat' wtm_at "bs"); (case' ho => repeat' wtm_at "bs"); (case hN => (show List.Nodup _; assumption)); (case hi => rfl); (case hx => wtm_at "bl"); (try (case hf => exact Or.inl rfl))))
local macro_rules | `(tactic| wtm_at "one2") => `(tactic| (apply bss_one; apply bs_set 2; (case' he => repeat' wtm_at "bs"); (case hN => (show List.Nodup _; assumption)); (case hi => rfl); (case hx => wtm_at "bl"); (try (case hs => rfl)); (try (case hf => exact Or.inl rfl))))
local macro_rules | `(tactic| wtm_at "augone2") => `(tactic| (apply bss_one; apply bs_aug 2; (case hΓ => rfl); (case' he => repeat' wtm_at "bs"); (case' ho => repeat' wtm_at "bs"); (case hN => (show List.Nodup _; assumption)); (case hi => rfl); (case hx => wtm_at "bl"); (try (case hf => exact Or.inl rfl))))
local macro_rules | `(tactic| wtm_at "set3") => `(tactic| (apply bss_go; apply bs_set 3; (case' he => repeat' wtm_at "bs"); (case hN => (show List.Nodup _; assumption)); (case hi => rfl); (case hx => wtm_at "bl"); (try (case hs => rfl)); (try (case hf => exact Or.inl rfl))))
local macro_rules | `(tactic| wtm_at "augset3") => `(tactic| (apply bss_go; apply bs_aug 3; (case hΓ => rfl); (case' he => repeat' wtm_at "bs"); (case' ho => repeat' wtm_at "bs"); (case hN => (show List.Nodup _; assumption)); (case hi => rfl); (case hx => wtm_at "bl"); (try (case hf => exact Or.inl rfl))))
local macro_rules | `(tactic| wtm_at "one3") => `(tactic| (apply bss_one; apply bs_set 3; (case' he => repeat' wtm_at "bs"); (case hN => (show List.Nodup _; assumption)); (case hi => rfl); (case hx => wtm_at "bl"); (try (case hs => rfl)); (try (case hf => exact Or.inl rfl))))
local macro_rules | `(tactic| wtm_at "augone3") => `(tactic| (apply bss_one; apply bs_aug 3; (case hΓ => rfl); (case' he => repeat' wtm_at "bs"); (case' ho => repeat' wtm_at "bs"); (case hN => (show List.Nodup _; assumption)); (case hi => rfl); (case hx => wtm_at "bl"); (try (case hf => exact Or.inl rfl))))
local macro_rules | `(tactic| wtm_at "set4") => `(tactic| (apply bss_go; apply bs_set 4; (case' he => repeat' wtm_at "bs"); (case hN => (show List.Nodup _; assumption)); (case hi => rfl); (case hx => wtm_at "bl"); (try (case hs => rfl)); (try (case hf => exact Or.inl rfl))))
local macro_rules | `(tactic| wtm_at "augset4") => `(tactic| (apply bss_go; apply bs_aug 4; (case hΓ => rfl); (case' he => repeat' wtm_at "bs"); (case' ho => repeat' wtm_at "bs"); (case hN => (show List.Nodup _; assumption)); (case hi => rfl); (case hx => wtm_at "bl"); (try (case hf => exact Or.inl rfl))))
local macro_rules | `(tactic| wtm_at "one4") => `(tactic| (apply bss_one; apply bs_set 4; (case' he => repeat' wtm_at "bs"); (case hN => (show List.Nodup _; assumption)); (case hi => rfl); (case hx => wtm_at "bl"); (try (case hs => rfl)); (try (case hf => exact Or.inl rfl))))
local macro_rules | `(tactic| wtm_at "augone4") => `(tactic| (apply bss_one; apply bs_aug 4; (case hΓ => rfl); (case' he => repeat' wtm_at "bs"); (case' ho => repeat' wtm_at "bs"); (case hN => (show List.Nodup _; assumption)); (case hi => rfl); (case hx => wtm_at "bl"); (try (case hf => exact Or.inl rfl))))
local macro_rules | `(tactic| wtm_at "set5") => `(tactic| (apply bss_go; apply bs_set 5; (case' he => repeat' wtm_at "bs"); (case hN => (show List.Nodup _; assumption)); (case hi => rfl); (case hx => wtm_at "bl"); (try (case hs => rfl)); (try (case hf => exact Or.inl rfl))))
local macro_rules | `(tactic| wtm_at "augset5") => `(tactic| (apply bss_go; apply bs_aug 5; (case hΓ => rfl); (case' he => repeat' wtm_at "bs"); (case' ho => repeat' wtm_at "bs"); (case hN => (show List.Nodup _; assumption)); (case hi => rfl); (case hx => wtm_at "bl"); (try (case hf => exact Or.inl rfl))))
local macro_rules | `(tactic| wtm_at "one5") => `(tactic| (apply bss_one; apply bs_set 5; (case' he => repeat' wtm_at "bs"); (case hN => (show List.Nodup _; assumption)); (case hi => rfl); (case hx => wtm_at "bl"); (try (case hs => rfl)); (try (case hf => exact Or.inl rfl))))
local macro_rules | `(tactic| wtm_at "augone5") => `(tactic| (apply bss_one; apply bs_aug 5; (case hΓ => rfl); (case' he => repeat' wtm_at "bs"); (case' ho => repeat' wtm_at "bs"); (case hN => (show List.Nodup _; assumption)); (case hi => rfl); (case hx => wtm_at "bl"); (try (case hf => exact Or.inl rfl))))
local macro_rules | `(tactic| wtm_at "set6") => `(tactic| (apply bss_go; apply bs_set 6; (case' he => repeat' wtm_at "bs"); (case hN => (show List.Nodup _; assumption)); (case hi => rfl); (case hx => wtm_at "bl"); (try (case hs => rfl)); (try (case hf => exact Or.inl rfl))))
local macro_rules | `(tactic| wtm_at "augset6") => `(tactic| (apply bss_go; apply bs_aug 6; (case hΓ => rfl); (case' he => repeat' wtm_at "bs"); (case' ho => repeat' wtm_at "bs"); (case hN => (show List.Nodup _; assumption)); (case hi => rfl); (case hx => wtm_at "bl"); (try (case hf => exact Or.inl rfl))))
local macro_rules | `(tactic| wtm_at "one6") => `(tactic| (apply bss_one; apply bs_set 6; (case' he => repeat' wtm_at "bs"); (case hN => (show List.Nodup _; assumption)); (case hi => rfl); (case hx => wtm_at "bl"); (try (case hs => rfl)); (try (case hf => exact Or.inl rfl))))
local macro_rules | `(tactic| wtm_at "augone6") => `(tactic| (apply bss_one; apply bs_aug 6; (case hΓ => rfl); (case' he => repeat' wtm_at "bs"); (case' ho => repeat' wtm_at "bs"); (case hN => (show List.Nodup _; assumption)); (case hi => rfl); (case hx => wtm_at "bl"); (try (case hf => exact Or.inl rfl))))
local macro_rules | `(tactic| wtm_at "set7") => `(tactic| (apply bss_go; apply bs_set 7; (case' he => repeat' wtm_at "bs"); (case hN => (show List.Nodup _; assumption)); (case hi => rfl); (case hx => wtm_at "bl"); (try (case hs => rfl)); (try (case hf => exact Or.inl rfl))))
local macro_rules | `(tactic| wtm_at "augset7") => `(tactic| (apply bss_go; apply bs_aug 7; (case hΓ => rfl); (case' he => repeat' wtm_at "bs"); (case' ho => repeat' wtm_at "bs"); (case hN => (show List.Nodup _; assumption)); (case hi => rfl); (case hx => wtm_at "bl"); (try (case hf => exact Or.inl rfl))))
local macro_rules | `(tactic| wtm_at "one7") => `(tactic| (apply bss_one; apply bs_set 7; (case' he => repeat' wtm_at "bs"); (case hN => (show List.Nodup _; assumption)); (case hi => rfl); (case hx => wtm_at "bl"); (try (case hs => rfl)); (try (case hf => exact Or.inl rfl))))
local macro_rules | `(tactic| wtm_at "augone7") => `(tactic| (apply bss_one; apply bs_aug 7; (case hΓ => rfl); (case' he => repeat' wtm_at "bs"); (case' ho => repeat' wtm_at "bs"); (case hN => (show List.Nodup _; assumption)); (case hi => rfl); (case hx => wtm_at "bl"); (try (case hf => exact Or.inl rfl))))
local macro_rules | `(tactic| wtm_at "set8") => `(tactic| (apply bss_go; apply bs_set 8; (case' he => repeat' wtm_at "bs"); (case hN => (show List.Nodup _; assumption)); (case hi => rfl); (case hx => wtm_at "bl"); (try (case hs => rfl)); (try (case hf => exact Or.inl rfl))))
local macro_rules | `(tactic| wtm_at "augset8") => `(tactic| (apply bss_go; apply bs_aug 8; (case hΓ => rfl); (case' he => repeat' wtm_at "bs"); (case' ho => repeat' wtm_at "bs"); (case hN => (show List.Nodup _; assumption)); (case hi => rfl); (case hx => wtm_at "bl"); (try (case hf => exact Or.inl rfl))))
local macro_rules | `(tactic| wtm_at "one8") => `(tactic| (apply bss_one; apply bs_set 8; (case' he => repeat' wtm_at "bs"); (case hN => (show List.Nodup _; assumption)); (case hi => rfl); (case hx => wtm_at "bl"); (try (case hs => rfl)); (try (case hf => exact Or.inl rfl))))
local macro_rules | `(tactic| wtm_at "augone8") => `(tactic| (apply bss_one; apply bs_aug 8; (case hΓ => rfl); (case' he => repeat' wtm_at "bs"); (case' ho => repeat' wtm_at "bs"); (case hN => (show List.Nodup _; assumption)); (case hi => rfl); (case hx => wtm_at "bl"); (try (case hf => exact Or.inl rfl))))
local macro_rules | `(tactic| wtm_at "set9") => `(tactic| (apply bss_go; apply bs_set 9; (case' he => repeat' wtm_at "bs"); (case hN => (show List.Nodup _; assumption)); (case hi => rfl); (case hx => wtm_at "bl"); (try (case hs => rfl)); (try (case hf => exact Or.inl rfl))))
local macro_rules | `(tactic| wtm_at "augset9") => `(tactic| (apply bss_go; apply bs_aug 9; (case hΓ => rfl); (case' he => repeat' wtm_at "bs"); (case' ho => repeat' wtm_at "bs"); (case hN => (show List.Nodup _; assumption)); (case hi => rfl); (case hx => wtm_at "bl"); (try (case hf => exact Or.inl rfl))))
local macro_rules | `(tactic| wtm_at "one9") => `(tactic| (apply bss_one; apply bs_set 9; (case' he => repeat' wtm_at "bs"); (case hN => (show List.Nodup _; assumption)); (case hi => rfl); (case hx => wtm_at "bl"); (try (case hs => rfl)); (try (case hf => exact Or.inl rfl))))
local macro_rules | `(tactic| wtm_at "augone9") => `(tactic| (apply bss_one; apply bs_aug 9; (case hΓ => rfl); (case' he => repeat' wtm_at "bs"); (case' ho => repeat' wtm_at "bs"); (case hN => (show List.Nodup _; assumption)); (case hi => rfl); (case hx => wtm_at "bl"); (try (case hf => exact Or.inl rfl))))
local macro_rules | `(tactic| wtm_at "set10") => `(tactic| (apply bss_go; apply bs_set 10; (case' he => repeat' wtm_at "bs"); (case hN => (show List.Nodup _; assumption)); (case hi => rfl); (case hx => wtm_at "bl"); (try (case hs => rfl)); (try (case hf => exact Or.inl rfl))))
local macro_rules | `(tactic| wtm_at "augset10") => `(tactic| (apply bss_go; apply bs_aug 10; (case hΓ => rfl); (case' he => repeat' wtm_at "bs"); (case' ho => repeat' wtm_at "bs"); (case hN => (show List.Nodup _; assumption)); (case hi => rfl); (case hx => wtm_at "bl"); (try (case hf => exact Or.inl rfl))))
local macro_rules | `(tactic| wtm_at "one10") => `(tactic| (apply bss_one; apply bs_set 10; (case' he => repeat' wtm_at "bs"); (case hN => (show List.Nodup _; assumption)); (case hi => rfl); (case hx => wtm_at "bl"); (try (case hs => rfl)); (try (case hf => exact Or.inl rfl))))
local macro_rules | `(tactic| wtm_at "augone10") => `(tactic| (apply bss_one; apply bs_aug 10; (case hΓ => rfl); (case' he => repeat' wtm_at "bs"); (case' ho => repeat' wtm_at "bs"); (case hN => (show List.Nodup _; assumption)); (case hi => rfl); (case hx => wtm_at "bl"); (try (case hf => exact Or.inl rfl))))
local macro_rules | `(tactic| wtm_at "set11") => `(tactic| (apply bss_go; apply bs_set 11; (case' he => repeat' wtm_at "bs"); (case hN => (show List.Nodup _; assumption)); (case hi => rfl); (case hx => wtm_at "bl"); (try (case hs => rfl)); (try (case hf => exact Or.inl rfl))))
local macro_rules | `(tactic| wtm_at "augset11") => `(tactic| (apply bss_go; apply bs_aug 11; (case hΓ => rfl); (case' he => repeat' wtm_at "bs"); (case' ho => repeat' wtm_at "bs"); (case hN => (show List.Nodup _; assumption)); (case hi => rfl); (case hx => wtm_at "bl"); (try (case hf => exact Or.inl rfl))))
local macro_rules | `(tactic| wtm_at "one11") => `(tactic| (apply bss_one; apply bs_set 11; (case' he => repeat' wtm_at "bs"); (case hN => (show List.Nodup _; assumption)); (case hi => rfl); (case hx => wtm_at "bl"); (try (case hs => rfl)); (try (case hf => exact Or.inl rfl))))
local macro_rules | `(tactic| wtm_at "augone11") => `(tactic| (apply bss_one; apply bs_aug 11; (case hΓ => rfl); (case' he => repeat' wtm_at "bs"); (case' ho => repeat' wtm_at "bs"); (case hN => (show List.Nodup _; assumption)); (case hi => rfl); (case hx => wtm_at "bl"); (try (case hf => exact Or.inl rfl))))
local macro_rules | `(tactic| wtm_at "set12") => `(tactic| (apply bss_go; apply bs_set 12; (case' he => repeat' wtm_at "bs"); (case hN => (show List.Nodup _; assumption)); (case hi => rfl); (case hx => wtm_at "bl"); (try (case hs => rfl)); (try (case hf => exact Or.inl rfl))))
local macro_rules | `(tactic| wtm_at "augset12") => `(tactic| (apply bss_go; apply bs_aug 12; (case hΓ => rfl); (case' he => repeat' wtm_at "bs"); (case' ho => repeat' wtm_at "bs"); (case hN => (show List.Nodup _; assumption)); (case hi => rfl); (case hx => wtm_at "bl"); (try (case hf => exact Or.inl rfl))))
local macro_rules | `(tactic| wtm_at "one12") => `(tactic| (apply bss_one; apply bs_set 12; (case' he => repeat' wtm_at "bs"); (case hN => (show List.Nodup _; assumption)); (case hi => rfl); (case hx => wtm_at "bl"); (try (case hs => rfl)); (try (case hf => exact Or.inl rfl))))
local macro_rules | `(tactic| wtm_at "augone12") => `(tactic| (apply bss_one; apply bs_aug 12; (case hΓ => rfl); (case' he => repeat' wtm_at "bs"); (case' ho => repeat' wtm_at "bs"); (case hN => (show List.Nodup _; assumption)); (case hi => rfl); (case hx => wtm_at "bl"); (try (case hf => exact Or.inl rfl))))
local macro_rules | `(tactic| wtm_at "set13") => `(tactic| (apply bss_go; apply bs_set 13; (case' he => repeat' wtm_at "bs"); (case hN => (show List.Nodup _; assumption)); (case hi => rfl); (case hx => wtm_at "bl"); (try (case hs => rfl)); (try (case hf => exact Or.inl rfl))))
local macro_rules | `(tactic| wtm_at "augset13") => `(tactic| (apply bss_go; apply bs_aug 13; (case hΓ => rfl); (case' he => repeat' wtm_at "bs"); (case' ho => repeat' wtm_at "bs"); (case hN => (show List.Nodup _; assumption)); (case hi => rfl); (case hx => wtm_at "bl"); (try (case hf => exact Or.inl rfl))))
local macro_rules | `(tactic| wtm_at "one13") => `(tactic| (apply bss_one; apply bs_set 13; (case' he => repeat' wtm_at "bs"); (case hN => (show List.Nodup _; assumption)); (case hi => rfl); (case hx => wtm_at "bl"); (try (case hs => rfl)); (try (case hf => exact Or.inl rfl))))
local macro_rules | `(tactic| wtm_at "augone13") => `(tactic| (apply bss_one; apply bs_aug 13; (case hΓ => rfl); (case' he => repeat' wtm_at "bs"); (case' ho => repeat' wtm_at "bs"); (case hN => (show List.Nodup _; assumption)); (case hi => rfl); (case hx => wtm_at "bl"); (try (case hf => exact Or.inl rfl))))
local macro_rules | `(tactic| wtm_at "ownset") => `(tactic| (apply bss_go; apply bs_ownSet 0; (case' he => repeat' wtm_at "bs"); (case hΓ1 => rfl); (case' hb => repeat' wtm_at "bs"); (case hk => rfl); (case hN => rfl); (case hv => wtm_at "bv"); (try (case hasg => exact fun _ _ h1 h2 => ps_asg h1 h2)); (try (case hsub => exact fun _ _ h1 h2 => pg_sub h1 h2 set_list)); (try (case hd => decide)); (try (case hcd => decide))))
local macro_rules | `(tactic| wtm_at "ownone") => `(tactic| (apply bss_one; apply bs_ownSet 0; (case' he => repeat' wtm_at "bs"); (case hΓ1 => rfl); (case' hb => repeat' wtm_at "bs"); (case hk => rfl); (case hN => rfl); (case hv => wtm_at "bv"); (try (case hasg => exact fun _ _ h1 h2 => ps_asg h1 h2)); (try (case hsub => exact fun _ _ h1 h2 => pg_sub h1 h2 set_list)); (try (case hd => decide)); (try (case hcd => decide))))
local macro_rules | `(tactic| wtm_at "ret") => `(tactic| (apply bss_one; apply bs_ret; (case' he => repeat' wtm_at "bs")))
namespace K11
def topS (i : Nat) : Stmt := PySem.Challenge.pw_toldpaths_k11_books_told.main.body.getD i (.Pass ⟨0, 0, 0, 0⟩)
abbrev s_is_integer : Stmt := topS 10
abbrev n_is_integer : List Str := ["thing"]
theorem sc_is_integer : FnScope n_is_integer ["thing"] (defScope s_is_integer) := ⟨rfl, rfl, rfl, by decide +kernel, rfl, by decide +kernel, by decide +kernel⟩
abbrev s_is_list : Stmt := topS 11
abbrev n_is_list : List Str := ["thing"]
theorem sc_is_list : FnScope n_is_list ["thing"] (defScope s_is_list) := ⟨rfl, rfl, rfl, by decide +kernel, rfl, by decide +kernel, by decide +kernel⟩
abbrev s_is_manner : Stmt := topS 12
abbrev n_is_manner : List Str := ["thing"]
theorem sc_is_manner : FnScope n_is_manner ["thing"] (defScope s_is_manner) := ⟨rfl, rfl, rfl, by decide +kernel, rfl, by decide +kernel, by decide +kernel⟩
abbrev s_is_rising : Stmt := topS 13
abbrev n_is_rising : List Str := ["text", "one", "other"]
theorem sc_is_rising : FnScope n_is_rising ["text"] (defScope s_is_rising) := ⟨rfl, rfl, rfl, by decide +kernel, rfl, by decide +kernel, by decide +kernel⟩
abbrev s_parsed : Stmt := topS 14
abbrev n_parsed : List Str := ["path", "found", "signs", "sign", "mark", "has_backs", "step"]
theorem sc_parsed : FnScope n_parsed ["path"] (defScope s_parsed) := ⟨rfl, rfl, rfl, by decide +kernel, rfl, by decide +kernel, by decide +kernel⟩
abbrev s_is_path : Stmt := topS 15
abbrev n_is_path : List Str := ["manner", "thing", "found", "step", "mark"]
theorem sc_is_path : FnScope n_is_path ["manner", "thing"] (defScope s_is_path) := ⟨rfl, rfl, rfl, by decide +kernel, rfl, by decide +kernel, by decide +kernel⟩
abbrev s_checked_paths : Stmt := topS 18
abbrev n_checked_paths : List Str := ["manner", "paths", "found", "kept", "path"]
theorem sc_checked_paths : FnScope n_checked_paths ["manner", "paths", "found"] (defScope s_checked_paths) := ⟨rfl, rfl, rfl, by decide +kernel, rfl, by decide +kernel, by decide +kernel⟩
abbrev s_checked_indices : Stmt := topS 19
abbrev n_checked_indices : List Str := ["book", "indices", "at", "index"]
theorem sc_checked_indices : FnScope n_checked_indices ["book", "indices"] (defScope s_checked_indices) := ⟨rfl, rfl, rfl, by decide +kernel, rfl, by decide +kernel, by decide +kernel⟩
abbrev s_Book_init : Stmt := inClass (topS 20) 0
abbrev n_Book_init : List Str := ["self", "manner", "kept"]
theorem sc_Book_init : FnScope n_Book_init ["self", "manner", "kept"] (defScope s_Book_init) := ⟨rfl, rfl, rfl, by decide +kernel, rfl, by decide +kernel, by decide +kernel⟩
abbrev s_Book_len : Stmt := inClass (topS 20) 1
abbrev n_Book_len : List Str := ["self"]
theorem sc_Book_len : FnScope n_Book_len ["self"] (defScope s_Book_len) := ⟨rfl, rfl, rfl, by decide +kernel, rfl, by decide +kernel, by decide +kernel⟩
abbrev s_Book_iter : Stmt := inClass (topS 20) 2
abbrev n_Book_iter : List Str := ["self"]
theorem sc_Book_iter : FnScope n_Book_iter ["self"] (defScope s_Book_iter) := ⟨rfl, rfl, rfl, by decide +kernel, rfl, by decide +kernel, by decide +kernel⟩
abbrev s_Book_eq : Stmt := inClass (topS 20) 3
abbrev n_Book_eq : List Str := ["self", "other"]
theorem sc_Book_eq : FnScope n_Book_eq ["self", "other"] (defScope s_Book_eq) := ⟨rfl, rfl, rfl, by decide +kernel, rfl, by decide +kernel, by decide +kernel⟩
abbrev s_Book_kept : Stmt := inClass (topS 20) 4
abbrev n_Book_kept : List Str := ["self"]
theorem sc_Book_kept : FnScope n_Book_kept ["self"] (defScope s_Book_kept) := ⟨rfl, rfl, rfl, by decide +kernel, rfl, by decide +kernel, by decide +kernel⟩
abbrev s_Book_further : Stmt := inClass (topS 20) 5
abbrev n_Book_further : List Str := ["self", "paths"]
theorem sc_Book_further : FnScope n_Book_further ["self", "paths"] (defScope s_Book_further) := ⟨rfl, rfl, rfl, by decide +kernel, rfl, by decide +kernel, by decide +kernel⟩
abbrev s_Book_without : Stmt := inClass (topS 20) 6
abbrev n_Book_without : List Str := ["self", "indices", "gone", "at", "path"]
theorem sc_Book_without : FnScope n_Book_without ["self", "indices"] (defScope s_Book_without) := ⟨rfl, rfl, rfl, by decide +kernel, rfl, by decide +kernel, by decide +kernel⟩
abbrev s_law_fresh : Stmt := topS 22
abbrev n_law_fresh : List Str := ["_law_script"]
theorem sc_law_fresh : FnScope n_law_fresh ["_law_script"] (defScope s_law_fresh) := ⟨rfl, rfl, rfl, by decide +kernel, rfl, by decide +kernel, by decide +kernel⟩
abbrev s_law_fill : Stmt := topS 23
abbrev n_law_fill : List Str := ["_law_state", "_law_cells", "_law_nth", "_law_seed", "_law_k", "_law_prime", "_law_far"]
theorem sc_law_fill : FnScope n_law_fill ["_law_state"] (defScope s_law_fill) := ⟨rfl, rfl, rfl, by decide +kernel, rfl, by decide +kernel, by decide +kernel⟩
abbrev s_law_take : Stmt := topS 24
abbrev n_law_take : List Str := ["_law_state", "_law_many", "_law_laps", "_law_digit"]
theorem sc_law_take : FnScope n_law_take ["_law_state", "_law_many"] (defScope s_law_take) := ⟨rfl, rfl, rfl, by decide +kernel, rfl, by decide +kernel, by decide +kernel⟩
abbrev s_law_one : Stmt := topS 25
abbrev n_law_one : List Str := ["_law_state", "_law_things"]
theorem sc_law_one : FnScope n_law_one ["_law_state", "_law_things"] (defScope s_law_one) := ⟨rfl, rfl, rfl, by decide +kernel, rfl, by decide +kernel, by decide +kernel⟩
abbrev s_law_mix : Stmt := topS 26
abbrev n_law_mix : List Str := ["_law_state", "_law_things", "_law_left", "_law_found"]
theorem sc_law_mix : FnScope n_law_mix ["_law_state", "_law_things"] (defScope s_law_mix) := ⟨rfl, rfl, rfl, by decide +kernel, rfl, by decide +kernel, by decide +kernel⟩
abbrev s_law_handed : Stmt := topS 27
abbrev n_law_handed : List Str := ["_law_state", "_law_things"]
theorem sc_law_handed : FnScope n_law_handed ["_law_state", "_law_things"] (defScope s_law_handed) := ⟨rfl, rfl, rfl, by decide +kernel, rfl, by decide +kernel, by decide +kernel⟩
abbrev s_law_same : Stmt := topS 28
abbrev n_law_same : List Str := ["_law_found", "_law_due", "_law_a", "_law_b"]
theorem sc_law_same : FnScope n_law_same ["_law_found", "_law_due"] (defScope s_law_same) := ⟨rfl, rfl, rfl, by decide +kernel, rfl, by decide +kernel, by decide +kernel⟩
abbrev s_law_spoil : Stmt := topS 29
abbrev n_law_spoil : List Str := ["_law_x", "_law_y"]
theorem sc_law_spoil : FnScope n_law_spoil ["_law_x"] (defScope s_law_spoil) := ⟨rfl, rfl, rfl, by decide +kernel, rfl, by decide +kernel, by decide +kernel⟩
abbrev s_law_word : Stmt := topS 30
abbrev n_law_word : List Str := ["_law_state", "_law_manner", "_law_letters", "_law_many", "_law_found", "_law_k", "_law_step"]
theorem sc_law_word : FnScope n_law_word ["_law_state", "_law_manner", "_law_letters", "_law_many"] (defScope s_law_word) := ⟨rfl, rfl, rfl, by decide +kernel, rfl, by decide +kernel, by decide +kernel⟩
abbrev s_law_marked : Stmt := topS 31
abbrev n_law_marked : List Str := ["_law_state", "_law_word_here", "_law_digits", "_law_most", "_law_found", "_law_left", "_law_sign", "_law_mark", "_law_d"]
theorem sc_law_marked : FnScope n_law_marked ["_law_state", "_law_word_here", "_law_digits", "_law_most"] (defScope s_law_marked) := ⟨rfl, rfl, rfl, by decide +kernel, rfl, by decide +kernel, by decide +kernel⟩
abbrev s_law_path : Stmt := topS 32
abbrev n_law_path : List Str := ["_law_state", "_law_manner", "_law_letters", "_law_many", "_law_word_here"]
theorem sc_law_path : FnScope n_law_path ["_law_state", "_law_manner", "_law_letters", "_law_many"] (defScope s_law_path) := ⟨rfl, rfl, rfl, by decide +kernel, rfl, by decide +kernel, by decide +kernel⟩
abbrev s_law_kept : Stmt := topS 33
abbrev n_law_kept : List Str := ["_law_state", "_law_manner", "_law_letters", "_law_most", "_law_many", "_law_found", "_law_k", "_law_path_here"]
theorem sc_law_kept : FnScope n_law_kept ["_law_state", "_law_manner", "_law_letters", "_law_most", "_law_many"] (defScope s_law_kept) := ⟨rfl, rfl, rfl, by decide +kernel, rfl, by decide +kernel, by decide +kernel⟩
abbrev s_law : Stmt := topS 34
abbrev n_law : List Str := ["_law_script", "_law_state", "_law_turn", "_law_manner", "_law_paths", "_law_given", "_law_book", "_law_found", "_law_x", "_law_at", "_law_short", "_law_gone", "_law_k", "_law_due", "_law_name", "_law_some"]
theorem sc_law : FnScope n_law ["_law_script"] (defScope s_law) := ⟨rfl, rfl, rfl, by decide +kernel, rfl, by decide +kernel, by decide +kernel⟩
section
variable {P : Program} {w : World} {K : PySem.W.Frag} {mg : Str → Option Value} {base : Heap}
def spFresh (K : PySem.W.Frag) : Sp := FN (fun _ : List Int => True) (fun ns => [scr K ns]) (fun _ (_ : Addr) => True) (fun _ p => ownSt K p)
theorem cut63 (ns : List Int) : (cutL ns none (some 63)).length ≤ 63 := by
  unfold cutL
  rw [List.length_take, HT.sIx_none]
  have := HT.sIx_nat ns.length ns.length 63
  rw [show ((63 : Nat) : Int) = 63 from rfl] at this
  rw [this]
  omega
theorem ok_fresh {f : Addr} {fd : FuncData} (F : Fun K "_law_fresh" "_law_fresh" s_law_fresh f fd) : FnOk P w K mg base CX0 1 f fd ["_law_script"] (spFresh K) := by
  refine Fun.okN F sc_law_fresh (fun _ => rfl) fun cdv B outer s H E ns hr φ => ?_
  apply bss_one
  apply bs_retB (ρ := Addr) (Ψ := fun _ => True) (O := ownSt K)
  case he =>
    refine' BO.to (bo_of_bn (Ψ := (· = stD (cutL ns none (some 63)) 0 0 false)) ?_) Prod.fst fun r ψ => ⟨trivial, by rw [ψ]; exact ownSt_of (cut63 ns)⟩
    case refine'_2 =>
     apply bn_lstD
     · apply bad_cons
       · apply be_newD
         apply bn_slQ
         repeat' wtm_at "bs"
       repeat' wtm_at "bs"
     · exact Nat.le_of_ble_eq_true rfl
  intro r ψ
  exact ⟨r, trivial, gives_last⟩
def primes : List Int := [2147483647, 2147483629, 2147483587, 2147483579, 2147483563]
def spFill (K : PySem.W.Frag) : Sp := FM (fun i : Addr × Sta => i.2.cells.length ≤ 63) (fun i => ownL K i.1 i.2.d) (fun _ => []) (fun _ (_ : Unit) => True) (fun _ _ => dN K) (fun i => ownSt K i.1)
def stG (K : PySem.W.Frag) (p : Addr) (cells : List Int) (nth left : Int) (mixed : Bool) (r : List Sl) : List Sl := .own (ownL K p (stD cells nth left mixed)) :: r
theorem ok_fill {f : Addr} {fd : FuncData} (F : Fun K "_law_fill" "_law_fill" s_law_fill f fd) (mL : mg "len" = none) (mI : mg "int" = none) (mE : mg "enumerate" = none) : FnOk P w K mg base CX0 1 f fd ["_law_state"] (spFill K) := by
  refine Fun.okW F sc_law_fill (fun _ => rfl) (fun i => ⟨.ref i.1, ownL_v, ownSt_v⟩) fun cdv B outer s H E ⟨p, cells, nth, left, mixed⟩ hr φ => ?_
  have φ' : cells.length ≤ 63 := φ
  have nd := sc_law_fill.nd
  refine' bss_wk (Γ' := stG K p cells nth left mixed [.un, .un, .un, .un, .un, .un]) ?_ ?w
  case w => wtm_at "wk"
  -- cells, nth
  apply bss_go
  apply bs_par 1 2
  case ha => repeat' wtm_at "bs"
  all_goals try first | rfl | exact nd | decide
  wtm_at "set3"
  apply bss_cons (M := fun Γ' => ∃ seed : Int, Wk Γ' (stG K p cells nth left mixed [.fz (dL K (cells.map .int)), .fz (dI K nth), .fz (dI K seed), .un, .un, .un]))
  case h1 =>
    apply bs_if
    case hc => repeat' wtm_at "bs"
    case ha =>
      intro hk
      have hl : 0 < cells.length := by
        have := of_decide_eq_true hk
        rw [List.length_map] at this
        exact Int.ofNat_lt.mp this
      obtain ⟨c, hget⟩ := atI_ints (xs := cells) (i := nth % ((cells.map PyData.int).length : Int)) (Int.emod_nonneg _ (by rw [List.length_map]; omega)) (Int.emod_lt_of_pos _ (by rw [List.length_map]; omega))
      wtm_at "one3"
      · exact ⟨by rw [List.length_map]; omega, by rw [List.length_map]; omega⟩
      · rw [List.length_map]; omega
      · exact ⟨_, by wtm_at "wk"⟩
    case hb =>
      intro hk
      apply bss_nil
      exact ⟨_, by wtm_at "wk"⟩
  case h2 =>
    rintro Γ' ⟨seed, wk⟩
    refine bss_wk ?_ wk
    wtm_at "ownset"
    wtm_at "ownset"
    wtm_at "ownset"
    apply bss_cons (M := fun Γ' => ∃ (n l : Int) (m : Bool), Wk Γ' (stG K p cells n l m [.un, .un, .un, .un, .un, .un]))
    case h2 =>
      rintro Γ' ⟨n, l, m, wk⟩
      refine' bss_wk (Γ' := .own (ownSt K p) :: [.un, .un, .un, .un, .un, .un]) ?_ (Wk.trans wk ?_)
      · apply bss_nil
        exact ⟨(), trivial, RV.gives_fz _ (SV.le_refl _), ends_rfl rfl⟩
      · exact Paired.cons (WkS.leO (ownSt_of φ')) (Wk.refl _)
    case h1 =>
      apply bs_if
      case hc => repeat' wtm_at "bs"
      case hb =>
        intro hk
        apply bss_nil
        exact ⟨_, _, _, by wtm_at "wk"⟩
      case ha =>
        intro hk
        wtm_at "ownset"
        apply bss_one
        apply bs_for (inv := fun i Γ' => ∃ (n l : Int) (m : Bool), Wk Γ' (stG K p cells n l m [.fz (dL K (cells.map .int)), .fz (dI K nth), .fz (dI K seed), .un, .un, .un]))
        case hI =>
          refine' BI.w (bi_enumU (xs := primes) (g := .int) ?q1 mE ?q2 ?q3)
          case q1 => rfl
          case q2 => repeat' wtm_at "bs"
          case q3 => rfl
        case h0 => exact ⟨_, _, _, by wtm_at "wk"⟩
        case hW => exact fun _ _ _ => trivial
        case hp => exact PassesOwn.never
        case hc => rfl
        case hd =>
          rintro Γ' ⟨n, l, m, wk⟩
          exact ⟨n, l, m, wk.trans (by wtm_at "wk")⟩
        case hs =>
          rintro i ⟨k, q⟩ Γ' hx ⟨n, l, m, wk⟩
          have hq : 0 < q ∧ q < 2 ^ 31 ∧ k < 5 := by
            have hm := List.mem_of_getElem? hx
            have : ∀ x ∈ (List.range primes.length).zip primes, 0 < x.2 ∧ x.2 < 2 ^ 31 ∧ x.1 < 5 := by decide
            exact this _ hm
          refine ⟨_, _, _, wk, bg_tup (bgs_cons (bg_name 4 nd rfl (.inl rfl)) (bgs_cons (bg_name 5 nd rfl (.inl rfl)) bgs_nil)) rfl, ?_⟩
          wtm_at "set6"
          · exact .inr ⟨by show -(2 ^ 64) < (k : Int); omega, by show (k : Int) < 2 ^ 64; omega⟩
          · exact .inr ⟨by show -(2 ^ 64) < 48271 + 2 * (k : Int); omega, by show 48271 + 2 * (k : Int) < 2 ^ 64; omega⟩
          · exact hq.1
          wtm_at "ownone"
          · exact .inr ⟨by show -(2 ^ 64) < q; omega, by show q < 2 ^ 64; omega⟩
          · refine ⟨by decide, by decide, ?_⟩
            have h1 := Int.emod_nonneg ((seed + 10007 * (k : Int) * (k : Int) + 101 * (k : Int)) * (48271 + 2 * (k : Int))) (show q ≠ 0 by omega)
            have h2 := Int.emod_lt_of_pos ((seed + 10007 * (k : Int) * (k : Int) + 101 * (k : Int)) * (48271 + 2 * (k : Int))) hq.1
            show (((seed + 10007 * (k : Int) * (k : Int) + 101 * (k : Int)) * (48271 + 2 * (k : Int))) % q).natAbs < 2 ^ 64
            generalize ((seed + 10007 * (k : Int) * (k : Int) + 101 * (k : Int)) * (48271 + 2 * (k : Int))) % q = z at h1 h2 ⊢
            omega
          · exact hq.1
          · exact ⟨_, _, _, by wtm_at "wk"⟩
end
section
variable {P : Program} {w : World} {K : PySem.W.Frag} {mg : Str → Option Value} {base : Heap}
def spTake (K : PySem.W.Frag) : Sp := FM (fun i : Addr × Int => 0 < i.2 ∧ i.2 < 2 ^ 30) (fun i => ownSt K i.1) (fun i => [dI K i.2]) (fun i (d : Int) => 0 ≤ d ∧ d < i.2) (fun _ d => dI K d) (fun i => ownSt K i.1)
theorem ok_take {f : Addr} {fd : FuncData} (F : Fun K "_law_take" "_law_take" s_law_take f fd) (mI : mg "int" = none) (Dfill : Df P w K mg base "_law_fill" ["_law_state"] [] 1 (spFill K)) : FnOk P w K mg base CX0 2 f fd ["_law_state", "_law_many"] (spTake K) := by
  refine Fun.okW F sc_law_take (fun _ => rfl) (fun i => ⟨.ref i.1, ownSt_v, ownSt_v⟩) fun cdv B outer s H E ⟨p, many⟩ hr φ => ?_
  have φ' : 0 < many ∧ many < 2 ^ 30 := φ
  have nd := sc_law_take.nd
  apply bss_open 0 rfl
  rintro ⟨cells, nth, left, mixed⟩ hc
  have hc' : cells.length ≤ 63 := hc
  refine' bss_wk (Γ' := stG K p cells nth left mixed [.fz (dI K many), .un, .un]) ?_ ?w
  case w => wtm_at "wk"
  wtm_at "set2"
  apply bss_cons (M := fun Γ' => ∃ (cells : List Int) (n l : Int) (m : Bool), cells.length ≤ 63 ∧ Wk Γ' (stG K p cells n l m [.fz (dI K many), .un, .un]))
  case h1 =>
    apply bs_whileD (inv := fun n Γ' => ∃ (cells : List Int) (nt l : Int) (m : Bool) (laps : Int), cells.length ≤ 63 ∧ 0 ≤ laps ∧ n = (64 - laps).toNat ∧ Wk Γ' (stG K p cells nt l m [.fz (dI K many), .fz (dI K laps), .un])) (n := 64)
    case hp => exact PassesOwn.never
    case h0 => exact ⟨_, _, _, _, 0, hc', by decide, rfl, by wtm_at "wk"⟩
    case hs =>
      rintro n Γ' ⟨cells, nt, l, m, laps, hcl, h0, hn, wk⟩
      apply wt wk
      case hc => repeat' wtm_at "bs"
      case hf =>
        intro hk
        exact ⟨_, _, _, _, hcl, by wtm_at "wk"⟩
      case ht =>
        intro hk
        have hlt : laps < 64 := of_decide_eq_true (Bool.and_eq_true_iff.mp hk).1
        apply bss_go
        apply bs_expr
        case he =>
          wtm_at "callM"
          case j => exact 0
          case i => exact (p, (⟨cells, nt, l, m⟩ : Sta))
          case D => exact Dfill
          case hΓ => rfl
          case ha => exact ba_nil
          case hΓ1 => rfl
          case φ => exact hcl
          case hN => rfl
          case hv => exact Or.inl rfl
        case hs => rfl
        apply bss_open 0 rfl
        rintro ⟨cells, nt, l, m⟩ hcl
        have hcl' : cells.length ≤ 63 := hcl
        wtm_at "augset2"
        apply bss_one
        apply bs_if
        case hc => repeat' wtm_at "bs"
        case hb =>
          intro hk
          apply bss_nil
          exact ⟨_, by omega, _, _, _, _, laps + 1, hcl', by omega, rfl, by wtm_at "wk"⟩
        case ha =>
          intro hk
          wtm_at "ownone"
          · exact .inl ⟨by omega, by omega⟩
          · exact ⟨_, by omega, _, _, _, _, laps + 1, hcl', by omega, rfl, by wtm_at "wk"⟩
  case h2 =>
    rintro Γ' ⟨cells, n, l, m, hcl, wk⟩
    refine bss_wk ?_ wk
    have hm : 0 < many := φ'.1
    wtm_at "set3"
    wtm_at "ownset"
    · exact φ'
    refine' bss_wk (Γ' := [.own (ownSt K p), .fz (dI K many), .un, .fz (dI K (l % many))]) ?_ ?w
    case w => exact .cons (.leO (ownSt_of hcl)) (by wtm_at "wk")
    wtm_at "ret"
    exact ⟨_, ⟨Int.emod_nonneg _ (by omega), Int.emod_lt_of_pos _ φ'.1⟩, nofun, RV.gives_fz _ (SV.le_refl _), ends_rfl rfl⟩
end
section
variable {P : Program} {w : World} {K : PySem.W.Frag} {mg : Str → Option Value} {base : Heap}
def spOne (K : PySem.W.Frag) : Sp := FM (fun i : Addr × List PyData => 0 < i.2.length ∧ i.2.length < 2 ^ 30) (fun i => ownSt K i.1) (fun i => [dL K i.2]) (fun i (d : PyData) => d ∈ i.2) (fun _ d => IsD K d) (fun i => ownSt K i.1)
theorem ok_one {f : Addr} {fd : FuncData} (F : Fun K "_law_one" "_law_one" s_law_one f fd) (mL : mg "len" = none) (Dtake : Df P w K mg base "_law_take" ["_law_state", "_law_many"] [] 2 (spTake K)) : FnOk P w K mg base CX0 3 f fd ["_law_state", "_law_things"] (spOne K) := by
  refine Fun.okW F sc_law_one (fun _ => rfl) (fun i => ⟨.ref i.1, ownSt_v, ownSt_v⟩) fun cdv B outer s H E ⟨p, ds⟩ hr φ => ?_
  have φ' : 0 < ds.length ∧ ds.length < 2 ^ 30 := φ
  have nd := sc_law_one.nd
  apply bss_one
  apply bs_retX
  case he =>
    apply be_ixLx
    case ha => exact be_var 1 rfl rfl (Or.inl rfl)
    case hb =>
      wtm_at "callM"
      case j => exact 0
      case i => exact (p, (ds.length : Int))
      case D => exact Dtake
      case hΓ => rfl
      case ha => repeat' wtm_at "bs"
      case hΓ1 => rfl
      case φ => exact ⟨Int.ofNat_lt.mpr φ'.1, Int.ofNat_lt.mpr φ'.2⟩
      case hN => rfl
      case hv => exact Or.inl rfl
    case h => exact SV.le_refl _
    case hs => exact fun _ _ => rfl
  exact fun d hd => ⟨d, hd, nofun, RV.gives_fz _ (SV.le_refl _), ends_rfl rfl⟩
end
section
variable {P : Program} {w : World} {K : PySem.W.Frag} {mg : Str → Option Value} {base : Heap}
def small : Str := "abcdefghijklmnopqrstuvwxyz"
def capital : Str := "ABCDEFGHIJKLMNOPQRSTUVWXYZ"
def digits : Str := "0123456789"
def manners : List Str := ["any", "matched", "turned"]
def isDig (c : Nat) : Bool := decide (c ∈ digits.cps.toList)
def isSm (c : Nat) : Bool := decide (c ∈ small.cps.toList)
def isCap (c : Nat) : Bool := decide (c ∈ capital.cps.toList)
def sgn (c : Nat) : Str := ⟨#[c]⟩
theorem tl_len (s : Str) : s.cps.toList.length = s.length := by simp [Str.length]
def rising (s : Str) : Bool := (s.cps.toList.zip s.cps.toList.tail).all fun x => decide ((sgn x.1).cps.toList < (sgn x.2).cps.toList)
/-- what is read so far: the steps, the marks behind all steps but the last, the last mark -/
structure Rd where
  f : List Nat
  i : List Str
  l : Str
def stepF (r : Rd) (c : Nat) : Option Rd := if isDig c then some ⟨r.f, r.i, r.l ++ sgn c⟩ else if isSm c || isCap c then some ⟨r.f ++ [c], r.i ++ [r.l], ""⟩ else none
def rd0 : Rd := ⟨[], [], ""⟩
def runF (s : List Nat) : Option Rd := s.foldlM stepF rd0
def Rd.sg (r : Rd) : List Str := r.i ++ [r.l]
def Rd.ok (r : Rd) : Bool := !(r.f.isEmpty || !(r.sg.all rising)) && !(r.f.any isCap && r.sg.any fun m => !decide (m = ""))
def parsedF (s : Str) : Option Rd := if s = "" then none else match runF s.cps.toList with | none => none | some r => if r.ok then some r else none
def Rd.d (r : Rd) : PyData := .tuple [.list (r.f.map fun c => .str (sgn c)), .list (r.sg.map .str)]
def parsedD (s : Str) : PyData := match parsedF s with | none => .none | some r => r.d
def pathB (m s : Str) : Bool := match parsedF s with | none => false | some r => if m = "any" then r.f.all isSm else r.sg.all fun x => decide (x = "")
theorem runF_snoc (p : List Nat) (c : Nat) : runF (p ++ [c]) = (runF p).bind fun r => stepF r c := by
  unfold runF
  rw [List.foldlM_append]
  cases h : List.foldlM stepF rd0 p with
  | none => rfl
  | some r => simp [List.foldlM]
theorem runF_none {p r : List Nat} (h : runF p = none) : runF (p ++ r) = none := by
  unfold runF at h ⊢
  rw [List.foldlM_append, h]
  rfl
/-- the lengths of what is read -/
theorem runF_len : ∀ (n : Nat) (p : List Nat) (r : Rd), p.length = n → runF p = some r → r.f.length ≤ n ∧ r.i.length ≤ n ∧ ∀ m ∈ r.sg, m.length ≤ n
  | 0, p, r, h, e => by
    have : p = [] := List.eq_nil_of_length_eq_zero h
    subst this
    cases e
    refine ⟨Nat.le_refl _, Nat.le_refl _, fun m hm => ?_⟩
    have : m = "" := by simpa [Rd.sg, rd0] using hm
    subst this
    exact Nat.le_refl _
  | n + 1, p, r, h, e => by
    have hp : p ≠ [] := by intro z; rw [z] at h; cases h
    rw [← List.dropLast_concat_getLast hp, runF_snoc] at e
    cases e2 : runF p.dropLast with
    | none => rw [e2] at e; cases e
    | some q =>
      rw [e2, Option.bind_some] at e
      obtain ⟨h1, h2, h3⟩ := runF_len n p.dropLast q (by rw [List.length_dropLast, h]; rfl) e2
      unfold stepF at e
      have hl : ∀ a b : Str, (a ++ b).length = a.length + b.length := fun a b => by
        show (a.cps ++ b.cps).size = _
        rw [Array.size_append]
        rfl
      have hlast := h3 q.l (List.mem_append_right _ List.mem_cons_self)
      split at e
      · cases e
        refine ⟨Nat.le_succ_of_le h1, Nat.le_succ_of_le h2, fun m hm => ?_⟩
        rcases List.mem_append.mp hm with z | z
        · exact Nat.le_succ_of_le (h3 m (List.mem_append_left _ z))
        · have : m = q.l ++ sgn (p.getLast hp) := by simpa using z
          rw [this, hl]
          exact Nat.add_le_add_right hlast 1
      · split at e
        · cases e
          refine ⟨by simpa using h1, by simpa using h2, fun m hm => ?_⟩
          rcases List.mem_append.mp hm with z | z
          · exact Nat.le_succ_of_le (h3 m z)
          · have : m = "" := by simpa using z
            subst this
            exact Nat.zero_le _
        · cases e
theorem runF_let : ∀ (p : List Nat) (r : Rd), runF p = some r → ∀ c ∈ r.f, (isSm c || isCap c) = true := by
  have go : ∀ (n : Nat) (p : List Nat) (r : Rd), p.length = n → runF p = some r → ∀ c ∈ r.f, (isSm c || isCap c) = true := by
    intro n
    induction n with
    | zero =>
      intro p r h e c hc
      have : p = [] := List.eq_nil_of_length_eq_zero h
      subst this
      cases e
      simp [rd0] at hc
    | succ n ih =>
      intro p r h e
      have hp : p ≠ [] := by intro z; rw [z] at h; cases h
      rw [← List.dropLast_concat_getLast hp, runF_snoc] at e
      cases e2 : runF p.dropLast with
      | none => rw [e2] at e; cases e
      | some q =>
        rw [e2, Option.bind_some] at e
        have hq := ih p.dropLast q (by rw [List.length_dropLast, h]; rfl) e2
        unfold stepF at e
        split at e
        · cases e
          exact hq
        · split at e
          · rename_i h2
            cases e
            intro c hc
            rcases List.mem_append.mp hc with z | z
            · exact hq c z
            · have : c = p.getLast hp := by simpa using z
              rw [this]
              exact h2
          · cases e
  exact fun p r => go _ p r rfl
theorem sgn_ok {c : Nat} (h : (isSm c || isCap c) = true) : PyData.strOk (sgn c) = true := by
  have all : ∀ c ∈ small.cps.toList ++ capital.cps.toList, PyData.strOk (sgn c) = true := by decide +kernel
  refine all c (List.mem_append.mpr ?_)
  rcases Bool.or_eq_true_iff.mp h with z | z
  · exact .inl (of_decide_eq_true z)
  · exact .inr (of_decide_eq_true z)
def spRising (K : PySem.W.Frag) : Sp := FS (fun s : Str => s.length ≤ 1000) (fun s => [dS K s]) (fun s => dB K (rising s))
theorem ok_is_rising {f : Addr} {fd : FuncData} (F : Fun K "is_rising" "is_rising" s_is_rising f fd) (m1 : mg "all" = none) (m2 : mg "zip" = none) : FnOk P w K mg base CX0 1 f fd ["text"] (spRising K) := by
  refine Fun.okB F sc_is_rising (fun _ => rfl) fun cdv B outer s H E i hr φ => ?_
  apply bss_one
  apply bs_ret (P := dB K (rising i))
  case h => exact SV.le_refl _
  unfold rising
  have e : i.cps.toList.tail = (cutS i (some 1) none).cps.toList := by
    rw [cutS_cut, show (1 : Int) = ((1 : Nat) : Int) from rfl, cutL_from, List.drop_one]
  rw [e]
  apply be_allC
  case hg => rfl
  case hm => exact m1
  case hc => rfl
  case h =>
    apply bn_lcM (own := [("one", 1), ("other", 2)])
    case hI =>
      apply BI.w
      apply bi_zipS
      case hg => rfl
      case hm => exact m2
      case h =>
        repeat' wtm_at "bs"
        exact Nat.le_trans φ (by decide)
      all_goals rfl
    case hW => trivial
    case hg =>
      intro s H C cl fp x m
      exact bg_tup (bgs_cons (bg_name 1 sc_is_rising.nd rfl (.inl rfl)) (bgs_cons (bg_name 2 sc_is_rising.nd rfl (.inl rfl)) bgs_nil)) rfl
    case he =>
      intro s H C cl fp x m
      repeat' wtm_at "bs"
    case hz =>
      rw [List.length_zip, tl_len]
      exact Nat.le_trans (Nat.min_le_left _ _) (Nat.le_trans φ (by decide))
    case hc => rfl
    case hN => exact sc_is_rising.nd
    case ok => exact blkOk_by (N := n_is_rising) (sc := defScope s_is_rising) (by decide +kernel)
    case hno => rfl
    case hts' => rfl
    all_goals exact fun _ => rfl
  all_goals rfl
/-- the written texts and the tuple of the manners -/
structure Wr (K : PySem.W.Frag) (mg : Str → Option Value) : Prop where
  sm : ∃ t, mg "SMALL" = some (.str small t)
  cp : ∃ t, mg "CAPITAL" = some (.str capital t)
  dg : ∃ t, mg "DIGITS" = some (.str digits t)
  mn : ∃ a, mg "MANNERS" = some (.ref a) ∧ ∀ Z, SqT K Z a (manners.map V.str)
theorem be_manners {X : Cx} {Γ : List Sl} {pos : Pos} (hK : X.K = K) (hm : X.mg = mg) (W : Wr K mg) (hg : Gl X "MANNERS") : BE X Γ (.Name "MANNERS" pos) (dU K (manners.map .str)) Γ := by
  obtain ⟨a, hM, hS⟩ := W.mn
  subst hK hm
  exact be_glob (v := .ref a) hg hM rfl fun Z => .tup (hS Z) (rpA_strs _)
theorem be_digits {X : Cx} {Γ : List Sl} {pos : Pos} (hm : X.mg = mg) (W : Wr K mg) (hg : Gl X "DIGITS") : BE X Γ (.Name "DIGITS" pos) (dS X.K digits) Γ := by
  obtain ⟨t, h⟩ := W.dg
  subst hm
  exact be_glob (v := .str digits) hg h ⟨t, rfl⟩ fun _ => .str _
theorem be_small {X : Cx} {Γ : List Sl} {pos : Pos} (hm : X.mg = mg) (W : Wr K mg) (hg : Gl X "SMALL") : BE X Γ (.Name "SMALL" pos) (dS X.K small) Γ := by
  obtain ⟨t, h⟩ := W.sm
  subst hm
  exact be_glob (v := .str small) hg h ⟨t, rfl⟩ fun _ => .str _
theorem be_capital {X : Cx} {Γ : List Sl} {pos : Pos} (hm : X.mg = mg) (W : Wr K mg) (hg : Gl X "CAPITAL") : BE X Γ (.Name "CAPITAL" pos) (dS X.K capital) Γ := by
  obtain ⟨t, h⟩ := W.cp
  subst hm
  exact be_glob (v := .str capital) hg h ⟨t, rfl⟩ fun _ => .str _
end
local macro_rules | `(tactic| wtm_at "bglo") => `(tactic| first | ((with_reducible show BE _ _ (.Name "MANNERS" _) _ _); exact be_manners rfl rfl (by assumption) rfl) | ((with_reducible show BE _ _ (.Name "DIGITS" _) _ _); exact be_digits rfl (by assumption) rfl) | ((with_reducible show BE _ _ (.Name "SMALL" _) _ _); exact be_small rfl (by assumption) rfl) | ((with_reducible show BE _ _ (.Name "CAPITAL" _) _ _); exact be_capital rfl (by assumption) rfl))
section
variable {P : Program} {w : World} {K : PySem.W.Frag} {mg : Str → Option Value} {base : Heap}
def spManner (K : PySem.W.Frag) : Sp := FS (fun s : Str => s ∈ manners) (fun s => [dS K s]) (fun _ => dB K true)
theorem ok_is_manner {f : Addr} {fd : FuncData} (F : Fun K "is_manner" "is_manner" s_is_manner f fd) (W : Wr K mg) (m1 : mg "isinstance" = none) (m2 : mg "str" = none) : FnOk P w K mg base CX0 1 f fd ["thing"] (spManner K) := by
  refine Fun.okB F sc_is_manner (fun _ => rfl) fun cdv B outer s H E i hr φ => ?_
  wtm_at "ret"
  have φ' : i ∈ manners := φ
  refine dB_le ?_
  have h : i = "any" ∨ i = "matched" ∨ i = "turned" := by simpa [manners] using φ'
  rcases h with rfl | rfl | rfl <;> rfl
def spParsed (K : PySem.W.Frag) : Sp := FS (fun s : Str => s.length ≤ 1000) (fun s => [dS K s]) (fun s => IsD K (parsedD s))
theorem ok_parsed {f : Addr} {fd : FuncData} (F : Fun K "parsed" "parsed" s_parsed f fd) (W : Wr K mg) (m1 : mg "isinstance" = none) (m2 : mg "str" = none) (m3 : mg "all" = none) (m4 : mg "any" = none) (Dr : Df P w K mg base "is_rising" ["text"] [] 1 (spRising K)) : FnOk P w K mg base CX0 2 f fd ["path"] (spParsed K) := by
  refine Fun.okB F sc_parsed (fun _ => rfl) fun cdv B outer s H E x hr φ => ?_
  have φ' : x.length ≤ 1000 := φ
  have nd := sc_parsed.nd
  -- not a text, empty
  apply bss_go
  apply bs_if
  case hc => repeat' wtm_at "bs"
  case ha =>
    intro hk
    have hx : x = "" := by simpa [isTy, tyD] using hk
    wtm_at "ret"
    subst hx
    exact SV.le_refl _
  case hb =>
    intro hk
    have hx0 : ¬ x = "" := by simpa [isTy, tyD] using hk
    apply bss_nil
    -- found, signs
    apply bss_go
    apply bs_parO 1 2
    case ha => exact bo_of_bn (bn_lstD bad_nil (Nat.zero_le _))
    case hb =>
      apply bo_of_bn
      apply bn_lstD
      · repeat' wtm_at "bs"
      · exact Nat.le_of_ble_eq_true rfl
    wtm_at "par"
    rintro ⟨q1, _⟩ ⟨q2, _⟩ rfl rfl
    -- for sign in path
    apply bss_go
    apply bs_for (inv := fun i Γ' => ∃ r, runF (x.cps.toList.take i) = some r ∧ Wk Γ' [.fz (dS K x), .own (ownL K q1 (r.f.map fun c => .str (sgn c))), .own (ownL K q2 (r.sg.map .str)), .un, .un, .un, .un])
    case hI =>
      apply BI.w
      apply bi_str
      repeat' wtm_at "bs"
    case h0 => exact ⟨rd0, rfl, by wtm_at "wk"⟩
    case hW => exact fun _ _ _ => trivial
    case hp => exact PassesOwn.never
    case hc => rfl
    case hs =>
      rintro i c Γ' hx ⟨r, hr, wk⟩
      have ht : x.cps.toList.take (i + 1) = x.cps.toList.take i ++ [c] := by rw [List.take_add_one, hx] <;> rfl
      have hrun : runF (x.cps.toList.take (i + 1)) = stepF r c := by rw [ht, runF_snoc, hr, Option.bind_some]
      refine ⟨_, _, _, wk, bg_name 3 nd rfl (.inl rfl), ?_⟩
      apply bss_one
      apply bs_if
      case hc => repeat' wtm_at "bs"
      case ha =>
        intro hk
        apply bss_one
        have hd : isDig c = true := hk
        have hlen : r.sg.length = r.i.length + 1 := by simp [Rd.sg]
        have hlt : i < x.cps.toList.length := (List.getElem?_eq_some_iff.mp hx).1
        rw [tl_len] at hlt
        obtain ⟨l1, l2, l3⟩ := runF_len i _ r (by rw [List.length_take, tl_len]; omega) hr
        have hll := l3 r.l (List.mem_append_right _ List.mem_cons_self)
        apply bs_augIxO 2 (q := q2) (O := ownL K q2 (r.sg.map .str)) (k := r.i.length) (d := .str r.l) (d' := .str (r.l ++ sgn c)) (i := -1) (O' := ownL K q2 ((r.i ++ [r.l ++ sgn c]).map .str))
        case ho => exact br_own 2 rfl ownL_v rfl (by wtm_at "bv")
        case hb => repeat' wtm_at "bs"
        case he => repeat' wtm_at "bs"
        case hΓ => rfl
        case hΓ1 => rfl
        case hO => exact ownL_at
        case hk =>
          rw [List.length_map, hlen]
          unfold ixN
          rw [if_neg (by decide), if_pos (by omega)]
          congr 1
          omega
        case hd => simp [Rd.sg]
        case hop =>
          refine iob_addS ?_
          show r.l.length + 1 ≤ sizeLine
          have h2 : (1001 : Nat) ≤ sizeLine := by decide
          omega
        case hO' =>
          have e : (r.sg.map PyData.str).set r.i.length (.str (r.l ++ sgn c)) = (r.i ++ [r.l ++ sgn c]).map PyData.str := by
            have e0 : r.i.length = (r.i.map PyData.str).length := (List.length_map _).symm
            show ((r.i ++ [r.l]).map PyData.str).set r.i.length _ = _
            rw [List.map_append, List.map_append, e0, List.set_append_right _ _ (Nat.le_refl _), Nat.sub_self]
            rfl
          rw [e]
          exact ownL_to
        case h => exact ⟨⟨r.f, r.i, r.l ++ sgn c⟩, by rw [hrun]; unfold stepF; rw [if_pos hd], by wtm_at "wk"⟩
        all_goals exact fun _ _ _ => rfl
      case hb =>
        intro hk
        apply bss_one
        apply bs_if
        case hc => repeat' wtm_at "bs"
        case ha =>
          intro hk2
          have hd : ¬ isDig c = true := Bool.eq_false_iff.mp hk
          have hd2 : (isSm c || isCap c) = true := hk2
          have hlt : i < x.cps.toList.length := (List.getElem?_eq_some_iff.mp hx).1
          rw [tl_len] at hlt
          obtain ⟨l1, l2, l3⟩ := runF_len i _ r (by rw [List.length_take, tl_len]; omega) hr
          have h2 : (1001 : Nat) ≤ sizeLine := by decide
          apply bss_go
          apply bs_appendO 1 (q := q1) (O := ownL K q1 (r.f.map fun c => .str (sgn c))) (O' := ownL K q1 ((r.f ++ [c]).map fun c => .str (sgn c))) (d := .str (sgn c))
          case ho => exact br_own 1 rfl ownL_v rfl (by wtm_at "bv")
          case hΓ => rfl
          case he => repeat' wtm_at "bs"
          case hΓ1 => rfl
          case hO => exact ownL_at
          case hO' => rw [List.map_append]; exact ownL_to
          case hl => rw [List.length_map]; omega
          case h =>
            apply bss_one
            apply bs_appendO 2 (q := q2) (O := ownL K q2 (r.sg.map .str)) (O' := ownL K q2 ((r.sg ++ [("" : Str)]).map .str)) (d := .str "")
            case ho => exact br_own 2 rfl ownL_v rfl (by wtm_at "bv")
            case hΓ => rfl
            case he => repeat' wtm_at "bs"
            case hΓ1 => rfl
            case hO => exact ownL_at
            case hO' => rw [List.map_append]; exact ownL_to
            case hl => rw [List.length_map]; simp only [Rd.sg, List.length_append, List.length_singleton]; omega
            case h => exact ⟨⟨r.f ++ [c], r.i ++ [r.l], ""⟩, by rw [hrun]; unfold stepF; rw [if_neg hd, if_pos hd2], by wtm_at "wk"⟩
            all_goals rfl
          all_goals rfl
        case hb =>
          intro hk2
          have hd : ¬ isDig c = true := Bool.eq_false_iff.mp hk
          have hd2 : ¬ (isSm c || isCap c) = true := Bool.eq_false_iff.mp hk2
          have hno : runF x.cps.toList = none := by
            rw [← List.take_append_drop (i + 1) x.cps.toList]
            refine runF_none ?_
            rw [hrun]
            unfold stepF
            rw [if_neg hd, if_neg hd2]
          wtm_at "ret"
          have e : parsedD x = .none := by
            unfold parsedD parsedF
            rw [if_neg hx0, hno]
          show (dN K).le (IsD K (parsedD x))
          rw [e]
          exact SV.le_refl _
    case hd =>
      rintro Γ' ⟨r, hr, wk⟩
      rw [List.take_length] at hr
      refine bss_wk ?_ wk
      apply bss_freeze 1 rfl
      apply bss_freeze 2 rfl
      obtain ⟨l1, l2, l3⟩ := runF_len _ _ r rfl hr
      rw [tl_len] at l1 l2 l3
      have sF : SeqAt.shaped (.list (r.f.map fun c => PyData.str (sgn c))) = true := by
        have := okd_strs (r.f.map sgn) (by rw [List.length_map]; omega) fun s hs => by
          obtain ⟨c, hc, rfl⟩ := List.mem_map.mp hs
          exact sgn_ok (runF_let _ _ hr c hc)
        rw [List.map_map] at this
        exact this.shaped (by decide)
      have hok : r.ok = true → parsedD x = r.d := fun h => by
        unfold parsedD parsedF
        rw [if_neg hx0, hr]
        show (match (if r.ok = true then some r else none) with | none => PyData.none | some r => r.d) = _
        rw [if_pos h]
      have hno : r.ok = false → parsedD x = .none := fun h => by
        unfold parsedD parsedF
        rw [if_neg hx0, hr]
        show (match (if r.ok = true then some r else none) with | none => PyData.none | some r => r.d) = _
        rw [h]
        rfl
      have hll : r.sg.length ≤ 1001 := by simp only [Rd.sg, List.length_append, List.length_singleton]; omega
      apply bss_go
      apply bs_if
      case hc =>
        apply bt_of_bw
        apply bw_or
        case ha => repeat' wtm_at "bs"
        case hb =>
          intro _
          apply bw_or1
          apply bt_notD
          apply bt_val
          case h =>
            apply be_allC (k := rising) (xs := r.sg)
            case hg => rfl
            case hm => exact m3
            case hc => rfl
            case h =>
              apply bn_lcM (own := [("mark", 4)])
              case hI =>
                apply BI.w
                apply bi_list (g := .str)
                case h => repeat' wtm_at "bs"
                rfl
              case hg =>
                intro s H C cl fp m hm
                exact bg_name 4 nd rfl (.inl rfl)
              case he =>
                intro s H C cl fp m hm
                apply be_callR
                case i => exact m
                case D => exact Dr
                case hr => assumption
                case hg => rfl
                case ha => repeat' wtm_at "bs"
                case φ => exact Nat.le_trans (l3 m hm) φ'
                case hR => exact SV.le_refl _
                all_goals first | rfl | decide
              case hz => exact Nat.le_trans hll (by decide)
              case ok => exact blkOk_by (N := n_parsed) (sc := defScope s_parsed) (by decide +kernel)
              wtm_at "lc"
            all_goals rfl
          all_goals exact fun _ => rfl
      case ha =>
        intro hk
        wtm_at "ret"
        show (dN K).le (IsD K (parsedD x))
        rw [hno ?_]
        · exact SV.le_refl _
        · rw [eqv_nil] at hk
          unfold Rd.ok
          have : (r.f.isEmpty || !(r.sg.all rising)) = true := by simpa using hk
          rw [this]
          rfl
      case hb =>
        intro hk
        have hk' : (r.f.isEmpty || !(r.sg.all rising)) = false := by
          rw [eqv_nil] at hk
          simpa using hk
        apply bss_nil
        apply bss_go
        apply bs_set 5
        case he =>
          apply be_anyC (k := isCap) (xs := r.f)
          case hg => rfl
          case hm => exact m4
          case hc => rfl
          case h =>
            apply bn_lcM (own := [("step", 6)])
            case hI =>
              apply BI.w
              apply bi_list (g := fun c => .str (sgn c))
              case h => repeat' wtm_at "bs"
              rfl
            case hg =>
              intro s H C cl fp m hm
              exact bg_name 6 nd rfl (.inl rfl)
            case he =>
              intro s H C cl fp m hm
              repeat' wtm_at "bs"
            case hz => exact Nat.le_trans (Nat.le_trans l1 φ') (by decide)
            case ok => exact blkOk_by (N := n_parsed) (sc := defScope s_parsed) (by decide +kernel)
            wtm_at "lc"
          all_goals rfl
        case hN => exact nd
        case hi => rfl
        case hx => exact .inl rfl
        case h =>
          apply bss_one
          apply bs_ret (P := IsD K (parsedD x))
          case h => exact SV.le_refl _
          case he =>
            apply be_if
            case ht =>
              apply bt_of_bw
              apply bw_and
              case ha => repeat' wtm_at "bs"
              case hb =>
                intro _
                apply bw_and1
                apply bt_val
                case h =>
                  apply be_anyC (k := fun m => !decide (m = "")) (xs := r.sg)
                  case hg => rfl
                  case hm => exact m4
                  case hc => rfl
                  case h =>
                    apply bn_lcM (own := [("mark", 4)])
                    case hI =>
                      apply BI.w
                      apply bi_list (g := .str)
                      case h => repeat' wtm_at "bs"
                      rfl
                    case hg =>
                      intro s H C cl fp m hm
                      exact bg_name 4 nd rfl (.inl rfl)
                    case he =>
                      intro s H C cl fp m hm
                      repeat' wtm_at "bs"
                    case hz => exact Nat.le_trans hll (by decide)
                    case ok => exact blkOk_by (N := n_parsed) (sc := defScope s_parsed) (by decide +kernel)
                    wtm_at "lc"
                  all_goals rfl
                all_goals exact fun _ => rfl
            case ha =>
              intro hk2
              rw [hno ?_]
              · exact be_non
              · unfold Rd.ok
                rw [hk', hk2]
                rfl
            case hb =>
              intro hk2
              rw [hok ?_]
              · apply be_tupD
                case hl => exact Nat.le_of_ble_eq_true rfl
                case h => repeat' wtm_at "bs"
              · unfold Rd.ok
                rw [hk', hk2]
                rfl
        all_goals trace_state
end
section
variable {P : Program} {w : World} {K : PySem.W.Frag} {mg : Str → Option Value} {base : Heap}
def spPath (K : PySem.W.Frag) : Sp := FS (fun i : Str × Str => i.1 ∈ manners ∧ i.2.length ≤ 1000) (fun i => [dS K i.1, dS K i.2]) (fun i => dB K (pathB i.1 i.2))
theorem ok_is_path {f : Addr} {fd : FuncData} (F : Fun K "is_path" "is_path" s_is_path f fd) (W : Wr K mg) (m3 : mg "all" = none) (Dm : Df P w K mg base "is_manner" ["thing"] [] 1 (spManner K)) (Dp : Df P w K mg base "parsed" ["path"] [] 2 (spParsed K)) : FnOk P w K mg base CX0 3 f fd ["manner", "thing"] (spPath K) := by
  refine Fun.okB F sc_is_path (fun _ => rfl) fun cdv B outer s H E ⟨m, x⟩ hr φ => ?_
  obtain ⟨φ1, φ2⟩ : m ∈ manners ∧ x.length ≤ 1000 := φ
  have nd := sc_is_path.nd
  apply bss_go
  apply bs_if
  case hc =>
    apply bt_notD
    apply bt_val (k := true)
    case h =>
      apply be_callR
      case i => exact m
      case D => exact Dm
      case hr => exact hr.mono (by decide)
      case hg => rfl
      case ha => repeat' wtm_at "bs"
      case φ => exact φ1
      case hR => exact SV.le_refl _
      all_goals first | rfl | decide
    all_goals exact fun _ => rfl
  case ha => intro hk; cases hk
  case hb =>
    intro _
    apply bss_nil
    apply bss_go
    apply bs_set 2 (P := IsD K (parsedD x))
    case he =>
      apply be_callR
      case i => exact x
      case D => exact Dp
      case hr => exact hr
      case hg => rfl
      case ha => repeat' wtm_at "bs"
      case φ => exact φ2
      case hR => exact SV.le_refl _
      all_goals first | rfl | decide
    case hN => exact nd
    case hi => rfl
    case hx => exact .inl rfl
    case h =>
      cases hp : parsedF x with
      | none =>
        have e : parsedD x = .none := by unfold parsedD; rw [hp]
        rw [e]
        apply bss_go
        apply bs_if
        case hc => repeat' wtm_at "bs"
        case hb => intro hk; cases hk
        case ha =>
          intro _
          wtm_at "ret"
          show (dB K false).le (dB K (pathB m x))
          unfold pathB
          rw [hp]
          exact SV.le_refl _
      | some r =>
        have e : parsedD x = .tuple [.list (r.f.map fun c => .str (sgn c)), .list (r.sg.map .str)] := by unfold parsedD; rw [hp]; rfl
        rw [e]
        have hr : runF x.cps.toList = some r := by
          unfold parsedF at hp
          split at hp
          · cases hp
          · split at hp
            · cases hp
            · rename_i q hq
              split at hp
              · cases hp
                exact hq
              · cases hp
        obtain ⟨l1, l2, l3⟩ := runF_len _ _ r rfl hr
        rw [tl_len] at l1 l2 l3
        have hll : r.sg.length ≤ 1001 := by simp only [Rd.sg, List.length_append, List.length_singleton]; omega
        apply bss_go
        apply bs_if
        case hc =>
          apply bt_cmp
          case ha => exact be_var 2 rfl rfl (by wtm_at "bv")
          case hb => exact be_non
          case ho => exact ob_isN
          all_goals exact nomark _ (by decide) (by decide)
        case ha => intro hk; cases hk
        case hb =>
          intro _
          apply bss_nil
          apply bss_go
          apply bs_if
          case hc => repeat' wtm_at "bs"
          case ha =>
            intro hk
            have hm : m = "any" := of_decide_eq_true hk
            apply bss_one
            apply bs_ret (P := dB K (r.f.all isSm))
            case h =>
              show (dB K (r.f.all isSm)).le (dB K (pathB m x))
              unfold pathB
              rw [hp, hm]
              exact SV.le_refl _
            case he =>
              apply be_allC (k := isSm) (xs := r.f)
              case hg => rfl
              case hm => exact m3
              case hc => rfl
              case h =>
                apply bn_lcM (own := [("step", 3)])
                case hI =>
                  apply BI.w
                  apply bi_list (g := fun c => .str (sgn c))
                  case h => repeat' wtm_at "bs"
                  rfl
                case hg =>
                  intro s H C cl fp m hm
                  exact bg_name 3 nd rfl (.inl rfl)
                case he =>
                  intro s H C cl fp m hm
                  repeat' wtm_at "bs"
                case hz => exact Nat.le_trans (Nat.le_trans l1 φ2) (by decide)
                case ok => exact blkOk_by (N := n_is_path) (sc := defScope s_is_path) (by decide +kernel)
                wtm_at "lc"
              all_goals rfl
          case hb =>
            intro hk
            have hm : ¬ m = "any" := of_decide_eq_false hk
            apply bss_nil
            apply bss_one
            apply bs_ret (P := dB K (r.sg.all fun x => decide (x = "")))
            case h =>
              show (dB K (r.sg.all fun x => decide (x = ""))).le (dB K (pathB m x))
              unfold pathB
              rw [hp]
              show (dB K (r.sg.all fun x => decide (x = ""))).le (dB K (if m = "any" then _ else _))
              rw [if_neg hm]
              exact SV.le_refl _
            case he =>
              apply be_allC (k := fun x => decide (x = "")) (xs := r.sg)
              case hg => rfl
              case hm => exact m3
              case hc => rfl
              case h =>
                apply bn_lcM (own := [("mark", 4)])
                case hI =>
                  apply BI.w
                  apply bi_list (g := .str)
                  case h => repeat' wtm_at "bs"
                  rfl
                case hg =>
                  intro s H C cl fp m hm
                  exact bg_name 4 nd rfl (.inl rfl)
                case he =>
                  intro s H C cl fp m hm
                  repeat' wtm_at "bs"
                case hz => exact Nat.le_trans hll (by decide)
                case ok => exact blkOk_by (N := n_is_path) (sc := defScope s_is_path) (by decide +kernel)
                wtm_at "lc"
              all_goals rfl
    all_goals rfl
end
local macro_rules | `(tactic| wtm_at "go_past") => `(tactic| (apply bss_go; apply bs_if; (case' hc => repeat' wtm_at "bs"); (case ha => (intro hk; exact absurd hk (by simp [isTy, tyD]))); (case' hb => (intro _; apply bss_nil))))
section
variable {P : Program} {w : World} {K : PySem.W.Frag} {mg : Str → Option Value} {base : Heap}
def spSame (K : PySem.W.Frag) (n : Nat) : Sp := FS (Okd n) (fun d => [IsD K d, IsD K d]) (fun _ => dB K true)
theorem be_le_of {X : Cx} {Γ Γ' : List Sl} {e : Expr} {k : Bool} (h : BE X Γ e (dB X.K k) Γ') (hk : k = true) : BE X Γ e (dB X.K true) Γ' := by rw [← hk]; exact h
theorem zip_self {α : Type} : ∀ {l : List α} {x : α × α}, x ∈ l.zip l → x.1 = x.2 ∧ x.1 ∈ l
  | _ :: t, x, h => by
    rw [List.zip_cons_cons] at h
    rcases List.mem_cons.mp h with e | e
    · subst e
      exact ⟨rfl, List.mem_cons_self⟩
    · obtain ⟨h1, h2⟩ := zip_self e
      exact ⟨h1, List.mem_cons_of_mem _ h2⟩
theorem ok_same {f : Addr} {fd : FuncData} (F : Fun K "_law_same" "_law_same" s_law_same f fd) (mS : mg "_law_same" = some (.ref f)) (kS : PySem.W.keepIn K (.ref f) = true) (bS : Binds K fd ["_law_found", "_law_due"] []) (m1 : mg "isinstance" = none) (m2 : mg "list" = none) (m3 : mg "tuple" = none) (m4 : mg "int" = none) (m5 : mg "bool" = none) (m6 : mg "len" = none) (m7 : mg "all" = none) (m8 : mg "zip" = none) :
    ∀ n, FnOk P w K mg base CX0 (n + 1) f fd ["_law_found", "_law_due"] (spSame K n) := by
  have scal : ∀ (n : Nat) (d : PyData) (cdv : Value) (B : Around) (outer : List Env) (s : Shared) (H : Hp) (E : XK), (match d with | .none => True | .bool _ => True | .int _ => True | .str _ => True | _ => False) → Room n (B.deeper (envOfC "_law_same" (defScope s_law_same) s.heap.objs.size f cdv)) →
      BSs (cxOf CX0 P w K mg base n_law_same "_law_same" (defScope s_law_same) f cdv B outer s H E).nox (G0 n_law_same ["_law_found", "_law_due"] [IsD K d, IsD K d]) (defBody s_law_same) { nx := fun _ => (dN K).le (dB K true), rt := fun P _ => P.le (dB K true) } := by
    intro n d cdv B outer s H E hd hr
    cases d with
    | none =>
      wtm_at "go_past"
      wtm_at "go_past"
      wtm_at "ret"
      exact dB_le (by rfl)
    | bool b =>
      wtm_at "go_past"
      apply bss_go
      apply bs_if
      case hc => repeat' wtm_at "bs"
      case hb => intro hk; exact absurd hk (by simp [isTy, tyD])
      case ha =>
        intro _
        wtm_at "ret"
        exact dB_le (by simp [isTy, tyD])
    | int i =>
      wtm_at "go_past"
      apply bss_go
      apply bs_if
      case hc => repeat' wtm_at "bs"
      case hb => intro hk; exact absurd hk (by simp [isTy, tyD])
      case ha =>
        intro _
        wtm_at "ret"
        exact dB_le (by simp [isTy, tyD])
    | str x =>
      wtm_at "go_past"
      wtm_at "go_past"
      wtm_at "ret"
      exact dB_le (by simp [isTy, tyD])
    | list _ => exact hd.elim
    | tuple _ => exact hd.elim
    | dict _ => exact hd.elim
  intro n
  induction n with
  | zero =>
    refine Fun.okB F sc_law_same (fun _ => rfl) fun cdv B outer s H E d hr φ => ?_
    cases φ with
    | non => exact scal _ _ cdv B outer s H E trivial hr
    | bl b => exact scal _ _ cdv B outer s H E trivial hr
    | int i => exact scal _ _ cdv B outer s H E trivial hr
    | str x _ => exact scal _ _ cdv B outer s H E trivial hr
  | succ n ih =>
    refine Fun.okB F sc_law_same (fun _ => rfl) fun cdv B outer s H E d hr φ => ?_
    cases φ with
    | non => exact scal _ _ cdv B outer s H E trivial hr
    | bl b => exact scal _ _ cdv B outer s H E trivial hr
    | int i => exact scal _ _ cdv B outer s H E trivial hr
    | str x _ => exact scal _ _ cdv B outer s H E trivial hr
    | @lst _ ds hl hd =>
      apply bss_go
      apply bs_if
      case hc => repeat' wtm_at "bs"
      case hb => intro hk; exact absurd hk (by simp [isTy, tyD])
      case ha =>
        intro _
        wtm_at "go_past"
        apply bss_one
        apply bs_ret
        case he =>
         apply be_and
         case ha => repeat' wtm_at "bs"
         case hb =>
          intro _
          apply be_one
          apply be_allC (k := fun _ => true) (xs := ds.zip ds)
          case hg => rfl
          case hm => exact m7
          case hc => rfl
          case h =>
            apply bn_lcM (own := [("_law_a", 2), ("_law_b", 3)])
            case hI =>
              apply BI.w
              apply bi_zip
              case hg => rfl
              case hm => exact m8
              case h => repeat' wtm_at "bs"
              all_goals rfl
            case hW => trivial
            case hg =>
              intro s H C cl fp x m
              exact bg_tup (bgs_cons (bg_name 2 sc_law_same.nd rfl (.inl rfl)) (bgs_cons (bg_name 3 sc_law_same.nd rfl (.inl rfl)) bgs_nil)) rfl
            case he =>
              rintro s H C cl fp ⟨a, b⟩ m
              obtain ⟨e, hm⟩ := zip_self m
              have e' : a = b := e
              subst e'
              apply be_callR
              case i => exact a
              case D => exact ⟨f, fd, [], mS, kS, bS, .nil, ih⟩
              case hr => exact hr
              case hg => rfl
              case ha => repeat' wtm_at "bs"
              case φ => exact hd _ hm
              case hR => exact SV.le_refl _
              all_goals first | rfl | decide
            case hz => rw [List.length_zip, Nat.min_self]; exact Nat.le_trans hl (by decide)
            case hc => rfl
            case hN => exact sc_law_same.nd
            case ok => exact blkOk_by (N := n_law_same) (sc := defScope s_law_same) (by decide +kernel)
            case hno => rfl
            case hts' => rfl
            all_goals exact fun _ => rfl
        exact dB_le (by simp)
    | @tup _ ds hl hd =>
      apply bss_go
      apply bs_if
      case hc => repeat' wtm_at "bs"
      case hb => intro hk; exact absurd hk (by simp [isTy, tyD])
      case ha =>
        intro _
        wtm_at "go_past"
        apply bss_one
        apply bs_ret
        case he =>
         apply be_and
         case ha => repeat' wtm_at "bs"
         case hb =>
          intro _
          apply be_one
          apply be_allC (k := fun _ => true) (xs := ds.zip ds)
          case hg => rfl
          case hm => exact m7
          case hc => rfl
          case h =>
            apply bn_lcM (own := [("_law_a", 2), ("_law_b", 3)])
            case hI =>
              apply BI.w
              apply bi_zipU
              case hg => rfl
              case hm => exact m8
              case h => repeat' wtm_at "bs"
              all_goals rfl
            case hW => trivial
            case hg =>
              intro s H C cl fp x m
              exact bg_tup (bgs_cons (bg_name 2 sc_law_same.nd rfl (.inl rfl)) (bgs_cons (bg_name 3 sc_law_same.nd rfl (.inl rfl)) bgs_nil)) rfl
            case he =>
              rintro s H C cl fp ⟨a, b⟩ m
              obtain ⟨e, hm⟩ := zip_self m
              have e' : a = b := e
              subst e'
              apply be_callR
              case i => exact a
              case D => exact ⟨f, fd, [], mS, kS, bS, .nil, ih⟩
              case hr => exact hr
              case hg => rfl
              case ha => repeat' wtm_at "bs"
              case φ => exact hd _ hm
              case hR => exact SV.le_refl _
              all_goals first | rfl | decide
            case hz => rw [List.length_zip, Nat.min_self]; exact Nat.le_trans hl (by decide)
            case hc => rfl
            case hN => exact sc_law_same.nd
            case ok => exact blkOk_by (N := n_law_same) (sc := defScope s_law_same) (by decide +kernel)
            case hno => rfl
            case hts' => rfl
            all_goals exact fun _ => rfl
        exact dB_le (by simp)
end
section
variable {P : Program} {w : World} {K : PySem.W.Frag} {mg : Str → Option Value} {base : Heap}
def spSpoilF (K : PySem.W.Frag) (n : Nat) : Sp := FS (Okt n) (fun d => [IsD K d]) (fun _ => dN K)
theorem ok_spoilF {f : Addr} {fd : FuncData} (F : Fun K "_law_spoil" "_law_spoil" s_law_spoil f fd) (mS : mg "_law_spoil" = some (.ref f)) (kS : PySem.W.keepIn K (.ref f) = true) (bS : Binds K fd ["_law_x"] []) (m1 : mg "isinstance" = none) (m2 : mg "list" = none) (m3 : mg "tuple" = none) :
    ∀ n, FnOk P w K mg base CX0 (n + 1) f fd ["_law_x"] (spSpoilF K n) := by
  have nd := sc_law_spoil.nd
  have scal : ∀ (n : Nat) (d : PyData) (cdv : Value) (B : Around) (outer : List Env) (s : Shared) (H : Hp) (E : XK), (match d with | .none => True | .bool _ => True | .int _ => True | .str _ => True | _ => False) → Room n (B.deeper (envOfC "_law_spoil" (defScope s_law_spoil) s.heap.objs.size f cdv)) →
      BSs (cxOf CX0 P w K mg base n_law_spoil "_law_spoil" (defScope s_law_spoil) f cdv B outer s H E).nox (G0 n_law_spoil ["_law_x"] [IsD K d]) (defBody s_law_spoil) { nx := fun _ => (dN K).le (dN K), rt := fun P _ => P.le (dN K) } := by
    intro n d cdv B outer s H E hd hr
    have go : isTy (tyD d) "list" = false ∧ isTy (tyD d) "tuple" = false := by
      cases d with
      | none => exact ⟨rfl, rfl⟩
      | bool b => exact ⟨rfl, rfl⟩
      | int i => exact ⟨rfl, rfl⟩
      | str x => exact ⟨rfl, rfl⟩
      | list _ => exact hd.elim
      | tuple _ => exact hd.elim
      | dict _ => exact hd.elim
    apply bss_go
    apply bs_if
    case hc => repeat' wtm_at "bs"
    case ha => intro hk; exact absurd hk (by simp [go.1, go.2])
    case hb =>
      intro _
      apply bss_nil
      apply bss_one
      apply bs_if
      case hc => repeat' wtm_at "bs"
      case ha => intro hk; exact absurd hk (by simp [go.1])
      case hb =>
        intro _
        apply bss_nil
        exact SV.le_refl _
  intro n
  induction n with
  | zero =>
    refine Fun.okB F sc_law_spoil (fun _ => rfl) fun cdv B outer s H E d hr φ => ?_
    cases φ with
    | non => exact scal _ _ cdv B outer s H E trivial hr
    | bl b => exact scal _ _ cdv B outer s H E trivial hr
    | int i => exact scal _ _ cdv B outer s H E trivial hr
    | str x => exact scal _ _ cdv B outer s H E trivial hr
  | succ n ih =>
    refine Fun.okB F sc_law_spoil (fun _ => rfl) fun cdv B outer s H E d hr φ => ?_
    cases φ with
    | non => exact scal _ _ cdv B outer s H E trivial hr
    | bl b => exact scal _ _ cdv B outer s H E trivial hr
    | int i => exact scal _ _ cdv B outer s H E trivial hr
    | str x => exact scal _ _ cdv B outer s H E trivial hr
    | @tup _ ds hd =>
      apply bss_cons (M := fun Γ' => Wk Γ' [.fz (dU K ds), .un])
      case h2 =>
        intro Γ' wk
        refine bss_wk ?_ wk
        apply bss_one
        apply bs_if
        case hc => repeat' wtm_at "bs"
        case ha => intro hk; exact absurd hk (by simp [isTy, tyD])
        case hb =>
          intro _
          apply bss_nil
          exact SV.le_refl _
      case h1 =>
        apply bs_if
        case hc => repeat' wtm_at "bs"
        case hb => intro hk; exact absurd hk (by simp [isTy, tyD])
        case ha =>
          intro _
          apply bss_one
          apply bs_for (inv := fun i Γ' => Wk Γ' [.fz (dU K ds), .un])
          case hI =>
            apply BI.w
            apply bi_tup (g := id) (xs := ds)
            case h => repeat' wtm_at "bs"
            exact (List.map_id _).symm
          case h0 => wtm_at "wk"
          case hW => exact fun _ _ _ => trivial
          case hp => exact PassesOwn.never
          case hc => rfl
          case hs =>
            rintro i d Γ' hx wk
            refine ⟨_, _, _, wk, bg_name 1 nd rfl (.inl rfl), ?_⟩
            apply bss_one
            apply bs_expr (P := dN K)
            case he =>
              apply be_callR
              case i => exact d
              case D => exact ⟨f, fd, [], mS, kS, bS, .nil, ih⟩
              case hr => exact hr
              case hg => rfl
              case ha => repeat' wtm_at "bs"
              case φ => exact hd d (List.mem_of_getElem? hx)
              case hR => exact SV.le_refl _
              all_goals first | rfl | decide
            case h => wtm_at "wk"
          case hd => exact fun Γ' wk => wk
          all_goals exact fun _ => rfl
def spSpoilO (K : PySem.W.Frag) (n : Nat) : Sp := FM (fun i : Addr × List PyData => i.2.length ≤ 1000 ∧ ∀ d ∈ i.2, Okt n d) (fun i => ownL K i.1 i.2) (fun _ => []) (fun _ (_ : Unit) => True) (fun _ _ => dN K) (fun i => ownL K i.1 (i.2 ++ [.str "more"]))
theorem ok_spoilO {f : Addr} {fd : FuncData} (F : Fun K "_law_spoil" "_law_spoil" s_law_spoil f fd) (mS : mg "_law_spoil" = some (.ref f)) (kS : PySem.W.keepIn K (.ref f) = true) (bS : Binds K fd ["_law_x"] []) (m1 : mg "isinstance" = none) (m2 : mg "list" = none) (m3 : mg "tuple" = none) (n : Nat) :
    FnOk P w K mg base CX0 (n + 2) f fd ["_law_x"] (spSpoilO K n) := by
  have nd := sc_law_spoil.nd
  have ih : FnOk P w K mg base CX0 (n + 1) f fd ["_law_x"] (spSpoilF K n) := ok_spoilF F mS kS bS m1 m2 m3 n
  refine Fun.okW F sc_law_spoil (fun _ => rfl) (fun i => ⟨.ref i.1, ownL_v, ownL_v⟩) fun cdv B outer s H E ⟨q, ds⟩ hr φ => ?_
  obtain ⟨φ1, φ2⟩ : ds.length ≤ 1000 ∧ ∀ d ∈ ds, Okt n d := φ
  apply bss_cons (M := fun Γ' => Wk Γ' [.own (ownL K q ds), .un])
  case h2 =>
    intro Γ' wk
    refine bss_wk ?_ wk
    apply bss_one
    apply bs_if (k := true)
    case hc =>
      apply bt_val
      case h =>
        apply be_isiO 0 (q := q) (O := ownL K q ds) (ds := ds)
        case ha => exact br_own 0 rfl ownL_v rfl (by wtm_at "bv")
        case hΓ => rfl
        case hO => exact ownL_at
        case hb => exact be_ty rfl m2 PyProof.Rows.boot_list
        case hΓ1 => rfl
        case hk => rfl
        case hn => decide
        case hg => rfl
        case hm => exact m1
      all_goals exact fun _ => rfl
    case hb => intro hk; cases hk
    case ha =>
      intro _
      apply bss_one
      apply bs_appendO 0 (q := q) (O := ownL K q ds) (ds := ds) (O' := ownL K q (ds ++ [.str "more"])) (d := .str "more")
      case ho => exact br_own 0 rfl ownL_v rfl (by wtm_at "bv")
      case hΓ => rfl
      case he => repeat' wtm_at "bs"
      case hΓ1 => rfl
      case hO => exact ownL_at
      case hO' => exact ownL_to
      case hl => exact Nat.lt_of_le_of_lt φ1 (by decide)
      case h => exact ⟨(), trivial, RV.gives_fz _ (SV.le_refl _), ends_rfl rfl⟩
      all_goals rfl
  case h1 =>
    apply bs_if (k := true)
    case hc =>
      apply bt_val
      case h =>
        apply be_isiTO 0 (q := q) (O := ownL K q ds) (ds := ds) (ns := ["list", "tuple"])
        case ha => exact br_own 0 rfl ownL_v rfl (by wtm_at "bv")
        case hΓ => rfl
        case hO => exact ownL_at
        case hb => repeat' wtm_at "bs"
        case hΓ1 => rfl
        case hk => rfl
        case hn => rfl
        case hg => rfl
        case hm => exact m1
      all_goals exact fun _ => rfl
    case hb => intro hk; cases hk
    case ha =>
      intro _
      apply bss_one
      apply bs_for (inv := fun i Γ' => Wk Γ' [.own (ownL K q ds), .un])
      case hI =>
        apply bi_own 0 (q := q) (O := ownL K q ds) (ds := ds) (g := id) (xs := ds)
        case h => exact br_own 0 rfl ownL_v rfl (by wtm_at "bv")
        case hΓ => rfl
        case hO => exact ownL_at
        case hd => exact (List.map_id _).symm
      case h0 => wtm_at "wk"
      case hW => exact fun i Γ' w => wk_lst w rfl ownL_at
      case hp => exact PassesOwn.never
      case hc => rfl
      case hs =>
        rintro i d Γ' hx wk
        refine ⟨_, _, _, wk, bg_name 1 nd rfl (.inl rfl), ?_⟩
        apply bss_one
        apply bs_expr (P := dN K)
        case he =>
          apply be_callR
          case i => exact d
          case D => exact ⟨f, fd, [], mS, kS, bS, .nil, ih⟩
          case hr => exact hr
          case hg => rfl
          case ha => repeat' wtm_at "bs"
          case φ => exact φ2 d (List.mem_of_getElem? hx)
          case hR => exact SV.le_refl _
          all_goals first | rfl | decide
        case h => wtm_at "wk"
      case hd => exact fun Γ' wk => wk
      all_goals exact fun _ => rfl
end
section
variable {P : Program} {w : World} {K : PySem.W.Frag} {mg : Str → Option Value} {base : Heap}
def okc (m : Str) (c : Nat) : Prop := isSm c = true ∨ (m ≠ "any" ∧ isCap c = true)
def spWord (K : PySem.W.Frag) : Sp := FM (fun i : Addr × Str × Str × Int => 1 ≤ i.2.2.2 ∧ i.2.2.2 ≤ 64 ∧ 1 ≤ i.2.2.1.length ∧ i.2.2.1.length ≤ 1000 ∧ ∀ c ∈ i.2.2.1.cps.toList, isSm c = true) (fun i => ownSt K i.1) (fun i => [dS K i.2.1, dS K i.2.2.1, dI K i.2.2.2])
  (fun i (x : Str) => 1 ≤ x.length ∧ x.length ≤ 64 ∧ ∀ c ∈ x.cps.toList, okc i.2.1 c) (fun _ x => dS K x) (fun i => ownSt K i.1)
theorem upper_sm {c : Nat} (h : isSm c = true) : Txt.upper ⟨#[c]⟩ = (⟨#[c - 32]⟩ : Str) ∧ isCap (c - 32) = true := by
  have all : ∀ c ∈ small.cps.toList, Txt.upper ⟨#[c]⟩ = (⟨#[c - 32]⟩ : Str) ∧ isCap (c - 32) = true := by decide +kernel
  exact all c (of_decide_eq_true h)
theorem cps_app (a b : Str) : (a ++ b).cps.toList = a.cps.toList ++ b.cps.toList := by
  show (a.cps ++ b.cps).toList = _
  rw [Array.toList_append]
theorem len_app (a b : Str) : (a ++ b).length = a.length + b.length := by
  show (a.cps ++ b.cps).size = _
  rw [Array.size_append]
  rfl
theorem ok_word {f : Addr} {fd : FuncData} (F : Fun K "_law_word" "_law_word" s_law_word f fd) (mR : mg "range" = none) (mL : mg "list" = none) (Dt : Df P w K mg base "_law_take" ["_law_state", "_law_many"] [] 2 (spTake K)) (Do : Df P w K mg base "_law_one" ["_law_state", "_law_things"] [] 3 (spOne K)) :
    FnOk P w K mg base CX0 4 f fd ["_law_state", "_law_manner", "_law_letters", "_law_many"] (spWord K) := by
  refine Fun.okW F sc_law_word (fun _ => rfl) (fun i => ⟨.ref i.1, ownSt_v, ownSt_v⟩) fun cdv B outer s H E ⟨p, m, letters, many⟩ hr φ => ?_
  obtain ⟨φ1, φ2, φ3, φ4, φ5⟩ : 1 ≤ many ∧ many ≤ 64 ∧ 1 ≤ letters.length ∧ letters.length ≤ 1000 ∧ ∀ c ∈ letters.cps.toList, isSm c = true := φ
  have nd := sc_law_word.nd
  refine' bss_wk (Γ' := [.own (ownSt K p), .fz (dS K m), .fz (dS K letters), .fz (dI K many), .un, .un, .un]) ?_ ?w
  case w => wtm_at "wk"
  wtm_at "set4"
  apply bss_go
  apply bs_forE (ι := Int) (inv := fun i Γ' => ∃ x : Str, x.length = i ∧ (∀ c ∈ x.cps.toList, okc m c) ∧ Wk Γ' [.own (ownSt K p), .fz (dS K m), .fz (dS K letters), .fz (dI K many), .fz (dS K x), .un, .un])
  case hI =>
    apply bi_range1E (P := .ex (fun n : Int => 1 ≤ n ∧ n ≤ many) (dI K))
    case hg => rfl
    case hm => exact mR
    case h =>
      apply be_op
      case ha => exact be_int
      case hb =>
        wtm_at "callN"
        case j => exact 0
        case i => exact (p, many)
        case D => exact Dt
        wtm_at "hrm"
        case hΓ => rfl
        case ha => repeat' wtm_at "bs"
        case hΓ1 => rfl
        case φ => exact ⟨show (0 : Int) < many by omega, show many < 2 ^ 30 by omega⟩
        case hN => rfl
        case hv => wtm_at "bv"
      case ho => exact OpB.exR fun d hd => ob_add.le (ex_of (Pf := dI K) (1 + d) (by have h1 : (0 : Int) ≤ d := hd.1; have h2 : d < many := hd.2; omega))
    case hP => exact SV.le_refl _
    case hn =>
      intro n hn
      omega
    all_goals rfl
  case h0 => exact ⟨"", rfl, fun c hc => absurd hc (List.not_mem_nil), by wtm_at "wk"⟩
  case hW => exact fun _ _ _ => trivial
  case hp => exact PassesOwn.never
  case hc => rfl
  case hd =>
    rintro n hn Γ' ⟨x, hx, hc, wk⟩
    rw [List.length_range] at hx
    refine bss_wk ?_ wk
    wtm_at "ret"
    exact ⟨x, ⟨show 1 ≤ x.length by omega, show x.length ≤ 64 by omega, hc⟩, nofun, RV.gives_fz _ (SV.le_refl _), ends_rfl rfl⟩
  case hs =>
    rintro n hn i j Γ' hij ⟨x, hx, hc, wk⟩
    have hi : i < 64 := by
      have := (List.getElem?_eq_some_iff.mp hij).1
      rw [List.length_range] at this
      omega
    refine ⟨_, _, _, wk, bg_name 5 nd rfl (.inl rfl), ?_⟩
    apply bss_go
    apply bs_setX 6
    case he =>
      wtm_at "callN"
      case j => exact 0
      case i => exact (p, signsD letters)
      case D => exact Do
      wtm_at "hrm"
      case hΓ => rfl
      case ha =>
        apply ba_cons
        case ha =>
          apply be_newD
          apply bn_listS
          case ha => repeat' wtm_at "bs"
          case hz => exact Nat.le_trans φ4 (by decide)
          case hg => rfl
          case hm => exact mL
          case hc => rfl
          all_goals rfl
        case hr => exact ba_nil
        all_goals rfl
      case hΓ1 => rfl
      case φ =>
        show 0 < (signsD letters).length ∧ (signsD letters).length < 2 ^ 30
        unfold signsD
        rw [List.length_map, tl_len]
        omega
      case hN => rfl
      case hv => wtm_at "bv"
    case hN => exact nd
    case hi => rfl
    case hx => wtm_at "bl"
    case h =>
      intro d hd
      obtain ⟨c, hcl, rfl⟩ := List.mem_map.mp hd
      have hsm := φ5 c hcl
      apply bss_one
      apply bs_augX 4 (Φ := fun c' : Nat => okc m c') (Pf := fun c' : Nat => dS K (x ++ ⟨#[c']⟩)) (P2 := .ex (fun c' : Nat => okc m c') (fun c' => dS K ⟨#[c']⟩))
      case hΓ => rfl
      case he =>
        apply be_ifN
        case ht =>
          apply bt_of_bw
          apply bw_andN
          case ha => repeat' wtm_at "bs"
          case hb =>
            intro _
            apply bw_and1
            apply bt_cmpE
            case ha =>
              wtm_at "callN"
              case j => exact 0
              case i => exact (p, (3 : Int))
              case D => exact Dt
              wtm_at "hrm"
              case hΓ => rfl
              case ha => repeat' wtm_at "bs"
              case hΓ1 => rfl
              case φ => exact ⟨show (0 : Int) < 3 by decide, show (3 : Int) < 2 ^ 30 by decide⟩
              case hN => rfl
              case hv => wtm_at "bv"
            case hb => exact be_int
            case ho => exact ob_cmpAny fun i _ => ob_eqI
            all_goals exact nomark _ (by decide) (by decide)
        case ha =>
          intro hk
          have hm : ¬ m = "any" := by
            have := (hk rfl).1
            simpa using this
          have e := (upper_sm hsm).1
          apply be_some (i := c - 32)
          case φ => exact .inr ⟨hm, (upper_sm hsm).2⟩
          case h =>
            show BE _ _ _ (dS K (⟨#[c - 32]⟩ : Str)) _
            rw [← e]
            apply be_upper
            case h => exact be_var 6 rfl rfl (by wtm_at "bv")
            case hz => exact (show (1 : Nat) ≤ 5592405 by decide)
            all_goals exact fun _ h => pe_upper h
        case hb =>
          intro _
          exact be_some c (be_var 6 rfl rfl (by wtm_at "bv")) (.inl hsm)
      case ho =>
        refine OpB.exR fun c' hc' => ?_
        refine OpB.le (iob_addS ?_) (ex_of (Ψ := fun c' : Nat => okc m c') (Pf := fun c' : Nat => dS K (x ++ (⟨#[c']⟩ : Str))) c' hc')
        show x.length + 1 ≤ sizeLine
        have h2 : (1001 : Nat) ≤ sizeLine := by decide
        omega
      case hN => exact nd
      case hi => rfl
      case hx => wtm_at "bl"
      case h =>
        intro c' hc'
        refine ⟨x ++ ⟨#[c']⟩, by rw [len_app, hx]; rfl, fun z hz => ?_, by wtm_at "wk"⟩
        rw [cps_app] at hz
        rcases List.mem_append.mp hz with q | q
        · exact hc z q
        · have : z = c' := by simpa using q
          rw [this]
          exact hc'
      all_goals exact .inl rfl
    all_goals rfl
  all_goals exact fun _ => rfl
end
section
variable {P : Program} {w : World} {K : PySem.W.Frag} {mg : Str → Option Value} {base : Heap}
theorem not_dig {c : Nat} (h : isSm c = true) : ¬ isDig c = true := by
  have all : ∀ c ∈ small.cps.toList, isDig c = false := by decide +kernel
  rw [all c (of_decide_eq_true h)]
  exact Bool.false_ne_true
theorem not_digC {c : Nat} (h : isCap c = true) : ¬ isDig c = true := by
  have all : ∀ c ∈ capital.cps.toList, isDig c = false := by decide +kernel
  rw [all c (of_decide_eq_true h)]
  exact Bool.false_ne_true
theorem runF_app (p q : List Nat) : runF (p ++ q) = (runF p).bind fun r => q.foldlM stepF r := by
  unfold runF
  rw [List.foldlM_append]
  cases h : List.foldlM stepF rd0 p <;> rfl
theorem str_ext {a b : Str} (h : a.cps.toList = b.cps.toList) : a = b := by
  cases a
  cases b
  congr 1
  exact Array.toList_inj.mp h
/-- figures behind -/
theorem fold_digs : ∀ (q : List Nat) (r : Rd), (∀ c ∈ q, isDig c = true) → q.foldlM stepF r = some ⟨r.f, r.i, ⟨(r.l.cps.toList ++ q).toArray⟩⟩
  | [], r, _ => by
    show some r = _
    congr 1
    have : (⟨(r.l.cps.toList ++ []).toArray⟩ : Str) = r.l := str_ext (by simp)
    rw [this]
  | c :: q, r, h => by
    rw [List.foldlM_cons]
    have h1 : stepF r c = some ⟨r.f, r.i, r.l ++ sgn c⟩ := by unfold stepF; rw [if_pos (h c List.mem_cons_self)]
    rw [h1]
    show q.foldlM stepF ⟨r.f, r.i, r.l ++ sgn c⟩ = _
    rw [fold_digs q _ fun d hd => h d (List.mem_cons_of_mem _ hd)]
    congr 2
    refine str_ext ?_
    show (r.l ++ sgn c).cps.toList ++ q = r.l.cps.toList ++ c :: q
    rw [cps_app]
    simp [sgn]
/-- a word of letters -/
theorem fold_let : ∀ (q : List Nat) (r : Rd), (∀ c ∈ q, isSm c = true ∨ isCap c = true) → ∃ r', q.foldlM stepF r = some r' ∧ r'.f = r.f ++ q ∧ ((∀ s ∈ r.sg, s = "") → ∀ s ∈ r'.sg, s = "")
  | [], r, _ => ⟨r, rfl, by simp, fun h => h⟩
  | c :: q, r, h => by
    have hc := h c List.mem_cons_self
    have h1 : stepF r c = some ⟨r.f ++ [c], r.i ++ [r.l], ""⟩ := by
      unfold stepF
      rw [if_neg, if_pos]
      · rcases hc with z | z <;> simp [z]
      · exact hc.elim not_dig not_digC
    obtain ⟨r', e1, e2, e3⟩ := fold_let q ⟨r.f ++ [c], r.i ++ [r.l], ""⟩ fun d hd => h d (List.mem_cons_of_mem _ hd)
    refine ⟨r', by rw [List.foldlM_cons, h1]; exact e1, by rw [e2]; simp, fun hs => e3 fun s hs' => ?_⟩
    rcases List.mem_append.mp hs' with z | z
    · exact hs s z
    · simpa using z
theorem rising_nil : rising "" = true := rfl
theorem sgn_lt {a b : Nat} (h : a < b) : decide ((sgn a).cps.toList < (sgn b).cps.toList) = true := decide_eq_true (List.cons_lt_cons_iff.mpr (.inl h))
theorem rising_of : ∀ {l : List Nat}, l.Pairwise (· < ·) → rising ⟨l.toArray⟩ = true
  | [], _ => rfl
  | [a], _ => rfl
  | a :: b :: l, h => by
    have h1 := List.pairwise_cons.mp h
    have ih := rising_of h1.2
    unfold rising at ih ⊢
    simp only [List.tail_cons, List.zip_cons_cons, List.all_cons, Bool.and_eq_true] at ih ⊢
    exact ⟨sgn_lt (h1.1 b List.mem_cons_self), ih⟩
/-- a path of letters that is a word -/
theorem path_word {m x : Str} (h1 : 1 ≤ x.length) (h : ∀ c ∈ x.cps.toList, okc m c) : pathB m x = true := by
  have hlet : ∀ c ∈ x.cps.toList, isSm c = true ∨ isCap c = true := fun c hc => (h c hc).elim .inl fun z => .inr z.2
  obtain ⟨r, e1, e2, e3⟩ := fold_let x.cps.toList rd0 hlet
  have hs : ∀ s ∈ r.sg, s = "" := e3 fun s hs => by simpa [Rd.sg, rd0] using hs
  have hf : r.f = x.cps.toList := by rw [e2]; rfl
  have hx : ¬ x = "" := fun z => by rw [z] at h1; exact absurd h1 (by decide)
  have hne : r.f.isEmpty = false := by
    rw [hf]
    cases hl : x.cps.toList with
    | nil =>
      have := tl_len x
      rw [hl] at this
      simp at this
      omega
    | cons a l => rfl
  have hok : r.ok = true := by
    unfold Rd.ok
    have a1 : r.sg.all rising = true := List.all_eq_true.mpr fun s hs' => by rw [hs s hs']; rfl
    have a2 : (r.sg.any fun m => !decide (m = "")) = false := List.any_eq_false.mpr fun s hs' => by rw [hs s hs']; decide
    rw [hne, a1, a2, Bool.and_false]
    rfl
  have hp : parsedF x = some r := by
    unfold parsedF
    rw [if_neg hx, show runF x.cps.toList = some r from e1]
    show (if r.ok = true then some r else none) = some r
    rw [if_pos hok]
  unfold pathB
  rw [hp]
  show (if m = "any" then r.f.all isSm else r.sg.all fun x => decide (x = "")) = true
  split
  · rename_i hm
    rw [hf]
    exact List.all_eq_true.mpr fun c hc => (h c hc).elim id fun z => absurd hm z.1
  · exact List.all_eq_true.mpr fun s hs' => by rw [hs s hs']; rfl
theorem okc_ok {m : Str} {c : Nat} (h : okc m c) : c < 0x110000 := by
  have all : ∀ c ∈ small.cps.toList ++ capital.cps.toList, c < 0x110000 := by decide +kernel
  refine all c (List.mem_append.mpr ?_)
  rcases h with z | z
  · exact .inl (of_decide_eq_true z)
  · exact .inr (of_decide_eq_true z.2)
theorem strOk_of {x : Str} (h : ∀ c ∈ x.cps.toList, c < 0x110000) : PyData.strOk x = true := by
  unfold PyData.strOk
  rw [Array.all_eq_true_iff_forall_mem]
  intro c hc
  exact decide_eq_true (h c (by simpa using hc))
end
section
variable {P : Program} {w : World} {K : PySem.W.Frag} {mg : Str → Option Value} {base : Heap}
def digsOk (d : Str) : Prop := d.length ≤ 10 ∧ (∀ c ∈ d.cps.toList, isDig c = true) ∧ d.cps.toList.Pairwise (· < ·)
theorem dig_ok {c : Nat} (h : isDig c = true) : c < 0x110000 := by
  have all : ∀ c ∈ digits.cps.toList, c < 0x110000 := by decide +kernel
  exact all c (of_decide_eq_true h)
/-- what is known of what is written so far, i signs gone through -/
structure Mk1 (wd : Str) (i : Nat) (x : Str) (r : Rd) : Prop where
  run : runF x.cps.toList = some r
  f : r.f = wd.cps.toList.take (i - 1)
  ris : ∀ s ∈ r.sg, rising s = true
  z : i = 0 → x = ""
  len : x.length ≤ 11 * i
  ok : ∀ c ∈ x.cps.toList, c < 0x110000
def mkXs (wd : Str) : List Str := "" :: wd.cps.toList.map fun c => (⟨#[c]⟩ : Str)
theorem Mk1.step {wd x s mk d : Str} {i : Nat} {r : Rd} (h : Mk1 wd i x r) (hw : ∀ c ∈ wd.cps.toList, isSm c = true) (hs : (mkXs wd)[i]? = some s) (hd : digsOk d) (hm : mk.cps.toList.Sublist d.cps.toList) : ∃ r', Mk1 wd (i + 1) (x ++ s ++ mk) r' := by
  obtain ⟨d1, d2, d3⟩ := hd
  have md : ∀ c ∈ mk.cps.toList, isDig c = true := fun c hc => d2 c (hm.subset hc)
  have mr : rising mk = true := by
    have := rising_of (d3.sublist hm)
    rwa [show (⟨mk.cps.toList.toArray⟩ : Str) = mk from str_ext (by simp)] at this
  have ml : mk.length ≤ 10 := by
    have := hm.length_le
    rw [tl_len, tl_len] at this
    omega
  have e0 : ∀ f i, (⟨f, i, ⟨((⟨f, i, ""⟩ : Rd).l.cps.toList ++ mk.cps.toList).toArray⟩⟩ : Rd) = ⟨f, i, mk⟩ := fun f i => by
    congr 1
  cases i with
  | zero =>
    have hx := h.z rfl
    have es : s = "" := by
      have : some ("" : Str) = some s := hs
      exact (Option.some.inj this).symm
    subst hx es
    refine ⟨⟨[], [], mk⟩, ?_, rfl, ?_, (fun z => by cases z), ?_, ?_⟩
    · rw [cps_app, cps_app, runF_app, runF_app]
      show (some rd0).bind _ = _
      rw [Option.bind_some, fold_digs _ _ md]
      exact congrArg some (e0 [] [])
    · intro s hs
      have : s = mk := by simpa [Rd.sg] using hs
      rw [this]
      exact mr
    · rw [len_app, len_app]
      show 0 + 0 + mk.length ≤ _
      omega
    · intro c hc
      rw [cps_app, cps_app] at hc
      have hc' : c ∈ mk.cps.toList := by
        have e1 : (Str.ofString "").cps.toList = [] := rfl
        rw [e1] at hc
        simpa using hc
      exact dig_ok (md c hc')
  | succ j =>
    have hs' : (wd.cps.toList.map fun c => (⟨#[c]⟩ : Str))[j]? = some s := hs
    rw [List.getElem?_map] at hs'
    cases hc : wd.cps.toList[j]? with
    | none => rw [hc] at hs'; cases hs'
    | some c =>
      rw [hc] at hs'
      have es : s = (⟨#[c]⟩ : Str) := (Option.some.inj hs').symm
      subst es
      have hsm := hw c (List.mem_of_getElem? hc)
      refine ⟨⟨r.f ++ [c], r.i ++ [r.l], mk⟩, ?_, ?_, ?_, (fun z => by cases z), ?_, ?_⟩
      · rw [cps_app, cps_app, runF_app, runF_app, h.run, Option.bind_some]
        have h1 : List.foldlM stepF r [c] = some ⟨r.f ++ [c], r.i ++ [r.l], ""⟩ := by
          rw [List.foldlM_cons]
          have : stepF r c = some ⟨r.f ++ [c], r.i ++ [r.l], ""⟩ := by
            unfold stepF
            rw [if_neg (not_dig hsm), if_pos (by rw [hsm]; rfl)]
          rw [this]
          rfl
        show ((List.foldlM stepF r [c]).bind fun r => List.foldlM stepF r mk.cps.toList) = _
        rw [h1, Option.bind_some, fold_digs _ _ md]
        exact congrArg some (e0 _ _)
      · show r.f ++ [c] = wd.cps.toList.take (j + 1 + 1 - 1)
        rw [h.f, show j + 1 + 1 - 1 = j + 1 from rfl, show j + 1 - 1 = j from rfl, List.take_add_one, hc]
        rfl
      · intro s hs
        rcases List.mem_append.mp hs with q | q
        · exact h.ris s q
        · have : s = mk := by simpa using q
          rw [this]
          exact mr
      · rw [len_app, len_app]
        show x.length + 1 + mk.length ≤ _
        have := h.len
        omega
      · intro z hz
        rw [cps_app, cps_app] at hz
        rcases List.mem_append.mp hz with q | q
        · rcases List.mem_append.mp q with q | q
          · exact h.ok z q
          · have : z = c := by simpa using q
            rw [this]
            exact okc_ok (m := "") (.inl hsm)
        · exact dig_ok (md z q)
theorem Mk1.done {wd x : Str} {r : Rd} (h : Mk1 wd (mkXs wd).length x r) (h1 : 1 ≤ wd.length) (hw : ∀ c ∈ wd.cps.toList, isSm c = true) : pathB "any" x = true := by
  have hl : (mkXs wd).length - 1 = wd.cps.toList.length := by simp [mkXs]
  have hf : r.f = wd.cps.toList := by rw [h.f, hl, List.take_length]
  have hx : ¬ x = "" := fun z => by
    have e := h.run
    rw [z] at e
    have e' : r = rd0 := by cases e; rfl
    rw [e'] at hf
    have : wd.cps.toList.length = 0 := by rw [← hf]; rfl
    rw [tl_len] at this
    omega
  have hne : r.f.isEmpty = false := by
    rw [hf]
    cases hl : wd.cps.toList with
    | nil =>
      have := tl_len wd
      rw [hl] at this
      simp at this
      omega
    | cons a l => rfl
  have hcap : r.f.any isCap = false := by
    rw [hf]
    refine List.any_eq_false.mpr fun c hc => ?_
    have all : ∀ c ∈ small.cps.toList, ¬ isCap c = true := by decide +kernel
    exact all c (of_decide_eq_true (hw c hc))
  have hok : r.ok = true := by
    unfold Rd.ok
    rw [hne, List.all_eq_true.mpr h.ris, hcap]
    rfl
  have hp : parsedF x = some r := by
    unfold parsedF
    rw [if_neg hx, h.run]
    show (if r.ok = true then some r else none) = some r
    rw [if_pos hok]
  unfold pathB
  rw [hp]
  show (if ("any" : Str) = "any" then r.f.all isSm else r.sg.all fun x => decide (x = "")) = true
  rw [if_pos rfl, hf]
  exact List.all_eq_true.mpr hw
def spMarked (K : PySem.W.Frag) : Sp := FM (fun i : Addr × Str × Int => 1 ≤ i.2.1.length ∧ i.2.1.length ≤ 64 ∧ ∀ c ∈ i.2.1.cps.toList, isSm c = true) (fun i => ownSt K i.1) (fun i => [dS K i.2.1, .ex digsOk (dS K), dI K i.2.2])
  (fun _ (x : Str) => pathB "any" x = true ∧ x.length ≤ 1000 ∧ PyData.strOk x = true) (fun _ x => dS K x) (fun i => ownSt K i.1)
theorem ok_marked {f : Addr} {fd : FuncData} (F : Fun K "_law_marked" "_law_marked" s_law_marked f fd) (mL : mg "list" = none) (mN : mg "len" = none) (Dt : Df P w K mg base "_law_take" ["_law_state", "_law_many"] [] 2 (spTake K)) :
    FnOk P w K mg base CX0 3 f fd ["_law_state", "_law_word_here", "_law_digits", "_law_most"] (spMarked K) := by
  refine Fun.okW F sc_law_marked (fun _ => rfl) (fun i => ⟨.ref i.1, ownSt_v, ownSt_v⟩) fun cdv B outer s H E ⟨p, wd, most⟩ hr φ => ?_
  obtain ⟨φ1, φ2, φ3⟩ : 1 ≤ wd.length ∧ wd.length ≤ 64 ∧ ∀ c ∈ wd.cps.toList, isSm c = true := φ
  have nd := sc_law_marked.nd
  have hln : (mkXs wd).length ≤ 65 := by
    simp only [mkXs, List.length_cons, List.length_map, tl_len]
    omega
  refine' bss_wk (Γ' := [.own (ownSt K p), .fz (dS K wd), .fz (.ex digsOk (dS K)), .fz (dI K most), .un, .un, .un, .un, .un]) ?_ ?w
  case w => wtm_at "wk"
  apply bss_openF 2 rfl
  intro d hd
  apply bss_go
  apply bs_par 4 5
  case ha => repeat' wtm_at "bs"
  wtm_at "par"
  apply bss_go
  apply bs_for (inv := fun i Γ' => ∃ (x : Str) (left : Int) (r : Rd), Mk1 wd i x r ∧ Wk Γ' [.own (ownSt K p), .fz (dS K wd), .fz (dS K d), .fz (dI K most), .fz (dS K x), .fz (dI K left), .un, .un, .un]) (S := fun s : Str => dS K s) (xs := mkXs wd)
  case hI =>
    apply BI.w
    apply bi_list (g := fun s : Str => PyData.str s) (ds := [.str ""] ++ signsD wd)
    case h =>
      apply be_op
      case ha => repeat' wtm_at "bs"
      case hb =>
        apply be_newD
        apply bn_listS
        case ha => repeat' wtm_at "bs"
        case hz => exact Nat.le_trans φ2 (by decide)
        case hg => rfl
        case hm => exact mL
        case hc => rfl
        all_goals rfl
      case ho =>
        refine ob_addL ?_
        unfold signsD
        rw [List.length_map, tl_len]
        have h2 : (1001 : Nat) ≤ sizeLine := by decide
        show 1 + wd.length ≤ sizeLine
        omega
    case hd =>
      unfold mkXs signsD
      rw [List.map_cons, List.map_map]
      rfl
  case h0 =>
    refine ⟨"", most, rd0, ⟨rfl, rfl, fun s hs => ?_, fun _ => rfl, Nat.le_refl _, fun c hc => absurd hc List.not_mem_nil⟩, by wtm_at "wk"⟩
    have : s = "" := by simpa [Rd.sg, rd0] using hs
    rw [this]
    rfl
  case hW => exact fun _ _ _ => trivial
  case hp => exact PassesOwn.never
  case hc => rfl
  case hd =>
    rintro Γ' ⟨x, left, r, h, wk⟩
    refine bss_wk ?_ wk
    wtm_at "ret"
    refine ⟨x, ⟨h.done φ1 φ3, Nat.le_trans h.len (by omega), strOk_of h.ok⟩, nofun, RV.gives_fz _ (SV.le_refl _), ends_rfl rfl⟩
  case hs =>
    rintro i t Γ' hx ⟨x, left, r, h, wk⟩
    have hi : i < 65 := Nat.lt_of_lt_of_le (List.getElem?_eq_some_iff.mp hx).1 hln
    have htl : t.length ≤ 1 := by
      have hm := List.mem_of_getElem? hx
      rcases List.mem_cons.mp hm with z | z
      · rw [z]; exact Nat.zero_le _
      · obtain ⟨c, _, rfl⟩ := List.mem_map.mp z
        exact Nat.le_refl _
    have hxl : x.length ≤ 1300 := Nat.le_trans h.len (by omega)
    refine ⟨_, _, _, wk, bg_name 6 nd rfl (.inl rfl), ?_⟩
    apply bss_go
    apply bs_setX 7 (Φ := fun m : Str => m.cps.toList.Sublist d.cps.toList) (Pf := dS K)
    case he =>
      apply BE.le
      case h =>
        apply be_slSX (Φ := fun ys : List Str => ∃ cs : List Nat, cs.Sublist d.cps.toList ∧ ys = cs.map fun c => (⟨#[c]⟩ : Str)) (f := fun ys => Txt.join "" ys)
        case he =>
          apply be_joinX (Φ := fun ys : List Str => ∃ cs : List Nat, cs.Sublist d.cps.toList ∧ ys = cs.map fun c => (⟨#[c]⟩ : Str))
          case h => exact be_str
          case hb =>
            apply be_new
            apply bn_lc (own := [("_law_d", 8)]) (xs := d.cps.toList) (β := fun _ _ => True) (Φ := fun c e => e = .str ⟨#[c]⟩)
            case hI =>
              apply BI.w
              apply bi_str
              repeat' wtm_at "bs"
            case hW => trivial
            case hg =>
              intro s H C cl fp c hc
              exact bg_name 8 nd rfl (.inl rfl)
            case ht =>
              intro s H C cl fp c hc
              apply bts_one
              apply bt_cmpE
              case ha =>
                wtm_at "callE"
                case j => exact 0
                case i => exact (p, (3 : Int))
                case D => exact Dt
                wtm_at "hrm"
                case hΓ => rfl
                case ha => repeat' wtm_at "bs"
                case hΓ1 => rfl
                case φ => exact ⟨show (0 : Int) < 3 by decide, show (3 : Int) < 2 ^ 30 by decide⟩
                case hE => rfl
                case hN => rfl
                case hv => wtm_at "bv"
              case hb => exact be_int
              case ho => exact ob_cmpAny fun i _ => ob_eqI
              all_goals exact nomark _ (by decide) (by decide)
            case he =>
              intro s H C cl fp c hc _
              exact be_some (.str ⟨#[c]⟩) (be_var 8 rfl rfl (by wtm_at "bv")) rfl
            case hz => rw [tl_len]; exact Nat.le_trans hd.1 (by decide)
            case hc => rfl
            case hN => exact nd
            case ok => exact blkOk_by (N := n_law_marked) (sc := defScope s_law_marked) (by decide +kernel)
            case hno => rfl
            case hts' => rfl
            all_goals exact fun _ => rfl
          case hP =>
            rintro Z v ⟨ds, lc, pv⟩
            obtain ⟨cs, h1, h2⟩ := lc_sub lc
            refine ⟨_, ⟨cs, h1, rfl⟩, ?_⟩
            show (dL K ((cs.map fun c => (⟨#[c]⟩ : Str)).map .str)).p Z v
            rw [List.map_map]
            have e : (PyData.str ∘ fun c => (⟨#[c]⟩ : Str)) = fun c : Nat => PyData.str ⟨#[c]⟩ := rfl
            rw [e, ← h2]
            exact pv
          case hz =>
            rintro ys ⟨cs, h1, rfl⟩
            have hl := h1.length_le
            rw [tl_len] at hl
            have hd1 := hd.1
            have e : ((cs.map fun c => (⟨#[c]⟩ : Str)).map (·.length)).sum = cs.length := by
              rw [List.map_map]
              have : ((fun x : Str => x.length) ∘ fun c : Nat => (⟨#[c]⟩ : Str)) = fun _ => 1 := rfl
              rw [this]
              have all : ∀ l : List Nat, (l.map fun _ => 1).sum = l.length := fun l => by
                induction l with
                | nil => rfl
                | cons a l ih => rw [List.map_cons, List.sum_cons, ih, List.length_cons]; omega
              exact all cs
            rw [e, List.length_map]
            show cs.length + cs.length * 0 ≤ _
            omega
          all_goals exact fun _ _ h h' => pe_join h h'
        case hP => exact SV.le_refl _
        case hl => exact bp_none
        case hu => exact bp_some (be_var 5 rfl rfl (by wtm_at "bv"))
        case hz =>
          rintro ys ⟨cs, h1, rfl⟩
          have hl := h1.length_le
          rw [tl_len] at hl
          have hd1 := hd.1
          have h2 : (1001 : Nat) ≤ sizeLine := by decide
          have e := tl_len (Txt.join "" (cs.map fun c => (⟨#[c]⟩ : Str)))
          rw [join_signs] at e
          omega
      case k =>
        rintro Z v ⟨ys, ⟨cs, h1, rfl⟩, pv⟩
        refine ⟨_, ?_, pv⟩
        show (cutS (Txt.join "" (cs.map fun c => (⟨#[c]⟩ : Str))) none (some left)).cps.toList.Sublist d.cps.toList
        rw [cutS_cut, join_signs]
        obtain ⟨k, hk⟩ := cutL_pre cs (some left)
        rw [hk]
        exact (List.take_sublist k cs).trans h1
    case hN => exact nd
    case hi => rfl
    case hx => wtm_at "bl"
    case h =>
      intro mk hm
      have ml : mk.length ≤ 10 := by
        have := hm.length_le
        rw [tl_len, tl_len] at this
        have := hd.1
        omega
      have h2 : (2001 : Nat) ≤ sizeLine := by decide
      obtain ⟨r', hr'⟩ := h.step φ3 hx hd hm
      apply bss_one
      apply bs_par 4 5
      case ha =>
        repeat' wtm_at "bs"
        · omega
        · rw [len_app]; omega
        · omega
      wtm_at "par"
      exact ⟨x ++ t ++ mk, left - mk.length, r', hr', by wtm_at "wk"⟩
    all_goals rfl
  all_goals exact fun _ => rfl
end
section
variable {P : Program} {w : World} {K : PySem.W.Frag} {mg : Str → Option Value} {base : Heap}
def goodP (m x : Str) : Prop := pathB m x = true ∧ x.length ≤ 1000 ∧ PyData.strOk x = true
def spLPath (K : PySem.W.Frag) : Sp := FM (fun i : Addr × Str × Str × Int => 1 ≤ i.2.2.2 ∧ i.2.2.2 ≤ 64 ∧ 1 ≤ i.2.2.1.length ∧ i.2.2.1.length ≤ 1000 ∧ ∀ c ∈ i.2.2.1.cps.toList, isSm c = true) (fun i => ownSt K i.1) (fun i => [dS K i.2.1, dS K i.2.2.1, dI K i.2.2.2])
  (fun i (x : Str) => goodP i.2.1 x) (fun _ x => dS K x) (fun i => ownSt K i.1)
theorem digs1 : digsOk "1357" := ⟨by decide, by decide +kernel, by decide +kernel⟩
theorem digs2 : digsOk "0268" := ⟨by decide, by decide +kernel, by decide +kernel⟩
theorem ok_lpath {f : Addr} {fd : FuncData} (F : Fun K "_law_path" "_law_path" s_law_path f fd) (Dw : Df P w K mg base "_law_word" ["_law_state", "_law_manner", "_law_letters", "_law_many"] [] 4 (spWord K)) (Dt : Df P w K mg base "_law_take" ["_law_state", "_law_many"] [] 2 (spTake K)) (Do : Df P w K mg base "_law_one" ["_law_state", "_law_things"] [] 3 (spOne K))
    (Dm : Df P w K mg base "_law_marked" ["_law_state", "_law_word_here", "_law_digits", "_law_most"] [] 3 (spMarked K)) :
    FnOk P w K mg base CX0 5 f fd ["_law_state", "_law_manner", "_law_letters", "_law_many"] (spLPath K) := by
  refine Fun.okW F sc_law_path (fun _ => rfl) (fun i => ⟨.ref i.1, ownSt_v, ownSt_v⟩) fun cdv B outer s H E ⟨p, m, letters, many⟩ hr φ => ?_
  obtain ⟨φ1, φ2, φ3, φ4, φ5⟩ : 1 ≤ many ∧ many ≤ 64 ∧ 1 ≤ letters.length ∧ letters.length ≤ 1000 ∧ ∀ c ∈ letters.cps.toList, isSm c = true := φ
  have nd := sc_law_path.nd
  refine' bss_wk (Γ' := [.own (ownSt K p), .fz (dS K m), .fz (dS K letters), .fz (dI K many), .un]) ?_ ?w
  case w => wtm_at "wk"
  apply bss_go
  apply bs_setX 4
  case he =>
    wtm_at "callN"
    case j => exact 0
    case i => exact (p, m, letters, many)
    case D => exact Dw
    wtm_at "hrm"
    case hΓ => rfl
    case ha => repeat' wtm_at "bs"
    case hΓ1 => rfl
    case φ => exact ⟨φ1, φ2, φ3, φ4, φ5⟩
    case hN => rfl
    case hv => wtm_at "bv"
  case hN => exact nd
  case hi => rfl
  case hx => wtm_at "bl"
  case h =>
    intro x hx
    obtain ⟨x1, x2, x3⟩ : 1 ≤ x.length ∧ x.length ≤ 64 ∧ ∀ c ∈ x.cps.toList, okc m c := hx
    apply bss_go
    apply bs_ifN
    case hc =>
      apply bt_of_bw
      apply bw_orN
      case ha => repeat' wtm_at "bs"
      case hb =>
        intro _
        apply bw_or1
        apply bt_cmpE
        case ha =>
          wtm_at "callN"
          case j => exact 0
          case i => exact (p, (3 : Int))
          case D => exact Dt
          wtm_at "hrm"
          case hΓ => rfl
          case ha => repeat' wtm_at "bs"
          case hΓ1 => rfl
          case φ => exact ⟨show (0 : Int) < 3 by decide, show (3 : Int) < 2 ^ 30 by decide⟩
          case hN => rfl
          case hv => wtm_at "bv"
        case hb => exact be_int
        case ho => exact ob_cmpAny fun i _ => ob_gt
        all_goals exact nomark _ (by decide) (by decide)
    case ha =>
      intro _
      refine' bss_wk (Γ' := [.own (ownSt K p), .fz (dS K m), .fz (dS K letters), .fz (dI K many), .fz (dS K x)]) ?_ ?w
      case w => wtm_at "wk"
      wtm_at "ret"
      exact ⟨x, ⟨path_word x1 x3, Nat.le_trans x2 (by decide), strOk_of fun c hc => okc_ok (x3 c hc)⟩, nofun, RV.gives_fz _ (SV.le_refl _), ends_rfl rfl⟩
    case hb =>
      intro hk
      have hm : m = "any" := by
        have := (hk rfl).1
        simpa using this
      apply bss_nil
      refine' bss_wk (Γ' := [.own (ownSt K p), .fz (dS K m), .fz (dS K letters), .fz (dI K many), .fz (dS K x)]) ?_ ?w
      case w => wtm_at "wk"
      apply bss_one
      apply bs_retX
      case he =>
        wtm_at "callN"
        case j => exact 0
        case i => exact (p, x, (4 : Int))
        case D => exact Dm
        wtm_at "hrm"
        case hΓ => rfl
        case ha =>
          apply ba_cons
          case ha => repeat' wtm_at "bs"
          case hr =>
            apply ba_cons
            case ha =>
              apply BE.le
              case h =>
                wtm_at "callN"
                case j => exact 0
                case i => exact (p, [PyData.str "1357", PyData.str "0268"])
                case D => exact Do
                wtm_at "hrm"
                case hΓ => rfl
                case ha => repeat' wtm_at "bs"
                case hΓ1 => rfl
                case φ => exact ⟨show 0 < 2 by decide, show 2 < 2 ^ 30 by decide⟩
                case hN => rfl
                case hv => wtm_at "bv"
              case k =>
                rintro Z v ⟨d, hd, pv⟩
                have hd' : d = .str "1357" ∨ d = .str "0268" := by simpa using hd
                rcases hd' with rfl | rfl
                · exact ⟨_, digs1, pv⟩
                · exact ⟨_, digs2, pv⟩
            case hr => repeat' wtm_at "bs"
            all_goals rfl
          all_goals rfl
        case hΓ1 => rfl
        case φ => exact ⟨x1, x2, fun c hc => (x3 c hc).elim id fun z => absurd hm z.1⟩
        case hN => rfl
        case hv => wtm_at "bv"
      case h =>
        intro y hy
        have hy' : pathB "any" y = true ∧ y.length ≤ 1000 ∧ PyData.strOk y = true := hy
        exact ⟨y, ⟨by rw [show ((p, m, letters, many) : Addr × Str × Str × Int).2.1 = "any" from hm]; exact hy'.1, hy'.2⟩, nofun, RV.gives_fz _ (SV.le_refl _), ends_rfl rfl⟩
  all_goals rfl
end
section
variable {P : Program} {w : World} {K : PySem.W.Frag} {mg : Str → Option Value} {base : Heap}
/-- a list or a tuple -/
def seqD (b : Bool) (ds : List PyData) : PyData := if b then .list ds else .tuple ds
theorem bi_seq {X : Cx} {Γ Γ1 : List Sl} {e tg : Expr} {α : Type} {g : α → PyData} {xs : List α} {b : Bool} (h : BE X Γ e (IsD X.K (seqD b (xs.map g))) Γ1) : BI X Γ tg e (fun x => IsD X.K (g x)) xs Γ1 := by
  cases b
  · exact bi_tup h rfl
  · exact bi_list h rfl
def spInteger (K : PySem.W.Frag) : Sp := FS (fun _ : Int => True) (fun i => [dI K i]) (fun _ => dB K true)
theorem ok_is_integer {f : Addr} {fd : FuncData} (F : Fun K "is_integer" "is_integer" s_is_integer f fd) (m1 : mg "isinstance" = none) (m2 : mg "int" = none) (m3 : mg "bool" = none) : FnOk P w K mg base CX0 1 f fd ["thing"] (spInteger K) := by
  refine Fun.okB F sc_is_integer (fun _ => rfl) fun cdv B outer s H E i hr φ => ?_
  wtm_at "ret"
  exact dB_le rfl
def spList (K : PySem.W.Frag) : Sp := FS (fun _ : Bool × List PyData => True) (fun i => [IsD K (seqD i.1 i.2)]) (fun _ => dB K true)
theorem ok_is_list {f : Addr} {fd : FuncData} (F : Fun K "is_list" "is_list" s_is_list f fd) (m1 : mg "isinstance" = none) (m2 : mg "list" = none) (m3 : mg "tuple" = none) : FnOk P w K mg base CX0 1 f fd ["thing"] (spList K) := by
  refine Fun.okB F sc_is_list (fun _ => rfl) fun cdv B outer s H E ⟨b, ds⟩ hr φ => ?_
  cases b
  · wtm_at "ret"
    exact dB_le (by simp [isTy, tyD, seqD])
  · wtm_at "ret"
    exact dB_le (by simp [isTy, tyD, seqD])
end
section
variable {P : Program} {w : World} {K : PySem.W.Frag} {mg : Str → Option Value} {base : Heap}
theorem be_const {X : Cx} {Γ : List Sl} {x : Str} {pos : Pos} {i : Int} (hg : Gl X x) (h : ∃ t, X.mg x = some (.int i t)) (hd : (x == ("__debug__" : Str)) = false := by decide) : BE X Γ (.Name x pos) (dI X.K i) Γ := by
  obtain ⟨t, h⟩ := h
  exact be_glob (v := .int i) hg h ⟨t, rfl⟩ (fun _ => .int _) hd
theorem inD_strs (p : Str) (l : List Str) : inD (.str p) (l.map .str) = decide (p ∈ l) := by
  unfold inD
  rw [List.any_map, Bool.eq_iff_iff, List.any_eq_true, decide_eq_true_eq]
  constructor
  · rintro ⟨y, hy, e⟩
    have : y = p := by simpa [PyData.eqv] using e
    exact this ▸ hy
  · intro h
    exact ⟨p, h, by simp [PyData.eqv]⟩
theorem flat_strs (l : List Str) : (l.map PyData.str).all flatD = true := by
  rw [List.all_map]
  exact List.all_eq_true.mpr fun _ _ => rfl
/-- paths that a Book of the manner m takes -/
def okPaths (m : Str) (ps : List Str) : Prop := (∀ p ∈ ps, goodP m p) ∧ ps.Nodup ∧ ps.length ≤ 8
def spChkP (K : PySem.W.Frag) : Sp := FN (fun i : Str × Bool × List Str × List Str => i.1 ∈ manners ∧ okPaths i.1 (i.2.2.2 ++ i.2.2.1)) (fun i => [dS K i.1, IsD K (seqD i.2.1 (i.2.2.1.map .str)), dL K (i.2.2.2.map .str)]) (fun _ (_ : Addr) => True) (fun i q => ownL K q ((i.2.2.2 ++ i.2.2.1).map .str))
theorem ok_checked_paths {f : Addr} {fd : FuncData} (F : Fun K "checked_paths" "checked_paths" s_checked_paths f fd) (mL : mg "len" = none) (mLi : mg "list" = none) (hP : ∃ t, mg "MOST_PATHS" = some (.int 8 t)) (Dl : Df P w K mg base "is_list" ["thing"] [] 1 (spList K)) (Dp : Df P w K mg base "is_path" ["manner", "thing"] [] 3 (spPath K)) :
    FnOk P w K mg base CX0 4 f fd ["manner", "paths", "found"] (spChkP K) := by
  refine Fun.okN F sc_checked_paths (fun _ => rfl) fun cdv B outer s H E ⟨m, b, ps, fs⟩ hr φ => ?_
  obtain ⟨hm, hg, hn, hl⟩ : m ∈ manners ∧ (∀ p ∈ fs ++ ps, goodP m p) ∧ (fs ++ ps).Nodup ∧ (fs ++ ps).length ≤ 8 := φ
  rw [List.length_append] at hl
  have nd := sc_checked_paths.nd
  apply bss_go
  apply bs_if
  case hc =>
    apply bt_notD
    apply bt_val (k := true)
    case h =>
      apply be_callR
      case i => exact (b, ps.map PyData.str)
      case D => exact Dl
      case hr => exact hr.mono (by decide)
      case hg => rfl
      case ha => repeat' wtm_at "bs"
      case φ => trivial
      case hR => exact SV.le_refl _
      all_goals first | rfl | decide
    all_goals exact fun _ => rfl
  case ha => intro hk; cases hk
  case hb =>
    intro _
    apply bss_nil
    apply bss_go
    apply bs_setN 3
    case he => exact bn_listL rfl mLi (by repeat' wtm_at "bs")
    case h =>
      rintro q _ rfl
      apply bss_go
      apply bs_for (inv := fun i Γ' => Wk Γ' [.fz (dS K m), .fz (IsD K (seqD b (ps.map .str))), .fz (dL K (fs.map .str)), .own (ownL K q ((fs ++ ps.take i).map .str)), .un])
      case hI => exact (bi_seq (g := PyData.str) (xs := ps) (b := b) (by repeat' wtm_at "bs")).w
      case h0 =>
        rw [List.take_zero, List.append_nil]
        wtm_at "wk"
      case hW => exact fun _ _ _ => trivial
      case hp => exact PassesOwn.never
      case hc => rfl
      case hs =>
        intro i x Γ' hx wk
        have hi : i < ps.length := (List.getElem?_eq_some_iff.mp hx).1
        have ht : ps.take (i + 1) = ps.take i ++ [x] := by rw [List.take_add_one, hx] <;> rfl
        have hxm : x ∈ ps := List.mem_of_getElem? hx
        have hgx := hg x (List.mem_append_right _ hxm)
        have hnx : x ∉ fs ++ ps.take i := by
          have h2 : (fs ++ ps.take (i + 1)).Nodup := by
            have : (fs ++ ps.take (i + 1)).Sublist (fs ++ ps) := List.Sublist.append_left (List.take_sublist _ _) _
            exact hn.sublist this
          rw [ht, ← List.append_assoc] at h2
          exact fun z => (List.nodup_append.mp h2).2.2 x z x (List.mem_singleton.mpr rfl) rfl
        refine ⟨_, _, _, wk, bg_name 4 nd rfl (.inl rfl), ?_⟩
        apply bss_go
        apply bs_if
        case hc =>
          apply bt_of_bw
          apply bw_or
          case ha =>
            apply bt_cmp
            case ha => exact be_lenO 3 (br_own 3 rfl ownL_v rfl (by wtm_at "bv")) rfl ownL_at rfl mL
            case hb => exact be_const rfl hP
            case ho => exact ob_eqI
            all_goals first | rfl | exact nomark _ (by decide) (by decide)
          case hb =>
            intro _
            apply bw_or
            case ha =>
              refine bt_notD (k := true) (bt_val ?_ (fun _ => rfl))
              · apply be_callR
                case i => exact (m, x)
                case D => exact Dp
                case hr => exact hr
                case hg => rfl
                case ha => repeat' wtm_at "bs"
                case φ => exact ⟨hm, hgx.2.1⟩
                case hR => exact dB_le hgx.1
                all_goals first | rfl | decide
            case hb =>
              intro _
              apply bw_or1
              exact bt_cmpOR 3 (by repeat' wtm_at "bs") (br_own 3 rfl ownL_v rfl (by wtm_at "bv")) rfl ownL_at (ob_inL rfl (flat_strs _))
        case ha =>
          intro hk
          rw [inD_strs, decide_eq_false hnx] at hk
          simp at hk
          omega
        case hb =>
          intro _
          apply bss_nil
          apply bss_one
          apply bs_appendO 3 (q := q) (O := ownL K q ((fs ++ ps.take i).map .str)) (O' := ownL K q ((fs ++ ps.take (i + 1)).map .str)) (d := .str x)
          case ho => exact br_own 3 rfl ownL_v rfl (by wtm_at "bv")
          case hΓ => rfl
          case he => repeat' wtm_at "bs"
          case hΓ1 => rfl
          case hO => exact ownL_at
          case hO' =>
            have e : (fs ++ ps.take (i + 1)).map PyData.str = (fs ++ ps.take i).map PyData.str ++ [PyData.str x] := by rw [ht, ← List.append_assoc, List.map_append] <;> rfl
            rw [e]
            exact ownL_to
          case hl =>
            simp
            exact Nat.lt_of_lt_of_le (show fs.length + min i ps.length < 9 by omega) (by decide)
          all_goals first | rfl | wtm_at "wk"
      case hd =>
        intro Γ' wk
        rw [List.take_length] at wk
        refine bss_wk ?_ wk
        apply bss_one
        apply bs_retO 3
        case hΓ => rfl
        case h => exact ⟨q, trivial, ⟨_, rfl, OV.le_refl _⟩⟩
        case hN => rfl
        case hv => wtm_at "bv"
        all_goals decide
      all_goals exact fun _ => rfl
    all_goals first | rfl | assumption | exact Or.inl rfl
end
section
variable {P : Program} {w : World} {K : PySem.W.Frag} {mg : Str → Option Value} {base : Heap}
theorem ne_mp : ¬ (("manner" : Str) = "paths") := by decide +kernel
def bookFs (m : Str) (l : Addr) : List (Str × V) := putF "paths" (.ref l) (putF "manner" (.str m) [])
theorem bookFs_m (m : Str) (l : Addr) : (bookFs m l).lookup ("manner" : Str) = some (.str m) := by
  unfold bookFs
  rw [lookup_putF, if_neg ne_mp, lookup_putF, if_pos rfl]
theorem bookFs_p (m : Str) (l : Addr) : (bookFs m l).lookup ("paths" : Str) = some (.ref l) := by
  unfold bookFs
  rw [lookup_putF, if_pos rfl]
theorem bookFs_no (m : Str) (l : Addr) {f : Str} (h1 : ¬ f = "manner") (h2 : ¬ f = "paths") : (bookFs m l).lookup f = none := by
  unfold bookFs
  rw [lookup_putF, if_neg h2, lookup_putF, if_neg h1]
  rfl
/-- what the class must be -/
structure BookT (K : PySem.W.Frag) (C : Addr) : Prop where
  cl : Cls K C
  nm : NoAttr K C "manner"
  np : NoAttr K C "paths"
  ca : PySem.W.findIn K (.ref C) "__class__" = some (some (.builtin "object.__class__"))
  cn : PySem.W.specialIn K (.builtin "object.__class__") "__get__" = some (some (.builtin "getset_descriptor.__get__"))
  ct : PySem.W.takesIn K (.builtin "object.__class__") = some true
  cm : PySem.W.mroIn K C (.type "object") = some true
  kc : PySem.W.kitOne K (.ref C) (.ref C) = some true
  kd : ∀ t ∈ tysA, PySem.W.kitOne K (.type t) (.ref C) = some false
  nf : ∀ t ∈ tysA, PySem.W.notFirst K C (.type t) = true
/-- a Book that stays as it is -/
def bookV (C : Addr) (m : Str) (ps : List Str) : SV := ⟨fun Z v => ∃ a dx l, v = .ref a ∧ Z a = some (.ins C dx (bookFs m l)) ∧ Z l = some (.lst (ps.map V.str)), fun e ⟨a, dx, l, h1, h2, h3⟩ => ⟨a, dx, l, h1, e _ _ h2, e _ _ h3⟩⟩
def bookO (C p : Addr) (m : Str) (ps : List Str) : OV := ⟨fun v F H Z => v = .ref p ∧ F p ∧ ∃ dx l, F l ∧ H p = some (.ins C dx (bookFs m l)) ∧ H l = some (.lst (ps.map V.str)),
  fun ⟨e, f, dx, l, g, h1, h2⟩ z k => ⟨e, f, dx, l, g, by rw [k p f]; exact h1, by rw [k l g]; exact h2⟩⟩
def book1 (C p : Addr) (m : Str) : OV := ⟨fun v F H Z => v = .ref p ∧ F p ∧ ∃ dx, H p = some (.ins C dx (putF "manner" (.str m) [])), fun ⟨e, f, dx, h⟩ z k => ⟨e, f, dx, by rw [k p f]; exact h⟩⟩
theorem bookO_v {C p : Addr} {m : Str} {ps : List Str} : ∀ v F H Z, (bookO C p m ps).p v F H Z → v = .ref p := fun v F H Z h => h.1
theorem ownNew_v {C p : Addr} : ∀ v F H Z, (ownNew C p).p v F H Z → v = .ref p := fun v F H Z h => h.1
theorem book_ins {C : Addr} {m : Str} {ps : List Str} : InsZ C (bookV C m ps) := fun Z v ⟨a, dx, l, h1, h2, h3⟩ => ⟨a, dx, _, h1, h2⟩
theorem book_insM {C : Addr} {m f : Str} {ps : List Str} (n1 : ¬ f = "manner") (n2 : ¬ f = "paths") : InsM C f (bookV C m ps) := fun Z v ⟨a, dx, l, h1, h2, h3⟩ => ⟨a, dx, _, h1, h2, bookFs_no m l n1 n2⟩
theorem book_man {C : Addr} {m : Str} {ps : List Str} (T : BookT K C) : FldZ K (bookV C m ps) "manner" (dS K m) := fun Z v ⟨a, dx, l, h1, h2, h3⟩ => ⟨a, C, dx, _, _, h1, h2, T.cl, T.nm, bookFs_m m l, .str m⟩
theorem book_ps {C : Addr} {m : Str} {ps : List Str} (T : BookT K C) : FldZ K (bookV C m ps) "paths" (dL K (ps.map .str)) := fun Z v ⟨a, dx, l, h1, h2, h3⟩ => ⟨a, C, dx, _, _, h1, h2, T.cl, T.np, bookFs_p m l, .lst h3 (rpA_strs ps)⟩
theorem book_frz {C p : Addr} {m : Str} {ps : List Str} {v : V} {G : Addr → Prop} {H Z Z2 : Hp} (h : (bookO C p m ps).p v G H Z) (k : ∀ a u, G a → H a = some u → Z2 a = some u) : (bookV C m ps).p Z2 v := by
  obtain ⟨e, f, dx, l, g, h1, h2⟩ := h
  exact ⟨p, dx, l, e, k _ _ f h1, k _ _ g h2⟩
def spBookInit (K : PySem.W.Frag) (C : Addr) : Sp := FM (fun i : Addr × Str × Bool × List Str => i.2.1 ∈ manners ∧ okPaths i.2.1 i.2.2.2) (fun i => ownNew C i.1) (fun i => [dS K i.2.1, IsD K (seqD i.2.2.1 (i.2.2.2.map .str))]) (fun _ (_ : Unit) => True) (fun _ _ => dN K) (fun i => bookO C i.1 i.2.1 i.2.2.2)
theorem ok_Book_init {f C : Addr} {fd : FuncData} (F : Fun K "__init__" "Book.__init__" s_Book_init f fd) (T : BookT K C) (Dm : Df P w K mg base "is_manner" ["thing"] [] 1 (spManner K)) (Dc : Df P w K mg base "checked_paths" ["manner", "paths", "found"] [] 4 (spChkP K)) : FnOk P w K mg base CX0 5 f fd ["self", "manner", "kept"] (spBookInit K C) := by
  refine Fun.okW F sc_Book_init (fun _ => rfl) (fun i => ⟨.ref i.1, ownNew_v, bookO_v⟩) fun cdv B outer s H E ⟨p, m, b, ps⟩ hr φ => ?_
  obtain ⟨φ1, φ2⟩ : m ∈ manners ∧ okPaths m ps := φ
  have nd := sc_Book_init.nd
  apply bss_go
  apply bs_if
  case hc =>
    apply bt_notD
    apply bt_val (k := true)
    case h =>
      apply be_callR
      case i => exact m
      case D => exact Dm
      case hr => exact hr.mono (by decide)
      case hg => rfl
      case ha => repeat' wtm_at "bs"
      case φ => exact φ1
      case hR => exact SV.le_refl _
      all_goals first | rfl | decide
    all_goals exact fun _ => rfl
  case ha => intro hk; cases hk
  case hb =>
    intro _
    apply bss_nil
    apply bss_go
    apply bs_fld 0 (O := ownNew C p) (O' := book1 C p m) (P := dS K m)
    case he => repeat' wtm_at "bs"
    case hΓ1 => rfl
    case hO =>
      rintro v F H Z u ⟨e, f, dx, h⟩ pu
      obtain rfl := dS_p pu
      exact ⟨p, C, dx, [], e, (f p).mpr rfl, h, T.cl, T.nm, by decide, e, (f p).mpr rfl, dx, upd_same⟩
    case hN => rfl
    case hv => wtm_at "bv"
    case h =>
      apply bss_one
      apply bs_fldO 0 (O := book1 C p m) (O' := fun _ : Addr => bookO C p m ps) (O1 := fun q : Addr => ownL K q (ps.map .str)) (Ψ := fun _ => True)
      case he =>
        apply bo_callR (g := id)
        case i => exact (m, b, ps, ([] : List Str))
        case D => exact Dc
        case hr => exact hr
        case hg => rfl
        case ha => repeat' wtm_at "bs"
        case φ => exact ⟨φ1, φ2⟩
        case hR => exact fun r _ => ⟨trivial, OV.le_refl _⟩
        all_goals first | rfl | decide
      case hΓ1 => rfl
      case hO =>
        rintro q _ v F H Z u G ⟨e, f, dx, h⟩ ⟨e2, g, us, h2, r⟩ hd
        subst e2
        obtain rfl := rpA_of_strs ps r
        have npq : p ≠ q := ne_of h h2 (by intro z; cases z)
        exact ⟨p, C, dx, _, e, f, h, T.cl, T.np, by show 1 < 1000; decide, e, .inl f, dx, q, .inr g, upd_same, by rw [upd_ne npq.symm]; exact h2⟩
      case h =>
        rintro q _
        exact ⟨(), trivial, RV.gives_fz _ (SV.le_refl _), ends_rfl rfl⟩
      case hN => rfl
      case hv => wtm_at "bv"
end
section
variable {P : Program} {w : World} {K : PySem.W.Frag} {mg : Str → Option Value} {base : Heap}
theorem dB_le' {a b : Bool} (h : a = b) : (dB K a).le (dB K b) := by rw [h]; exact SV.le_refl _
def spBookLen (K : PySem.W.Frag) (C : Addr) : Sp := FS (fun i : Str × List Str => i.2.length ≤ 1000) (fun i => [bookV C i.1 i.2]) (fun i => dI K (i.2.length : Int))
theorem ok_Book_len {f C : Addr} {fd : FuncData} (F : Fun K "__len__" "Book.__len__" s_Book_len f fd) (T : BookT K C) (mL : mg "len" = none) : FnOk P w K mg base CX0 1 f fd ["self"] (spBookLen K C) := by
  refine Fun.okB F sc_Book_len (fun _ => rfl) fun cdv B outer s H E ⟨m, ps⟩ hr φ => ?_
  apply bss_one
  apply bs_ret (P := dI K ((ps.map PyData.str).length : Int))
  case he =>
    apply be_len (As := [dL K (ps.map .str)])
    case ha =>
      apply ba_cons (Γ1 := _)
      case ha =>
        apply be_fldZ (P := bookV C m ps)
        case he => repeat' wtm_at "bs"
        case hP => exact book_ps T
        all_goals rfl
      case hr => exact ba_nil
      all_goals rfl
    case hc => exact cb_lenL
    case hg => rfl
    case hm => exact mL
    all_goals rfl
  case h =>
    show (dI K _).le (dI K _)
    rw [List.length_map]
    exact SV.le_refl _
theorem iter_ok {X : Cx} {f C : Addr} {fd : FuncData} (F : Fun X.K "__iter__" "Book.__iter__" s_Book_iter f fd) (b : Binds X.K fd ["self"] []) (hs : PySem.W.findIn X.K (.ref C) "__iter__" = some (some (.ref f))) (hf : PySem.W.isFn X.K (.ref f) = true) (T : BookT X.K C) (mI : X.mg "iter" = none) : IterOk X C "paths" 2 :=
  ⟨f, hs, hf, fun pins σ H s a dx l fs zs Q hr I ha hl hz hq => run_sized (k := 1) (N := n_Book_iter) (ps := ["self"]) ⟨hr, rfl⟩ F sc_Book_iter b I (.cons (show RelV (.ref a) (.ref a) from rfl) .nil) rfl fun cdv =>
    ⟨_, pss_one (ps_ret (pe_callB ItX.call_iterN rfl mI (by decide +kernel) (pa_cons (pe_fld (pv 0) rfl) pa_nil))), ⟨_, rfl, a, C, dx, fs, _, rfl, ha, T.cl, T.np, hl, l, zs, rfl, hz, fun it h1 h2 => hq it h1 h2⟩⟩⟩
/-- what may stand beside a Book in == -/
inductive BkO where
  | book (m : Str) (ps : List Str)
  | data (d : PyData)
def BkO.v (K : PySem.W.Frag) (C : Addr) : BkO → SV
  | .book m ps => bookV C m ps
  | .data d => IsD K d
def bkEq (m : Str) (ps : List Str) : BkO → Bool
  | .book m' ps' => decide (m = m') && decide (ps = ps')
  | .data _ => false
def fewS (ps : List Str) : Prop := ps.length ≤ 1000 ∧ ∀ s ∈ ps, PyData.strOk s = true
def BkO.few : BkO → Prop
  | .book _ ps => fewS ps
  | .data _ => True
def spBookEq (K : PySem.W.Frag) (C : Addr) : Sp := FS (fun i : (Str × List Str) × BkO => fewS i.1.2 ∧ i.2.few) (fun i => [bookV C i.1.1 i.1.2, i.2.v K C]) (fun i => dB K (bkEq i.1.1 i.1.2 i.2))
theorem book_ty {C : Addr} {m : Str} {ps : List Str} (T : BookT K C) {Z H : Hp} {v : V} (zh : Same Z H) (h : (bookV C m ps).p Z v) : TyX K H v (.ref C) := by
  obtain ⟨a, dx, l, rfl, h1, _⟩ := h
  exact .base (.ins (zh _ _ h1) T.cl T.ca T.cn T.ct T.cm)
theorem ok_Book_eq {f C : Addr} {fd : FuncData} (F : Fun K "__eq__" "Book.__eq__" s_Book_eq f fd) (T : BookT K C) (mC : mg "Book" = some (.ref C)) (m1 : mg "isinstance" = none) : FnOk P w K mg base CX0 1 f fd ["self", "other"] (spBookEq K C) := by
  refine Fun.okB F sc_Book_eq (fun _ => rfl) fun cdv B outer s H E ⟨⟨m, ps⟩, o⟩ hr φ => ?_
  obtain ⟨φ1, φ2⟩ : fewS ps ∧ o.few := φ
  have hu : (cxOf CX0 P w K mg base n_Book_eq "Book.__eq__" (defScope s_Book_eq) f cdv B outer s H E).nox.A.units + 64 < cLine := hr.units
  cases o with
  | data d =>
    apply bss_one
    apply bs_ret
    case he =>
      apply be_and (k := false) (k' := false)
      case ha =>
        apply be_isiC (P1 := IsD K d) (C := C)
        case ha =>
          apply ba_cons
          case ha => exact be_var 1 rfl rfl (by wtm_at "bv")
          case hr =>
            apply ba_cons
            case ha => exact be_clsN rfl mC
            case hr => exact ba_nil
            all_goals rfl
          all_goals rfl
        case h => exact fun Z H v zh p => ⟨_, ty_of zh p, T.kd _ (tyD_mem d)⟩
        case hg => rfl
        case hm => exact m1
        all_goals rfl
      case hb => intro hk; cases hk
    case h => exact dB_le' rfl
  | book m' ps' =>
    apply bss_one
    apply bs_ret
    case he =>
      apply be_and (k := true)
      case ha =>
        apply be_isiC (P1 := bookV C m' ps') (C := C)
        case ha =>
          apply ba_cons
          case ha => exact be_var 1 rfl rfl (by wtm_at "bv")
          case hr =>
            apply ba_cons
            case ha => exact be_clsN rfl mC
            case hr => exact ba_nil
            all_goals rfl
          all_goals rfl
        case h => exact fun Z H v zh p => ⟨_, book_ty T zh p, T.kc⟩
        case hg => rfl
        case hm => exact m1
        all_goals rfl
      case hb =>
        intro _
        apply be_and
        case ha =>
          apply be_cmp
          case ha => exact be_fldZ (be_var 0 rfl rfl (by wtm_at "bv")) (book_man (m := m) (ps := ps) T)
          case hb => exact be_fldZ (be_var 1 rfl rfl (by wtm_at "bv")) (book_man (m := m') (ps := ps') T)
          case ho => exact ob_eqS
          all_goals first | rfl | exact nomark _ (by decide) (by decide)
        case hb =>
          intro _
          apply be_one
          apply be_cmp
          case ha => exact be_fldZ (be_var 0 rfl rfl (by wtm_at "bv")) (book_ps (m := m) (ps := ps) T)
          case hb => exact be_fldZ (be_var 1 rfl rfl (by wtm_at "bv")) (book_ps (m := m') (ps := ps') T)
          case ho => exact ob_eq hu ((okd_strs ps φ1.1 φ1.2).shaped (by decide)) ((okd_strs ps' φ2.1 φ2.2).shaped (by decide))
          all_goals first | rfl | exact nomark _ (by decide) (by decide)
    case h =>
      refine dB_le' ?_
      rw [eqv_strs]
      rfl
def spBookKept (K : PySem.W.Frag) (C : Addr) : Sp := FN (fun _ : Str × List Str => True) (fun i => [bookV C i.1 i.2]) (fun _ (_ : Addr) => True) (fun i q => ownL K q (i.2.map .str))
theorem ok_Book_kept {f C : Addr} {fd : FuncData} (F : Fun K "kept" "Book.kept" s_Book_kept f fd) (T : BookT K C) (mL : mg "list" = none) : FnOk P w K mg base CX0 1 f fd ["self"] (spBookKept K C) := by
  refine Fun.okN F sc_Book_kept (fun _ => rfl) fun cdv B outer s H E ⟨m, ps⟩ hr φ => ?_
  apply bss_one
  apply bs_retB (ρ := Addr) (Ψ := fun _ => True) (O := fun q => ownL K q (ps.map .str))
  case he =>
    apply BO.to (g := Prod.fst)
    case h =>
      apply bo_of_bn (Ψ := (· = ps.map PyData.str))
      apply bn_listL
      case hg => rfl
      case hm => exact mL
      case ha =>
        apply ba_cons
        case ha => exact be_fldZ (be_var 0 rfl rfl (by wtm_at "bv")) (book_ps (m := m) (ps := ps) T)
        case hr => exact ba_nil
        all_goals rfl
      all_goals rfl
    case k => exact fun r ψ => ⟨trivial, by rw [show r.2 = _ from ψ]; exact OV.le_refl _⟩
  case h => exact fun r ψ => ⟨r, trivial, gives_last⟩
def spFurther (K : PySem.W.Frag) (C : Addr) : Sp := FS (fun i : (Str × List Str) × Bool × List Str => i.1.1 ∈ manners ∧ okPaths i.1.1 (i.1.2 ++ i.2.2)) (fun i => [bookV C i.1.1 i.1.2, IsD K (seqD i.2.1 (i.2.2.map .str))]) (fun i => bookV C i.1.1 (i.1.2 ++ i.2.2))
theorem ok_Book_further {f C : Addr} {fd : FuncData} (F : Fun K "further" "Book.further" s_Book_further f fd) (T : BookT K C) (Dc : Df P w K mg base "checked_paths" ["manner", "paths", "found"] [] 4 (spChkP K)) (Db : DfC P w K mg base "Book" C ["self", "manner", "kept"] [] 5 (spBookInit K C)) : FnOk P w K mg base CX0 7 f fd ["self", "paths"] (spFurther K C) := by
  refine Fun.okB F sc_Book_further (fun _ => rfl) fun cdv B outer s H E ⟨⟨m, ps⟩, b, qs⟩ hr φ => ?_
  obtain ⟨φ1, φ2⟩ : m ∈ manners ∧ okPaths m (ps ++ qs) := φ
  apply bss_one
  apply bs_ret (P := bookV C m (ps ++ qs))
  case he =>
    apply be_frz
    case h =>
      apply bo_make
      case D => exact Db
      case i => exact fun p => (p, m, true, ps ++ qs)
      case hr => exact hr
      case hg => rfl
      case ha =>
        apply ba_cons
        case ha => exact be_fldZ (be_var 0 rfl rfl (by wtm_at "bv")) (book_man (m := m) (ps := ps) T)
        case hr =>
          apply ba_cons (P := dL K ((ps ++ qs).map .str))
          case ha =>
            apply be_boL
            case h =>
              apply bo_call
              case D => exact Dc
              case i => exact (m, b, qs, ps)
              case hr => exact hr.mono (by decide)
              case hg => rfl
              case ha =>
                apply ba_cons
                case ha => exact be_fldZ (be_var 0 rfl rfl (by wtm_at "bv")) (book_man (m := m) (ps := ps) T)
                case hr =>
                  apply ba_cons
                  case ha => exact be_var 1 rfl rfl (by wtm_at "bv")
                  case hr =>
                    apply ba_cons
                    case ha => exact be_fldZ (be_var 0 rfl rfl (by wtm_at "bv")) (book_ps (m := m) (ps := ps) T)
                    case hr => exact ba_nil
                    all_goals rfl
                  all_goals rfl
                all_goals rfl
              case φ => exact ⟨φ1, φ2⟩
              all_goals first | rfl | decide
            case hO => exact fun r => ⟨r, OV.le_refl _⟩
          case hr => exact ba_nil
          all_goals rfl
        all_goals rfl
      case hA => exact fun _ => rfl
      case hO => exact fun _ => rfl
      case hv => exact fun p => bookO_v
      case hR => exact fun _ _ => SV.le_refl _
      case φ => exact fun _ => ⟨φ1, φ2⟩
      all_goals first | rfl | decide
    case hP => exact fun r _ v G H Z Z2 h _ k => book_frz h k
  case h => exact SV.le_refl _
end
section
variable {P : Program} {w : World} {K : PySem.W.Frag} {mg : Str → Option Value} {base : Heap}
section
variable {X : Cx} {Γ Γ1 Γ2 Γ3 : List Sl} {e tg it : Expr} {pos p : Pos}
theorem bi_map {α β : Type} {S : α → SV} {S' : β → SV} {xs : List α} {ys : List β} (h : BI X Γ tg it S xs Γ1) (hl : ys.length = xs.length) (he : ∀ (i : Nat) (a : α), xs[i]? = some a → ∃ b, ys[i]? = some b ∧ (S a).le (S' b)) : BI X Γ tg it S' ys Γ1 :=
  PI.imp h fun σ H R ⟨Z, F, E, q⟩ => ⟨Z, F, E, fun J Z1 F1 H1 E1 S1 wk => q J Z1 F1 H1 E1 S1 ⟨fun i H hi => wk.goes i H (by rw [← hl]; exact hi), fun H z => by rw [hl]; exact wk.stops H z, fun i H x H' Z hi z1 z2 y => by
    obtain ⟨Z', a, g, ea, pa⟩ := wk.yields i H x H' Z (by rw [← hl]; exact hi) z1 z2 y
    obtain ⟨b, eb, hb⟩ := he i a ea
    exact ⟨Z', b, g, eb, hb _ _ pa⟩⟩⟩
theorem bi_enumS {elts : List Expr} {kk : Nat} {tpos : Pos} {α : Type} {g : α → PyData} {xs : List α} {b : Bool} (hg : Gl X "enumerate") (hm : X.mg "enumerate" = none) (h : BA X Γ [e] [IsD X.K (seqD b (xs.map g))] Γ1) (hs : starEach [e] X.env = [(false, eval e X.env)] := by rfl) :
    BI X Γ (.Tuple elts kk tpos) (.Call (.Name "enumerate" p) [e] [] pos) (fun x : Nat × α => dU X.K [.int x.1, g x.2]) ((List.range xs.length).zip xs) Γ1 := by
  cases b
  · exact bi_enumU hg hm h rfl hs
  · refine bi_map (bi_enum hg hm h hs) (by simp) fun i a ha => ?_
    rw [List.getElem?_zipIdx, List.getElem?_map] at ha
    cases hx : xs[i]? with
    | none => rw [hx] at ha; cases ha
    | some x =>
      rw [hx] at ha
      have hi : i < xs.length := (List.getElem?_eq_some_iff.mp hx).1
      have e2 : a = (g x, i) := by simpa using ha.symm
      subst e2
      exact ⟨(i, x), by rw [List.getElem?_zip_eq_some]; exact ⟨by simp [hi], hx⟩, SV.le_refl _⟩
theorem sl_seq {b : Bool} {ds : List PyData} {l u : Option Int} : SlB X (IsD X.K (seqD b ds)) l u (IsD X.K (seqD b (cutL ds l u))) := by
  cases b
  · exact sl_U
  · exact sl_L
theorem ob_inSeq {b : Bool} {d : PyData} {ds : List PyData} (f : flatD d = true) (fs : ds.all flatD = true) : OpB X (compareOp .In) (IsD X.K d) (IsD X.K (seqD b ds)) (dB X.K (inD d ds)) := by
  cases b
  · exact ob_inU f fs
  · exact ob_inL f fs
theorem bn_listSeq {b : Bool} {ds : List PyData} (hg : Gl X "list") (hm : X.mg "list" = none) (ha : BA X Γ [e] [IsD X.K (seqD b ds)] Γ1) (he : starEach [e] X.env = (false, eval e X.env) :: starEach [] X.env := by rfl) : BN X Γ (.Call (.Name "list" p) [e] [] pos) (· = ds) Γ1 := by
  cases b
  · exact bn_listU hg hm ha he
  · exact bn_listL hg hm ha he
end
def natD (n : Nat) : PyData := .int (n : Int)
theorem inD_nats (a : Nat) (l : List Nat) : inD (.int (a : Int)) (l.map natD) = decide (a ∈ l) := by
  unfold inD
  rw [List.any_map, Bool.eq_iff_iff, List.any_eq_true, decide_eq_true_eq]
  constructor
  · rintro ⟨y, hy, e⟩
    have e2 : ((y : Int) == (a : Int)) = true := by simpa [PyData.eqv, natD, Function.comp] using e
    have : y = a := by have := eq_of_beq e2; omega
    exact this ▸ hy
  · intro h
    exact ⟨a, h, by simp [PyData.eqv, natD, Function.comp]⟩
theorem flat_nats (l : List Nat) : (l.map natD).all flatD = true := by
  rw [List.all_map]
  exact List.all_eq_true.mpr fun _ _ => rfl
theorem cutL_map {α β : Type} (f : α → β) (xs : List α) (l u : Option Int) : cutL (xs.map f) l u = (cutL xs l u).map f := by
  unfold cutL
  rw [List.length_map, ← List.map_drop, ← List.map_take]
def spChkI (K : PySem.W.Frag) (C : Addr) : Sp := FS (fun i : (Str × List Str) × Bool × List Nat => i.1.2.length ≤ 8 ∧ i.2.2.Nodup ∧ ∀ n ∈ i.2.2, n < i.1.2.length) (fun i => [bookV C i.1.1 i.1.2, IsD K (seqD i.2.1 (i.2.2.map natD))]) (fun i => dL K (i.2.2.map natD))
theorem ok_checked_indices {f C : Addr} {fd : FuncData} (F : Fun K "checked_indices" "checked_indices" s_checked_indices f fd) (mL : mg "len" = none) (mLi : mg "list" = none) (mE : mg "enumerate" = none) (Dl : Df P w K mg base "is_list" ["thing"] [] 1 (spList K)) (Di : Df P w K mg base "is_integer" ["thing"] [] 1 (spInteger K))
    (Dlen : ∀ X : Cx, X.prog = P → X.w = w → X.K = K → X.mg = mg → X.base = base → Spc X C "__len__" 1 ["self"] (spBookLen K C)) : FnOk P w K mg base CX0 3 f fd ["book", "indices"] (spChkI K C) := by
  refine Fun.okB F sc_checked_indices (fun _ => rfl) fun cdv B outer s H E ⟨⟨m, ps⟩, b, ns⟩ hr φ => ?_
  obtain ⟨h8, hn, hlt⟩ : ps.length ≤ 8 ∧ ns.Nodup ∧ ∀ n ∈ ns, n < ps.length := φ
  have nd := sc_checked_indices.nd
  have hnl : ns.length ≤ 8 := by
    have : ns.length ≤ (List.range ps.length).length := List.Nodup.length_le_of_subset hn fun n h => List.mem_range.mpr (hlt n h)
    rw [List.length_range] at this
    omega
  apply bss_go
  apply bs_if
  case hc =>
    apply bt_notD
    apply bt_val (k := true)
    case h =>
      apply be_callR
      case i => exact (b, ns.map natD)
      case D => exact Dl
      case hr => exact hr.mono (by decide)
      case hg => rfl
      case ha => repeat' wtm_at "bs"
      case φ => trivial
      case hR => exact SV.le_refl _
      all_goals first | rfl | decide
    all_goals exact fun _ => rfl
  case ha => intro hk; cases hk
  case hb =>
    intro _
    apply bss_nil
    apply bss_go
    apply bs_for (inv := fun i Γ' => Wk Γ' [.fz (bookV C m ps), .fz (IsD K (seqD b (ns.map natD))), .un, .un])
    case hI =>
      apply BI.w
      apply bi_enumS (g := natD) (xs := ns) (b := b)
      case hg => rfl
      case hm => exact mE
      case h => repeat' wtm_at "bs"
      all_goals rfl
    case h0 => wtm_at "wk"
    case hW => exact fun _ _ _ => trivial
    case hp => exact PassesOwn.never
    case hc => rfl
    case hs =>
      rintro i ⟨at', n⟩ Γ' hx wk
      obtain ⟨e1, e2⟩ := List.getElem?_zip_eq_some.mp hx
      have hi : i < ns.length := (List.getElem?_eq_some_iff.mp e2).1
      have ea : at' = i := by
        rw [List.getElem?_range hi] at e1
        exact (Option.some.inj e1).symm
      subst ea
      have hn' : n < ps.length := hlt n (List.mem_of_getElem? e2)
      have hnot : n ∉ ns.take at' := by
        have h2 := hn.sublist (List.take_sublist (at' + 1) ns)
        rw [List.take_add_one, e2] at h2
        exact fun z => (List.nodup_append.mp h2).2.2 n z n (by simp) rfl
      refine ⟨_, _, _, wk, bg_tup (bgs_cons (bg_name 2 nd rfl (.inl rfl)) (bgs_cons (bg_name 3 nd rfl (.inl rfl)) bgs_nil)) rfl, ?_⟩
      apply bss_one
      apply bs_if
      case hc =>
        apply bt_of_bw
        apply bw_or (Γ1 := [.fz (bookV C m ps), .fz (IsD K (seqD b (ns.map natD))), .fz (dI K (at' : Int)), .fz (dI K (n : Int))])
        case ha =>
          refine bt_notD (k := true) (bt_val ?_ (fun _ => rfl))
          apply be_callR
          case i => exact (n : Int)
          case D => exact Di
          case hr => exact hr.mono (by decide)
          case hg => rfl
          case ha =>
            apply ba_cons
            case ha => exact be_var 3 rfl rfl (by wtm_at "bv")
            case hr => exact ba_nil
            all_goals rfl
          case φ => trivial
          case hR => exact SV.le_refl _
          all_goals first | rfl | decide
        case hb =>
          intro _
          apply bw_or (Γ1 := [.fz (bookV C m ps), .fz (IsD K (seqD b (ns.map natD))), .fz (dI K (at' : Int)), .fz (dI K (n : Int))])
          case ha =>
            refine bt_notD (k := decide ((n : Int) < (ps.length : Int))) ?_
            refine bt_chainI (i := 0) (j := (n : Int)) (m := (ps.length : Int)) be_int (be_var 3 rfl rfl (by wtm_at "bv")) ?_ (by omega)
            apply be_len (As := [bookV C m ps])
            case ha =>
              apply ba_cons
              case ha => exact be_var 0 rfl rfl (by wtm_at "bv")
              case hr => exact ba_nil
              all_goals rfl
            case hc =>
              refine cb_lenZ (i := (m, ps)) (Dlen _ rfl rfl rfl rfl rfl) hr ?_ rfl (SV.le_refl _) (by omega) ?_ book_ins
              · show ps.length ≤ 1000
                omega
              · omega
            case hg => rfl
            case hm => exact mL
            all_goals rfl
          case hb =>
            intro _
            apply bw_or1
            apply bt_cmp
            case ha => exact be_var (P := dI K (n : Int)) 3 rfl rfl (by wtm_at "bv")
            case hb => exact be_sl (P1 := IsD K (seqD b (ns.map natD))) (l := none) (u := some (at' : Int)) (be_var 1 rfl rfl (by wtm_at "bv")) bp_none (bp_some (be_var 2 rfl rfl (by wtm_at "bv"))) sl_seq
            case ho => exact ob_inSeq (d := .int (n : Int)) rfl (by rw [cutL_map]; exact flat_nats _)
            all_goals first | rfl | exact nomark _ (by decide) (by decide)
      case ha =>
        intro hk
        rw [cutL_map, inD_nats, cutL_to, decide_eq_false hnot, decide_eq_true (by omega)] at hk
        simp at hk
      case hb =>
        intro _
        apply bss_nil
        wtm_at "wk"
    case hd =>
      intro Γ' wk
      refine bss_wk ?_ wk
      apply bss_one
      apply bs_ret
      case he =>
        apply be_newD
        apply bn_listSeq
        case hg => rfl
        case hm => exact mLi
        case ha =>
          apply ba_cons
          case ha => exact be_var 1 rfl rfl (by wtm_at "bv")
          case hr => exact ba_nil
          all_goals rfl
        all_goals rfl
      case h => exact SV.le_refl _
    all_goals exact fun _ => rfl
end
section
variable {P : Program} {w : World} {K : PySem.W.Frag} {mg : Str → Option Value} {base : Heap}
/-- the paths whose places are not among ns -/
def wo (ps : List Str) (ns : List Nat) : List Str := (((List.range ps.length).zip ps).filter fun x => !decide (x.1 ∈ ns)).map (·.2)
theorem wo_sub (ps : List Str) (ns : List Nat) : (wo ps ns).Sublist ps := by
  have h : ((List.range ps.length).zip ps).map (·.2) = ps := List.map_snd_zip (by simp)
  have := (List.filter_sublist (p := fun x : Nat × Str => !decide (x.1 ∈ ns)) (l := (List.range ps.length).zip ps)).map (·.2)
  rw [h] at this
  exact this
theorem okPaths.sub {m : Str} {ps qs : List Str} (h : okPaths m ps) (s : qs.Sublist ps) : okPaths m qs := ⟨fun p hp => h.1 p (s.subset hp), h.2.1.sublist s, Nat.le_trans s.length_le h.2.2⟩
def spWithout (K : PySem.W.Frag) (C : Addr) : Sp := FS (fun i : (Str × List Str) × Bool × List Nat => i.1.1 ∈ manners ∧ okPaths i.1.1 i.1.2 ∧ i.2.2.Nodup ∧ ∀ n ∈ i.2.2, n < i.1.2.length) (fun i => [bookV C i.1.1 i.1.2, IsD K (seqD i.2.1 (i.2.2.map natD))]) (fun i => bookV C i.1.1 (wo i.1.2 i.2.2))
theorem ok_Book_without {f C : Addr} {fd : FuncData} (F : Fun K "without" "Book.without" s_Book_without f fd) (T : BookT K C) (mE : mg "enumerate" = none) (Dc : Df P w K mg base "checked_indices" ["book", "indices"] [] 3 (spChkI K C)) (Db : DfC P w K mg base "Book" C ["self", "manner", "kept"] [] 5 (spBookInit K C)) : FnOk P w K mg base CX0 7 f fd ["self", "indices"] (spWithout K C) := by
  refine Fun.okB F sc_Book_without (fun _ => rfl) fun cdv B outer s H E ⟨⟨m, ps⟩, b, ns⟩ hr φ => ?_
  obtain ⟨φ1, φ2, φ3, φ4⟩ : m ∈ manners ∧ okPaths m ps ∧ ns.Nodup ∧ ∀ n ∈ ns, n < ps.length := φ
  have nd := sc_Book_without.nd
  apply bss_go
  apply bs_set 2 (P := dL K (ns.map natD))
  case he =>
    apply be_callR
    case D => exact Dc
    case i => exact ((m, ps), b, ns)
    case hr => exact hr.mono (by decide)
    case hg => rfl
    case ha =>
      apply ba_cons
      case ha => exact be_var 0 rfl rfl (by wtm_at "bv")
      case hr =>
        apply ba_cons
        case ha => exact be_var 1 rfl rfl (by wtm_at "bv")
        case hr => exact ba_nil
        all_goals rfl
      all_goals rfl
    case φ => exact ⟨φ2.2.2, φ3, φ4⟩
    case hR => exact SV.le_refl _
    all_goals first | rfl | decide
  case hN => exact nd
  case hi => rfl
  case hx => wtm_at "bl"
  case h =>
    apply bss_one
    apply bs_ret (P := bookV C m (wo ps ns))
    case he =>
      apply be_frz
      case h =>
        apply bo_make
        case D => exact Db
        case i => exact fun p => (p, m, true, wo ps ns)
        case hr => exact hr
        case hg => rfl
        case ha =>
          apply ba_cons
          case ha => exact be_fldZ (be_var 0 rfl rfl (by wtm_at "bv")) (book_man (m := m) (ps := ps) T)
          case hr =>
            apply ba_cons (P := dL K ((wo ps ns).map .str))
            case ha =>
              have e : (wo ps ns).map PyData.str = (((List.range ps.length).zip ps).filter fun x => !decide (x.1 ∈ ns)).map fun x => PyData.str x.2 := by unfold wo; rw [List.map_map] <;> rfl
              rw [e]
              apply be_newD
              apply bn_lcD (own := [("at", 3), ("path", 4)])
              case hI =>
                apply BI.w
                apply bi_enumS (g := PyData.str) (xs := ps) (b := true)
                case hg => rfl
                case hm => exact mE
                case h =>
                  apply ba_cons
                  case ha => exact be_fldZ (be_var 0 rfl rfl (by wtm_at "bv")) (book_ps (m := m) (ps := ps) T)
                  case hr => exact ba_nil
                  all_goals rfl
                all_goals rfl
              case hW => trivial
              case hg =>
                intro s H C cl fp x hx
                exact bg_tup (bgs_cons (bg_name 3 nd rfl (.inl rfl)) (bgs_cons (bg_name 4 nd rfl (.inl rfl)) bgs_nil)) rfl
              case ht =>
                intro s H C cl fp x hx
                apply bts_one
                apply bt_cmp
                case ha => exact be_var (P := dI K (x.1 : Int)) 3 rfl rfl (by wtm_at "bv")
                case hb => exact be_var (P := dL K (ns.map natD)) 2 rfl rfl (by wtm_at "bv")
                case ho =>
                  rw [← inD_nats]
                  exact ob_notInL rfl (flat_nats _)
                all_goals first | rfl | exact nomark _ (by decide) (by decide)
              case he =>
                intro s H C cl fp x hx _
                exact be_var 4 rfl rfl (by wtm_at "bv")
              case hz =>
                rw [List.length_zip, List.length_range, Nat.min_self]
                exact Nat.le_trans φ2.2.2 (by decide)
              case hc => rfl
              case hN => exact nd
              case ok => exact blkOk_by (N := n_Book_without) (sc := defScope s_Book_without) (by decide +kernel)
              case hno => rfl
              case hts' => rfl
              all_goals exact fun _ => rfl
            case hr => exact ba_nil
            all_goals rfl
          all_goals rfl
        case hA => exact fun _ => rfl
        case hO => exact fun _ => rfl
        case hv => exact fun p => bookO_v
        case hR => exact fun _ _ => SV.le_refl _
        case φ => exact fun _ => ⟨φ1, φ2.sub (wo_sub ps ns)⟩
        all_goals first | rfl | decide
      case hP => exact fun r _ v G H Z Z2 h _ k => book_frz h k
    case h => exact SV.le_refl _
  all_goals first | rfl | exact Or.inl rfl
/-- one's own list or a tuple -/
def givO (K : PySem.W.Frag) (ds : List PyData) (r : Bool × Addr) : OV := if r.1 then ownL K r.2 ds else ovS (dU K ds)
def spHanded (K : PySem.W.Frag) : Sp := FW (fun _ : Addr × List PyData => True) (fun i => ownSt K i.1) (fun i => [dL K i.2]) (fun _ (_ : Bool × Addr) => True) (fun i r => givO K i.2 r) (fun i => ownSt K i.1)
theorem ok_handed {f : Addr} {fd : FuncData} (F : Fun K "_law_handed" "_law_handed" s_law_handed f fd) (m1 : mg "list" = none) (m2 : mg "tuple" = none) (Dt : Df P w K mg base "_law_take" ["_law_state", "_law_many"] [] 2 (spTake K)) : FnOk P w K mg base CX0 3 f fd ["_law_state", "_law_things"] (spHanded K) := by
  refine Fun.okW F sc_law_handed (fun _ => rfl) (fun i => ⟨.ref i.1, ownSt_v, ownSt_v⟩) fun cdv B outer s H E ⟨p, ds⟩ hr φ => ?_
  apply bss_one
  apply bs_retB (Γ1 := [.own (ownSt K p), .fz (dL K ds)]) (ρ := Bool × Addr) (Ψ := fun _ => True) (O := givO K ds)
  case he =>
    apply bo_ifN (Γ1 := [.own (ownSt K p), .fz (dL K ds)]) (β := fun _ => True)
    case ht =>
      apply bt_cmpE
      case ha =>
        wtm_at "callE"
        case j => exact 0
        case i => exact (p, (2 : Int))
        case D => exact Dt
        wtm_at "hrm"
        case hΓ => rfl
        case ha => repeat' wtm_at "bs"
        case hΓ1 => rfl
        case φ => exact ⟨show (0 : Int) < 2 by decide, show (2 : Int) < 2 ^ 30 by decide⟩
        case hE => rfl
        case hN => rfl
        case hv => wtm_at "bv"
      case hb => exact be_int
      case ho => exact ob_cmpAny fun i _ => ob_eqI
      all_goals exact nomark _ (by decide) (by decide)
    case ha =>
      intro _
      apply BO.to (g := fun r : Addr × List PyData => (true, r.1))
      case h =>
        apply bo_of_bn (Ψ := (· = ds))
        exact bn_listL rfl m1 (by repeat' wtm_at "bs")
      case k => exact fun r ψ => ⟨trivial, by rw [show r.2 = ds from ψ]; exact OV.le_refl _⟩
    case hb =>
      intro _
      apply BO.to (g := fun _ : Unit => (false, (0 : Addr)))
      case h =>
        apply bo_of_be (P := dU K ds)
        apply be_type (T := "tuple") (As := [dL K ds])
        case hc => exact cb_tupleL
        case hg => rfl
        case hm => exact m2
        case hv => decide +kernel
        case ha =>
          apply ba_cons
          case ha => exact be_var 1 rfl rfl (by wtm_at "bv")
          case hr => exact ba_nil
          all_goals rfl
        all_goals first | rfl | decide
      case k => exact fun r _ => ⟨trivial, OV.le_refl _⟩
  case h =>
    intro r _
    exact ⟨r, trivial, nofun, gives_last, ends_rfl rfl⟩
end
section
variable {P : Program} {w : World} {K : PySem.W.Frag} {mg : Str → Option Value} {base : Heap}
def spMix (K : PySem.W.Frag) : Sp := FM (fun i : Addr × List Nat => i.2.length ≤ 1000) (fun i => ownSt K i.1) (fun i => [dL K (i.2.map natD)]) (fun i (r : List Nat) => r.Perm i.2) (fun _ r => dL K (r.map natD)) (fun i => ownSt K i.1)
theorem okd_nats (l : List Nat) (h : l.length ≤ 1000) : Okd 1 (.list (l.map natD)) := .lst (by rw [List.length_map]; exact h) fun d hd => by
  obtain ⟨s, hs, rfl⟩ := List.mem_map.mp hd
  exact .int _
theorem erase_map {α β : Type} (f : α → β) : ∀ (l : List α) (k : Nat), (l.map f).eraseIdx k = (l.eraseIdx k).map f
  | [], _ => rfl
  | _ :: _, 0 => rfl
  | a :: l, k + 1 => by simp [erase_map f l k]
theorem erase_perm {α : Type} {a : α} : ∀ {l : List α} {k : Nat}, l[k]? = some a → (a :: l.eraseIdx k).Perm l
  | b :: l, 0, h => by
    have : b = a := by simpa using h
    subst this
    exact List.Perm.refl _
  | b :: l, k + 1, h => by
    have ih := erase_perm (l := l) (k := k) (by simpa using h)
    exact (List.Perm.swap b a _).trans (ih.cons b)
theorem ok_mix {f : Addr} {fd : FuncData} (F : Fun K "_law_mix" "_law_mix" s_law_mix f fd) (m1 : mg "list" = none) (m2 : mg "len" = none) (Dt : Df P w K mg base "_law_take" ["_law_state", "_law_many"] [] 2 (spTake K)) : FnOk P w K mg base CX0 3 f fd ["_law_state", "_law_things"] (spMix K) := by
  refine Fun.okW F sc_law_mix (fun _ => rfl) (fun i => ⟨.ref i.1, ownSt_v, ownSt_v⟩) fun cdv B outer s H E ⟨p, ns⟩ hr φ => ?_
  have hl : ns.length ≤ 1000 := φ
  have nd := sc_law_mix.nd
  have hu : (cxOf CX0 P w K mg base n_law_mix "_law_mix" (defScope s_law_mix) f cdv B outer s H E).nox.A.units + 64 < cLine := hr.units
  apply bss_go
  apply bs_parO 2 3
  case ha =>
    apply bo_of_bn
    apply bn_listL
    case hg => rfl
    case hm => exact m1
    case ha => repeat' wtm_at "bs"
    all_goals rfl
  case hb => exact bo_of_bn (bn_lstD bad_nil (Nat.zero_le _))
  wtm_at "par"
  rintro ⟨ql, _⟩ ⟨qf, _⟩ rfl rfl
  apply bss_cons (M := fun Γ' => ∃ fs : List Nat, fs.Perm ns ∧ Wk Γ' [.own (ownSt K p), .un, .un, .own (ownL K qf (fs.map natD))])
  case h1 =>
    apply bs_whileD (inv := fun n Γ' => ∃ ls fs : List Nat, (fs ++ ls).Perm ns ∧ n = ls.length ∧ Wk Γ' [.own (ownSt K p), .fz (dL K (ns.map natD)), .own (ownL K ql (ls.map natD)), .own (ownL K qf (fs.map natD))]) (n := ns.length)
    case hp => exact PassesOwn.never
    case h0 => exact ⟨ns, [], List.Perm.refl _, rfl, by wtm_at "wk"⟩
    case hs =>
      rintro n Γ' ⟨ls, fs, hp, hn, wk⟩
      have hll : fs.length + ls.length = ns.length := by rw [← hp.length_eq, List.length_append]
      apply wt wk
      case hc =>
        apply bt_cmpO 2
        case ha => exact br_own 2 rfl ownL_v rfl (by wtm_at "bv")
        case hΓ => rfl
        case hO => exact ownL_at
        case hb => exact be_lstD bad_nil (Nat.zero_le _)
        case hΓ1 => rfl
        case ho => exact ob_ne hu ((okd_nats ls (by omega)).shaped (by decide)) rfl
        all_goals first | rfl | exact nomark _ (by decide) (by decide)
      case hf =>
        intro hk
        rw [eqv_nil] at hk
        have : ls = [] := by
          cases ls with
          | nil => rfl
          | cons a l => simp at hk
        subst this
        rw [List.append_nil] at hp
        exact ⟨fs, hp, by wtm_at "wk"⟩
      case ht =>
        intro hk
        rw [eqv_nil] at hk
        have hpos : 0 < ls.length := by
          cases ls with
          | nil => simp at hk
          | cons a l => simp
        apply bss_one
        apply bs_appPop 3 2 (qf := qf) (ql := ql) (fs := fs.map natD) (ls := ls.map natD)
        case hof => exact br_own 3 rfl ownL_v rfl (by wtm_at "bv")
        case hol => exact br_own 2 rfl ownL_v rfl (by wtm_at "bv")
        case hi =>
          rw [List.length_map]
          apply be_callMR
          case j => exact 0
          case D => exact Dt
          case i => exact (p, (ls.length : Int))
          case hr => exact hr.mono (by decide)
          case hg => rfl
          case hΓ => rfl
          case ha =>
            apply ba_cons
            case ha =>
              show BE _ _ _ (dI K (ls.length : Int)) _
              rw [← List.length_map (f := natD)]
              exact be_lenO 2 (br_own 2 rfl ownL_v rfl (by wtm_at "bv")) rfl ownL_at rfl m2
            case hr => exact ba_nil
            all_goals rfl
          case hΓ1 => rfl
          case φ => exact ⟨show (0 : Int) < ls.length by omega, show (ls.length : Int) < 2 ^ 30 by omega⟩
          case hE => rfl
          case hP => exact fun r ψ => ex_of (Ψ := fun i : Int => 0 ≤ i ∧ i < (ls.length : Int)) (Pf := dI K) r ψ
          case hN => rfl
          case hv => wtm_at "bv"
          all_goals first | rfl | decide
        case hf0 => rfl
        case hl0 => rfl
        case hf1 => rfl
        case hl1 => rfl
        case hne => decide
        case hfs =>
          rw [List.length_map]
          exact Nat.lt_of_le_of_lt (show fs.length ≤ 1000 by omega) (by decide)
        case hls => rw [List.length_map]; omega
        case h =>
          intro k d hd
          rw [List.getElem?_map] at hd
          cases hk2 : ls[k]? with
          | none => rw [hk2] at hd; cases hd
          | some a =>
            rw [hk2] at hd
            have ed : d = natD a := by simpa using hd.symm
            subst ed
            have hkl : k < ls.length := (List.getElem?_eq_some_iff.mp hk2).1
            refine ⟨(ls.eraseIdx k).length, by rw [List.length_eraseIdx_of_lt hkl]; omega, ls.eraseIdx k, fs ++ [a], ?_, rfl, ?_⟩
            · rw [List.append_assoc]
              exact ((erase_perm hk2).append_left fs).trans hp
            · rw [erase_map, List.map_append]
              wtm_at "wk"
        all_goals first | rfl | exact fun _ _ h1 h2 => pe_bm PySem.F.plainAttrs_list PySem.F.slot_list_append PySem.F.type_list_append mt_append h1 h2 | exact fun _ _ h1 h2 => pe_bm PySem.F.plainAttrs_list PySem.F.slot_list_pop PySem.F.type_list_pop mt_popAt h1 h2
  case h2 =>
    rintro Γ' ⟨fs, hp, wk⟩
    refine bss_wk ?_ wk
    apply bss_freeze 3
    case hΓ => rfl
    case h =>
      apply bss_one
      apply bs_ret
      case he => exact be_var 3 rfl rfl (by wtm_at "bv")
      case h => exact ⟨fs, hp, nofun, RV.gives_fz _ (SV.le_refl _), ends_rfl rfl⟩
end
section
variable {P : Program} {w : World} {K : PySem.W.Frag} {mg : Str → Option Value} {base : Heap}
def spKeptL (K : PySem.W.Frag) : Sp := FM (fun i : Addr × Str × Str × Int × Int => 1 ≤ i.2.2.1.length ∧ i.2.2.1.length ≤ 1000 ∧ (∀ c ∈ i.2.2.1.cps.toList, isSm c = true) ∧ (0 ≤ i.2.2.2.1 ∧ i.2.2.2.1 ≤ 8) ∧ 1 ≤ i.2.2.2.2 ∧ i.2.2.2.2 ≤ 64) (fun i => ownSt K i.1) (fun i => [dS K i.2.1, dS K i.2.2.1, dI K i.2.2.2.1, dI K i.2.2.2.2]) (fun i (r : List Str) => okPaths i.2.1 r) (fun _ r => dL K (r.map .str)) (fun i => ownSt K i.1)
theorem ok_kept {f : Addr} {fd : FuncData} (F : Fun K "_law_kept" "_law_kept" s_law_kept f fd) (mR : mg "range" = none) (Dt : Df P w K mg base "_law_take" ["_law_state", "_law_many"] [] 2 (spTake K)) (Dp : Df P w K mg base "_law_path" ["_law_state", "_law_manner", "_law_letters", "_law_many"] [] 5 (spLPath K)) :
    FnOk P w K mg base CX0 6 f fd ["_law_state", "_law_manner", "_law_letters", "_law_most", "_law_many"] (spKeptL K) := by
  refine Fun.okW F sc_law_kept (fun _ => rfl) (fun i => ⟨.ref i.1, ownSt_v, ownSt_v⟩) fun cdv B outer s H E ⟨p, m, letters, most, many⟩ hr φ => ?_
  obtain ⟨φ1, φ2, φ3, ⟨φ4, φ4'⟩, φ5, φ6⟩ : 1 ≤ letters.length ∧ letters.length ≤ 1000 ∧ (∀ c ∈ letters.cps.toList, isSm c = true) ∧ (0 ≤ most ∧ most ≤ 8) ∧ 1 ≤ many ∧ many ≤ 64 := φ
  have nd := sc_law_kept.nd
  refine' bss_wk (Γ' := [.own (ownSt K p), .fz (dS K m), .fz (dS K letters), .fz (dI K most), .fz (dI K many), .un, .un, .un]) ?_ ?w
  case w => wtm_at "wk"
  apply bss_go
  apply bs_setN 5
  case he => exact bn_lstD bad_nil (Nat.zero_le _)
  case h =>
    rintro q _ rfl
    apply bss_go
    apply bs_forE (ι := Int) (inv := fun i Γ' => ∃ r : List Str, r.length ≤ i ∧ (∀ x ∈ r, goodP m x) ∧ r.Nodup ∧ Wk Γ' [.own (ownSt K p), .fz (dS K m), .fz (dS K letters), .fz (dI K most), .fz (dI K many), .own (ownL K q (r.map .str)), .un, .un])
    case hI =>
      apply bi_range1E (P := .ex (fun n : Int => 0 ≤ n ∧ n ≤ most) (dI K))
      case hg => rfl
      case hm => exact mR
      case h =>
        apply be_callMR
        case j => exact 0
        case D => exact Dt
        case i => exact (p, most + 1)
        case hr => exact hr.mono (by decide)
        case hg => rfl
        case hΓ => rfl
        case ha => repeat' wtm_at "bs"
        case hΓ1 => rfl
        case φ => exact ⟨show (0 : Int) < most + 1 by omega, show most + 1 < 2 ^ 30 by omega⟩
        case hE => rfl
        case hP =>
          intro r ψ
          have h1 : 0 ≤ r := ψ.1
          have h2 : r < most + 1 := ψ.2
          exact ex_of (Ψ := fun n : Int => 0 ≤ n ∧ n ≤ most) (Pf := dI K) r ⟨h1, by omega⟩
        case hN => rfl
        case hv => wtm_at "bv"
        all_goals first | rfl | decide
      case hP => exact SV.le_refl _
      case hn =>
        intro n hn
        omega
      all_goals rfl
    case h0 => exact ⟨[], Nat.le_refl _, fun x hx => absurd hx List.not_mem_nil, List.nodup_nil, by wtm_at "wk"⟩
    case hW => exact fun _ _ _ => trivial
    case hp => exact PassesOwn.never
    case hc => rfl
    case hd =>
      rintro n hn Γ' ⟨r, hl, hg, hnd, wk⟩
      rw [List.length_range] at hl
      refine bss_wk ?_ wk
      apply bss_freeze 5
      case hΓ => rfl
      case h =>
        apply bss_one
        apply bs_ret
        case he => exact be_var 5 rfl rfl (by wtm_at "bv")
        case h => exact ⟨r, ⟨hg, hnd, by omega⟩, nofun, RV.gives_fz _ (SV.le_refl _), ends_rfl rfl⟩
    case hs =>
      rintro n hn i j Γ' hij ⟨r, hl, hg, hnd, wk⟩
      have hi : i < 8 := by
        have := (List.getElem?_eq_some_iff.mp hij).1
        rw [List.length_range] at this
        omega
      refine ⟨_, _, _, wk, bg_name 6 nd rfl (.inl rfl), ?_⟩
      apply bss_go
      apply bs_setX 7 (Φ := fun x : Str => goodP m x) (Pf := fun x => dS K x)
      case he =>
        apply be_callMR
        case j => exact 0
        case D => exact Dp
        case i => exact (p, m, letters, if m = "turned" then 2 else many)
        case hr => exact hr
        case hg => rfl
        case hΓ => rfl
        case ha =>
          apply ba_cons
          case ha => exact be_var 1 rfl rfl (by wtm_at "bv")
          case hr =>
            apply ba_cons
            case ha => exact be_var 2 rfl rfl (by wtm_at "bv")
            case hr =>
              apply ba_cons (P := dI K (if m = "turned" then 2 else many))
              case ha =>
                apply be_if (k := decide (m = "turned"))
                case ht =>
                  apply bt_cmp
                  case ha => exact be_var 1 rfl rfl (by wtm_at "bv")
                  case hb => exact be_str
                  case ho => exact ob_eqS
                  all_goals first | rfl | exact nomark _ (by decide) (by decide)
                case ha =>
                  intro hk
                  rw [if_pos (of_decide_eq_true hk)]
                  exact be_int
                case hb =>
                  intro hk
                  rw [if_neg (of_decide_eq_false hk)]
                  exact be_var 4 rfl rfl (by wtm_at "bv")
              case hr => exact ba_nil
              all_goals rfl
            all_goals rfl
          all_goals rfl
        case hΓ1 => rfl
        case φ =>
          refine ⟨?_, ?_, φ1, φ2, φ3⟩
          · show 1 ≤ (if m = "turned" then (2 : Int) else many)
            split <;> omega
          · show (if m = "turned" then (2 : Int) else many) ≤ 64
            split <;> omega
        case hE => rfl
        case hP => exact fun x ψ => ex_of (Ψ := fun x : Str => goodP m x) (Pf := fun x => dS K x) x ψ
        case hN => rfl
        case hv => wtm_at "bv"
        all_goals first | rfl | decide
      case hN => exact nd
      case hi => rfl
      case hx => wtm_at "bl"
      case h =>
        intro x hx
        apply bss_one
        apply bs_if
        case hc => exact bt_cmpOR 5 (be_var 7 rfl rfl (by wtm_at "bv")) (br_own 5 rfl ownL_v rfl (by wtm_at "bv")) rfl ownL_at (ob_notInL (d := .str x) rfl (flat_strs r))
        case ha =>
          intro hk
          rw [inD_strs] at hk
          have hnx : x ∉ r := by simpa using hk
          apply bss_one
          apply bs_appendO 5 (q := q) (O := ownL K q (r.map .str)) (O' := ownL K q ((r ++ [x]).map .str)) (d := .str x)
          case ho => exact br_own 5 rfl ownL_v rfl (by wtm_at "bv")
          case hΓ => rfl
          case he => exact be_var 7 rfl rfl (by wtm_at "bv")
          case hΓ1 => rfl
          case hO => exact ownL_at
          case hO' =>
            rw [List.map_append]
            exact ownL_to
          case hl =>
            rw [List.length_map]
            exact Nat.lt_of_le_of_lt (show r.length ≤ 8 by omega) (by decide)
          case h =>
            refine ⟨r ++ [x], by rw [List.length_append]; simp; exact hl, fun y hy => ?_, ?_, by wtm_at "wk"⟩
            · rcases List.mem_append.mp hy with h | h
              · exact hg y h
              · rw [List.mem_singleton.mp h]; exact hx
            · exact List.nodup_append.mpr ⟨hnd, by simp, fun a ha b hb e => hnx (by rw [List.mem_singleton.mp hb] at e; rw [← e]; exact ha)⟩
          all_goals rfl
        case hb =>
          intro _
          apply bss_nil
          exact ⟨r, by omega, hg, hnd, by wtm_at "wk"⟩
      all_goals first | rfl | exact Or.inl rfl
    all_goals exact fun _ => rfl
  all_goals first | rfl | assumption | exact Or.inl rfl
end
section
variable {P : Program} {w : World} {K : PySem.W.Frag} {mg : Str → Option Value} {base : Heap}
/-- all that law calls -/
structure Dfs (P : Program) (w : World) (K : PySem.W.Frag) (mg : Str → Option Value) (base : Heap) (C : Addr) : Prop where
  T : BookT K C
  mR : mg "range" = none
  mL : mg "list" = none
  mN : mg "len" = none
  mE : mg "enumerate" = none
  mA : mg "any" = none
  ne : ∀ f, PySem.W.findIn K (.ref C) "__eq__" = some (some (.ref f)) → neIn K C f = true
  fresh : Df P w K mg base "_law_fresh" ["_law_script"] [] 1 (spFresh K)
  take : Df P w K mg base "_law_take" ["_law_state", "_law_many"] [] 2 (spTake K)
  one : Df P w K mg base "_law_one" ["_law_state", "_law_things"] [] 3 (spOne K)
  mix : Df P w K mg base "_law_mix" ["_law_state", "_law_things"] [] 3 (spMix K)
  handed : Df P w K mg base "_law_handed" ["_law_state", "_law_things"] [] 3 (spHanded K)
  same : ∀ n, Df P w K mg base "_law_same" ["_law_found", "_law_due"] [] (n + 1) (spSame K n)
  spoil : Df P w K mg base "_law_spoil" ["_law_x"] [] 3 (spSpoilO K 1)
  spoilF : Df P w K mg base "_law_spoil" ["_law_x"] [] 2 (spSpoilF K 1)
  lkept : Df P w K mg base "_law_kept" ["_law_state", "_law_manner", "_law_letters", "_law_most", "_law_many"] [] 6 (spKeptL K)
  book : DfC P w K mg base "Book" C ["self", "manner", "kept"] [] 5 (spBookInit K C)
  kept : DfM P w K mg base C "kept" ["self"] [] 1 (spBookKept K C)
  further : DfM P w K mg base C "further" ["self", "paths"] [] 7 (spFurther K C)
  without : DfM P w K mg base C "without" ["self", "indices"] [] 7 (spWithout K C)
  len : ∀ X : Cx, X.prog = P → X.w = w → X.K = K → X.mg = mg → X.base = base → Spc X C "__len__" 1 ["self"] (spBookLen K C)
  eq : ∀ X : Cx, X.prog = P → X.w = w → X.K = K → X.mg = mg → X.base = base → Spc X C "__eq__" 1 ["self", "other"] (spBookEq K C)
  iter : ∀ X : Cx, X.prog = P → X.w = w → X.K = K → X.mg = mg → X.base = base → IterOk X C "paths" 2
def spLaw (K : PySem.W.Frag) : Sp := FS (fun _ : List Int => True) (fun ns => [scr K ns]) (fun _ => dB K true)
abbrev G5 (K : PySem.W.Frag) (C : Addr) (ns : List Int) (p : Addr) (m : Str) (ps : List Str) (l : List Sl) : List Sl := .fz (scr K ns) :: .own (ownSt K p) :: .un :: .fz (dS K m) :: .fz (dL K (ps.map .str)) :: .un :: .fz (bookV C m ps) :: l
abbrev strsD (ps : List Str) : PyData := .list (ps.map .str)
theorem okPaths.few {m : Str} {ps : List Str} (h : okPaths m ps) : fewS ps := ⟨Nat.le_trans h.2.2 (by decide), fun s hs => (h.1 s hs).2.2⟩
theorem okPaths.okd {m : Str} {ps : List Str} (h : okPaths m ps) : Okd 1 (strsD ps) := okd_strs ps h.few.1 h.few.2
theorem book_it {C : Addr} {m : Str} {ps : List Str} : ∀ Z v, (bookV C m ps).p Z v → ∃ a dx fs l us, v = .ref a ∧ Z a = some (.ins C dx fs) ∧ fs.lookup ("paths" : Str) = some (.ref l) ∧ Z l = some (.lst us) ∧ RpA K Z us (ps.map .str) := fun Z v ⟨a, dx, l, e, h2, h3⟩ => ⟨a, dx, _, l, _, e, h2, bookFs_p m l, h3, rpA_strs ps⟩
theorem nk1 : ¬ (("kept" : Str) = "manner") := by decide +kernel
theorem nk2 : ¬ (("kept" : Str) = "paths") := by decide +kernel
theorem nf1 : ¬ (("further" : Str) = "manner") := by decide +kernel
theorem nf2 : ¬ (("further" : Str) = "paths") := by decide +kernel
theorem nw1 : ¬ (("without" : Str) = "manner") := by decide +kernel
theorem nw2 : ¬ (("without" : Str) = "paths") := by decide +kernel
theorem okt_strs (ps : List Str) : ∀ d ∈ ps.map PyData.str, Okt 1 d := fun d hd => by
  obtain ⟨s, _, rfl⟩ := List.mem_map.mp hd
  exact .str s
/-- what is handed, frozen -/
theorem giv_frz (ds : List PyData) (r : Bool × Addr) (v : V) (G : Addr → Prop) (H Z Z2 : Hp) (h : (givO K ds r).p v G H Z) (z : Same Z Z2) (k : ∀ a u, G a → H a = some u → Z2 a = some u) : (SV.ex (fun _ : Bool => True) (fun b => IsD K (seqD b ds))).p Z2 v := by
  obtain ⟨b, q⟩ := r
  cases b with
  | true =>
    obtain ⟨e, g, us, h1, r1⟩ := h
    subst e
    exact ⟨true, trivial, .lst (k _ _ g h1) (RpA.mono z _ _ r1)⟩
  | false => exact ⟨false, trivial, SV.mono _ z h.2⟩
end
def lawBody : List Stmt := match (defBody s_law).drop 1 with
  | Stmt.For _ _ b _ _ :: _ => b
  | _ => []
section
variable {P : Program} {w : World} {K : PySem.W.Frag} {mg : Str → Option Value} {base : Heap} {f C : Addr} {cdv : Value} {A : Around} {outer : List Env} {s : Shared} {H : Hp} {E : XK}
abbrev XL (P : Program) (w : World) (K : PySem.W.Frag) (mg : Str → Option Value) (base : Heap) (f : Addr) (cdv : Value) (A : Around) (outer : List Env) (s : Shared) (H : Hp) (E : XK) : Cx := (cxOf CX0 P w K mg base n_law "law" (defScope s_law) f cdv A outer s H E).nox
variable {ns : List Int} {p : Addr} {m : Str} {ps : List Str} {R : Post} {rest : List Stmt}
theorem bo_kept (D : Dfs P w K mg base C) (hr : Room 7 (XL P w K mg base f cdv A outer s H E).A) {l : List Sl} {p1 p2 p3 : Pos} {pl : Sem Bool}
    (ht : eval (.Call (.Attribute (.Name "_law_book" p1) "kept" p2) [] [] p3) (XL P w K mg base f cdv A outer s H E).env = (do
      let ov ← eval (.Name "_law_book" p1) (XL P w K mg base f cdv A outer s H E).env
      standAt p2.atName
      let (g, one) ← holding [ov] (getMethod ov "kept" pl)
      callWith p3 g one (backTo p3 (starEach [] (XL P w K mg base f cdv A outer s H E).env)) (backToKw p3 (keywordEach [] (XL P w K mg base f cdv A outer s H E).env))) := by rfl) : BO (XL P w K mg base f cdv A outer s H E) (G5 K C ns p m ps l) (.Call (.Attribute (.Name "_law_book" p1) "kept" p2) [] [] p3) (fun _ : Addr => True) (fun q => ownL K q (ps.map PyData.str)) (G5 K C ns p m ps l) :=
  bo_methZ0 (pl := pl) (C := C) (P1 := bookV C m ps) (m, ps) D.kept (hr.mono (by decide)) (be_var 6 rfl rfl (by wtm_at "bv")) (book_insM nk1 nk2) rfl trivial ht
theorem be_kept (D : Dfs P w K mg base C) (hr : Room 7 (XL P w K mg base f cdv A outer s H E).A) {l : List Sl} {p1 p2 p3 : Pos} {pl : Sem Bool}
    (ht : eval (.Call (.Attribute (.Name "_law_book" p1) "kept" p2) [] [] p3) (XL P w K mg base f cdv A outer s H E).env = (do
      let ov ← eval (.Name "_law_book" p1) (XL P w K mg base f cdv A outer s H E).env
      standAt p2.atName
      let (g, one) ← holding [ov] (getMethod ov "kept" pl)
      callWith p3 g one (backTo p3 (starEach [] (XL P w K mg base f cdv A outer s H E).env)) (backToKw p3 (keywordEach [] (XL P w K mg base f cdv A outer s H E).env))) := by rfl) : BE (XL P w K mg base f cdv A outer s H E) (G5 K C ns p m ps l) (.Call (.Attribute (.Name "_law_book" p1) "kept" p2) [] [] p3) (dL K (ps.map PyData.str)) (G5 K C ns p m ps l) :=
  be_boL (ds := ps.map PyData.str) (bo_kept D hr ht) fun r => ⟨r, OV.le_refl _⟩
theorem be_lenPs (D : Dfs P w K mg base C) {l : List Sl} {p1 p2 p3 : Pos} : BE (XL P w K mg base f cdv A outer s H E) (G5 K C ns p m ps l) (.Call (.Name "len" p1) [.Name "_law_paths" p2] [] p3) (dI K ((ps.map PyData.str).length : Int)) (G5 K C ns p m ps l) := by
  apply be_len
  case ha =>
    apply ba_cons
    case ha => exact be_var 4 rfl rfl (by wtm_at "bv")
    case hr => exact ba_nil
    all_goals rfl
  case hc => exact cb_lenL
  case hg => rfl
  case hm => exact D.mN
  all_goals rfl
theorem law_found (D : Dfs P w K mg base C) (hr : Room 7 (XL P w K mg base f cdv A outer s H E).A) (hm : m ∈ manners) (φ : okPaths m ps) (h : BSs (XL P w K mg base f cdv A outer s H E) (G5 K C ns p m ps [.un, .un, .un, .un, .un, .un, .un, .un, .un]) (lawBody.drop 8) R) : BSs (XL P w K mg base f cdv A outer s H E) (G5 K C ns p m ps [.un, .un, .un, .un, .un, .un, .un, .un, .un]) (lawBody.drop 5) R := by
  have nd := sc_law.nd
  have L : (ps.map PyData.str).length = ps.length := List.length_map _
  have h8 : ps.length ≤ 8 := φ.2.2
  apply bss_go
  apply bs_set 7 (P := IsD K (.list [.str m, strsD ps, strsD ps, strsD ps, .int ((ps.map PyData.str).length : Int)]))
  case he =>
    apply be_lstD
    case hl => exact Nat.le_of_ble_eq_true rfl
    case h =>
      apply bad_cons
      case ha => exact be_fldZ (be_var 6 rfl rfl (by wtm_at "bv")) (book_man (m := m) (ps := ps) D.T)
      case hr =>
        apply bad_cons
        case ha => exact be_kept (pl := _) D hr
        case hr =>
          apply bad_cons
          case ha =>
            apply be_newD
            apply bn_lcM (own := [("_law_x", 8)])
            case hI =>
              apply BI.w
              apply bi_ownI (g := PyData.str) (xs := ps) (P := bookV C m ps) (C := C) (fld := "paths") (n := 2)
              case D => exact D.iter _ rfl rfl rfl rfl rfl
              case hr => exact hr.mono (by decide)
              case h => exact be_var 6 rfl rfl (by wtm_at "bv")
              case hP => exact book_it
            case hW => trivial
            case hg =>
              intro s H C cl fp x hx
              exact bg_name 8 nd rfl (.inl rfl)
            case he =>
              intro s H C cl fp x hx
              exact be_var 8 rfl rfl (by wtm_at "bv")
            case hz => exact Nat.le_trans φ.2.2 (by decide)
            case hc => rfl
            case hN => exact nd
            case ok => exact blkOk_by (N := n_law) (sc := defScope s_law) (by decide +kernel)
            case hno => rfl
            case hts' => rfl
            all_goals exact fun _ => rfl
          case hr =>
            apply bad_cons
            case ha =>
              apply be_newD
              apply bn_lcM (own := [("_law_x", 8)])
              case hI =>
                apply BI.w
                apply bi_ownI (g := PyData.str) (xs := ps) (P := bookV C m ps) (C := C) (fld := "paths") (n := 2)
                case D => exact D.iter _ rfl rfl rfl rfl rfl
                case hr => exact hr.mono (by decide)
                case h => exact be_var 6 rfl rfl (by wtm_at "bv")
                case hP => exact book_it
              case hW => trivial
              case hg =>
                intro s H C cl fp x hx
                exact bg_name 8 nd rfl (.inl rfl)
              case he =>
                intro s H C cl fp x hx
                exact be_var 8 rfl rfl (by wtm_at "bv")
              case hz => exact Nat.le_trans φ.2.2 (by decide)
              case hc => rfl
              case hN => exact nd
              case ok => exact blkOk_by (N := n_law) (sc := defScope s_law) (by decide +kernel)
              case hno => rfl
              case hts' => rfl
              all_goals exact fun _ => rfl
            case hr =>
              apply bad_cons
              case ha =>
                apply be_len (As := [bookV C m ps])
                case ha =>
                  apply ba_cons
                  case ha => exact be_var 6 rfl rfl (by wtm_at "bv")
                  case hr => exact ba_nil
                  all_goals rfl
                case hc =>
                  refine cb_lenZ (i := (m, ps)) (D.len _ rfl rfl rfl rfl rfl) (hr.mono (by decide)) ?_ rfl ?_ (by omega) ?_ book_ins
                  · show ps.length ≤ 1000
                    omega
                  · rw [L]; exact SV.le_refl _
                  · omega
                case hg => rfl
                case hm => exact D.mN
                all_goals rfl
              case hr => exact bad_nil
              all_goals rfl
            all_goals rfl
          all_goals rfl
        all_goals rfl
      all_goals rfl
  case hN => exact nd
  case hi => rfl
  case hx => wtm_at "bl"
  case h =>
    apply bss_go
    apply bs_if (k := false)
    case hc =>
      apply bt_notD (k := true)
      apply bt_val
      case h =>
        apply be_callR
        case i => exact PyData.list [.str m, strsD ps, strsD ps, strsD ps, .int ((ps.map PyData.str).length : Int)]
        case D => exact D.same 2
        case hr => exact hr.mono (by decide)
        case hg => rfl
        case ha =>
          apply ba_cons
          case ha => exact be_var 7 rfl rfl (by wtm_at "bv")
          case hr =>
            apply ba_cons
            case ha =>
              apply be_lstD
              case hl => exact Nat.le_of_ble_eq_true rfl
              case h =>
                apply bad_cons
                case ha => exact be_var 3 rfl rfl (by wtm_at "bv")
                case hr =>
                  apply bad_cons
                  case ha => exact be_var 4 rfl rfl (by wtm_at "bv")
                  case hr =>
                    apply bad_cons
                    case ha => exact be_var 4 rfl rfl (by wtm_at "bv")
                    case hr =>
                      apply bad_cons
                      case ha => exact be_var 4 rfl rfl (by wtm_at "bv")
                      case hr =>
                        apply bad_cons
                        case ha => exact be_lenPs D
                        case hr => exact bad_nil
                        all_goals rfl
                      all_goals rfl
                    all_goals rfl
                  all_goals rfl
                all_goals rfl
            case hr => exact ba_nil
            all_goals rfl
          all_goals rfl
        case φ =>
          refine .lst (by show 5 ≤ 1000; decide) fun d hd => ?_
          have o := φ.okd
          have hd' : d = .str m ∨ d = strsD ps ∨ d = .int ((ps.map PyData.str).length : Int) := by simpa [strsD] using hd
          rcases hd' with rfl | rfl | rfl
          · have all : ∀ m ∈ manners, PyData.strOk m = true := by decide +kernel
            exact .str _ (all m hm)
          · exact o
          · exact .int _
        case hR => exact SV.le_refl _
        all_goals first | rfl | decide
      all_goals exact fun _ => rfl
    case ha => intro hk; cases hk
    case hb =>
      intro _
      apply bss_nil
      apply bss_go
      apply bs_expr
      case he =>
        apply be_callNew (ρ0 := Addr) (Ψ0 := fun _ => True) (O0 := fun q => ownL K q (ps.map PyData.str)) (P := dN K)
        case i => exact fun q => (q, ps.map PyData.str)
        case D => exact D.spoil
        case hr => exact hr.mono (by decide)
        case hg => rfl
        case he0 => exact bo_kept (pl := _) D hr
        case hO => exact fun r _ => OV.le_refl _
        case hA => exact fun _ => rfl
        case φ => exact fun r _ => ⟨by rw [L]; omega, okt_strs ps⟩
        case hR => exact fun r r' => SV.le_refl _
        all_goals first | rfl | decide
      case h => exact bss_wk h (by wtm_at "wk")
      case hs => rfl
  all_goals first | rfl | exact .inl rfl
end
section
variable {P : Program} {w : World} {K : PySem.W.Frag} {mg : Str → Option Value} {base : Heap} {f C : Addr} {cdv : Value} {A : Around} {outer : List Env} {s : Shared} {H : Hp} {E : XK}
variable {ns : List Int} {p : Addr} {m : Str} {ps : List Str} {R : Post} {rest : List Stmt}
theorem eqv_refl {ds : List Str} : PyData.eqv (strsD ds) (strsD ds) = true := by rw [eqv_strs]; exact decide_eq_true rfl
/-- handed(state, e) -/
theorem be_handed (D : Dfs P w K mg base C) (hr : Room 7 (XL P w K mg base f cdv A outer s H E).A) {Γ : List Sl} {e : Expr} {ds : List PyData} {p1 p2 p3 : Pos} (hΓ : Γ[1]? = some (.own (ownSt K p))) (hS : Γ.set 1 (.own (ownSt K p)) = Γ) (he : BE (XL P w K mg base f cdv A outer s H E) Γ e (dL K ds) Γ)
    (hst : starEach [e] (XL P w K mg base f cdv A outer s H E).env = (false, eval e (XL P w K mg base f cdv A outer s H E).env) :: starEach [] (XL P w K mg base f cdv A outer s H E).env := by rfl)
    (hpl : (backTo p3 (starEach [e] (XL P w K mg base f cdv A outer s H E).env)).any (·.1) = false := by rfl)
    (hsn : starEach (.Name "_law_state" p2 :: [e]) (XL P w K mg base f cdv A outer s H E).env = (false, eval (.Name "_law_state" p2) (XL P w K mg base f cdv A outer s H E).env) :: starEach [e] (XL P w K mg base f cdv A outer s H E).env := by rfl) :
    BE (XL P w K mg base f cdv A outer s H E) Γ (.Call (.Name "_law_handed" p1) [.Name "_law_state" p2, e] [] p3) (.ex (fun _ : Bool => True) (fun b => IsD K (seqD b ds))) Γ := by
  refine be_frz (Ψ := fun _ : Bool × Addr => True) (O := fun r => givO K ds r) ?_ (fun r _ => giv_frz ds r)
  exact bo_callWR 1 (p, ds) D.handed (hr.mono (by decide)) rfl hΓ (ba_cons he ba_nil hst) hΓ trivial hS id (fun r _ => ⟨trivial, OV.le_refl _⟩) rfl (by wtm_at "bv") (by decide) (by decide) (by decide) hsn hpl
theorem law_short (D : Dfs P w K mg base C) (hr : Room 7 (XL P w K mg base f cdv A outer s H E).A) (hm : m ∈ manners) (φ : okPaths m ps) (h : BSs (XL P w K mg base f cdv A outer s H E) (G5 K C ns p m ps [.un, .un, .un, .un, .un, .un, .un, .un, .un]) (lawBody.drop 11) R) : BSs (XL P w K mg base f cdv A outer s H E) (G5 K C ns p m ps [.un, .un, .un, .un, .un, .un, .un, .un, .un]) (lawBody.drop 8) R := by
  have nd := sc_law.nd
  have L : (ps.map PyData.str).length = ps.length := List.length_map _
  have h8 : ps.length ≤ 8 := φ.2.2
  have hu : (XL P w K mg base f cdv A outer s H E).A.units + 64 < cLine := hr.units
  have okd := φ.okd
  apply bss_go
  apply bs_setX 9
  case he =>
    wtm_at "callN"
    case j => exact 1
    case i => exact (p, ((ps.map PyData.str).length : Int) + 1)
    case D => exact D.take
    case hr => exact hr.mono (by decide)
    case hΓ => rfl
    case ha =>
      apply ba_cons
      case ha =>
        apply be_op
        case ha => exact be_lenPs D
        case hb => exact be_int
        case ho => exact ob_add
      case hr => exact ba_nil
      all_goals rfl
    case hΓ1 => rfl
    case φ => exact ⟨show (0 : Int) < ((ps.map PyData.str).length : Int) + 1 by omega, show ((ps.map PyData.str).length : Int) + 1 < 2 ^ 30 by omega⟩
    case hN => rfl
    case hv => wtm_at "bv"
  case hN => exact nd
  case hi => rfl
  case hx => wtm_at "bl"
  case h =>
    rintro a ⟨a1, a2⟩
    obtain ⟨n, rfl⟩ := Int.eq_ofNat_of_zero_le a1
    have hn : n ≤ ps.length := by
      have : (n : Int) < ((ps.map PyData.str).length : Int) + 1 := a2
      omega
    have e1 : cutL (ps.map PyData.str) none (some (n : Int)) = (ps.take n).map PyData.str := by rw [cutL_map, cutL_to]
    have e2 : cutL (ps.map PyData.str) (some (n : Int)) none = (ps.drop n).map PyData.str := by rw [cutL_map, cutL_from]
    have φ1 : okPaths m (ps.take n) := φ.sub (List.take_sublist _ _)
    have lt : (ps.take n).length = n := by rw [List.length_take]; omega
    apply bss_go
    apply bs_set 10 (P := bookV C m (ps.take n))
    case he =>
      apply be_frz
      case h =>
        apply bo_make
        case D => exact D.book
        case i => exact fun p => (p, m, true, ps.take n)
        case hr => exact hr.mono (by decide)
        case hg => rfl
        case ha =>
          apply ba_cons
          case ha => exact be_var 3 rfl rfl (by wtm_at "bv")
          case hr =>
            apply ba_cons
            case ha => exact be_sl (P1 := dL K (ps.map .str)) (l := none) (u := some (n : Int)) (be_var 4 rfl rfl (by wtm_at "bv")) bp_none (bp_some (be_var 9 rfl rfl (by wtm_at "bv"))) sl_L
            case hr => exact ba_nil
            all_goals rfl
          all_goals rfl
        case hA =>
          intro p
          rw [e1]
          rfl
        case hO => exact fun _ => rfl
        case hv => exact fun p => bookO_v
        case hR => exact fun _ _ => SV.le_refl _
        case φ => exact fun _ => ⟨hm, φ1⟩
        all_goals first | rfl | decide
      case hP => exact fun r _ v G H Z Z2 h _ k => book_frz h k
    case hN => exact nd
    case hi => rfl
    case hx => wtm_at "bl"
    case h =>
      apply bss_go
      apply bs_if (k := false)
      case hc =>
        apply bt_of_bw
        apply bw_or (k := false) (k' := false)
        case ha =>
          apply bt_cmp
          case ha => exact be_kept (pl := _) D hr
          case hb => exact be_var 4 rfl rfl (by wtm_at "bv")
          case ho =>
            have e := ob_ne (X := XL P w K mg base f cdv A outer s H E) (d := strsD ps) (e := strsD ps) hu (okd.shaped (by decide)) (okd.shaped (by decide))
            rw [eqv_refl] at e
            exact e
          all_goals first | rfl | exact nomark _ (by decide) (by decide)
        case hb =>
          intro _
          apply bw_or (k := false) (k' := false)
          case ha =>
            apply bt_cmp
            case ha =>
              apply be_methZE (pl := _) (C := C) (P1 := bookV C m (ps.take n)) (P := bookV C m ps)
              case i => exact fun b => ((m, ps.take n), b, ps.drop n)
              case D => exact D.further
              case hr => exact hr.mono (by decide)
              case ho => exact be_var 10 rfl rfl (by wtm_at "bv")
              case hI => exact book_insM nf1 nf2
              case ha =>
                apply be_handed D hr rfl rfl (ds := (ps.drop n).map .str)
                rw [← e2]
                exact be_sl (P1 := dL K (ps.map .str)) (l := some (n : Int)) (u := none) (be_var 4 rfl rfl (by wtm_at "bv")) (bp_some (be_var 9 rfl rfl (by wtm_at "bv"))) bp_none sl_L
              case hP2 => exact SV.le_refl _
              case hA => exact fun _ => rfl
              case φ => exact fun b _ => ⟨hm, by show okPaths m (ps.take n ++ ps.drop n); rw [List.take_append_drop]; exact φ⟩
              case hR =>
                intro b
                show (bookV C m (ps.take n ++ ps.drop n)).le _
                rw [List.take_append_drop]
                exact SV.le_refl _
              all_goals rfl
            case hb => exact be_var 6 rfl rfl (by wtm_at "bv")
            case ho =>
              refine ob_neZ (kk := true) (C := C) (i := ((m, ps), BkO.book m ps)) (D.eq _ rfl rfl rfl rfl rfl) (hr.mono (by decide)) D.ne ⟨φ.few, φ.few⟩ rfl (dB_le' ?_) book_ins book_ins
              simp [bkEq]
            all_goals first | rfl | exact nomark _ (by decide) (by decide)
          case hb =>
            intro _
            apply bw_or1
            apply bt_cmp
            case ha =>
              apply be_len (As := [bookV C m (ps.take n)])
              case ha =>
                apply ba_cons
                case ha => exact be_var 10 rfl rfl (by wtm_at "bv")
                case hr => exact ba_nil
                all_goals rfl
              case hc =>
                refine cb_lenZ (i := (m, ps.take n)) (j := (n : Int)) (D.len _ rfl rfl rfl rfl rfl) (hr.mono (by decide)) ?_ rfl ?_ (by omega) ?_ book_ins
                · show (ps.take n).length ≤ 1000
                  omega
                · show (dI K ((ps.take n).length : Int)).le _
                  rw [lt]; exact SV.le_refl _
                · omega
              case hg => rfl
              case hm => exact D.mN
              all_goals rfl
            case hb => exact be_var 9 rfl rfl (by wtm_at "bv")
            case ho =>
              have e := ob_neI (X := XL P w K mg base f cdv A outer s H E) (x := (n : Int)) (y := (n : Int))
              rw [decide_eq_true rfl] at e
              exact e
            all_goals first | rfl | exact nomark _ (by decide) (by decide)
      case ha => intro hk; cases hk
      case hb =>
        intro _
        apply bss_nil
        exact bss_wk h (by wtm_at "wk")
    all_goals first | rfl | exact .inl rfl
  all_goals first | rfl | exact .inl rfl
end
section
variable {P : Program} {w : World} {K : PySem.W.Frag} {mg : Str → Option Value} {base : Heap} {f C : Addr} {cdv : Value} {A : Around} {outer : List Env} {s : Shared} {H : Hp} {E : XK}
variable {ns : List Int} {p : Addr} {m : Str} {ps : List Str} {R : Post} {rest : List Stmt}
theorem law_gone (D : Dfs P w K mg base C) (hr : Room 7 (XL P w K mg base f cdv A outer s H E).A) (hm : m ∈ manners) (φ : okPaths m ps) (h : BSs (XL P w K mg base f cdv A outer s H E) (G5 K C ns p m ps [.un, .un, .un, .un, .un, .un, .un, .un, .un]) (lawBody.drop 14) R) : BSs (XL P w K mg base f cdv A outer s H E) (G5 K C ns p m ps [.un, .un, .un, .un, .un, .un, .un, .un, .un]) (lawBody.drop 11) R := by
  have nd := sc_law.nd
  have L : (ps.map PyData.str).length = ps.length := List.length_map _
  have h8 : ps.length ≤ 8 := φ.2.2
  have hu : (XL P w K mg base f cdv A outer s H E).A.units + 64 < cLine := hr.units
  have okd := φ.okd
  have er : rgD ps.length = (List.range ps.length).map natD := rfl
  apply bss_go
  apply bs_setX 11 (Φ := fun cs : List Nat => cs.Nodup ∧ ∀ n ∈ cs, n < ps.length) (Pf := fun cs => dL K (cs.map natD))
  case he =>
    apply BE.le
    case h =>
      apply be_new
      apply bn_lcF (own := [("_law_k", 12)]) (M := fun r : List Nat => r.Perm (List.range ps.length)) (xs := fun r : List Nat => r) (S := fun n : Nat => IsD K (natD n)) (β := fun _ _ => True) (Φ := fun n d => d = natD n)
      case hI =>
        apply bi_listE (g := natD) (P := .ex (fun r : List Nat => r.Perm (List.range ps.length)) (fun r => dL K (r.map natD)))
        case h =>
          apply be_callMR
          case j => exact 1
          case i => exact (p, List.range ps.length)
          case D => exact D.mix
          case hr => exact hr.mono (by decide)
          case hg => rfl
          case hΓ => rfl
          case ha =>
            apply ba_cons
            case ha =>
              apply be_newD
              rw [← er]
              apply bn_listRg
              case hn => omega
              case ha =>
                rw [← L]
                exact be_lenPs D
              case hg => rfl
              case hm => exact D.mL
              case hg2 => rfl
              case hm2 => exact D.mR
              all_goals rfl
            case hr => exact ba_nil
            all_goals rfl
          case hΓ1 => rfl
          case φ =>
            show (List.range ps.length).length ≤ 1000
            rw [List.length_range]
            omega
          case hE => rfl
          case hP => exact fun r ψ => ex_of (Ψ := fun r : List Nat => r.Perm (List.range ps.length)) (Pf := fun r => dL K (r.map natD)) r ψ
          case hN => rfl
          case hv => wtm_at "bv"
          all_goals first | rfl | decide
        case hP => exact SV.le_refl _
      case hW => trivial
      case hg =>
        intro s H C cl fp x hx
        exact bg_name 12 nd rfl (.inl rfl)
      case ht =>
        intro s H C cl fp x hx
        apply bts_one
        apply bt_cmpE
        case ha =>
          wtm_at "callE"
          case j => exact 1
          case i => exact (p, (2 : Int))
          case D => exact D.take
          case hr => exact hr.mono (by decide)
          case hΓ => rfl
          case ha => repeat' wtm_at "bs"
          case hΓ1 => rfl
          case φ => exact ⟨show (0 : Int) < 2 by decide, show (2 : Int) < 2 ^ 30 by decide⟩
          case hE => rfl
          case hN => rfl
          case hv => wtm_at "bv"
        case hb => exact be_int
        case ho => exact ob_cmpAny fun i _ => ob_eqI
        all_goals exact nomark _ (by decide) (by decide)
      case he =>
        intro s H C cl fp x hx _
        exact be_some (natD x) (be_var 12 rfl rfl (by wtm_at "bv")) rfl
      case hz =>
        intro r hr'
        have hl := hr'.length_eq
        rw [List.length_range] at hl
        exact Nat.le_trans (Nat.le_of_eq hl) (Nat.le_trans h8 (by decide))
      case hc => rfl
      case hN => exact nd
      case ok => exact blkOk_by (N := n_law) (sc := defScope s_law) (by decide +kernel)
      case hno => rfl
      case hts' => rfl
      all_goals exact fun _ => rfl
    case k =>
      rintro Z v ⟨ds, ⟨r, hp, lc⟩, pv⟩
      obtain ⟨cs, h1, rfl⟩ := lc_sub lc
      refine ⟨cs, ⟨(hp.nodup_iff.mpr List.nodup_range).sublist h1, fun n hn => ?_⟩, pv⟩
      exact List.mem_range.mp (hp.mem_iff.mp (h1.subset hn))
  case hN => exact nd
  case hi => rfl
  case hx => wtm_at "bl"
  case h =>
    rintro cs ⟨c1, c2⟩
    have φ1 : okPaths m (wo ps cs) := φ.sub (wo_sub ps cs)
    apply bss_go
    apply bs_set 13 (P := bookV C m (wo ps cs))
    case he =>
      apply be_frz
      case h =>
        apply bo_make
        case D => exact D.book
        case i => exact fun p => (p, m, true, wo ps cs)
        case hr => exact hr.mono (by decide)
        case hg => rfl
        case ha =>
          apply ba_cons
          case ha => exact be_var 3 rfl rfl (by wtm_at "bv")
          case hr =>
            apply ba_cons (P := dL K ((wo ps cs).map .str))
            case ha =>
              have e : (wo ps cs).map PyData.str = (((List.range ps.length).zip ps).filter fun x => !decide (x.1 ∈ cs)).map fun x => PyData.str x.2 := by unfold wo; rw [List.map_map] <;> rfl
              rw [e]
              apply be_newD
              apply bn_lcD (own := [("_law_k", 12), ("_law_x", 8)])
              case hI =>
                apply BI.w
                apply bi_enumS (g := PyData.str) (xs := ps) (b := true)
                case hg => rfl
                case hm => exact D.mE
                case h =>
                  apply ba_cons
                  case ha => exact be_var 4 rfl rfl (by wtm_at "bv")
                  case hr => exact ba_nil
                  all_goals rfl
                all_goals rfl
              case hW => trivial
              case hg =>
                intro s H C cl fp x hx
                exact bg_tup (bgs_cons (bg_name 12 nd rfl (.inl rfl)) (bgs_cons (bg_name 8 nd rfl (.inl rfl)) bgs_nil)) rfl
              case ht =>
                intro s H C cl fp x hx
                apply bts_one
                apply bt_cmp
                case ha => exact be_var (P := dI K (x.1 : Int)) 12 rfl rfl (by wtm_at "bv")
                case hb => exact be_var (P := dL K (cs.map natD)) 11 rfl rfl (by wtm_at "bv")
                case ho =>
                  rw [← inD_nats]
                  exact ob_notInL rfl (flat_nats _)
                all_goals first | rfl | exact nomark _ (by decide) (by decide)
              case he =>
                intro s H C cl fp x hx _
                exact be_var 8 rfl rfl (by wtm_at "bv")
              case hz =>
                rw [List.length_zip, List.length_range, Nat.min_self]
                exact Nat.le_trans φ.2.2 (by decide)
              case hc => rfl
              case hN => exact nd
              case ok => exact blkOk_by (N := n_law) (sc := defScope s_law) (by decide +kernel)
              case hno => rfl
              case hts' => rfl
              all_goals exact fun _ => rfl
            case hr => exact ba_nil
            all_goals rfl
          all_goals rfl
        case hA => exact fun _ => rfl
        case hO => exact fun _ => rfl
        case hv => exact fun p => bookO_v
        case hR => exact fun _ _ => SV.le_refl _
        case φ => exact fun _ => ⟨hm, φ1⟩
        all_goals first | rfl | decide
      case hP => exact fun r _ v G H Z Z2 h _ k => book_frz h k
    case hN => exact nd
    case hi => rfl
    case hx => wtm_at "bl"
    case h =>
      apply bss_go
      apply bs_if (k := false)
      case hc =>
        apply bt_of_bw
        apply bw_or (k := false) (k' := false)
        case ha =>
          apply bt_cmp
          case ha =>
            apply be_methZE (pl := _) (C := C) (P1 := bookV C m ps) (P := bookV C m (wo ps cs))
            case i => exact fun b => ((m, ps), b, cs)
            case D => exact D.without
            case hr => exact hr.mono (by decide)
            case ho => exact be_var 6 rfl rfl (by wtm_at "bv")
            case hI => exact book_insM nw1 nw2
            case ha => exact be_handed D hr rfl rfl (ds := cs.map natD) (be_var 11 rfl rfl (by wtm_at "bv"))
            case hP2 => exact SV.le_refl _
            case hA => exact fun _ => rfl
            case φ => exact fun b _ => ⟨hm, φ, c1, c2⟩
            case hR => exact fun b => SV.le_refl _
            all_goals rfl
          case hb => exact be_var 13 rfl rfl (by wtm_at "bv")
          case ho =>
            refine ob_neZ (kk := true) (C := C) (i := ((m, wo ps cs), BkO.book m (wo ps cs))) (D.eq _ rfl rfl rfl rfl rfl) (hr.mono (by decide)) D.ne ⟨φ1.few, φ1.few⟩ rfl (dB_le' ?_) book_ins book_ins
            simp [bkEq]
          all_goals first | rfl | exact nomark _ (by decide) (by decide)
        case hb =>
          intro _
          apply bw_or1
          apply bt_cmp
          case ha => exact be_kept (pl := _) D hr
          case hb => exact be_var 4 rfl rfl (by wtm_at "bv")
          case ho =>
            have e := ob_ne (X := XL P w K mg base f cdv A outer s H E) (d := strsD ps) (e := strsD ps) hu (okd.shaped (by decide)) (okd.shaped (by decide))
            rw [eqv_refl] at e
            exact e
          all_goals first | rfl | exact nomark _ (by decide) (by decide)
      case ha => intro hk; cases hk
      case hb =>
        intro _
        apply bss_nil
        exact bss_wk h (by wtm_at "wk")
    all_goals first | rfl | exact .inl rfl
  all_goals first | rfl | exact .inl rfl
end
section
variable {P : Program} {w : World} {K : PySem.W.Frag} {mg : Str → Option Value} {base : Heap} {f C : Addr} {cdv : Value} {A : Around} {outer : List Env} {s : Shared} {H : Hp} {E : XK}
variable {ns : List Int} {p : Addr} {m : Str} {ps : List Str} {R : Post} {rest : List Stmt}
def pairD (x : Str × List Str) : PyData := .tuple [.str x.1, strsD x.2]
def pairs (m : Str) (ps : List Str) : List (Str × List Str) := [(m, ps.drop 1), (m, ps.reverse), ("any", ["abc"]), ("matched", ["abc"])]
theorem abc_ok {m : Str} (h : m = "any" ∨ m = "matched") : okPaths m ["abc"] := by
  rcases h with rfl | rfl
  · exact ⟨fun p hp => by rw [List.mem_singleton.mp hp]; exact ⟨by decide +kernel, by decide, by decide +kernel⟩, by simp, by decide⟩
  · exact ⟨fun p hp => by rw [List.mem_singleton.mp hp]; exact ⟨by decide +kernel, by decide, by decide +kernel⟩, by simp, by decide⟩
theorem pairs_ok (hm : m ∈ manners) (φ : okPaths m ps) : ∀ x ∈ pairs m ps, x.1 ∈ manners ∧ okPaths x.1 x.2 := by
  intro x hx
  have hx' : x = (m, ps.drop 1) ∨ x = (m, ps.reverse) ∨ x = (("any" : Str), [("abc" : Str)]) ∨ x = (("matched" : Str), [("abc" : Str)]) := by simpa [pairs] using hx
  rcases hx' with rfl | rfl | rfl | rfl
  · exact ⟨hm, φ.sub (List.drop_sublist _ _)⟩
  · exact ⟨hm, fun p hp => φ.1 p (List.mem_reverse.mp hp), List.pairwise_reverse.mpr (φ.2.1.imp fun h => Ne.symm h), by rw [List.length_reverse]; exact φ.2.2⟩
  · exact ⟨by decide +kernel, abc_ok (.inl rfl)⟩
  · exact ⟨by decide +kernel, abc_ok (.inr rfl)⟩
theorem law_pairs (D : Dfs P w K mg base C) (hr : Room 7 (XL P w K mg base f cdv A outer s H E).A) (hm : m ∈ manners) (φ : okPaths m ps) (h : BSs (XL P w K mg base f cdv A outer s H E) (G5 K C ns p m ps [.un, .un, .un, .un, .un, .un, .un, .un, .un]) (lawBody.drop 15) R) : BSs (XL P w K mg base f cdv A outer s H E) (G5 K C ns p m ps [.un, .un, .un, .un, .un, .un, .un, .un, .un]) (lawBody.drop 14) R := by
  have nd := sc_law.nd
  have hu : (XL P w K mg base f cdv A outer s H E).A.units + 64 < cLine := hr.units
  have e1 : cutL (ps.map PyData.str) (some 1) none = (ps.drop 1).map PyData.str := by rw [cutL_map]; exact congrArg _ (cutL_from ps 1)
  have e2 : (ps.map PyData.str).reverse = ps.reverse.map PyData.str := (List.map_reverse ..).symm
  apply bss_go
  apply bs_for (inv := fun i Γ' => Wk Γ' (G5 K C ns p m ps [.un, .un, .un, .un, .un, .un, .un, .un, .un]))
  case hI =>
    apply BI.w
    apply bi_list (g := pairD) (xs := pairs m ps) (ds := [.tuple [.str m, .list (cutL (ps.map PyData.str) (some 1) none)], .tuple [.str m, .list (ps.map PyData.str).reverse], .tuple [.str "any", .list [.str "abc"]], .tuple [.str "matched", .list [.str "abc"]]])
    case h =>
      apply be_lstD
      case hl => exact Nat.le_of_ble_eq_true rfl
      case h =>
        apply bad_cons
        case ha =>
          apply be_tupD
          case hl => exact Nat.le_of_ble_eq_true rfl
          case h =>
            apply bad_cons
            case ha => exact be_var 3 rfl rfl (by wtm_at "bv")
            case hr =>
              apply bad_cons
              case ha => exact be_sl (P1 := dL K (ps.map .str)) (l := some 1) (u := none) (be_var 4 rfl rfl (by wtm_at "bv")) (bp_some be_int) bp_none sl_L
              case hr => exact bad_nil
              all_goals rfl
            all_goals rfl
        case hr =>
          apply bad_cons
          case ha =>
            apply be_tupD
            case hl => exact Nat.le_of_ble_eq_true rfl
            case h =>
              apply bad_cons
              case ha => exact be_var 3 rfl rfl (by wtm_at "bv")
              case hr =>
                apply bad_cons
                case ha => exact be_newD (bn_rev (be_var 4 rfl rfl (by wtm_at "bv")))
                case hr => exact bad_nil
                all_goals rfl
              all_goals rfl
          case hr => repeat' wtm_at "bs"
          all_goals rfl
        all_goals rfl
    case hd =>
      rw [e1, e2]
      rfl
  case h0 => wtm_at "wk"
  case hW => exact fun _ _ _ => trivial
  case hp => exact PassesOwn.never
  case hc => rfl
  case hs =>
    rintro i ⟨nm, l⟩ Γ' hx wk
    obtain ⟨hn, φ1⟩ := pairs_ok hm φ _ (List.mem_of_getElem? hx)
    dsimp only at hn φ1
    refine ⟨_, _, _, wk, bg_tup (bgs_cons (bg_name 14 nd rfl (.inl rfl)) (bgs_cons (bg_name 15 nd rfl (.inl rfl)) bgs_nil)) rfl, ?_⟩
    apply bss_one
    apply bs_if (k := false)
    case hc =>
      apply bt_notD (k := true)
      apply bt_val
      case h =>
        apply be_callR
        case i => exact PyData.bool (decide (m = nm) && decide (ps = l))
        case D => exact D.same 0
        case hr => exact hr.mono (by decide)
        case hg => rfl
        case ha =>
          apply ba_cons
          case ha =>
            apply be_cmp
            case ha => exact be_var (P := bookV C m ps) 6 rfl rfl (by wtm_at "bv")
            case hb =>
              apply be_frz (P := bookV C nm l)
              case h =>
                apply bo_make
                case D => exact D.book
                case i => exact fun p => (p, nm, true, l)
                case hr => exact hr.mono (by decide)
                case hg => rfl
                case ha =>
                  apply ba_cons
                  case ha => exact be_var 14 rfl rfl (by wtm_at "bv")
                  case hr =>
                    apply ba_cons
                    case ha => exact be_var 15 rfl rfl (by wtm_at "bv")
                    case hr => exact ba_nil
                    all_goals rfl
                  all_goals rfl
                case hA => exact fun _ => rfl
                case hO => exact fun _ => rfl
                case hv => exact fun p => bookO_v
                case hR => exact fun _ _ => SV.le_refl _
                case φ => exact fun _ => ⟨hn, φ1⟩
                all_goals first | rfl | decide
              case hP => exact fun r _ v G H Z Z2 h _ k => book_frz h k
            case ho => exact ob_eqZ (kk := decide (m = nm) && decide (ps = l)) (C := C) (i := ((m, ps), BkO.book nm l)) (D.eq _ rfl rfl rfl rfl rfl) (hr.mono (by decide)) ⟨φ.few, φ1.few⟩ rfl (SV.le_refl _) book_ins fun Z H v zh p => ⟨_, book_ty D.T zh p, by show PySem.W.notFirst K C (.ref C) = true; simp [PySem.W.notFirst]⟩
            all_goals first | rfl | exact nomark _ (by decide) (by decide)
          case hr =>
            apply ba_cons
            case ha =>
              apply be_and (k := decide (m = nm)) (k' := decide (ps = l))
              case ha =>
                apply be_cmp
                case ha => exact be_var 3 rfl rfl (by wtm_at "bv")
                case hb => exact be_var 14 rfl rfl (by wtm_at "bv")
                case ho => exact ob_eqS
                all_goals first | rfl | exact nomark _ (by decide) (by decide)
              case hb =>
                intro _
                apply be_one
                apply be_cmp
                case ha => exact be_var 4 rfl rfl (by wtm_at "bv")
                case hb => exact be_var 15 rfl rfl (by wtm_at "bv")
                case ho =>
                  have e := ob_eq (X := XL P w K mg base f cdv A outer s H E) (d := strsD ps) (e := strsD l) hu (φ.okd.shaped (by decide)) (φ1.okd.shaped (by decide))
                  rw [eqv_strs] at e
                  exact e
                all_goals first | rfl | exact nomark _ (by decide) (by decide)
            case hr => exact ba_nil
            all_goals rfl
          all_goals rfl
        case φ => exact .bl _
        case hR => exact SV.le_refl _
        all_goals first | rfl | decide
      all_goals exact fun _ => rfl
    case ha => intro hk; cases hk
    case hb =>
      intro _
      apply bss_nil
      show Wk _ _
      wtm_at "wk"
  case hd => exact fun Γ' wk => bss_wk h wk
  all_goals exact fun _ => rfl
theorem law_any (D : Dfs P w K mg base C) (hr : Room 7 (XL P w K mg base f cdv A outer s H E).A) (φ : okPaths m ps) (h : R.nx (G5 K C ns p m ps [.un, .un, .un, .un, .un, .un, .un, .un, .un])) : BSs (XL P w K mg base f cdv A outer s H E) (G5 K C ns p m ps [.un, .un, .un, .un, .un, .un, .un, .un, .un]) (lawBody.drop 15) R := by
  have nd := sc_law.nd
  apply bss_one
  apply bs_if (k := false)
  case hc =>
    apply bt_val
    case h =>
      apply BE.le
      case k => exact dB_le' (show [PyData.none, strsD ps, .int 5, .dict []].any (fun _ => false) = false from rfl)
      apply be_anyC
      case h =>
        apply bn_lcM (f := fun _ => PyData.bool false) (own := [("_law_x", 8)])
        case hI =>
          apply BI.w
          apply bi_list (g := id) (xs := [PyData.none, strsD ps, .int 5, .dict []]) (ds := [PyData.none, strsD ps, .int 5, .dict []])
          case h =>
            apply be_lstD
            case hl => exact Nat.le_of_ble_eq_true rfl
            case h =>
              apply bad_cons
              case ha => exact be_non
              case hr =>
                apply bad_cons
                case ha => exact be_var 4 rfl rfl (by wtm_at "bv")
                case hr =>
                  apply bad_cons
                  case ha => exact be_int
                  case hr =>
                    apply bad_cons
                    case ha => exact be_dict0
                    case hr => exact bad_nil
                    all_goals rfl
                  all_goals rfl
                all_goals rfl
              all_goals rfl
          case hd => rfl
        case hW => trivial
        case hg =>
          intro s H C cl fp x hx
          exact bg_name 8 nd rfl (.inl rfl)
        case he =>
          intro s H C' cl fp x hx
          apply be_cmp
          case ha => exact be_var (P := bookV C m ps) 6 rfl rfl (by wtm_at "bv")
          case hb => exact be_var (P := IsD K x) 8 rfl rfl (by wtm_at "bv")
          case ho => exact ob_eqZ (kk := false) (C := C) (i := ((m, ps), BkO.data x)) (D.eq _ rfl rfl rfl rfl rfl) (hr.mono (by decide)) ⟨φ.few, trivial⟩ rfl (SV.le_refl _) book_ins fun Z H v zh p => ⟨_, ty_of zh p, D.T.nf _ (tyD_mem x)⟩
          all_goals first | rfl | exact nomark _ (by decide) (by decide)
        case hz => exact Nat.le_of_ble_eq_true rfl
        case hc => rfl
        case hN => exact nd
        case ok => exact blkOk_by (N := n_law) (sc := defScope s_law) (by decide +kernel)
        case hno => rfl
        case hts' => rfl
        all_goals exact fun _ => rfl
      case hg => rfl
      case hm => exact D.mA
      all_goals rfl
    all_goals exact fun _ => rfl
  case ha => intro hk; cases hk
  case hb =>
    intro _
    apply bss_nil
    exact h
end
section
variable {P : Program} {w : World} {K : PySem.W.Frag} {mg : Str → Option Value} {base : Heap}
theorem ok_law {f C : Addr} {fd : FuncData} (F : Fun K "law" "law" s_law f fd) (D : Dfs P w K mg base C) : FnOk P w K mg base CX0 8 f fd ["_law_script"] (spLaw K) := by
  refine Fun.okB F sc_law (fun _ => rfl) fun cdv B outer s H E ns hr φ => ?_
  have nd := sc_law.nd
  -- state
  apply bss_go
  apply bs_setO 1
  case he =>
    apply bo_call
    case i => exact ns
    case D => exact D.fresh
    wtm_at "hrm"
    case hg => rfl
    case ha => repeat' wtm_at "bs"
    case φ => trivial
    all_goals first | rfl | decide
  case hN => exact nd
  case hi => rfl
  case hx => wtm_at "bl"
  case h =>
    intro p _
    apply bss_go
    apply bs_for (inv := fun i Γ' => Wk Γ' [.fz (scr K ns), .own (ownSt K p), .un, .un, .un, .un, .un, .un, .un, .un, .un, .un, .un, .un, .un, .un])
    case hI =>
      apply BI.w
      apply bi_range1 (n := 6)
      case hg => rfl
      case hm => exact D.mR
      case h => repeat' wtm_at "bs"
      case h0 => decide
      case h1 => decide
    case h0 => wtm_at "wk"
    case hW => exact fun _ _ _ => trivial
    case hp => exact PassesOwn.never
    case hc => rfl
    case hd =>
      intro Γ' wk
      refine bss_wk ?_ wk
      wtm_at "ret"
      exact SV.le_refl _
    case hs =>
      rintro t0 tx Γ' hx wk
      refine ⟨_, _, _, wk, bg_name 2 nd rfl (.inl rfl), ?_⟩
      -- manner
      apply bss_go
      apply bs_setX 3
      case he =>
        wtm_at "callN"
        case j => exact 1
        case i => exact (p, [PyData.str "any", PyData.str "matched", PyData.str "turned"])
        case D => exact D.one
        wtm_at "hrm"
        case hΓ => rfl
        case ha => repeat' wtm_at "bs"
        case hΓ1 => rfl
        case φ => exact ⟨show 0 < 3 by decide, show 3 < 2 ^ 30 by decide⟩
        case hN => rfl
        case hv => wtm_at "bv"
      case hN => exact nd
      case hi => rfl
      case hx => wtm_at "bl"
      case h =>
        intro d hd
        obtain ⟨m, hm, rfl⟩ : ∃ m, m ∈ manners ∧ d = .str m := by
          have hd' : d = .str "any" ∨ d = .str "matched" ∨ d = .str "turned" := by simpa using hd
          rcases hd' with rfl | rfl | rfl
          · exact ⟨_, by simp [manners], rfl⟩
          · exact ⟨_, by simp [manners], rfl⟩
          · exact ⟨_, by simp [manners], rfl⟩
        -- paths
        apply bss_go
        apply bs_setX 4 (Φ := fun ps : List Str => okPaths m ps) (Pf := fun ps => dL K (ps.map .str))
        case he =>
          apply be_callMR
          case j => exact 1
          case i => exact (p, m, ("abc" : Str), (8 : Int), (5 : Int))
          case D => exact D.lkept
          case hr => exact hr.mono (by decide)
          case hg => rfl
          case hΓ => rfl
          case ha => repeat' wtm_at "bs"
          case hΓ1 => rfl
          case φ => exact ⟨show 1 ≤ (Str.ofString "abc").length by decide, show (Str.ofString "abc").length ≤ 1000 by decide, show ∀ c ∈ (Str.ofString "abc").cps.toList, isSm c = true by decide +kernel, show (0 : Int) ≤ 8 ∧ (8 : Int) ≤ 8 by decide, show (1 : Int) ≤ 5 by decide, show (5 : Int) ≤ 64 by decide⟩
          case hE => rfl
          case hP => exact fun r ψ => ex_of (Ψ := fun ps : List Str => okPaths m ps) (Pf := fun ps => dL K (ps.map .str)) r ψ
          case hN => rfl
          case hv => wtm_at "bv"
          all_goals first | rfl | decide
        case hN => exact nd
        case hi => rfl
        case hx => wtm_at "bl"
        case h =>
          intro ps φ1
          have L : (ps.map PyData.str).length = ps.length := List.length_map _
          have h8 : ps.length ≤ 8 := φ1.2.2
          -- the rest
          have go : ∀ R : Post, R.nx (G5 K C ns p m ps [.un, .un, .un, .un, .un, .un, .un, .un, .un]) → BSs (XL P w K mg base f cdv B outer s H E) (G5 K C ns p m ps [.un, .un, .un, .un, .un, .un, .un, .un, .un]) (lawBody.drop 5) R := fun R hR =>
            law_found D hr hm φ1 (law_short D hr hm φ1 (law_gone D hr hm φ1 (law_pairs D hr hm φ1 (law_any D hr φ1 hR))))
          -- given
          apply bss_go
          apply bs_setO 5 (Ψ := fun _ : Bool × Addr => True) (O := fun r => givO K (ps.map .str) r)
          case he =>
            apply bo_callWR (g := id)
            case j => exact 1
            case i => exact (p, ps.map PyData.str)
            case D => exact D.handed
            case hr => exact hr.mono (by decide)
            case hg => rfl
            case hΓ => rfl
            case ha =>
              apply ba_cons
              case ha =>
                apply be_newD
                apply bn_listL
                case hg => rfl
                case hm => exact D.mL
                case ha =>
                  apply ba_cons
                  case ha => exact be_var 4 rfl rfl (by wtm_at "bv")
                  case hr => exact ba_nil
                  all_goals rfl
                all_goals rfl
              case hr => exact ba_nil
              all_goals rfl
            case hΓ1 => rfl
            case φ => trivial
            case hE => rfl
            case hR => exact fun r _ => ⟨trivial, OV.le_refl _⟩
            case hN => rfl
            case hv => wtm_at "bv"
            all_goals first | rfl | decide
          case hN => exact nd
          case hi => rfl
          case hx => wtm_at "bl"
          case h =>
            rintro ⟨b, q⟩ _
            cases b with
            | true =>
              refine' bss_wk (Γ' := [.fz (scr K ns), .own (ownSt K p), .un, .fz (dS K m), .fz (dL K (ps.map .str)), .own (ownL K q (ps.map .str)), .un, .un, .un, .un, .un, .un, .un, .un, .un, .un]) ?_ ?w
              case w => wtm_at "wk"
              apply bss_go
              apply bs_set 6 (P := bookV C m ps)
              case he =>
                apply be_frz
                case h =>
                  apply bo_makeSeen 5 (q := q) (ds := ps.map PyData.str) (O0 := ownL K q (ps.map .str))
                  case D => exact D.book
                  case i => exact fun p => (p, m, true, ps)
                  case hr => exact hr.mono (by decide)
                  case hg => rfl
                  case h1 => exact be_var 3 rfl rfl (by wtm_at "bv")
                  case hy => exact br_own 5 rfl ownL_v rfl (by wtm_at "bv")
                  case hΓ1 => rfl
                  case hO0 => exact ownL_at
                  case hA => exact fun _ => rfl
                  case hO => exact fun _ => rfl
                  case hR => exact fun _ _ => SV.le_refl _
                  case φ => exact fun _ => ⟨hm, φ1⟩
                  case hZ => exact fun p v G H Z Z2 h => ⟨h.1, h⟩
                  all_goals first | rfl | decide
                case hP => exact fun r _ v G H Z Z2 h _ k => book_frz h k
              case hN => exact nd
              case hi => rfl
              case hx => wtm_at "bl"
              case h =>
                apply bss_go
                apply bs_expr
                case he =>
                  apply be_callMR (P := dN K)
                  case j => exact 5
                  case i => exact (q, ps.map PyData.str)
                  case D => exact D.spoil
                  case hr => exact hr.mono (by decide)
                  case hg => rfl
                  case hΓ => rfl
                  case ha => exact ba_nil
                  case hΓ1 => rfl
                  case φ => exact ⟨by rw [L]; omega, okt_strs ps⟩
                  case hE => rfl
                  case hP => exact fun r ψ => SV.le_refl _
                  case hN => rfl
                  case hv => wtm_at "bv"
                  all_goals first | rfl | decide
                case h =>
                  refine bss_wk (go _ ?_) ?_
                  · show Wk _ _
                    wtm_at "wk"
                  · wtm_at "wk"
                case hs => rfl
              all_goals first | rfl | exact .inl rfl
            | false =>
              refine' bss_wk (Γ' := [.fz (scr K ns), .own (ownSt K p), .un, .fz (dS K m), .fz (dL K (ps.map .str)), .fz (dU K (ps.map .str)), .un, .un, .un, .un, .un, .un, .un, .un, .un, .un]) ?_ ?w
              case w => wtm_at "wk"
              apply bss_go
              apply bs_set 6 (P := bookV C m ps)
              case he =>
                apply be_frz
                case h =>
                  apply bo_make
                  case D => exact D.book
                  case i => exact fun p => (p, m, false, ps)
                  case hr => exact hr.mono (by decide)
                  case hg => rfl
                  case ha =>
                    apply ba_cons
                    case ha => exact be_var 3 rfl rfl (by wtm_at "bv")
                    case hr =>
                      apply ba_cons
                      case ha => exact be_var 5 rfl rfl (by wtm_at "bv")
                      case hr => exact ba_nil
                      all_goals rfl
                    all_goals rfl
                  case hA => exact fun _ => rfl
                  case hO => exact fun _ => rfl
                  case hv => exact fun p => bookO_v
                  case hR => exact fun _ _ => SV.le_refl _
                  case φ => exact fun _ => ⟨hm, φ1⟩
                  all_goals first | rfl | decide
                case hP => exact fun r _ v G H Z Z2 h _ k => book_frz h k
              case hN => exact nd
              case hi => rfl
              case hx => wtm_at "bl"
              case h =>
                apply bss_go
                apply bs_expr
                case he =>
                  apply be_callR (P := dN K)
                  case i => exact PyData.tuple (ps.map PyData.str)
                  case D => exact D.spoilF
                  case hr => exact hr.mono (by decide)
                  case hg => rfl
                  case ha =>
                    apply ba_cons
                    case ha => exact be_var 5 rfl rfl (by wtm_at "bv")
                    case hr => exact ba_nil
                    all_goals rfl
                  case φ => exact .tup (fun d hd => by obtain ⟨s, _, rfl⟩ := List.mem_map.mp hd; exact .str s)
                  case hR => exact SV.le_refl _
                  all_goals first | rfl | decide
                case h =>
                  refine bss_wk (go _ ?_) ?_
                  · show Wk _ _
                    wtm_at "wk"
                  · wtm_at "wk"
                case hs => rfl
              all_goals first | rfl | exact .inl rfl
          all_goals first | rfl | exact .inl rfl
        all_goals first | rfl | exact .inl rfl
      all_goals first | rfl | exact .inl rfl
    all_goals exact fun _ => rfl
  all_goals first | rfl | exact .inl rfl
end
end K11
namespace H11
open PySem PySem.Spec PyProof.Rows L2 B K11
def bkB (K : PySem.W.Frag) (C : Addr) : Bool :=
  He.eqO (PySem.W.findIn K (.ref C) "__class__") (some (some (.builtin "object.__class__"))) && (He.eqO (PySem.W.specialIn K (.builtin "object.__class__") "__get__") (some (some (.builtin "getset_descriptor.__get__"))) &&
  (decide (PySem.W.takesIn K (.builtin "object.__class__") = some true) && (decide (PySem.W.mroIn K C (.type "object") = some true) && (decide (PySem.W.kitOne K (.ref C) (.ref C) = some true) &&
  (tysA.all (fun t => decide (PySem.W.kitOne K (.type t) (.ref C) = some false)) && (tysA.all (fun t => PySem.W.notFirst K C (.type t)) && neIn K C (He.ma K C "__eq__")))))))
theorem bkB_ok {K : PySem.W.Frag} {C : Addr} (h : bkB K C = true) (cl : Cls K C) (nm : NoAttr K C "manner") (np : NoAttr K C "paths") : BookT K C ∧ neIn K C (He.ma K C "__eq__") = true := by
  unfold bkB at h
  simp only [Bool.and_eq_true] at h
  obtain ⟨h1, h2, h3, h4, h5, h6, h7, h8⟩ := h
  exact ⟨⟨cl, nm, np, He.eqO_ok h1, He.eqO_ok h2, of_decide_eq_true h3, of_decide_eq_true h4, of_decide_eq_true h5, fun t ht => of_decide_eq_true (List.all_eq_true.mp h6 t ht), fun t ht => List.all_eq_true.mp h7 t ht⟩, h8⟩
def d_is_integer : He.DefD := ⟨("is_integer", none), "is_integer", "is_integer", defArgs s_is_integer, defBody s_is_integer, defScope s_is_integer, [], []⟩
def d_is_list : He.DefD := ⟨("is_list", none), "is_list", "is_list", defArgs s_is_list, defBody s_is_list, defScope s_is_list, [], []⟩
def d_is_manner : He.DefD := ⟨("is_manner", none), "is_manner", "is_manner", defArgs s_is_manner, defBody s_is_manner, defScope s_is_manner, [], []⟩
def d_is_rising : He.DefD := ⟨("is_rising", none), "is_rising", "is_rising", defArgs s_is_rising, defBody s_is_rising, defScope s_is_rising, [], []⟩
def d_parsed : He.DefD := ⟨("parsed", none), "parsed", "parsed", defArgs s_parsed, defBody s_parsed, defScope s_parsed, [], []⟩
def d_is_path : He.DefD := ⟨("is_path", none), "is_path", "is_path", defArgs s_is_path, defBody s_is_path, defScope s_is_path, [], []⟩
def d_checked_paths : He.DefD := ⟨("checked_paths", none), "checked_paths", "checked_paths", defArgs s_checked_paths, defBody s_checked_paths, defScope s_checked_paths, [], []⟩
def d_checked_indices : He.DefD := ⟨("checked_indices", none), "checked_indices", "checked_indices", defArgs s_checked_indices, defBody s_checked_indices, defScope s_checked_indices, [], []⟩
def d_Book_init : He.DefD := ⟨("Book", some "__init__"), "__init__", "Book.__init__", defArgs s_Book_init, defBody s_Book_init, defScope s_Book_init, [], []⟩
def d_Book_len : He.DefD := ⟨("Book", some "__len__"), "__len__", "Book.__len__", defArgs s_Book_len, defBody s_Book_len, defScope s_Book_len, [], []⟩
def d_Book_iter : He.DefD := ⟨("Book", some "__iter__"), "__iter__", "Book.__iter__", defArgs s_Book_iter, defBody s_Book_iter, defScope s_Book_iter, [], []⟩
def d_Book_eq : He.DefD := ⟨("Book", some "__eq__"), "__eq__", "Book.__eq__", defArgs s_Book_eq, defBody s_Book_eq, defScope s_Book_eq, [], []⟩
def d_Book_kept : He.DefD := ⟨("Book", some "kept"), "kept", "Book.kept", defArgs s_Book_kept, defBody s_Book_kept, defScope s_Book_kept, [], []⟩
def d_Book_further : He.DefD := ⟨("Book", some "further"), "further", "Book.further", defArgs s_Book_further, defBody s_Book_further, defScope s_Book_further, [], []⟩
def d_Book_without : He.DefD := ⟨("Book", some "without"), "without", "Book.without", defArgs s_Book_without, defBody s_Book_without, defScope s_Book_without, [], []⟩
def d_law_fresh : He.DefD := ⟨("_law_fresh", none), "_law_fresh", "_law_fresh", defArgs s_law_fresh, defBody s_law_fresh, defScope s_law_fresh, [], []⟩
def d_law_fill : He.DefD := ⟨("_law_fill", none), "_law_fill", "_law_fill", defArgs s_law_fill, defBody s_law_fill, defScope s_law_fill, [], []⟩
def d_law_take : He.DefD := ⟨("_law_take", none), "_law_take", "_law_take", defArgs s_law_take, defBody s_law_take, defScope s_law_take, [], []⟩
def d_law_one : He.DefD := ⟨("_law_one", none), "_law_one", "_law_one", defArgs s_law_one, defBody s_law_one, defScope s_law_one, [], []⟩
def d_law_mix : He.DefD := ⟨("_law_mix", none), "_law_mix", "_law_mix", defArgs s_law_mix, defBody s_law_mix, defScope s_law_mix, [], []⟩
def d_law_handed : He.DefD := ⟨("_law_handed", none), "_law_handed", "_law_handed", defArgs s_law_handed, defBody s_law_handed, defScope s_law_handed, [], []⟩
def d_law_same : He.DefD := ⟨("_law_same", none), "_law_same", "_law_same", defArgs s_law_same, defBody s_law_same, defScope s_law_same, [], []⟩
def d_law_spoil : He.DefD := ⟨("_law_spoil", none), "_law_spoil", "_law_spoil", defArgs s_law_spoil, defBody s_law_spoil, defScope s_law_spoil, [], []⟩
def d_law_word : He.DefD := ⟨("_law_word", none), "_law_word", "_law_word", defArgs s_law_word, defBody s_law_word, defScope s_law_word, [], []⟩
def d_law_marked : He.DefD := ⟨("_law_marked", none), "_law_marked", "_law_marked", defArgs s_law_marked, defBody s_law_marked, defScope s_law_marked, [], []⟩
def d_law_path : He.DefD := ⟨("_law_path", none), "_law_path", "_law_path", defArgs s_law_path, defBody s_law_path, defScope s_law_path, [], []⟩
def d_law_kept : He.DefD := ⟨("_law_kept", none), "_law_kept", "_law_kept", defArgs s_law_kept, defBody s_law_kept, defScope s_law_kept, [], []⟩
def d_law : He.DefD := ⟨("law", none), "law", "law", defArgs s_law, defBody s_law, defScope s_law, [], []⟩
def fn : List He.DefD := [d_is_integer, d_is_list, d_is_manner, d_is_rising, d_parsed, d_is_path, d_checked_paths, d_checked_indices, d_Book_init, d_Book_len, d_Book_iter, d_Book_eq, d_Book_kept, d_Book_further, d_Book_without, d_law_fresh, d_law_fill, d_law_take, d_law_one, d_law_mix, d_law_handed, d_law_same, d_law_spoil, d_law_word, d_law_marked, d_law_path, d_law_kept, d_law]
def fa : List He.Fa := [.glo "is_integer", .glo "is_list", .glo "is_manner", .glo "is_rising", .glo "parsed", .glo "is_path", .glo "checked_paths", .glo "checked_indices", .glo "_law_fresh", .glo "_law_fill", .glo "_law_take", .glo "_law_one", .glo "_law_mix", .glo "_law_handed", .glo "_law_same", .glo "_law_spoil", .glo "_law_word", .glo "_law_marked", .glo "_law_path", .glo "_law_kept", .glo "law", .glo "Book", .cls "Book", .noat "Book" "manner", .noat "Book" "paths", .mkr "Book", .meth "Book" "__len__", .meth "Book" "__iter__", .meth "Book" "__eq__", .meth "Book" "kept", .meth "Book" "further", .meth "Book" "without", .glo "MANNERS", .free "ValueError", .free "isinstance", .free "all", .free "any", .free "list", .free "enumerate", .free "int", .free "range", .free "tuple", .free "str", .free "len", .free "iter", .free "bool", .free "super", .free "zip", .str "SMALL" "abcdefghijklmnopqrstuvwxyz", .str "CAPITAL" "ABCDEFGHIJKLMNOPQRSTUVWXYZ", .str "DIGITS" "0123456789", .int "MOST_PATHS" 8]
def ex (K : PySem.W.Frag) : Bool := He.tupB K "MANNERS" [.str "any", .str "matched", .str "turned"] && bkB K (He.ga K "Book")
abbrev R : PySem.W.OpenRow := PySem.W.OpenLaw.row PySem.Challenge.rw_toldpaths_k11_books_told
def names0 : List Str := ["__name__", "PathError", "BadManner", "BadKept", "BadIndex", "SMALL", "CAPITAL", "DIGITS", "MANNERS", "is_integer", "is_list", "is_manner", "is_rising", "parsed", "is_path", "MOST_PATHS", "checked_paths", "checked_indices", "Book", "_law_fresh", "_law_fill", "_law_take", "_law_one", "_law_mix", "_law_handed", "_law_same", "_law_spoil", "_law_word", "_law_marked", "_law_path"]
def names1 : List Str := ["_law_kept"]
def names : List Str := names0 ++ names1
abbrev qv : Program := PySem.W.view R.prog [34]
theorem run (w : World) : HandSHeadRun.RunEq R qv (hookB 4 fa fn ex) (obsB 4 fa fn ex) 4000 names w := by
  intro os
  kernel_rfl
def level : Nat := 8
theorem facts {P : Program} {w : World} {K : PySem.W.Frag} {h : Heap} {mg : Str → Option Value} {fa' : Addr} (X : K.In h) (G : h.Ns mainGlobals mg) (hfa : mg "law" = some (.ref fa')) (c : He.SaysD fa fn K) (ce : ex K = true) :
    ∃ fd : FuncData, (∀ (s : Shared) (v : Value), BindsTo s fd ⟨[v], []⟩ [("_law_script", v)]) ∧ ∀ base : Heap, K.In base → base.Ns mainGlobals mg → FnOk P w K mg base CX0 level fa' fd ["_law_script"] (K11.spLaw K) := by
  obtain ⟨fd_is_integer, G_is_integer⟩ := c.def_ 0 (d := d_is_integer) rfl
  have F_is_integer := fun_ofD (st := s_is_integer) G_is_integer
  have b_is_integer := F_is_integer.binds (ps := ["thing"]) fun _ _ _ _ _ _ us hl => match us, hl with | [_], _ => rfl
  have a_is_integer : mg "is_integer" = some (.ref (He.ga K "is_integer")) := He.glo_ok X G (c.fact 0 rfl)
  obtain ⟨fd_is_list, G_is_list⟩ := c.def_ 1 (d := d_is_list) rfl
  have F_is_list := fun_ofD (st := s_is_list) G_is_list
  have b_is_list := F_is_list.binds (ps := ["thing"]) fun _ _ _ _ _ _ us hl => match us, hl with | [_], _ => rfl
  have a_is_list : mg "is_list" = some (.ref (He.ga K "is_list")) := He.glo_ok X G (c.fact 1 rfl)
  obtain ⟨fd_is_manner, G_is_manner⟩ := c.def_ 2 (d := d_is_manner) rfl
  have F_is_manner := fun_ofD (st := s_is_manner) G_is_manner
  have b_is_manner := F_is_manner.binds (ps := ["thing"]) fun _ _ _ _ _ _ us hl => match us, hl with | [_], _ => rfl
  have a_is_manner : mg "is_manner" = some (.ref (He.ga K "is_manner")) := He.glo_ok X G (c.fact 2 rfl)
  obtain ⟨fd_is_rising, G_is_rising⟩ := c.def_ 3 (d := d_is_rising) rfl
  have F_is_rising := fun_ofD (st := s_is_rising) G_is_rising
  have b_is_rising := F_is_rising.binds (ps := ["text"]) fun _ _ _ _ _ _ us hl => match us, hl with | [_], _ => rfl
  have a_is_rising : mg "is_rising" = some (.ref (He.ga K "is_rising")) := He.glo_ok X G (c.fact 3 rfl)
  obtain ⟨fd_parsed, G_parsed⟩ := c.def_ 4 (d := d_parsed) rfl
  have F_parsed := fun_ofD (st := s_parsed) G_parsed
  have b_parsed := F_parsed.binds (ps := ["path"]) fun _ _ _ _ _ _ us hl => match us, hl with | [_], _ => rfl
  have a_parsed : mg "parsed" = some (.ref (He.ga K "parsed")) := He.glo_ok X G (c.fact 4 rfl)
  obtain ⟨fd_is_path, G_is_path⟩ := c.def_ 5 (d := d_is_path) rfl
  have F_is_path := fun_ofD (st := s_is_path) G_is_path
  have b_is_path := F_is_path.binds (ps := ["manner", "thing"]) fun _ _ _ _ _ _ us hl => match us, hl with | [_, _], _ => rfl
  have a_is_path : mg "is_path" = some (.ref (He.ga K "is_path")) := He.glo_ok X G (c.fact 5 rfl)
  obtain ⟨fd_checked_paths, G_checked_paths⟩ := c.def_ 6 (d := d_checked_paths) rfl
  have F_checked_paths := fun_ofD (st := s_checked_paths) G_checked_paths
  have b_checked_paths := F_checked_paths.binds (ps := ["manner", "paths", "found"]) fun _ _ _ _ _ _ us hl => match us, hl with | [_, _, _], _ => rfl
  have a_checked_paths : mg "checked_paths" = some (.ref (He.ga K "checked_paths")) := He.glo_ok X G (c.fact 6 rfl)
  obtain ⟨fd_checked_indices, G_checked_indices⟩ := c.def_ 7 (d := d_checked_indices) rfl
  have F_checked_indices := fun_ofD (st := s_checked_indices) G_checked_indices
  have b_checked_indices := F_checked_indices.binds (ps := ["book", "indices"]) fun _ _ _ _ _ _ us hl => match us, hl with | [_, _], _ => rfl
  have a_checked_indices : mg "checked_indices" = some (.ref (He.ga K "checked_indices")) := He.glo_ok X G (c.fact 7 rfl)
  obtain ⟨fd_Book_init, G_Book_init⟩ := c.def_ 8 (d := d_Book_init) rfl
  have F_Book_init := fun_ofD (st := s_Book_init) G_Book_init
  have b_Book_init := F_Book_init.binds (ps := ["self", "manner", "kept"]) fun _ _ _ _ _ _ us hl => match us, hl with | [_, _, _], _ => rfl
  obtain ⟨fd_Book_len, G_Book_len⟩ := c.def_ 9 (d := d_Book_len) rfl
  have F_Book_len := fun_ofD (st := s_Book_len) G_Book_len
  have b_Book_len := F_Book_len.binds (ps := ["self"]) fun _ _ _ _ _ _ us hl => match us, hl with | [_], _ => rfl
  obtain ⟨fd_Book_iter, G_Book_iter⟩ := c.def_ 10 (d := d_Book_iter) rfl
  have F_Book_iter := fun_ofD (st := s_Book_iter) G_Book_iter
  have b_Book_iter := F_Book_iter.binds (ps := ["self"]) fun _ _ _ _ _ _ us hl => match us, hl with | [_], _ => rfl
  obtain ⟨fd_Book_eq, G_Book_eq⟩ := c.def_ 11 (d := d_Book_eq) rfl
  have F_Book_eq := fun_ofD (st := s_Book_eq) G_Book_eq
  have b_Book_eq := F_Book_eq.binds (ps := ["self", "other"]) fun _ _ _ _ _ _ us hl => match us, hl with | [_, _], _ => rfl
  obtain ⟨fd_Book_kept, G_Book_kept⟩ := c.def_ 12 (d := d_Book_kept) rfl
  have F_Book_kept := fun_ofD (st := s_Book_kept) G_Book_kept
  have b_Book_kept := F_Book_kept.binds (ps := ["self"]) fun _ _ _ _ _ _ us hl => match us, hl with | [_], _ => rfl
  obtain ⟨fd_Book_further, G_Book_further⟩ := c.def_ 13 (d := d_Book_further) rfl
  have F_Book_further := fun_ofD (st := s_Book_further) G_Book_further
  have b_Book_further := F_Book_further.binds (ps := ["self", "paths"]) fun _ _ _ _ _ _ us hl => match us, hl with | [_, _], _ => rfl
  obtain ⟨fd_Book_without, G_Book_without⟩ := c.def_ 14 (d := d_Book_without) rfl
  have F_Book_without := fun_ofD (st := s_Book_without) G_Book_without
  have b_Book_without := F_Book_without.binds (ps := ["self", "indices"]) fun _ _ _ _ _ _ us hl => match us, hl with | [_, _], _ => rfl
  obtain ⟨fd_law_fresh, G_law_fresh⟩ := c.def_ 15 (d := d_law_fresh) rfl
  have F_law_fresh := fun_ofD (st := s_law_fresh) G_law_fresh
  have b_law_fresh := F_law_fresh.binds (ps := ["_law_script"]) fun _ _ _ _ _ _ us hl => match us, hl with | [_], _ => rfl
  have a_law_fresh : mg "_law_fresh" = some (.ref (He.ga K "_law_fresh")) := He.glo_ok X G (c.fact 8 rfl)
  obtain ⟨fd_law_fill, G_law_fill⟩ := c.def_ 16 (d := d_law_fill) rfl
  have F_law_fill := fun_ofD (st := s_law_fill) G_law_fill
  have b_law_fill := F_law_fill.binds (ps := ["_law_state"]) fun _ _ _ _ _ _ us hl => match us, hl with | [_], _ => rfl
  have a_law_fill : mg "_law_fill" = some (.ref (He.ga K "_law_fill")) := He.glo_ok X G (c.fact 9 rfl)
  obtain ⟨fd_law_take, G_law_take⟩ := c.def_ 17 (d := d_law_take) rfl
  have F_law_take := fun_ofD (st := s_law_take) G_law_take
  have b_law_take := F_law_take.binds (ps := ["_law_state", "_law_many"]) fun _ _ _ _ _ _ us hl => match us, hl with | [_, _], _ => rfl
  have a_law_take : mg "_law_take" = some (.ref (He.ga K "_law_take")) := He.glo_ok X G (c.fact 10 rfl)
  obtain ⟨fd_law_one, G_law_one⟩ := c.def_ 18 (d := d_law_one) rfl
  have F_law_one := fun_ofD (st := s_law_one) G_law_one
  have b_law_one := F_law_one.binds (ps := ["_law_state", "_law_things"]) fun _ _ _ _ _ _ us hl => match us, hl with | [_, _], _ => rfl
  have a_law_one : mg "_law_one" = some (.ref (He.ga K "_law_one")) := He.glo_ok X G (c.fact 11 rfl)
  obtain ⟨fd_law_mix, G_law_mix⟩ := c.def_ 19 (d := d_law_mix) rfl
  have F_law_mix := fun_ofD (st := s_law_mix) G_law_mix
  have b_law_mix := F_law_mix.binds (ps := ["_law_state", "_law_things"]) fun _ _ _ _ _ _ us hl => match us, hl with | [_, _], _ => rfl
  have a_law_mix : mg "_law_mix" = some (.ref (He.ga K "_law_mix")) := He.glo_ok X G (c.fact 12 rfl)
  obtain ⟨fd_law_handed, G_law_handed⟩ := c.def_ 20 (d := d_law_handed) rfl
  have F_law_handed := fun_ofD (st := s_law_handed) G_law_handed
  have b_law_handed := F_law_handed.binds (ps := ["_law_state", "_law_things"]) fun _ _ _ _ _ _ us hl => match us, hl with | [_, _], _ => rfl
  have a_law_handed : mg "_law_handed" = some (.ref (He.ga K "_law_handed")) := He.glo_ok X G (c.fact 13 rfl)
  obtain ⟨fd_law_same, G_law_same⟩ := c.def_ 21 (d := d_law_same) rfl
  have F_law_same := fun_ofD (st := s_law_same) G_law_same
  have b_law_same := F_law_same.binds (ps := ["_law_found", "_law_due"]) fun _ _ _ _ _ _ us hl => match us, hl with | [_, _], _ => rfl
  have a_law_same : mg "_law_same" = some (.ref (He.ga K "_law_same")) := He.glo_ok X G (c.fact 14 rfl)
  obtain ⟨fd_law_spoil, G_law_spoil⟩ := c.def_ 22 (d := d_law_spoil) rfl
  have F_law_spoil := fun_ofD (st := s_law_spoil) G_law_spoil
  have b_law_spoil := F_law_spoil.binds (ps := ["_law_x"]) fun _ _ _ _ _ _ us hl => match us, hl with | [_], _ => rfl
  have a_law_spoil : mg "_law_spoil" = some (.ref (He.ga K "_law_spoil")) := He.glo_ok X G (c.fact 15 rfl)
  obtain ⟨fd_law_word, G_law_word⟩ := c.def_ 23 (d := d_law_word) rfl
  have F_law_word := fun_ofD (st := s_law_word) G_law_word
  have b_law_word := F_law_word.binds (ps := ["_law_state", "_law_manner", "_law_letters", "_law_many"]) fun _ _ _ _ _ _ us hl => match us, hl with | [_, _, _, _], _ => rfl
  have a_law_word : mg "_law_word" = some (.ref (He.ga K "_law_word")) := He.glo_ok X G (c.fact 16 rfl)
  obtain ⟨fd_law_marked, G_law_marked⟩ := c.def_ 24 (d := d_law_marked) rfl
  have F_law_marked := fun_ofD (st := s_law_marked) G_law_marked
  have b_law_marked := F_law_marked.binds (ps := ["_law_state", "_law_word_here", "_law_digits", "_law_most"]) fun _ _ _ _ _ _ us hl => match us, hl with | [_, _, _, _], _ => rfl
  have a_law_marked : mg "_law_marked" = some (.ref (He.ga K "_law_marked")) := He.glo_ok X G (c.fact 17 rfl)
  obtain ⟨fd_law_path, G_law_path⟩ := c.def_ 25 (d := d_law_path) rfl
  have F_law_path := fun_ofD (st := s_law_path) G_law_path
  have b_law_path := F_law_path.binds (ps := ["_law_state", "_law_manner", "_law_letters", "_law_many"]) fun _ _ _ _ _ _ us hl => match us, hl with | [_, _, _, _], _ => rfl
  have a_law_path : mg "_law_path" = some (.ref (He.ga K "_law_path")) := He.glo_ok X G (c.fact 18 rfl)
  obtain ⟨fd_law_kept, G_law_kept⟩ := c.def_ 26 (d := d_law_kept) rfl
  have F_law_kept := fun_ofD (st := s_law_kept) G_law_kept
  have b_law_kept := F_law_kept.binds (ps := ["_law_state", "_law_manner", "_law_letters", "_law_most", "_law_many"]) fun _ _ _ _ _ _ us hl => match us, hl with | [_, _, _, _, _], _ => rfl
  have a_law_kept : mg "_law_kept" = some (.ref (He.ga K "_law_kept")) := He.glo_ok X G (c.fact 19 rfl)
  obtain ⟨fd_law, G_law⟩ := c.def_ 27 (d := d_law) rfl
  have F_law := fun_ofD (st := s_law) G_law
  have b_law := F_law.binds (ps := ["_law_script"]) fun _ _ _ _ _ _ us hl => match us, hl with | [_], _ => rfl
  have a_law : mg "law" = some (.ref (He.ga K "law")) := He.glo_ok X G (c.fact 20 rfl)
  have a_Book : mg "Book" = some (.ref (He.ga K "Book")) := He.glo_ok X G (c.fact 21 rfl)
  have cl_Book := He.cls_ok (x := "Book") (c.fact 22 rfl)
  have na_Book_manner := He.noat_ok (x := "Book") (f := "manner") (c.fact 23 rfl)
  have na_Book_paths := He.noat_ok (x := "Book") (f := "paths") (c.fact 24 rfl)
  have mk_Book := He.mkr_ok (x := "Book") (c.fact 25 rfl)
  have me_Book___len__ := He.meth_ok (x := "Book") (m := "__len__") (c.fact 26 rfl)
  have me_Book___iter__ := He.meth_ok (x := "Book") (m := "__iter__") (c.fact 27 rfl)
  have me_Book___eq__ := He.meth_ok (x := "Book") (m := "__eq__") (c.fact 28 rfl)
  have me_Book_kept := He.meth_ok (x := "Book") (m := "kept") (c.fact 29 rfl)
  have me_Book_further := He.meth_ok (x := "Book") (m := "further") (c.fact 30 rfl)
  have me_Book_without := He.meth_ok (x := "Book") (m := "without") (c.fact 31 rfl)
  have a_MANNERS : mg "MANNERS" = some (.ref (He.ga K "MANNERS")) := He.glo_ok X G (c.fact 32 rfl)
  have m_ValueError : mg "ValueError" = none := He.free_ok X G (c.fact 33 rfl)
  have m_isinstance : mg "isinstance" = none := He.free_ok X G (c.fact 34 rfl)
  have m_all : mg "all" = none := He.free_ok X G (c.fact 35 rfl)
  have m_any : mg "any" = none := He.free_ok X G (c.fact 36 rfl)
  have m_list : mg "list" = none := He.free_ok X G (c.fact 37 rfl)
  have m_enumerate : mg "enumerate" = none := He.free_ok X G (c.fact 38 rfl)
  have m_int : mg "int" = none := He.free_ok X G (c.fact 39 rfl)
  have m_range : mg "range" = none := He.free_ok X G (c.fact 40 rfl)
  have m_tuple : mg "tuple" = none := He.free_ok X G (c.fact 41 rfl)
  have m_str : mg "str" = none := He.free_ok X G (c.fact 42 rfl)
  have m_len : mg "len" = none := He.free_ok X G (c.fact 43 rfl)
  have m_iter : mg "iter" = none := He.free_ok X G (c.fact 44 rfl)
  have m_bool : mg "bool" = none := He.free_ok X G (c.fact 45 rfl)
  have m_super : mg "super" = none := He.free_ok X G (c.fact 46 rfl)
  have m_zip : mg "zip" = none := He.free_ok X G (c.fact 47 rfl)
  have g_SMALL := He.str_ok (x := "SMALL") X G (c.fact 48 rfl)
  have g_CAPITAL := He.str_ok (x := "CAPITAL") X G (c.fact 49 rfl)
  have g_DIGITS := He.str_ok (x := "DIGITS") X G (c.fact 50 rfl)
  have g_MOST_PATHS := He.int_ok (x := "MOST_PATHS") X G (c.fact 51 rfl)
  have e := hfa.symm.trans a_law
  cases e
  obtain ⟨ce1, ce2⟩ := Bool.and_eq_true_iff.mp ce
  have b := FunD.bindsA (ps := ["_law_script"]) G_law fun _ _ _ _ _ _ us hl => match us, hl with | [_], _ => rfl
  refine ⟨fd_law, fun s v => b s [v] rfl, fun base _ _ => ?_⟩
  obtain ⟨T, hne⟩ := bkB_ok ce2 cl_Book na_Book_manner na_Book_paths
  have W : Wr K mg := ⟨g_SMALL, g_CAPITAL, g_DIGITS, _, a_MANNERS, fun Z => He.tupB_ok ce1 Z⟩
  have D_law_fill : Df P w K mg base "_law_fill" ["_law_state"] [] 1 (spFill K) := ⟨He.ga K "_law_fill", fd_law_fill, [], a_law_fill, F_law_fill.kp, b_law_fill, .nil, ok_fill F_law_fill m_len m_int m_enumerate⟩
  have D_law_take : Df P w K mg base "_law_take" ["_law_state", "_law_many"] [] 2 (spTake K) := ⟨He.ga K "_law_take", fd_law_take, [], a_law_take, F_law_take.kp, b_law_take, .nil, ok_take F_law_take m_int D_law_fill⟩
  have D_law_one : Df P w K mg base "_law_one" ["_law_state", "_law_things"] [] 3 (spOne K) := ⟨He.ga K "_law_one", fd_law_one, [], a_law_one, F_law_one.kp, b_law_one, .nil, ok_one F_law_one m_len D_law_take⟩
  have D_law_fresh : Df P w K mg base "_law_fresh" ["_law_script"] [] 1 (spFresh K) := ⟨He.ga K "_law_fresh", fd_law_fresh, [], a_law_fresh, F_law_fresh.kp, b_law_fresh, .nil, ok_fresh F_law_fresh⟩
  have D_is_integer : Df P w K mg base "is_integer" ["thing"] [] 1 (spInteger K) := ⟨He.ga K "is_integer", fd_is_integer, [], a_is_integer, F_is_integer.kp, b_is_integer, .nil, ok_is_integer F_is_integer m_isinstance m_int m_bool⟩
  have D_is_list : Df P w K mg base "is_list" ["thing"] [] 1 (spList K) := ⟨He.ga K "is_list", fd_is_list, [], a_is_list, F_is_list.kp, b_is_list, .nil, ok_is_list F_is_list m_isinstance m_list m_tuple⟩
  have D_is_manner : Df P w K mg base "is_manner" ["thing"] [] 1 (spManner K) := ⟨He.ga K "is_manner", fd_is_manner, [], a_is_manner, F_is_manner.kp, b_is_manner, .nil, ok_is_manner F_is_manner W m_isinstance m_str⟩
  have D_is_rising : Df P w K mg base "is_rising" ["text"] [] 1 (spRising K) := ⟨He.ga K "is_rising", fd_is_rising, [], a_is_rising, F_is_rising.kp, b_is_rising, .nil, ok_is_rising F_is_rising m_all m_zip⟩
  have D_parsed : Df P w K mg base "parsed" ["path"] [] 2 (spParsed K) := ⟨He.ga K "parsed", fd_parsed, [], a_parsed, F_parsed.kp, b_parsed, .nil, ok_parsed F_parsed W m_isinstance m_str m_all m_any D_is_rising⟩
  have D_is_path : Df P w K mg base "is_path" ["manner", "thing"] [] 3 (spPath K) := ⟨He.ga K "is_path", fd_is_path, [], a_is_path, F_is_path.kp, b_is_path, .nil, ok_is_path F_is_path W m_all D_is_manner D_parsed⟩
  have D_checked_paths : Df P w K mg base "checked_paths" ["manner", "paths", "found"] [] 4 (spChkP K) := ⟨He.ga K "checked_paths", fd_checked_paths, [], a_checked_paths, F_checked_paths.kp, b_checked_paths, .nil, ok_checked_paths F_checked_paths m_len m_list g_MOST_PATHS D_is_list D_is_path⟩
  have Lbook : DfC P w K mg base "Book" (He.ga K "Book") ["self", "manner", "kept"] [] 5 (spBookInit K (He.ga K "Book")) := ⟨_, fd_Book_init, [], mk_Book, a_Book, b_Book_init, .nil, ok_Book_init F_Book_init T D_is_manner D_checked_paths⟩
  have Slen : ∀ X : Cx, X.prog = P → X.w = w → X.K = K → X.mg = mg → X.base = base → Spc X (He.ga K "Book") "__len__" 1 ["self"] (spBookLen K (He.ga K "Book")) := fun X e1 e2 e3 e4 e5 => by
    subst e1 e2 e3 e4 e5
    exact ⟨_, fd_Book_len, me_Book___len__.at_, me_Book___len__.fn, ok_Book_len F_Book_len T m_len, b_Book_len⟩
  have Seq : ∀ X : Cx, X.prog = P → X.w = w → X.K = K → X.mg = mg → X.base = base → Spc X (He.ga K "Book") "__eq__" 1 ["self", "other"] (spBookEq K (He.ga K "Book")) := fun X e1 e2 e3 e4 e5 => by
    subst e1 e2 e3 e4 e5
    exact ⟨_, fd_Book_eq, me_Book___eq__.at_, me_Book___eq__.fn, ok_Book_eq F_Book_eq T a_Book m_isinstance, b_Book_eq⟩
  have Sit : ∀ X : Cx, X.prog = P → X.w = w → X.K = K → X.mg = mg → X.base = base → IterOk X (He.ga K "Book") "paths" 2 := fun X e1 e2 e3 e4 e5 => by
    subst e1 e2 e3 e4 e5
    exact iter_ok F_Book_iter b_Book_iter me_Book___iter__.at_ me_Book___iter__.fn T m_iter
  have hne' : ∀ f, PySem.W.findIn K (.ref (He.ga K "Book")) "__eq__" = some (some (.ref f)) → neIn K (He.ga K "Book") f = true := fun f hf => by
    have e := hf.symm.trans me_Book___eq__.at_
    cases e
    exact hne
  have D_checked_indices : Df P w K mg base "checked_indices" ["book", "indices"] [] 3 (spChkI K (He.ga K "Book")) := ⟨He.ga K "checked_indices", fd_checked_indices, [], a_checked_indices, F_checked_indices.kp, b_checked_indices, .nil, ok_checked_indices F_checked_indices m_len m_list m_enumerate D_is_list D_is_integer Slen⟩
  have D_Book_kept : DfM P w K mg base (He.ga K "Book") "kept" ["self"] [] 1 (spBookKept K (He.ga K "Book")) := ⟨_, fd_Book_kept, [], cl_Book, me_Book_kept, b_Book_kept, .nil, ok_Book_kept F_Book_kept T m_list⟩
  have D_Book_further : DfM P w K mg base (He.ga K "Book") "further" ["self", "paths"] [] 7 (spFurther K (He.ga K "Book")) := ⟨_, fd_Book_further, [], cl_Book, me_Book_further, b_Book_further, .nil, ok_Book_further F_Book_further T D_checked_paths Lbook⟩
  have D_Book_without : DfM P w K mg base (He.ga K "Book") "without" ["self", "indices"] [] 7 (spWithout K (He.ga K "Book")) := ⟨_, fd_Book_without, [], cl_Book, me_Book_without, b_Book_without, .nil, ok_Book_without F_Book_without T m_enumerate D_checked_indices Lbook⟩
  have D_law_mix : Df P w K mg base "_law_mix" ["_law_state", "_law_things"] [] 3 (spMix K) := ⟨He.ga K "_law_mix", fd_law_mix, [], a_law_mix, F_law_mix.kp, b_law_mix, .nil, ok_mix F_law_mix m_list m_len D_law_take⟩
  have D_law_handed : Df P w K mg base "_law_handed" ["_law_state", "_law_things"] [] 3 (spHanded K) := ⟨He.ga K "_law_handed", fd_law_handed, [], a_law_handed, F_law_handed.kp, b_law_handed, .nil, ok_handed F_law_handed m_list m_tuple D_law_take⟩
  have D_law_word : Df P w K mg base "_law_word" ["_law_state", "_law_manner", "_law_letters", "_law_many"] [] 4 (spWord K) := ⟨He.ga K "_law_word", fd_law_word, [], a_law_word, F_law_word.kp, b_law_word, .nil, ok_word F_law_word m_range m_list D_law_take D_law_one⟩
  have D_law_marked : Df P w K mg base "_law_marked" ["_law_state", "_law_word_here", "_law_digits", "_law_most"] [] 3 (spMarked K) := ⟨He.ga K "_law_marked", fd_law_marked, [], a_law_marked, F_law_marked.kp, b_law_marked, .nil, ok_marked F_law_marked m_list m_len D_law_take⟩
  have D_law_path : Df P w K mg base "_law_path" ["_law_state", "_law_manner", "_law_letters", "_law_many"] [] 5 (spLPath K) := ⟨He.ga K "_law_path", fd_law_path, [], a_law_path, F_law_path.kp, b_law_path, .nil, ok_lpath F_law_path D_law_word D_law_take D_law_one D_law_marked⟩
  have D_law_kept : Df P w K mg base "_law_kept" ["_law_state", "_law_manner", "_law_letters", "_law_most", "_law_many"] [] 6 (spKeptL K) := ⟨He.ga K "_law_kept", fd_law_kept, [], a_law_kept, F_law_kept.kp, b_law_kept, .nil, ok_kept F_law_kept m_range D_law_take D_law_path⟩
  have Dsame : ∀ n, Df P w K mg base "_law_same" ["_law_found", "_law_due"] [] (n + 1) (spSame K n) := fun n => ⟨_, fd_law_same, [], a_law_same, F_law_same.kp, b_law_same, .nil, ok_same F_law_same a_law_same F_law_same.kp b_law_same m_isinstance m_list m_tuple m_int m_bool m_len m_all m_zip n⟩
  have Dsp : Df P w K mg base "_law_spoil" ["_law_x"] [] 3 (spSpoilO K 1) := ⟨_, fd_law_spoil, [], a_law_spoil, F_law_spoil.kp, b_law_spoil, .nil, ok_spoilO F_law_spoil a_law_spoil F_law_spoil.kp b_law_spoil m_isinstance m_list m_tuple 1⟩
  have Dsf : Df P w K mg base "_law_spoil" ["_law_x"] [] 2 (spSpoilF K 1) := ⟨_, fd_law_spoil, [], a_law_spoil, F_law_spoil.kp, b_law_spoil, .nil, ok_spoilF F_law_spoil a_law_spoil F_law_spoil.kp b_law_spoil m_isinstance m_list m_tuple 1⟩
  exact ok_law F_law ⟨T, m_range, m_list, m_len, m_enumerate, m_any, hne', D_law_fresh, D_law_take, D_law_one, D_law_mix, D_law_handed, Dsame, Dsp, Dsf, D_law_kept, Lbook, D_Book_kept, D_Book_further, D_Book_without, Slen, Seq, Sit⟩
abbrev spLaw := @K11.spLaw
theorem spLaw_ok {K : PySem.W.Frag} (H : Hp) (a : Addr) (ns : List Int) (hl : ns.length ≤ 63) (hO : Only H) (hS : SqL K H a (ns.map V.int)) : spLaw K [.ref a] H (fun v _ => v = .bl true) fun _ _ _ => False :=
  ⟨ns, H, trivial, fun _ _ e => e, .cons ⟨a, rfl, hS⟩ .nil, fun v Z' H' g p => dB_p p⟩
end H11
open PySem PySem.W PySem.Calls PyProof.Rows
set_option maxRecDepth 100000 in
set_option maxHeartbeats 0 in
theorem PySem.Challenge.cw_toldpaths_k11_books_told_holds : PySem.Challenge.rw_toldpaths_k11_books_told.Holds := by
  w_on; o_law
  refine HandSHeadRun.head_any (r := OpenLaw.row PySem.Challenge.rw_toldpaths_k11_books_told) (q := H11.qv) (H := B.hookB 4 H11.fa H11.fn H11.ex) (ob := B.obsB 4 H11.fa H11.fn H11.ex) (M := 4000) (loose := H11.names) (d := HandSHeadRun.topDef (OpenLaw.row PySem.Challenge.rw_toldpaths_k11_books_told).prog 34) (kwd := []) B.obsB_eq
    (by kernel_rfl) (fun s => by kernel_rfl) H11.run (by kernel_rfl) (by kernel_rfl) (by kernel_rfl) (by rfl) (by first | assumption | decide +kernel) (by decide +kernel) ⟨rfl, rfl, rfl, rfl, rfl, by decide +kernel⟩ ?hw ?hc
  case hw => w_witness2
  case hc =>
    refine L2.walk_ofE (l := PySem.Challenge.rw_toldpaths_k11_books_told) (n := 63) (k := H11.level) (x := "_law_script") (CX := L2.CX0) rfl (by decide) (by kernel_rfl) ⟨rfl, by decide, by decide⟩ ?F (fun _ _ _ _ z => z)
    intro w mg fa h Y G hmg0
    obtain ⟨K, KX, c, ce⟩ := Y
    have hmg : mg ("law" : PySem.Str) = some (.ref fa) := by
      have e : (HandSHeadRun.topDef (OpenLaw.row PySem.Challenge.rw_toldpaths_k11_books_told).prog 34).name = ("law" : PySem.Str) := by kernel_rfl
      rw [← e]
      exact hmg0
    obtain ⟨fd, hb, hF⟩ := H11.facts (P := (PySem.Challenge.rw_toldpaths_k11_books_told).prog) (w := w) KX G hmg c ce
    exact ⟨K, fd, H11.spLaw K, KX, hb, H11.spLaw_ok, hF⟩
