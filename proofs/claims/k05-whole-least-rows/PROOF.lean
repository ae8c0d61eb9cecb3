import PyProof.Rows.All
import Wide.All
import OpenK.AllK
import Wide.FinOn
import HandS.ForMost
import HandS.IsInst
import HandS.Star
import HandS.Zip
import HandS.TupMul
import HandS.TupAny
import HandS.SetFor
import HandS.Strs
import KE.KDictKeyed
import KE.KDictDisplayH
import KE.SortData
import PyProof.ListMulRoad
import PyProof.FactsAll.tuple_2
import KE.GoesMore
import KE.KDictWalk
import PySem.Challenge.RW_standgates_k05_whole_least_rows
set_option Elab.async false
set_option linter.all false
set_option maxRecDepth 100000
set_option maxHeartbeats 4000000
/-! Part A: data over the abstract heap, owned objects, environments of data, judgements. -/
namespace SG
open PySem PySem.Spec PyProof.Rows L2

/-! ### data stays while what is tracked stays -/
theorem sqT_up {K : PySem.W.Frag} {H H' : Hp} {a : Addr} {xs : List V} (e : Same H H') (h : SqT K H a xs) : SqT K H' a xs := by
  rcases h with (h | ⟨o, h⟩) | h
  · exact .inl (.inl (e _ _ h))
  · exact .inl (.inr ⟨o, e _ _ h⟩)
  · exact .inr h
mutual
theorem dp_up {K : PySem.W.Frag} {H H' : Hp} (e : Same H H') : ∀ (d : PyData) (v : V), Dp K H v d → Dp K H' v d
  | .none, _, h => by cases h; exact .non
  | .bool b, _, h => by cases h; exact .bl b
  | .int i, _, h => by cases h; exact .int i
  | .str x, _, h => by cases h; exact .str x
  | .list ds, _, h => by cases h with | lst hs ha => exact .lst (e.seq hs) (dpAll_up e ds _ ha)
  | .tuple ds, _, h => by cases h with | tup hs ha => exact .tup (sqT_up e hs) (dpAll_up e ds _ ha)
  | .dict _, _, h => by cases h
theorem dpAll_up {K : PySem.W.Frag} {H H' : Hp} (e : Same H H') : ∀ (ds : List PyData) (vs : List V), DpAll K H vs ds → DpAll K H' vs ds
  | [], _, h => by cases h; exact .nil
  | d :: ds, _, h => by cases h with | cons h1 h2 => exact .cons (dp_up e d _ h1) (dpAll_up e ds _ h2)
end
theorem dpAll_len {K : PySem.W.Frag} {H : Hp} : ∀ {ds : List PyData} {vs : List V}, DpAll K H vs ds → vs.length = ds.length
  | [], _, h => by cases h; rfl
  | d :: ds, _, h => by cases h with | cons h1 h2 => rw [List.length_cons, List.length_cons, dpAll_len h2]
theorem dpAll_get {K : PySem.W.Frag} {H : Hp} : ∀ {ds : List PyData} {vs : List V} {i : Nat} {d : PyData}, DpAll K H vs ds → ds[i]? = some d → ∃ v, vs[i]? = some v ∧ Dp K H v d
  | [], _, i, d, h, e => by simp at e
  | d :: ds, _, 0, x, h, e => by
    cases h with | cons h1 h2 =>
    have e' : d = x := Option.some.inj e
    rw [← e']
    exact ⟨_, rfl, h1⟩
  | d :: ds, _, i + 1, x, h, e => by
    cases h with | cons h1 h2 =>
    obtain ⟨v, e2, q⟩ := dpAll_get (i := i) h2 e
    exact ⟨v, e2, q⟩
theorem dpAll_at {K : PySem.W.Frag} {H : Hp} : ∀ {ds : List PyData} {vs : List V} {i : Nat} {v : V}, DpAll K H vs ds → vs[i]? = some v → ∃ d, ds[i]? = some d ∧ Dp K H v d
  | [], _, i, d, h, e => by cases h; simp at e
  | d :: ds, _, 0, x, h, e => by
    cases h with | cons h1 h2 =>
    rw [← Option.some.inj e]
    exact ⟨_, rfl, h1⟩
  | d :: ds, _, i + 1, x, h, e => by
    cases h with | cons h1 h2 =>
    obtain ⟨v, e2, q⟩ := dpAll_at (i := i) h2 e
    exact ⟨v, e2, q⟩
theorem dpAll_app {K : PySem.W.Frag} {H : Hp} : ∀ {ds es : List PyData} {vs us : List V}, DpAll K H vs ds → DpAll K H us es → DpAll K H (vs ++ us) (ds ++ es)
  | [], _, _, _, h, g => by cases h; exact g
  | d :: ds, _, _, _, h, g => by cases h with | cons h1 h2 => exact .cons h1 (dpAll_app h2 g)
theorem dpAll_one {K : PySem.W.Frag} {H : Hp} {v : V} {d : PyData} (h : Dp K H v d) : DpAll K H [v] [d] := .cons h .nil
theorem dpAll_take {K : PySem.W.Frag} {H : Hp} : ∀ {ds : List PyData} {vs : List V} (n : Nat), DpAll K H vs ds → DpAll K H (vs.take n) (ds.take n)
  | _, _, 0, _ => .nil
  | [], _, n + 1, h => by cases h; exact .nil
  | d :: ds, _, n + 1, h => by cases h with | cons h1 h2 => exact .cons h1 (dpAll_take n h2)
theorem dpAll_drop {K : PySem.W.Frag} {H : Hp} : ∀ {ds : List PyData} {vs : List V} (n : Nat), DpAll K H vs ds → DpAll K H (vs.drop n) (ds.drop n)
  | _, _, 0, h => h
  | [], _, n + 1, h => by cases h; exact .nil
  | d :: ds, _, n + 1, h => by cases h with | cons h1 h2 => exact dpAll_drop n h2

/-! ### the owned addresses are masked -/
abbrev Own := Addr → Prop
open Classical in
noncomputable def msk (L : Own) (H : Hp) : Hp := fun a => if L a then none else H a
theorem msk_in {L : Own} {H : Hp} {a : Addr} (h : L a) : msk L H a = none := if_pos h
theorem msk_out {L : Own} {H : Hp} {a : Addr} (h : ¬ L a) : msk L H a = H a := if_neg h
theorem msk_some {L : Own} {H : Hp} {a : Addr} {o : HO} (h : msk L H a = some o) : ¬ L a ∧ H a = some o := by
  by_cases q : L a
  · rw [msk_in q] at h; cases h
  · rw [msk_out q] at h; exact ⟨q, h⟩
theorem msk_same (L : Own) (H : Hp) : Same (msk L H) H := fun _ _ h => (msk_some h).2
theorem msk_up {L : Own} {H H' : Hp} (e : Same H H') : Same (msk L H) (msk L H') := fun a o h => by
  obtain ⟨h1, h2⟩ := msk_some h
  rw [msk_out h1]
  exact e a o h2
theorem msk_less {L L' : Own} {H : Hp} (h : ∀ a, L a → L' a) : Same (msk L' H) (msk L H) := fun a o q => by
  obtain ⟨h1, h2⟩ := msk_some q
  rw [msk_out fun z => h1 (h a z)]
  exact h2
/-- a write at an owned place is not seen -/
theorem msk_upd {L : Own} {H : Hp} {a : Addr} {o : HO} (h : L a) : msk L (upd H a o) = msk L H := by
  funext b
  by_cases hb : L b
  · rw [msk_in hb, msk_in hb]
  · rw [msk_out hb, msk_out hb, upd_ne fun e => hb (by rw [e]; exact h)]
def plus (L : Own) (a : Addr) : Own := fun b => L b ∨ b = a
/-- an address that was not tracked is taken into the owned ones -/
theorem msk_plus {L : Own} {H H' : Hp} {a : Addr} (e : Same H H') (n : H a = none) : Same (msk L H) (msk (plus L a) H') := fun b o q => by
  obtain ⟨h1, h2⟩ := msk_some q
  have ne : b ≠ a := ne_of_none h2 n
  rw [msk_out fun z => z.elim h1 ne]
  exact e b o h2
theorem same_upd {H : Hp} {p : Addr} {o : HO} (h : H p = none) : Same H (upd H p o) := fun b x e => by
  rw [upd_ne (ne_of_none e h)]
  exact e

/-! ### typed data -/
abbrev S := List (List Int)
def encR (r : List Int) : PyData := .tuple (r.map .int)
def encS (s : S) : PyData := .tuple (s.map encR)
def nkR (r : List Int) : NestedKey := .tup (r.map .num)
def nk (s : S) : NestedKey := .tup (s.map nkR)
theorem num_inj : ∀ {a b : List Int}, a.map NestedKey.num = b.map NestedKey.num → a = b
  | [], [], _ => rfl
  | [], _ :: _, h => by simp at h
  | _ :: _, [], h => by simp at h
  | a :: as, b :: bs, h => by
    rw [List.map_cons, List.map_cons] at h
    injection h with h1 h2
    injection h1 with h1
    rw [h1, num_inj h2]
theorem nkR_inj {a b : List Int} (h : nkR a = nkR b) : a = b := by
  unfold nkR at h
  injection h with h
  exact num_inj h
theorem nk_injL : ∀ {a b : S}, a.map nkR = b.map nkR → a = b
  | [], [], _ => rfl
  | [], _ :: _, h => by simp at h
  | _ :: _, [], h => by simp at h
  | a :: as, b :: bs, h => by
    rw [List.map_cons, List.map_cons] at h
    injection h with h1 h2
    rw [nkR_inj h1, nk_injL h2]
theorem nk_inj {a b : S} (h : nk a = nk b) : a = b := by
  unfold nk at h
  injection h with h
  exact nk_injL h

/-! ### environments: what each slot holds, as data -/
/-- the content of a slot: data that stays; a list of one's own; a dict of one's own; the row of draws -/
inductive Slot where
  | d (x : PyData)
  | l (xs : List PyData)
  | m (kvs : List (S × PyData))
  | f (a : Addr) (xs : List PyData)
  | r (a : Addr) (ns : List Int)
def Slot.owned : Slot → Prop
  | .d _ => False
  | _ => True
abbrev Rho := List (Option Slot)
def EntOk (K : PySem.W.Frag) (H : Hp) (x : S × Addr × Value) (y : S × PyData) : Prop := x.1 = y.1 ∧ Dp K H (.ref x.2.1) (encS x.1) ∧ ∃ v, RelV v x.2.2 ∧ Dp K H v y.2
def rawE (x : S × Addr × Value) : NestedKey × Addr × Value := (nk x.1, x.2.1, x.2.2)
/-- the dict at a, by its one object -/
structure DictAt (P : Program) (w : World) (K : PySem.W.Frag) (H : Hp) (a : Addr) (o : Obj) (xs : List (S × Addr × Value)) (kvs : List (S × PyData)) : Prop where
  exact : o.ExactDict
  mods : (a == sysModules) = false
  data : ∃ es ep, o.data = .dict es ep ∧ es.toList = (xs.map rawE).map (entryOfKey (nestedKind P w))
  ents : Paired (EntOk K H) xs kvs
  nd : (kvs.map (·.1)).Nodup
  few : kvs.length ≤ 100000
def ObjIs (a : Addr) (o : Obj) : HO := .ext fun h => h.get? a = some o
/-- the row of draws at a: its script, three numbers -/
def RowAt (K : PySem.W.Frag) (L : Own) (H : Hp) (a : Addr) (ns : List Int) : Prop := ∃ (sc : Addr) (i j k : Int), H a = some (.lst [.ref sc, .int i, .int j, .int k]) ∧ 0 ≤ i ∧ SqL K (msk L H) sc (ns.map V.int)
def SlotAt (P : Program) (w : World) (K : PySem.W.Frag) (L : Own) (H : Hp) (v : V) : Slot → Prop
  | .d x => Dp K (msk L H) v x
  | .l xs => ∃ a vs, v = .ref a ∧ L a ∧ H a = some (.lst vs) ∧ DpAll K (msk L H) vs xs
  | .m kvs => ∃ a o xs, v = .ref a ∧ L a ∧ H a = some (ObjIs a o) ∧ DictAt P w K (msk L H) a o xs kvs
  | .f a xs => v = .ref a ∧ L a ∧ ∃ vs, H a = some (.lst vs) ∧ DpAll K (msk L H) vs xs
  | .r a ns => v = .ref a ∧ L a ∧ RowAt K L H a ns
theorem ent_up {K : PySem.W.Frag} {H H' : Hp} (e : Same H H') {x : S × Addr × Value} {y : S × PyData} (h : EntOk K H x y) : EntOk K H' x y := by
  obtain ⟨h1, h2, v, h3, h4⟩ := h
  exact ⟨h1, dp_up e _ _ h2, v, h3, dp_up e _ _ h4⟩
theorem DictAt.up {P : Program} {w : World} {K : PySem.W.Frag} {H H' : Hp} {a : Addr} {o : Obj} {xs : List (S × Addr × Value)} {kvs : List (S × PyData)} (e : Same H H') (h : DictAt P w K H a o xs kvs) : DictAt P w K H' a o xs kvs :=
  ⟨h.exact, h.mods, h.data, Paired.mapP h.ents fun _ _ q => ent_up e q, h.nd, h.few⟩
theorem slot_move {P : Program} {w : World} {K : PySem.W.Frag} {L L' : Own} {H H' : Hp} {v : V} {s : Slot} (e : Same (msk L H) (msk L' H')) (ho : s.owned → ∀ a, v = .ref a → L a → L' a ∧ H' a = H a) (h : SlotAt P w K L H v s) : SlotAt P w K L' H' v s := by
  cases s with
  | d x => exact dp_up e _ _ h
  | l xs =>
    obtain ⟨a, vs, ev, ha, hH, hd⟩ := h
    obtain ⟨q1, q2⟩ := ho trivial a ev ha
    exact ⟨a, vs, ev, q1, q2.trans hH, dpAll_up e _ _ hd⟩
  | m kvs =>
    obtain ⟨a, o, xs, ev, ha, hH, hd⟩ := h
    obtain ⟨q1, q2⟩ := ho trivial a ev ha
    exact ⟨a, o, xs, ev, q1, q2.trans hH, hd.up e⟩
  | f a xs =>
    obtain ⟨ev, ha, vs, hH, hd⟩ := h
    obtain ⟨q1, q2⟩ := ho trivial a ev ha
    exact ⟨ev, q1, vs, q2.trans hH, dpAll_up e _ _ hd⟩
  | r a ns =>
    obtain ⟨ev, ha, sc, i, j, k, hH, h0, hd⟩ := h
    obtain ⟨q1, q2⟩ := ho trivial a ev ha
    exact ⟨ev, q1, sc, i, j, k, q2.trans hH, h0, e.seq hd⟩
theorem slot_ref {P : Program} {w : World} {K : PySem.W.Frag} {L : Own} {H : Hp} {v : V} {s : Slot} (ow : s.owned) (h : SlotAt P w K L H v s) : ∃ a, v = .ref a ∧ L a ∧ H a ≠ none := by
  cases s with
  | d x => exact ow.elim
  | l xs => obtain ⟨a, vs, ev, ha, hH, hd⟩ := h; exact ⟨a, ev, ha, by rw [hH]; exact fun z => nomatch z⟩
  | m kvs => obtain ⟨a, o, xs, ev, ha, hH, hd⟩ := h; exact ⟨a, ev, ha, by rw [hH]; exact fun z => nomatch z⟩
  | f a xs => obtain ⟨ev, ha, vs, hH, hd⟩ := h; exact ⟨a, ev, ha, by rw [hH]; exact fun z => nomatch z⟩
  | r a ns => obtain ⟨ev, ha, sc, i, j, k, hH, h0, hd⟩ := h; exact ⟨a, ev, ha, by rw [hH]; exact fun z => nomatch z⟩

/-- the slots σ over the heap H hold what ρ says; HB: a heap that stays; L0: what callers own; L: L0 and one's own -/
structure ES (P : Program) (w : World) (K : PySem.W.Frag) (HB : Hp) (L0 L : Own) (σ : L2.St) (H : Hp) (ρ : Rho) : Prop where
  base : Same HB H
  fr : ∀ a, L0 a → L a
  own : ∀ a, L a → ¬ L0 a → HB a = none
  trk : ∀ a, L a → H a ≠ none
  len : σ.length = ρ.length
  at_ : ∀ (i : Nat) (s : Slot), ρ[i]? = some (some s) → ∃ v, σ[i]? = some (some v) ∧ SlotAt P w K L H v s
  mine : ∀ (i : Nat) (s : Slot) (a : Addr), ρ[i]? = some (some s) → s.owned → σ[i]? = some (some (.ref a)) → ¬ L0 a
  sep : ∀ (i j : Nat) (s t : Slot) (a : Addr), i ≠ j → ρ[i]? = some (some s) → ρ[j]? = some (some t) → s.owned → t.owned → σ[i]? = some (some (.ref a)) → σ[j]? = some (some (.ref a)) → False
section
variable {P : Program} {w : World} {K : PySem.W.Frag} {HB H H' : Hp} {L0 L : Own} {σ : L2.St} {ρ : Rho}
theorem ES.up (e : Same H H') (h : ES P w K HB L0 L σ H ρ) : ES P w K HB L0 L σ H' ρ where
  base := h.base.trans e
  fr := h.fr
  own := h.own
  trk := fun a ha z => by
    cases q : H a with
    | none => exact h.trk a ha q
    | some o => rw [e a o q] at z; cases z
  len := h.len
  at_ := fun i s hs => by
    obtain ⟨v, hv, q⟩ := h.at_ i s hs
    refine ⟨v, hv, slot_move (msk_up e) (fun _ a _ ha => ⟨ha, ?_⟩) q⟩
    cases q : H a with
    | none => exact (h.trk a ha q).elim
    | some o => exact e a o q
  mine := h.mine
  sep := h.sep
/-- a fresh address is not owned -/
theorem ES.fresh (h : ES P w K HB L0 L σ H ρ) {a : Addr} (n : H a = none) : ¬ L a := fun z => h.trk a z n
theorem ES.datum (h : ES P w K HB L0 L σ H ρ) {i : Nat} {x : PyData} (e : ρ[i]? = some (some (.d x))) : ∃ v, σ[i]? = some (some v) ∧ Dp K (msk L H) v x := h.at_ i _ e
/-- a slot is given data -/
theorem ES.set {i : Nat} {v : V} {x : PyData} (h : ES P w K HB L0 L σ H ρ) (hv : Dp K (msk L H) v x) : ES P w K HB L0 L (σ.set i (some v)) H (ρ.set i (some (.d x))) where
  base := h.base
  fr := h.fr
  own := h.own
  trk := h.trk
  len := by rw [List.length_set, List.length_set, h.len]
  at_ := fun j s hs => by
    by_cases e : i = j
    · subst e
      by_cases hi : i < ρ.length
      · rw [List.getElem?_set_self hi] at hs
        cases hs
        exact ⟨v, List.getElem?_set_self (by rw [h.len]; exact hi), hv⟩
      · rw [List.getElem?_eq_none (by rw [List.length_set]; omega)] at hs; cases hs
    · rw [List.getElem?_set_ne e] at hs
      rw [List.getElem?_set_ne e]
      exact h.at_ j s hs
  mine := fun j s a hs ow hj => by
    by_cases e : i = j
    · subst e
      by_cases hi : i < ρ.length
      · rw [List.getElem?_set_self hi] at hs
        cases hs
        exact ow.elim
      · rw [List.getElem?_eq_none (by rw [List.length_set]; omega)] at hs; cases hs
    · rw [List.getElem?_set_ne e] at hs hj
      exact h.mine j s a hs ow hj
  sep := fun j k s t a ne hs ht os ot hj hk => by
    have go : ∀ (m : Nat) (u : Slot), (ρ.set i (some (.d x)))[m]? = some (some u) → u.owned → i ≠ m := fun m u hu ou e => by
      subst e
      by_cases hi : i < ρ.length
      · rw [List.getElem?_set_self hi] at hu
        cases hu
        exact ou.elim
      · rw [List.getElem?_eq_none (by rw [List.length_set]; omega)] at hu; cases hu
    have e1 := go j s hs os
    have e2 := go k t ht ot
    rw [List.getElem?_set_ne e1] at hs hj
    rw [List.getElem?_set_ne e2] at ht hk
    exact h.sep j k s t a ne hs ht os ot hj hk
/-- a slot is given an object of one's own that was just made -/
theorem ES.setNew {i : Nat} {a : Addr} {s : Slot} (h : ES P w K HB L0 L σ H ρ) (n : H a = none) (e : Same H H') (hs : SlotAt P w K (plus L a) H' (.ref a) s) (ow : s.owned) : ES P w K HB L0 (plus L a) (σ.set i (some (.ref a))) H' (ρ.set i (some s)) where
  base := h.base.trans e
  fr := fun b hb => .inl (h.fr b hb)
  own := fun b hb nb => by
    rcases hb with hb | rfl
    · exact h.own b hb nb
    · cases q : HB b with
      | none => rfl
      | some o => rw [h.base b o q] at n; cases n
  trk := fun b hb z => by
    rcases hb with hb | hb
    · cases q : H b with
      | none => exact h.trk b hb q
      | some o => rw [e b o q] at z; cases z
    · obtain ⟨c, ec, _, hc⟩ := slot_ref ow hs
      injection ec with ec
      rw [hb, ec] at z
      exact hc z
  len := by rw [List.length_set, List.length_set, h.len]
  at_ := fun j t ht => by
    by_cases ej : i = j
    · subst ej
      by_cases hi : i < ρ.length
      · rw [List.getElem?_set_self hi] at ht
        cases ht
        exact ⟨_, List.getElem?_set_self (by rw [h.len]; exact hi), hs⟩
      · rw [List.getElem?_eq_none (by rw [List.length_set]; omega)] at ht; cases ht
    · rw [List.getElem?_set_ne ej] at ht
      rw [List.getElem?_set_ne ej]
      obtain ⟨v, hv, q⟩ := h.at_ j t ht
      refine ⟨v, hv, slot_move (msk_plus e n) (fun _ b _ hb => ⟨.inl hb, ?_⟩) q⟩
      cases q : H b with
      | none => exact (h.trk b hb q).elim
      | some o => exact e b o q
  mine := fun j t b ht ot hj => by
    by_cases ej : i = j
    · subst ej
      by_cases hi : i < ρ.length
      · rw [List.getElem?_set_self (by rw [h.len]; exact hi)] at hj
        cases hj
        exact fun z => h.fresh n (h.fr _ z)
      · rw [List.getElem?_eq_none (by rw [List.length_set]; omega)] at ht; cases ht
    · rw [List.getElem?_set_ne ej] at ht hj
      exact h.mine j t b ht ot hj
  sep := fun j k u t b ne hu ht ou ot hj hk => by
    have old : ∀ (m : Nat) (x : Slot), i ≠ m → (ρ.set i (some s))[m]? = some (some x) → x.owned → (σ.set i (some (.ref a)))[m]? = some (some (.ref b)) → ρ[m]? = some (some x) ∧ σ[m]? = some (some (.ref b)) ∧ H b ≠ none := fun m x em hx ox hm => by
      rw [List.getElem?_set_ne em] at hx hm
      obtain ⟨v, hv, q⟩ := h.at_ m x hx
      obtain ⟨c, ec, _, hc⟩ := slot_ref ox q
      rw [hm] at hv
      injection hv with hv
      injection hv with hv
      rw [← hv] at ec
      injection ec with ec
      exact ⟨hx, hm, by rw [ec]; exact hc⟩
    have new : ∀ (m : Nat) (x : Slot), i = m → (ρ.set i (some s))[m]? = some (some x) → (σ.set i (some (.ref a)))[m]? = some (some (.ref b)) → b = a := fun m x em hx hm => by
      subst em
      by_cases hi : i < ρ.length
      · rw [List.getElem?_set_self (by rw [h.len]; exact hi)] at hm
        injection hm with hm
        injection hm with hm
        injection hm with hm
        exact hm.symm
      · rw [List.getElem?_eq_none (by rw [List.length_set]; omega)] at hx; cases hx
    by_cases e1 : i = j
    · by_cases e2 : i = k
      · exact ne (e1.symm.trans e2)
      · have q := (old k t e2 ht ot hk).2.2
        rw [new j u e1 hu hj] at q
        exact q n
    · by_cases e2 : i = k
      · have q := (old j u e1 hu ou hj).2.2
        rw [new k t e2 ht hk] at q
        exact q n
      · obtain ⟨a1, a2, _⟩ := old j u e1 hu ou hj
        obtain ⟨b1, b2, _⟩ := old k t e2 ht ot hk
        exact h.sep j k u t b ne a1 b1 ou ot a2 b2
/-- an object of one's own is changed -/
theorem ES.write {i : Nat} {a : Addr} {s t : Slot} {o : HO} (h : ES P w K HB L0 L σ H ρ) (hi : ρ[i]? = some (some s)) (ow : s.owned) (ot : t.owned) (hs : σ[i]? = some (some (.ref a))) (ht : SlotAt P w K L (upd H a o) (.ref a) t) : ES P w K HB L0 L σ (upd H a o) (ρ.set i (some t)) := by
  have hil : i < ρ.length := (List.getElem?_eq_some_iff.mp hi).1
  have la : L a := by
    obtain ⟨v, hv, q⟩ := h.at_ i s hi
    obtain ⟨c, ec, lc, _⟩ := slot_ref ow q
    rw [hs] at hv
    injection hv with hv
    injection hv with hv
    rw [← hv] at ec
    injection ec with ec
    rw [ec]; exact lc
  refine ⟨fun b x hb => ?_, h.fr, h.own, fun b hb => ?_, by rw [List.length_set]; exact h.len, fun j u hu => ?_, fun j u b hu ou hj => ?_, fun j k u x b ne hu hx ou ox hj hk => ?_⟩
  · have n : HB a = none := h.own a la (h.mine i s a hi ow hs)
    rw [upd_ne (ne_of_none hb n)]
    exact h.base b x hb
  · by_cases e : b = a
    · rw [e, upd_same]; exact fun z => nomatch z
    · rw [upd_ne e]; exact h.trk b hb
  · by_cases e : i = j
    · subst e
      rw [List.getElem?_set_self hil] at hu
      cases hu
      exact ⟨_, hs, ht⟩
    · rw [List.getElem?_set_ne e] at hu
      obtain ⟨v, hv, q⟩ := h.at_ j u hu
      refine ⟨v, hv, slot_move (by rw [msk_upd la]; exact Same.refl _) (fun ou b ev hb => ⟨hb, upd_ne fun z => ?_⟩) q⟩
      rw [z] at ev
      rw [ev] at hv
      exact h.sep i j s u a e hi hu ow ou hs hv
  · by_cases e : i = j
    · subst e
      exact h.mine i s b hi ow hj
    · rw [List.getElem?_set_ne e] at hu
      exact h.mine j u b hu ou hj
  · have go : ∀ (m : Nat) (y : Slot), (ρ.set i (some t))[m]? = some (some y) → y.owned → ∃ z, ρ[m]? = some (some z) ∧ z.owned := fun m y hy oy => by
      by_cases e : i = m
      · subst e; exact ⟨s, hi, ow⟩
      · rw [List.getElem?_set_ne e] at hy; exact ⟨y, hy, oy⟩
    obtain ⟨z1, a1, b1⟩ := go j u hu ou
    obtain ⟨z2, a2, b2⟩ := go k x hx ox
    exact h.sep j k z1 z2 b ne a1 a2 b1 b2 hj hk
/-- what is known of slots may be forgotten -/
theorem ES.weak {ρ' : Rho} (h : ES P w K HB L0 L σ H ρ) (hl : ρ'.length = ρ.length) (hw : ∀ (i : Nat) (s : Slot), ρ'[i]? = some (some s) → ρ[i]? = some (some s)) : ES P w K HB L0 L σ H ρ' :=
  ⟨h.base, h.fr, h.own, h.trk, h.len.trans hl.symm, fun i s hs => h.at_ i s (hw i s hs), fun i s a hs => h.mine i s a (hw i s hs), fun i j s t a ne hs ht => h.sep i j s t a ne (hw i s hs) (hw j t ht)⟩
theorem ES.drop {i : Nat} (h : ES P w K HB L0 L σ H ρ) : ES P w K HB L0 L σ H (ρ.set i none) :=
  h.weak (List.length_set ..) fun j s hs => by
    by_cases e : i = j
    · subst e
      by_cases hi : i < ρ.length
      · rw [List.getElem?_set_self hi] at hs; cases hs
      · rw [List.getElem?_eq_none (by rw [List.length_set]; omega)] at hs; cases hs
    · rw [List.getElem?_set_ne e] at hs; exact hs
/-- a list of one's own becomes data that stays -/
theorem ES.freeze {i : Nat} {xs : List PyData} (h : ES P w K HB L0 L σ H ρ) (hi : ρ[i]? = some (some (.l xs))) : ∃ L', ES P w K HB L0 L' σ H (ρ.set i (some (.d (.list xs)))) := by
  have hil : i < ρ.length := (List.getElem?_eq_some_iff.mp hi).1
  obtain ⟨v, hv, a, vs, ev, la, ha, hd⟩ := h.at_ i _ hi
  subst ev
  have na : ¬ L0 a := h.mine i _ a hi trivial hv
  have less : Same (msk L H) (msk (fun b => L b ∧ b ≠ a) H) := msk_less fun b z => z.1
  refine ⟨fun b => L b ∧ b ≠ a, h.base, fun b hb => ⟨h.fr b hb, fun z => na (by rw [← z]; exact hb)⟩, fun b hb nb => h.own b hb.1 nb, fun b hb => h.trk b hb.1, by rw [List.length_set]; exact h.len, fun j u hu => ?_, fun j u b hu ou hj => ?_, fun j k u x b ne hu hx ou ox hj hk => ?_⟩
  · by_cases e : i = j
    · subst e
      rw [List.getElem?_set_self hil] at hu
      cases hu
      refine ⟨_, hv, .lst (.inl (.inl ?_)) (dpAll_up less _ _ hd)⟩
      rw [msk_out fun z => z.2 rfl]
      exact ha
    · rw [List.getElem?_set_ne e] at hu
      obtain ⟨v', hv', q⟩ := h.at_ j u hu
      refine ⟨v', hv', slot_move less (fun ou b ev hb => ⟨⟨hb, fun z => ?_⟩, rfl⟩) q⟩
      rw [z] at ev
      rw [ev] at hv'
      exact h.sep i j _ u a e hi hu trivial ou hv hv'
  · by_cases e : i = j
    · subst e
      rw [List.getElem?_set_self hil] at hu
      cases hu
      exact ou.elim
    · rw [List.getElem?_set_ne e] at hu
      exact h.mine j u b hu ou hj
  · have go : ∀ (m : Nat) (y : Slot), (ρ.set i (some (.d (.list xs))))[m]? = some (some y) → y.owned → ρ[m]? = some (some y) := fun m y hy oy => by
      by_cases e : i = m
      · subst e
        rw [List.getElem?_set_self hil] at hy
        cases hy
        exact oy.elim
      · rw [List.getElem?_set_ne e] at hy; exact hy
    exact h.sep j k u x b ne (go j u hu ou) (go k x hx ox) ou ox hj hk
/-- an object of one's own goes to another name -/
theorem ES.move {i j : Nat} {s : Slot} {v : V} (h : ES P w K HB L0 L σ H ρ) (hj : ρ[j]? = some (some s)) (ow : s.owned) (hv : σ[j]? = some (some v)) (ne : i ≠ j) : ES P w K HB L0 L (σ.set i (some v)) H ((ρ.set j none).set i (some s)) := by
  have hjl : j < ρ.length := (List.getElem?_eq_some_iff.mp hj).1
  have key : ∀ (m : Nat) (u : Slot) (x : V), ((ρ.set j none).set i (some s))[m]? = some (some u) → (σ.set i (some v))[m]? = some (some x) → ∃ n : Nat, ρ[n]? = some (some u) ∧ σ[n]? = some (some x) ∧ n = (if m = i then j else m) := fun m u x hu hx => by
    by_cases e : i = m
    · subst e
      by_cases hi : i < ρ.length
      · rw [List.getElem?_set_self (by rw [List.length_set]; exact hi)] at hu
        cases hu
        rw [List.getElem?_set_self (by rw [h.len]; exact hi)] at hx
        cases hx
        exact ⟨j, hj, hv, by rw [if_pos rfl]⟩
      · rw [List.getElem?_eq_none (by rw [List.length_set, List.length_set]; omega)] at hu; cases hu
    · rw [List.getElem?_set_ne e] at hu hx
      by_cases e2 : j = m
      · subst e2
        rw [List.getElem?_set_self hjl] at hu
        cases hu
      · rw [List.getElem?_set_ne e2] at hu
        exact ⟨m, hu, hx, by rw [if_neg (fun z => e z.symm)]⟩
  have key2 : ∀ (m : Nat) (u : Slot), ((ρ.set j none).set i (some s))[m]? = some (some u) → m ≠ j := fun m u hu e => by
    subst e
    rw [List.getElem?_set_ne ne, List.getElem?_set_self hjl] at hu
    cases hu
  refine ⟨h.base, h.fr, h.own, h.trk, by rw [List.length_set, List.length_set, List.length_set]; exact h.len, fun m u hu => ?_, fun m u b hu ou hm => ?_, fun m n u x b nmn hu hx ou ox hm hn => ?_⟩
  · by_cases e : i = m
    · subst e
      by_cases hi : i < ρ.length
      · rw [List.getElem?_set_self (by rw [List.length_set]; exact hi)] at hu
        cases hu
        obtain ⟨v', hv', q⟩ := h.at_ j s hj
        rw [hv] at hv'
        cases hv'
        exact ⟨v, List.getElem?_set_self (by rw [h.len]; exact hi), q⟩
      · rw [List.getElem?_eq_none (by rw [List.length_set, List.length_set]; omega)] at hu; cases hu
    · have e2 : j ≠ m := fun z => key2 m u hu z.symm
      rw [List.getElem?_set_ne e, List.getElem?_set_ne e2] at hu
      rw [List.getElem?_set_ne e]
      exact h.at_ m u hu
  · obtain ⟨n, h1, h2, _⟩ := key m u _ hu hm
    exact h.mine n u b h1 ou h2
  · obtain ⟨m', h1, h2, e1⟩ := key m u _ hu hm
    obtain ⟨n', h3, h4, e2⟩ := key n x _ hx hn
    refine h.sep m' n' u x b (fun z => ?_) h1 h3 ou ox h2 h4
    rw [e1, e2] at z
    by_cases q1 : m = i
    · by_cases q2 : n = i
      · exact nmn (q1.trans q2.symm)
      · rw [if_pos q1, if_neg q2] at z
        exact key2 n x hx z.symm
    · by_cases q2 : n = i
      · rw [if_neg q1, if_pos q2] at z
        exact key2 m u hu z
      · rw [if_neg q1, if_neg q2] at z
        exact nmn z
end
end SG
set_option Elab.async false
set_option linter.all false
set_option maxRecDepth 100000
set_option maxHeartbeats 4000000
/-! Part B: expressions over environments of data. -/
namespace SG
open PySem PySem.Spec PyProof.Rows L2
theorem pe_imp {X : Cx} {e : Expr} {t t' : TE} (h : PE X e t) (i : ∀ σ H Q, t' σ H Q → t σ H Q) : PE X e t' := ⟨fun pins s σ H Q I q => h.run pins s σ H Q I (i σ H Q q)⟩
theorem pt_imp {X : Cx} {e : Expr} {t t' : TT} (h : PT X e t) (i : ∀ σ H Q, t' σ H Q → t σ H Q) : PT X e t' := ⟨fun pins s σ H Q I q => h.run pins s σ H Q I (i σ H Q q)⟩
theorem pw_imp {X : Cx} {e : Expr} {t t' : TT} (h : PW X e t) (i : ∀ σ H Q, t' σ H Q → t σ H Q) : PW X e t' := ⟨fun wh pins s σ H Q I q => h.run wh pins s σ H Q I (i σ H Q q)⟩
theorem pa_imp {X : Cx} {es : List Expr} {t t' : TA} (h : PA X es t) (i : ∀ σ H Q, t' σ H Q → t σ H Q) : PA X es t' := ⟨fun pos pins s σ H Q I q => h.run pos pins s σ H Q I (i σ H Q q)⟩
theorem ps_imp {X : Cx} {st : Stmt} {t t' : TS} (h : PS X st t) (i : ∀ D σ H, t' D σ H → t D σ H) : PS X st t' := ⟨fun pins s σ H D I q => h.run pins s σ H D I (i D σ H q)⟩
theorem pss_imp {X : Cx} {st : List Stmt} {t t' : TS} (h : PSs X st t) (i : ∀ D σ H, t' D σ H → t D σ H) : PSs X st t' := ⟨fun pins s σ H D I q => h.run pins s σ H D I (i D σ H q)⟩

section
variable (P : Program) (w : World) (K : PySem.W.Frag)
/-- e's value is the data x, where the slots hold ρ -/
def tAt (ρ : Rho) (x : PyData) : TE := fun σ H Q => ∃ HB L0 L, ES P w K HB L0 L σ H ρ ∧ ∀ v H2, Same H H2 → Dp K (msk L H2) v x → Q v H2
def tAtT (ρ : Rho) (b : Bool) : TT := fun σ H Q => ∃ HB L0 L, ES P w K HB L0 L σ H ρ ∧ ∀ H2, Same H H2 → Q b H2
def tAtA (ρ : Rho) (xs : List PyData) : TA := fun σ H Q => ∃ HB L0 L, ES P w K HB L0 L σ H ρ ∧ ∀ vs H2, Same H H2 → DpAll K (msk L H2) vs xs → Q vs H2
/-- e makes a new object of one's own -/
def tOwn (ρ : Rho) (s : Slot) : TE := fun σ H Q => ∃ HB L0 L, ES P w K HB L0 L σ H ρ ∧ ∀ a H2, H a = none → Same H H2 → SlotAt P w K (plus L a) H2 (.ref a) s → Q (.ref a) H2
/-- e is a name that holds an object of one's own -/
def tVarO (ρ : Rho) (i : Nat) (s : Slot) : TE := fun σ H Q => ∃ HB L0 L, ES P w K HB L0 L σ H ρ ∧ ∀ v, σ[i]? = some (some v) → SlotAt P w K L H v s → Q v H
end
abbrev DE (X : Cx) (e : Expr) (ρ : Rho) (x : PyData) : Prop := PE X e (tAt X.prog X.w X.K ρ x)
abbrev DT (X : Cx) (e : Expr) (ρ : Rho) (b : Bool) : Prop := PT X e (tAtT X.prog X.w X.K ρ b)
abbrev DW (X : Cx) (e : Expr) (ρ : Rho) (b : Bool) : Prop := PW X e (tAtT X.prog X.w X.K ρ b)
abbrev DA (X : Cx) (es : List Expr) (ρ : Rho) (xs : List PyData) : Prop := PA X es (tAtA X.prog X.w X.K ρ xs)
abbrev DO (X : Cx) (e : Expr) (ρ : Rho) (s : Slot) : Prop := PE X e (tOwn X.prog X.w X.K ρ s)
abbrev DV (X : Cx) (e : Expr) (ρ : Rho) (i : Nat) (s : Slot) : Prop := PE X e (tVarO X.prog X.w X.K ρ i s)
section
variable {X : Cx} {ρ : Rho} {e a b c : Expr} {x y z : PyData} {pos : Pos}

theorem de_var (i : Nat) {nm : Str} {pos : Pos} (hρ : ρ[i]? = some (some (.d x))) (hN : X.N[i]? = some nm := by rfl) (hv : Vis X.env.scope nm := by first | exact Or.inl rfl | exact Or.inr (Or.inl rfl) | exact Or.inr (Or.inr rfl)) (hd : (nm == ("__debug__" : Str)) = false := by decide)
    (hcd : (nm == ("__classdict__" : Str)) = false := by decide) : DE X (.Name nm pos) ρ x := by
  refine pe_imp (pv i hN hv hd hcd) fun σ H Q h => ?_
  obtain ⟨HB, L0, L, es, q⟩ := h
  obtain ⟨v, hv, hd⟩ := es.datum hρ
  exact ⟨v, hv, q v H (Same.refl H) hd⟩
theorem dv_var (i : Nat) {nm : Str} {s : Slot} {pos : Pos} (hρ : ρ[i]? = some (some s)) (hN : X.N[i]? = some nm := by rfl) (hv : Vis X.env.scope nm := by first | exact Or.inl rfl | exact Or.inr (Or.inl rfl) | exact Or.inr (Or.inr rfl)) (hd : (nm == ("__debug__" : Str)) = false := by decide)
    (hcd : (nm == ("__classdict__" : Str)) = false := by decide) : DV X (.Name nm pos) ρ i s := by
  refine pe_imp (pv i hN hv hd hcd) fun σ H Q h => ?_
  obtain ⟨HB, L0, L, es, q⟩ := h
  obtain ⟨v, hv, hs⟩ := es.at_ i s hρ
  exact ⟨v, hv, q v hv hs⟩
theorem de_int {i : Int} {j pos} : DE X (.Constant (.int i) j pos) ρ (.int i) := pe_imp pe_int fun σ H Q ⟨HB, L0, L, es, q⟩ => q _ H (Same.refl H) (.int i)
theorem de_bl {i : Bool} {j pos} : DE X (.Constant (.bool i) j pos) ρ (.bool i) := pe_imp pe_bl fun σ H Q ⟨HB, L0, L, es, q⟩ => q _ H (Same.refl H) (.bl i)
theorem de_non {j pos} : DE X (.Constant .none j pos) ρ .none := pe_imp pe_non fun σ H Q ⟨HB, L0, L, es, q⟩ => q _ H (Same.refl H) .non
theorem de_glob {nm : Str} {i : Int} {u : Value} {pos : Pos} (hg : Gl X nm) (hm : X.mg nm = some u) (r : RelV (.int i) u) (hd : (nm == ("__debug__" : Str)) = false := by decide) : DE X (.Name nm pos) ρ (.int i) :=
  pe_imp (pe_glob hg hm r hd) fun σ H Q ⟨HB, L0, L, es, q⟩ => q _ H (Same.refl H) (.int i)

/-! operators by data -/
/-- the owned places are tracked -/
def Trk (L : Own) (H : Hp) : Prop := ∀ a, L a → H a ≠ none
theorem Trk.up {L : Own} {H H' : Hp} (t : Trk L H) (e : Same H H') : Trk L H' := fun a ha z => by
  cases q : H a with
  | none => exact t a ha q
  | some o => rw [e a o q] at z; cases z
def PureO (K : PySem.W.Frag) (r : R2) (x y z : PyData) : Prop := ∀ (L : Own) (H : Hp) (v u : V) (Q : VK), Trk L H → Dp K (msk L H) v x → Dp K (msk L H) u y → (∀ t H2, Same H H2 → Dp K (msk L H2) t z → Q t H2) → r v u H Q
def PureC (K : PySem.W.Frag) (r : List V → Hp → VK → Prop) (xs : List PyData) (z : PyData) : Prop := ∀ (L : Own) (H : Hp) (vs : List V) (Q : VK), Trk L H → DpAll K (msk L H) vs xs → (∀ t H2, Same H H2 → Dp K (msk L H2) t z → Q t H2) → r vs H Q
theorem t_op {P : Program} {w : World} {K : PySem.W.Frag} {r : R2} (hp : PureO K r x y z) {σ : L2.St} {H : Hp} {Q : VK} (h : tAt P w K ρ z σ H Q) : tOp r (tAt P w K ρ x) (tAt P w K ρ y) σ H Q := by
  obtain ⟨HB, L0, L, es, q⟩ := h
  refine ⟨HB, L0, L, es, fun v H1 e1 d1 => ⟨HB, L0, L, es.up e1, fun u H2 e2 d2 => ?_⟩⟩
  exact hp L H2 v u Q ((es.up (e1.trans e2)).trk) (dp_up (msk_up e2) _ _ d1) d2 fun t H3 e3 d3 => q t H3 ((e1.trans e2).trans e3) d3
theorem de_op {op : Operator} {r : R2} (ho : OpR X (binaryOp op) r) (hp : PureO X.K r x y z) (ha : DE X a ρ x) (hb : DE X b ρ y) : DE X (.BinOp a op b pos) ρ z :=
  pe_imp (pe_op ho ha hb) fun σ H Q h => t_op hp h
theorem de_cmp {op : CmpOp} {r : R2} (ho : OpR X (compareOp op) r) (hp : PureO X.K r x y z) (ha : DE X a ρ x) (hb : DE X b ρ y) (hm : behindInMarks op b = false) : DE X (.Compare a [op] [b] pos) ρ z :=
  pe_imp (pe_cmpR ho ha hb hm) fun σ H Q h => t_op hp h
theorem dt_cmp {op : CmpOp} {r : R2} {t : Bool} (ho : OpR X (compareOp op) r) (hp : PureO X.K r x y (.bool t)) (ha : DE X a ρ x) (hb : DE X b ρ y) (hm : behindInMarks op b = false) : DT X (.Compare a [op] [b] pos) ρ t :=
  pt_imp (pt_cmpR ho ha hb hm) fun σ H Q ⟨HB, L0, L, es, q⟩ => t_op hp ⟨HB, L0, L, es, fun v H2 e2 d2 => by cases d2; exact ⟨t, rfl, q H2 e2⟩⟩
theorem de_ix {r : R2} (hr : IxR X r) (hp : PureO X.K r x y z) (ha : DE X a ρ x) (hb : DE X b ρ y) (hs : PlainIx b) : DE X (.Subscript a b pos) ρ z :=
  pe_imp (pe_ix hr ha hb hs) fun σ H Q h => t_op hp h
theorem de_un {op : UnaryOp} {r : V → Hp → VK → Prop} (ho : UnR X (unaryOp op) r) (hp : ∀ (H : Hp) (v : V) (Q : VK), (∀ L, Dp X.K (msk L H) v x → ∀ u, (∀ L', Dp X.K (msk L' H) u y) → Q u H) → ∀ L, Dp X.K (msk L H) v x → r v H Q) (ha : DE X a ρ x) : DE X (.UnaryOp op a pos) ρ y :=
  pe_imp (pe_un ho ha) fun σ H Q ⟨HB, L0, L, es, q⟩ => ⟨HB, L0, L, es, fun v H1 e1 d1 => hp H1 v Q (fun L' _ u hu => q u H1 e1 (hu L)) L d1⟩
theorem de_neg {i : Int} (ha : DE X a ρ (.int i)) : DE X (.UnaryOp .USub a pos) ρ (.int (-i)) :=
  de_un un_neg (fun H v Q k L hd => by cases hd; exact ⟨i, rfl, k L (.int i) _ fun L' => .int _⟩) ha

/-! tests -/
theorem dt_val {t : Bool} (h : DE X e ρ (.bool t)) (he : ∀ whole, isTrue e X.env whole = (do let v ← whole; standAt e.pos; holding [v] (truthy v)) := by intro _; rfl) : DT X e ρ t :=
  pt_imp (pt_val h he) fun σ H Q ⟨HB, L0, L, es, q⟩ => ⟨HB, L0, L, es, fun v H2 e2 d2 => by cases d2; exact ⟨t, rfl, q H2 e2⟩⟩
theorem dt_not {t : Bool} (h : DT X a ρ t) : DT X (.UnaryOp .Not a pos) ρ (!t) := pt_imp (pt_not h) fun σ H Q ⟨HB, L0, L, es, q⟩ => ⟨HB, L0, L, es, fun H2 e2 => q H2 e2⟩
theorem dw_and1 {t : Bool} (h : DT X a ρ t) : DW X (.BoolOp .And [a] pos) ρ t := pw_and1 h
theorem dw_or1 {t : Bool} (h : DT X a ρ t) : DW X (.BoolOp .Or [a] pos) ρ t := pw_or1 h
theorem pw_fam {p : Prop} {t : TT} (h : p → PW X e t) : PW X e (fun σ H Q => p ∧ t σ H Q) := ⟨fun wh pins s σ H Q I q => (h q.1).run wh pins s σ H Q I q.2⟩
theorem pe_fam {p : Prop} {t : TE} (h : p → PE X e t) : PE X e (fun σ H Q => p ∧ t σ H Q) := ⟨fun pins s σ H Q I q => (h q.1).run pins s σ H Q I q.2⟩
theorem dw_and {rest : List Expr} {t u : Bool} (ha : DT X a ρ t) (hb : t = true → DW X (.BoolOp .And (b :: rest) pos) ρ u) : DW X (.BoolOp .And (a :: b :: rest) pos) ρ (t && u) :=
  pw_imp (pw_and ha (pw_fam hb)) fun σ H Q ⟨HB, L0, L, es, q⟩ => ⟨HB, L0, L, es, fun H2 e2 => by
    cases t with
    | true => exact iteT ⟨rfl, HB, L0, L, es.up e2, fun H3 e3 => q H3 (e2.trans e3)⟩
    | false => exact iteF (q H2 e2)⟩
theorem dw_or {rest : List Expr} {t u : Bool} (ha : DT X a ρ t) (hb : t = false → DW X (.BoolOp .Or (b :: rest) pos) ρ u) : DW X (.BoolOp .Or (a :: b :: rest) pos) ρ (t || u) :=
  pw_imp (pw_or ha (pw_fam hb)) fun σ H Q ⟨HB, L0, L, es, q⟩ => ⟨HB, L0, L, es, fun H2 e2 => by
    cases t with
    | true => exact iteT (q H2 e2)
    | false => exact iteF ⟨rfl, HB, L0, L, es.up e2, fun H3 e3 => q H3 (e2.trans e3)⟩⟩
theorem de_one {op} (h : DE X a ρ x) : DE X (.BoolOp op [a] pos) ρ x := pe_one h
theorem de_and {rest : List Expr} {t u : Bool} (ha : DE X a ρ (.bool t)) (hb : t = true → DE X (.BoolOp .And (b :: rest) pos) ρ (.bool u)) : DE X (.BoolOp .And (a :: b :: rest) pos) ρ (.bool (t && u)) :=
  pe_imp (pe_and ha (pe_fam hb)) fun σ H Q ⟨HB, L0, L, es, q⟩ => ⟨HB, L0, L, es, fun v H2 e2 d2 => by
    cases d2
    refine ⟨t, rfl, ?_⟩
    cases t with
    | true => exact iteT ⟨rfl, HB, L0, L, es.up e2, fun v H3 e3 d3 => q v H3 (e2.trans e3) d3⟩
    | false => exact iteF (q _ H2 e2 (.bl _))⟩
theorem de_or {rest : List Expr} {t u : Bool} (ha : DE X a ρ (.bool t)) (hb : t = false → DE X (.BoolOp .Or (b :: rest) pos) ρ (.bool u)) : DE X (.BoolOp .Or (a :: b :: rest) pos) ρ (.bool (t || u)) :=
  pe_imp (pe_or ha (pe_fam hb)) fun σ H Q ⟨HB, L0, L, es, q⟩ => ⟨HB, L0, L, es, fun v H2 e2 d2 => by
    cases d2
    refine ⟨t, rfl, ?_⟩
    cases t with
    | true => exact iteT (q _ H2 e2 (.bl _))
    | false => exact iteF ⟨rfl, HB, L0, L, es.up e2, fun v H3 e3 d3 => q v H3 (e2.trans e3) d3⟩⟩
theorem de_not {t : Bool} (ha : DE X a ρ (.bool t)) : DE X (.UnaryOp .Not a pos) ρ (.bool (!t)) :=
  pe_imp (pe_not ha) fun σ H Q ⟨HB, L0, L, es, q⟩ => ⟨HB, L0, L, es, fun v H2 e2 d2 => by
    cases d2
    exact ⟨t, rfl, q _ H2 e2 (.bl _)⟩⟩
theorem de_if {t : Bool} (hc : DT X c ρ t) (ha : t = true → DE X a ρ x) (hb : t = false → DE X b ρ x) : DE X (.IfExp c a b pos) ρ x :=
  pe_imp (pe_ifExp hc (pe_fam ha) (pe_fam hb)) fun σ H Q ⟨HB, L0, L, es, q⟩ => ⟨HB, L0, L, es, fun H2 e2 => by
    cases t with
    | true => exact iteT ⟨rfl, HB, L0, L, es.up e2, fun v H3 e3 d3 => q v H3 (e2.trans e3) d3⟩
    | false => exact iteF ⟨rfl, HB, L0, L, es.up e2, fun v H3 e3 d3 => q v H3 (e2.trans e3) d3⟩⟩

/-! arguments, displays, calls -/
theorem da_nil : DA X [] ρ [] := pa_imp pa_nil fun σ H Q ⟨HB, L0, L, es, q⟩ => q [] H (Same.refl H) .nil
theorem da_cons {es : List Expr} {xs : List PyData} (ha : DE X e ρ x) (hr : DA X es ρ xs) (hs : starEach (e :: es) X.env = (false, eval e X.env) :: starEach es X.env := by rfl) : DA X (e :: es) ρ (x :: xs) :=
  pa_imp (pa_cons ha hr hs) fun σ H Q ⟨HB, L0, L, es, q⟩ => ⟨HB, L0, L, es, fun v H1 e1 d1 => ⟨HB, L0, L, es.up e1, fun vs H2 e2 d2 => q _ H2 (e1.trans e2) (.cons (dp_up (msk_up e2) _ _ d1) d2)⟩⟩
theorem da_star {es : List Expr} {ys xs : List PyData} {p : Pos} (ha : DE X e ρ (.tuple ys)) (hr : DA X es ρ xs) (hs : starEach (.Starred e p :: es) X.env = (true, eval e X.env) :: starEach es X.env := by rfl) : DA X (.Starred e p :: es) ρ (ys ++ xs) :=
  pa_imp (StX.pa_star ha hr hs) fun σ H Q ⟨HB, L0, L, es, q⟩ => ⟨HB, L0, L, es, fun v H1 e1 d1 => by
    cases d1 with
    | @tup a us _ hs ha => exact ⟨a, us, rfl, .inl (sqT_up (msk_same _ _) hs), HB, L0, L, es.up e1, fun vs H2 e2 d2 => q _ H2 (e1.trans e2) (dpAll_app (dpAll_up (msk_up e2) _ _ ha) d2)⟩⟩
theorem line_of {n : Nat} (h : n ≤ 100000) : n ≤ sizeLine := Nat.le_trans h (by decide)
theorem line_lt {n : Nat} (h : n < 100000) : n < sizeLine := Nat.lt_of_lt_of_le h (by decide)
/-- a tuple just made -/
theorem dp_tup {K : PySem.W.Frag} {L : Own} {H : Hp} {p : Addr} {vs : List V} {xs : List PyData} (t : Trk L H) (n : H p = none) (h : DpAll K (msk L H) vs xs) : Dp K (msk L (upd H p (.tup vs))) (.ref p) (.tuple xs) := by
  refine .tup (.inl (.inl ?_)) (dpAll_up (msk_up (same_upd n)) _ _ h)
  rw [msk_out fun z => t p z n]
  exact upd_same
theorem dp_lst {K : PySem.W.Frag} {L : Own} {H : Hp} {p : Addr} {vs : List V} {xs : List PyData} (t : Trk L H) (n : H p = none) (h : DpAll K (msk L H) vs xs) : Dp K (msk L (upd H p (.lst vs))) (.ref p) (.list xs) := by
  refine .lst (.inl (.inl ?_)) (dpAll_up (msk_up (same_upd n)) _ _ h)
  rw [msk_out fun z => t p z n]
  exact upd_same
theorem de_tup {es : List Expr} {xs : List PyData} {x1} (h : DA X es ρ xs) (hl : xs.length ≤ 100000) : DE X (.Tuple es x1 pos) ρ (.tuple xs) :=
  pe_imp (pe_tup h) fun σ H Q ⟨HB, L0, L, es, q⟩ => ⟨HB, L0, L, es, fun vs H1 e1 d1 => ⟨line_of (by rw [dpAll_len d1]; exact hl), fun p hp => q _ _ (e1.trans (same_upd hp)) (dp_tup (es.up e1).trk hp d1)⟩⟩
theorem do_lst {es : List Expr} {xs : List PyData} (h : DA X es ρ xs) (hl : xs.length ≤ 100000) : DO X (.List es pos) ρ (.l xs) :=
  pe_imp (pe_lst h) fun σ H Q ⟨HB, L0, L, es, q⟩ => ⟨HB, L0, L, es, fun vs H1 e1 d1 => ⟨line_of (by rw [dpAll_len d1]; exact hl), fun p hp => q p _ (e1.free hp) (e1.trans (same_upd hp))
    ⟨p, vs, rfl, .inr rfl, upd_same, dpAll_up (msk_plus (same_upd hp) hp) _ _ d1⟩⟩⟩
/-- a new list, as data -/
theorem de_new {xs : List PyData} (h : DO X e ρ (.l xs)) : DE X e ρ (.list xs) :=
  pe_imp h fun σ H Q ⟨HB, L0, L, es, q⟩ => ⟨HB, L0, L, es, fun a H2 n e2 ⟨a', vs, ea, _, ha, hd⟩ => by
    injection ea with ea
    subst ea
    refine q _ H2 e2 (.lst (.inl (.inl ?_)) (dpAll_up (msk_less fun b z => .inl z) _ _ hd))
    rw [msk_out (es.fresh n)]
    exact ha⟩
theorem de_callB {id : String} {r : List V → Hp → VK → Prop} {es : List Expr} {xs : List PyData} {nm : Str} {p : Pos} (hc : CallR X (.builtin id) r) (hp : PureC X.K r xs z) (hg : Gl X nm) (hm : X.mg nm = none) (hv : bootBuiltins nm = some (.builtin id)) (ha : DA X (e :: es) ρ xs) (hn : nm ≠ "__name__" := by decide) (hdb : (nm == ("__debug__" : Str)) = false := by decide)
    (he : starEach (e :: es) X.env = (false, eval e X.env) :: starEach es X.env := by rfl) (hpl : (backTo pos (starEach es X.env)).any (·.1) = false := by rfl) : DE X (.Call (.Name nm p) (e :: es) [] pos) ρ z :=
  pe_imp (pe_callB hc hg hm hv ha hn hdb he hpl) fun σ H Q ⟨HB, L0, L, es, q⟩ => ⟨HB, L0, L, es, fun vs H1 e1 d1 => hp L H1 vs Q (es.up e1).trk d1 fun t H2 e2 d2 => q t H2 (e1.trans e2) d2⟩
theorem de_callTy {T : String} {r : List V → Hp → VK → Prop} {es : List Expr} {xs : List PyData} {nm : Str} {p : Pos} (hc : CallR X (.type T) r) (hp : PureC X.K r xs z) (hg : Gl X nm) (hm : X.mg nm = none) (hv : bootBuiltins nm = some (.type T)) (ha : DA X (e :: es) ρ xs) (hn : nm ≠ "__name__" := by decide) (hdb : (nm == ("__debug__" : Str)) = false := by decide)
    (he : starEach (e :: es) X.env = (false, eval e X.env) :: starEach es X.env := by rfl) (hpl : (backTo pos (starEach es X.env)).any (·.1) = false := by rfl) : DE X (.Call (.Name nm p) (e :: es) [] pos) ρ z :=
  pe_imp (pe_callTy hc hg hm hv ha hn hdb he hpl) fun σ H Q ⟨HB, L0, L, es, q⟩ => ⟨HB, L0, L, es, fun vs H1 e1 d1 => hp L H1 vs Q (es.up e1).trk d1 fun t H2 e2 d2 => q t H2 (e1.trans e2) d2⟩
/-- what a def of data promises: G tells its value by its arguments -/
def spD (K : PySem.W.Frag) (G : List PyData → PyData → Prop) : Sp := fun vs H Q _ => ∃ (L : Own) (xs : List PyData) (z : PyData), Trk L H ∧ DpAll K (msk L H) vs xs ∧ G xs z ∧ ∀ v H', Same H H' → Dp K (msk L H') v z → Q v H'
theorem de_call {k : Nat} {f : Addr} {fd : FuncData} {ps : List Str} {G : List PyData → PyData → Prop} {es : List Expr} {xs : List PyData} {nm : Str} {p : Pos} (F : FnOk X.prog X.w X.K X.mg X.base CX0 k f fd ps (spD X.K G)) (hr : Room k X.A) (hg : Gl X nm) (hm : X.mg nm = some (.ref f)) (hk : PySem.W.keepIn X.K (.ref f) = true) (hb : Binds X.K fd ps [])
    (ha : DA X (e :: es) ρ xs) (hG : G xs z) (hdb : (nm == ("__debug__" : Str)) = false := by decide) (he : starEach (e :: es) X.env = (false, eval e X.env) :: starEach es X.env := by rfl) (hpl : (backTo pos (starEach es X.env)).any (·.1) = false := by rfl) : DE X (.Call (.Name nm p) (e :: es) [] pos) ρ z :=
  pe_imp (pe_call F hr hg hm hk hb .nil pass0 ha hdb he hpl) fun σ H Q ⟨HB, L0, L, es, q⟩ => ⟨HB, L0, L, es, fun vs H1 e1 d1 => by
    show spD X.K G (vs ++ []) H1 Q E0
    rw [List.append_nil]
    exact ⟨L, xs, z, (es.up e1).trk, d1, hG, fun v H2 e2 d2 => q v H2 (e1.trans e2) d2⟩⟩
end

/-! ### operators -/
section
variable {K : PySem.W.Frag}
theorem pure_I0 {g : Int → Int → V} {i j : Int} {z : PyData} (h : ∀ H, Dp K H (g i j) z) : PureO K (rI0 g) (.int i) (.int j) z := fun L H v u Q t d1 d2 q => by
  cases d1
  cases d2
  exact ⟨i, j, rfl, rfl, q _ H (Same.refl H) (h _)⟩
theorem pure_I {C : Int → Int → Prop} {g : Int → Int → V} {i j : Int} {z : PyData} (hc : C i j) (h : ∀ H, Dp K H (g i j) z) : PureO K (rI C g) (.int i) (.int j) z := fun L H v u Q t d1 d2 q => by
  cases d1
  cases d2
  exact ⟨i, j, rfl, rfl, hc, q _ H (Same.refl H) (h _)⟩
theorem pure_eqD {x y : PyData} (hx : SeqAt.shaped x = true) (hy : SeqAt.shaped y = true) : PureO K (rEqD K) x y (.bool (PyData.eqv x y)) := fun L H v u Q t d1 d2 q =>
  ⟨x, y, dp_up (msk_same _ _) _ _ d1, dp_up (msk_same _ _) _ _ d2, hx, hy, q _ H (Same.refl H) (.bl _)⟩
theorem pure_neD {x y : PyData} (hx : SeqAt.shaped x = true) (hy : SeqAt.shaped y = true) : PureO K (rNeD K) x y (.bool (!PyData.eqv x y)) := fun L H v u Q t d1 d2 q =>
  ⟨x, y, dp_up (msk_same _ _) _ _ d1, dp_up (msk_same _ _) _ _ d2, hx, hy, q _ H (Same.refl H) (.bl _)⟩
def isNone : PyData → Bool
  | .none => true
  | _ => false
theorem dp_isN {H : Hp} {v : V} {x : PyData} (h : Dp K H v x) : decide (v = V.non) = isNone x := by
  cases h <;> first | rfl | exact decide_eq_false (fun z => nomatch z)
theorem pure_isN {x : PyData} : PureO K (fun v u H Q => u = .non ∧ Q (.bl (decide (v = .non))) H) x .none (.bool (isNone x)) := fun L H v u Q t d1 d2 q => by
  cases d2
  exact ⟨rfl, q _ H (Same.refl H) (by rw [dp_isN d1]; exact .bl _)⟩
theorem pure_notN {x : PyData} : PureO K (fun v u H Q => u = .non ∧ Q (.bl (!decide (v = .non))) H) x .none (.bool (!isNone x)) := fun L H v u Q t d1 d2 q => by
  cases d2
  exact ⟨rfl, q _ H (Same.refl H) (by rw [dp_isN d1]; exact .bl _)⟩
theorem dp_ints {H : Hp} : ∀ {ns : List Int} {vs : List V}, DpAll K H vs (ns.map .int) → vs = ns.map V.int
  | [], _, h => by cases h; rfl
  | n :: ns, _, h => by
    rw [List.map_cons] at h
    cases h with | cons h1 h2 => cases h1; rw [dp_ints h2]; rfl
theorem ints_dp {H : Hp} : ∀ (ns : List Int), DpAll K H (ns.map V.int) (ns.map .int)
  | [] => .nil
  | n :: ns => .cons (.int n) (ints_dp ns)
theorem flat_ints : ∀ ns : List Int, (ns.map V.int).all flatV = true
  | [] => rfl
  | n :: ns => by rw [List.map_cons, List.all_cons, flat_ints ns]; rfl
theorem inV_int (i : Int) : ∀ ns : List Int, inV (.int i) (ns.map V.int) = ns.contains i
  | [] => rfl
  | n :: ns => by
    have ih := inV_int i ns
    unfold inV at ih ⊢
    rw [List.map_cons, List.any_cons, ih, List.contains_cons]
    have e : eqV (V.int n) (V.int i) = (i == n) := by
      show (n == i) = (i == n)
      exact BEq.comm
    rw [e]
theorem pure_in {i : Int} {ns : List Int} : PureO K (rIn K false) (.int i) (.tuple (ns.map .int)) (.bool (ns.contains i)) := fun L H v u Q t d1 d2 q => by
  cases d1
  cases d2 with
  | @tup a vs _ hs ha =>
    have ev := dp_ints ha
    subst ev
    refine ⟨a, _, rfl, .inr (sqT_up (msk_same _ _) hs), rfl, flat_ints ns, ?_⟩
    rw [inV_int]
    exact q _ H (Same.refl H) (.bl _)
theorem pure_inL {i : Int} {ns : List Int} : PureO K (rIn K false) (.int i) (.list (ns.map .int)) (.bool (ns.contains i)) := fun L H v u Q t d1 d2 q => by
  cases d1
  cases d2 with
  | @lst a vs _ hs ha =>
    have ev := dp_ints ha
    subst ev
    refine ⟨a, _, rfl, .inl ((msk_same _ _).seq hs), rfl, flat_ints ns, ?_⟩
    rw [inV_int]
    exact q _ H (Same.refl H) (.bl _)
theorem pure_notIn {i : Int} {ns : List Int} : PureO K (rIn K true) (.int i) (.tuple (ns.map .int)) (.bool (!ns.contains i)) := fun L H v u Q t d1 d2 q => by
  cases d1
  cases d2 with
  | @tup a vs _ hs ha =>
    have ev := dp_ints ha
    subst ev
    refine ⟨a, _, rfl, .inr (sqT_up (msk_same _ _) hs), rfl, flat_ints ns, ?_⟩
    rw [inV_int]
    exact q _ H (Same.refl H) (.bl _)
theorem atI_dp {H : Hp} {vs : List V} {xs : List PyData} {i : Int} {z : PyData} (h : DpAll K H vs xs) (e : atI xs i = some z) : ∃ v, atI vs i = some v ∧ Dp K H v z := by
  unfold atI at e ⊢
  rw [dpAll_len h]
  cases q : ixN xs.length i with
  | none => rw [q] at e; cases e
  | some j =>
    rw [q] at e
    obtain ⟨v, hv, hd⟩ := dpAll_get h (show xs[j]? = some z from e)
    exact ⟨v, hv, hd⟩
theorem pure_ixT {xs : List PyData} {i : Int} {z : PyData} (e : atI xs i = some z) : PureO K (rIxT K) (.tuple xs) (.int i) z := fun L H v u Q t d1 d2 q => by
  cases d2
  cases d1 with
  | @tup a vs _ hs ha =>
    obtain ⟨v, hv, hd⟩ := atI_dp ha e
    exact ⟨a, vs, i, v, rfl, rfl, sqT_up (msk_same _ _) hs, hv, q v H (Same.refl H) hd⟩
theorem pure_ixL {xs : List PyData} {i : Int} {z : PyData} (e : atI xs i = some z) : PureO K (rIxL K) (.list xs) (.int i) z := fun L H v u Q t d1 d2 q => by
  cases d2
  cases d1 with
  | @lst a vs _ hs ha =>
    obtain ⟨v, hv, hd⟩ := atI_dp ha e
    exact ⟨a, vs, i, v, rfl, rfl, (msk_same _ _).seq hs, hv, q v H (Same.refl H) hd⟩
theorem pure_catT {xs ys : List PyData} (hl : xs.length + ys.length ≤ 100000) : PureO K (rCatA K) (.tuple xs) (.tuple ys) (.tuple (xs ++ ys)) := fun L H v u Q t d1 d2 q => by
  cases d1 with
  | @tup a vs _ hs ha =>
    cases d2 with
    | @tup b us _ hs' hb =>
      refine ⟨a, b, vs, us, rfl, rfl, sqT_up (msk_same _ _) hs, sqT_up (msk_same _ _) hs', line_of (by rw [dpAll_len ha, dpAll_len hb]; exact hl), fun e => ?_, fun _ e => ?_, fun _ _ p hp => ?_⟩
      · subst e
        cases ha
        exact q _ H (Same.refl H) (.tup hs' hb)
      · subst e
        cases hb
        rw [List.append_nil] at q
        exact q _ H (Same.refl H) (.tup hs ha)
      · exact q _ _ (same_upd hp) (dp_tup t hp (dpAll_app ha hb))
/-! calls -/
theorem pure_lenT {xs : List PyData} {r : List V → Hp → VK → Prop} (hr : ∀ vs H Q, (∃ p ys, vs = [.ref p] ∧ (SqL K H p ys ∨ SqT K H p ys) ∧ Q (.int (ys.length : Nat)) H) → r vs H Q) : PureC K r [.tuple xs] (.int xs.length) := fun L H vs Q t d q => by
  cases d with | cons d1 d2 =>
  cases d2
  cases d1 with
  | @tup a us _ hs ha =>
    refine hr _ _ _ ⟨a, us, rfl, .inr (sqT_up (msk_same _ _) hs), ?_⟩
    rw [dpAll_len ha]
    exact q _ H (Same.refl H) (.int _)
theorem pure_lenL {xs : List PyData} {r : List V → Hp → VK → Prop} (hr : ∀ vs H Q, (∃ p ys, vs = [.ref p] ∧ (SqL K H p ys ∨ SqT K H p ys) ∧ Q (.int (ys.length : Nat)) H) → r vs H Q) : PureC K r [.list xs] (.int xs.length) := fun L H vs Q t d q => by
  cases d with | cons d1 d2 =>
  cases d2
  cases d1 with
  | @lst a us _ hs ha =>
    refine hr _ _ _ ⟨a, us, rfl, .inl ((msk_same _ _).seq hs), ?_⟩
    rw [dpAll_len ha]
    exact q _ H (Same.refl H) (.int _)
theorem pure_tupleL {xs : List PyData} : PureC K (fun xs H Q => ∃ p ys, xs = [.ref p] ∧ ((SqL K H p ys ∧ ∀ l, H l = none → Q (.ref l) (upd H l (.tup ys))) ∨ (SqT K H p ys ∧ Q (.ref p) H))) [.list xs] (.tuple xs) := fun L H vs Q t d q => by
  cases d with | cons d1 d2 =>
  cases d2
  cases d1 with
  | @lst a us _ hs ha => exact ⟨a, us, rfl, .inl ⟨(msk_same _ _).seq hs, fun l hl => q _ _ (same_upd hl) (dp_tup t hl ha)⟩⟩
theorem pure_tupleT {xs : List PyData} : PureC K (fun xs H Q => ∃ p ys, xs = [.ref p] ∧ ((SqL K H p ys ∧ ∀ l, H l = none → Q (.ref l) (upd H l (.tup ys))) ∨ (SqT K H p ys ∧ Q (.ref p) H))) [.tuple xs] (.tuple xs) := fun L H vs Q t d q => by
  cases d with | cons d1 d2 =>
  cases d2
  cases d1 with
  | @tup a us _ hs ha => exact ⟨a, us, rfl, .inr ⟨sqT_up (msk_same _ _) hs, q _ H (Same.refl H) (.tup hs ha)⟩⟩
theorem dp_bls {H : Hp} : ∀ {bs : List Bool} {vs : List V}, DpAll K H vs (bs.map .bool) → vs = bs.map V.bl
  | [], _, h => by cases h; rfl
  | n :: ns, _, h => by
    rw [List.map_cons] at h
    cases h with | cons h1 h2 => cases h1; rw [dp_bls h2]; rfl
theorem pure_any {bs : List Bool} : PureC K (rAny K) [.list (bs.map .bool)] (.bool (bs.any id)) := fun L H vs Q t d q => by
  cases d with | cons d1 d2 =>
  cases d2
  cases d1 with
  | @lst a us _ hs ha =>
    have e := dp_bls ha
    subst e
    exact ⟨a, bs, rfl, (msk_same _ _).seq hs, q _ H (Same.refl H) (.bl _)⟩
theorem pure_all {bs : List Bool} : PureC K (rAll K) [.list (bs.map .bool)] (.bool (bs.all id)) := fun L H vs Q t d q => by
  cases d with | cons d1 d2 =>
  cases d2
  cases d1 with
  | @lst a us _ hs ha =>
    have e := dp_bls ha
    subst e
    exact ⟨a, bs, rfl, (msk_same _ _).seq hs, q _ H (Same.refl H) (.bl _)⟩
theorem pure_intB {b : Bool} : PureC K (fun xs H Q => (∃ i, xs = [.int i] ∧ Q (.int i) H) ∨ ∃ k, xs = [.bl k] ∧ Q (.int (if k then 1 else 0)) H) [.bool b] (.int (if b then 1 else 0)) := fun L H vs Q t d q => by
  cases d with | cons d1 d2 =>
  cases d2
  cases d1
  exact .inr ⟨b, rfl, q _ H (Same.refl H) (.int _)⟩
theorem pure_intI {i : Int} : PureC K (fun xs H Q => (∃ i, xs = [.int i] ∧ Q (.int i) H) ∨ ∃ k, xs = [.bl k] ∧ Q (.int (if k then 1 else 0)) H) [.int i] (.int i) := fun L H vs Q t d q => by
  cases d with | cons d1 d2 =>
  cases d2
  cases d1
  exact .inl ⟨i, rfl, q _ H (Same.refl H) (.int _)⟩
end
/-! lists of one's own: +, * -/
section
variable {X : Cx} {ρ : Rho} {a b : Expr} {pos : Pos}
theorem do_catV {i : Nat} {xs ys : List PyData} (ha : DV X a ρ i (.l xs)) (hi : ρ[i]? = some (some (.l xs))) (hb : DO X b ρ (.l ys)) (hl : xs.length + ys.length ≤ 100000) : DO X (.BinOp a .Add b pos) ρ (.l (xs ++ ys)) :=
  pe_imp (pe_op op_cat ha hb) fun σ H Q ⟨HB, L0, L, es, q⟩ => ⟨HB, L0, L, es, fun v hv hs => ⟨HB, L0, L, es, fun c H2 n e2 h2 => by
    obtain ⟨p, vs, ep, lp, hp, dp⟩ := hs
    obtain ⟨c', us, ec, _, hc, dc⟩ := h2
    injection ec with ec
    subst ec
    subst ep
    refine ⟨p, c, vs, us, rfl, rfl, e2 _ _ hp, hc, line_of (by rw [dpAll_len dp, dpAll_len dc]; exact hl), fun r hr => ?_⟩
    have e3 : Same H2 (upd H2 r (.lst (vs ++ us))) := same_upd hr
    refine q r _ (e2.free hr) (e2.trans e3) ⟨r, _, rfl, .inr rfl, upd_same, dpAll_app (dpAll_up ?_ _ _ dp) (dpAll_up ?_ _ _ dc)⟩
    · exact (msk_up e2).trans (msk_plus e3 hr)
    · exact (msk_less fun x z => .inl z).trans (msk_plus e3 hr)⟩⟩
theorem dp_flat {K : PySem.W.Frag} {H : Hp} {vs : List V} {xs : List PyData} (h : DpAll K H vs xs) : ∀ n : Nat, DpAll K H (List.replicate n vs).flatten (List.replicate n xs).flatten
  | 0 => .nil
  | n + 1 => by
    rw [List.replicate_succ, List.replicate_succ, List.flatten_cons, List.flatten_cons]
    exact dpAll_app h (dp_flat h n)
theorem do_rep {k : Int} {xs : List PyData} (ha : DO X a ρ (.l xs)) (hb : DE X b ρ (.int k)) (h0 : 0 ≤ k) (h1 : k ≤ 1000) (hl : xs.length ≤ 10) : DO X (.BinOp a .Mult b pos) ρ (.l (List.replicate k.toNat xs).flatten) :=
  pe_imp (pe_op op_rep ha hb) fun σ H Q ⟨HB, L0, L, es, q⟩ => ⟨HB, L0, L, es, fun c H2 n e2 h2 => ⟨HB, L0, L, es.up e2, fun v H3 e3 d3 => by
    cases d3
    obtain ⟨c', us, ec, _, hc, dc⟩ := h2
    injection ec with ec
    subst ec
    have hn : us.length * k.toNat ≤ sizeLine := by
      rw [dpAll_len dc]
      exact line_of (Nat.le_trans (Nat.mul_le_mul hl (show k.toNat ≤ 1000 by omega)) (by decide))
    refine ⟨c, k, us, rfl, rfl, e3 _ _ hc, by omega, by omega, hn, fun r hr => ?_⟩
    have e4 : Same H3 (upd H3 r (.lst (List.replicate k.toNat us).flatten)) := same_upd hr
    exact q r _ ((e2.trans e3).free hr) ((e2.trans e3).trans e4) ⟨r, _, rfl, .inr rfl, upd_same, dp_flat (dpAll_up (((msk_up e3).trans (msk_less fun x z => .inl z)).trans (msk_plus e4 hr)) _ _ dc) _⟩⟩⟩
/-- a chain i <= j <= k -/
theorem de_chainI {a b c : Expr} {i j k : Int} (ha : DE X a ρ (.int i)) (hb : DE X b ρ (.int j)) (hc : DE X c ρ (.int k)) (hm : lastMarks [CmpOp.LtE, CmpOp.LtE] [b, c] = false := by with_unfolding_all rfl) :
    DE X (.Compare a [.LtE, .LtE] [b, c] pos) ρ (.bool (decide (i ≤ j) && decide (j ≤ k))) :=
  pe_imp (pe_chain op_le op_le ha hb hc hm) fun σ H Q ⟨HB, L0, L, es, q⟩ => ⟨HB, L0, L, es, fun v H1 e1 d1 => ⟨HB, L0, L, es.up e1, fun u H2 e2 d2 => by
    cases d1
    cases d2
    refine ⟨i, j, rfl, rfl, _, rfl, ?_⟩
    cases q1 : decide (i ≤ j) with
    | false =>
      refine iteF ?_
      have g := q (.bl false) H2 (e1.trans e2)
      rw [q1] at g
      exact g (.bl _)
    | true =>
      refine iteT ⟨HB, L0, L, es.up (e1.trans e2), fun w' H3 e3 d3 => ?_⟩
      cases d3
      refine ⟨j, k, rfl, rfl, ?_⟩
      have g := q (.bl (decide (j ≤ k))) H3 ((e1.trans e2).trans e3)
      rw [q1] at g
      exact g (.bl _)⟩⟩
end
end SG
set_option Elab.async false
set_option linter.all false
set_option maxRecDepth 100000
set_option maxHeartbeats 4000000
/-! Part C: what is walked, comprehensions, statements, loops. -/
namespace SG
open PySem PySem.Spec PyProof.Rows L2
theorem pi_imp {X : Cx} {tg e : Expr} {t t' : TI} (h : PI X tg e t) (i : ∀ σ H Q, t' σ H Q → t σ H Q) : PI X tg e t' := ⟨fun pins s σ H Q I q => h.run pins s σ H Q I (i σ H Q q)⟩
theorem pg_imp {X : Cx} {e : Expr} {t t' : TG} (h : PG X e t) (i : ∀ v σ H Q, t' v σ H Q → t v σ H Q) : PG X e t' := ⟨fun pins s σ H v u Q I r q => h.run pins s σ H v u Q I r (i v σ H Q q)⟩
theorem pts_imp {X : Cx} {es : List Expr} {t t' : TT} (h : PTs X es t) (i : ∀ σ H Q, t' σ H Q → t σ H Q) : PTs X es t' := ⟨fun pins s σ H Q I q => h.run pins s σ H Q I (i σ H Q q)⟩

/-! ### what is walked -/
def GoodIt (K : PySem.W.Frag) (L : Own) (J : It) (H1 : Hp) (items : List PyData) : Prop :=
  ∀ (i : Nat) (H' : Hp) (M : Own), Same (msk L H1) H' → (∀ a, M a → msk L H1 a = none) → Trk M H' →
    (i < items.length → J.go i H') ∧ (i = items.length → J.stop i H') ∧
    ∀ x H'', i < items.length → J.yld i H' x H'' → Same H' H'' ∧ ∃ d, items[i]? = some d ∧ Dp K (msk M H'') x d
def tIt (P : Program) (w : World) (K : PySem.W.Frag) (ρ : Rho) (items : List PyData) : TI := fun σ H R => ∃ HB L0 L, ES P w K HB L0 L σ H ρ ∧ ∀ J H1, Same H H1 → GoodIt K L J H1 items → R J H1
abbrev DI (X : Cx) (tg iter : Expr) (ρ : Rho) (items : List PyData) : Prop := PI X tg iter (tIt X.prog X.w X.K ρ items)
theorem msk_to {L M : Own} {H H' : Hp} (e : Same (msk L H) H') (hm : ∀ a, M a → msk L H a = none) : Same (msk L H) (msk M H') := fun a o q => by
  rw [msk_out fun z => by rw [hm a z] at q; cases q]
  exact e a o q
section
variable {X : Cx} {ρ : Rho} {tg e a b : Expr} {pos : Pos} {xs ys : List PyData}
theorem di_list (h : DE X e ρ (.list xs)) : DI X tg e ρ xs :=
  pi_imp (pi_list h) fun σ H R ⟨HB, L0, L, es, q⟩ => ⟨HB, L0, L, es, fun v H1 e1 d1 => by
    cases d1 with
    | @lst a vs _ hs ha =>
      refine ⟨a, rfl, ⟨vs, (msk_same _ _).seq hs⟩, q _ H1 e1 fun i H' M eM hM tM => ⟨fun hi => ?_, fun hi => ⟨vs, eM.seq hs, by rw [dpAll_len ha]; exact Nat.le_of_eq hi.symm⟩, fun x H'' hi hy => ?_⟩⟩
      · have hi' : i < vs.length := by rw [dpAll_len ha]; exact hi
        exact ⟨vs, vs[i], eM.seq hs, List.getElem?_eq_getElem hi'⟩
      · obtain ⟨rfl, hy⟩ := hy
        obtain ⟨d, hd, dd⟩ := dpAll_at ha (hy vs (eM.seq hs))
        exact ⟨Same.refl _, d, hd, dp_up (msk_to eM hM) _ _ dd⟩⟩
theorem di_tup (h : DE X e ρ (.tuple xs)) : DI X tg e ρ xs :=
  pi_imp (pi_tup h) fun σ H R ⟨HB, L0, L, es, q⟩ => ⟨HB, L0, L, es, fun v H1 e1 d1 => by
    cases d1 with
    | @tup a vs _ hs ha =>
      refine ⟨a, rfl, ⟨vs, sqT_up (msk_same _ _) hs⟩, q _ H1 e1 fun i H' M eM hM tM => ⟨fun hi => ?_, fun hi => ⟨vs, sqT_up eM hs, by rw [dpAll_len ha]; exact Nat.le_of_eq hi.symm⟩, fun x H'' hi hy => ?_⟩⟩
      · have hi' : i < vs.length := by rw [dpAll_len ha]; exact hi
        exact ⟨vs, vs[i], sqT_up eM hs, List.getElem?_eq_getElem hi'⟩
      · obtain ⟨rfl, hy⟩ := hy
        obtain ⟨d, hd, dd⟩ := dpAll_at ha (hy vs (sqT_up eM hs))
        exact ⟨Same.refl _, d, hd, dp_up (msk_to eM hM) _ _ dd⟩⟩
def rngD (n : Nat) : List PyData := (List.range n).map fun (i : Nat) => PyData.int i
theorem rngD_len (n : Nat) : (rngD n).length = n := by unfold rngD; rw [List.length_map, List.length_range]
theorem rngD_at {n i : Nat} (h : i < n) : (rngD n)[i]? = some (.int i) := by
  unfold rngD
  rw [List.getElem?_map, List.getElem?_range h]
  rfl
theorem di_range {n : Nat} {p : Pos} (hg : Gl X "range") (hm : X.mg "range" = none) (ha : DE X a ρ (.int n)) (hn : n ≤ 100000) (hs : starEach [a] X.env = [(false, eval a X.env)] := by rfl) (hs2 : starEach (a :: []) X.env = (false, eval a X.env) :: starEach [] X.env := by rfl) :
    DI X tg (.Call (.Name "range" p) [a] [] pos) ρ (rngD n) :=
  pi_imp (pi_range1 hg hm (da_cons ha da_nil hs2) hs) fun σ H R ⟨HB, L0, L, es, q⟩ => ⟨HB, L0, L, es, fun vs H1 e1 d1 => by
    cases d1 with | cons d1 d2 =>
    cases d2
    cases d1
    refine ⟨(n : Int), rfl, by omega, by omega, q _ H1 e1 fun i H' M eM hM tM => ?_⟩
    rw [rngD_len]
    refine ⟨fun hi => ?_, fun hi => ?_, fun x H'' hi hy => ?_⟩
    · show i < ((n : Nat) : Int).toNat
      rw [Int.toNat_natCast]; exact hi
    · show ((n : Nat) : Int).toNat ≤ i
      rw [Int.toNat_natCast]; exact Nat.le_of_eq hi.symm
    · obtain ⟨rfl, rfl⟩ := hy
      refine ⟨Same.refl _, .int i, rngD_at hi, ?_⟩
      rw [show (0 : Int) + (i : Nat) = (i : Nat) from Int.zero_add _]
      exact .int _⟩
def zipD (xs ys : List PyData) : List PyData := (xs.zip ys).map fun p => .tuple [p.1, p.2]
theorem di_zip {p tpos : Pos} {elts : List Expr} {kk : Nat} (hg : Gl X "zip") (hm : X.mg "zip" = none) (ha : DE X a ρ (.tuple xs)) (hb : DE X b ρ (.tuple ys))
    (hs : starEach [a, b] X.env = (false, eval a X.env) :: starEach [b] X.env := by rfl) (hs2 : starEach (b :: []) X.env = (false, eval b X.env) :: starEach [] X.env := by rfl) (hpl : (backTo pos (starEach [b] X.env)).any (·.1) = false := by rfl) :
    DI X (.Tuple elts kk tpos) (.Call (.Name "zip" p) [a, b] [] pos) ρ (zipD xs ys) :=
  pi_imp (RZ.pi_zipA hg hm (da_cons ha (da_cons hb da_nil hs2) hs) hs hpl) fun σ H R ⟨HB, L0, L, es, q⟩ => ⟨HB, L0, L, es, fun vs H1 e1 d1 => by
    cases d1 with | cons d1 d2 =>
    cases d2 with | cons d2 d3 =>
    cases d3
    cases d1 with
    | @tup a vs _ hs ha =>
      cases d2 with
      | @tup b us _ hs' hb =>
        refine ⟨a, b, vs, us, rfl, .inr ⟨sqT_up (msk_same _ _) hs, sqT_up (msk_same _ _) hs', q _ H1 e1 fun i H' M eM hM tM => ?_⟩⟩
        have hl : (zipD xs ys).length = min xs.length ys.length := by unfold zipD; rw [List.length_map, List.length_zip]
        rw [hl]
        have l1 := dpAll_len ha
        have l2 := dpAll_len hb
        refine ⟨fun hi => ?_, fun hi => ?_, fun x H'' hi hy => ?_⟩
        · have h1 : i < vs.length := by omega
          have h2 : i < us.length := by omega
          exact ⟨vs, us, vs[i], us[i], sqT_up eM hs, sqT_up eM hs', List.getElem?_eq_getElem h1, List.getElem?_eq_getElem h2⟩
        · exact ⟨vs, us, sqT_up eM hs, sqT_up eM hs', by omega⟩
        · obtain ⟨T, x1, y1, rfl, hT, rfl, f1, f2⟩ := hy
          obtain ⟨d, hd, dd⟩ := dpAll_at ha (f1 vs (sqT_up eM hs))
          obtain ⟨d', hd', dd'⟩ := dpAll_at hb (f2 us (sqT_up eM hs'))
          refine ⟨same_upd hT, .tuple [d, d'], ?_, dp_tup tM hT (.cons (dp_up (msk_to eM hM) _ _ dd) (.cons (dp_up (msk_to eM hM) _ _ dd') .nil))⟩
          unfold zipD
          rw [List.getElem?_map, List.getElem?_zip_eq_some (z := (d, d')) |>.mpr ⟨hd, hd'⟩]
          rfl⟩
end

/-! ### targets -/
def tG (P : Program) (w : World) (K : PySem.W.Frag) (T : PyData → (Rho → Rho) → Prop) (js : List Nat) : TG := fun v σ H Q => ∃ HB L0 L ρ x f, ES P w K HB L0 L σ H ρ ∧ Dp K (msk L H) v x ∧ T x f ∧
  ∀ σ', ES P w K HB L0 L σ' H (f ρ) → σ'.length = σ.length → (∀ m : Nat, m ∉ js → σ'[m]? = σ[m]?) → Q σ' H
abbrev DG (X : Cx) (tg : Expr) (T : PyData → (Rho → Rho) → Prop) (js : List Nat) : Prop := PG X tg (tG X.prog X.w X.K T js)
def tgN (i : Nat) : PyData → (Rho → Rho) → Prop := fun x f => f = fun ρ => ρ.set i (some (.d x))
def tgP (i j : Nat) : PyData → (Rho → Rho) → Prop := fun z f => ∃ x y, z = .tuple [x, y] ∧ f = fun ρ => (ρ.set i (some (.d x))).set j (some (.d y))
section
variable {X : Cx}
theorem dg_name (i : Nat) {nm : Str} {pos : Pos} (hN : X.N.Nodup) (hi : X.N[i]? = some nm) (hx : Loc X.env.scope nm) (hf : X.fn nm = true ∨ X.env.scope.names.lookup nm = some .local := by first | exact .inl rfl | exact .inr rfl | assumption) : DG X (.Name nm pos) (tgN i) [i] :=
  pg_imp (pg_name (i := i) hN hi hx hf) fun v σ H Q ⟨HB, L0, L, ρ, x, f, es, dv, hT, q⟩ => by
    have hT : f = fun ρ => ρ.set i (some (.d x)) := hT
    subst hT
    exact q _ (es.set dv) (List.length_set ..) fun m hm => List.getElem?_set_ne fun e => hm (by simp [e])
theorem dg_pair (i j : Nat) {n1 n2 : Str} {p1 p2 pos : Pos} {k : Nat} (hc : X.calm = true) (hN : X.N.Nodup) (hi : X.N[i]? = some n1) (hx : Loc X.env.scope n1) (hj : X.N[j]? = some n2) (hy : Loc X.env.scope n2)
    (hf : X.fn n1 = true ∨ X.env.scope.names.lookup n1 = some .local := by first | exact .inl rfl | exact .inr rfl | assumption) (hf2 : X.fn n2 = true ∨ X.env.scope.names.lookup n2 = some .local := by first | exact .inl rfl | exact .inr rfl | assumption) : DG X (.Tuple [.Name n1 p1, .Name n2 p2] k pos) (tgP i j) [i, j] :=
  pg_imp (pg_tup hc (pgs_cons (pg_name (i := i) hN hi hx hf) (pgs_cons (pg_name (i := j) hN hj hy hf2) pgs_nil))) fun v σ H Q ⟨HB, L0, L, ρ, z, f, es, dv, ⟨x, y, ez, ef⟩, q⟩ => by
    subst ez
    subst ef
    cases dv with
    | @tup a vs _ hs ha =>
      cases ha with | @cons v1 _ _ _ h1 h2 =>
      cases h2 with | @cons v2 _ _ _ h2 h3 =>
      cases h3
      refine ⟨a, [v1, v2], rfl, sqT_up (msk_same _ _) hs, rfl, v1, [v2], rfl, v2, [], rfl, rfl, q _ ((es.set h1).set h2) (by rw [List.length_set, List.length_set]) fun m hm => ?_⟩
      rw [List.getElem?_set_ne (fun e => hm (by simp [e])), List.getElem?_set_ne (fun e => hm (by simp [e]))]
end

/-! ### comprehensions -/
def wipeR (ρ : Rho) : List Nat → Rho
  | [] => ρ
  | v :: vs => (wipeR ρ vs).set v none
section
variable {P : Program} {w : World} {K : PySem.W.Frag} {HB H H' : Hp} {L0 L : Own} {σ : L2.St} {ρ : Rho}
theorem ES.grow {D : Addr} (h : ES P w K HB L0 L σ H ρ) (n : H D = none) (e : Same H H') (hd : H' D ≠ none) : ES P w K HB L0 (plus L D) σ H' ρ where
  base := h.base.trans e
  fr := fun b hb => .inl (h.fr b hb)
  own := fun b hb nb => by
    rcases hb with hb | rfl
    · exact h.own b hb nb
    · cases q : HB b with
      | none => rfl
      | some o => rw [h.base b o q] at n; cases n
  trk := fun b hb => by
    rcases hb with hb | hb
    · exact (h.up e).trk b hb
    · rw [hb]; exact hd
  len := h.len
  at_ := fun j t ht => by
    obtain ⟨v, hv, q⟩ := h.at_ j t ht
    refine ⟨v, hv, slot_move (msk_plus e n) (fun _ b _ hb => ⟨.inl hb, ?_⟩) q⟩
    cases q : H b with
    | none => exact (h.trk b hb q).elim
    | some o => exact e b o q
  mine := h.mine
  sep := h.sep
theorem ES.blank {i : Nat} (h : ES P w K HB L0 L σ H ρ) : ES P w K HB L0 L (σ.set i none) H (ρ.set i none) := by
  have g := h.drop (i := i)
  have key : ∀ (j : Nat) (s : Slot), (ρ.set i none)[j]? = some (some s) → i ≠ j := fun j s hs e => by
    subst e
    by_cases hi : i < ρ.length
    · rw [List.getElem?_set_self hi] at hs; cases hs
    · rw [List.getElem?_eq_none (by rw [List.length_set]; omega)] at hs; cases hs
  refine ⟨g.base, g.fr, g.own, g.trk, by rw [List.length_set, List.length_set]; exact h.len, fun j s hs => ?_, fun j s a hs ow hj => ?_, fun j k s t a ne hs ht ow ot hj hk => ?_⟩
  · obtain ⟨v, hv, q⟩ := g.at_ j s hs
    exact ⟨v, by rw [List.getElem?_set_ne (key j s hs)]; exact hv, q⟩
  · rw [List.getElem?_set_ne (key j s hs)] at hj
    exact g.mine j s a hs ow hj
  · rw [List.getElem?_set_ne (key j s hs)] at hj
    rw [List.getElem?_set_ne (key k t ht)] at hk
    exact g.sep j k s t a ne hs ht ow ot hj hk
theorem ES.wipe (h : ES P w K HB L0 L σ H ρ) : ∀ vs : List Nat, ES P w K HB L0 L (L2.wipe σ vs) H (wipeR ρ vs)
  | [] => h
  | v :: vs => (ES.wipe h vs).blank
end
theorem wipe_get (σ : L2.St) : ∀ (vs : List Nat) (m : Nat), (L2.wipe σ vs)[m]? = if m ∈ vs ∧ m < σ.length then some none else σ[m]?
  | [], m => by simp [L2.wipe]
  | v :: vs, m => by
    show ((L2.wipe σ vs).set v none)[m]? = _
    by_cases e : v = m
    · subst e
      by_cases hv : v < σ.length
      · rw [List.getElem?_set_self (by rw [wipe_length]; exact hv), if_pos ⟨by simp, hv⟩]
      · rw [List.getElem?_eq_none (by rw [List.length_set, wipe_length]; omega), if_neg (fun z => hv z.2), List.getElem?_eq_none (by omega)]
    · rw [List.getElem?_set_ne e, wipe_get σ vs m]
      have : (m ∈ v :: vs ∧ m < σ.length) ↔ (m ∈ vs ∧ m < σ.length) := by simp [Ne.symm e]
      simp only [this]
theorem wipe_eq {σ σ' : L2.St} {vs js : List Nat} (hl : σ'.length = (L2.wipe σ vs).length) (h : ∀ m : Nat, m ∉ js → σ'[m]? = (L2.wipe σ vs)[m]?) (hj : ∀ j ∈ js, j ∈ vs) : L2.wipe σ' vs = L2.wipe σ vs := by
  rw [wipe_length] at hl
  refine List.ext_getElem? fun m => ?_
  rw [wipe_get, wipe_get, hl]
  by_cases q : m ∈ vs ∧ m < σ.length
  · rw [if_pos q, if_pos q]
  · rw [if_neg q, if_neg q]
    by_cases hm : m ∈ js
    · have : ¬ m < σ.length := fun z => q ⟨hj m hm, z⟩
      rw [List.getElem?_eq_none (by omega), List.getElem?_eq_none (by omega)]
    · rw [h m hm, wipe_get, if_neg q]
theorem dts_nil {X : Cx} {ρ : Rho} : PTs X [] (tAtT X.prog X.w X.K ρ true) := pts_imp pts_nil fun σ H Q ⟨HB, L0, L, es, q⟩ => q H (Same.refl H)
theorem dts_one {X : Cx} {ρ : Rho} {c : Expr} {b : Bool} (h : DT X c ρ b) : PTs X [c] (tAtT X.prog X.w X.K ρ b) := pts_one h
section
variable {X : Cx} {ρ : Rho} {elt tg iter : Expr} {ifs : List Expr} {scope : Scope} {own : List (Str × Nat)} {pos : Pos}
/-- what a comprehension asks of its block, for each item t -/
structure LcBlk (X : Cx) (ρ : Rho) (elt tg : Expr) (ifs : List Expr) (scope : Scope) (own : List (Str × Nat)) {τ : Type} (ts : List τ) (enc : τ → PyData) (p : τ → Bool) (g : τ → PyData) (T : PyData → (Rho → Rho) → Prop) (js : List Nat) (fs : τ → Rho → Rho) : Prop where
  tgt : ∀ (s : Shared) (H : Hp) (C : Addr) (cl : List (Str × Addr)) (fp : List Addr), DG (X.blk s H scope (compEnvC scope cl C X.env) fp) tg T js
  js : ∀ j ∈ js, j ∈ own.map (·.2)
  bind : ∀ t ∈ ts, T (enc t) (fs t)
  test : ∀ (s : Shared) (H : Hp) (C : Addr) (cl : List (Str × Addr)) (fp : List Addr), ∀ t ∈ ts, PTs (X.blk s H scope (compEnvC scope cl C X.env) fp) ifs (tAtT X.prog X.w X.K (fs t (wipeR ρ (own.map (·.2)))) (p t))
  elt : ∀ (s : Shared) (H : Hp) (C : Addr) (cl : List (Str × Addr)) (fp : List Addr), ∀ t ∈ ts, p t = true → DE (X.blk s H scope (compEnvC scope cl C X.env) fp) elt (fs t (wipeR ρ (own.map (·.2)))) (g t)
def tFamT {τ : Type} (P : Program) (w : World) (K : PySem.W.Frag) (ts : List τ) (ρf : τ → Rho) (p : τ → Bool) : TT := fun σ H Q => ∃ t, t ∈ ts ∧ tAtT P w K (ρf t) (p t) σ H Q
def tFamE {τ : Type} (P : Program) (w : World) (K : PySem.W.Frag) (ts : List τ) (ρf : τ → Rho) (p : τ → Bool) (g : τ → PyData) : TE := fun σ H Q => ∃ t, t ∈ ts ∧ p t = true ∧ tAt P w K (ρf t) (g t) σ H Q
theorem filter_take_next {τ : Type} {ts : List τ} {p : τ → Bool} {g : τ → PyData} {i : Nat} {t : τ} (h : ts[i]? = some t) : ((ts.take (i + 1)).filter p).map g = ((ts.take i).filter p).map g ++ (if p t = true then [g t] else []) := by
  rw [List.take_add_one, h, List.filter_append, List.map_append]
  congr 1
  show ([t].filter p).map g = _
  cases q : p t with
  | true => rw [List.filter_cons, if_pos q, if_pos rfl]; rfl
  | false => rw [List.filter_cons, if_neg (by rw [q]; decide), if_neg (by decide)]; rfl
theorem t_lc {τ : Type} {ts : List τ} {enc : τ → PyData} {p : τ → Bool} {g : τ → PyData} {T : PyData → (Rho → Rho) → Prop} {js : List Nat} {fs : τ → Rho → Rho} (B : LcBlk X ρ elt tg ifs scope own ts enc p g T js fs) (hz : ts.length ≤ 90000)
    {σ : L2.St} {H : Hp} {Q : VK} (h : tOwn X.prog X.w X.K ρ (.l ((ts.filter p).map g)) σ H Q) :
    tLc (tIt X.prog X.w X.K ρ (ts.map enc)) (tG X.prog X.w X.K T js) (tFamT X.prog X.w X.K ts (fun t => fs t (wipeR ρ (own.map (·.2)))) p) (tFamE X.prog X.w X.K ts (fun t => fs t (wipeR ρ (own.map (·.2)))) p g) (own.map (·.2)) σ H Q := by
  obtain ⟨HB, L0, L, es, q⟩ := h
  refine ⟨HB, L0, L, es, fun J H1 e1 good D hD => ?_⟩
  have es1 := es.up e1
  have hl : (ts.map enc).length = ts.length := List.length_map _
  refine ⟨fun i m H' => m = ts.length - i ∧ i ≤ ts.length ∧ Same H1 H' ∧ ∃ acc, H' D = some (.lst acc) ∧ DpAll X.K (msk (plus L D) H') acc (((ts.take i).filter p).map g),
    ⟨ts.length, by omega, Nat.zero_le _, same_upd hD, [], upd_same, .nil⟩, ?_⟩
  rintro i m H' ⟨rfl, hi, sm, acc, hacc, dacc⟩
  have esD : ES X.prog X.w X.K HB L0 (plus L D) σ H' ρ := es1.grow hD sm (by rw [hacc]; exact fun z => nomatch z)
  have hM : ∀ a, plus L D a → msk L H1 a = none := fun a ha => by
    rcases ha with ha | ha
    · exact msk_in ha
    · subst ha; rw [msk_out (es1.fresh hD)]; exact hD
  obtain ⟨g1, g2, g3⟩ := good i H' (plus L D) ((msk_same _ _).trans sm) hM esD.trk
  rw [hl] at g1 g2 g3
  by_cases hlt : i < ts.length
  · refine .inr ⟨g1 hlt, fun H3 => Same H1 H3 ∧ ∃ acc, H3 D = some (.lst acc) ∧ DpAll X.K (msk (plus L D) H3) acc (((ts.take (i + 1)).filter p).map g), fun H3 ⟨a, b⟩ => ⟨ts.length - (i + 1), by omega, rfl, hlt, a, b⟩, fun x H'' hy => ?_⟩
    obtain ⟨e2, d, hd, dd⟩ := g3 x H'' hlt hy
    obtain ⟨t, ht⟩ : ∃ t, ts[i]? = some t := ⟨ts[i], List.getElem?_eq_getElem hlt⟩
    have hd' : d = enc t := by
      rw [List.getElem?_map, ht] at hd
      exact (Option.some.inj hd).symm
    subst hd'
    have tm : t ∈ ts := List.mem_of_getElem? ht
    have esW := (esD.up e2).wipe (own.map (·.2))
    refine ⟨HB, L0, plus L D, _, enc t, fs t, esW, dd, B.bind t tm, fun σ' es' hl' hw' => ⟨wipe_eq hl' hw' B.js, t, tm, HB, L0, plus L D, es', fun H3 e3 => ?_⟩⟩
    have nx := filter_take_next (p := p) (g := g) ht
    cases pt : p t with
    | false =>
      refine iteF ⟨(sm.trans e2).trans e3, acc, e3 _ _ (e2 _ _ hacc), ?_⟩
      rw [nx, pt, if_neg (by decide), List.append_nil]
      exact dpAll_up (msk_up (e2.trans e3)) _ _ dacc
    | true =>
      refine iteT ⟨t, tm, pt, HB, L0, plus L D, es'.up e3, fun y H4 e4 d4 => ⟨acc, e4 _ _ (e3 _ _ (e2 _ _ hacc)), ?_, ?_, acc ++ [y], upd_same, ?_⟩⟩
      · rw [dpAll_len dacc, List.length_map]
        refine line_lt (Nat.lt_of_le_of_lt (List.length_filter_le ..) ?_)
        rw [List.length_take]
        omega
      · intro b o hb
        rw [upd_ne (ne_of_none hb hD)]
        exact ((sm.trans e2).trans (e3.trans e4)) b o hb
      · rw [msk_upd (.inr rfl), nx, pt, if_pos rfl]
        exact dpAll_app (dpAll_up (msk_up ((e2.trans e3).trans e4)) _ _ dacc) (dpAll_one d4)
  · have e : i = ts.length := by omega
    refine .inl ⟨g2 e, q D H' (e1.free hD) (e1.trans sm) ⟨D, acc, rfl, .inr rfl, hacc, ?_⟩⟩
    rw [e, List.take_length] at dacc
    exact dacc
theorem LcBlk.ht {τ : Type} {ts : List τ} {enc : τ → PyData} {p : τ → Bool} {g : τ → PyData} {T : PyData → (Rho → Rho) → Prop} {js : List Nat} {fs : τ → Rho → Rho} (B : LcBlk X ρ elt tg ifs scope own ts enc p g T js fs) (s : Shared) (H : Hp) (C : Addr) (cl : List (Str × Addr)) (fp : List Addr) :
    PTs (X.blk s H scope (compEnvC scope cl C X.env) fp) ifs (tFamT X.prog X.w X.K ts (fun t => fs t (wipeR ρ (own.map (·.2)))) p) := ⟨fun pins s' σ H' Q I ⟨t, tm, q⟩ => (B.test s H C cl fp t tm).run pins s' σ H' Q I q⟩
theorem LcBlk.he {τ : Type} {ts : List τ} {enc : τ → PyData} {p : τ → Bool} {g : τ → PyData} {T : PyData → (Rho → Rho) → Prop} {js : List Nat} {fs : τ → Rho → Rho} (B : LcBlk X ρ elt tg ifs scope own ts enc p g T js fs) (s : Shared) (H : Hp) (C : Addr) (cl : List (Str × Addr)) (fp : List Addr) :
    PE (X.blk s H scope (compEnvC scope cl C X.env) fp) elt (tFamE X.prog X.w X.K ts (fun t => fs t (wipeR ρ (own.map (·.2)))) p g) := ⟨fun pins s' σ H' Q I ⟨t, tm, pt, q⟩ => (B.elt s H C cl fp t tm pt).run pins s' σ H' Q I q⟩
/-- [elt for tg in iter if ..] as a value -/
theorem do_lc {τ : Type} {ts : List τ} {enc : τ → PyData} {p : τ → Bool} {g : τ → PyData} {T : PyData → (Rho → Rho) → Prop} {js : List Nat} {fs : τ → Rho → Rho} (hc : X.calm = true) (hN : X.N.Nodup) (hi : DI X tg iter ρ (ts.map enc)) (ok : BlkOk X.N X.env.scope scope own)
    (B : LcBlk X ρ elt tg ifs scope own ts enc p g T js fs) (hz : ts.length ≤ 90000) (hs : ∀ x, foldedSetIterable iter X.env x = pure x := by intro _; rfl) : DO X (.ListComp elt [⟨tg, iter, ifs, 0⟩] scope pos) ρ (.l ((ts.filter p).map g)) :=
  pe_imp (pe_lc (own := own) hc hN hi ok B.tgt B.ht B.he hs) fun σ H Q h => t_lc B hz h
end

/-! ### statements -/
inductive Out where
  | nx (ρ : Rho)
  | rt (x : PyData)
  | bk (ρ : Rho)
  | ct (ρ : Rho)
section
variable (P : Program) (w : World) (K : PySem.W.Frag)
def Hits (HB : Hp) (L0 : Own) (D : Ends) : Out → Prop
  | .nx ρ => ∀ σ H, (∃ L, ES P w K HB L0 L σ H ρ) → D.nx σ H
  | .rt x => ∀ v H, Same HB H → Dp K (msk L0 H) v x → D.rt v H
  | .bk ρ => ∀ σ H, (∃ L, ES P w K HB L0 L σ H ρ) → D.bk σ H
  | .ct ρ => ∀ σ H, (∃ L, ES P w K HB L0 L σ H ρ) → D.ct σ H
def tSt (ρ : Rho) (out : Out) : TS := fun D σ H => ∃ HB L0, (∃ L, ES P w K HB L0 L σ H ρ) ∧ Hits P w K HB L0 D out
end
abbrev DS (X : Cx) (st : Stmt) (ρ : Rho) (out : Out) : Prop := PS X st (tSt X.prog X.w X.K ρ out)
abbrev DSs (X : Cx) (sts : List Stmt) (ρ : Rho) (out : Out) : Prop := PSs X sts (tSt X.prog X.w X.K ρ out)
section
variable {X : Cx} {ρ ρ1 : Rho} {out : Out} {st : Stmt} {rest : List Stmt} {e a b c : Expr} {x y z : PyData} {pos : Pos}
theorem dss_nil : DSs X [] ρ (.nx ρ) := pss_imp pss_nil fun D σ H ⟨HB, L0, es, q⟩ => q σ H es
theorem dss_cons (h1 : DS X st ρ (.nx ρ1)) (h2 : DSs X rest ρ1 out) : DSs X (st :: rest) ρ out :=
  pss_imp (pss_cons h1 h2) fun D σ H ⟨HB, L0, es, q⟩ => ⟨HB, L0, es, fun σ' H' es' => ⟨HB, L0, es', q⟩⟩
theorem dss_one (h : DS X st ρ out) : DSs X [st] ρ out := pss_one h
/-- a statement that returns: the rest isn't run -/
theorem dss_rt (h1 : DS X st ρ (.rt x)) (h2 : ∃ t, PSs X rest t) : DSs X (st :: rest) ρ (.rt x) :=
  let ⟨t, h2⟩ := h2
  pss_imp (pss_cons h1 h2) fun D σ H ⟨HB, L0, es, q⟩ => ⟨HB, L0, es, q⟩
theorem dss_rtN (h1 : DS X st ρ (.rt x)) : DSs X (st :: rest) ρ (.rt x) := dss_rt h1 ⟨_, pss_never⟩
theorem ds_ret (h : DE X e ρ x) : DS X (.Return (some e) pos) ρ (.rt x) :=
  ps_imp (ps_ret h) fun D σ H ⟨HB, L0, ⟨L, es⟩, q⟩ => ⟨HB, L0, L, es, fun v H2 e2 d2 => q v H2 (es.base.trans e2) (dp_up (msk_less fun a ha => es.fr a ha) _ _ d2)⟩
/-- a list of one's own is handed back -/
theorem ds_retV {i : Nat} {xs : List PyData} (h : DV X e ρ i (.l xs)) (hi : ρ[i]? = some (some (.l xs))) : DS X (.Return (some e) pos) ρ (.rt (.list xs)) :=
  ps_imp (ps_ret h) fun D σ H ⟨HB, L0, ⟨L, es⟩, q⟩ => ⟨HB, L0, L, es, fun v hv hs => by
    obtain ⟨a, vs, ev, la, ha, hd⟩ := hs
    subst ev
    refine q _ H es.base (.lst (.inl (.inl ?_)) (dpAll_up (msk_less fun a ha => es.fr a ha) _ _ hd))
    rw [msk_out (es.mine i _ a hi trivial hv)]
    exact ha⟩
theorem ds_set (i : Nat) {nm : Str} {p : Pos} (hN : X.N.Nodup) (hi : X.N[i]? = some nm) (hx : Loc X.env.scope nm) (h : DE X e ρ x) (hs : swapsWith e (some (.Name nm p)) pos.line X.env = pure false := by rfl)
    (hf : X.fn nm = true ∨ X.env.scope.names.lookup nm = some .local := by first | exact .inl rfl | exact .inr rfl | assumption) : DS X (.Assign [.Name nm p] e pos) ρ (.nx (ρ.set i (some (.d x)))) :=
  ps_imp (ps_set (i := i) hN hi hx h hs hf) fun D σ H ⟨HB, L0, ⟨L, es⟩, q⟩ => ⟨HB, L0, L, es, fun v H2 e2 d2 => q _ H2 ⟨L, (es.up e2).set d2⟩⟩
theorem ds_setO (i : Nat) {nm : Str} {p : Pos} {s : Slot} (hN : X.N.Nodup) (hi : X.N[i]? = some nm) (hx : Loc X.env.scope nm) (h : DO X e ρ s) (ow : s.owned) (hs : swapsWith e (some (.Name nm p)) pos.line X.env = pure false := by rfl)
    (hf : X.fn nm = true ∨ X.env.scope.names.lookup nm = some .local := by first | exact .inl rfl | exact .inr rfl | assumption) : DS X (.Assign [.Name nm p] e pos) ρ (.nx (ρ.set i (some s))) :=
  ps_imp (ps_set (i := i) hN hi hx h hs hf) fun D σ H ⟨HB, L0, ⟨L, es⟩, q⟩ => ⟨HB, L0, L, es, fun a H2 n e2 h2 => q _ H2 ⟨plus L a, es.setNew n e2 h2 ow⟩⟩
/-- an object of one's own goes to another name -/
theorem ds_move (i : Nat) {j : Nat} {nm : Str} {p : Pos} {s : Slot} (hN : X.N.Nodup) (hi : X.N[i]? = some nm) (hx : Loc X.env.scope nm) (h : DV X e ρ j s) (hj : ρ[j]? = some (some s)) (ow : s.owned) (ne : i ≠ j) (hs : swapsWith e (some (.Name nm p)) pos.line X.env = pure false := by rfl)
    (hf : X.fn nm = true ∨ X.env.scope.names.lookup nm = some .local := by first | exact .inl rfl | exact .inr rfl | assumption) : DS X (.Assign [.Name nm p] e pos) ρ (.nx ((ρ.set j none).set i (some s))) :=
  ps_imp (ps_set (i := i) hN hi hx h hs hf) fun D σ H ⟨HB, L0, ⟨L, es⟩, q⟩ => ⟨HB, L0, L, es, fun v hv hs => q _ H ⟨L, es.move hj ow hv ne⟩⟩
/-- name = [..] on one line, the name a local -/
theorem ds_setLc (i : Nat) {nm : Str} {py spos : Pos} {elt tg iter : Expr} {ifs : List Expr} {scope : Scope} {own : List (Str × Nat)} {τ : Type} {ts : List τ} {enc : τ → PyData} {p : τ → Bool} {g : τ → PyData} {T : PyData → (Rho → Rho) → Prop} {js : List Nat} {fs : τ → Rho → Rho} (hc : X.calm = true) (hN : X.N.Nodup) (hy : X.N[i]? = some nm) (hyl : X.env.scope.names.lookup nm = some .local)
    (hsw : swapsWith (.ListComp elt [⟨tg, iter, ifs, 0⟩] scope pos) (some (.Name nm py)) spos.line X.env = pure true) (hi : DI X tg iter ρ (ts.map enc)) (ok : BlkOk X.N X.env.scope scope own)
    (B : LcBlk X ρ elt tg ifs scope own ts enc p g T js fs) (hz : ts.length ≤ 90000) (hs : ∀ x, foldedSetIterable iter X.env x = pure x := by intro _; rfl) : DS X (.Assign [.Name nm py] (.ListComp elt [⟨tg, iter, ifs, 0⟩] scope pos) spos) ρ (.nx (ρ.set i (some (.l ((ts.filter p).map g))))) :=
  ps_imp (ps_setLc (i := i) (own := own) hc hN hy hyl hsw hi ok B.tgt B.ht B.he hs) fun D σ H ⟨HB, L0, ⟨L, es⟩, q⟩ => t_lc B hz ⟨HB, L0, L, es, fun a H2 n e2 h2 => q _ H2 ⟨plus L a, es.setNew n e2 h2 trivial⟩⟩
theorem ds_if {t : Bool} {sa sb : List Stmt} (hc : DT X c ρ t) (ha : t = true → DSs X sa ρ out) (hb : t = false → DSs X sb ρ out) : DS X (.If c sa sb pos) ρ out := by
  have fam : ∀ {p : Prop} {sts : List Stmt} {u : TS}, (p → PSs X sts u) → PSs X sts (fun D σ H => p ∧ u D σ H) := fun h => ⟨fun pins s σ H D I q => (h q.1).run pins s σ H D I q.2⟩
  refine ps_imp (ps_if hc (fam ha) (fam hb)) fun D σ H ⟨HB, L0, ⟨L, es⟩, q⟩ => ⟨HB, L0, L, es, fun H2 e2 => ?_⟩
  cases t with
  | true => exact iteT ⟨rfl, HB, L0, ⟨L, es.up e2⟩, q⟩
  | false => exact iteF ⟨rfl, HB, L0, ⟨L, es.up e2⟩, q⟩
/-- a branch that isn't taken may be anything -/
theorem ds_ifF {sa sb : List Stmt} (hc : DT X c ρ false) (hb : DSs X sb ρ out) : DS X (.If c sa sb pos) ρ out :=
  ps_imp (ps_if hc pss_never hb) fun D σ H ⟨HB, L0, ⟨L, es⟩, q⟩ => ⟨HB, L0, L, es, fun H2 e2 => iteF ⟨HB, L0, ⟨L, es.up e2⟩, q⟩⟩
/-- what is known may be turned ahead of the rest -/
theorem dss_pre {ρ' : Rho} (h : ∀ HB L0 L σ H, ES X.prog X.w X.K HB L0 L σ H ρ → ∃ L', ES X.prog X.w X.K HB L0 L' σ H ρ') (h2 : DSs X rest ρ' out) : DSs X rest ρ out :=
  pss_imp h2 fun D σ H ⟨HB, L0, ⟨L, es⟩, q⟩ => ⟨HB, L0, h HB L0 L σ H es, q⟩
theorem dss_freeze (i : Nat) {xs : List PyData} (hi : ρ[i]? = some (some (.l xs))) (h : DSs X rest (ρ.set i (some (.d (.list xs)))) out) : DSs X rest ρ out := dss_pre (fun HB L0 L σ H es => es.freeze hi) h
theorem dss_drop (i : Nat) (h : DSs X rest (ρ.set i none) out) : DSs X rest ρ out := dss_pre (fun HB L0 L σ H es => ⟨L, es.drop⟩) h
/-- what is known at the end may be forgotten -/
theorem ds_post {ρ' : Rho} (h : DS X st ρ (.nx ρ1)) (i : ∀ HB L0 L σ H, ES X.prog X.w X.K HB L0 L σ H ρ1 → ∃ L', ES X.prog X.w X.K HB L0 L' σ H ρ') : DS X st ρ (.nx ρ') :=
  ps_imp h fun D σ H ⟨HB, L0, es, q⟩ => ⟨HB, L0, es, fun σ' H' ⟨L, es'⟩ => q σ' H' (i HB L0 L σ' H' es')⟩
theorem dss_post {ρ' : Rho} (h : DSs X rest ρ (.nx ρ1)) (i : ∀ HB L0 L σ H, ES X.prog X.w X.K HB L0 L σ H ρ1 → ∃ L', ES X.prog X.w X.K HB L0 L' σ H ρ') : DSs X rest ρ (.nx ρ') :=
  pss_imp h fun D σ H ⟨HB, L0, es, q⟩ => ⟨HB, L0, es, fun σ' H' ⟨L, es'⟩ => q σ' H' (i HB L0 L σ' H' es')⟩
/-- l.append(e) -/
theorem ds_append (i : Nat) {apos cpos : Pos} {xs : List PyData} (hl : DV X a ρ i (.l xs)) (hi : ρ[i]? = some (some (.l xs))) (h : DE X e ρ x) (hz : xs.length < 100000)
    (hbase : attributeBase a "append" X.env (eval a X.env) = eval a X.env := by rfl)
    (hfew : ((backTo cpos (starEach (e :: []) X.env)).all (fun x => !x.1) && (backToKw cpos (keywordEach [] X.env)).all (fun x => x.1.isSome) && decide ((e :: ([] : List Expr)).length + ([] : List Keyword).length + (if ([] : List Keyword).isEmpty then 0 else 1) < 30)) = true := by rfl)
    (hline : (apos.endLine == cpos.line) = true := by rfl) (hs : starEach (e :: []) X.env = (false, eval e X.env) :: starEach [] X.env := by rfl) (hplain : (backTo cpos (starEach [] X.env)).any (·.1) = false := by rfl)
    (hsw : swapsWith (.Call (.Attribute a "append" apos) (e :: []) [] cpos) none pos.line X.env = pure false := by rfl) :
    DS X (.Expr (.Call (.Attribute a "append" apos) [e] [] cpos) pos) ρ (.nx (ρ.set i (some (.l (xs ++ [x]))))) :=
  ps_imp (ps_expr (pe_bm PySem.F.plainAttrs_list PySem.F.slot_list_append PySem.F.type_list_append mt_append hl (da_cons h da_nil hs) hbase hfew hline hs hplain) hsw) fun D σ H ⟨HB, L0, ⟨L, es⟩, q⟩ => ⟨HB, L0, L, es, fun v hv hsl => by
    obtain ⟨l, vs, ev, la, hH, hd⟩ := hsl
    subst ev
    refine ⟨.inl ⟨rfl, vs, SqL.of hH⟩, HB, L0, L, es, fun us H2 e2 d2 => ?_⟩
    cases d2 with | @cons u _ _ _ d2 d3 =>
    cases d3
    refine ⟨l, vs, u, rfl, rfl, e2 _ _ hH, line_lt (by rw [dpAll_len hd]; exact hz), q σ _ ⟨L, (es.up e2).write hi trivial trivial hv ?_⟩⟩
    refine ⟨l, vs ++ [u], rfl, la, upd_same, ?_⟩
    rw [msk_upd la]
    exact dpAll_app (dpAll_up (msk_up e2) _ _ hd) (dpAll_one d2)⟩
end

/-! ### loops -/
section
variable {P : Program} {w : World} {K : PySem.W.Frag} {HB H : Hp} {L0 L : Own} {σ : L2.St} {ρ : Rho}
/-- what stands besides one's own objects is made the heap that stays -/
theorem ES.rebase (h : ES P w K HB L0 L σ H ρ) : ES P w K (msk (fun a => L a ∧ ¬ L0 a) H) L0 L σ H ρ ∧ Same HB (msk (fun a => L a ∧ ¬ L0 a) H) :=
  ⟨⟨msk_same _ _, h.fr, fun a ha na => msk_in ⟨ha, na⟩, h.trk, h.len, h.at_, h.mine, h.sep⟩, fun a o e => by
    rw [msk_out fun z => by rw [h.own a z.1 z.2] at e; cases e]
    exact h.base a o e⟩
/-- .. and back -/
theorem ES.back {HB' : Hp} (s : Same HB HB') (h : ES P w K HB' L0 L σ H ρ) : ES P w K HB L0 L σ H ρ :=
  ⟨s.trans h.base, h.fr, fun a ha na => s.free (h.own a ha na), h.trk, h.len, h.at_, h.mine, h.sep⟩
theorem Hits.back {D : Ends} {HB' : Hp} (s : Same HB HB') {out : Out} (h : Hits P w K HB L0 D out) : Hits P w K HB' L0 D out := by
  cases out with
  | nx ρ => exact fun σ H ⟨L, es⟩ => h σ H ⟨L, es.back s⟩
  | rt x => exact fun v H e d => h v H (s.trans e) d
  | bk ρ => exact fun σ H ⟨L, es⟩ => h σ H ⟨L, es.back s⟩
  | ct ρ => exact fun σ H ⟨L, es⟩ => h σ H ⟨L, es.back s⟩
end
/-- one turn's end, within the loop -/
def Goes (final : Out) (ρn : Rho) : Out → Prop
  | .nx ρ => ρ = ρn
  | .ct ρ => ρ = ρn
  | .rt x => final = .rt x
  | .bk ρ => final = .nx ρ
def Out.on : Out → Prop
  | .nx _ => True
  | .ct _ => True
  | _ => False
def tFamS {τ : Type} (P : Program) (w : World) (K : PySem.W.Frag) (ts : List τ) (ρf : Nat → τ → Rho) (outs : Nat → Out) : TS := fun D σ H => ∃ k t, ts[k]? = some t ∧ tSt P w K (ρf k t) (outs k) D σ H
section
variable {X : Cx} {ρ : Rho} {tg iter : Expr} {body : List Stmt} {pos : Pos}
/-- from an iterator that has come -/
theorem for_core {τ : Type} {ts : List τ} {enc : τ → PyData} {T : PyData → (Rho → Rho) → Prop} {js : List Nat} {fs : τ → Rho → Rho} {ρs : Nat → Rho} {outs : Nat → Out} {final : Out} (hT : ∀ t ∈ ts, T (enc t) (fs t))
    (hgo : ∀ k, k < ts.length → (∀ j, j < k → (outs j).on) → Goes final (ρs (k + 1)) (outs k)) (hend : (∀ k, k < ts.length → (outs k).on) → final = .nx (ρs ts.length))
    {J : It} {HB H1 : Hp} {L0 L : Own} {σ : L2.St} {D : Ends} (es : ES X.prog X.w X.K HB L0 L σ H1 (ρs 0)) (good : GoodIt X.K L J H1 (ts.map enc)) (q : Hits X.prog X.w X.K HB L0 D final) :
    ∃ W : Nat → Nat → L2.St → Hp → Prop, (∃ m, W 0 m σ H1) ∧ ∀ i m σ H, W i m σ H → (J.stop i H ∧ D.nx σ H) ∨ (J.go i H ∧ ∃ N : L2.St → Hp → Prop, (∀ σ' H', N σ' H' → ∃ m', m' < m ∧ W (i + 1) m' σ' H') ∧
      ∀ x H', J.yld i H x H' → tG X.prog X.w X.K T js x σ H' fun σ2 H2 => tFamS X.prog X.w X.K ts (fun k t => fs t (ρs k)) outs { D with nx := N, ct := N, bk := D.nx } σ2 H2) := by
  have hl : (ts.map enc).length = ts.length := List.length_map _
  obtain ⟨esB, sB⟩ := es.rebase
  have qB := q.back sB
  generalize hHB : msk (fun a => L a ∧ ¬ L0 a) H1 = HB' at esB sB qB
  refine ⟨fun i m σ' H' => m = ts.length - i ∧ i ≤ ts.length ∧ (∀ k, k < i → (outs k).on) ∧ ∃ L', ES X.prog X.w X.K HB' L0 L' σ' H' (ρs i), ⟨ts.length, by omega, Nat.zero_le _, fun k hk => absurd hk (by omega), L, esB⟩, ?_⟩
  rintro i m σ' H' ⟨rfl, hi, hon, L', es'⟩
  have sub : Same (msk L H1) HB' := fun a o e => by
    rw [← hHB]
    obtain ⟨h1, h2⟩ := msk_some e
    rw [msk_out fun z => h1 z.1]
    exact h2
  have hM : ∀ a, L' a → msk L H1 a = none := fun a ha => by
    by_cases h0 : L0 a
    · exact msk_in (es.fr a h0)
    · exact sub.free (es'.own a ha h0)
  obtain ⟨g1, g2, g3⟩ := good i H' L' (sub.trans es'.base) hM es'.trk
  rw [hl] at g1 g2 g3
  by_cases hlt : i < ts.length
  · obtain ⟨t, ht⟩ : ∃ t, ts[i]? = some t := ⟨ts[i], List.getElem?_eq_getElem hlt⟩
    refine .inr ⟨g1 hlt, fun σ2 H2 => (outs i).on ∧ ∃ L2, ES X.prog X.w X.K HB' L0 L2 σ2 H2 (ρs (i + 1)), fun σ2 H2 ⟨on, n⟩ => ⟨ts.length - (i + 1), by omega, rfl, hlt, fun k hk => ?_, n⟩, fun x H'' hy => ?_⟩
    · by_cases e : k = i
      · rw [e]; exact on
      · exact hon k (by omega)
    · obtain ⟨e2, d, hd, dd⟩ := g3 x H'' hlt hy
      have hd' : d = enc t := by
        rw [List.getElem?_map, ht] at hd
        exact (Option.some.inj hd).symm
      subst hd'
      refine ⟨HB', L0, L', ρs i, enc t, fs t, es'.up e2, dd, hT t (List.mem_of_getElem? ht), fun σ2 es2 _ _ => ⟨i, t, ht, HB', L0, ⟨L', es2⟩, ?_⟩⟩
      have go := hgo i hlt hon
      cases ho : outs i with
      | nx ρ' =>
        rw [ho] at go
        have go : ρ' = ρs (i + 1) := go
        subst go
        exact fun σ3 H3 es3 => ⟨trivial, es3⟩
      | ct ρ' =>
        rw [ho] at go
        have go : ρ' = ρs (i + 1) := go
        subst go
        exact fun σ3 H3 es3 => ⟨trivial, es3⟩
      | rt x =>
        rw [ho] at go
        have go : final = .rt x := go
        subst go
        exact qB
      | bk ρ' =>
        rw [ho] at go
        have go : final = .nx ρ' := go
        subst go
        exact qB
  · have e : i = ts.length := by omega
    subst e
    have ef := hend hon
    subst ef
    exact .inl ⟨g2 rfl, qB σ' H' ⟨L', es'⟩⟩
theorem ds_for {τ : Type} {ts : List τ} {enc : τ → PyData} {T : PyData → (Rho → Rho) → Prop} {js : List Nat} {fs : τ → Rho → Rho} {outs : Nat → Out} {final : Out} (ρs : Nat → Rho) (h0 : ρs 0 = ρ) (hp : PassesOwn (model X.prog X.w) X.A X.env X.xe) (hc : X.calm = true) (hi : DI X tg iter ρ (ts.map enc)) (hg : DG X tg T js) (hT : ∀ t ∈ ts, T (enc t) (fs t))
    (hb : ∀ k t, ts[k]? = some t → DSs X body (fs t (ρs k)) (outs k)) (hgo : ∀ k, k < ts.length → (∀ j, j < k → (outs j).on) → Goes final (ρs (k + 1)) (outs k)) (hend : (∀ k, k < ts.length → (outs k).on) → final = .nx (ρs ts.length))
    (hs : ∀ x, foldedSetIterable iter X.env x = pure x := by intro _; rfl) : DS X (.For tg iter body [] pos) ρ final := by
  subst h0
  have fam : PSs X body (tFamS X.prog X.w X.K ts (fun k t => fs t (ρs k)) outs) := ⟨fun pins s σ H D I ⟨k, t, ht, q⟩ => (hb k t ht).run pins s σ H D I q⟩
  exact ps_imp (ps_for hp hc hi hg fam hs) fun D σ H ⟨HB, L0, ⟨L, es⟩, q⟩ => ⟨HB, L0, L, es, fun J H1 e1 good => for_core hT hgo hend (es.up e1) good q⟩
/-- each turn goes on -/
theorem ds_forN {τ : Type} {ts : List τ} {enc : τ → PyData} {T : PyData → (Rho → Rho) → Prop} {js : List Nat} {fs : τ → Rho → Rho} (ρs : Nat → Rho) (h0 : ρs 0 = ρ) (hp : PassesOwn (model X.prog X.w) X.A X.env X.xe) (hc : X.calm = true) (hi : DI X tg iter ρ (ts.map enc)) (hg : DG X tg T js) (hT : ∀ t ∈ ts, T (enc t) (fs t))
    (hb : ∀ k t, ts[k]? = some t → DSs X body (fs t (ρs k)) (.nx (ρs (k + 1)))) (hs : ∀ x, foldedSetIterable iter X.env x = pure x := by intro _; rfl) : DS X (.For tg iter body [] pos) ρ (.nx (ρs ts.length)) :=
  ds_for ρs h0 hp hc hi hg hT (outs := fun k => .nx (ρs (k + 1))) hb (fun k hk _ => rfl) (fun _ => rfl) hs
def tFamW (P : Program) (w : World) (K : PySem.W.Frag) (ρs : Nat → Rho) (N : Nat) : TS := fun D σ H => ∃ k, k < N ∧ tSt P w K (ρs k) (.nx (ρs (k + 1))) D σ H
def tFamC (P : Program) (w : World) (K : PySem.W.Frag) (ρs : Nat → Rho) (N : Nat) : TT := fun σ H Q => ∃ k, k ≤ N ∧ tAtT P w K (ρs k) (decide (k < N)) σ H Q
theorem ds_while {c : Expr} (ρs : Nat → Rho) (N : Nat) (h0 : ρs 0 = ρ) (hp : PassesOwn (model X.prog X.w) X.A X.env X.xe) (hc : ∀ k, k ≤ N → DT X c (ρs k) (decide (k < N))) (hb : ∀ k, k < N → DSs X body (ρs k) (.nx (ρs (k + 1)))) : DS X (.While c body [] pos) ρ (.nx (ρs N)) := by
  subst h0
  have famC : PT X c (tFamC X.prog X.w X.K ρs N) := ⟨fun pins s σ H Q I ⟨k, hk, q⟩ => (hc k hk).run pins s σ H Q I q⟩
  have famB : PSs X body (tFamW X.prog X.w X.K ρs N) := ⟨fun pins s σ H D I ⟨k, hk, q⟩ => (hb k hk).run pins s σ H D I q⟩
  refine ps_imp (ps_while hp famC famB) fun D σ H ⟨HB, L0, es, q⟩ => ⟨fun m σ' H' => ∃ k, k ≤ N ∧ m = N - k ∧ ∃ L, ES X.prog X.w X.K HB L0 L σ' H' (ρs k), ⟨N, 0, Nat.zero_le _, by omega, es⟩, ?_⟩
  rintro m σ' H' ⟨k, hk, rfl, L, es'⟩
  refine ⟨k, hk, HB, L0, L, es', fun H2 e2 => ?_⟩
  by_cases hlt : k < N
  · rw [decide_eq_true hlt]
    exact iteT ⟨fun σ3 H3 => ∃ L, ES X.prog X.w X.K HB L0 L σ3 H3 (ρs (k + 1)), fun σ3 H3 es3 => ⟨N - (k + 1), by omega, k + 1, hlt, rfl, es3⟩, k, hlt, HB, L0, ⟨L, es'.up e2⟩, fun σ3 H3 es3 => es3⟩
  · rw [decide_eq_false hlt]
    have e : k = N := by omega
    subst e
    exact iteF (q σ' H2 ⟨L, es'.up e2⟩)
end
end SG
set_option Elab.async false
set_option linter.all false
set_option maxRecDepth 100000
set_option maxHeartbeats 4000000
/-! Part D1: a def by its body; pairs of assignments; t * n; slices; objects of one's own that are read. -/
namespace SG
open PySem PySem.Spec PyProof.Rows L2

/-! ### a def -/
def inRho (xs : List PyData) (n : Nat) : Rho := xs.map (fun x => some (.d x)) ++ List.replicate (n - xs.length) none
section
variable {P : Program} {w : World} {K : PySem.W.Frag} {mg : Str → Option Value} {base : Heap}
theorem es_start {H : Hp} {L : Own} {vs : List V} {xs : List PyData} {N : List Str} (t : Trk L H) (d : DpAll K (msk L H) vs xs) : ES P w K H L L (start N vs) H (inRho xs N.length) := by
  have hl := dpAll_len d
  have old : ∀ (i : Nat) (s : Slot), (inRho xs N.length)[i]? = some (some s) → ∃ x, xs[i]? = some x ∧ s = .d x := fun i s hs => by
    unfold inRho at hs
    by_cases hi : i < xs.length
    · rw [List.getElem?_append_left (by rw [List.length_map]; exact hi), List.getElem?_map, List.getElem?_eq_getElem hi] at hs
      have q := Option.some.inj (Option.some.inj hs)
      exact ⟨xs[i], List.getElem?_eq_getElem hi, q.symm⟩
    · rw [List.getElem?_append_right (by rw [List.length_map]; omega), List.getElem?_replicate] at hs
      split at hs <;> cases hs
  refine ⟨Same.refl H, fun _ h => h, fun _ h n => absurd h n, t, ?_, fun i s hs => ?_, fun i s a hs ow => ?_, fun i j s u a _ hs _ ow => ?_⟩
  · unfold L2.start inRho
    rw [List.length_append, List.length_append, List.length_map, List.length_map, List.length_replicate, List.length_replicate, hl]
  · obtain ⟨x, hx, rfl⟩ := old i s hs
    obtain ⟨v, hv, q⟩ := dpAll_get d hx
    refine ⟨v, ?_, q⟩
    unfold L2.start
    rw [List.getElem?_append_left (by rw [List.length_map]; exact (List.getElem?_eq_some_iff.mp hv).1), List.getElem?_map, hv]
    rfl
  · obtain ⟨x, hx, rfl⟩ := old i s hs
    exact ow.elim
  · obtain ⟨x, hx, rfl⟩ := old i s hs
    exact ow.elim
theorem fn_ok {x qual : Str} {st : Stmt} {f : Addr} {fd : FuncData} {N ps : List Str} {k : Nat} {G : List PyData → PyData → Prop} (F : Fun K x qual st f fd) (S : FnScope N ps (defScope st)) (len : ∀ xs z, G xs z → xs.length = ps.length)
    (body : ∀ (cdv : Value) (A : Around) (outer : List Env) (s : Shared) (H : Hp) (E : XK), Room k (A.deeper (envOfC qual (defScope st) s.heap.objs.size f cdv)) → ∀ xs z, G xs z →
      DSs (cxOf CX0 P w K mg base N qual (defScope st) f cdv A outer s H E).nox (defBody st) (inRho xs N.length) (.rt z)) : FnOk P w K mg base CX0 (k + 1) f fd ps (spD K G) := by
  refine F.ok S (fun vs H Q E h => ?_) (fun cdv A outer s H vs Q E hr h => ?_)
  · obtain ⟨L, xs, z, t, d, hG, q⟩ := h
    rw [dpAll_len d]
    exact len xs z hG
  · obtain ⟨L, xs, z, t, d, hG, q⟩ := h
    exact ⟨_, body cdv A outer s H E hr xs z hG, H, L, ⟨L, es_start t d⟩, q⟩
end

/-! ### a, b = x, y -/
def tPar2 (i j : Nat) (ta : TA) : TS := fun D σ H => ta σ H fun vs H1 => ∃ v w, vs = [v, w] ∧ ∀ H2, Same H1 H2 → D.nx ((σ.set i (some v)).set j (some w)) H2
def MonoA (ta : TA) : Prop := ∀ σ H Q Q', (∀ vs H, Q vs H → Q' vs H) → ta σ H Q → ta σ H Q'
section
variable {X : Cx} {ρ : Rho} {a b : Expr} {x y : PyData} {pos : Pos} {st : Stmt}
theorem par_L {i j : Nat} {n1 n2 : Str} {ta : TA} {px py pt : Pos} {kt k2 pt2} (hc : X.calm = true) (hN : X.N.Nodup) (hi : X.N[i]? = some n1) (hj : X.N[j]? = some n2) (hij : i ≠ j)
    (hx : X.env.scope.names.lookup n1 = some .local) (hy : X.env.scope.names.lookup n2 = some .local)
    (hw : swappedStores [.Tuple [.Name n1 px, .Name n2 py] kt pt] (.Tuple [a, b] k2 pt2) X.env = pure (some [n1, n2]))
    (hs : swapsWithSole [.Tuple [.Name n1 px, .Name n2 py] kt pt] (.Tuple [a, b] k2 pt2) pos.line X.env = pure false) (ha : PA X [a, b] ta) (mono : MonoA ta) :
    PS X (.Assign [.Tuple [.Name n1 px, .Name n2 py] kt pt] (.Tuple [a, b] k2 pt2) pos) (tPar2 i j ta) :=
  ps_imp (ps_par hc hN hi hj hij hx hy ha hw hs) fun D σ H q => mono σ H _ _ (fun vs H1 ⟨v, w, e, k⟩ => ⟨v, w, e, k H1 (Same.refl H1)⟩) q
theorem par_C {i j : Nat} {n1 n2 : Str} {ta : TA} {px py pt : Pos} {kt k2 pt2} (hc : X.calm = true) (hN : X.N.Nodup) (hi : X.N[i]? = some n1) (hj : X.N[j]? = some n2)
    (hx : Loc X.env.scope n1) (hy : Loc X.env.scope n2)
    (hw : swappedStores [.Tuple [.Name n1 px, .Name n2 py] kt pt] (.Tuple [a, b] k2 pt2) X.env = pure none)
    (hs : swapsWithSole [.Tuple [.Name n1 px, .Name n2 py] kt pt] (.Tuple [a, b] k2 pt2) pos.line X.env = pure false)
    (hf : X.fn n1 = true ∨ X.env.scope.names.lookup n1 = some .local) (hf2 : X.fn n2 = true ∨ X.env.scope.names.lookup n2 = some .local) (ha : PA X [a, b] ta) (mono : MonoA ta) :
    PS X (.Assign [.Tuple [.Name n1 px, .Name n2 py] kt pt] (.Tuple [a, b] k2 pt2) pos) (tPar2 i j ta) :=
  ps_imp (ps_asg (pe_tup ha) (pg_tup hc (pgs_cons (pg_name (i := i) hN hi hx hf) (pgs_cons (pg_name (i := j) hN hj hy hf2) pgs_nil))) hs hw) fun D σ H q => mono σ H _ _ (fun vs H1 ⟨v, w, e, k⟩ => by
    subst e
    refine ⟨by show 2 ≤ sizeLine; decide, fun p hp => ⟨p, [v, w], rfl, .inl (.inl upd_same), rfl, v, [w], rfl, w, [], rfl, rfl, k _ (same_upd hp)⟩⟩) q
/-- how the pair is stored, whatever its parts are -/
abbrev ParOk (X : Cx) (i j : Nat) (a b : Expr) (st : Stmt) : Prop := ∀ ta, PA X [a, b] ta → MonoA ta → PS X st (tPar2 i j ta)
theorem ds_parDD {i j : Nat} (hp : ParOk X i j a b st) (ha : DE X a ρ x) (hb : DE X b ρ y) (hs : starEach (a :: b :: []) X.env = (false, eval a X.env) :: starEach [b] X.env := by rfl) (hs2 : starEach (b :: []) X.env = (false, eval b X.env) :: starEach [] X.env := by rfl) :
    DS X st ρ (.nx ((ρ.set i (some (.d x))).set j (some (.d y)))) :=
  ps_imp (hp _ (da_cons ha (da_cons hb da_nil hs2) hs) fun σ H Q Q' k ⟨HB, L0, L, es, q⟩ => ⟨HB, L0, L, es, fun vs H2 e2 d2 => k _ _ (q vs H2 e2 d2)⟩) fun D σ H ⟨HB, L0, ⟨L, es⟩, q⟩ => ⟨HB, L0, L, es, fun vs H1 e1 d1 => by
    cases d1 with | @cons v _ _ _ d1 d2 =>
    cases d2 with | @cons w _ _ _ d2 d3 =>
    cases d3
    exact ⟨v, w, rfl, fun H2 e2 => q _ H2 ⟨L, (((es.up e1).set d1).set d2).up e2⟩⟩⟩
theorem ds_parOD {i j : Nat} {s : Slot} (hp : ParOk X i j a b st) (ha : DO X a ρ s) (ow : s.owned) (hb : DE X b ρ y) (hs : starEach (a :: b :: []) X.env = (false, eval a X.env) :: starEach [b] X.env := by rfl) (hs2 : starEach (b :: []) X.env = (false, eval b X.env) :: starEach [] X.env := by rfl) :
    DS X st ρ (.nx ((ρ.set i (some s)).set j (some (.d y)))) :=
  ps_imp (hp _ (pa_cons ha (pa_cons hb pa_nil hs2) hs) fun σ H Q Q' k ⟨HB, L0, L, es, q⟩ => ⟨HB, L0, L, es, fun c H2 n e2 h2 => by
    obtain ⟨HB', L0', L', es', q'⟩ := q c H2 n e2 h2
    exact ⟨HB', L0', L', es', fun v H3 e3 d3 => k _ _ (q' v H3 e3 d3)⟩⟩) fun D σ H ⟨HB, L0, ⟨L, es⟩, q⟩ => ⟨HB, L0, L, es, fun c H1 n e1 h1 => by
    have hc : H1 c ≠ none := by
      obtain ⟨c', ec, _, k⟩ := slot_ref ow h1
      injection ec with ec
      rw [ec]
      exact k
    refine ⟨HB, L0, plus L c, es.grow n e1 hc, fun v H2 e2 d2 => ⟨.ref c, v, rfl, fun H3 e3 => q _ H3 ⟨plus L c, ?_⟩⟩⟩
    exact (((es.setNew n e1 h1 ow).up e2).set d2).up e3⟩
theorem ds_parDO {i j : Nat} {s : Slot} (hp : ParOk X i j a b st) (ha : DE X a ρ x) (hb : DO X b ρ s) (ow : s.owned) (hs : starEach (a :: b :: []) X.env = (false, eval a X.env) :: starEach [b] X.env := by rfl) (hs2 : starEach (b :: []) X.env = (false, eval b X.env) :: starEach [] X.env := by rfl) :
    DS X st ρ (.nx ((ρ.set i (some (.d x))).set j (some s))) :=
  ps_imp (hp _ (pa_cons ha (pa_cons hb pa_nil hs2) hs) fun σ H Q Q' k ⟨HB, L0, L, es, q⟩ => ⟨HB, L0, L, es, fun v H2 e2 d2 => by
    obtain ⟨HB', L0', L', es', q'⟩ := q v H2 e2 d2
    exact ⟨HB', L0', L', es', fun c H3 n3 e3 h3 => k _ _ (q' c H3 n3 e3 h3)⟩⟩) fun D σ H ⟨HB, L0, ⟨L, es⟩, q⟩ => ⟨HB, L0, L, es, fun v H1 e1 d1 => ⟨HB, L0, L, es.up e1, fun c H2 n e2 h2 => ⟨v, .ref c, rfl, fun H3 e3 => q _ H3 ⟨plus L c, (((es.up e1).set d1).setNew n e2 h2 ow).up e3⟩⟩⟩⟩
end

/-! ### objects of one's own that are read -/
section
variable {X : Cx} {ρ : Rho} {a b e : Expr} {x y z : PyData} {pos : Pos} {i : Nat} {xs : List PyData}
theorem de_ixV {k : Int} (ha : DV X a ρ i (.l xs)) (hb : DE X b ρ (.int k)) (hk : atI xs k = some z) (hs : PlainIx b) : DE X (.Subscript a b pos) ρ z :=
  pe_imp (pe_ix ix_list ha hb hs) fun σ H Q ⟨HB, L0, L, es, q⟩ => ⟨HB, L0, L, es, fun v hv hsl => ⟨HB, L0, L, es, fun u H2 e2 d2 => by
    obtain ⟨l, vs, ev, la, hH, hd⟩ := hsl
    cases d2
    obtain ⟨t, ht, dt⟩ := atI_dp hd hk
    exact ⟨l, vs, k, t, ev, rfl, SqL.of (e2 _ _ hH), ht, q t H2 e2 (dp_up (msk_up e2) _ _ dt)⟩⟩⟩
theorem de_tupleV {nm : Str} {p : Pos} (hg : Gl X nm) (hm : X.mg nm = none) (hv : bootBuiltins nm = some (.type "tuple")) (ha : DV X a ρ i (.l xs)) (hn : nm ≠ "__name__" := by decide) (hdb : (nm == ("__debug__" : Str)) = false := by decide)
    (hs : starEach (a :: []) X.env = (false, eval a X.env) :: starEach [] X.env := by rfl) (hpl : (backTo pos (starEach [] X.env)).any (·.1) = false := by rfl) : DE X (.Call (.Name nm p) [a] [] pos) ρ (.tuple xs) :=
  pe_imp (pe_callTy call_tuple_of hg hm hv (pa_cons ha pa_nil hs) hn hdb hs hpl) fun σ H Q ⟨HB, L0, L, es, q⟩ => ⟨HB, L0, L, es, fun v hv hsl => by
    obtain ⟨l, vs, ev, la, hH, hd⟩ := hsl
    subst ev
    exact ⟨l, vs, rfl, .inl ⟨SqL.of hH, fun p hp => q _ _ (same_upd hp) (dp_tup es.trk hp hd)⟩⟩⟩
/-- list(t) of a tuple of data: a list of one's own -/
theorem do_list {nm : Str} {p : Pos} (hg : Gl X nm) (hm : X.mg nm = none) (hv : bootBuiltins nm = some (.type "list")) (ha : DE X a ρ (.tuple xs)) (hn : nm ≠ "__name__" := by decide) (hdb : (nm == ("__debug__" : Str)) = false := by decide)
    (hs : starEach (a :: []) X.env = (false, eval a X.env) :: starEach [] X.env := by rfl) (hpl : (backTo pos (starEach [] X.env)).any (·.1) = false := by rfl) : DO X (.Call (.Name nm p) [a] [] pos) ρ (.l xs) :=
  pe_imp (pe_callTy call_list_of hg hm hv (da_cons ha da_nil hs) hn hdb hs hpl) fun σ H Q ⟨HB, L0, L, es, q⟩ => ⟨HB, L0, L, es, fun vs H1 e1 d1 => by
    cases d1 with | cons d1 d2 =>
    cases d2
    cases d1 with
    | @tup l us _ hs ha => exact ⟨l, us, rfl, .inr (sqT_up (msk_same _ _) hs), fun p hp => q p _ (e1.free hp) (e1.trans (same_upd hp)) ⟨p, us, rfl, .inr rfl, upd_same, dpAll_up (msk_plus (same_upd hp) hp) _ _ ha⟩⟩⟩
/-- an item of a list of one's own is stored: l[k] = e -/
theorem ds_setItem {k : Int} {j : Nat} {opos : Pos} (hv : DE X e ρ x) (ho : DV X a ρ i (.l xs)) (hi : ρ[i]? = some (some (.l xs))) (hk : DE X b ρ (.int k)) (hj : ixN xs.length k = some j) (hsw : swapsWithSole [.Subscript a b opos] e pos.line X.env = pure false := by rfl)
    (hsw2 : swappedStores [.Subscript a b opos] e X.env = pure none := by rfl)
    (hx : ∀ v, assign (.Subscript a b opos) X.env v = (do
      let ov ← holding [v] (eval a X.env)
      let iv ← holding [v, ov] (eval b X.env)
      standAt opos
      holding [v, ov, iv] (setItem ov iv v)
      release [v, ov, iv] []) := by intro _; rfl) : DS X (.Assign [.Subscript a b opos] e pos) ρ (.nx (ρ.set i (some (.l (xs.set j x))))) :=
  ps_imp (ps_asg hv (pg_sub ho hk set_list hx) hsw hsw2) fun D σ H ⟨HB, L0, ⟨L, es⟩, q⟩ => ⟨HB, L0, L, es, fun v H1 e1 d1 => ⟨HB, L0, L, es.up e1, fun u hu hsl => ⟨HB, L0, L, es.up e1, fun t H2 e2 d2 => by
    cases d2
    obtain ⟨l, vs, ev, la, hH, hd⟩ := hsl
    subst ev
    refine ⟨l, vs, k, j, rfl, rfl, e2 _ _ hH, by rw [dpAll_len hd]; exact hj, q σ _ ⟨L, ((es.up e1).up e2).write hi trivial trivial hu ⟨l, vs.set j v, rfl, la, upd_same, ?_⟩⟩⟩
    rw [msk_upd la]
    exact dp_setAt (dpAll_up (msk_up e2) _ _ hd) (dp_up (msk_up e2) _ _ d1) j⟩⟩⟩
where
  dp_setAt {K : PySem.W.Frag} {H : Hp} : ∀ {vs : List V} {xs : List PyData} {v : V} {x : PyData}, DpAll K H vs xs → Dp K H v x → ∀ j : Nat, DpAll K H (vs.set j v) (xs.set j x)
    | _, _, _, _, .nil, _, _ => .nil
    | _, _, _, _, .cons h1 h2, h, 0 => .cons h h2
    | _, _, _, _, .cons h1 h2, h, j + 1 => .cons h1 (dp_setAt h2 h j)
end

/-! ### t * n -/
theorem tuple_mul1 (l : Addr) (items : Array Value) (n : Nat) (dd : Option Addr) (sl : Array (Option Value)) (u : Tok) :
    Meets (Builtin.«tuple.__mul__» ⟨[.ref l, .int 1 u], []⟩) (fun _ R s => s.heap.get? l = some { cls := .type "tuple", dict := dd, data := .seq items n, slots := sl } ∧ R (.ok (.ret (Value.ref l))) s) :=
  .of_wp fun prog w A R s h => by
    obtain ⟨hp, g, d, tk, os⟩ := s
    obtain ⟨hl, h⟩ := h
    have f1 := AutoSeq1.idx_int
    have c1 : (items.isEmpty || (1 : Int) == 1) = true := by simp
    wp_walk using wpAny_loadPart' hl
    repeat (first
      | (refine wpAny_ite_false (by decide) ?_; wp_walk using wpAny_loadPart' hl)
      | (refine wpAny_ite_true c1 ?_; wp_walk using wpAny_loadPart' hl))
    exact ⟨_, rfl, h⟩
theorem tuple_mul0 (l : Addr) (items : Array Value) (n : Nat) (dd : Option Addr) (sl : Array (Option Value)) (u : Tok) (hne : items.isEmpty = false) :
    Meets (Builtin.«tuple.__mul__» ⟨[.ref l, .int 0 u], []⟩) (fun _ R s => s.heap.get? l = some { cls := .type "tuple", dict := dd, data := .seq items n, slots := sl } ∧
      R (.ok (.ret (Value.ref s.heap.objs.size))) { s with heap := s.heap.push { cls := Value.type "tuple", data := Data.seq #[] }, toks := s.toks }) :=
  .of_wp fun prog w A R s h => by
    obtain ⟨hp, g, d, tk, os⟩ := s
    obtain ⟨hl, h⟩ := h
    have f1 := AutoSeq1.idx_int
    have c1 : (items.isEmpty || (0 : Int) == 1) = false := by rw [hne]; rfl
    wp_walk using wpAny_loadPart' hl
    repeat (first
      | (refine wpAny_ite_false (by decide) ?_; wp_walk using wpAny_loadPart' hl)
      | (refine wpAny_ite_false (by rw [c1]; exact Bool.false_ne_true) ?_; wp_walk using wpAny_loadPart' hl)
      | (refine wpAny_ite_true (by simp) ?_; wp_walk using wpAny_loadPart' hl))
    exact ⟨_, rfl, h⟩
def rRep3 (K : PySem.W.Frag) : R2 := fun x y H Q => ∃ l k xs, x = .ref l ∧ y = .int k ∧ SqT K H l xs ∧ xs ≠ [] ∧ 0 ≤ k ∧ k ≤ 1000 ∧ xs.length ≤ 1000 ∧ (k = 1 → Q (.ref l) H) ∧ (k ≠ 1 → ∀ p, H p = none → Q (.ref p) (upd H p (.tup (List.replicate k.toNat xs).flatten)))
theorem op_rep3 {X : Cx} : OpR X (binaryOp .Mult) (rRep3 X.K) := by
  intro pins s σ H x y v u Q I rx ry h
  obtain ⟨l, k, xs, rfl, rfl, hT, hne, h0, h1, hz, q1, q2⟩ := h
  by_cases hk : 2 ≤ k
  · exact op_repT pins s σ H _ _ v u Q I rx ry ⟨l, k, xs, rfl, rfl, hT, hne, hk, h1, hz, q2 (by omega)⟩
  · cases rx
    obtain ⟨t, rfl⟩ := ry
    obtain ⟨its, r, ⟨⟨cls, dd, data, sl⟩, ho, hc, n, hd⟩, hs⟩ := I.tuple hT
    simp only at hc hd
    subst hc hd
    have hi : its.toArray.isEmpty = false := by
      cases r with
      | nil => exact absurd rfl hne
      | cons a b => rfl
    by_cases e1 : k = 1
    · subst e1
      exact wpAny_binaryOp_repeat_ref (T := "tuple") (U := "int") (by decide) ⟨_, ho, rfl⟩ (fun s' => typeIs_int s' 1 t) noFill_tuple_mul F.fills_int_mul F.slot_int_rmul repeat_tuple F.slot_int_index.lookup
        (call_meets F.slot_int_rmul (typeIs_int s 1 t) F.entry_int_rmul (F.args_int_rmul_2 _ _) (int_rmul_tuple 1 t l its.toArray n dd sl)
          ⟨ho, rfl, ⟨_, ho, rfl⟩, call_meets F.slot_tuple_mul ⟨_, ho, rfl⟩ F.entry_tuple_mul (F.args_tuple_mul_2 _ _) (tuple_mul1 l its.toArray n dd sl t) ⟨ho, ⟨.ref l, H, I, rfl, q1 rfl⟩⟩⟩)
    · have e0 : k = 0 := by omega
      subst e0
      refine wpAny_binaryOp_repeat_ref (T := "tuple") (U := "int") (by decide) ⟨_, ho, rfl⟩ (fun s' => typeIs_int s' 0 t) noFill_tuple_mul F.fills_int_mul F.slot_int_rmul repeat_tuple F.slot_int_index.lookup
        (call_meets F.slot_int_rmul (typeIs_int s 0 t) F.entry_int_rmul (F.args_int_rmul_2 _ _) (int_rmul_tuple 0 t l its.toArray n dd sl)
          ⟨ho, rfl, ⟨_, ho, rfl⟩, call_meets F.slot_tuple_mul ⟨_, ho, rfl⟩ F.entry_tuple_mul (F.args_tuple_mul_2 _ _) (tuple_mul0 l its.toArray n dd sl t hi) ⟨ho, ?_⟩⟩)
      exact ⟨.ref s.heap.objs.size, _, I.laid (t' := s.toks) (o := .tup []) (fun b ob q => Heap.get?_push_of_some _ q) (Nat.le_refl _) ⟨Nat.zero_le _, [], .nil, IsTup.new _ _⟩, rfl, q2 (by decide) _ (I.hok.fresh (Nat.le_refl _))⟩
theorem pure_rep3 {K : PySem.W.Frag} {xs : List PyData} {k : Int} (hne : xs ≠ []) (h0 : 0 ≤ k) (h1 : k ≤ 1000) (hl : xs.length ≤ 1000) : PureO K (rRep3 K) (.tuple xs) (.int k) (.tuple (List.replicate k.toNat xs).flatten) := fun L H v u Q t d1 d2 q => by
  cases d2
  cases d1 with
  | @tup a vs _ hs ha =>
    refine ⟨a, k, vs, rfl, rfl, sqT_up (msk_same _ _) hs, fun e => ?_, h0, h1, by rw [dpAll_len ha]; exact hl, fun e => ?_, fun _ p hp => q _ _ (same_upd hp) (dp_tup t hp (dp_flat ha _))⟩
    · subst e
      cases ha
      exact hne rfl
    · subst e
      have e2 : (List.replicate (1 : Int).toNat xs).flatten = xs := by show (List.replicate 1 xs).flatten = xs; simp
      rw [e2] at q
      exact q _ H (Same.refl H) (.tup hs ha)

/-! ### slices of tuples -/
def cutD (xs : List PyData) (lo hi : Option Int) : List PyData := (xs.drop (HT.sIx xs.length 0 lo)).take (HT.sIx xs.length xs.length hi - HT.sIx xs.length 0 lo)
theorem dp_cut {K : PySem.W.Frag} {H : Hp} {vs : List V} {xs : List PyData} (lo hi : Option Int) (h : DpAll K H vs xs) : DpAll K H (cutV vs lo hi) (cutD xs lo hi) := by
  unfold cutV cutD
  rw [dpAll_len h]
  exact dpAll_take _ (dpAll_drop _ h)
def tAtO (P : Program) (w : World) (K : PySem.W.Frag) (ρ : Rho) (o : Option Int) : TO := fun σ H Q => ∃ HB L0 L, ES P w K HB L0 L σ H ρ ∧ ∀ H2, Same H H2 → Q o H2
abbrev DPo (X : Cx) (e : Option Expr) (ρ : Rho) (o : Option Int) : Prop := PO X e (tAtO X.prog X.w X.K ρ o)
theorem po_imp {X : Cx} {e : Option Expr} {t t' : TO} (h : PO X e t) (i : ∀ σ H Q, t' σ H Q → t σ H Q) : PO X e t' := ⟨fun pins s σ H Q I q => h.run pins s σ H Q I (i σ H Q q)⟩
section
variable {X : Cx} {ρ : Rho} {e : Expr}
theorem dpo_none : DPo X none ρ none := po_imp po_none fun σ H Q ⟨HB, L0, L, es, q⟩ => q H (Same.refl H)
theorem dpo_some {k : Int} (h : DE X e ρ (.int k)) : DPo X (some e) ρ (some k) := po_imp (po_some h) fun σ H Q ⟨HB, L0, L, es, q⟩ => ⟨HB, L0, L, es, fun v H2 e2 d2 => by
  cases d2
  exact ⟨k, rfl, q H2 e2⟩⟩
theorem de_slice {lo hi : Option Expr} {l h : Option Int} {xs : List PyData} {p2 pos : Pos} (he : DE X e ρ (.tuple xs)) (hl : DPo X lo ρ l) (hh : DPo X hi ρ h) : DE X (.Subscript e (.Slice lo hi none p2) pos) ρ (.tuple (cutD xs l h)) :=
  pe_imp (pe_slice sl_tupA he hl hh) fun σ H Q ⟨HB, L0, L, es, q⟩ => ⟨HB, L0, L, es, fun v H1 e1 d1 => ⟨HB, L0, L, es.up e1, fun H2 e2 => ⟨HB, L0, L, (es.up e1).up e2, fun H3 e3 => by
    have e4 := (e1.trans e2).trans e3
    have d3 := dp_up (msk_up (e2.trans e3)) _ _ d1
    cases d3 with
    | @tup a vs _ hs ha =>
      refine ⟨a, vs, rfl, sqT_up (msk_same _ _) hs, fun ⟨c1, c2⟩ => ?_, fun _ p hp => q _ _ (e4.trans (same_upd hp)) (dp_tup (es.up e4).trk hp (dp_cut l h ha))⟩
      have ec : cutD xs l h = xs := by
        unfold cutD
        rw [dpAll_len ha] at c1 c2
        rw [c1, c2]
        simp
      rw [ec] at q
      exact q _ H3 e4 (.tup hs ha)⟩⟩⟩
end

/-! ### two clauses -/
theorem yes_go {σ : L2.St} {H : Hp} {Q : Bool → Hp → Prop} (h : Q true H) : tYes σ H Q := h
section
variable {P : Program} {w : World} {K : PySem.W.Frag} {HB H H' : Hp} {L0 L : Own} {σ : L2.St} {ρ : Rho}
/-- a new object stands among the callers' ones for a while -/
theorem ES.growF {D : Addr} (h : ES P w K HB L0 L σ H ρ) (n : H D = none) (e : Same H H') (hd : H' D ≠ none) : ES P w K HB (plus L0 D) (plus L D) σ H' ρ := by
  have g := h.grow n e hd
  refine ⟨g.base, fun a ha => ha.elim (fun z => .inl (h.fr a z)) .inr, fun a ha na => ?_, g.trk, g.len, g.at_, fun i s a hs ow hv z => ?_, g.sep⟩
  · rcases ha with ha | ha
    · exact h.own a ha fun z => na (.inl z)
    · exact absurd (.inr ha) na
  · rcases z with z | z
    · exact h.mine i s a hs ow hv z
    · obtain ⟨v, hv', q⟩ := h.at_ i s hs
      obtain ⟨c, ec, _, hc⟩ := slot_ref ow q
      rw [hv] at hv'
      injection hv' with hv'
      injection hv' with hv'
      rw [← hv'] at ec
      injection ec with ec
      rw [← ec, z] at hc
      exact hc n
/-- it changes -/
theorem ES.touch {D : Addr} (h : ES P w K HB L0 L σ H ρ) (hD : L0 D) (hB : HB D = none) (hd : H' D ≠ none) (e : ∀ b o, b ≠ D → H b = some o → H' b = some o) : ES P w K HB L0 L σ H' ρ where
  base := fun b o hb => e b o (ne_of_none hb hB) (h.base b o hb)
  fr := h.fr
  own := h.own
  trk := fun a ha z => by
    by_cases q : a = D
    · rw [q] at z; exact hd z
    · cases r : H a with
      | none => exact h.trk a ha r
      | some o => rw [e a o q r] at z; cases z
  len := h.len
  at_ := fun i s hs => by
    obtain ⟨v, hv, q⟩ := h.at_ i s hs
    refine ⟨v, hv, slot_move (fun b o hb => ?_) (fun ow a ev la => ⟨la, ?_⟩) q⟩
    · obtain ⟨h1, h2⟩ := msk_some hb
      rw [msk_out h1]
      exact e b o (fun z => h1 (by rw [z]; exact h.fr D hD)) h2
    · have na : a ≠ D := fun z => h.mine i s a hs ow (by rw [hv, ev]) (by rw [z]; exact hD)
      cases r : H a with
      | none => exact (h.trk a la r).elim
      | some o => exact e a o na r
  mine := h.mine
  sep := h.sep
end
section
variable {X : Cx} {ρ : Rho} {elt tg iter tg1 iter1 : Expr} {scope : Scope} {own : List (Str × Nat)} {vs1 : List Nat} {pos : Pos}
theorem ds_setLc2 (i : Nat) {nm : Str} {py spos : Pos} {τ μ : Type} {ts : List τ} {us : List μ} {enc : τ → PyData} {enc1 : μ → PyData} {g : τ → μ → PyData} {T T1 : PyData → (Rho → Rho) → Prop} {js js1 : List Nat} {fs : τ → Rho → Rho} {fs1 : μ → Rho → Rho} (hc : X.calm = true) (hN : X.N.Nodup) (hy : X.N[i]? = some nm) (hyl : X.env.scope.names.lookup nm = some .local)
    (hsw : swapsWith (.ListComp elt [⟨tg, iter, [], 0⟩, ⟨tg1, iter1, [], 0⟩] scope pos) (some (.Name nm py)) spos.line X.env = pure true) (hi : DI X tg iter ρ (ts.map enc)) (ok : BlkOk X.N X.env.scope scope own) (hv : ∀ i ∈ vs1, i ∈ own.map (·.2))
    (hg : ∀ (s : Shared) (H : Hp) (C : Addr) (cl : List (Str × Addr)) (fp : List Addr), DG (X.blk s H scope (compEnvC scope cl C X.env) fp) tg T js) (hjs : ∀ j ∈ js, j ∈ own.map (·.2)) (hT : ∀ t ∈ ts, T (enc t) (fs t))
    (hi1 : ∀ (s : Shared) (H : Hp) (C : Addr) (cl : List (Str × Addr)) (fp : List Addr), ∀ t ∈ ts, DI (X.blk s H scope (compEnvC scope cl C X.env) fp) tg1 iter1 (fs t (wipeR ρ (own.map (·.2)))) (us.map enc1))
    (hg1 : ∀ (s : Shared) (H : Hp) (C : Addr) (cl : List (Str × Addr)) (fp : List Addr), DG (X.blk s H scope (compEnvC scope cl C X.env) fp) tg1 T1 js1) (hjs1 : ∀ j ∈ js1, j ∈ vs1) (hT1 : ∀ u ∈ us, T1 (enc1 u) (fs1 u))
    (he : ∀ (s : Shared) (H : Hp) (C : Addr) (cl : List (Str × Addr)) (fp : List Addr), ∀ t ∈ ts, ∀ u ∈ us, DE (X.blk s H scope (compEnvC scope cl C X.env) fp) elt (fs1 u (wipeR (fs t (wipeR ρ (own.map (·.2)))) vs1)) (g t u))
    (hz : ts.length * us.length ≤ 90000) (hs : ∀ x, foldedSetIterable iter X.env x = pure x := by intro _; rfl) (hs1 : ∀ env x, foldedSetIterable iter1 env x = pure x := by intro _ _; rfl) :
    DS X (.Assign [.Name nm py] (.ListComp elt [⟨tg, iter, [], 0⟩, ⟨tg1, iter1, [], 0⟩] scope pos) spos) ρ (.nx (ρ.set i (some (.l (ts.flatMap fun t => us.map (g t)))))) := by
  have hi1' : ∀ (s : Shared) (H : Hp) (C : Addr) (cl : List (Str × Addr)) (fp : List Addr), PI (X.blk s H scope (compEnvC scope cl C X.env) fp) tg1 iter1 (fun σ H R => ∃ t, t ∈ ts ∧ tIt X.prog X.w X.K (fs t (wipeR ρ (own.map (·.2)))) (us.map enc1) σ H R) :=
    fun s H C cl fp => ⟨fun pins s' σ H' R I ⟨t, ht, q⟩ => (hi1 s H C cl fp t ht).run pins s' σ H' R I q⟩
  have he' : ∀ (s : Shared) (H : Hp) (C : Addr) (cl : List (Str × Addr)) (fp : List Addr), PE (X.blk s H scope (compEnvC scope cl C X.env) fp) elt (fun σ H Q => ∃ t, t ∈ ts ∧ ∃ u, u ∈ us ∧ tAt X.prog X.w X.K (fs1 u (wipeR (fs t (wipeR ρ (own.map (·.2)))) vs1)) (g t u) σ H Q) :=
    fun s H C cl fp => ⟨fun pins s' σ H' Q I ⟨t, ht, u, hu, q⟩ => (he s H C cl fp t ht u hu).run pins s' σ H' Q I q⟩
  refine ps_imp (ps_setLc2 (i := i) (own := own) (vs1 := vs1) (g := tG X.prog X.w X.K T js) (g1 := tG X.prog X.w X.K T1 js1) hc hN hy hyl hsw hi ok hv hg (fun _ _ _ _ _ => pts_nil) hi1' hg1 (fun _ _ _ _ _ => pts_nil) he' hs hs1) fun D σ H ⟨HB, L0, ⟨L, es⟩, q⟩ => ⟨HB, L0, L, es, fun J H1 e1 good A hA => ?_⟩
  have es1 := es.up e1
  have hl : (ts.map enc).length = ts.length := List.length_map _
  have hl1 : (us.map enc1).length = us.length := List.length_map _
  have bound : ∀ n m : Nat, n < ts.length → m < us.length → n * us.length + m < 100000 := fun n m hn hm => by
    have a1 : n * us.length + us.length ≤ ts.length * us.length := by
      have := Nat.mul_le_mul_right us.length (show n + 1 ≤ ts.length from hn)
      rw [Nat.succ_mul] at this
      exact this
    omega
  have flen : ∀ l : List τ, (l.flatMap fun t => us.map (g t)).length = l.length * us.length := fun l => by
    induction l with
    | nil => simp
    | cons a r ih => rw [List.flatMap_cons, List.length_append, ih, List.length_map, List.length_cons, Nat.succ_mul, Nat.add_comm]
  refine ⟨fun n m H' => m = ts.length - n ∧ n ≤ ts.length ∧ Same H1 H' ∧ ∃ acc, H' A = some (.lst acc) ∧ DpAll X.K (msk (plus L A) H') acc ((ts.take n).flatMap fun t => us.map (g t)), ⟨ts.length, by omega, Nat.zero_le _, same_upd hA, [], upd_same, .nil⟩, ?_⟩
  rintro n m H' ⟨rfl, hn, sm, acc, hacc, dacc⟩
  have esD : ES X.prog X.w X.K HB (plus L0 A) (plus L A) σ H' ρ := es1.growF hA sm (by rw [hacc]; exact fun z => nomatch z)
  have hBA : HB A = none := es1.base.free hA
  have hM : ∀ a, plus L A a → msk L H1 a = none := fun a ha => by
    rcases ha with ha | ha
    · exact msk_in ha
    · subst ha; rw [msk_out (es1.fresh hA)]; exact hA
  obtain ⟨g1, g2, g3⟩ := good n H' (plus L A) ((msk_same _ _).trans sm) hM esD.trk
  rw [hl] at g1 g2 g3
  by_cases hlt : n < ts.length
  · refine .inr ⟨g1 hlt, fun H3 => Same H1 H3 ∧ ∃ acc, H3 A = some (.lst acc) ∧ DpAll X.K (msk (plus L A) H3) acc ((ts.take (n + 1)).flatMap fun t => us.map (g t)), fun H3 ⟨a, b⟩ => ⟨ts.length - (n + 1), by omega, rfl, hlt, a, b⟩, fun x H'' hy => ?_⟩
    obtain ⟨e2, d, hd, dd⟩ := g3 x H'' hlt hy
    obtain ⟨t, ht⟩ : ∃ t, ts[n]? = some t := ⟨ts[n], List.getElem?_eq_getElem hlt⟩
    have hd' : d = enc t := by
      rw [List.getElem?_map, ht] at hd
      exact (Option.some.inj hd).symm
    subst hd'
    have tm : t ∈ ts := List.mem_of_getElem? ht
    have esW := (esD.up e2).wipe (own.map (·.2))
    have tk : (ts.take (n + 1)).flatMap (fun t => us.map (g t)) = (ts.take n).flatMap (fun t => us.map (g t)) ++ us.map (g t) := by
      rw [List.take_add_one, ht, List.flatMap_append]
      congr 1
      show [t].flatMap _ = _
      simp
    refine ⟨HB, plus L0 A, plus L A, _, enc t, fs t, esW, dd, hT t tm, fun σ' es' hl' hw' => ⟨wipe_eq hl' hw' hjs, ?_⟩⟩
    refine yes_go ?_
    dsimp only
    refine iteT ⟨t, tm, HB, plus L0 A, plus L A, es', fun J1 H4 e4 good1 => ?_⟩
    have sm4 := (sm.trans e2).trans e4
    have a4 : H4 A = some (.lst acc) := e4 _ _ (e2 _ _ hacc)
    refine ⟨fun j k H5 => k = us.length - j ∧ j ≤ us.length ∧ Same H1 H5 ∧ (∀ b o, b ≠ A → H4 b = some o → H5 b = some o) ∧ ∃ acc, H5 A = some (.lst acc) ∧ DpAll X.K (msk (plus L A) H5) acc ((ts.take n).flatMap (fun t => us.map (g t)) ++ (us.take j).map (g t)),
      ⟨us.length, by omega, Nat.zero_le _, sm4, fun _ _ _ h => h, acc, a4, by
        rw [List.take_zero, List.map_nil, List.append_nil]
        exact dpAll_up (msk_up (e2.trans e4)) _ _ dacc⟩, ?_⟩
    rintro j k H5 ⟨rfl, hj, sm5, b5, acc5, hacc5, dacc5⟩
    have n5 : H5 A ≠ none := by rw [hacc5]; exact fun z => nomatch z
    have es5 : ES X.prog X.w X.K HB (plus L0 A) (plus L A) σ' H5 (fs t (wipeR ρ (own.map (·.2)))) := (es'.up e4).touch (.inr rfl) hBA n5 b5
    have s45 : Same (msk (plus L A) H4) H5 := fun b o hb => by
      obtain ⟨h1, h2⟩ := msk_some hb
      exact b5 b o (fun e => h1 (.inr e)) h2
    obtain ⟨i1, i2, i3⟩ := good1 j H5 (plus L A) s45 (fun a ha => msk_in ha) es5.trk
    rw [hl1] at i1 i2 i3
    by_cases hlj : j < us.length
    · refine .inr ⟨i1 hlj, fun H6 => Same H1 H6 ∧ (∀ b o, b ≠ A → H4 b = some o → H6 b = some o) ∧ ∃ acc, H6 A = some (.lst acc) ∧ DpAll X.K (msk (plus L A) H6) acc ((ts.take n).flatMap (fun t => us.map (g t)) ++ (us.take (j + 1)).map (g t)), fun H6 ⟨a, b, c⟩ => ⟨us.length - (j + 1), by omega, rfl, hlj, a, b, c⟩, fun y H6 hy1 => ?_⟩
      obtain ⟨e6, d1, hd1, dd1⟩ := i3 y H6 hlj hy1
      obtain ⟨u, hu⟩ : ∃ u, us[j]? = some u := ⟨us[j], List.getElem?_eq_getElem hlj⟩
      have hd1' : d1 = enc1 u := by
        rw [List.getElem?_map, hu] at hd1
        exact (Option.some.inj hd1).symm
      subst hd1'
      have um : u ∈ us := List.mem_of_getElem? hu
      refine ⟨HB, plus L0 A, plus L A, _, enc1 u, fs1 u, (es5.up e6).wipe vs1, dd1, hT1 u um, fun σ3 es3 hl3 hw3 => ⟨wipe_eq hl3 hw3 hjs1, ?_⟩⟩
      refine yes_go ?_
      dsimp only
      refine iteT ⟨t, tm, u, um, HB, plus L0 A, plus L A, es3, fun z H7 e7 d7 => ⟨acc5, e7 _ _ (e6 _ _ hacc5), ?_, ?_, ?_, acc5 ++ [z], upd_same, ?_⟩⟩
      · rw [dpAll_len dacc5, List.length_append, flen, List.length_map, List.length_take, List.length_take]
        refine line_lt ?_
        have := bound n j hlt hlj
        have e1 : min n ts.length = n := by omega
        have e2 : min j us.length = j := by omega
        rw [e1, e2]
        exact this
      · intro b o hb
        rw [upd_ne (ne_of_none hb hA)]
        exact (e6.trans e7) b o (sm5 b o hb)
      · intro b o hb h4
        rw [upd_ne hb]
        exact (e6.trans e7) b o (b5 b o hb h4)
      · rw [msk_upd (.inr rfl)]
        have ek : (us.take (j + 1)).map (g t) = (us.take j).map (g t) ++ [g t u] := by
          rw [List.take_add_one, hu, List.map_append]
          rfl
        rw [ek, ← List.append_assoc]
        exact dpAll_app (dpAll_up (msk_up (e6.trans e7)) _ _ dacc5) (dpAll_one d7)
    · have ej : j = us.length := by omega
      subst ej
      refine .inl ⟨i2 rfl, sm5, acc5, hacc5, ?_⟩
      rw [List.take_length] at dacc5
      rw [tk]
      exact dacc5
  · have e : n = ts.length := by omega
    subst e
    rw [List.take_length] at dacc
    exact .inl ⟨g2 rfl, q _ H' ⟨plus L A, es1.setNew hA sm ⟨A, acc, rfl, .inr rfl, hacc, dacc⟩ trivial⟩⟩
end
end SG
set_option Elab.async false
set_option linter.all false
set_option maxRecDepth 100000
set_option maxHeartbeats 4000000
/-! Part D2: dicts of one's own whose keys are standings (tuples of tuples of ints). -/
namespace SG
open PySem PySem.Spec PyProof.Rows L2

/-! ### keys -/
theorem nums_data : ∀ r : List Int, NestedKey.datas (r.map .num) = r.map .int
  | [] => rfl
  | i :: r => by
    show NestedKey.data (.num i) :: NestedKey.datas (r.map .num) = _
    rw [nums_data r]
    rfl
theorem nk_dataL : ∀ s : S, NestedKey.datas (s.map nkR) = s.map encR
  | [] => rfl
  | r :: s => by
    show NestedKey.data (nkR r) :: NestedKey.datas (s.map nkR) = _
    rw [nk_dataL s]
    show PyData.tuple (NestedKey.datas (r.map .num)) :: _ = _
    rw [nums_data r]
    rfl
theorem nk_data (s : S) : (nk s).data = encS s := by
  show PyData.tuple (NestedKey.datas (s.map nkR)) = _
  rw [nk_dataL s]
  rfl
theorem nums_depth : ∀ r : List Int, NestedKey.depthAll (r.map .num) = 0
  | [] => rfl
  | i :: r => by
    show max (NestedKey.depth (.num i)) (NestedKey.depthAll (r.map .num)) = 0
    rw [nums_depth r]
    rfl
theorem nk_depthL : ∀ s : S, NestedKey.depthAll (s.map nkR) ≤ 1
  | [] => Nat.zero_le _
  | r :: s => by
    show max (NestedKey.depth (nkR r)) (NestedKey.depthAll (s.map nkR)) ≤ 1
    have h1 := nk_depthL s
    have h2 : NestedKey.depth (nkR r) = 1 := by
      show NestedKey.depthAll (r.map .num) + 1 = 1
      rw [nums_depth r]
    omega
theorem nk_depth (s : S) : (nk s).depth ≤ 8 := by
  show NestedKey.depthAll (s.map nkR) + 1 ≤ 8
  have := nk_depthL s
  omega
section
variable {X : Cx} {pins : List (Addr × Obj)} {σ : L2.St} {H H0 : Hp} {s : Shared}
mutual
theorem nested_of (I : Inv X pins σ H s) : ∀ (k : NestedKey) (v : V) (u : Value), Dp X.K H v k.data → RelV v u → NestedIs s.heap k u
  | .none, _, _, h, r => by
    have h' : Dp X.K H _ .none := h
    cases h'
    cases r
    exact .none
  | .num i, _, _, h, r => by
    have h' : Dp X.K H _ (.int i) := h
    cases h'
    obtain ⟨t, rfl⟩ := r
    exact .int i t
  | .text x, _, _, h, r => by
    have h' : Dp X.K H _ (.str x) := h
    cases h'
    obtain ⟨t, rfl⟩ := r
    exact .text x t
  | .tup ks, _, _, h, r => by
    have h' : Dp X.K H _ (.tuple (NestedKey.datas ks)) := h
    cases h' with
    | tup hs ha =>
      cases r
      obtain ⟨its, rv, ⟨o, ho, hc, n, hd⟩, _⟩ := I.tuple hs
      exact .tup ho hc hd (by simpa using nestedAll_of I ks _ its ha rv)
theorem nestedAll_of (I : Inv X pins σ H s) : ∀ (ks : List NestedKey) (vs : List V) (us : List Value), DpAll X.K H vs (NestedKey.datas ks) → Vals vs us → NestedAll s.heap ks us
  | [], _, _, h, r => by
    have h' : DpAll X.K H _ [] := h
    cases h'
    cases r
    exact .nil
  | k :: ks, _, _, h, r => by
    have h' : DpAll X.K H _ (k.data :: NestedKey.datas ks) := h
    cases h' with
    | cons h1 h2 =>
      cases r with
      | cons r1 r2 => exact .cons (nested_of I k _ _ h1 r1) (nestedAll_of I ks _ _ h2 r2)
end
/-- a standing that stands in the heap is a key -/
theorem key_is (I : Inv X pins σ H s) {a : Addr} {k : S} (h : Dp X.K H (.ref a) (encS k)) : (nestedKind X.prog X.w).is s.heap (nk k) a :=
  ⟨nested_of I (nk k) (.ref a) (.ref a) (by rw [nk_data]; exact h) rfl, nk_depth k⟩
theorem keyed_of (I : Inv X pins σ H s) (e : Same H0 H) {a : Addr} {o : Obj} {xs : List (S × Addr × Value)} {kvs : List (S × PyData)} (ha : H a = some (ObjIs a o)) (d : DictAt X.prog X.w X.K H0 a o xs kvs) : s.heap.DictOfH (nestedKind X.prog X.w) a (xs.map rawE) := by
  obtain ⟨es, ep, hd, he⟩ := d.data
  have ho : s.heap.get? a = some o := (I.hok a _ ha).1
  have hk : xs.map (·.1) = kvs.map (·.1) := by
    have pe := d.ents
    clear he d
    induction pe with
    | nil => rfl
    | cons h t ih => rw [List.map_cons, List.map_cons, h.1, ih]
  refine ⟨o, es, ep, ho, d.exact, hd, he, fun x hx => ?_, ?_⟩
  · obtain ⟨y, hy, rfl⟩ := List.mem_map.mp hx
    have all : ∀ {l : List (S × Addr × Value)} {m : List (S × PyData)}, Paired (EntOk X.K H0) l m → ∀ y ∈ l, Dp X.K H0 (.ref y.2.1) (encS y.1) := by
      intro l m p
      induction p with
      | nil => intro y hy; exact nomatch hy
      | cons h t ih =>
        intro y hy
        rcases List.mem_cons.mp hy with e | hy
        · subst e; exact h.2.1
        · exact ih y hy
    exact key_is I (dp_up e _ _ (all d.ents y hy))
  · have : (xs.map rawE).map (·.1) = (kvs.map (·.1)).map nk := by
      rw [← hk, List.map_map, List.map_map]
      rfl
    rw [this]
    exact List.Pairwise.map nk (fun a b h e => h (nk_inj e)) d.nd
end
def dlook (kvs : List (S × PyData)) (k : S) : Option PyData := (kvs.find? fun y => decide (y.1 = k)).map (·.2)
def dput (kvs : List (S × PyData)) (k : S) (x : PyData) : List (S × PyData) := if (dlook kvs k).isSome then kvs.map (fun y => if y.1 = k then (y.1, x) else y) else kvs ++ [(k, x)]
theorem nk_iff {a b : S} : nk a = nk b ↔ a = b := ⟨nk_inj, fun e => by rw [e]⟩
theorem look_rel {K : PySem.W.Frag} {H : Hp} {k : S} : ∀ {xs : List (S × Addr × Value)} {kvs : List (S × PyData)}, Paired (EntOk K H) xs kvs →
    (∃ p x v, atKey (xs.map rawE) (nk k) = some p ∧ dlook kvs k = some x ∧ RelV v p.2 ∧ Dp K H v x) ∨ (atKey (xs.map rawE) (nk k) = none ∧ dlook kvs k = none)
  | [], _, h => by cases h; exact .inr ⟨rfl, rfl⟩
  | x :: xs, _, h => by
    cases h with
    | @cons _ y _ kvs h t =>
      obtain ⟨e1, d1, v, rv, dv⟩ := h
      by_cases q : x.1 = k
      · refine .inl ⟨(x.2.1, x.2.2), y.2, v, ?_, ?_, rv, dv⟩
        · simp [atKey, rawE, q]
        · simp [dlook, ← e1, q]
      · have q' : ¬ nk x.1 = nk k := fun z => q (nk_inj z)
        have e2 : atKey ((x :: xs).map rawE) (nk k) = atKey (xs.map rawE) (nk k) := by simp [atKey, rawE, q']
        have e3 : dlook (y :: kvs) k = dlook kvs k := by simp [dlook, ← e1, q]
        rw [e2, e3]
        exact look_rel t
def putX (xs : List (S × Addr × Value)) (k : S) (a : Addr) (u : Value) (b : Bool) : List (S × Addr × Value) := if b then xs.map (fun x => if x.1 = k then (x.1, x.2.1, u) else x) else xs ++ [(k, a, u)]
theorem put_raw {xs : List (S × Addr × Value)} {k : S} {a : Addr} {u : Value} {b : Bool} (hb : b = (atKey (xs.map rawE) (nk k)).isSome) : (putX xs k a u b).map rawE = storedH (xs.map rawE) (nk k) a u := by
  subst hb
  unfold putX storedH
  split
  · rw [List.map_map, List.map_map]
    refine List.map_congr_left fun x _ => ?_
    by_cases h : x.1 = k
    · simp [rawE, putAt, h]
    · have h' : ¬ nk x.1 = nk k := fun z => h (nk_inj z)
      simp [rawE, putAt, h, h']
  · rw [List.map_append]
    rfl
theorem paired_app {α β : Type} {R : α → β → Prop} : ∀ {l : List α} {m : List β} {l' : List α} {m' : List β}, Paired R l m → Paired R l' m' → Paired R (l ++ l') (m ++ m')
  | _, _, _, _, .nil, h => h
  | _, _, _, _, .cons h t, g => .cons h (paired_app t g)
theorem put_ents {K : PySem.W.Frag} {H : Hp} {xs : List (S × Addr × Value)} {kvs : List (S × PyData)} {k : S} {a : Addr} {u : Value} {v : V} {x : PyData} (h : Paired (EntOk K H) xs kvs) (hk : Dp K H (.ref a) (encS k)) (rv : RelV v u) (hv : Dp K H v x) :
    Paired (EntOk K H) (putX xs k a u (dlook kvs k).isSome) (dput kvs k x) := by
  unfold putX dput
  split
  · clear hk
    rename_i hq
    clear hq
    induction h with
    | nil => exact .nil
    | @cons p q ps qs h t ih =>
      refine .cons ?_ ih
      obtain ⟨e1, d1, r1⟩ := h
      by_cases e : p.1 = k
      · have e' : q.1 = k := e1 ▸ e
        dsimp only
        rw [if_pos e, if_pos e']
        exact ⟨e1, d1, v, rv, hv⟩
      · have e' : ¬ q.1 = k := fun z => e (e1.trans z)
        dsimp only
        rw [if_neg e, if_neg e']
        exact ⟨e1, d1, r1⟩
  · exact paired_app h (.cons ⟨rfl, hk, v, rv, hv⟩ .nil)
theorem dput_nodup {kvs : List (S × PyData)} {k : S} {x : PyData} (h : (kvs.map (·.1)).Nodup) : ((dput kvs k x).map (·.1)).Nodup := by
  unfold dput
  split
  · have : (kvs.map (fun y => if y.1 = k then (y.1, x) else y)).map (·.1) = kvs.map (·.1) := by
      rw [List.map_map]
      refine List.map_congr_left fun y _ => ?_
      show (if y.1 = k then (y.1, x) else y).1 = y.1
      split <;> rfl
    rw [this]
    exact h
  · rename_i hq
    rw [List.map_append, List.nodup_append]
    refine ⟨h, by simp, fun a ha b hb e => ?_⟩
    have hb : b = k := by simpa using hb
    subst hb
    subst e
    obtain ⟨y, hy, e⟩ := List.mem_map.mp ha
    apply hq
    unfold dlook
    rw [Option.isSome_map, List.find?_isSome]
    exact ⟨y, hy, decide_eq_true e⟩
theorem dput_len (kvs : List (S × PyData)) (k : S) (x : PyData) : (dput kvs k x).length ≤ kvs.length + 1 := by
  unfold dput
  split
  · rw [List.length_map]; omega
  · rw [List.length_append]; exact Nat.le_refl _
theorem dput_new {kvs : List (S × PyData)} {k : S} {x : PyData} (h : dlook kvs k = none) : dput kvs k x = kvs ++ [(k, x)] := by
  unfold dput
  rw [h]
  rfl

/-! ### reading -/
theorem room_of {k : Nat} {A : Around} (hr : Room k A) {P : Program} {w : World} : (nestedKind P w).room A.in1 := by
  show A.in1.units + 8 < cLine
  have := hr.units
  show A.units + 1 + 8 < cLine
  omega
section
variable {X : Cx} {ρ : Rho} {o e a b : Expr} {x : PyData} {pos : Pos} {i k : Nat} {kvs : List (S × PyData)} {s : S}
theorem dict_at_is {pins : List (Addr × Obj)} {σ : L2.St} {H H0 : Hp} {sh : Shared} {a : Addr} {ob : Obj} {xs : List (S × Addr × Value)} (I : Inv X pins σ H sh) (ha : H a = some (ObjIs a ob)) (d : DictAt X.prog X.w X.K H0 a ob xs kvs) :
    sh.TypeIs (.ref a) "dict" ∧ ∀ b, Value.ref a = .ref b → ∃ ob, sh.heap.get? b = some ob ∧ ob.dict = none := by
  have ho : sh.heap.get? a = some ob := (I.hok a _ ha).1
  refine ⟨⟨ob, ho, d.exact.1⟩, fun b q => ?_⟩
  cases q
  exact ⟨ob, ho, d.exact.2.1⟩
/-- d[k], there -/
theorem de_dget (hr : Room k X.A) (ho : DV X o ρ i (.m kvs)) (he : DE X e ρ (encS s)) (hx : dlook kvs s = some x) (hs : NoSl e) : DE X (.Subscript o e pos) ρ x := by
  refine ⟨fun pins sh σ H Q I h => ?_⟩
  obtain ⟨HB, L0, L, es, q⟩ := h
  refine subD_of PySem.F.slot_dict_getitem.lookup hs (thn (ho.run pins sh σ H (fun v H1 => SlotAt X.prog X.w X.K L H1 v (.m kvs) ∧ H1 = H) I ⟨HB, L0, L, es, fun v hv hsl => ⟨hsl, rfl⟩⟩) fun u s1 ⟨v, H1, I1, rv, hsl, e1⟩ =>
    thn (he.run pins s1 σ H1 (fun v2 H2 => Same H1 H2 ∧ Dp X.K (msk L H2) v2 (encS s)) I1 ⟨HB, L0, L, by rw [e1]; exact es, fun v2 H2 e2 d2 => ⟨e2, d2⟩⟩) fun iv s2 ⟨v2, H2, I2, rv2, e2, d2⟩ => ?_)
  obtain ⟨d, ob, xs, ev, la, hd, da⟩ := hsl
  subst ev
  obtain rfl : u = Value.ref d := rv
  have hd2 := e2 _ _ hd
  have es2 : ES X.prog X.w X.K HB L0 L σ H2 ρ := es.up (by rw [← e1]; exact e2)
  have da2 := da.up (msk_up (L := L) e2)
  refine ⟨(dict_at_is I2 hd2 da2).1, ?_⟩
  cases d2 with
  | @tup b vs _ hs ha =>
    obtain rfl : iv = Value.ref b := rv2
    rcases look_rel (k := s) da2.ents with ⟨p, x', v', h1, h2, h3, h4⟩ | ⟨h1, h2⟩
    · rw [hx] at h2
      cases h2
      refine wpAny_getItem_heap (room_of hr) (key_is I2 (dp_up (msk_same _ _) _ _ (.tup hs ha))) (keyed_of I2 (msk_same _ _) hd2 da2) h1 ?_
      exact ⟨v', H2, I2.tok _, h3, q v' H2 (by rw [← e1]; exact e2) h4⟩
    · rw [hx] at h2
      cases h2
/-- k in d, k not in d -/
theorem dt_dnotin (hr : Room k X.A) (he : DE X e ρ (encS s)) (ho : DV X o ρ i (.m kvs)) (hm : behindInMarks .NotIn o = false := by rfl) : DT X (.Compare e [.NotIn] [o] pos) ρ (!(dlook kvs s).isSome) := by
  refine pt_imp (t := fun σ H Q => ∃ HB L0 L, ES X.prog X.w X.K HB L0 L σ H ρ ∧ ∀ H2, Same H H2 → Q (!(dlook kvs s).isSome) H2) ?_ fun σ H Q q => q
  refine ⟨fun pins sh σ H Q I h => ?_⟩
  obtain ⟨HB, L0, L, es, q⟩ := h
  refine wpAny_isTrue_Compare1 (thn (he.run pins sh σ H (fun v2 H2 => Same H H2 ∧ Dp X.K (msk L H2) v2 (encS s)) I ⟨HB, L0, L, es, fun v2 H2 e2 d2 => ⟨e2, d2⟩⟩) fun iv s1 ⟨v2, H1, I1, rv2, e1, d2⟩ =>
    thn (ho.run pins s1 σ H1 (fun v H2 => SlotAt X.prog X.w X.K L H2 v (.m kvs) ∧ H2 = H1) I1 ⟨HB, L0, L, es.up e1, fun v hv hsl => ⟨hsl, rfl⟩⟩) fun u s2 ⟨v, H2, I2, rv, hsl, e2⟩ => ?_) hm
  subst e2
  obtain ⟨d, ob, xs, ev, la, hd, da⟩ := hsl
  subst ev
  obtain rfl : u = Value.ref d := rv
  cases d2 with
  | @tup b vs _ hs ha =>
    obtain rfl : iv = Value.ref b := rv2
    refine wpAny_notIn_heap (room_of hr) (key_is I2 (dp_up (msk_same _ _) _ _ (.tup hs ha))) da.mods (keyed_of I2 (msk_same _ _) hd da) (wpAny_truthy_bool ⟨H2, I2.tok _, ?_⟩)
    rcases look_rel (k := s) da.ents with ⟨p, x', v', h1, h2, h3, h4⟩ | ⟨h1, h2⟩
    · have g := q H2 e1
      rw [h2] at g
      rw [h1]
      exact g
    · have g := q H2 e1
      rw [h2] at g
      rw [h1]
      exact g
theorem de_dnotin (hr : Room k X.A) (he : DE X e ρ (encS s)) (ho : DV X o ρ i (.m kvs)) (hm : behindInMarks .NotIn o = false := by rfl) : DE X (.Compare e [.NotIn] [o] pos) ρ (.bool (!(dlook kvs s).isSome)) := by
  refine ⟨fun pins sh σ H Q I h => ?_⟩
  obtain ⟨HB, L0, L, es, q⟩ := h
  refine wpAny_Compare1 (thn (he.run pins sh σ H (fun v2 H2 => Same H H2 ∧ Dp X.K (msk L H2) v2 (encS s)) I ⟨HB, L0, L, es, fun v2 H2 e2 d2 => ⟨e2, d2⟩⟩) fun iv s1 ⟨v2, H1, I1, rv2, e1, d2⟩ =>
    thn (ho.run pins s1 σ H1 (fun v H2 => SlotAt X.prog X.w X.K L H2 v (.m kvs) ∧ H2 = H1) I1 ⟨HB, L0, L, es.up e1, fun v hv hsl => ⟨hsl, rfl⟩⟩) fun u s2 ⟨v, H2, I2, rv, hsl, e2⟩ => ?_) hm
  subst e2
  obtain ⟨d, ob, xs, ev, la, hd, da⟩ := hsl
  subst ev
  obtain rfl : u = Value.ref d := rv
  cases d2 with
  | @tup b vs _ hs ha =>
    obtain rfl : iv = Value.ref b := rv2
    refine wpAny_notIn_heap (room_of hr) (key_is I2 (dp_up (msk_same _ _) _ _ (.tup hs ha))) da.mods (keyed_of I2 (msk_same _ _) hd da) ⟨.bl (!(dlook kvs s).isSome), H2, I2.tok _, ?_, q _ H2 e1 (.bl _)⟩
    rcases look_rel (k := s) da.ents with ⟨p, x', v', h1, h2, h3, h4⟩ | ⟨h1, h2⟩
    · rw [h1, h2]; rfl
    · rw [h1, h2]; rfl
theorem de_din (hr : Room k X.A) (he : DE X e ρ (encS s)) (ho : DV X o ρ i (.m kvs)) (hm : behindInMarks .In o = false := by rfl) : DE X (.Compare e [.In] [o] pos) ρ (.bool (dlook kvs s).isSome) := by
  refine ⟨fun pins sh σ H Q I h => ?_⟩
  obtain ⟨HB, L0, L, es, q⟩ := h
  refine wpAny_Compare1 (thn (he.run pins sh σ H (fun v2 H2 => Same H H2 ∧ Dp X.K (msk L H2) v2 (encS s)) I ⟨HB, L0, L, es, fun v2 H2 e2 d2 => ⟨e2, d2⟩⟩) fun iv s1 ⟨v2, H1, I1, rv2, e1, d2⟩ =>
    thn (ho.run pins s1 σ H1 (fun v H2 => SlotAt X.prog X.w X.K L H2 v (.m kvs) ∧ H2 = H1) I1 ⟨HB, L0, L, es.up e1, fun v hv hsl => ⟨hsl, rfl⟩⟩) fun u s2 ⟨v, H2, I2, rv, hsl, e2⟩ => ?_) hm
  subst e2
  obtain ⟨d, ob, xs, ev, la, hd, da⟩ := hsl
  subst ev
  obtain rfl : u = Value.ref d := rv
  cases d2 with
  | @tup b vs _ hs ha =>
    obtain rfl : iv = Value.ref b := rv2
    refine wpAny_in_heap (room_of hr) (key_is I2 (dp_up (msk_same _ _) _ _ (.tup hs ha))) da.mods (keyed_of I2 (msk_same _ _) hd da) ⟨.bl (dlook kvs s).isSome, H2, I2.tok _, ?_, q _ H2 e1 (.bl _)⟩
    rcases look_rel (k := s) da.ents with ⟨p, x', v', h1, h2, h3, h4⟩ | ⟨h1, h2⟩
    · rw [h1, h2]; rfl
    · rw [h1, h2]; rfl
/-- len(d) -/
theorem de_dlen {p : Pos} (hm : X.mg "len" = none) (hg : Gl X "len") (ho : DV X o ρ i (.m kvs)) (hs : starEach (o :: []) X.env = (false, eval o X.env) :: starEach [] X.env := by rfl) (hpl : (backTo pos (starEach [] X.env)).any (·.1) = false := by rfl) :
    DE X (.Call (.Name "len" p) [o] [] pos) ρ (.int kvs.length) := by
  refine ⟨fun pins sh σ H Q I h => ?_⟩
  obtain ⟨HB, L0, L, es, q⟩ := h
  refine wpAny_Call_Name_kw (ld_blt I hg hm PySem.boot_len ?_)
  refine PyProof.Rows.callWith_builtin1 (thn ((pa_cons ho pa_nil hs).run pos pins sh σ H (fun vs H1 => ∃ v, vs = [v] ∧ SlotAt X.prog X.w X.K L H1 v (.m kvs) ∧ H1 = H) I ⟨HB, L0, L, es, fun v hv hsl => ⟨v, rfl, hsl, rfl⟩⟩) fun us s1 ⟨vs, H1, I1, rvs, v, ev, hsl, e1⟩ => ?_) hs hpl
  subst ev
  obtain ⟨u, rfl, rv⟩ := vals1 rvs
  obtain ⟨d, ob, xs, ev, la, hd, da⟩ := hsl
  subst ev
  obtain rfl : u = Value.ref d := rv
  have hl : (pairsH (xs.map rawE)).length = kvs.length := by rw [pairsH_length, List.length_map, Paired.length da.ents]
  have hk : s1.heap.DictKeyed (nestedKind X.prog X.w) d (pairsH (xs.map rawE)) := ⟨_, keyed_of I1 (msk_same _ _) hd da, rfl⟩
  have hf := da.few
  refine PyProof.Rows.call_len_slot (n := (kvs.length : Int)) hk.typeIs PySem.F.slot_dict_len (fun Q' hq => len_keyed da.mods hk (by rw [hl]; exact hq)) (by omega) (by omega) ?_
  exact ⟨.int kvs.length, H1, I1.tok _, ⟨_, rfl⟩, q _ H1 (by rw [e1]; exact Same.refl _) (.int _)⟩
/-- d.get(k, x) -/
theorem de_dget2 {f : Expr} {y : PyData} {apos cpos : Pos} (hr : Room k X.A) (ho : DV X o ρ i (.m kvs)) (he : DE X e ρ (encS s)) (hf : DE X f ρ y) (m : M2 X o "get" apos e f cpos) : DE X (.Call (.Attribute o "get" apos) [e, f] [] cpos) ρ ((dlook kvs s).getD y) := by
  refine ⟨fun pins sh σ H Q I h => ?_⟩
  obtain ⟨HB, L0, L, es, q⟩ := h
  refine wpAny_Call_method m.base m.few m.line PySem.F.plainAttrs_dict PySem.F.slot_dict_get PySem.F.type_dict_get (thn (ho.run pins sh σ H (fun v H1 => SlotAt X.prog X.w X.K L H1 v (.m kvs) ∧ H1 = H) I ⟨HB, L0, L, es, fun v hv hsl => ⟨hsl, rfl⟩⟩) fun u s1 ⟨v, H1, I1, rv, hsl, e1⟩ => ?_)
  subst e1
  obtain ⟨d, ob, xs, ev, la, hd, da⟩ := hsl
  subst ev
  obtain rfl : u = Value.ref d := rv
  obtain ⟨t1, t2⟩ := dict_at_is I1 hd da
  refine ⟨t1, t2, ?_⟩
  rw [m.trees]
  refine Calls.callWith_builtin rfl (Calls.evalArgs_plain (Calls.spliced_cons (thn (he.run pins s1 σ H1 (fun v2 H2 => Same H1 H2 ∧ Dp X.K (msk L H2) v2 (encS s)) I1 ⟨HB, L0, L, es, fun v2 H2 e2 d2 => ⟨e2, d2⟩⟩) fun iv s2 ⟨v2, H2, I2, rv2, e2, d2⟩ =>
    Calls.spliced_cons (thn (hf.run pins s2 σ H2 (fun v3 H3 => Same H2 H3 ∧ Dp X.K (msk L H3) v3 y) I2 ⟨HB, L0, L, es.up e2, fun v3 H3 e3 d3 => ⟨e3, d3⟩⟩) fun fv s3 ⟨v3, H3, I3, rv3, e3, d3⟩ => Calls.spliced_nil ?_))))
  have e23 := e2.trans e3
  have da3 := da.up (msk_up (L := L) e23)
  have d2' := dp_up (msk_up (L := L) e3) _ _ d2
  cases d2' with
  | @tup b vs _ hs ha =>
    obtain rfl : iv = Value.ref b := rv2
    refine call_meetsIn PySem.F.slot_dict_get (dict_at_is I3 (e23 _ _ hd) da3).1 PySem.F.entry_dict_get (PySem.F.args_dict_get_3 _ _ _) (meetsH_dict_get_default (nestedKind X.prog X.w) d b da.mods fv)
      ⟨room_of hr, nk s, xs.map rawE, key_is I3 (dp_up (msk_same _ _) _ _ (.tup hs ha)), keyed_of I3 (msk_same _ _) (e23 _ _ hd) da3, ?_⟩
    rcases look_rel (k := s) da3.ents with ⟨p, x', v', h1, h2, h3, h4⟩ | ⟨h1, h2⟩
    · rw [h2] at q
      rw [h1]
      exact ⟨v', H3, I3.tok _, h3, q v' H3 e23 h4⟩
    · rw [h2] at q
      rw [h1]
      exact ⟨v3, H3, I3.tok _, rv3, q v3 H3 e23 d3⟩
end

/-! ### writing -/
theorem objIs_ok {P : Program} {w : World} {H : Hp} {h : Heap} {a : Addr} {o : Obj} (e : h.get? a = some o) : ObjOk P w H h a (ObjIs a o) :=
  ⟨e, ⟨o, e⟩, fun h1 h2 p k => k o p⟩
section
variable {X : Cx} {ρ : Rho} {o e v : Expr} {x : PyData} {pos opos : Pos} {i k : Nat} {kvs : List (S × PyData)} {s : S}
/-- what a dict's object is behind a store -/
theorem dict_put {pins : List (Addr × Obj)} {σ : L2.St} {H : Hp} {sh : Shared} {L : Own} {d b : Addr} {ob : Obj} {xs : List (S × Addr × Value)} {u : Value} {z : V} {h' : Heap} {tk : Nat} (I : Inv X pins σ H sh) (la : L d) (hd : H d = some (ObjIs d ob)) (da : DictAt X.prog X.w X.K (msk L H) d ob xs kvs) (hf : kvs.length < 100000)
    (hk : Dp X.K (msk L H) (.ref b) (encS s)) (rz : RelV z u) (hz : Dp X.K (msk L H) z x) (hm : h'.DictOfH (nestedKind X.prog X.w) d (storedH (xs.map rawE) (nk s) b u)) (sb : Heap.SameBut d sh.heap h') :
    ∃ ob' xs', Inv X pins σ (upd H d (ObjIs d ob')) { sh with heap := h', toks := tk } ∧ DictAt X.prog X.w X.K (msk L H) d ob' xs' (dput kvs s x) := by
  obtain ⟨o', es, ep, ho, hc, hdat, hes, _, _⟩ := hm
  refine ⟨o', putX xs s b u (dlook kvs s).isSome, I.write (x := d) (e := d) (by rw [hd]; trivial) (.inl rfl) (fun c q hb z => (sb.2 c hb).trans z) ⟨o', ho⟩ (objIs_ok ho), hc, da.mods, ⟨es, ep, hdat, ?_⟩, put_ents da.ents hk rz hz, dput_nodup da.nd, Nat.le_trans (dput_len kvs s x) hf⟩
  rw [hes, put_raw]
  rcases look_rel (k := s) da.ents with ⟨p, x', v', h1, h2, h3, h4⟩ | ⟨h1, h2⟩
  · rw [h1, h2]; rfl
  · rw [h1, h2]; rfl
/-- d[k] = v -/
theorem ds_dput (hr : Room k X.A) (ho : DV X o ρ i (.m kvs)) (hi : ρ[i]? = some (some (.m kvs))) (he : DE X e ρ (encS s)) (hv : DE X v ρ x) (hf : kvs.length < 100000) (hs : swapsWith v (some (.Subscript o e opos)) pos.line X.env = pure false := by rfl) :
    DS X (.Assign [.Subscript o e opos] v pos) ρ (.nx (ρ.set i (some (.m (dput kvs s x))))) := by
  refine ⟨fun pins sh σ H D I h => ?_⟩
  obtain ⟨HB, L0, ⟨L, es⟩, q⟩ := h
  refine wpAny_Assign_Subscript (thn (hv.run pins sh σ H (fun z H1 => Same H H1 ∧ Dp X.K (msk L H1) z x) I ⟨HB, L0, L, es, fun z H1 e1 d1 => ⟨e1, d1⟩⟩) fun u s1 ⟨z, H1, I1, rz, e1, dz⟩ =>
    thn (ho.run pins s1 σ H1 (fun w' H2 => σ[i]? = some (some w') ∧ SlotAt X.prog X.w X.K L H2 w' (.m kvs) ∧ H2 = H1) I1 ⟨HB, L0, L, es.up e1, fun w' hw hsl => ⟨hw, hsl, rfl⟩⟩) fun dv s2 ⟨w', H2, I2, rw', hw, hsl, e2⟩ =>
    thn (he.run pins s2 σ H2 (fun v2 H3 => Same H2 H3 ∧ Dp X.K (msk L H3) v2 (encS s)) I2 ⟨HB, L0, L, by rw [e2]; exact es.up e1, fun v2 H3 e3 d3 => ⟨e3, d3⟩⟩) fun iv s3 ⟨v2, H3, I3, rv2, e3, d3⟩ => ?_) hs
  subst e2
  obtain ⟨d, ob, xs, ev, la, hd, da⟩ := hsl
  subst ev
  obtain rfl : dv = Value.ref d := rw'
  have hd3 := e3 _ _ hd
  have da3 := da.up (msk_up (L := L) e3)
  have es3 := (es.up e1).up e3
  cases d3 with
  | @tup b vs _ hs ha =>
    obtain rfl : iv = Value.ref b := rv2
    have kd : Dp X.K (msk L H3) (.ref b) (encS s) := .tup hs ha
    have hxl : (xs.map rawE).length ≤ sizeLine := by rw [List.length_map, Paired.length da.ents]; exact line_of (Nat.le_of_lt hf)
    refine wpAny_setItem_heap (hsz := hxl) (room_of hr) (key_is I3 (dp_up (msk_same _ _) _ _ kd)) (keyed_of I3 (msk_same _ _) hd3 da3) fun h' hm sb => ?_
    obtain ⟨ob', xs', I4, da4⟩ := dict_put (tk := s3.toks + (nestedKind X.prog X.w).draws (nk s)) I3 la hd3 da3 hf kd rz (dp_up (msk_up (L := L) e3) _ _ dz) hm sb
    refine ⟨σ, _, I4, q σ _ ⟨L, es3.write hi trivial trivial hw ⟨d, ob', xs', rfl, la, upd_same, ?_⟩⟩⟩
    rw [msk_upd la]
    exact da4
/-- {}: to be a dict of standings -/
theorem do_dnew : DO X (.Dict [] [] pos) ρ (.m []) := by
  refine ⟨fun pins sh σ H Q I h => ?_⟩
  obtain ⟨HB, L0, L, es, q⟩ := h
  have hn := I.hok.fresh (Nat.le_refl sh.heap.objs.size)
  have hg := Heap.get?_push_size sh.heap (o := { cls := .type "dict", data := .dict #[] }) rfl
  refine wpAny_Dict_empty ⟨.ref sh.heap.objs.size, _, I.laid (a := sh.heap.objs.size) (o := ObjIs sh.heap.objs.size { cls := .type "dict", data := .dict #[] }) (t' := sh.toks) (fun _ _ q => Heap.get?_push_of_some _ q) (Nat.le_refl _) (objIs_ok hg), rfl, q _ _ hn (same_upd hn) ⟨_, _, [], rfl, .inr rfl, upd_same, ⟨⟨rfl, rfl, rfl⟩, ?_, ⟨#[], 0, rfl, rfl⟩, .nil, List.nodup_nil, Nat.zero_le _⟩⟩⟩
  exact beq_eq_false_iff_ne.mpr (Ne.symm (Nat.ne_of_lt I.big))
/-- {k: v} -/
theorem do_disp1 (hr : Room k X.A) (he : DE X e ρ (encS s)) (hv : DE X v ρ x) : DO X (.Dict [some e] [v] pos) ρ (.m [(s, x)]) := by
  refine ⟨fun pins sh σ H Q I h => ?_⟩
  obtain ⟨HB, L0, L, es, q⟩ := h
  have hn := I.hok.fresh (Nat.le_refl sh.heap.objs.size)
  have hg := Heap.get?_push_size sh.heap (o := { cls := .type "dict", data := .dict #[] }) rfl
  have I1 := I.laid (a := sh.heap.objs.size) (o := ObjIs sh.heap.objs.size { cls := .type "dict", data := .dict #[] }) (h' := sh.heap.push { cls := .type "dict", data := .dict #[] }) (t' := sh.toks) (fun _ _ q => Heap.get?_push_of_some _ q) (Nat.le_refl _) (objIs_ok hg)
  have hmods : (sh.heap.objs.size == sysModules) = false := beq_eq_false_iff_ne.mpr (Ne.symm (Nat.ne_of_lt I.big))
  have es1 : ES X.prog X.w X.K HB L0 (plus L sh.heap.objs.size) σ (upd H sh.heap.objs.size (ObjIs sh.heap.objs.size { cls := .type "dict", data := .dict #[] })) ρ := es.grow hn (same_upd hn) (by rw [upd_same]; exact fun z => nomatch z)
  have hroom : (nestedKind X.prog X.w).room X.A := by
    show X.A.units + 8 < cLine
    have := hr.units
    omega
  have hshape := zip_pairTrees [some e] [v] X.env pos rfl rfl
  rw [arm_eval_Dict, hshape, dictDisplay_pairs (pairTrees [some e] [v] X.env pos) (by simp [pairTrees]) (by simp [pairTrees])]
  refine wpAny_bind (wpAny_standAt (wpAny_bind (wpAny_subDictH (knd := nestedKind X.prog X.w) (Q := fun d s' => wpAny (model X.prog X.w) X.A (pure (Value.ref d)) (EP X pins σ Q) X.xe s') hroom (by simp [pairTrees]) ?_)))
  refine pairTrees_cons_walk (thn (he.run pins _ σ _ (fun v2 H2 => Same _ H2 ∧ Dp X.K (msk (plus L sh.heap.objs.size) H2) v2 (encS s)) I1 ⟨HB, L0, _, es1, fun v2 H2 e2 d2 => ⟨e2, d2⟩⟩) fun iv s2 ⟨v2, H2, I2, rv2, e2, d2⟩ =>
    thn (hv.run pins s2 σ H2 (fun v3 H3 => Same H2 H3 ∧ Dp X.K (msk (plus L sh.heap.objs.size) H3) v3 x) I2 ⟨HB, L0, _, es1.up e2, fun v3 H3 e3 d3 => ⟨e3, d3⟩⟩) fun u s3 ⟨v3, H3, I3, rv3, e3, d3⟩ => pairTrees_nil_walk ?_)
  have d2' := dp_up (msk_up (L := plus L sh.heap.objs.size) e3) _ _ d2
  have hd3 : H3 sh.heap.objs.size = some (ObjIs sh.heap.objs.size { cls := .type "dict", data := .dict #[] }) := (e2.trans e3) _ _ upd_same
  have da0 : DictAt X.prog X.w X.K (msk (plus L sh.heap.objs.size) H3) sh.heap.objs.size { cls := .type "dict", data := .dict #[] } [] [] := ⟨⟨rfl, rfl, rfl⟩, hmods, ⟨#[], 0, rfl, rfl⟩, .nil, List.nodup_nil, Nat.zero_le _⟩
  have es3 := (es1.up e2).up e3
  obtain ⟨b, ev2, kd⟩ : ∃ b, v2 = .ref b ∧ Dp X.K (msk (plus L sh.heap.objs.size) H3) (.ref b) (encS s) := by
    have g := d2'
    unfold encS at g
    cases g with
    | @tup b vs _ hs ha => exact ⟨b, rfl, .tup hs ha⟩
  subst ev2
  obtain rfl : iv = Value.ref b := rv2
  refine ⟨[(nk s, b, u)], ⟨rfl, rfl, key_is I3 (dp_up (msk_same _ _) _ _ kd), trivial⟩, keyed_of I3 (msk_same _ _) hd3 da0, fun h' tk hm sb => wpAny_pure ?_⟩
  obtain ⟨ob', xs', I4, da4⟩ := dict_put (tk := tk) I3 (.inr rfl) hd3 da0 (by decide) kd rv3 d3 hm sb
  refine ⟨.ref sh.heap.objs.size, _, I4, rfl, q _ _ hn ?_ ⟨_, ob', xs', rfl, .inr rfl, upd_same, ?_⟩⟩
  · intro c o' hc
    rw [upd_ne (ne_of_none hc hn)]
    exact e3 _ _ (e2 _ _ (same_upd hn _ _ hc))
  · rw [msk_upd (.inr rfl)]
    exact da4
end
end SG
set_option Elab.async false
set_option linter.all false
set_option maxRecDepth 100000
set_option maxHeartbeats 4000000
/-! Part D3: items of a dict, sorted, set, enumerate of a tuple, isinstance. -/
namespace SG
open PySem PySem.Spec PyProof.Rows L2

/-! ### isinstance -/
def tyName : PyData → String
  | .none => "NoneType"
  | .bool _ => "bool"
  | .int _ => "int"
  | .str _ => "str"
  | .list _ => "list"
  | .tuple _ => "tuple"
  | .dict _ => "dict"
theorem dp_ty {K : PySem.W.Frag} {H : Hp} {v : V} {x : PyData} (h : Dp K H v x) : TyX K H v (.type (tyName x)) := by
  cases h with
  | non => exact .base .non
  | bl b => exact .base (.bl b)
  | int i => exact .base (.int i)
  | str x => exact .base (.str x)
  | lst hs ha =>
    rcases hs with (h | ⟨o, h⟩) | ⟨o, its, n, hk, hc, _⟩
    · exact .base (.lst h)
    · exact .base (.frz h)
    · exact .kList hk hc
  | tup hs ha =>
    rcases hs with (h | ⟨o, h⟩) | ⟨o, its, n, hk, hc, _⟩
    · exact .base (.tup h)
    · exact .fTuple h
    · exact .kTuple hk hc
section
variable {X : Cx} {ρ : Rho} {a : Expr} {x : PyData} {pos p p1 p2 : Pos}
theorem de_isi {nm : Str} {T : String} {r : Bool} (hg : Gl X "isinstance") (hm : X.mg "isinstance" = none) (ha : DE X a ρ x) (hgT : Gl X nm) (hmT : X.mg nm = none) (hvT : bootBuiltins nm = some (.type T)) (hr : kitB (tyName x) T = some r) (hn : nm ≠ "__name__" := by decide) (hd : (nm == ("__debug__" : Str)) = false := by decide)
    (hs : starEach (a :: .Name nm p1 :: []) X.env = (false, eval a X.env) :: starEach [.Name nm p1] X.env := by rfl) (hs2 : starEach (.Name nm p1 :: []) X.env = (false, eval (.Name nm p1) X.env) :: starEach [] X.env := by rfl)
    (hpl : (backTo pos (starEach [.Name nm p1] X.env)).any (·.1) = false := by rfl) : DE X (.Call (.Name "isinstance" p) [a, .Name nm p1] [] pos) ρ (.bool r) :=
  pe_imp (pe_callB call_isi hg hm boot_isinstance (pa_cons ha (pa_cons (pe_bltn (v := .ty T) hgT hmT hvT rfl hn hd) pa_nil hs2) hs) (by decide) (by decide) hs hpl) fun σ H Q ⟨HB, L0, L, es, q⟩ => ⟨HB, L0, L, es, fun v H1 e1 d1 =>
    ⟨v, .ty T, _, _, r, rfl, .ty T, dp_ty (dp_up (msk_same _ _) _ _ d1), kit_ty hr, q _ H1 e1 (.bl r)⟩⟩
/-- isinstance(x, (S, T)) -/
theorem de_isi2 {n1 n2 : Str} {T1 T2 : String} {r : Bool} {x1 : Nat} {p3 : Pos} (hg : Gl X "isinstance") (hm : X.mg "isinstance" = none) (ha : DE X a ρ x) (hg1 : Gl X n1) (hm1 : X.mg n1 = none) (hv1 : bootBuiltins n1 = some (.type T1)) (hg2 : Gl X n2) (hm2 : X.mg n2 = none) (hv2 : bootBuiltins n2 = some (.type T2))
    (hr : ∀ K : PySem.W.Frag, PySem.W.kitAny K (.type (tyName x)) [.type T1, .type T2] = some r) (hn1 : n1 ≠ "__name__" := by decide) (hd1 : (n1 == ("__debug__" : Str)) = false := by decide) (hn2 : n2 ≠ "__name__" := by decide) (hd2 : (n2 == ("__debug__" : Str)) = false := by decide)
    (hsT : starEach (.Name n1 p1 :: .Name n2 p2 :: []) X.env = (false, eval (.Name n1 p1) X.env) :: starEach [.Name n2 p2] X.env := by rfl) (hsT2 : starEach (.Name n2 p2 :: []) X.env = (false, eval (.Name n2 p2) X.env) :: starEach [] X.env := by rfl)
    (hs : starEach (a :: .Tuple [.Name n1 p1, .Name n2 p2] x1 p3 :: []) X.env = (false, eval a X.env) :: starEach [.Tuple [.Name n1 p1, .Name n2 p2] x1 p3] X.env := by rfl)
    (hs2 : starEach (.Tuple [.Name n1 p1, .Name n2 p2] x1 p3 :: []) X.env = (false, eval (.Tuple [.Name n1 p1, .Name n2 p2] x1 p3) X.env) :: starEach [] X.env := by rfl)
    (hpl : (backTo pos (starEach [.Tuple [.Name n1 p1, .Name n2 p2] x1 p3] X.env)).any (·.1) = false := by rfl) : DE X (.Call (.Name "isinstance" p) [a, .Tuple [.Name n1 p1, .Name n2 p2] x1 p3] [] pos) ρ (.bool r) :=
  pe_imp (pe_callB call_isiT hg hm boot_isinstance (pa_cons ha (pa_cons (pe_tup (pa_cons (pe_bltn (v := .ty T1) hg1 hm1 hv1 rfl hn1 hd1) (pa_cons (pe_bltn (v := .ty T2) hg2 hm2 hv2 rfl hn2 hd2) pa_nil hsT2) hsT)) pa_nil hs2) hs) (by decide) (by decide) hs hpl) fun σ H Q ⟨HB, L0, L, es, q⟩ => ⟨HB, L0, L, es, fun v H1 e1 d1 =>
    ⟨by show 2 ≤ sizeLine; decide, fun t ht => ⟨v, t, [.ty T1, .ty T2], _, _, r, rfl, upd_same, .cons (.ty T1) (.cons (.ty T2) .nil), dp_ty (dp_up ((msk_same _ _).trans (same_upd ht)) _ _ d1), hr _, q _ _ (e1.trans (same_upd ht)) (.bl r)⟩⟩⟩
end

/-! ### sorted -/
section
variable {X : Cx} {ρ : Rho} {a : Expr} {pos p : Pos}
theorem each_vals {β : Type} {enc : β → PyData} {H : Hp} : ∀ {bs : List β} {vs : List V} {us : List Value}, DpAll X.K H vs (bs.map enc) → Vals vs us → PySem.W.EachIs (fun (u : Value) (b : β) => ∃ v, RelV v u ∧ Dp X.K H v (enc b)) us bs
  | [], _, _, d, r => by
    have d' : DpAll X.K H _ [] := d
    cases d'
    cases r
    exact .nil
  | b :: bs, _, _, d, r => by
    have d' : DpAll X.K H _ (enc b :: bs.map enc) := d
    cases d' with
    | cons d1 d2 =>
      cases r with
      | cons r1 r2 => exact .cons ⟨_, r1, d1⟩ (each_vals d2 r2)
theorem vals_each {β : Type} {enc : β → PyData} {H : Hp} : ∀ {bs : List β} {us : List Value}, PySem.W.EachIs (fun (u : Value) (b : β) => ∃ v, RelV v u ∧ Dp X.K H v (enc b)) us bs → ∃ vs, Vals vs us ∧ DpAll X.K H vs (bs.map enc)
  | _, _, .nil => ⟨[], .nil, .nil⟩
  | _, _, .cons ⟨v, r, d⟩ t => by
    obtain ⟨vs, h1, h2⟩ := vals_each t
    exact ⟨v :: vs, .cons r h1, .cons d h2⟩
theorem each_mono {α β : Type} {R R' : α → β → Prop} (f : ∀ a b, R a b → R' a b) : ∀ {as : List α} {bs : List β}, PySem.W.EachIs R as bs → PySem.W.EachIs R' as bs
  | _, _, .nil => .nil
  | _, _, .cons h t => .cons (f _ _ h) (each_mono f t)
/-- sorted(xs), xs a list of data b in bs, told by enc -/
theorem do_sorted {β : Type} {bs : List β} {enc : β → PyData} {k : Nat} (hr : Room k X.A) (hg : Gl X "sorted") (hm : X.mg "sorted" = none) (ha : DE X a ρ (.list (bs.map enc))) (hal : PySem.W.AllAlike (bs.map enc)) (hk : PySem.W.Sortable (bs.map enc)) (hL : bs.length ≤ 90000) (hdep : ∀ b ∈ bs, (enc b).depth ≤ 32)
    (hs : starEach (a :: []) X.env = (false, eval a X.env) :: starEach [] X.env := by rfl) (hpl : (backTo pos (starEach [] X.env)).any (·.1) = false := by rfl) : DO X (.Call (.Name "sorted" p) [a] [] pos) ρ (.l ((bs.mergeSort (PySem.W.dataLe false enc)).map enc)) := by
  refine ⟨fun pins sh σ H Q I h => ?_⟩
  obtain ⟨HB, L0, L, es, q⟩ := h
  refine wpAny_Call_Name_kw (ld_blt I hg hm boot_sorted ?_)
  refine PyProof.Rows.callWith_builtin1 (thn ((da_cons ha da_nil hs).run pos pins sh σ H (fun vs H1 => Same H H1 ∧ DpAll X.K (msk L H1) vs [.list (bs.map enc)]) I ⟨HB, L0, L, es, fun vs H1 e1 d1 => ⟨e1, d1⟩⟩) fun us s1 ⟨vs, H1, I1, rvs, e1, d1⟩ => ?_) hs hpl
  cases d1 with | cons d1 d2 =>
  cases d2
  obtain ⟨u, rfl, rv⟩ := vals1 rvs
  cases d1 with
  | @lst l xs _ hls hds =>
    obtain rfl : u = Value.ref l := rv
    have hl1 := (msk_same L H1).seq hls
    obtain ⟨its, rits, pl, _⟩ := I1.list hl1
    have ev := each_vals (X := X) hds rits
    have er : PySem.W.EachIs (fun (v : Value) (b : β) => ∃ as, Reads s1.heap v (enc b) as) its bs := each_mono (fun u b ⟨v, r, d⟩ => Dp.reads I1 _ _ _ (dp_up (msk_same _ _) _ _ d) r) ev
    refine PySem.W.sorted_data (vs := its) pl.isList ev er hal hk (line_of (by omega)) (fun b hb => ?_) fun out hlen eo => ?_
    · have := hr.units
      have := hdep b hb
      omega
    · obtain ⟨ws, rws, dws⟩ := vals_each eo
      obtain ⟨c, hc⟩ := sortedAll_at s1.heap its out.toArray
      have hn : H1 (s1.heap.objs.size + 1) = none := I1.hok.fresh (Nat.le_succ _)
      have hwl : ws.length ≤ sizeLine := by rw [dpAll_len dws, List.length_map, List.length_mergeSort]; exact line_of (by omega)
      refine ⟨.ref (s1.heap.objs.size + 1), _, I1.laid (t' := s1.toks) (o := .lst ws) (fun b o e => sortedAll_old e) (Nat.le_succ _) ⟨hwl, out, c, rws, hc⟩, rfl, q _ _ (e1.free hn) (e1.trans (same_upd hn)) ⟨_, ws, rfl, .inr rfl, upd_same, dpAll_up (msk_plus (same_upd hn) hn) _ _ dws⟩⟩
end

/-! ### sorted(set(t)), t a rising tuple of ints -/
theorem rising_one : ∀ {a b : List Int}, a.Pairwise (· < ·) → b.Pairwise (· < ·) → (∀ k : Int, k ∈ a ↔ k ∈ b) → a = b
  | [], [], _, _, _ => rfl
  | [], y :: b, _, _, h => by have := (h y).mpr (by simp); cases this
  | x :: a, [], _, _, h => by have := (h x).mp (by simp); cases this
  | x :: a, y :: b, ha, hb, h => by
    obtain ⟨h1, h2⟩ := List.pairwise_cons.mp ha
    obtain ⟨h3, h4⟩ := List.pairwise_cons.mp hb
    have e : x = y := by
      have m1 := (h x).mp (by simp)
      have m2 := (h y).mpr (by simp)
      rcases List.mem_cons.mp m1 with e | m1
      · exact e
      · rcases List.mem_cons.mp m2 with e | m2
        · exact e.symm
        · have := h1 y m2
          have := h3 x m1
          omega
    subst e
    congr 1
    refine rising_one h2 h4 fun k => ⟨fun m => ?_, fun m => ?_⟩
    · rcases List.mem_cons.mp ((h k).mp (List.mem_cons_of_mem _ m)) with e | m'
      · subst e; exact absurd (h1 k m) (by omega)
      · exact m'
    · rcases List.mem_cons.mp ((h k).mpr (List.mem_cons_of_mem _ m)) with e | m'
      · subst e; exact absurd (h3 k m) (by omega)
      · exact m'
section
variable {X : Cx} {ρ : Rho} {a : Expr} {pos p p1 pos1 : Pos}
theorem cr_setT (hc : X.calm = true) : CallR X (.type "set") (fun vs H Q => ∃ (p : Addr) (ns : List Int), vs = [.ref p] ∧ SqT X.K H p (ns.map V.int) ∧ ns.length ≤ 60 ∧ ∀ (q : Addr) (c : Nat), H q = none → c ≤ ns.length → Q (.ref q) (upd H q (SetO X.w q (fun j => decide (j ∈ ns)) c))) := by
  intro pins s σ H vs us Q I r h
  obtain ⟨p, ns, rfl, hT, hz, q⟩ := h
  obtain ⟨u, rfl, ru⟩ := vals1 r
  obtain rfl : u = Value.ref p := ru
  obtain ⟨its, rits, pt, _⟩ := I.tuple hT
  refine call_set_tupI ns (I.ok.hd hc) (show s.heap.IsTuple p its.toArray from pt) (by simpa using RZ.intsAre_vals rits) (by show ns.length + 1 < 4096; omega) fun h' tk c hR hcl hk => ?_
  have hn := I.hok.fresh (Nat.le_refl s.heap.objs.size)
  exact ⟨.ref s.heap.objs.size, _, I.laid (t' := tk) hk (Nat.le_refl _) (setO_new hR), rfl, q _ c hn hcl⟩
theorem de_sortedSet {ns : List Int} (hc : X.calm = true) (hg : Gl X "sorted") (hm : X.mg "sorted" = none) (hg1 : Gl X "set") (hm1 : X.mg "set" = none) (ha : DE X a ρ (.tuple (ns.map .int))) (hup : ns.Pairwise (· < ·)) (hz : ns.length ≤ 60)
    (hs : starEach (a :: []) X.env = (false, eval a X.env) :: starEach [] X.env := by rfl) (hpl1 : (backTo pos1 (starEach [] X.env)).any (·.1) = false := by rfl) (hs1 : starEach (.Call (.Name "set" p1) [a] [] pos1 :: []) X.env = (false, eval (.Call (.Name "set" p1) [a] [] pos1) X.env) :: starEach [] X.env := by rfl) (hpl : (backTo pos (starEach [] X.env)).any (·.1) = false := by rfl) :
    DE X (.Call (.Name "sorted" p) [.Call (.Name "set" p1) [a] [] pos1] [] pos) ρ (.list (ns.map .int)) :=
  pe_imp (pe_callB (cr_sortedSet hc) hg hm boot_sorted (pa_cons (pe_callTy (cr_setT hc) hg1 hm1 PyProof.Rows.boot_set (pa_cons ha pa_nil hs) (by decide) (by decide) hs hpl1) pa_nil hs1) (by decide) (by decide) hs1 hpl) fun σ H Q ⟨HB, L0, L, es, q⟩ => ⟨HB, L0, L, es, fun v H1 e1 d1 => by
    cases d1 with
    | @tup l vs _ hs ha =>
      have ev := dp_ints ha
      subst ev
      refine ⟨l, ns, rfl, sqT_up (msk_same _ _) hs, hz, fun b c hb hcl => ⟨b, _, c, rfl, upd_same, by omega, fun ns' r hup' hmem _ hr => ?_⟩⟩
      have e : ns' = ns := rising_one hup' hup fun k => by rw [hmem k, decide_eq_true_iff]
      subst e
      have e2 := e1.trans (same_upd (o := SetO X.w b (fun j => decide (j ∈ ns')) c) hb)
      exact q _ _ (e2.trans (same_upd hr)) (dp_lst (es.up e2).trk hr (ints_dp ns'))⟩
end
end SG
set_option Elab.async false
set_option linter.all false
set_option maxRecDepth 100000
set_option maxHeartbeats 4000000
/-! Part D4: enumerate of a tuple; the items of a dict of one's own. -/
namespace SG
open PySem PySem.Spec PyProof.Rows L2

/-! ### enumerate(t) -/
set_option maxHeartbeats 4000000 in
theorem meets_enum_newT (t : Addr) (items : Array Value) :
    Meets (Builtin.«enumerate.__new__» ⟨[.type "enumerate", .ref t], []⟩) (fun _ R s => s.heap.IsTuple t items ∧
      R (.ok (.ret (.ref (s.heap.push { cls := .type "tuple_iterator", data := .fields #[.ref t, .int 0 0] }).objs.size)))
        { s with heap := (s.heap.push { cls := .type "tuple_iterator", data := .fields #[.ref t, .int 0 0] }).push { cls := .type "enumerate", data := .fields #[.none, .bool false, .ref s.heap.objs.size, rawInt 0, .none, .none] } }) :=
  .of_wp fun prog w A R s h => by
    obtain ⟨hp, g, d, tk, os⟩ := s
    obtain ⟨hT, h⟩ := h
    have hsub := sub_enumerate
    have q1 : ∀ {A' : Around} {E : Value → Shared → Prop} {Q : Value → Shared → Prop}, Q (.ref hp.objs.size) ⟨hp.push { cls := .type "tuple_iterator", data := .fields #[.ref t, .int 0 0] }, g, d, tk, os⟩ → wpAny (model prog w) A' (pyIter (.ref t)) Q E ⟨hp, g, d, tk, os⟩ :=
      fun q => wpAny_pyIter_tuple hT q
    wp_walk using q1
    refine wpAny_stack_any fun st => wpAny_pure ?_
    split
    · rename_i c _ _ _ _ _
      cases (c == Value.type "enumerate") <;> (wp_walk using q1; exact ⟨_, rfl, h⟩)
    · wp_walk using q1
      exact ⟨_, rfl, h⟩
theorem call_enum_tuple {prog : Program} {w : World} {A : Around} {E : Value → Shared → Prop} {s : Shared} {t : Addr} {items : Array Value} {Q : Value → Shared → Prop} (hT : s.heap.IsTuple t items)
    (h : ∀ h', IsEnum h' (s.heap.objs.size + 1) s.heap.objs.size 0 .none → h'.IsTupleIter s.heap.objs.size t 0 → (∀ b o, s.heap.get? b = some o → h'.get? b = some o) → Q (.ref (s.heap.objs.size + 1)) { s with heap := h' }) :
    wpAny (model prog w) A (call (.type "enumerate") [.ref t]) Q E s := by
  refine callType_new F.called_enumerate (by decide) (F.typeCall_enumerate_1 _) (F.newCall_enumerate_1 _) (fun obj => F.args_object_init_2 obj _) F.entry_enumerate_new (meets_enum_newT t items) ⟨hT, ?_⟩
  have hz : (s.heap.push { cls := .type "tuple_iterator", data := .fields #[.ref t, .int 0 0] }).objs.size = s.heap.objs.size + 1 := Heap.size_push ..
  show _ ∧ _
  rw [hz]
  have he : IsEnum ((s.heap.push { cls := .type "tuple_iterator", data := .fields #[.ref t, .int 0 0] }).push { cls := .type "enumerate", data := .fields #[.none, .bool false, .ref s.heap.objs.size, rawInt 0, .none, .none] }) (s.heap.objs.size + 1) s.heap.objs.size 0 .none := by
    have q := Heap.get?_push_size (s.heap.push { cls := .type "tuple_iterator", data := .fields #[.ref t, .int 0 0] }) (o := { cls := .type "enumerate", data := .fields #[.none, .bool false, .ref s.heap.objs.size, rawInt 0, .none, .none] }) rfl
    rw [hz] at q
    exact q
  exact ⟨⟨_, he, rfl⟩, h _ he ⟨_, Heap.get?_push_of_some _ (Heap.get?_push_size _ rfl), rfl, rfl⟩ fun b o x => Heap.get?_push_of_some _ (Heap.get?_push_of_some _ x)⟩
/-- the tuple at a, each item in a new pair with its place -/
def IteT (K : PySem.W.Frag) (a : Addr) : It :=
  ⟨fun i H => ∃ (xs : List V) (x : V), SqT K H a xs ∧ xs[i]? = some x, fun i H v H' => ∃ T x, v = .ref T ∧ H T = none ∧ H' = upd H T (.tup [.int (i : Nat), x]) ∧ ∀ xs, SqT K H a xs → xs[i]? = some x, fun i H => ∃ xs : List V, SqT K H a xs ∧ i = xs.length⟩
theorem turn_enumT {P : Program} {w : World} {K : PySem.W.Frag} {elts : List Expr} {kk : Nat} {tpos : Pos} (a e it : Addr) (hei : e ≠ it) (hae : a ≠ e) (hai : a ≠ it) :
    Turn P w K (.Tuple elts kk tpos) (IteT K a) [e, it] e (fun i h => (∃ old, IsEnum h e it ((i : Nat) : Int) old) ∧ h.IsTupleIter it a i) where
  mem := by simp
  obj := fun i h st b hb => by
    obtain ⟨⟨old, he⟩, ⟨o, ho, hc, hd⟩⟩ := st
    have e' : b = e ∨ b = it := by simpa using hb
    rcases e' with z | z
    · subst z; exact ⟨_, he, fun v q => nomatch q⟩
    · subst z; exact ⟨o, ho, fun v q => by rw [hd] at q; cases q⟩
  keep := fun i h h' st k => let ⟨⟨old, he⟩, hi⟩ := st; ⟨⟨old, k e (by simp) _ he⟩, hi.at fun o q => k it (by simp) o q⟩
  item := by
    intro X hP hw hK hc i pins s σ H E I hf st hg
    subst hP hw hK
    obtain ⟨⟨old, he⟩, hit⟩ := st
    obtain ⟨xs, x, hq, hx⟩ := hg
    obtain ⟨its, rv, p, hz⟩ := I.tuple hq
    obtain ⟨u, hu, ru⟩ := rv.get hx
    have hel : e < s.heap.objs.size := Heap.lt_size he
    have hil : it < s.heap.objs.size := by obtain ⟨_, q, _⟩ := hit; exact Heap.lt_size q
    have hlt : i < its.toArray.size := by
      rw [List.size_toArray]
      exact (List.getElem?_eq_some_iff.mp hu).1
    have hh : X.A.in1.handled = none := I.ok.hd hc
    refine wpAny_pyNext_enum_itemD (Draws.tuple hh it a hai its.toArray) he ⟨hit, p⟩ hlt hei (by simp [hei, Ne.symm hae]) fun y h' tk hy ho hst hT hsz hk => ?_
    have hyu : y = u := by
      have q : its.toArray[i]? = some y := hy
      rw [List.getElem?_toArray, hu] at q
      exact (Option.some.inj q).symm
    subst hyu
    refine ⟨_, rfl, wpAny_letOwnedTupleGo_enum (s := { s with heap := h', toks := tk + 1 }) ho fun h'' he' sb => ?_⟩
    have hT2 : h''.get? s.heap.objs.size = some { cls := .type "tuple", data := .seq #[.int i tk, y] } := (sb.2 _ (Nat.ne_of_gt hel)).trans hT
    have new : ObjOk X.prog X.w (upd H s.heap.objs.size (.tup [.int (i : Nat), x])) h'' s.heap.objs.size (.tup [.int (i : Nat), x]) :=
      ⟨by show 2 ≤ sizeLine; decide, [.int i tk, y], .cons ⟨_, rfl⟩ (.cons ru .nil), ⟨_, hT2, rfl, _, rfl⟩⟩
    have I1 : Inv X pins σ (upd H s.heap.objs.size (.tup [.int (i : Nat), x])) { s with heap := h'', toks := tk + 1 } :=
      I.turnedNew (ch := [e, it]) (fun b ob hb q => (sb.2 b (fun z => hb (by simp [z]))).trans (hk b ob (fun z => hb (by simp [z])) (fun z => hb (by simp [z])) q)) hf (Nat.le_refl _) new
    refine ⟨.ref s.heap.objs.size, _, I1, rfl, ⟨_, x, rfl, I.hok.fresh (Nat.le_refl _), rfl, fun ys hy => by rw [I.tuple_inj hy hq]; exact hx⟩, ⟨⟨y, ?_⟩, hst.1.at fun o q => (sb.2 it (Ne.symm hei)).trans q⟩, fun b hb => ?_⟩
    · rw [show ((i + 1 : Nat) : Int) = (i : Int) + 1 by omega]
      exact he'
    · have hb' : b < s.heap.objs.size := by
        have e' : b = e ∨ b = it := by simpa using hb
        rcases e' with z | z
        · subst z; exact hel
        · subst z; exact hil
      rw [upd_ne (Nat.ne_of_lt hb')]
      exact (hf b hb).1
  done := by
    intro X hP hw hK hc i pins s σ H E I hf st hg
    subst hP hw hK
    obtain ⟨⟨old, he⟩, hit⟩ := st
    obtain ⟨xs, hq, hx⟩ := hg
    obtain ⟨its, rv, p, hz⟩ := I.tuple hq
    obtain ⟨f0, f1, f2, f3, f4, f5⟩ := hf it (by simp)
    have hl := rv.length
    have hh : X.A.in1.handled = none := I.ok.hd hc
    have ei : i = its.toArray.size := by rw [List.size_toArray, ← hl]; exact hx
    subst ei
    exact wpAny_pyNext_enum_endD (Draws.tuple hh it a hai its.toArray) he ⟨hit, p⟩ fun h' eb => ⟨rfl, I.turned (t' := s.toks) (fun b o hb q => eb b o hb q) f0 f1 f3 f4 f5⟩
  self := fun A i s Q E st h => let ⟨⟨_, he⟩, _⟩ := st; wpAny_pyIter_enum he h
def iEnumT (K : PySem.W.Frag) (ta : TA) : TI := fun σ H R => ta σ H fun vs H1 => ∃ a xs, vs = [.ref a] ∧ SqT K H1 a xs ∧ R (IteT K a) H1
theorem pi_enumT {X : Cx} {e : Expr} {ta : TA} {p pos tpos : Pos} {elts : List Expr} {kk : Nat} (hg : Gl X "enumerate") (hm : X.mg "enumerate" = none) (ha : PA X [e] ta) (hs : starEach [e] X.env = [(false, eval e X.env)]) :
    PI X (.Tuple elts kk tpos) (.Call (.Name "enumerate" p) [e] [] pos) (iEnumT X.K ta) := by
  refine ⟨fun pins s σ H R I h => ?_⟩
  refine Call_ (ld_blt I hg hm boot_enumerate (PyProof.Rows.callWith_type1 (thn (ha.run pos pins s σ H _ I h) fun us s1 ⟨vs, H1, I1, r1, a, xs, ex, hq, q⟩ => ?_) hs rfl))
  subst ex
  obtain ⟨u, rfl, ru⟩ := vals1 r1
  obtain rfl : u = Value.ref a := ru
  obtain ⟨its, rv, pt, hz⟩ := I1.tuple hq
  have la : a < s1.heap.objs.size := pt.lt
  refine call_enum_tuple pt fun h' he hit hk => wpAny_pyIter_enum he ?_
  have I2 : Inv X pins σ H1 { s1 with heap := h' } := I1.kept (t' := s1.toks) hk
  refine ⟨s1.heap.objs.size + 1, [s1.heap.objs.size + 1, s1.heap.objs.size], _, _, H1, rfl, I2, turn_enumT a (s1.heap.objs.size + 1) s1.heap.objs.size (Nat.succ_ne_self _) (Nat.ne_of_lt (Nat.lt_succ_of_lt la)) (Nat.ne_of_lt la), ⟨⟨.none, he⟩, hit⟩, fun b hb => ?_, q⟩
  have hle : s1.heap.objs.size ≤ b := by
    rcases (show b = s1.heap.objs.size + 1 ∨ b = s1.heap.objs.size by simpa using hb) with z | z
    · rw [z]; exact Nat.le_succ _
    · rw [z]; exact Nat.le_refl _
  exact I1.fpOk hle (I1.hok.fresh hle)
def enumD (xs : List PyData) : List PyData := (List.range xs.length).map fun (i : Nat) => .tuple [.int i, xs.getD i .none]
theorem di_enum {X : Cx} {ρ : Rho} {a : Expr} {xs : List PyData} {p pos tpos : Pos} {elts : List Expr} {kk : Nat} (hg : Gl X "enumerate") (hm : X.mg "enumerate" = none) (ha : DE X a ρ (.tuple xs)) (hs : starEach [a] X.env = [(false, eval a X.env)] := by rfl) (hs2 : starEach (a :: []) X.env = (false, eval a X.env) :: starEach [] X.env := by rfl) :
    DI X (.Tuple elts kk tpos) (.Call (.Name "enumerate" p) [a] [] pos) ρ (enumD xs) :=
  pi_imp (pi_enumT hg hm (da_cons ha da_nil hs2) hs) fun σ H R ⟨HB, L0, L, es, q⟩ => ⟨HB, L0, L, es, fun vs H1 e1 d1 => by
    cases d1 with | cons d1 d2 =>
    cases d2
    cases d1 with
    | @tup a vs _ hs ha =>
      have hl : (enumD xs).length = xs.length := by unfold enumD; rw [List.length_map, List.length_range]
      have l1 := dpAll_len ha
      refine ⟨a, vs, rfl, sqT_up (msk_same _ _) hs, q _ H1 e1 fun i H' M eM hM tM => ⟨fun hi => ?_, fun hi => ⟨vs, sqT_up eM hs, by rw [l1, ← hl]; exact hi⟩, fun x H'' hi hy => ?_⟩⟩
      · have hi' : i < vs.length := by rw [l1, ← hl]; exact hi
        exact ⟨vs, vs[i], sqT_up eM hs, List.getElem?_eq_getElem hi'⟩
      · obtain ⟨T, x1, rfl, hT, rfl, f1⟩ := hy
        obtain ⟨d, hd, dd⟩ := dpAll_at ha (f1 vs (sqT_up eM hs))
        refine ⟨same_upd hT, .tuple [.int i, d], ?_, dp_tup tM hT (.cons (.int _) (.cons (dp_up (msk_to eM hM) _ _ dd) .nil))⟩
        unfold enumD
        rw [hl] at hi
        rw [List.getElem?_map, List.getElem?_range hi]
        show some (PyData.tuple [.int i, xs.getD i .none]) = _
        rw [List.getD_eq_getElem?_getD, hd]
        rfl⟩

/-! ### the items of a dict of one's own -/
def ItI (d : Addr) (o : Obj) (es : Array DictEntry) : It :=
  ⟨fun i H => H d = some (ObjIs d o) ∧ i < es.size, fun i H x H' => ∃ T a v en, x = .ref T ∧ H T = none ∧ H' = upd H T (.tup [.ref a, v]) ∧ es[i]? = some en ∧ en.key = .ref a ∧ RelV v en.val, fun i H => H d = some (ObjIs d o) ∧ i = es.size⟩
theorem turn_itemsR {P : Program} {w : World} {K : PySem.W.Frag} {d : Addr} {o : Obj} {es : Array DictEntry} {ep : Nat} {elts : List Expr} {kk : Nat} {tpos : Pos} (it : Addr) (hx : o.ExactDict) (hod : o.data = .dict es ep) (hk : ∀ en ∈ es.toList, ∃ a v, en.key = .ref a ∧ RelV v en.val) :
    Turn P w K (.Tuple elts kk tpos) (ItI d o es) [it] it (fun i h => ∃ ok ov, IsItemIter h it d i es.size ep ok ov) where
  mem := by simp
  obj := fun i h st b hb => by
    obtain rfl : b = it := by simpa using hb
    obtain ⟨ok, ov, e⟩ := st
    exact ⟨_, e, fun v z => nomatch z⟩
  keep := fun i h h' st k => let ⟨ok, ov, e⟩ := st; ⟨ok, ov, k it (by simp) _ e⟩
  item := by
    intro X hP hw hK hc i pins s σ H E I hf st hg
    subst hP hw hK
    obtain ⟨hd, hi⟩ := hg
    have ho : s.heap.get? d = some o := (I.hok d _ hd).1
    obtain ⟨ok, ov, he⟩ := st
    have hlt : it < s.heap.objs.size := Heap.lt_size he
    obtain ⟨a, v, ka, rv⟩ := hk es[i] (by simp)
    refine wpAny_pyNext_items_item_raw he ⟨o, ho, hx, hod⟩ hi fun h' hout hT hz hkp => ?_
    refine ⟨_, rfl, wpAny_letOwnedTupleGo_items (s := { s with heap := h' }) hout fun h'' he' sb => ?_⟩
    have hT2 : h''.get? s.heap.objs.size = some { cls := .type "tuple", data := .seq #[es[i].key, es[i].val] } := (sb.2 _ (Nat.ne_of_gt hlt)).trans hT
    have new : ObjOk X.prog X.w (upd H s.heap.objs.size (.tup [.ref a, v])) h'' s.heap.objs.size (.tup [.ref a, v]) :=
      ⟨by show 2 ≤ sizeLine; decide, [es[i].key, es[i].val], .cons ka (.cons rv .nil), ⟨_, hT2, rfl, _, rfl⟩⟩
    have I1 : Inv X pins σ (upd H s.heap.objs.size (.tup [.ref a, v])) { s with heap := h'' } :=
      I.turnedNew (t' := s.toks) (ch := [it]) (fun b ob hb e => (sb.2 b (by simpa using hb)).trans (hkp b ob (by simpa using hb) e)) hf (Nat.le_refl _) new
    refine ⟨.ref s.heap.objs.size, _, I1, rfl, ⟨_, a, v, es[i], rfl, I.hok.fresh (Nat.le_refl _), rfl, by simp [hi], ka, rv⟩, ⟨_, _, he'⟩, fun b hb => ?_⟩
    obtain rfl : b = it := by simpa using hb
    rw [upd_ne (Nat.ne_of_lt hlt)]
    exact (hf _ (by simp)).1
  done := by
    intro X hP hw hK hc i pins s σ H E I hf st hg
    subst hP hw hK
    obtain ⟨hd, hi⟩ := hg
    obtain ⟨f0, f1, f2, f3, f4, f5⟩ := hf it (by simp)
    have ho : s.heap.get? d = some o := (I.hok d _ hd).1
    obtain ⟨ok, ov, he⟩ := st
    exact wpAny_pyNext_items_end_raw (I.ok.hd hc) he ⟨o, ho, hx, hod⟩ (Nat.le_of_eq hi.symm) fun h' eb => ⟨rfl, I.turned (t' := s.toks) (fun b ob hb e => eb b ob hb e) f0 f1 f3 f4 f5⟩
  self := fun A i s Q E st h => let ⟨_, _, e⟩ := st; wpAny_pyIter_itemiter e h
def iItemsR (td : TE) : TI := fun σ H R => td σ H fun x H1 => ∃ d o es ep, x = .ref d ∧ H1 d = some (ObjIs d o) ∧ o.ExactDict ∧ (d == sysModules) = false ∧ o.data = .dict es ep ∧ (∀ en ∈ es.toList, ∃ a v, en.key = .ref a ∧ RelV v en.val) ∧ R (ItI d o es) H1
theorem pi_itemsR {X : Cx} {e : Expr} {td : TE} {apos cpos : Pos} {elts : List Expr} {kk : Nat} {tpos : Pos} (he : PE X e td) (hbase : attributeBase e "items" X.env (eval e X.env) = eval e X.env) (hline : (apos.endLine == cpos.line) = true) :
    PI X (.Tuple elts kk tpos) (.Call (.Attribute e "items" apos) [] [] cpos) (iItemsR td) := by
  refine ⟨fun pins s σ H R I h => ?_⟩
  refine wpAny_Call_method (T := "dict") (id := "dict.items") hbase rfl hline F.plainAttrs_dict F.slot_dict_items F.type_dict_items (thn (he.run pins s σ H _ I h) fun u s1 ⟨x, H1, I1, rx, d, o, es, ep, ex, hd, hex, hmod, hdat, hkv, q⟩ => ?_)
  subst ex
  obtain rfl : u = Value.ref d := rx
  have ho : s1.heap.get? d = some o := (I1.hok d _ hd).1
  have hraw : s1.heap.DictRaw d es ep := ⟨o, ho, hex, hdat⟩
  refine ⟨hraw.typeIs, fun b z => ?_, ?_⟩
  · cases z
    exact ⟨o, ho, hex.2.1⟩
  · have kp : ∀ b ob, s1.heap.get? b = some ob → (s1.heap.push { cls := .type "dict_items", data := .fields #[.ref d] }).get? b = some ob := fun b ob z => Heap.get?_push_of_some _ z
    have I2 : Inv X pins σ H1 { s1 with heap := s1.heap.push { cls := .type "dict_items", data := .fields #[.ref d] } } := I1.kept (t' := s1.toks) kp
    have fin : wpAny (model X.prog X.w) X.A (pyIter (.ref s1.heap.objs.size)) (PIE X pins σ (.Tuple elts kk tpos) R) X.xe { s1 with heap := s1.heap.push { cls := .type "dict_items", data := .fields #[.ref d] } } := by
      refine wpAny_pyIter_items_raw (d := d) ⟨_, Heap.get?_push_size _ rfl, rfl, rfl⟩ (hraw.at fun ob z => kp d ob z) (pi_one (tk := s1.toks) I2 _ (turn_itemsR _ hex hdat hkv) ⟨.none, .none, ?_⟩ q)
      exact Heap.get?_push_size _ rfl
    show wpAny _ _ (callWith cpos (.builtin "dict.items") [.ref d] [] []) _ X.xe s1
    exact method_meetsIn F.slot_dict_items F.entry_dict_items rfl (PySem.evalArgs_none ⟨rfl, hraw.typeIs, F.args_dict_items_1 _, _, meets_dict_items_raw d hmod, ⟨es, ep, hraw⟩, fin⟩)
def itemsD (kvs : List (S × PyData)) : List PyData := kvs.map fun y => .tuple [encS y.1, y.2]
theorem ES.letDict {P : Program} {w : World} {K : PySem.W.Frag} {HB H : Hp} {L0 L : Own} {σ : L2.St} {ρ : Rho} {i : Nat} {kvs : List (S × PyData)} {d : Addr} (h : ES P w K HB L0 L σ H ρ) (hi : ρ[i]? = some (some (.m kvs))) (hv : σ[i]? = some (some (.ref d))) : ES P w K HB L0 (fun b => L b ∧ b ≠ d) σ H (ρ.set i none) := by
  have na : ¬ L0 d := h.mine i _ d hi trivial hv
  have less : Same (msk L H) (msk (fun b => L b ∧ b ≠ d) H) := msk_less fun b z => z.1
  have g := h.drop (i := i)
  have key : ∀ (j : Nat) (s : Slot), (ρ.set i none)[j]? = some (some s) → i ≠ j ∧ ρ[j]? = some (some s) := fun j s hs => by
    by_cases e : i = j
    · subst e
      rw [List.getElem?_set_self (List.getElem?_eq_some_iff.mp hi).1] at hs
      cases hs
    · rw [List.getElem?_set_ne e] at hs
      exact ⟨e, hs⟩
  refine ⟨g.base, fun b hb => ⟨h.fr b hb, fun z => na (by rw [← z]; exact hb)⟩, fun b hb nb => h.own b hb.1 nb, fun b hb => h.trk b hb.1, g.len, fun j s hs => ?_, g.mine, g.sep⟩
  obtain ⟨ne, hs'⟩ := key j s hs
  obtain ⟨v, hv', q⟩ := h.at_ j s hs'
  refine ⟨v, hv', slot_move less (fun ow a ev la => ⟨⟨la, fun z => ?_⟩, rfl⟩) q⟩
  rw [z] at ev
  rw [ev] at hv'
  exact h.sep i j _ s d ne hi hs' trivial ow hv hv'
theorem ents_in {K : PySem.W.Frag} {H : Hp} : ∀ {xs : List (S × Addr × Value)} {kvs : List (S × PyData)} {i : Nat} {x : S × Addr × Value}, Paired (EntOk K H) xs kvs → xs[i]? = some x → ∃ y, kvs[i]? = some y ∧ EntOk K H x y
  | _, _, i, x, .nil, e => by simp at e
  | _, _, 0, x, .cons h t, e => by
    rw [← Option.some.inj e]
    exact ⟨_, rfl, h⟩
  | _, _, i + 1, x, .cons h t, e => ents_in (i := i) t e
/-- for k, v in d.items(): .., d isn't named within -/
theorem ds_forItems {X : Cx} {ρ : Rho} {e : Expr} {body : List Stmt} {pos apos cpos tpos : Pos} {elts : List Expr} {kk i : Nat} {kvs : List (S × PyData)} {T : PyData → (Rho → Rho) → Prop} {js : List Nat} {fs : S × PyData → Rho → Rho} (ρs : Nat → Rho) (h0 : ρs 0 = ρ.set i none) (hp : PassesOwn (model X.prog X.w) X.A X.env X.xe) (hc : X.calm = true)
    (he : DV X e ρ i (.m kvs)) (hi : ρ[i]? = some (some (.m kvs))) (hg : DG X (.Tuple elts kk tpos) T js) (hT : ∀ y ∈ kvs, T (.tuple [encS y.1, y.2]) (fs y)) (hb : ∀ k y, kvs[k]? = some y → DSs X body (fs y (ρs k)) (.nx (ρs (k + 1))))
    (hbase : attributeBase e "items" X.env (eval e X.env) = eval e X.env := by rfl) (hline : (apos.endLine == cpos.line) = true := by rfl) (hs : ∀ x, foldedSetIterable (.Call (.Attribute e "items" apos) [] [] cpos) X.env x = pure x := by intro _; rfl) :
    DS X (.For (.Tuple elts kk tpos) (.Call (.Attribute e "items" apos) [] [] cpos) body [] pos) ρ (.nx (ρs kvs.length)) := by
  have fam : PSs X body (tFamS X.prog X.w X.K kvs (fun k t => fs t (ρs k)) (fun k => .nx (ρs (k + 1)))) := ⟨fun pins s σ H D I ⟨k, t, ht, q⟩ => (hb k t ht).run pins s σ H D I q⟩
  refine ps_imp (ps_for hp hc (pi_itemsR he hbase hline) hg fam hs) fun D σ H ⟨HB, L0, ⟨L, es⟩, q⟩ => ⟨HB, L0, L, es, fun v hv hsl => ?_⟩
  obtain ⟨d, o, xs, ev, ld, hd, da⟩ := hsl
  subst ev
  obtain ⟨ens, ep, hdat, hens⟩ := da.data
  have at_ : ∀ (k : Nat) (en : DictEntry), ens[k]? = some en → ∃ x : S × Addr × Value, xs[k]? = some x ∧ en.key = .ref x.2.1 ∧ en.val = x.2.2 := fun k en hk => by
    rw [← Array.getElem?_toList, hens, List.getElem?_map, List.getElem?_map] at hk
    cases hx : xs[k]? with
    | none => rw [hx] at hk; cases hk
    | some x =>
      rw [hx] at hk
      have hk := Option.some.inj hk
      exact ⟨x, rfl, by rw [← hk]; first | rfl | done, by rw [← hk]; first | rfl | done⟩
  have sz : ens.size = kvs.length := by
    have e1 : ens.toList.length = xs.length := by rw [hens, List.length_map, List.length_map]
    rw [Array.length_toList] at e1
    rw [e1, Paired.length da.ents]
  refine ⟨d, o, ens, ep, rfl, hd, da.exact, da.mods, hdat, fun en hen => ?_, ?_⟩
  · obtain ⟨k, hk⟩ := List.getElem?_of_mem hen
    rw [Array.getElem?_toList] at hk
    obtain ⟨x, hx, k1, k2⟩ := at_ k en hk
    obtain ⟨y, hy, _, _, v, rv, _⟩ := ents_in da.ents hx
    exact ⟨x.2.1, v, k1, by rw [k2]; exact rv⟩
  · have esD := es.letDict hi hv
    rw [← h0] at esD
    have less : Same (msk L H) (msk (fun b => L b ∧ b ≠ d) H) := msk_less fun b z => z.1
    have hdm : msk (fun b => L b ∧ b ≠ d) H d = some (ObjIs d o) := by rw [msk_out fun z => z.2 rfl]; exact hd
    refine for_core (ρs := ρs) (outs := fun k => .nx (ρs (k + 1))) (enc := fun y : S × PyData => .tuple [encS y.1, y.2]) (ts := kvs) hT (fun k hk _ => rfl) (fun _ => rfl) esD (fun k H' M eM hM tM => ?_) q
    rw [List.length_map]
    refine ⟨fun hk => ⟨eM _ _ hdm, by rw [sz]; exact hk⟩, fun hk => ⟨eM _ _ hdm, by rw [sz]; exact hk⟩, fun x H'' hk hy => ?_⟩
    obtain ⟨T', a, v, en, rfl, hT', rfl, hen, ka, rv⟩ := hy
    obtain ⟨x, hx, k1, k2⟩ := at_ k en hen
    obtain ⟨y, hy, e1, dk, v', rv', dv⟩ := ents_in da.ents hx
    have ea : a = x.2.1 := by
      rw [ka] at k1
      injection k1
    subst ea
    have ev : v = v' := by
      rw [k2] at rv
      exact RelV.inj rv rv'
    subst ev
    have up := less.trans (msk_to eM hM)
    refine ⟨same_upd hT', .tuple [encS y.1, y.2], by rw [List.getElem?_map, hy]; rfl, dp_tup tM hT' (.cons ?_ (.cons (dp_up up _ _ dv) .nil))⟩
    rw [← e1]
    exact dp_up up _ _ dk
end SG
set_option Elab.async false
set_option linter.all false
set_option maxRecDepth 100000
set_option maxHeartbeats 4000000
/-! Part E0: the text, callees, small helps. -/
namespace SG
open PySem PySem.Spec PyProof.Rows L2
def topS (i : Nat) : Stmt := PySem.Challenge.pw_standgates_k05_whole_least_rows.main.body.getD i (.Pass ⟨0, 0, 0, 0⟩)
section
variable (P : Program) (w : World) (K : PySem.W.Frag) (mg : Str → Option Value) (base : Heap)
/-- a def that stands at the top under its name -/
structure DefAt (nm : Str) (st : Stmt) (ps : List Str) : Prop where
  ex : ∃ f fd, Fun K nm nm st f fd ∧ mg nm = some (.ref f) ∧ Binds K fd ps []
/-- .. that keeps a promise -/
structure Callee (nm : Str) (k : Nat) (ps : List Str) (G : List PyData → PyData → Prop) : Prop where
  ex : ∃ f fd, FnOk P w K mg base CX0 k f fd ps (spD K G) ∧ mg nm = some (.ref f) ∧ PySem.W.keepIn K (.ref f) = true ∧ Binds K fd ps []
end
section
variable {P : Program} {w : World} {K : PySem.W.Frag} {mg : Str → Option Value} {base : Heap}
theorem callee_of {nm : Str} {st : Stmt} {ps : List Str} {k : Nat} {G : List PyData → PyData → Prop} (D : DefAt K mg nm st ps) (h : ∀ f fd, Fun K nm nm st f fd → FnOk P w K mg base CX0 k f fd ps (spD K G)) : Callee P w K mg base nm k ps G :=
  let ⟨f, fd, F, m, b⟩ := D.ex
  ⟨f, fd, h f fd F, m, F.kp, b⟩
theorem Callee.mono {nm : Str} {j k : Nat} {ps : List Str} {G : List PyData → PyData → Prop} (C : Callee P w K mg base nm j ps G) (h : j ≤ k) : Callee P w K mg base nm k ps G :=
  let ⟨f, fd, F, m⟩ := C.ex
  ⟨f, fd, F.mono h, m⟩
theorem Callee.imp {nm : Str} {k : Nat} {ps : List Str} {G G' : List PyData → PyData → Prop} (C : Callee P w K mg base nm k ps G) (h : ∀ xs z, G' xs z → G xs z) : Callee P w K mg base nm k ps G' :=
  let ⟨f, fd, F, m⟩ := C.ex
  ⟨f, fd, F.imp fun vs H Q E ⟨L, xs, z, t, d, g, q⟩ => ⟨L, xs, z, t, d, h xs z g, q⟩, m⟩
end
theorem de_callC {X : Cx} {ρ : Rho} {e : Expr} {es : List Expr} {xs : List PyData} {z : PyData} {nm : Str} {k : Nat} {ps : List Str} {G : List PyData → PyData → Prop} {p pos : Pos} (C : Callee X.prog X.w X.K X.mg X.base nm k ps G) (hr : Room k X.A) (hg : Gl X nm) (ha : DA X (e :: es) ρ xs) (hG : G xs z)
    (hdb : (nm == ("__debug__" : Str)) = false := by decide) (he : starEach (e :: es) X.env = (false, eval e X.env) :: starEach es X.env := by rfl) (hpl : (backTo pos (starEach es X.env)).any (·.1) = false := by rfl) : DE X (.Call (.Name nm p) (e :: es) [] pos) ρ z :=
  let ⟨f, fd, F, m, kp, b⟩ := C.ex
  de_call F hr hg m kp b ha hG hdb he hpl
theorem dt_is {X : Cx} {ρ : Rho} {e : Expr} {b c : Bool} (h : DT X e ρ b) (q : b = c) : DT X e ρ c := q ▸ h
theorem de_is {X : Cx} {ρ : Rho} {e : Expr} {b c : PyData} (h : DE X e ρ b) (q : b = c) : DE X e ρ c := q ▸ h
theorem do_is {X : Cx} {ρ : Rho} {e : Expr} {b c : Slot} (h : DO X e ρ b) (q : b = c) : DO X e ρ c := q ▸ h
theorem ds_is {X : Cx} {ρ : Rho} {e : Stmt} {b c : Out} (h : DS X e ρ b) (q : b = c) : DS X e ρ c := q ▸ h
theorem ds_expr {X : Cx} {ρ : Rho} {e : Expr} {x : PyData} {pos : Pos} (h : DE X e ρ x) (hs : swapsWith e none pos.line X.env = pure false := by rfl) : DS X (.Expr e pos) ρ (.nx ρ) :=
  ps_imp (ps_expr h hs) fun D σ H ⟨HB, L0, ⟨L, es⟩, q⟩ => ⟨HB, L0, L, es, fun v H2 e2 d2 => q σ H2 ⟨L, es.up e2⟩⟩
/-- a block whose end is reached: None is handed back -/
theorem end_none {P : Program} {w : World} {K : PySem.W.Frag} {X : Cx} {sts : List Stmt} {ρ ρ' : Rho} (h : DSs X sts ρ (.nx ρ')) : PSs X sts (fun D σ H => ∃ HB L0, (∃ L, ES X.prog X.w X.K HB L0 L σ H ρ) ∧ ∀ σ' H', Same HB H' → D.nx σ' H') :=
  pss_imp h fun D σ H ⟨HB, L0, es, q⟩ => ⟨HB, L0, es, fun σ' H' ⟨L, es'⟩ => q σ' H' es'.base⟩
section
variable {P : Program} {w : World} {K : PySem.W.Frag} {mg : Str → Option Value} {base : Heap}
/-- a def that ends without a return -/
theorem fn_okN {x qual : Str} {st : Stmt} {f : Addr} {fd : FuncData} {N ps : List Str} {k : Nat} {G : List PyData → Prop} (F : Fun K x qual st f fd) (S : FnScope N ps (defScope st)) (len : ∀ xs, G xs → xs.length = ps.length)
    (body : ∀ (cdv : Value) (A : Around) (outer : List Env) (s : Shared) (H : Hp) (E : XK), Room k (A.deeper (envOfC qual (defScope st) s.heap.objs.size f cdv)) → ∀ xs, G xs →
      ∃ ρ', DSs (cxOf CX0 P w K mg base N qual (defScope st) f cdv A outer s H E).nox (defBody st) (inRho xs N.length) (.nx ρ')) : FnOk P w K mg base CX0 (k + 1) f fd ps (spD K fun xs z => G xs ∧ z = .none) := by
  refine F.ok S (fun vs H Q E h => ?_) (fun cdv A outer s H vs Q E hr h => ?_)
  · obtain ⟨L, xs, z, t, d, ⟨hG, _⟩, q⟩ := h
    rw [dpAll_len d]
    exact len xs hG
  · obtain ⟨L, xs, z, t, d, ⟨hG, ez⟩, q⟩ := h
    subst ez
    obtain ⟨ρ', b⟩ := body cdv A outer s H E hr xs hG
    exact ⟨_, end_none (P := P) (w := w) (K := K) b, H, L, ⟨L, es_start t d⟩, fun σ' H' e => q .non H' e .non⟩
end

/-! ### comprehensions without tests -/
section
variable {X : Cx} {ρ : Rho} {elt tg iter : Expr} {ifs : List Expr} {scope : Scope} {own : List (Str × Nat)} {pos : Pos}
/-- [elt for x in iter], one name -/
theorem do_lcN {τ : Type} {ts : List τ} {enc : τ → PyData} (i : Nat) {nm : Str} {p1 : Pos} (g : τ → PyData) (hc : X.calm = true) (hN : X.N.Nodup) (hi : DI X (.Name nm p1) iter ρ (ts.map enc)) (ok : BlkOk X.N X.env.scope scope [(nm, i)])
    (hx : ∀ (s : Shared) (H : Hp) (C : Addr) (cl : List (Str × Addr)) (fp : List Addr), DG (X.blk s H scope (compEnvC scope cl C X.env) fp) (.Name nm p1) (tgN i) [i])
    (he : ∀ (s : Shared) (H : Hp) (C : Addr) (cl : List (Str × Addr)) (fp : List Addr), ∀ t ∈ ts, DE (X.blk s H scope (compEnvC scope cl C X.env) fp) elt ((ρ.set i none).set i (some (.d (enc t)))) (g t))
    (hz : ts.length ≤ 90000) (hs : ∀ x, foldedSetIterable iter X.env x = pure x := by intro _; rfl) : DO X (.ListComp elt [⟨.Name nm p1, iter, [], 0⟩] scope pos) ρ (.l (ts.map g)) := by
  have B : LcBlk X ρ elt (.Name nm p1) [] scope [(nm, i)] ts enc (fun _ => true) g (tgN i) [i] (fun t ρ => ρ.set i (some (.d (enc t)))) :=
    ⟨hx, fun j hj => by simpa using hj, fun t _ => rfl, fun s H C cl fp t _ => dts_nil, fun s H C cl fp t ht _ => he s H C cl fp t ht⟩
  have h := do_lc hc hN hi ok B hz hs (pos := pos)
  rw [show ts.filter (fun _ => true) = ts from List.filter_eq_self.mpr fun _ _ => rfl] at h
  exact h
/-- [elt for x in iter if test], one name -/
theorem do_lcF {τ : Type} {ts : List τ} {enc : τ → PyData} (i : Nat) {nm : Str} {p1 : Pos} {c : Expr} (p : τ → Bool) (g : τ → PyData) (hc : X.calm = true) (hN : X.N.Nodup) (hi : DI X (.Name nm p1) iter ρ (ts.map enc)) (ok : BlkOk X.N X.env.scope scope [(nm, i)])
    (hx : ∀ (s : Shared) (H : Hp) (C : Addr) (cl : List (Str × Addr)) (fp : List Addr), DG (X.blk s H scope (compEnvC scope cl C X.env) fp) (.Name nm p1) (tgN i) [i])
    (ht : ∀ (s : Shared) (H : Hp) (C : Addr) (cl : List (Str × Addr)) (fp : List Addr), ∀ t ∈ ts, DT (X.blk s H scope (compEnvC scope cl C X.env) fp) c ((ρ.set i none).set i (some (.d (enc t)))) (p t))
    (he : ∀ (s : Shared) (H : Hp) (C : Addr) (cl : List (Str × Addr)) (fp : List Addr), ∀ t ∈ ts, p t = true → DE (X.blk s H scope (compEnvC scope cl C X.env) fp) elt ((ρ.set i none).set i (some (.d (enc t)))) (g t))
    (hz : ts.length ≤ 90000) (hs : ∀ x, foldedSetIterable iter X.env x = pure x := by intro _; rfl) : DO X (.ListComp elt [⟨.Name nm p1, iter, [c], 0⟩] scope pos) ρ (.l ((ts.filter p).map g)) :=
  do_lc hc hN hi ok (fs := fun t ρ => ρ.set i (some (.d (enc t)))) ⟨hx, fun j hj => by simpa using hj, fun t _ => rfl, fun s H C cl fp t h => dts_one (ht s H C cl fp t h), fun s H C cl fp t h => he s H C cl fp t h⟩ hz hs
end
theorem pure_anyM {K : PySem.W.Frag} {τ : Type} {ts : List τ} {f : τ → Bool} : PureC K (rAny K) [.list (ts.map fun t => .bool (f t))] (.bool (ts.any f)) := by
  have h := pure_any (K := K) (bs := ts.map f)
  rw [List.map_map, List.any_map] at h
  exact h
theorem pure_allM {K : PySem.W.Frag} {τ : Type} {ts : List τ} {f : τ → Bool} : PureC K (rAll K) [.list (ts.map fun t => .bool (f t))] (.bool (ts.all f)) := by
  have h := pure_all (K := K) (bs := ts.map f)
  rw [List.map_map, List.all_map] at h
  exact h
/-! ### equality of data -/
theorem lay_ints : ∀ ns : List Int, PyData.canLayAll0 (ns.map .int) = true
  | [] => by simp [PyData.canLayAll0]
  | n :: ns => by simp [PyData.canLayAll0, PyData.canLay0, lay_ints ns]
theorem dep_ints : ∀ ns : List Int, PyData.depthAll (ns.map .int) = 0
  | [] => by simp [PyData.depthAll]
  | n :: ns => by simp [PyData.depthAll, PyData.depth, dep_ints ns]
theorem lay_rows : ∀ s : S, PyData.canLayAll0 (s.map encR) = true
  | [] => by simp [PyData.canLayAll0]
  | r :: s => by simp [PyData.canLayAll0, encR, PyData.canLay0, lay_ints r, lay_rows s]
theorem dep_rows : ∀ s : S, PyData.depthAll (s.map encR) ≤ 1
  | [] => by simp [PyData.depthAll]
  | r :: s => by
    have := dep_rows s
    simp [PyData.depthAll, encR, PyData.depth, dep_ints r]
    omega
theorem shaped_int (i : Int) : SeqAt.shaped (.int i) = true := by simp [SeqAt.shaped, PyData.canLay0, PyData.depth]
theorem shaped_bool (i : Bool) : SeqAt.shaped (.bool i) = true := by simp [SeqAt.shaped, PyData.canLay0, PyData.depth]
theorem shaped_R (r : List Int) : SeqAt.shaped (encR r) = true := by simp [SeqAt.shaped, encR, PyData.canLay0, PyData.depth, lay_ints r, dep_ints r]
theorem shaped_L (r : List Int) : SeqAt.shaped (.list (r.map .int)) = true := by simp [SeqAt.shaped, PyData.canLay0, PyData.depth, lay_ints r, dep_ints r]
theorem shaped_S (s : S) : SeqAt.shaped (encS s) = true := by
  have := dep_rows s
  simp [SeqAt.shaped, encS, PyData.canLay0, PyData.depth, lay_rows s]
  omega
theorem shaped_LS (s : S) : SeqAt.shaped (.list (s.map encR)) = true := by
  have := dep_rows s
  simp [SeqAt.shaped, PyData.canLay0, PyData.depth, lay_rows s]
  omega
theorem eqv_int (i j : Int) : PyData.eqv (.int i) (.int j) = decide (i = j) := by
  simp only [PyData.eqv]
  rw [Bool.beq_eq_decide_eq]
theorem eqv_ints : ∀ a b : List Int, PyData.eqvAll (a.map .int) (b.map .int) = decide (a = b)
  | [], [] => by simp [PyData.eqvAll]
  | [], _ :: _ => by simp [PyData.eqvAll]
  | _ :: _, [] => by simp [PyData.eqvAll]
  | x :: a, y :: b => by
    rw [List.map_cons, List.map_cons, PyData.eqvAll, eqv_ints a b, eqv_int]
    simp [List.cons.injEq]
theorem eqv_R (a b : List Int) : PyData.eqv (encR a) (encR b) = decide (a = b) := by
  simp only [encR, PyData.eqv]
  exact eqv_ints a b
theorem eqv_L (a b : List Int) : PyData.eqv (.list (a.map .int)) (.list (b.map .int)) = decide (a = b) := by
  simp only [PyData.eqv]
  exact eqv_ints a b
theorem eqv_rows : ∀ a b : S, PyData.eqvAll (a.map encR) (b.map encR) = decide (a = b)
  | [], [] => by simp [PyData.eqvAll]
  | [], _ :: _ => by simp [PyData.eqvAll]
  | _ :: _, [] => by simp [PyData.eqvAll]
  | x :: a, y :: b => by
    rw [List.map_cons, List.map_cons, PyData.eqvAll, eqv_rows a b, eqv_R]
    simp [List.cons.injEq]
theorem eqv_S (a b : S) : PyData.eqv (encS a) (encS b) = decide (a = b) := by
  simp only [encS, PyData.eqv]
  exact eqv_rows a b
theorem eqv_LS (a b : S) : PyData.eqv (.list (a.map encR)) (.list (b.map encR)) = decide (a = b) := by
  simp only [PyData.eqv]
  exact eqv_rows a b
/-! ### places -/
theorem atI_at {α : Type} {xs : List α} {i : Nat} {x : α} (h : xs[i]? = some x) : atI xs (i : Int) = some x := atI_nat h
theorem atI_of {α : Type} {xs : List α} {k : Int} {i : Nat} {x : α} (hk : k = (i : Int)) (h : xs[i]? = some x) : atI xs k = some x := by
  subst hk
  exact atI_nat h
end SG
set_option Elab.async false
set_option linter.all false
set_option maxRecDepth 100000
set_option maxHeartbeats 4000000
/-! Part E1: the checks, friends, one call, all calls. -/
namespace SG
open PySem PySem.Spec PyProof.Rows L2
/-- built-ins that stand under their own names -/
structure BI (mg : Str → Option Value) : Prop where
  isinstance : mg "isinstance" = none
  int : mg "int" = none
  bool : mg "bool" = none
  tuple : mg "tuple" = none
  list : mg "list" = none
  str : mg "str" = none
  set : mg "set" = none
  len : mg "len" = none
  range : mg "range" = none
  any : mg "any" = none
  all : mg "all" = none
  zip : mg "zip" = none
  enumerate : mg "enumerate" = none
  sorted : mg "sorted" = none
def blkB (N : List Str) (sc scope : Scope) (own : List (Str × Nat)) : Bool :=
  (match scope.kind with | .function => true | _ => false) && decide (∀ y ∈ scope.names, scope.names.lookup y.1 = some y.2) && decide (∀ p ∈ own, N[p.2]? = some p.1) && decide (∀ y ∈ scope.names, y.2 = .free → sc.names.lookup y.1 = some .cell ∨ sc.names.lookup y.1 = some .free) &&
  decide (∀ y ∈ scope.names, y.2 = .local ∨ y.2 = .cell → y.1 ∈ own.map (·.1) ∨ y.1 ∉ N)
theorem blk_of {N : List Str} {sc scope : Scope} {own : List (Str × Nat)} (h : blkB N sc scope own = true) : BlkOk N sc scope own := by
  unfold blkB at h
  rw [Bool.and_eq_true, Bool.and_eq_true, Bool.and_eq_true, Bool.and_eq_true] at h
  obtain ⟨⟨⟨⟨h1, h2⟩, h3⟩, h4⟩, h5⟩ := h
  refine ⟨?_, of_decide_eq_true h2, of_decide_eq_true h3, of_decide_eq_true h4, of_decide_eq_true h5⟩
  split at h1
  · assumption
  · cases h1
def nodupB (N : List Str) : Bool := decide N.Nodup
theorem nodup_of {N : List Str} (h : nodupB N = true) : N.Nodup := of_decide_eq_true h
def encNet (n : Nat) (gs : List (List Int)) : PyData := .tuple [.int n, encS gs]
theorem kit_ii : kitB (tyName (.int i)) "int" = some true := by show kitB "int" "int" = some true; decide +kernel
theorem kit_ib : kitB (tyName (.int i)) "bool" = some false := by show kitB "int" "bool" = some false; decide +kernel
theorem kit_tt {ys : List PyData} : kitB (tyName (.tuple ys)) "tuple" = some true := by show kitB "tuple" "tuple" = some true; decide +kernel
theorem de_len {X : Cx} {ρ : Rho} {e : Expr} {xs : List PyData} {p pos : Pos} (hg : Gl X "len") (hm : X.mg "len" = none) (h : DE X e ρ (.tuple xs)) (hs : starEach (e :: []) X.env = (false, eval e X.env) :: starEach [] X.env := by rfl) (hpl : (backTo pos (starEach [] X.env)).any (·.1) = false := by rfl) : DE X (.Call (.Name "len" p) [e] [] pos) ρ (.int xs.length) :=
  de_callB call_len_seq (pure_lenT fun _ _ _ q => q) hg hm PySem.boot_len (da_cons h da_nil hs) (by decide) (by decide) hs hpl
theorem de_lenL {X : Cx} {ρ : Rho} {e : Expr} {xs : List PyData} {p pos : Pos} (hg : Gl X "len") (hm : X.mg "len" = none) (h : DE X e ρ (.list xs)) (hs : starEach (e :: []) X.env = (false, eval e X.env) :: starEach [] X.env := by rfl) (hpl : (backTo pos (starEach [] X.env)).any (·.1) = false := by rfl) : DE X (.Call (.Name "len" p) [e] [] pos) ρ (.int xs.length) :=
  de_callB call_len_seq (pure_lenL fun _ _ _ q => q) hg hm PySem.boot_len (da_cons h da_nil hs) (by decide) (by decide) hs hpl
theorem de_tupL {X : Cx} {ρ : Rho} {e : Expr} {xs : List PyData} {p pos : Pos} (hg : Gl X "tuple") (hm : X.mg "tuple" = none) (h : DE X e ρ (.list xs)) (hs : starEach (e :: []) X.env = (false, eval e X.env) :: starEach [] X.env := by rfl) (hpl : (backTo pos (starEach [] X.env)).any (·.1) = false := by rfl) : DE X (.Call (.Name "tuple" p) [e] [] pos) ρ (.tuple xs) :=
  de_callTy call_tuple_of pure_tupleL hg hm PyProof.Rows.boot_tuple (da_cons h da_nil hs) (by decide) (by decide) hs hpl
theorem de_tupT {X : Cx} {ρ : Rho} {e : Expr} {xs : List PyData} {p pos : Pos} (hg : Gl X "tuple") (hm : X.mg "tuple" = none) (h : DE X e ρ (.tuple xs)) (hs : starEach (e :: []) X.env = (false, eval e X.env) :: starEach [] X.env := by rfl) (hpl : (backTo pos (starEach [] X.env)).any (·.1) = false := by rfl) : DE X (.Call (.Name "tuple" p) [e] [] pos) ρ (.tuple xs) :=
  de_callTy call_tuple_of pure_tupleT hg hm PyProof.Rows.boot_tuple (da_cons h da_nil hs) (by decide) (by decide) hs hpl
theorem de_any {X : Cx} {ρ : Rho} {e : Expr} {τ : Type} {ts : List τ} {f : τ → Bool} {p pos : Pos} (hc : X.calm = true) (hg : Gl X "any") (hm : X.mg "any" = none) (h : DO X e ρ (.l (ts.map fun t => .bool (f t)))) (hs : starEach (e :: []) X.env = (false, eval e X.env) :: starEach [] X.env := by rfl) (hpl : (backTo pos (starEach [] X.env)).any (·.1) = false := by rfl) : DE X (.Call (.Name "any" p) [e] [] pos) ρ (.bool (ts.any f)) :=
  de_callB (cr_any hc) pure_anyM hg hm boot_any (da_cons (de_new h) da_nil hs) (by decide) (by decide) hs hpl
theorem de_all {X : Cx} {ρ : Rho} {e : Expr} {τ : Type} {ts : List τ} {f : τ → Bool} {p pos : Pos} (hc : X.calm = true) (hg : Gl X "all") (hm : X.mg "all" = none) (h : DO X e ρ (.l (ts.map fun t => .bool (f t)))) (hs : starEach (e :: []) X.env = (false, eval e X.env) :: starEach [] X.env := by rfl) (hpl : (backTo pos (starEach [] X.env)).any (·.1) = false := by rfl) : DE X (.Call (.Name "all" p) [e] [] pos) ρ (.bool (ts.all f)) :=
  de_callB (cr_all hc) pure_allM hg hm boot_all (da_cons (de_new h) da_nil hs) (by decide) (by decide) hs hpl
section
variable {X : Cx} {ρ : Rho} {a b : Expr} {i j : Int} {pos : Pos}
theorem de_add (ha : DE X a ρ (.int i)) (hb : DE X b ρ (.int j)) : DE X (.BinOp a .Add b pos) ρ (.int (i + j)) := de_op op_add (pure_I0 fun _ => .int _) ha hb
theorem de_sub (ha : DE X a ρ (.int i)) (hb : DE X b ρ (.int j)) : DE X (.BinOp a .Sub b pos) ρ (.int (i - j)) := de_op op_sub (pure_I0 fun _ => .int _) ha hb
theorem dt_ge (ha : DE X a ρ (.int i)) (hb : DE X b ρ (.int j)) : DT X (.Compare a [.GtE] [b] pos) ρ (decide (j ≤ i)) := dt_cmp op_ge (pure_I0 fun _ => .bl _) ha hb (nomark _)
theorem dt_gt (ha : DE X a ρ (.int i)) (hb : DE X b ρ (.int j)) : DT X (.Compare a [.Gt] [b] pos) ρ (decide (j < i)) := dt_cmp op_gt (pure_I0 fun _ => .bl _) ha hb (nomark _)
theorem de_lt (ha : DE X a ρ (.int i)) (hb : DE X b ρ (.int j)) : DE X (.Compare a [.Lt] [b] pos) ρ (.bool (decide (i < j))) := de_cmp op_lt (pure_I0 fun _ => .bl _) ha hb (nomark _)
theorem dt_lt (ha : DE X a ρ (.int i)) (hb : DE X b ρ (.int j)) : DT X (.Compare a [.Lt] [b] pos) ρ (decide (i < j)) := dt_cmp op_lt (pure_I0 fun _ => .bl _) ha hb (nomark _)
theorem de_eqD {k : Nat} {x y : PyData} (hr : Room k X.A) (hx : SeqAt.shaped x = true) (hy : SeqAt.shaped y = true) (ha : DE X a ρ x) (hb : DE X b ρ y) : DE X (.Compare a [.Eq] [b] pos) ρ (.bool (PyData.eqv x y)) := de_cmp (op_eqD (by have := hr.units; omega)) (pure_eqD hx hy) ha hb (nomark _)
theorem dt_eqD {k : Nat} {x y : PyData} (hr : Room k X.A) (hx : SeqAt.shaped x = true) (hy : SeqAt.shaped y = true) (ha : DE X a ρ x) (hb : DE X b ρ y) : DT X (.Compare a [.Eq] [b] pos) ρ (PyData.eqv x y) := dt_cmp (op_eqD (by have := hr.units; omega)) (pure_eqD hx hy) ha hb (nomark _)
theorem dt_neD {k : Nat} {x y : PyData} (hr : Room k X.A) (hx : SeqAt.shaped x = true) (hy : SeqAt.shaped y = true) (ha : DE X a ρ x) (hb : DE X b ρ y) : DT X (.Compare a [.NotEq] [b] pos) ρ (!PyData.eqv x y) := dt_cmp (op_neD (by have := hr.units; omega)) (pure_neD hx hy) ha hb (nomark _)
theorem dt_eqI {k : Nat} (hr : Room k X.A) (ha : DE X a ρ (.int i)) (hb : DE X b ρ (.int j)) : DT X (.Compare a [.Eq] [b] pos) ρ (decide (i = j)) := dt_is (dt_eqD hr (shaped_int _) (shaped_int _) ha hb) (eqv_int i j)
theorem de_eqI {k : Nat} (hr : Room k X.A) (ha : DE X a ρ (.int i)) (hb : DE X b ρ (.int j)) : DE X (.Compare a [.Eq] [b] pos) ρ (.bool (decide (i = j))) := de_is (de_eqD hr (shaped_int _) (shaped_int _) ha hb) (congrArg PyData.bool (eqv_int i j))
theorem de_inT {ns : List Int} (ha : DE X a ρ (.int i)) (hb : DE X b ρ (.tuple (ns.map .int))) (hm : behindInMarks .In b = false := by rfl) : DE X (.Compare a [.In] [b] pos) ρ (.bool (ns.contains i)) := de_cmp op_in_seq pure_in ha hb hm
theorem dt_inT {ns : List Int} (ha : DE X a ρ (.int i)) (hb : DE X b ρ (.tuple (ns.map .int))) (hm : behindInMarks .In b = false := by rfl) : DT X (.Compare a [.In] [b] pos) ρ (ns.contains i) := dt_cmp op_in_seq pure_in ha hb hm
theorem dt_inL {ns : List Int} (ha : DE X a ρ (.int i)) (hb : DE X b ρ (.list (ns.map .int))) (hm : behindInMarks .In b = false := by rfl) : DT X (.Compare a [.In] [b] pos) ρ (ns.contains i) := dt_cmp op_in_seq pure_inL ha hb hm
theorem dt_notInT {ns : List Int} (ha : DE X a ρ (.int i)) (hb : DE X b ρ (.tuple (ns.map .int))) (hm : behindInMarks .NotIn b = false := by rfl) : DT X (.Compare a [.NotIn] [b] pos) ρ (!ns.contains i) := dt_cmp op_notIn_seq pure_notIn ha hb hm
theorem de_at {xs : List PyData} {x : PyData} (ha : DE X a ρ (.tuple xs)) (hb : DE X b ρ (.int i)) (h : atI xs i = some x) (hs : PlainIx b) : DE X (.Subscript a b pos) ρ x := de_ix ix_tup (pure_ixT h) ha hb hs
theorem de_catT {xs ys : List PyData} (ha : DE X a ρ (.tuple xs)) (hb : DE X b ρ (.tuple ys)) (h : xs.length + ys.length ≤ 100000) : DE X (.BinOp a .Add b pos) ρ (.tuple (xs ++ ys)) := de_op op_catA (pure_catT h) ha hb
end
section
variable {P : Program} {w : World} {K : PySem.W.Frag} {mg : Str → Option Value} {base : Heap}
/-! ### checks -/
theorem w_is_integer (B : BI mg) (D : DefAt K mg "is_integer" (topS 1) ["value"]) : Callee P w K mg base "is_integer" 1 ["value"] (fun xs z => ∃ i : Int, xs = [.int i] ∧ z = .bool true) :=
  callee_of D fun f fd F => fn_ok F (N := ["value"]) ⟨rfl, rfl, rfl, by decide +kernel, rfl, by decide +kernel, by decide +kernel⟩ (fun xs z h => by obtain ⟨i, rfl, _⟩ := h; rfl) fun cdv A outer s H E hr xs z h => by
    obtain ⟨i, rfl, rfl⟩ := h
    exact dss_one (ds_ret (de_and (t := true) (u := true) (de_isi (r := true) rfl B.isinstance (de_var 0 rfl) rfl B.int PyProof.Rows.boot_int kit_ii) fun _ => de_one (de_not (t := false) (de_isi (r := false) rfl B.isinstance (de_var 0 rfl) rfl B.bool PyProof.Rows.boot_bool kit_ib))))
theorem w_is_in (B : BI mg) (D : DefAt K mg "is_in" (topS 2) ["value", "least", "most"]) (C1 : Callee P w K mg base "is_integer" 1 ["value"] (fun xs z => ∃ i : Int, xs = [.int i] ∧ z = .bool true)) :
    Callee P w K mg base "is_in" 2 ["value", "least", "most"] (fun xs z => ∃ i a b : Int, xs = [.int i, .int a, .int b] ∧ z = .bool (decide (a ≤ i) && decide (i ≤ b))) :=
  callee_of D fun f fd F => fn_ok F (N := ["value", "least", "most"]) ⟨rfl, rfl, rfl, by decide +kernel, rfl, by decide +kernel, by decide +kernel⟩ (fun xs z h => by obtain ⟨i, a, b, rfl, _⟩ := h; rfl) fun cdv A outer s H E hr xs z h => by
    obtain ⟨i, a, b, rfl, rfl⟩ := h
    exact dss_one (ds_ret (de_and (t := true) (de_callC C1 hr rfl (da_cons (de_var 0 rfl) da_nil) ⟨i, rfl, rfl⟩) fun _ => de_one (de_chainI (de_var 1 rfl) (de_var 0 rfl) (de_var 2 rfl))))
theorem w_is_list (B : BI mg) (D : DefAt K mg "is_list" (topS 3) ["value", "least", "most"]) :
    Callee P w K mg base "is_list" 1 ["value", "least", "most"] (fun xs z => ∃ (ys : List PyData) (a b : Int), xs = [.tuple ys, .int a, .int b] ∧ z = .bool (decide (a ≤ (ys.length : Int)) && decide ((ys.length : Int) ≤ b))) :=
  callee_of D fun f fd F => fn_ok F (N := ["value", "least", "most"]) ⟨rfl, rfl, rfl, by decide +kernel, rfl, by decide +kernel, by decide +kernel⟩ (fun xs z h => by obtain ⟨i, a, b, rfl, _⟩ := h; rfl) fun cdv A outer s H E hr xs z h => by
    obtain ⟨ys, a, b, rfl, rfl⟩ := h
    exact dss_one (ds_ret (de_and (t := true) (de_isi (r := true) rfl B.isinstance (de_var 0 rfl) rfl B.tuple PyProof.Rows.boot_tuple kit_tt) fun _ => de_one (de_chainI (de_var 1 rfl) (de_len rfl B.len (de_var 0 rfl)) (de_var 2 rfl))))
/-! ### nets -/
theorem w_size_of (B : BI mg) (D : DefAt K mg "size_of" (topS 14) ["net"]) :
    Callee P w K mg base "size_of" 1 ["net"] (fun xs z => ∃ n gs, xs = [encNet n gs] ∧ z = .int ((n + gs.length : Nat) : Int)) :=
  callee_of D fun f fd F => fn_ok F (N := ["net"]) ⟨rfl, rfl, rfl, by decide +kernel, rfl, by decide +kernel, by decide +kernel⟩ (fun xs z h => by obtain ⟨i, a, rfl, _⟩ := h; rfl) fun cdv A outer s H E hr xs z h => by
    obtain ⟨n, gs, rfl, rfl⟩ := h
    refine dss_one (ds_ret (de_is (de_add (de_at (de_var 0 rfl) de_int rfl (fun _ _ => rfl)) (de_len rfl B.len (de_at (de_var 0 rfl) de_int rfl (fun _ _ => rfl)))) ?_))
    rw [List.length_map]
    rfl
end
end SG
/-! Part M1: the mirror of nets and calls; its mathematics in plain Lean. -/
set_option Elab.async false
namespace SGM
/-! ### the mirror -/
abbrev gt (l : List Int) (i : Nat) : Int := l.getD i 0
def frs (n : Nat) (gs : List (List Int)) (p : Int) : List Int := if (n : Int) ≤ p then gs.getD (p - n).toNat [] else []
def bitOf (b : Bool) : Int := if b then 0 else 1
def endStep (found near : List Int) : List Int := found ++ [bitOf (near.any fun o => decide (gt found o.toNat = 1))]
def endIn (gs : List (List Int)) (bits : List Int) : List Int := gs.foldl endStep bits
def begin1 (gs : List (List Int)) (bits : List Int) : List Int := bits ++ List.replicate gs.length 1
def call1 (n : Nat) (gs : List (List Int)) (st : List Int) (p : Int) : List Int := if gt st p.toNat = 0 then st else (List.range st.length).map fun (w : Nat) => if (frs n gs w).contains p then 0 else gt st w
def walk1 (n : Nat) (gs : List (List Int)) (st : List Int) (ps : List Int) : List Int := ps.foldl (call1 n gs) st
def allB : Nat → List (List Int)
  | 0 => [[]]
  | n + 1 => (allB n).flatMap fun b => [b ++ [0], b ++ [1]]
def lost1 (st e : List Int) : Bool := (st.zip e).any fun q => decide (q.1 < q.2)
def lost (s g : List (List Int)) : Bool := (s.zip g).any fun q => lost1 q.1 q.2
def goal (n : Nat) (gs : List (List Int)) : List (List Int) := (allB n).map (endIn gs)
def begins (n : Nat) (gs : List (List Int)) : List (List Int) := (allB n).map (begin1 gs)
def callA (n : Nat) (gs : List (List Int)) (s : List (List Int)) (p : Int) : List (List Int) := s.map fun st => call1 n gs st p
def walkA (n : Nat) (gs : List (List Int)) (s : List (List Int)) (ps : List Int) : List (List Int) := ps.foldl (callA n gs) s
/-- a net as the program takes it -/
structure NetOk (n : Nat) (gs : List (List Int)) : Prop where
  n1 : 1 ≤ n
  n3 : n ≤ 3
  g4 : gs.length ≤ 4
  up : ∀ near ∈ gs, near.Pairwise (· < ·)
  rg : ∀ (i : Nat) near, gs[i]? = some near → ∀ o ∈ near, 0 ≤ o ∧ o < ((n + i : Nat) : Int)

/-! ### lists by places -/
theorem gt_lt {l : List Int} {i : Nat} (h : i < l.length) : gt l i = l[i] := by
  unfold gt
  rw [List.getD_eq_getElem?_getD, List.getElem?_eq_getElem h]
  rfl
theorem gt_ge {l : List Int} {i : Nat} (h : l.length ≤ i) : gt l i = 0 := by
  unfold gt
  rw [List.getD_eq_getElem?_getD, List.getElem?_eq_none h]
  rfl
theorem gt_some {l : List Int} {i : Nat} (h : i < l.length) : l[i]? = some (gt l i) := by rw [gt_lt h]; exact List.getElem?_eq_getElem h
theorem gt_app_l {l m : List Int} {i : Nat} (h : i < l.length) : gt (l ++ m) i = gt l i := by
  unfold gt
  rw [List.getD_eq_getElem?_getD, List.getD_eq_getElem?_getD, List.getElem?_append_left h]
theorem gt_app_r {l m : List Int} {i : Nat} : gt (l ++ m) (l.length + i) = gt m i := by
  unfold gt
  rw [List.getD_eq_getElem?_getD, List.getD_eq_getElem?_getD, List.getElem?_append_right (Nat.le_add_right _ _), Nat.add_sub_cancel_left]
theorem ext_gt {l m : List Int} (hl : l.length = m.length) (h : ∀ i, i < l.length → gt l i = gt m i) : l = m := by
  refine List.ext_getElem hl fun i h1 h2 => ?_
  have := h i h1
  rw [gt_lt h1, gt_lt h2] at this
  exact this
theorem gt_map {f : Nat → Int} {k i : Nat} (h : i < k) : gt ((List.range k).map f) i = f i := by
  rw [gt_lt (by rw [List.length_map, List.length_range]; exact h), List.getElem_map, List.getElem_range]

/-! ### calls of one standing -/
section
variable {n : Nat} {gs : List (List Int)}
theorem call1_len (st : List Int) (p : Int) : (call1 n gs st p).length = st.length := by
  unfold call1
  split
  · rfl
  · rw [List.length_map, List.length_range]
theorem call1_gt (st : List Int) (p : Int) (w : Nat) : gt (call1 n gs st p) w = if gt st p.toNat ≠ 0 ∧ (frs n gs w).contains p = true then 0 else gt st w := by
  unfold call1
  by_cases h : gt st p.toNat = 0
  · rw [if_pos h, if_neg fun z => z.1 h]
  · rw [if_neg h]
    by_cases hw : w < st.length
    · rw [gt_map hw]
      by_cases c : (frs n gs w).contains p = true
      · rw [if_pos c, if_pos ⟨h, c⟩]
      · rw [if_neg c, if_neg fun z => c z.2]
    · have e1 : gt st w = 0 := gt_ge (by omega)
      have e2 : gt ((List.range st.length).map fun (w : Nat) => if (frs n gs w).contains p then 0 else gt st w) w = 0 := gt_ge (by rw [List.length_map, List.length_range]; omega)
      rw [e2, e1]
      split <;> rfl
theorem walk1_len : ∀ (ps : List Int) (st : List Int), (walk1 n gs st ps).length = st.length
  | [], st => rfl
  | p :: ps, st => by
    show (walk1 n gs (call1 n gs st p) ps).length = _
    rw [walk1_len ps, call1_len]
theorem walk1_app (st : List Int) (ps qs : List Int) : walk1 n gs st (ps ++ qs) = walk1 n gs (walk1 n gs st ps) qs := List.foldl_append
theorem walk1_one (st : List Int) (ps : List Int) (p : Int) : walk1 n gs st (ps ++ [p]) = call1 n gs (walk1 n gs st ps) p := by rw [walk1_app]; rfl
/-- 0s and 1s -/
def Bin (l : List Int) : Prop := ∀ i, gt l i = 0 ∨ gt l i = 1
theorem call1_bin {st : List Int} (h : Bin st) (p : Int) : Bin (call1 n gs st p) := fun i => by
  rw [call1_gt]
  split
  · exact .inl rfl
  · exact h i
theorem walk1_bin : ∀ (ps : List Int) {st : List Int}, Bin st → Bin (walk1 n gs st ps)
  | [], _, h => h
  | p :: ps, _, h => walk1_bin ps (call1_bin h p)
theorem call1_le {st : List Int} (h : Bin st) (p : Int) (w : Nat) : gt (call1 n gs st p) w ≤ gt st w := by
  rw [call1_gt]
  split
  · rcases h w with e | e <;> omega
  · exact Int.le_refl _
/-- nobody sits by p's call any more -/
def Calm (n : Nat) (gs : List (List Int)) (st : List Int) (p : Int) : Prop := ∀ w : Nat, gt st p.toNat ≠ 0 → (frs n gs w).contains p = true → gt st w = 0
theorem calm_eq {st : List Int} {p : Int} (h : Calm n gs st p) : call1 n gs st p = st :=
  ext_gt (call1_len st p) fun i _ => by
    rw [call1_gt]
    split
    · rename_i c
      exact (h i c.1 c.2).symm
    · rfl
theorem calm_after {st : List Int} (p : Int) : Calm n gs (call1 n gs st p) p := fun w h c => by
  rw [call1_gt] at h ⊢
  by_cases q : gt st p.toNat ≠ 0
  · rw [if_pos ⟨q, c⟩]
  · have q : gt st p.toNat = 0 := by omega
    rw [if_neg fun z => z.1 q] at h
    exact absurd q h
theorem calm_stays {st : List Int} (p q : Int) (h : Calm n gs st p) : Calm n gs (call1 n gs st q) p := fun w hp c => by
  rw [call1_gt] at hp
  have hp' : gt st p.toNat ≠ 0 := by
    split at hp
    · exact absurd rfl hp
    · exact hp
  rw [call1_gt, h w hp' c]
  split <;> rfl
theorem calm_walk (p : Int) : ∀ (ps : List Int) {st : List Int}, Calm n gs st p → Calm n gs (walk1 n gs st ps) p
  | [], _, h => h
  | q :: ps, _, h => calm_walk p ps (calm_stays p q h)
theorem calm_in {p : Int} : ∀ {ps : List Int} {st : List Int}, p ∈ ps → Calm n gs (walk1 n gs st ps) p
  | q :: ps, st, h => by
    rcases List.mem_cons.mp h with e | h
    · subst e
      exact calm_walk _ ps (calm_after _)
    · exact calm_in (ps := ps) (st := call1 n gs st q) h
/-- who is nobody's taller friend is calm -/
theorem calm_last (N : NetOk n gs) {st : List Int} {p : Int} (hp : p = ((n + gs.length : Nat) : Int) - 1) : Calm n gs st p := fun w _ c => by
  exfalso
  unfold frs at c
  split at c
  · rename_i hw
    rw [List.getD_eq_getElem?_getD] at c
    cases e : gs[((w : Int) - (n : Int)).toNat]? with
    | none => rw [e] at c; simp at c
    | some near =>
      rw [e] at c
      have hm : p ∈ near := by simpa using c
      have := (N.rg _ _ e p hm).2
      have hi := (List.getElem?_eq_some_iff.mp e).1
      omega
  · simp at c

/-! ### the end -/
theorem end_len : ∀ (gs : List (List Int)) (f : List Int), (gs.foldl endStep f).length = f.length + gs.length
  | [], f => rfl
  | g :: gs, f => by
    show (gs.foldl endStep (endStep f g)).length = _
    rw [end_len gs]
    unfold endStep
    rw [List.length_append, List.length_cons, List.length_cons, List.length_nil]
    omega
theorem end_pre : ∀ (gs : List (List Int)) (f : List Int) (w : Nat), w < f.length → gt (gs.foldl endStep f) w = gt f w
  | [], f, w, h => rfl
  | g :: gs, f, w, h => by
    show gt (gs.foldl endStep (endStep f g)) w = _
    rw [end_pre gs _ w (by unfold endStep; rw [List.length_append]; omega)]
    unfold endStep
    exact gt_app_l h
theorem any_congr {l : List Int} {f g : Int → Bool} (h : ∀ x ∈ l, f x = g x) : l.any f = l.any g := by
  induction l with
  | nil => rfl
  | cons a l ih => rw [List.any_cons, List.any_cons, h a (by simp), ih fun x hx => h x (List.mem_cons_of_mem _ hx)]
theorem end_gate : ∀ (gs : List (List Int)) (f : List Int) (i : Nat) (near : List Int), gs[i]? = some near → (∀ o ∈ near, 0 ≤ o ∧ o < ((f.length + i : Nat) : Int)) →
    gt (gs.foldl endStep f) (f.length + i) = bitOf (near.any fun o => decide (gt (gs.foldl endStep f) o.toNat = 1))
  | [], f, i, near, h, _ => by simp at h
  | g :: gs, f, 0, near, h, ho => by
    have e : g = near := Option.some.inj h
    subst e
    show gt (gs.foldl endStep (endStep f g)) (f.length + 0) = bitOf (g.any fun o => decide (gt (gs.foldl endStep (endStep f g)) o.toNat = 1))
    have hl : (endStep f g).length = f.length + 1 := by unfold endStep; rw [List.length_append]; rfl
    rw [end_pre gs _ (f.length + 0) (by omega)]
    have e1 : gt (endStep f g) (f.length + 0) = bitOf (g.any fun o => decide (gt f o.toNat = 1)) := by
      unfold endStep
      rw [gt_app_r]
      rfl
    rw [e1]
    congr 1
    refine any_congr fun o hm => ?_
    have := ho o hm
    rw [end_pre gs _ o.toNat (by omega)]
    unfold endStep
    rw [gt_app_l (by omega)]
  | g :: gs, f, i + 1, near, h, ho => by
    show gt (gs.foldl endStep (endStep f g)) (f.length + (i + 1)) = bitOf (near.any fun o => decide (gt (gs.foldl endStep (endStep f g)) o.toNat = 1))
    have hl : (endStep f g).length = f.length + 1 := by unfold endStep; rw [List.length_append]; rfl
    have ih := end_gate gs (endStep f g) i near h fun o hm => by
      have := ho o hm
      rw [hl]
      omega
    rw [hl] at ih
    rw [show f.length + (i + 1) = f.length + 1 + i by omega]
    exact ih
theorem bin_append {l m : List Int} (h : Bin l) (h' : Bin m) : Bin (l ++ m) := fun i => by
  by_cases q : i < l.length
  · rw [gt_app_l q]; exact h i
  · have e : i = l.length + (i - l.length) := by omega
    rw [e, gt_app_r]
    exact h' _
theorem bin_one {x : Int} (h : x = 0 ∨ x = 1) : Bin [x] := fun i => by
  match i with
  | 0 => exact h
  | i + 1 => exact .inl rfl
theorem end_bin : ∀ (gs : List (List Int)) {f : List Int}, Bin f → Bin (gs.foldl endStep f)
  | [], _, h => h
  | g :: gs, f, h => end_bin gs (bin_append h (bin_one (by unfold bitOf; split <;> simp)))
theorem endIn_len (bits : List Int) : (endIn gs bits).length = bits.length + gs.length := end_len gs bits
theorem bin_rep (k : Nat) : Bin (List.replicate k 1) := fun i => by
  by_cases h : i < k
  · rw [gt_lt (by rw [List.length_replicate]; exact h), List.getElem_replicate]; exact .inr rfl
  · rw [gt_ge (by rw [List.length_replicate]; omega)]; exact .inl rfl
theorem begin_len (bits : List Int) : (begin1 gs bits).length = bits.length + gs.length := by unfold begin1; rw [List.length_append, List.length_replicate]
theorem begin_bin {bits : List Int} (h : Bin bits) : Bin (begin1 gs bits) := bin_append h (bin_rep _)

/-! ### who stands in the end and sits -/
theorem lost1_iff : ∀ {st e : List Int}, st.length = e.length → (lost1 st e = true ↔ ∃ w, gt st w < gt e w)
  | [], [], _ => by
    constructor
    · intro h; simp [lost1] at h
    · rintro ⟨w, h⟩
      have e : gt [] w = 0 := gt_ge (by simp)
      rw [e] at h
      omega
  | x :: st, y :: e, hl => by
    have ih := lost1_iff (st := st) (e := e) (by simpa using hl)
    have e1 : lost1 (x :: st) (y :: e) = (decide (x < y) || lost1 st e) := rfl
    rw [e1, Bool.or_eq_true, decide_eq_true_iff, ih]
    constructor
    · rintro (h | ⟨w, h⟩)
      · exact ⟨0, h⟩
      · exact ⟨w + 1, h⟩
    · rintro ⟨w, h⟩
      match w with
      | 0 => exact .inl h
      | w + 1 => exact .inr ⟨w, h⟩
theorem lost1_call {st e : List Int} (hl : st.length = e.length) (h : Bin st) (p : Int) (q : lost1 st e = true) : lost1 (call1 n gs st p) e = true := by
  obtain ⟨w, hw⟩ := (lost1_iff hl).mp q
  exact (lost1_iff (by rw [call1_len]; exact hl)).mpr ⟨w, by have := call1_le (n := n) (gs := gs) h p w; omega⟩
theorem lost1_walk {e : List Int} : ∀ (ps : List Int) {st : List Int}, st.length = e.length → Bin st → lost1 st e = true → lost1 (walk1 n gs st ps) e = true
  | [], _, _, _, q => q
  | p :: ps, st, hl, h, q => lost1_walk ps (by rw [call1_len]; exact hl) (call1_bin h p) (lost1_call hl h p q)
theorem not_lost_self (e : List Int) : lost1 e e = false := by
  cases h : lost1 e e with
  | false => rfl
  | true => obtain ⟨w, hw⟩ := (lost1_iff rfl).mp h; omega

/-! ### from a standing that has lost nobody, the tallest first -/
structure StB (n : Nat) (gs : List (List Int)) (bits st : List Int) : Prop where
  bl : bits.length = n
  bb : Bin bits
  len : st.length = n + gs.length
  bin : Bin st
  inp : ∀ w, w < n → gt st w = gt bits w
theorem StB.call {bits st : List Int} (h : StB n gs bits st) (p : Int) : StB n gs bits (call1 n gs st p) := by
  refine ⟨h.bl, h.bb, by rw [call1_len]; exact h.len, call1_bin h.bin p, fun w hw => ?_⟩
  rw [call1_gt, if_neg, h.inp w hw]
  rintro ⟨_, c⟩
  unfold frs at c
  rw [if_neg (by omega)] at c
  simp at c
theorem StB.walk {bits : List Int} : ∀ (ps : List Int) {st : List Int}, StB n gs bits st → StB n gs bits (walk1 n gs st ps)
  | [], _, h => h
  | p :: ps, _, h => StB.walk ps (h.call p)
theorem StB.start {bits : List Int} (hl : bits.length = n) (hb : Bin bits) : StB n gs bits (begin1 gs bits) :=
  ⟨hl, hb, by rw [begin_len, hl], begin_bin hb, fun w hw => by unfold begin1; rw [gt_app_l (by omega)]⟩
/-- the end's own rule -/
theorem end_rule (N : NetOk n gs) {bits : List Int} (hl : bits.length = n) (hb : Bin bits) {w : Nat} (h1 : n ≤ w) (h2 : w < n + gs.length) :
    (gt (endIn gs bits) w = 0 ↔ ∃ o ∈ frs n gs w, gt (endIn gs bits) o.toNat = 1) ∧ ∀ o ∈ frs n gs w, 0 ≤ o ∧ o < (w : Int) := by
  have hi : w - n < gs.length := by omega
  have e : gs[w - n]? = some gs[w - n] := List.getElem?_eq_getElem hi
  have ef : frs n gs w = gs[w - n] := by
    unfold frs
    rw [if_pos (by omega), List.getD_eq_getElem?_getD, show ((w : Int) - (n : Int)).toNat = w - n by omega, e]
    rfl
  have rg := N.rg _ _ e
  have g := end_gate gs bits (w - n) _ e fun o ho => by
    have := rg o ho
    rw [hl]
    exact this
  rw [hl, show n + (w - n) = w by omega] at g
  rw [ef]
  refine ⟨?_, fun o ho => by have := rg o ho; omega⟩
  show gt (gs.foldl endStep bits) w = 0 ↔ ∃ o ∈ gs[w - n], gt (gs.foldl endStep bits) o.toNat = 1
  rw [g]
  unfold bitOf
  constructor
  · intro h
    split at h
    · rename_i c
      obtain ⟨o, ho, hc⟩ := List.any_eq_true.mp c
      exact ⟨o, ho, of_decide_eq_true hc⟩
    · cases h
  · rintro ⟨o, ho, hc⟩
    rw [if_pos (List.any_eq_true.mpr ⟨o, ho, decide_eq_true hc⟩)]
theorem end_inp {bits : List Int} (hl : bits.length = n) {w : Nat} (h : w < n) : gt (endIn gs bits) w = gt bits w := end_pre gs bits w (by omega)
def first (k : Nat) : List Int := (List.range k).map fun (i : Nat) => (i : Int)
theorem first_succ (k : Nat) : first (k + 1) = first k ++ [(k : Int)] := by unfold first; rw [List.range_succ, List.map_append]; rfl
/-- behind the calls of the k tallest -/
structure Upto (n : Nat) (gs : List (List Int)) (bits st : List Int) (k : Nat) : Prop where
  b : StB n gs bits st
  keep : ∀ w, gt (endIn gs bits) w ≤ gt st w
  done : ∀ w : Nat, ∀ o ∈ frs n gs w, 0 ≤ o → o < (k : Int) → gt (endIn gs bits) o.toNat = 1 → gt st w = 0
theorem Upto.same (N : NetOk n gs) {bits st : List Int} {k : Nat} (h : Upto n gs bits st k) {w : Nat} (hw : w ≤ k) (hw2 : w < n + gs.length) : gt st w = gt (endIn gs bits) w := by
  by_cases hn : w < n
  · rw [h.b.inp w hn, end_inp h.b.bl hn]
  · obtain ⟨r1, r2⟩ := end_rule N h.b.bl h.b.bb (show n ≤ w by omega) hw2
    have hk := h.keep w
    rcases end_bin gs h.b.bb w with e | e
    · have e : gt (endIn gs bits) w = 0 := e
      obtain ⟨o, ho, hc⟩ := r1.mp e
      have := r2 o ho
      rw [e, h.done w o ho this.1 (by omega) hc]
    · have e : gt (endIn gs bits) w = 1 := e
      rcases h.b.bin w with q | q <;> omega
theorem frs_in (N : NetOk n gs) {w : Nat} {o : Int} (h : o ∈ frs n gs w) : n ≤ w ∧ w < n + gs.length := by
  unfold frs at h
  split at h
  · rename_i c
    rw [List.getD_eq_getElem?_getD] at h
    cases e : gs[((w : Int) - (n : Int)).toNat]? with
    | none => rw [e] at h; cases h
    | some near =>
      have := (List.getElem?_eq_some_iff.mp e).1
      omega
  · cases h
theorem Upto.next (N : NetOk n gs) {bits st : List Int} {k : Nat} (h : Upto n gs bits st k) (hk : k < n + gs.length) : Upto n gs bits (call1 n gs st k) (k + 1) := by
  have same := h.same N (Nat.le_refl k) hk
  refine ⟨h.b.call _, fun w => ?_, fun w o ho h0 h1 hc => ?_⟩
  · rw [call1_gt, Int.toNat_natCast]
    split
    · rename_i c
      have ho : (k : Int) ∈ frs n gs w := by simpa using c.2
      obtain ⟨a1, a2⟩ := frs_in N ho
      have r := (end_rule N h.b.bl h.b.bb a1 a2).1
      rw [r.mpr ⟨_, ho, ?_⟩]
      · exact Int.le_refl _
      · rw [Int.toNat_natCast, ← same]
        rcases h.b.bin k with e | e
        · exact absurd e c.1
        · exact e
    · exact h.keep w
  · rw [call1_gt, Int.toNat_natCast]
    by_cases e : o = (k : Int)
    · subst e
      rw [Int.toNat_natCast, ← same] at hc
      rw [if_pos ⟨by omega, by simpa using ho⟩]
    · rw [h.done w o ho h0 (by omega) hc]
      split <;> rfl
theorem Upto.walk (N : NetOk n gs) {bits st : List Int} (h : Upto n gs bits st 0) : ∀ k, k ≤ n + gs.length → Upto n gs bits (walk1 n gs st (first k)) k
  | 0, _ => h
  | k + 1, hk => by
    rw [first_succ, walk1_one]
    exact (Upto.walk N h k (by omega)).next N (by omega)
theorem upto0 {bits st : List Int} (b : StB n gs bits st) (h : lost1 st (endIn gs bits) = false) : Upto n gs bits st 0 := by
  refine ⟨b, fun w => ?_, fun w o ho h0 h1 => absurd h1 (by omega)⟩
  by_cases q : gt st w < gt (endIn gs bits) w
  · have := (lost1_iff (st := st) (e := endIn gs bits) (by rw [b.len, endIn_len, b.bl])).mpr ⟨w, q⟩
    rw [h] at this
    cases this
  · omega
theorem Upto.notLost {bits st : List Int} {k : Nat} (h : Upto n gs bits st k) : lost1 st (endIn gs bits) = false := by
  cases q : lost1 st (endIn gs bits) with
  | false => rfl
  | true =>
    obtain ⟨w, hw⟩ := (lost1_iff (by rw [h.b.len, endIn_len, h.b.bl])).mp q
    have := h.keep w
    omega
theorem reach1 (N : NetOk n gs) {bits st : List Int} (b : StB n gs bits st) (h : lost1 st (endIn gs bits) = false) : walk1 n gs st (first (n + gs.length)) = endIn gs bits := by
  have u := (upto0 b h).walk N _ (Nat.le_refl _)
  refine ext_gt (by rw [walk1_len, b.len, endIn_len, b.bl]) fun i hi => ?_
  rw [walk1_len, b.len] at hi
  exact u.same N (by omega) hi
end

/-! ### all inputs at once -/
theorem allB_ok : ∀ (n : Nat), ∀ b ∈ allB n, b.length = n ∧ Bin b
  | 0, b, h => by
    have e : b = [] := by simpa [allB] using h
    subst e
    exact ⟨rfl, fun i => .inl (gt_ge (by simp))⟩
  | n + 1, b, h => by
    unfold allB at h
    obtain ⟨c, hc, hb⟩ := List.mem_flatMap.mp h
    obtain ⟨h1, h2⟩ := allB_ok n c hc
    rcases List.mem_cons.mp hb with e | hb
    · subst e
      exact ⟨by rw [List.length_append, h1]; rfl, bin_append h2 (bin_one (.inl rfl))⟩
    · have e : b = c ++ [1] := by simpa using hb
      subst e
      exact ⟨by rw [List.length_append, h1]; rfl, bin_append h2 (bin_one (.inr rfl))⟩
theorem allB_len : ∀ n : Nat, (allB n).length = 2 ^ n
  | 0 => rfl
  | n + 1 => by
    have h : ∀ l : List (List Int), (l.flatMap fun b => [b ++ [0], b ++ [1]]).length = 2 * l.length := fun l => by
      induction l with
      | nil => rfl
      | cons a l ih => rw [List.flatMap_cons, List.length_append, ih, List.length_cons]; simp; omega
    unfold allB
    rw [h, allB_len n, Nat.pow_succ]
    omega
section
variable {n : Nat} {gs : List (List Int)}
/-- the standings behind a row, for all inputs -/
def wk (n : Nat) (gs : List (List Int)) (row : List Int) : List (List Int) := (allB n).map fun b => walk1 n gs (begin1 gs b) row
theorem wk_nil : wk n gs [] = begins n gs := rfl
theorem wk_call (row : List Int) (p : Int) : callA n gs (wk n gs row) p = wk n gs (row ++ [p]) := by
  unfold callA wk
  rw [List.map_map]
  refine List.map_congr_left fun b _ => ?_
  show call1 n gs (walk1 n gs (begin1 gs b) row) p = _
  rw [walk1_one]
theorem walkA_wk : ∀ (ps row : List Int), walkA n gs (wk n gs row) ps = wk n gs (row ++ ps)
  | [], row => by rw [List.append_nil]; rfl
  | p :: ps, row => by
    show walkA n gs (callA n gs (wk n gs row) p) ps = _
    rw [wk_call, walkA_wk ps, List.append_assoc]
    rfl
theorem walk_begins (ps : List Int) : walkA n gs (begins n gs) ps = wk n gs ps := by
  rw [← wk_nil, walkA_wk]
  rfl
theorem lost_wk (row : List Int) : lost (wk n gs row) (goal n gs) = (allB n).any fun b => lost1 (walk1 n gs (begin1 gs b) row) (endIn gs b) := by
  unfold lost wk goal
  rw [List.zip_map', List.any_map]
  rfl
theorem wk_len (row : List Int) : (wk n gs row).length = 2 ^ n := by unfold wk; rw [List.length_map, allB_len]
theorem wk_st {row st : List Int} (h : st ∈ wk n gs row) : st.length = n + gs.length ∧ Bin st := by
  obtain ⟨b, hb, e⟩ := List.mem_map.mp h
  subst e
  obtain ⟨h1, h2⟩ := allB_ok n b hb
  have := (StB.start (gs := gs) h1 h2).walk (n := n) row
  exact ⟨this.len, this.bin⟩
theorem lost_mono (row : List Int) (ps : List Int) (h : lost (wk n gs row) (goal n gs) = true) : lost (wk n gs (row ++ ps)) (goal n gs) = true := by
  rw [lost_wk] at h ⊢
  obtain ⟨b, hb, q⟩ := List.any_eq_true.mp h
  obtain ⟨h1, h2⟩ := allB_ok n b hb
  refine List.any_eq_true.mpr ⟨b, hb, ?_⟩
  rw [walk1_app]
  have s := (StB.start (gs := gs) h1 h2).walk (n := n) row
  exact lost1_walk ps (by rw [s.len, endIn_len, h1]) s.bin q
theorem goal_not_lost : lost (goal n gs) (goal n gs) = false := by
  unfold lost goal
  rw [List.zip_map', List.any_map]
  cases h : (allB n).any ((fun q => lost1 q.fst q.snd) ∘ fun x => (endIn gs x, endIn gs x)) with
  | false => rfl
  | true =>
    obtain ⟨b, hb, q⟩ := List.any_eq_true.mp h
    have q : lost1 (endIn gs b) (endIn gs b) = true := q
    rw [not_lost_self] at q
    cases q
theorem begin_not_lost (N : NetOk n gs) : lost (wk n gs []) (goal n gs) = false := by
  rw [lost_wk]
  cases h : (allB n).any (fun b => lost1 (walk1 n gs (begin1 gs b) []) (endIn gs b)) with
  | false => rfl
  | true =>
    obtain ⟨b, hb, q⟩ := List.any_eq_true.mp h
    obtain ⟨h1, h2⟩ := allB_ok n b hb
    have q : lost1 (begin1 gs b) (endIn gs b) = true := q
    obtain ⟨w, hw⟩ := (lost1_iff (by rw [begin_len, endIn_len])).mp q
    exfalso
    by_cases c : w < n
    · rw [end_inp h1 c] at hw
      unfold begin1 at hw
      rw [gt_app_l (by omega)] at hw
      omega
    · by_cases c2 : w < n + gs.length
      · have e : gt (begin1 gs b) w = 1 := by
          unfold begin1
          rw [show w = b.length + (w - n) by omega, gt_app_r, gt_lt (by rw [List.length_replicate]; omega), List.getElem_replicate]
        rcases end_bin gs h2 w with q | q
        · have q : gt (endIn gs b) w = 0 := q
          omega
        · have q : gt (endIn gs b) w = 1 := q
          omega
      · rw [gt_ge (by rw [begin_len]; omega), gt_ge (by rw [endIn_len]; omega)] at hw
        omega
/-- from a row that has lost nobody, all called, the tallest first, end right; nobody is lost on the way -/
theorem reach (N : NetOk n gs) (row : List Int) (h : lost (wk n gs row) (goal n gs) = false) : wk n gs (row ++ first (n + gs.length)) = goal n gs := by
  unfold wk goal
  refine List.map_congr_left fun b hb => ?_
  obtain ⟨h1, h2⟩ := allB_ok n b hb
  rw [walk1_app]
  refine reach1 N ((StB.start h1 h2).walk row) ?_
  rw [lost_wk] at h
  exact Bool.eq_false_iff.mpr (fun q => by
    have := List.any_eq_false.mp h b hb
    exact this q)
/-- a person called already, or the last one, changes nothing -/
theorem still (N : NetOk n gs) {row : List Int} {p : Int} (h : p ∈ row ∨ p = ((n + gs.length : Nat) : Int) - 1) : wk n gs (row ++ [p]) = wk n gs row := by
  unfold wk
  refine List.map_congr_left fun b hb => ?_
  rw [walk1_one]
  rcases h with h | h
  · exact calm_eq (calm_in h)
  · exact calm_eq (calm_last N h)
end
end SGM
set_option Elab.async false
set_option linter.all false
set_option maxRecDepth 100000
set_option maxHeartbeats 4000000
/-! Part E2: friends, bits, ends, calls, lost ones. -/
namespace SG
open PySem PySem.Spec PyProof.Rows L2 SGM
theorem dss_end {X : Cx} {ρ ρ1 : Rho} {rest : List Stmt} (i : Nat) (h : DSs X rest ρ (.nx ρ1)) : DSs X rest ρ (.nx (ρ1.set i none)) := dss_post h fun _ _ _ _ _ es => ⟨_, es.drop⟩
theorem atI_map {α : Type} {xs : List α} {f : α → PyData} {i : Nat} {x : α} {k : Int} (hk : k = (i : Int)) (h : xs[i]? = some x) : atI (xs.map f) k = some (f x) := atI_of hk (by rw [List.getElem?_map, h]; rfl)
def GFrs (xs : List PyData) (z : PyData) : Prop := ∃ n gs p, xs = [encNet n gs, .int p] ∧ p < ((n + gs.length : Nat) : Int) ∧ z = encR (SGM.frs n gs p)
def GBegin (xs : List PyData) (z : PyData) : Prop := ∃ n gs b, xs = [encNet n gs, encR b] ∧ b.length + gs.length ≤ 1000 ∧ z = encR (begin1 gs b)
def GStand (xs : List PyData) (z : PyData) : Prop := ∃ n gs b, xs = [encNet n gs, encR b] ∧ NetOk n gs ∧ b.length = n ∧ z = encR (endIn gs b)
def GBits (xs : List PyData) (z : PyData) : Prop := ∃ n : Nat, xs = [.int n] ∧ n ≤ 3 ∧ z = .list ((SGM.allB n).map encR)
def GCall (xs : List PyData) (z : PyData) : Prop := ∃ n gs st p, xs = [encNet n gs, encR st, .int p] ∧ n + gs.length ≤ 1000 ∧ st.length = n + gs.length ∧ 0 ≤ p ∧ p < ((n + gs.length : Nat) : Int) ∧ z = encR (call1 n gs st p)
theorem rise_len : ∀ {l : List Int} {a b : Int}, l.Pairwise (· < ·) → (∀ o ∈ l, a ≤ o ∧ o < b) → l.length ≤ (b - a).toNat
  | [], _, _, _, _ => Nat.zero_le _
  | x :: l, a, b, h, r => by
    obtain ⟨h1, h2⟩ := List.pairwise_cons.mp h
    have rx := r x (by simp)
    have := rise_len (a := x + 1) (b := b) h2 fun o ho => ⟨h1 o ho, (r o (List.mem_cons_of_mem _ ho)).2⟩
    rw [List.length_cons]
    omega
theorem allB_enc (k : Nat) : (SGM.allB (k + 1)).map encR = (SGM.allB k).flatMap fun b => [0, 1].map fun x => encR (b ++ [x]) := by
  show ((SGM.allB k).flatMap fun b => [b ++ [0], b ++ [1]]).map encR = _
  rw [List.map_flatMap]
  rfl
def GBegins (xs : List PyData) (z : PyData) : Prop := ∃ n gs, xs = [encNet n gs] ∧ NetOk n gs ∧ z = encS (begins n gs)
def GGoal (xs : List PyData) (z : PyData) : Prop := ∃ n gs, xs = [encNet n gs] ∧ NetOk n gs ∧ z = encS (goal n gs)
def GAll (xs : List PyData) (z : PyData) : Prop := ∃ n gs s p, xs = [encNet n gs, encS s, .int p] ∧ n + gs.length ≤ 1000 ∧ s.length ≤ 1000 ∧ (∀ st ∈ s, st.length = n + gs.length) ∧ 0 ≤ p ∧ p < ((n + gs.length : Nat) : Int) ∧ z = encS (callA n gs s p)
def GLost (xs : List PyData) (z : PyData) : Prop := ∃ s g : S, xs = [encS s, encS g] ∧ s.length ≤ 1000 ∧ (∀ st ∈ s, st.length ≤ 1000) ∧ z = .bool (lost s g)
theorem allB_le {n : Nat} (h : n ≤ 3) : (SGM.allB n).length ≤ 90000 := by
  rw [allB_len]
  have : 2 ^ n ≤ 2 ^ 3 := Nat.pow_le_pow_right (by decide) h
  omega
theorem zip_enc {α β : Type} {f : α → PyData} {g : β → PyData} (xs : List α) (ys : List β) : zipD (xs.map f) (ys.map g) = (xs.zip ys).map fun q => .tuple [f q.1, g q.2] := by
  unfold zipD
  rw [List.zip_map, List.map_map]
  rfl
section
variable {X : Cx} {ρ : Rho} {c : Expr} {sa sb rest : List Stmt} {x : PyData} {out : Out} {pos : Pos}
theorem dss_ifT (hc : DT X c ρ true) (ha : DSs X sa ρ (.rt x)) : DSs X (.If c sa sb pos :: rest) ρ (.rt x) := dss_rtN (ds_if hc (fun _ => ha) (fun t => nomatch t))
theorem dss_ifF (hc : DT X c ρ false) (h : DSs X rest ρ out) : DSs X (.If c sa [] pos :: rest) ρ out := dss_cons (ds_ifF hc dss_nil) h
/-- [elt for x, y in iter] -/
theorem do_lcP {elt iter : Expr} {scope : Scope} {α β : Type} {ts : List (α × β)} {e1 : α → PyData} {e2 : β → PyData} (i j : Nat) {n1 n2 : Str} {p1 p2 pt : Pos} {k : Nat} (g : α × β → PyData) (hc : X.calm = true) (hN : X.N.Nodup) (hi : DI X (.Tuple [.Name n1 p1, .Name n2 p2] k pt) iter ρ (ts.map fun q => .tuple [e1 q.1, e2 q.2])) (ok : BlkOk X.N X.env.scope scope [(n1, i), (n2, j)])
    (hx : ∀ (s : Shared) (H : Hp) (C : Addr) (cl : List (Str × Addr)) (fp : List Addr), DG (X.blk s H scope (compEnvC scope cl C X.env) fp) (.Tuple [.Name n1 p1, .Name n2 p2] k pt) (tgP i j) [i, j])
    (he : ∀ (s : Shared) (H : Hp) (C : Addr) (cl : List (Str × Addr)) (fp : List Addr), ∀ t ∈ ts, DE (X.blk s H scope (compEnvC scope cl C X.env) fp) elt ((((ρ.set j none).set i none).set i (some (.d (e1 t.1)))).set j (some (.d (e2 t.2)))) (g t))
    (hz : ts.length ≤ 90000) (hs : ∀ x, foldedSetIterable iter X.env x = pure x := by intro _; rfl) : DO X (.ListComp elt [⟨.Tuple [.Name n1 p1, .Name n2 p2] k pt, iter, [], 0⟩] scope pos) ρ (.l (ts.map g)) := by
  have B : LcBlk X ρ elt (.Tuple [.Name n1 p1, .Name n2 p2] k pt) [] scope [(n1, i), (n2, j)] ts (fun q => .tuple [e1 q.1, e2 q.2]) (fun _ => true) g (tgP i j) [i, j] (fun t ρ => (ρ.set i (some (.d (e1 t.1)))).set j (some (.d (e2 t.2)))) :=
    ⟨hx, fun j hj => by simpa using hj, fun t _ => ⟨e1 t.1, e2 t.2, rfl, rfl⟩, fun s H C cl fp t _ => dts_nil, fun s H C cl fp t ht _ => he s H C cl fp t ht⟩
  have h := do_lc hc hN hi ok B hz hs (pos := pos)
  rw [show ts.filter (fun _ => true) = ts from List.filter_eq_self.mpr fun _ _ => rfl] at h
  exact h
end
section
variable {P : Program} {w : World} {K : PySem.W.Frag} {mg : Str → Option Value} {base : Heap}
theorem w_friends_in (B : BI mg) (D : DefAt K mg "friends_in" (topS 15) ["net", "person"]) : Callee P w K mg base "friends_in" 1 ["net", "person"] GFrs :=
  callee_of D fun f fd F => fn_ok F (N := ["net", "person"]) ⟨rfl, rfl, rfl, by decide +kernel, rfl, by decide +kernel, by decide +kernel⟩ (fun xs z h => by obtain ⟨n, gs, p, rfl, _⟩ := h; rfl) fun cdv A outer s H E hr xs z h => by
    obtain ⟨n, gs, p, rfl, hp, rfl⟩ := h
    refine dss_one (ds_ret (de_if (dt_ge (de_var 1 rfl) (de_at (de_var 0 rfl) de_int rfl (fun _ _ => rfl))) (fun t => ?_) (fun t => ?_)))
    · have t : (n : Int) ≤ p := of_decide_eq_true t
      have hi : (p - n).toNat < gs.length := by omega
      refine de_at (de_at (de_var 0 rfl) de_int rfl (fun _ _ => rfl)) (de_sub (de_var 1 rfl) (de_at (de_var 0 rfl) de_int rfl (fun _ _ => rfl))) (atI_map (i := (p - n).toNat) (by omega) ?_) (fun _ _ => rfl)
      unfold SGM.frs
      rw [if_pos t, List.getD_eq_getElem?_getD, List.getElem?_eq_getElem hi]
      rfl
    · have t : ¬ (n : Int) ≤ p := of_decide_eq_false t
      have e : encR (SGM.frs n gs p) = .tuple [] := by unfold SGM.frs; rw [if_neg t]; rfl
      rw [e]
      exact de_tup da_nil (by decide)
theorem w_begin (B : BI mg) (D : DefAt K mg "begin" (topS 22) ["net", "bits"]) : Callee P w K mg base "begin" 1 ["net", "bits"] GBegin :=
  callee_of D fun f fd F => fn_ok F (N := ["net", "bits"]) ⟨rfl, rfl, rfl, by decide +kernel, rfl, by decide +kernel, by decide +kernel⟩ (fun xs z h => by obtain ⟨n, gs, p, rfl, _⟩ := h; rfl) fun cdv A outer s H E hr xs z h => by
    obtain ⟨n, gs, b, rfl, hl, rfl⟩ := h
    have e1 : (List.replicate ((gs.map encR).length : Int).toNat [PyData.int 1]).flatten = (List.replicate gs.length 1).map .int := by
      rw [List.length_map, Int.toNat_natCast, List.flatten_replicate_singleton, List.map_replicate]
    refine dss_one (ds_ret (de_is (de_catT (de_tupT rfl B.tuple (de_var 1 rfl)) (de_op op_rep3 (pure_rep3 (by simp) (by omega) (by rw [List.length_map]; omega) (by decide)) (de_tup (da_cons de_int da_nil) (by decide)) (de_len rfl B.len (de_at (de_var 0 rfl) de_int rfl (fun _ _ => rfl)))) ?_) ?_))
    · rw [e1, List.length_map, List.length_map, List.length_replicate]
      omega
    · rw [e1, ← List.map_append]
      rfl
theorem w_all_bits (B : BI mg) (D : DefAt K mg "all_bits" (topS 16) ["inputs"]) : Callee P w K mg base "all_bits" 1 ["inputs"] GBits :=
  callee_of D fun f fd F => fn_ok F (N := ["inputs", "found", "turn", "bits", "bit"]) ⟨rfl, rfl, rfl, by decide +kernel, rfl, by decide +kernel, by decide +kernel⟩ (fun xs z h => by obtain ⟨n, rfl, _⟩ := h; rfl) fun cdv A outer s H E hr xs z h => by
    obtain ⟨n, rfl, hn, rfl⟩ := h
    refine dss_cons (ds_setO 1 (nodup_of (by kernel_rfl)) rfl (Or.inl rfl) (do_lst (da_cons (de_tup da_nil (by decide)) da_nil) (by decide)) trivial) ?_
    refine dss_freeze 1 rfl (dss_cons (ds_forN (ts := List.range n) (enc := fun (i : Nat) => PyData.int i) (fs := fun (i : Nat) ρ => ρ.set 2 (some (.d (.int i)))) (fun k => [some (.d (.int n)), some (.d (.list ((SGM.allB k).map encR))), none, none, none]) rfl PassesOwn.never rfl (di_range rfl B.range (de_var 0 rfl) (by omega)) (dg_name 2 (nodup_of (by kernel_rfl)) rfl (Or.inl rfl)) (fun _ _ => rfl) (fun k t ht => ?_)) ?_)
    · have hk : k < n := by
        have := (List.getElem?_eq_some_iff.mp ht).1
        rwa [List.length_range] at this
      have hlen : (SGM.allB k).length * 2 ≤ 90000 := by
        rw [allB_len]
        have : 2 ^ k ≤ 2 ^ 3 := Nat.pow_le_pow_right (by decide) (by omega)
        omega
      refine dss_end 2 (dss_post (dss_one (ds_setLc2 (ts := allB k) (us := [0, 1]) (enc := encR) (enc1 := PyData.int) (g := fun b x => encR (b ++ [x])) (fs := fun b ρ => ρ.set 3 (some (.d (encR b)))) (fs1 := fun (x : Int) ρ => ρ.set 4 (some (.d (.int x)))) (own := [("bits", 3), ("bit", 4)]) (vs1 := [4]) 1 rfl (nodup_of (by kernel_rfl)) rfl rfl rfl (di_list (de_var 1 rfl)) (blk_of (by kernel_rfl)) (by decide)
        (fun _ _ _ _ _ => dg_name 3 (nodup_of (by kernel_rfl)) rfl (Or.inl rfl)) (by decide) (fun _ _ => rfl)
        (fun _ _ _ _ _ t ht => di_tup (de_tup (da_cons de_int (da_cons de_int da_nil)) (by decide))) (fun _ _ _ _ _ => dg_name 4 (nodup_of (by kernel_rfl)) rfl (Or.inl rfl)) (by decide) (fun _ _ => rfl)
        (fun _ _ _ _ _ t ht u hu => de_is (de_tup (da_star (de_var 3 rfl) (da_cons (de_var 4 rfl) da_nil)) ?_) ?_) hlen)) fun _ _ _ _ _ es => es.freeze (i := 1) (by rw [allB_enc]; rfl))
      · simp only [List.length_append, List.length_map, List.length_cons, List.length_nil]
        have := (allB_ok k t ht).1
        omega
      · show PyData.tuple (t.map PyData.int ++ [PyData.int u]) = PyData.tuple ((t ++ [u]).map .int)
        rw [List.map_append]
        rfl
    · exact dss_one (ds_ret (by rw [List.length_range]; exact (de_var 1 rfl)))
theorem w_standing_in (B : BI mg) (D : DefAt K mg "standing_in" (topS 18) ["net", "bits"]) : Callee P w K mg base "standing_in" 1 ["net", "bits"] GStand :=
  callee_of D fun f fd F => fn_ok F (N := ["net", "bits", "found", "near", "other"]) ⟨rfl, rfl, rfl, by decide +kernel, rfl, by decide +kernel, by decide +kernel⟩ (fun xs z h => by obtain ⟨n, gs, b, rfl, _⟩ := h; rfl) fun cdv A outer s H E hr xs z h => by
    obtain ⟨n, gs, b, rfl, N, hb, rfl⟩ := h
    refine dss_cons (ds_setO 2 (nodup_of (by kernel_rfl)) rfl (Or.inr rfl) (do_list rfl B.list PyProof.Rows.boot_list (de_var 1 rfl)) trivial) ?_
    refine dss_cons (ds_forN (ts := gs) (enc := encR) (fs := fun g ρ => ρ.set 3 (some (.d (encR g)))) (fun k => [some (.d (encNet n gs)), some (.d (encR b)), some (.l ((endIn (gs.take k) b).map .int)), none, none]) rfl PassesOwn.never rfl (di_tup (de_at (de_var 0 rfl) de_int rfl (fun _ _ => rfl))) (dg_name 3 (nodup_of (by kernel_rfl)) rfl (Or.inl rfl)) (fun _ _ => rfl) (fun k near hk => ?_)) (dss_one (ds_ret (by rw [List.take_length]; exact de_tupleV rfl B.tuple PyProof.Rows.boot_tuple (dv_var 2 rfl))))
    have hkl := (List.getElem?_eq_some_iff.mp hk).1
    have el : (endIn (gs.take k) b).length = n + k := by rw [endIn_len, hb, List.length_take]; omega
    have es : (endIn (gs.take (k + 1)) b).map PyData.int = (endIn (gs.take k) b).map .int ++ [.int (bitOf (near.any fun o => decide (gt (endIn (gs.take k) b) o.toNat = 1)))] := by
      unfold endIn
      rw [List.take_add_one, hk, List.foldl_append]
      show (endStep _ near).map PyData.int = _
      unfold endStep
      rw [List.map_append]
      rfl
    have post : ∀ HB L0 L σ H, ES P w K HB L0 L σ H [some (.d (encNet n gs)), some (.d (encR b)), some (.l ((endIn (gs.take k) b).map .int ++ [.int (bitOf (near.any fun o => decide (gt (endIn (gs.take k) b) o.toNat = 1)))])), some (.d (encR near)), none] → ∃ L', ES P w K HB L0 L' σ H [some (.d (encNet n gs)), some (.d (encR b)), some (.l ((endIn (gs.take (k + 1)) b).map .int)), none, none] := fun _ _ _ _ _ es' => ⟨_, by rw [es]; exact es'.drop (i := 3)⟩
    refine dss_post (dss_one (ds_append 2 (dv_var 2 rfl) rfl (de_if (t := near.any fun o => decide (gt (endIn (gs.take k) b) o.toNat = 1)) (dt_val (de_any rfl rfl B.any (do_lcN 4 (enc := PyData.int) (ts := near) (fun o => .bool (decide (gt (endIn (gs.take k) b) o.toNat = 1))) rfl (nodup_of (by kernel_rfl)) (di_tup (de_var 3 rfl)) (blk_of (by kernel_rfl)) (fun _ _ _ _ _ => dg_name 4 (nodup_of (by kernel_rfl)) rfl (Or.inl rfl)) (fun _ _ _ _ _ o ho => de_eqI hr (de_ixV (dv_var 2 rfl) (de_var 4 rfl) (atI_map (i := o.toNat) ?_ ?_) (fun _ _ => rfl)) de_int) ?_))) (fun t => de_is de_int ?_) (fun t => de_is de_int ?_)) ?_)) post
    · have := (N.rg k near hk o ho).1
      omega
    · have := N.rg k near hk o ho
      exact gt_some (by omega)
    · have := rise_len (a := 0) (b := ((n + k : Nat) : Int)) (N.up near (List.mem_of_getElem? hk)) (N.rg k near hk)
      have := N.n3
      have := N.g4
      omega
    · rw [t]; rfl
    · rw [t]; rfl
    · rw [List.length_map, el]
      have := N.n3
      have := N.g4
      omega
theorem w_call_in (B : BI mg) (D : DefAt K mg "call_in" (topS 23) ["net", "state", "person"]) (C1 : Callee P w K mg base "friends_in" 1 ["net", "person"] GFrs) : Callee P w K mg base "call_in" 2 ["net", "state", "person"] GCall :=
  callee_of D fun f fd F => fn_ok F (N := ["net", "state", "person", "who"]) ⟨rfl, rfl, rfl, by decide +kernel, rfl, by decide +kernel, by decide +kernel⟩ (fun xs z h => by obtain ⟨n, gs, b, p, rfl, _⟩ := h; rfl) fun cdv A outer s H E hr xs z h => by
    obtain ⟨n, gs, st, p, rfl, hz, hl, h0, h1, rfl⟩ := h
    have hp : st[p.toNat]? = some (gt st p.toNat) := gt_some (by omega)
    have hD : ∀ X : Cx, True := fun _ => trivial
    by_cases c : gt st p.toNat = 0
    · have e : call1 n gs st p = st := by unfold call1; rw [if_pos c]
      rw [e]
      exact dss_ifT (dt_is (dt_eqI hr (de_at (de_var 1 rfl) (de_var 2 rfl) (atI_map (i := p.toNat) (by omega) hp) (fun _ _ => rfl)) de_int) (decide_eq_true c)) (dss_one (ds_ret (de_var 1 rfl)))
    · refine dss_ifF (dt_is (dt_eqI hr (de_at (de_var 1 rfl) (de_var 2 rfl) (atI_map (i := p.toNat) (by omega) hp) (fun _ _ => rfl)) de_int) (decide_eq_false c)) (dss_one (ds_ret (de_is (de_tupL rfl B.tuple (de_new (do_lcN 3 (ts := List.range st.length) (enc := fun (i : Nat) => PyData.int i) (fun (w : Nat) => .int (if (SGM.frs n gs w).contains p then 0 else gt st w)) rfl (nodup_of (by kernel_rfl)) (di_range rfl B.range (de_is (de_len rfl B.len (de_var 1 rfl)) (by rw [List.length_map])) (by omega)) (blk_of (by kernel_rfl)) (fun _ _ _ _ _ => dg_name 3 (nodup_of (by kernel_rfl)) rfl (Or.inl rfl))
        (fun _ _ _ _ _ w hw => ?_) (by rw [List.length_range]; omega)))) ?_)))
      · have hw := List.mem_range.mp hw
        refine de_if (t := (SGM.frs n gs w).contains p) (dt_inT (de_var 2 rfl) (de_callC C1 hr rfl (da_cons (de_var 0 rfl) (da_cons (de_var 3 rfl) da_nil)) ⟨n, gs, w, rfl, by omega, rfl⟩)) (fun t => ?_) (fun t => ?_)
        · rw [if_pos t]; exact de_int
        · rw [if_neg (by rw [t]; decide)]
          exact de_at (de_var 1 rfl) (de_var 3 rfl) (atI_map (i := w) rfl (gt_some hw)) (fun _ _ => rfl)
      · unfold call1
        rw [if_neg c]
        show _ = PyData.tuple (((List.range st.length).map _).map .int)
        rw [List.map_map]
        rfl
theorem w_begins (B : BI mg) (D : DefAt K mg "begins" (topS 26) ["net"]) (C1 : Callee P w K mg base "begin" 1 ["net", "bits"] GBegin) (C2 : Callee P w K mg base "all_bits" 1 ["inputs"] GBits) : Callee P w K mg base "begins" 2 ["net"] GBegins :=
  callee_of D fun f fd F => fn_ok F (N := ["net", "bits"]) ⟨rfl, rfl, rfl, by decide +kernel, rfl, by decide +kernel, by decide +kernel⟩ (fun xs z h => by obtain ⟨n, gs, rfl, _⟩ := h; rfl) fun cdv A outer s H E hr xs z h => by
    obtain ⟨n, gs, rfl, N, rfl⟩ := h
    have n3 := N.n3
    have g4 := N.g4
    refine dss_one (ds_ret (de_is (de_tupL rfl B.tuple (de_new (do_lcN 1 (ts := SGM.allB n) (enc := encR) (fun b => encR (begin1 gs b)) rfl (nodup_of (by kernel_rfl)) (di_list (de_callC C2 hr rfl (da_cons (de_at (de_var 0 rfl) de_int rfl (fun _ _ => rfl)) da_nil) ⟨n, rfl, n3, rfl⟩)) (blk_of (by kernel_rfl)) (fun _ _ _ _ _ => dg_name 1 (nodup_of (by kernel_rfl)) rfl (Or.inl rfl))
      (fun _ _ _ _ _ b hb => de_callC C1 hr rfl (da_cons (de_var 0 rfl) (da_cons (de_var 1 rfl) da_nil)) ⟨n, gs, b, rfl, by have := (allB_ok n b hb).1; omega, rfl⟩) (allB_le n3)))) ?_))
    show _ = PyData.tuple (((SGM.allB n).map _).map encR)
    rw [List.map_map]
    rfl
theorem w_goal_of (B : BI mg) (D : DefAt K mg "goal_of" (topS 27) ["net"]) (C1 : Callee P w K mg base "standing_in" 1 ["net", "bits"] GStand) (C2 : Callee P w K mg base "all_bits" 1 ["inputs"] GBits) : Callee P w K mg base "goal_of" 2 ["net"] GGoal :=
  callee_of D fun f fd F => fn_ok F (N := ["net", "bits"]) ⟨rfl, rfl, rfl, by decide +kernel, rfl, by decide +kernel, by decide +kernel⟩ (fun xs z h => by obtain ⟨n, gs, rfl, _⟩ := h; rfl) fun cdv A outer s H E hr xs z h => by
    obtain ⟨n, gs, rfl, N, rfl⟩ := h
    have n3 := N.n3
    have g4 := N.g4
    refine dss_one (ds_ret (de_is (de_tupL rfl B.tuple (de_new (do_lcN 1 (ts := SGM.allB n) (enc := encR) (fun b => encR (endIn gs b)) rfl (nodup_of (by kernel_rfl)) (di_list (de_callC C2 hr rfl (da_cons (de_at (de_var 0 rfl) de_int rfl (fun _ _ => rfl)) da_nil) ⟨n, rfl, n3, rfl⟩)) (blk_of (by kernel_rfl)) (fun _ _ _ _ _ => dg_name 1 (nodup_of (by kernel_rfl)) rfl (Or.inl rfl))
      (fun _ _ _ _ _ b hb => de_callC C1 hr rfl (da_cons (de_var 0 rfl) (da_cons (de_var 1 rfl) da_nil)) ⟨n, gs, b, rfl, N, (allB_ok n b hb).1, rfl⟩) (allB_le n3)))) ?_))
    show _ = PyData.tuple (((SGM.allB n).map _).map encR)
    rw [List.map_map]
    rfl
theorem w_all_call (B : BI mg) (D : DefAt K mg "all_call" (topS 28) ["net", "states", "person"]) (C1 : Callee P w K mg base "call_in" 2 ["net", "state", "person"] GCall) : Callee P w K mg base "all_call" 3 ["net", "states", "person"] GAll :=
  callee_of D fun f fd F => fn_ok F (N := ["net", "states", "person", "state"]) ⟨rfl, rfl, rfl, by decide +kernel, rfl, by decide +kernel, by decide +kernel⟩ (fun xs z h => by obtain ⟨n, gs, s, p, rfl, _⟩ := h; rfl) fun cdv A outer s H E hr xs z h => by
    obtain ⟨n, gs, st, p, rfl, hn, hz, hl, h0, h1, rfl⟩ := h
    refine dss_one (ds_ret (de_is (de_tupL rfl B.tuple (de_new (do_lcN 3 (ts := st) (enc := encR) (fun b => encR (call1 n gs b p)) rfl (nodup_of (by kernel_rfl)) (di_tup (de_var 1 rfl)) (blk_of (by kernel_rfl)) (fun _ _ _ _ _ => dg_name 3 (nodup_of (by kernel_rfl)) rfl (Or.inl rfl))
      (fun _ _ _ _ _ b hb => de_callC C1 hr rfl (da_cons (de_var 0 rfl) (da_cons (de_var 3 rfl) (da_cons (de_var 2 rfl) da_nil))) ⟨n, gs, b, p, rfl, hn, hl b hb, h0, h1, rfl⟩) (by omega)))) ?_))
    show _ = PyData.tuple ((st.map _).map encR)
    rw [List.map_map]
    rfl
theorem w_is_lost (B : BI mg) (D : DefAt K mg "is_lost" (topS 29) ["states", "goal"]) : Callee P w K mg base "is_lost" 1 ["states", "goal"] GLost :=
  callee_of D fun f fd F => fn_ok F (N := ["states", "goal", "state", "end", "one", "other"]) ⟨rfl, rfl, rfl, by decide +kernel, rfl, by decide +kernel, by decide +kernel⟩ (fun xs z h => by obtain ⟨s, g, rfl, _⟩ := h; rfl) fun cdv A outer s H E hr xs z h => by
    obtain ⟨st, g, rfl, hz, hl, rfl⟩ := h
    refine dss_one (ds_ret (de_any rfl rfl B.any (do_lcP 2 3 (ts := st.zip g) (e1 := encR) (e2 := encR) (fun q => .bool (lost1 q.1 q.2)) rfl (nodup_of (by kernel_rfl)) (zip_enc st g ▸ di_zip rfl B.zip (de_var 0 rfl) (de_var 1 rfl)) (blk_of (by kernel_rfl)) (fun _ _ _ _ _ => dg_pair 2 3 rfl (nodup_of (by kernel_rfl)) rfl (Or.inl rfl) rfl (Or.inl rfl)) (fun _ _ _ _ _ q hq => ?_) ?_)))
    · refine de_any rfl rfl B.any (do_lcP 4 5 (ts := q.1.zip q.2) (e1 := PyData.int) (e2 := PyData.int) (fun q => .bool (decide (q.1 < q.2))) rfl (nodup_of (by kernel_rfl)) (zip_enc q.1 q.2 ▸ di_zip rfl B.zip (de_var 2 rfl) (de_var 3 rfl)) (blk_of (by kernel_rfl)) (fun _ _ _ _ _ => dg_pair 4 5 rfl (nodup_of (by kernel_rfl)) rfl (Or.inl rfl) rfl (Or.inl rfl)) (fun _ _ _ _ _ r hr => de_lt (de_var 4 rfl) (de_var 5 rfl)) ?_)
      have := hl q.1 (List.of_mem_zip hq).1
      rw [List.length_zip]
      omega
    · rw [List.length_zip]
      omega
end
end SG
set_option Elab.async false
set_option linter.all false
set_option maxRecDepth 100000
set_option maxHeartbeats 4000000
/-! Part E3: need_net, need_calls, walked, needless_calls, same_rows. -/
namespace SG
open PySem PySem.Spec PyProof.Rows L2 SGM
/-- the numbers that stand at the top -/
structure CI (mg : Str → Option Value) : Prop where
  inputs : ∃ t, mg "MOST_INPUTS" = some (.int 3 t)
  gates : ∃ t, mg "MOST_GATES" = some (.int 8 t)
  calls : ∃ t, mg "MOST_CALLS" = some (.int 30 t)
  states : ∃ t, mg "MOST_STATES" = some (.int 5000 t)
theorem dt_w {X : Cx} {ρ : Rho} {e : Expr} {b : Bool} (h : DW X e ρ b) : DT X e ρ b := h.pt
theorem de_cst {X : Cx} {ρ : Rho} {nm : Str} {i : Int} {pos : Pos} (hg : Gl X nm) (h : ∃ t, X.mg nm = some (.int i t)) (hd : (nm == ("__debug__" : Str)) = false := by decide) : DE X (.Name nm pos) ρ (.int i) :=
  let ⟨t, h⟩ := h
  de_glob hg h ⟨t, rfl⟩ hd
def Sub : Rho → Rho → Prop
  | [], [] => True
  | none :: a, _ :: b => Sub a b
  | some s :: a, x :: b => x = some s ∧ Sub a b
  | _, _ => False
theorem Sub.len : ∀ {a b : Rho}, Sub a b → a.length = b.length
  | [], [], _ => rfl
  | none :: a, _ :: b, h => by rw [List.length_cons, List.length_cons, Sub.len (a := a) (b := b) h]
  | some s :: a, x :: b, h => by rw [List.length_cons, List.length_cons, Sub.len h.2]
  | [], _ :: _, h => h.elim
  | none :: _, [], h => h.elim
  | some _ :: _, [], h => h.elim
theorem Sub.get : ∀ {a b : Rho}, Sub a b → ∀ (i : Nat) (s : Slot), a[i]? = some (some s) → b[i]? = some (some s)
  | [], [], _, i, s, h => by simp at h
  | none :: a, x :: b, h, 0, s, e => by simp at e
  | none :: a, x :: b, h, i + 1, s, e => Sub.get (a := a) (b := b) h i s e
  | some t :: a, x :: b, h, 0, s, e => by
    have e : some t = some s := Option.some.inj e
    rw [h.1, e]
    rfl
  | some t :: a, x :: b, h, i + 1, s, e => Sub.get h.2 i s e
  | [], _ :: _, h, _, _, _ => h.elim
  | none :: _, [], h, _, _, _ => h.elim
  | some _ :: _, [], h, _, _, _ => h.elim
/-- what is known at the end, less some of it -/
theorem dss_keep {X : Cx} {ρ ρ' : Rho} {rest : List Stmt} (ρ1 : Rho) (s : Sub ρ' ρ1) (h : DSs X rest ρ (.nx ρ1)) : DSs X rest ρ (.nx ρ') := dss_post h fun _ _ _ _ _ es => ⟨_, es.weak s.len s.get⟩
theorem dss_less {X : Cx} {ρ : Rho} {rest : List Stmt} {out : Out} (ρ1 : Rho) (s : Sub ρ1 ρ) (h : DSs X rest ρ1 out) : DSs X rest ρ out := dss_pre (fun _ _ _ _ _ es => ⟨_, es.weak s.len s.get⟩) h
def RowOk (n : Nat) (gs : List (List Int)) (cs : List Int) : Prop := ∀ c ∈ cs, 0 ≤ c ∧ c < ((n + gs.length : Nat) : Int)
def GNeed (xs : List PyData) : Prop := ∃ n gs, xs = [encNet n gs] ∧ NetOk n gs
def GNeedC (xs : List PyData) : Prop := ∃ n gs cs, xs = [encNet n gs, encR cs] ∧ cs.length ≤ 30 ∧ RowOk n gs cs
def GWalk (xs : List PyData) (z : PyData) : Prop := ∃ n gs cs, xs = [encNet n gs, encR cs] ∧ NetOk n gs ∧ RowOk n gs cs ∧ cs.length ≤ 1000 ∧ z = encS (wk n gs cs)
def idle (n : Nat) (gs : List (List Int)) (cs : List Int) : List Nat := (List.range cs.length).filter fun a => decide (wk n gs cs = wk n gs (cs.take a ++ cs.drop (a + 1)))
def GIdle (xs : List PyData) (z : PyData) : Prop := ∃ n gs cs, xs = [encNet n gs, encR cs] ∧ NetOk n gs ∧ RowOk n gs cs ∧ cs.length ≤ 30 ∧ z = .tuple ((idle n gs cs).map fun (a : Nat) => .int a)
def GSame (xs : List PyData) (z : PyData) : Prop := ∃ n gs cs ds, xs = [encNet n gs, encR cs, encR ds] ∧ NetOk n gs ∧ RowOk n gs cs ∧ cs.length ≤ 30 ∧ RowOk n gs ds ∧ ds.length ≤ 30 ∧ z = .bool (decide (wk n gs cs = wk n gs ds))
def GInt1 (xs : List PyData) (z : PyData) : Prop := ∃ i : Int, xs = [.int i] ∧ z = .bool true
def GIn (xs : List PyData) (z : PyData) : Prop := ∃ i a b : Int, xs = [.int i, .int a, .int b] ∧ z = .bool (decide (a ≤ i) && decide (i ≤ b))
def GList (xs : List PyData) (z : PyData) : Prop := ∃ (ys : List PyData) (a b : Int), xs = [.tuple ys, .int a, .int b] ∧ z = .bool (decide (a ≤ (ys.length : Int)) && decide ((ys.length : Int) ≤ b))
def GSize (xs : List PyData) (z : PyData) : Prop := ∃ n gs, xs = [encNet n gs] ∧ z = .int ((n + gs.length : Nat) : Int)
theorem and_dec {p q : Prop} [Decidable p] [Decidable q] (h : p) (h2 : q) : (decide p && decide q) = true := by rw [decide_eq_true h, decide_eq_true h2]; rfl
theorem cut_take (cs : List Int) (a : Nat) : cutD (cs.map .int) none (some (a : Int)) = (cs.take a).map .int := by
  unfold cutD
  rw [HT.sIx_none, HT.sIx_nat, List.drop_zero, Nat.sub_zero, List.map_take, List.length_map]
  rw [← List.map_take, ← List.map_take]
  congr 1
  by_cases h : a ≤ cs.length
  · rw [Nat.min_eq_left h]
  · rw [Nat.min_eq_right (by omega), List.take_of_length_le (Nat.le_refl _), List.take_of_length_le (by omega)]
theorem cut_drop (cs : List Int) (a : Nat) : cutD (cs.map .int) (some (a : Int)) none = (cs.drop a).map .int := by
  unfold cutD
  rw [HT.sIx_none, HT.sIx_nat, List.length_map, List.map_drop]
  have e : (List.map PyData.int cs).drop (min a cs.length) = (List.map PyData.int cs).drop a := by
    by_cases h : a ≤ cs.length
    · rw [Nat.min_eq_left h]
    · rw [Nat.min_eq_right (by omega), List.drop_of_length_le (by rw [List.length_map]; exact Nat.le_refl _), List.drop_of_length_le (by rw [List.length_map]; omega)]
  rw [e, List.take_of_length_le]
  rw [List.length_drop, List.length_map]
  omega
theorem enum_enc {α : Type} {f : α → PyData} (xs : List α) (d : α) : enumD (xs.map f) = ((List.range xs.length).map fun i => (i, xs.getD i d)).map fun q => .tuple [.int (q.1 : Nat), f q.2] := by
  unfold enumD
  rw [List.map_map, List.length_map]
  refine List.map_congr_left fun i hi => ?_
  have hi := List.mem_range.mp hi
  show PyData.tuple [.int i, (xs.map f).getD i .none] = .tuple [.int i, f (xs.getD i d)]
  rw [List.getD_eq_getElem?_getD, List.getD_eq_getElem?_getD, List.getElem?_map, List.getElem?_eq_getElem hi]
  rfl
theorem enum_at {α : Type} {xs : List α} {d : α} {k : Nat} {q : Nat × α} (h : ((List.range xs.length).map fun i => (i, xs.getD i d))[k]? = some q) : q.1 = k ∧ xs[k]? = some q.2 := by
  rw [List.getElem?_map] at h
  by_cases hk : k < xs.length
  · rw [List.getElem?_range hk] at h
    have h : (k, xs.getD k d) = q := Option.some.inj h
    subst h
    refine ⟨rfl, ?_⟩
    show _ = some (xs.getD k d)
    rw [List.getD_eq_getElem?_getD, List.getElem?_eq_getElem hk]
    rfl
  · rw [List.getElem?_eq_none (by rw [List.length_range]; omega)] at h
    cases h
theorem all_of {n : Nat} {gs : List (List Int)} {row : List Int} {p : Int} {z : PyData} (N : NetOk n gs) (r : 0 ≤ p ∧ p < ((n + gs.length : Nat) : Int)) (hz : z = encS (callA n gs (wk n gs row) p)) : GAll [encNet n gs, encS (wk n gs row), .int p] z := by
  have n3 := N.n3
  have g4 := N.g4
  refine ⟨n, gs, wk n gs row, p, rfl, by omega, ?_, fun st hst => (wk_st hst).1, r.1, r.2, hz⟩
  rw [wk_len]
  have : 2 ^ n ≤ 2 ^ 3 := Nat.pow_le_pow_right (by decide) n3
  omega
section
variable {P : Program} {w : World} {K : PySem.W.Frag} {mg : Str → Option Value} {base : Heap}
theorem w_need_net (B : BI mg) (N : CI mg) (D : DefAt K mg "need_net" (topS 13) ["net"]) (C1 : Callee P w K mg base "is_list" 1 ["value", "least", "most"] GList) (C2 : Callee P w K mg base "is_in" 2 ["value", "least", "most"] GIn) : Callee P w K mg base "need_net" 3 ["net"] (fun xs z => GNeed xs ∧ z = .none) :=
  callee_of D fun f fd F => fn_okN F (N := ["net", "index", "near", "other"]) ⟨rfl, rfl, rfl, by decide +kernel, rfl, by decide +kernel, by decide +kernel⟩ (fun xs h => by obtain ⟨n, gs, rfl, _⟩ := h; rfl) fun cdv A outer s H E hr xs h => by
    obtain ⟨n, gs, rfl, ok⟩ := h
    have n1 := ok.n1
    have n3 := ok.n3
    have g4 := ok.g4
    refine ⟨[some (.d (encNet n gs)), none, none, none], dss_ifF (dt_is (dt_w (dw_or (t := false) (u := false) (dt_not (t := true) (dt_val (de_is (de_callC (C1.mono (by decide)) hr rfl (da_cons (de_var 0 rfl) (da_cons de_int (da_cons de_int da_nil))) ⟨_, _, _, rfl, rfl⟩) rfl))) fun _ => dw_or (t := false) (u := false) (dt_not (t := true) (dt_val (de_is (de_callC C2 hr rfl (da_cons (de_at (de_var 0 rfl) de_int rfl (fun _ _ => rfl)) (da_cons de_int (da_cons (de_cst rfl N.inputs) da_nil))) ⟨_, _, _, rfl, rfl⟩) (congrArg PyData.bool (and_dec (by omega) (by omega)))))) fun _ => dw_or1 (dt_not (t := true) (dt_val (de_is (de_callC (C1.mono (by decide)) hr rfl (da_cons (de_at (de_var 0 rfl) de_int rfl (fun _ _ => rfl)) (da_cons de_int (da_cons (de_cst rfl N.gates) da_nil))) ⟨_, _, _, rfl, rfl⟩) (congrArg PyData.bool (and_dec (by omega) (by rw [List.length_map]; omega)))))))) rfl) ?_⟩
    refine dss_one (ds_forN (ts := (List.range gs.length).map fun i => (i, gs.getD i [])) (enc := fun q => .tuple [.int (q.1 : Nat), encR q.2]) (fs := fun q ρ => (ρ.set 1 (some (.d (.int (q.1 : Nat))))).set 2 (some (.d (encR q.2)))) (fun k => [some (.d (encNet n gs)), none, none, none]) rfl PassesOwn.never rfl (enum_enc gs [] ▸ di_enum rfl B.enumerate (de_at (de_var 0 rfl) de_int rfl (fun _ _ => rfl))) (dg_pair 1 2 rfl (nodup_of (by kernel_rfl)) rfl (Or.inr rfl) rfl (Or.inl rfl)) (fun q _ => ⟨_, _, rfl, rfl⟩) (fun k q hq => ?_))
    obtain ⟨q1, q2⟩ := enum_at hq
    obtain ⟨i, near⟩ := q
    have q1 : i = k := q1
    subst q1
    have q2 : gs[i]? = some near := q2
    have up := ok.up near (List.mem_of_getElem? q2)
    have rg := ok.rg i near q2
    have hi := (List.getElem?_eq_some_iff.mp q2).1
    have ll := rise_len (a := 0) (b := ((n + i : Nat) : Int)) up rg
    refine dss_keep [some (.d (encNet n gs)), some (.d (.int (i : Nat))), some (.d (encR near)), none] ⟨rfl, trivial⟩ (dss_ifF (dt_is (dt_w (dw_or (t := false) (u := false) (dt_not (t := true) (dt_val (de_isi (r := true) rfl B.isinstance (de_var 2 rfl) rfl B.tuple PyProof.Rows.boot_tuple kit_tt))) fun _ => dw_or1 (dt_not (t := true) (dt_val (de_is (de_all (ts := near) (f := fun o => (decide (0 ≤ o) && decide (o ≤ (n : Int) + i - 1))) rfl rfl B.all (do_lcN 3 (enc := PyData.int) (ts := near) _ rfl (nodup_of (by kernel_rfl)) (di_tup (de_var 2 rfl)) (blk_of (by kernel_rfl)) (fun _ _ _ _ _ => dg_name 3 (nodup_of (by kernel_rfl)) rfl (Or.inl rfl)) (fun _ _ _ _ _ o ho => de_callC C2 hr rfl (da_cons (de_var 3 rfl) (da_cons de_int (da_cons (de_sub (de_add (de_at (de_var 0 rfl) de_int rfl (fun _ _ => rfl)) (de_var 1 rfl)) de_int) da_nil))) ⟨_, _, _, rfl, rfl⟩) (by omega))) (congrArg PyData.bool (List.all_eq_true.mpr fun o ho => and_dec (rg o ho).1 (by have := (rg o ho).2; omega)))))))) rfl)
      (dss_ifF (dt_is (dt_neD hr (shaped_L near) (shaped_L near) (de_new (do_list rfl B.list PyProof.Rows.boot_list (de_var 2 rfl))) (de_sortedSet rfl rfl B.sorted rfl B.set (de_var 2 rfl) up (by omega))) (by rw [eqv_L, decide_eq_true rfl]; rfl)) dss_nil))
theorem w_need_calls (B : BI mg) (N : CI mg) (D : DefAt K mg "need_calls" (topS 21) ["net", "calls"]) (C1 : Callee P w K mg base "is_list" 1 ["value", "least", "most"] GList) (C2 : Callee P w K mg base "is_in" 2 ["value", "least", "most"] GIn) (C3 : Callee P w K mg base "size_of" 1 ["net"] GSize) : Callee P w K mg base "need_calls" 3 ["net", "calls"] (fun xs z => GNeedC xs ∧ z = .none) :=
  callee_of D fun f fd F => fn_okN F (N := ["net", "calls", "index", "person"]) ⟨rfl, rfl, rfl, by decide +kernel, rfl, by decide +kernel, by decide +kernel⟩ (fun xs h => by obtain ⟨n, gs, cs, rfl, _⟩ := h; rfl) fun cdv A outer s H E hr xs h => by
    obtain ⟨n, gs, cs, rfl, hl, rg⟩ := h
    refine ⟨[some (.d (encNet n gs)), some (.d (encR cs)), none, none], dss_ifF (dt_is (dt_not (t := true) (dt_val (de_is (de_callC (C1.mono (by decide)) hr rfl (da_cons (de_var 1 rfl) (da_cons de_int (da_cons (de_cst rfl N.calls) da_nil))) ⟨_, _, _, rfl, rfl⟩) (congrArg PyData.bool (and_dec (by omega) (by rw [List.length_map]; omega)))))) rfl) ?_⟩
    refine dss_one (ds_forN (ts := (List.range cs.length).map fun i => (i, cs.getD i 0)) (enc := fun q => .tuple [.int (q.1 : Nat), .int q.2]) (fs := fun q ρ => (ρ.set 2 (some (.d (.int (q.1 : Nat))))).set 3 (some (.d (.int q.2)))) (fun k => [some (.d (encNet n gs)), some (.d (encR cs)), none, none]) rfl PassesOwn.never rfl (enum_enc (f := PyData.int) cs 0 ▸ di_enum rfl B.enumerate (de_var 1 rfl)) (dg_pair 2 3 rfl (nodup_of (by kernel_rfl)) rfl (Or.inl rfl) rfl (Or.inl rfl)) (fun q _ => ⟨_, _, rfl, rfl⟩) (fun k q hq => ?_))
    obtain ⟨q1, q2⟩ := enum_at hq
    obtain ⟨i, c⟩ := q
    have r := rg c (List.mem_of_getElem? q2)
    refine dss_keep [some (.d (encNet n gs)), some (.d (encR cs)), some (.d (.int (i : Nat))), some (.d (.int c))] ⟨rfl, rfl, trivial⟩ (dss_ifF (dt_is (dt_not (t := true) (dt_val (de_is (de_callC C2 hr rfl (da_cons (de_var 3 rfl) (da_cons de_int (da_cons (de_sub (de_callC (C3.mono (by decide)) hr rfl (da_cons (de_var 0 rfl) da_nil) ⟨n, gs, rfl, rfl⟩) de_int) da_nil))) ⟨_, _, _, rfl, rfl⟩) (congrArg PyData.bool (and_dec r.1 (by have := r.2; omega)))))) rfl) dss_nil)
theorem w_walked (B : BI mg) (D : DefAt K mg "walked" (topS 37) ["net", "calls"]) (C1 : Callee P w K mg base "begins" 2 ["net"] GBegins) (C2 : Callee P w K mg base "all_call" 3 ["net", "states", "person"] GAll) : Callee P w K mg base "walked" 4 ["net", "calls"] GWalk :=
  callee_of D fun f fd F => fn_ok F (N := ["net", "calls", "states", "person"]) ⟨rfl, rfl, rfl, by decide +kernel, rfl, by decide +kernel, by decide +kernel⟩ (fun xs z h => by obtain ⟨n, gs, cs, rfl, _⟩ := h; rfl) fun cdv A outer s H E hr xs z h => by
    obtain ⟨n, gs, cs, rfl, N, rg, hl, rfl⟩ := h
    refine dss_cons (ds_set 2 (nodup_of (by kernel_rfl)) rfl (Or.inl rfl) (de_callC (C1.mono (by decide)) hr rfl (da_cons (de_var 0 rfl) da_nil) ⟨n, gs, rfl, N, rfl⟩)) ?_
    refine dss_cons (ds_forN (ts := cs) (enc := PyData.int) (fs := fun c ρ => ρ.set 3 (some (.d (.int c)))) (fun k => [some (.d (encNet n gs)), some (.d (encR cs)), some (.d (encS (wk n gs (cs.take k)))), none]) rfl PassesOwn.never rfl (di_tup (de_var 1 rfl)) (dg_name 3 (nodup_of (by kernel_rfl)) rfl (Or.inl rfl)) (fun _ _ => rfl) (fun k c hc => ?_)) (dss_one (ds_ret (by rw [List.take_length]; exact (de_var 2 rfl))))
    have r := rg c (List.mem_of_getElem? hc)
    have e : wk n gs (cs.take (k + 1)) = callA n gs (wk n gs (cs.take k)) c := by rw [wk_call, List.take_add_one, hc]; rfl
    refine dss_keep [some (.d (encNet n gs)), some (.d (encR cs)), some (.d (encS (wk n gs (cs.take (k + 1))))), some (.d (.int c))] ⟨rfl, rfl, rfl, trivial⟩ (dss_one ?_)
    rw [e]
    exact ds_set 2 (nodup_of (by kernel_rfl)) rfl (Or.inl rfl) (de_callC C2 hr rfl (da_cons (de_var 0 rfl) (da_cons (de_var 2 rfl) (da_cons (de_var 3 rfl) da_nil))) (all_of N r rfl))
theorem w_needless (B : BI mg) (D : DefAt K mg "needless_calls" (topS 36) ["net", "calls"]) (C1 : Callee P w K mg base "need_net" 3 ["net"] (fun xs z => GNeed xs ∧ z = .none)) (C2 : Callee P w K mg base "need_calls" 3 ["net", "calls"] (fun xs z => GNeedC xs ∧ z = .none)) (C3 : Callee P w K mg base "walked" 4 ["net", "calls"] GWalk) : Callee P w K mg base "needless_calls" 5 ["net", "calls"] GIdle :=
  callee_of D fun f fd F => fn_ok F (N := ["net", "calls", "found", "at"]) ⟨rfl, rfl, rfl, by decide +kernel, rfl, by decide +kernel, by decide +kernel⟩ (fun xs z h => by obtain ⟨n, gs, cs, rfl, _⟩ := h; rfl) fun cdv A outer s H E hr xs z h => by
    obtain ⟨n, gs, cs, rfl, N, rg, hl, rfl⟩ := h
    refine dss_cons (ds_expr (de_callC (C1.mono (by decide)) hr rfl (da_cons (de_var 0 rfl) da_nil) ⟨⟨n, gs, rfl, N⟩, rfl⟩)) (dss_cons (ds_expr (de_callC (C2.mono (by decide)) hr rfl (da_cons (de_var 0 rfl) (da_cons (de_var 1 rfl) da_nil)) ⟨⟨n, gs, cs, rfl, hl, rg⟩, rfl⟩)) ?_)
    refine dss_cons (ds_setO 2 (nodup_of (by kernel_rfl)) rfl (Or.inl rfl) (do_lst da_nil (by decide)) trivial) ?_
    refine dss_cons (ds_forN (ts := List.range cs.length) (enc := fun (i : Nat) => PyData.int i) (fs := fun (a : Nat) ρ => ρ.set 3 (some (.d (.int a)))) (fun k => [some (.d (encNet n gs)), some (.d (encR cs)), some (.l (((List.range k).filter fun a => decide (wk n gs cs = wk n gs (cs.take a ++ cs.drop (a + 1)))).map fun (a : Nat) => .int a)), none]) rfl PassesOwn.never rfl (di_range rfl B.range (de_is (de_len rfl B.len (de_var 1 rfl)) (by rw [List.length_map])) (by omega)) (dg_name 3 (nodup_of (by kernel_rfl)) rfl (Or.inl rfl)) (fun _ _ => rfl) (fun k a ha => ?_)) (dss_one (ds_ret (by rw [List.length_range]; exact de_tupleV rfl B.tuple PyProof.Rows.boot_tuple (dv_var 2 rfl))))
    have hk : k < cs.length := by
      have := (List.getElem?_eq_some_iff.mp ha).1
      rwa [List.length_range] at this
    have e : a = k := by
      rw [List.getElem?_range hk] at ha
      exact (Option.some.inj ha).symm
    subst e
    have e2 : ((List.range (a + 1)).filter fun a => decide (wk n gs cs = wk n gs (cs.take a ++ cs.drop (a + 1)))).map (fun (a : Nat) => PyData.int a) = ((List.range a).filter fun a => decide (wk n gs cs = wk n gs (cs.take a ++ cs.drop (a + 1)))).map (fun (a : Nat) => PyData.int a) ++ (if decide (wk n gs cs = wk n gs (cs.take a ++ cs.drop (a + 1))) then [.int a] else []) := by
      rw [List.range_succ, List.filter_append, List.map_append]
      congr 1
      cases q : decide (wk n gs cs = wk n gs (cs.take a ++ cs.drop (a + 1))) with
      | true => rw [List.filter_cons_of_pos (by exact q)]; rfl
      | false => rw [List.filter_cons_of_neg (by rw [q]; decide)]; rfl
    refine dss_keep [some (.d (encNet n gs)), some (.d (encR cs)), some (.l (((List.range (a + 1)).filter fun a => decide (wk n gs cs = wk n gs (cs.take a ++ cs.drop (a + 1)))).map fun (a : Nat) => .int a)), some (.d (.int a))] ⟨rfl, rfl, rfl, trivial⟩ (dss_one ?_)
    rw [e2]
    refine ds_if (t := decide (wk n gs cs = wk n gs (cs.take a ++ cs.drop (a + 1)))) (dt_is (dt_eqD hr (shaped_S (wk n gs cs)) (shaped_S (wk n gs (cs.take a ++ cs.drop (a + 1)))) (de_callC C3 hr rfl (da_cons (de_var 0 rfl) (da_cons (de_var 1 rfl) da_nil)) ⟨n, gs, cs, rfl, N, rg, by omega, rfl⟩) (de_callC C3 hr rfl (da_cons (de_var 0 rfl) (da_cons (x := encR (cs.take a ++ cs.drop (a + 1))) (de_is (de_catT (xs := (cs.take a).map .int) (ys := (cs.drop (a + 1)).map .int) (de_is (de_slice (de_var 1 rfl) dpo_none (dpo_some (de_var 3 rfl))) (congrArg PyData.tuple (cut_take cs a))) (de_is (de_slice (de_var 1 rfl) (dpo_some (k := ((a + 1 : Nat) : Int)) (de_is (de_add (de_var 3 rfl) de_int) rfl)) dpo_none) (congrArg PyData.tuple (cut_drop cs (a + 1)))) ?_) ?_) da_nil)) ⟨n, gs, cs.take a ++ cs.drop (a + 1), rfl, N, fun c hc => ?_, ?_, rfl⟩)) (eqv_S _ _)) (fun t => ?_) (fun t => ?_)
    · rw [List.length_map, List.length_map, List.length_take, List.length_drop]
      omega
    · rw [← List.map_append]
      rfl
    · rcases List.mem_append.mp hc with h | h
      · exact rg c (List.mem_of_mem_take h)
      · exact rg c (List.mem_of_mem_drop h)
    · rw [List.length_append, List.length_take, List.length_drop]
      omega
    · rw [t]
      refine dss_one (ds_append 2 (dv_var 2 rfl) rfl (de_var 3 rfl) ?_)
      rw [List.length_map]
      have := List.length_filter_le (fun a => decide (wk n gs cs = wk n gs (cs.take a ++ cs.drop (a + 1)))) (List.range a)
      rw [List.length_range] at this
      omega
    · rw [t, if_neg (by decide), List.append_nil]
      exact dss_nil
theorem w_same_rows (B : BI mg) (D : DefAt K mg "same_rows" (topS 38) ["net", "one", "other"]) (C1 : Callee P w K mg base "need_net" 3 ["net"] (fun xs z => GNeed xs ∧ z = .none)) (C2 : Callee P w K mg base "need_calls" 3 ["net", "calls"] (fun xs z => GNeedC xs ∧ z = .none)) (C3 : Callee P w K mg base "walked" 4 ["net", "calls"] GWalk) : Callee P w K mg base "same_rows" 5 ["net", "one", "other"] GSame :=
  callee_of D fun f fd F => fn_ok F (N := ["net", "one", "other"]) ⟨rfl, rfl, rfl, by decide +kernel, rfl, by decide +kernel, by decide +kernel⟩ (fun xs z h => by obtain ⟨n, gs, cs, ds, rfl, _⟩ := h; rfl) fun cdv A outer s H E hr xs z h => by
    obtain ⟨n, gs, cs, ds, rfl, N, rg, hl, rg2, hl2, rfl⟩ := h
    refine dss_cons (ds_expr (de_callC (C1.mono (by decide)) hr rfl (da_cons (de_var 0 rfl) da_nil) ⟨⟨n, gs, rfl, N⟩, rfl⟩)) (dss_cons (ds_expr (de_callC (C2.mono (by decide)) hr rfl (da_cons (de_var 0 rfl) (da_cons (de_var 1 rfl) da_nil)) ⟨⟨n, gs, cs, rfl, hl, rg⟩, rfl⟩)) (dss_cons (ds_expr (de_callC (C2.mono (by decide)) hr rfl (da_cons (de_var 0 rfl) (da_cons (de_var 2 rfl) da_nil)) ⟨⟨n, gs, ds, rfl, hl2, rg2⟩, rfl⟩)) ?_))
    exact dss_one (ds_ret (de_is (de_eqD hr (shaped_S (wk n gs cs)) (shaped_S (wk n gs ds)) (de_callC C3 hr rfl (da_cons (de_var 0 rfl) (da_cons (de_var 1 rfl) da_nil)) ⟨n, gs, cs, rfl, N, rg, by omega, rfl⟩) (de_callC C3 hr rfl (da_cons (de_var 0 rfl) (da_cons (de_var 2 rfl) da_nil)) ⟨n, gs, ds, rfl, N, rg2, by omega, rfl⟩)) (congrArg PyData.bool (eqv_S _ _))))
end
end SG
set_option Elab.async false
set_option linter.all false
/-! Part M2: breadth first over rows of calls, in plain Lean. -/
namespace SGM
/-! ### counting -/
theorem nodup_le {α : Type} [DecidableEq α] : ∀ {f all : List α}, f.Nodup → (∀ x ∈ f, x ∈ all) → f.length ≤ all.length
  | [], _, _, _ => Nat.zero_le _
  | a :: f, all, h, s => by
    obtain ⟨h1, h2⟩ := List.nodup_cons.mp h
    have ha : a ∈ all := s a (by simp)
    have := nodup_le (f := f) (all := all.erase a) h2 fun x hx => (List.mem_erase_of_ne (fun e => h1 (by rw [← e]; exact hx))).mpr (s x (List.mem_cons_of_mem _ hx))
    rw [List.length_erase_of_mem ha] at this
    have := List.length_pos_of_mem ha
    rw [List.length_cons]
    omega
def nod : Nat → List (List Int)
  | 0 => [[]]
  | k + 1 => (nod k).flatMap fun r => ((first 6).filter fun p => !r.contains p).map fun p => r ++ [p]
def nodAll : List (List Int) := nod 0 ++ nod 1 ++ nod 2 ++ nod 3 ++ nod 4 ++ nod 5 ++ nod 6
set_option maxRecDepth 100000 in
theorem nodAll_len : nodAll.length ≤ 1957 := by decide +kernel
theorem first_mem {k : Nat} {p : Int} : p ∈ first k ↔ 0 ≤ p ∧ p < k := by
  unfold first
  rw [List.mem_map]
  constructor
  · rintro ⟨i, hi, e⟩
    have := List.mem_range.mp hi
    omega
  · rintro ⟨h1, h2⟩
    exact ⟨p.toNat, List.mem_range.mpr (by omega), by omega⟩
theorem first_len (k : Nat) : (first k).length = k := by unfold first; rw [List.length_map, List.length_range]
theorem nod_mem : ∀ (k : Nat) (r : List Int), r.length = k → r.Nodup → (∀ p ∈ r, 0 ≤ p ∧ p < 6) → r ∈ nod k
  | 0, r, hl, _, _ => by
    have e : r = [] := List.length_eq_zero_iff.mp hl
    subst e
    exact List.mem_singleton.mpr rfl
  | k + 1, r, hl, nd, rg => by
    have hne : r ≠ [] := fun e => by rw [e] at hl; cases hl
    have e := List.dropLast_concat_getLast hne
    generalize r.dropLast = a at e
    generalize r.getLast hne = p at e
    subst e
    rw [List.nodup_append] at nd
    have hm : p ∉ a := fun z => nd.2.2 p z p (by simp) rfl
    have ha := nod_mem k a (by simpa using hl) nd.1 fun x hx => rg x (List.mem_append_left _ hx)
    unfold nod
    refine List.mem_flatMap.mpr ⟨a, ha, List.mem_map.mpr ⟨p, List.mem_filter.mpr ⟨first_mem.mpr (rg p (by simp)), ?_⟩, rfl⟩⟩
    simpa using hm
theorem nod_len {r : List Int} {k : Nat} (nd : r.Nodup) (rg : ∀ p ∈ r, 0 ≤ p ∧ p < (k : Int)) : r.length ≤ k := by
  have := nodup_le (all := first k) nd fun x hx => first_mem.mpr (rg x hx)
  rwa [first_len] at this
theorem nodAll_mem {r : List Int} (nd : r.Nodup) (rg : ∀ p ∈ r, 0 ≤ p ∧ p < 6) : r ∈ nodAll := by
  have hl : r.length ≤ 6 := nod_len nd rg
  have h := nod_mem _ r rfl nd rg
  unfold nodAll
  simp only [List.mem_append]
  generalize r.length = k at h hl
  match k, hl, h with
  | 0, _, h => simp [h]
  | 1, _, h => simp [h]
  | 2, _, h => simp [h]
  | 3, _, h => simp [h]
  | 4, _, h => simp [h]
  | 5, _, h => simp [h]
  | 6, _, h => simp [h]
  | k + 7, hl, _ => omega

/-! ### the search -/
section
variable {T : Type} [DecidableEq T] (W : List Int → T) (m : Nat)
abbrev Rows := List (List Int)
def has (f : Rows) (t : T) : Bool := f.any fun r => decide (W r = t)
def rowAt (f : Rows) (t : T) : Option (List Int) := f.find? fun r => decide (W r = t)
def add (ok : Int → T → Bool) (q : Rows × Rows) (c : List Int) : Rows × Rows := if (!has W q.1 (W c) && ok (c.getLastD 0) (W c)) = true then (q.1 ++ [c], q.2 ++ [c]) else q
def kids (r : List Int) : Rows := (first m).map fun p => r ++ [p]
def cands (last : Rows) : Rows := last.flatMap (kids m)
def lvl (ok : Int → T → Bool) (q : Rows × Rows) : Rows × Rows := (cands m q.2).foldl (add W ok) (q.1, [])
def bfs (ok : Int → T → Bool) : Nat → Rows × Rows
  | 0 => ([[]], [[]])
  | k + 1 => lvl W m ok (bfs ok k)
variable {W m}
theorem has_iff {f : Rows} {t : T} : has W f t = true ↔ ∃ r ∈ f, W r = t := by
  unfold has
  rw [List.any_eq_true]
  constructor
  · rintro ⟨r, h1, h2⟩
    exact ⟨r, h1, of_decide_eq_true h2⟩
  · rintro ⟨r, h1, h2⟩
    exact ⟨r, h1, decide_eq_true h2⟩
theorem has_app {f l : Rows} {t : T} (h : has W f t = true) : has W (f ++ l) t = true := by
  obtain ⟨r, h1, h2⟩ := has_iff.mp h
  exact has_iff.mpr ⟨r, List.mem_append_left _ h1, h2⟩
theorem has_row {f : Rows} {t : T} : has W f t = (rowAt W f t).isSome := by
  unfold has rowAt
  rw [Bool.eq_iff_iff, List.any_eq_true, List.find?_isSome]
structure Grow (W : List Int → T) (ok : Int → T → Bool) (q : Rows × Rows) (cs : Rows) (q' : Rows × Rows) (l : Rows) : Prop where
  f : q'.1 = q.1 ++ l
  n : q'.2 = q.2 ++ l
  sub : l.Sublist cs
  oks : ∀ c ∈ l, ok (c.getLastD 0) (W c) = true
  new : ∀ c ∈ l, has W q.1 (W c) = false
  dis : l.Pairwise fun a b => W a ≠ W b
  all : ∀ c ∈ cs, ok (c.getLastD 0) (W c) = true → has W q'.1 (W c) = true
theorem grow (ok : Int → T → Bool) : ∀ (cs : Rows) (q : Rows × Rows), ∃ l, Grow W ok q cs (cs.foldl (add W ok) q) l
  | [], q => ⟨[], by simp, by simp, List.Sublist.slnil, fun _ h => by simp at h, fun _ h => by simp at h, List.Pairwise.nil, fun _ h => by simp at h⟩
  | c :: cs, q => by
    by_cases h : (!has W q.1 (W c) && ok (c.getLastD 0) (W c)) = true
    · have e : add W ok q c = (q.1 ++ [c], q.2 ++ [c]) := by unfold add; rw [if_pos h]
      obtain ⟨l, g⟩ := grow ok cs (q.1 ++ [c], q.2 ++ [c])
      rw [List.foldl_cons, e]
      rw [Bool.and_eq_true] at h
      have h1 : has W q.1 (W c) = false := by simpa using h.1
      refine ⟨c :: l, by rw [g.f, List.append_assoc]; rfl, by rw [g.n, List.append_assoc]; rfl, g.sub.cons₂ c, fun x hx => ?_, fun x hx => ?_, List.pairwise_cons.mpr ⟨fun b hb e2 => ?_, g.dis⟩, fun x hx ho => ?_⟩
      · rcases List.mem_cons.mp hx with e | hx
        · rw [e]; exact h.2
        · exact g.oks x hx
      · rcases List.mem_cons.mp hx with e | hx
        · rw [e]; exact h1
        · have := g.new x hx
          cases z : has W q.1 (W x) with
          | false => rfl
          | true => rw [has_app z] at this; cases this
      · have := g.new b hb
        rw [has_iff.mpr ⟨c, by simp, e2⟩] at this
        cases this
      · rcases List.mem_cons.mp hx with e3 | hx
        · rw [e3, g.f]
          exact has_app (has_iff.mpr ⟨c, by simp, rfl⟩)
        · exact g.all x hx ho
    · have e : add W ok q c = q := by unfold add; rw [if_neg h]
      obtain ⟨l, g⟩ := grow ok cs q
      rw [List.foldl_cons, e]
      refine ⟨l, g.f, g.n, g.sub.cons c, g.oks, g.new, g.dis, fun x hx ho => ?_⟩
      rcases List.mem_cons.mp hx with e3 | hx
      · rw [e3] at ho ⊢
        rw [ho, Bool.and_true] at h
        rw [g.f]
        exact has_app (by simpa using h)
      · exact g.all x hx ho
theorem lvl_grow (ok : Int → T → Bool) (k : Nat) : ∃ l, Grow W ok ((bfs W m ok k).1, []) (cands m (bfs W m ok k).2) (bfs W m ok (k + 1)) l := grow ok _ _
theorem cand_mem {last : Rows} {c : List Int} : c ∈ cands m last ↔ ∃ r ∈ last, ∃ p, (0 ≤ p ∧ p < (m : Int)) ∧ c = r ++ [p] := by
  unfold cands kids
  rw [List.mem_flatMap]
  constructor
  · rintro ⟨r, hr, hc⟩
    obtain ⟨p, hp, e⟩ := List.mem_map.mp hc
    exact ⟨r, hr, p, first_mem.mp hp, e.symm⟩
  · rintro ⟨r, hr, p, hp, e⟩
    exact ⟨r, hr, List.mem_map.mpr ⟨p, first_mem.mpr hp, e.symm⟩⟩
theorem lastD (r : List Int) (p : Int) : (r ++ [p]).getLastD 0 = p := by simp
/-- what is asked of the walk -/
structure Wk (W : List Int → T) (m : Nat) : Prop where
  cong : ∀ r q p, W r = W q → W (r ++ [p]) = W (q ++ [p])
  still : ∀ r p, 0 ≤ p → p < (m : Int) → p ∈ r ∨ p = (m : Int) - 1 → W (r ++ [p]) = W r
  m1 : 1 ≤ m
  m7 : m ≤ 7
structure BI (W : List Int → T) (m : Nat) (ok : Int → T → Bool) (k : Nat) (q : Rows × Rows) : Prop where
  nil : [] ∈ q.1
  last : ∀ r ∈ q.2, r ∈ q.1
  len : ∀ r ∈ q.2, r.length = k
  good : ∀ r ∈ q.1, r.Nodup ∧ ∀ p ∈ r, 0 ≤ p ∧ p < (m : Int) - 1
  dis : q.1.Pairwise fun a b => W a ≠ W b
  par : ∀ r ∈ q.1, r = [] ∨ ∃ r' p, r = r' ++ [p] ∧ r' ∈ q.1 ∧ W r' ≠ W r ∧ ok p (W r) = true
  exp : ∀ r ∈ q.1, r ∉ q.2 → ∀ p, 0 ≤ p → p < (m : Int) → ok p (W (r ++ [p])) = true → has W q.1 (W (r ++ [p])) = true
theorem bi (H : Wk W m) (ok : Int → T → Bool) : ∀ k, BI W m ok k (bfs W m ok k)
  | 0 => by
    refine ⟨List.mem_singleton.mpr rfl, fun r h => h, fun r h => ?_, fun r h => ?_, List.pairwise_singleton .., fun r h => .inl (List.mem_singleton.mp h), fun r h n => absurd h n⟩
    · rw [List.mem_singleton.mp h]; rfl
    · rw [List.mem_singleton.mp h]; exact ⟨List.nodup_nil, fun _ h => by simp at h⟩
  | k + 1 => by
    have b := bi H ok k
    obtain ⟨l, g⟩ := lvl_grow (W := W) (m := m) ok k
    have gf := g.f
    have gn : (bfs W m ok (k + 1)).2 = l := by rw [g.n]; rfl
    have inl : ∀ c ∈ l, ∃ r p, r ∈ (bfs W m ok k).2 ∧ (0 ≤ p ∧ p < (m : Int)) ∧ c = r ++ [p] ∧ W r ≠ W c ∧ p ∉ r ∧ p < (m : Int) - 1 := fun c hc => by
      obtain ⟨r, hr, p, hp, e⟩ := cand_mem.mp (g.sub.subset hc)
      have ne : W r ≠ W c := fun z => by
        have := g.new c hc
        rw [has_iff.mpr ⟨r, b.last r hr, z⟩] at this
        cases this
      refine ⟨r, p, hr, hp, e, ne, fun z => ?_, ?_⟩
      · rw [e] at ne
        exact ne (H.still r p hp.1 hp.2 (.inl z)).symm
      · by_cases q : p = (m : Int) - 1
        · rw [e] at ne
          exact absurd (H.still r p hp.1 hp.2 (.inr q)).symm ne
        · omega
    refine ⟨?_, fun r h => ?_, fun r h => ?_, fun r h => ?_, ?_, fun r h => ?_, fun r h n p h0 h1 ho => ?_⟩
    · rw [gf]; exact List.mem_append_left _ b.nil
    · rw [gn] at h; rw [gf]; exact List.mem_append_right _ h
    · rw [gn] at h
      obtain ⟨r', p, hr, _, e, _⟩ := inl r h
      rw [e, List.length_append, b.len r' hr]
      rfl
    · rw [gf] at h
      rcases List.mem_append.mp h with h | h
      · exact b.good r h
      · obtain ⟨r', p, hr, hp, e, _, hn, hl⟩ := inl r h
        obtain ⟨g1, g2⟩ := b.good r' (b.last r' hr)
        rw [e]
        refine ⟨List.nodup_append.mpr ⟨g1, by simp, fun a ha c hc z => hn ?_⟩, fun x hx => ?_⟩
        · rw [z] at ha
          have : c = p := by simpa using hc
          rwa [this] at ha
        · rcases List.mem_append.mp hx with hx | hx
          · exact g2 x hx
          · have : x = p := by simpa using hx
            omega
    · rw [gf]
      refine List.pairwise_append.mpr ⟨b.dis, g.dis, fun a ha c hc z => ?_⟩
      have := g.new c hc
      rw [has_iff.mpr ⟨a, ha, z⟩] at this
      cases this
    · rw [gf] at h ⊢
      rcases List.mem_append.mp h with h | h
      · rcases b.par r h with e | ⟨r', p, e, h1, h2, h3⟩
        · exact .inl e
        · exact .inr ⟨r', p, e, List.mem_append_left _ h1, h2, h3⟩
      · obtain ⟨r', p, hr, hp, e, ne, _⟩ := inl r h
        refine .inr ⟨r', p, e, List.mem_append_left _ (b.last r' hr), ne, ?_⟩
        have := g.oks r h
        rw [e, lastD] at this
        rw [e]
        exact this
    · rw [gf] at h
      rw [gn] at n
      rcases List.mem_append.mp h with h | h
      · by_cases q : r ∈ (bfs W m ok k).2
        · exact g.all _ (cand_mem.mpr ⟨r, q, p, ⟨h0, h1⟩, rfl⟩) (by rw [lastD]; exact ho)
        · rw [gf]
          exact has_app (b.exp r h q p h0 h1 ho)
      · exact absurd h n
theorem nodup_W {f : Rows} (h : f.Pairwise fun a b => W a ≠ W b) : f.Nodup := h.imp fun {a b} n e => n (by rw [e])
theorem bfs_few (H : Wk W m) (ok : Int → T → Bool) (k : Nat) : (bfs W m ok k).1.length ≤ 1957 := by
  have b := bi H ok k
  have m7 := H.m7
  exact Nat.le_trans (nodup_le (nodup_W b.dis) fun r hr => nodAll_mem (b.good r hr).1 fun p hp => by have := (b.good r hr).2 p hp; omega) nodAll_len
theorem bfs_seven (H : Wk W m) (ok : Int → T → Bool) : (bfs W m ok 7).2 = [] := by
  have b := bi H ok 7
  cases e : (bfs W m ok 7).2 with
  | nil => rfl
  | cons r l =>
    have hr : r ∈ (bfs W m ok 7).2 := by rw [e]; simp
    have m7 := H.m7
    have := nod_len (k := 6) (b.good r (b.last r hr)).1 fun p hp => by have := (b.good r (b.last r hr)).2 p hp; omega
    have := b.len r hr
    omega
theorem bfs_stop {ok : Int → T → Bool} {k : Nat} (h : (bfs W m ok k).2 = []) : ∀ j, (bfs W m ok (k + j)).1 = (bfs W m ok k).1 ∧ (bfs W m ok (k + j)).2 = []
  | 0 => ⟨rfl, h⟩
  | j + 1 => by
    obtain ⟨h1, h2⟩ := bfs_stop h j
    show (lvl W m ok (bfs W m ok (k + j))).1 = _ ∧ (lvl W m ok (bfs W m ok (k + j))).2 = []
    unfold lvl
    rw [h2, h1]
    exact ⟨rfl, rfl⟩
theorem bfs_more {ok : Int → T → Bool} (k : Nat) : ∀ j, ∃ l, (bfs W m ok (k + j)).1 = (bfs W m ok k).1 ++ l
  | 0 => ⟨[], by simp⟩
  | j + 1 => by
    obtain ⟨l, e⟩ := bfs_more (ok := ok) k j
    obtain ⟨l2, g⟩ := lvl_grow (W := W) (m := m) ok (k + j)
    exact ⟨l ++ l2, by rw [← List.append_assoc, ← e]; exact g.f⟩
/-- all that can be reached is found -/
theorem chain (H : Wk W m) {ok : Int → T → Bool} {k : Nat} (hk : (bfs W m ok k).2 = []) : ∀ (R : List Int), (∀ p ∈ R, 0 ≤ p ∧ p < (m : Int)) → (∀ q p s, R = q ++ p :: s → ok p (W (q ++ [p])) = true) → has W (bfs W m ok k).1 (W R) = true := by
  have b := bi H ok k
  have go : ∀ (s : List Int) (q : List Int), (∀ p ∈ s, 0 ≤ p ∧ p < (m : Int)) → (∀ a p s', s = a ++ p :: s' → ok p (W (q ++ a ++ [p])) = true) → has W (bfs W m ok k).1 (W q) = true → has W (bfs W m ok k).1 (W (q ++ s)) = true := by
    intro s
    induction s with
    | nil => intro q _ _ h; rw [List.append_nil]; exact h
    | cons p s ih =>
      intro q hr ho h
      have o1 := ho [] p s rfl
      rw [List.append_nil] at o1
      obtain ⟨r, hr1, e⟩ := has_iff.mp h
      have e2 := H.cong r q p e
      have h2 := b.exp r hr1 (by rw [hk]; simp) p (hr p (by simp)).1 (hr p (by simp)).2 (by rw [e2]; exact o1)
      rw [e2] at h2
      have := ih (q ++ [p]) (fun x hx => hr x (List.mem_cons_of_mem _ hx)) (fun a x s' es => by
        have := ho (p :: a) x s' (by rw [es]; rfl)
        rw [List.append_assoc q [p] a]
        exact this) h2
      rw [List.append_assoc] at this
      exact this
  intro R hr ho
  have := go R [] hr (fun a p s' e => ho a p s' e) (has_iff.mpr ⟨[], b.nil, rfl⟩)
  exact this

/-! ### those that are lost may be left out -/
variable {lost : T → Bool} {okE : Int → Bool}
def nl (W : List Int → T) (lost : T → Bool) (r : List Int) : Bool := !lost (W r)
def okP (okE : Int → Bool) (lost : T → Bool) (p : Int) (t : T) : Bool := okE p && !lost t
def okL (T : Type) (okE : Int → Bool) (p : Int) (t : T) : Bool := okE p
theorem has_filter {f : Rows} {t : T} (h : lost t = false) : has W (f.filter (nl W lost)) t = has W f t := by
  rw [Bool.eq_iff_iff, has_iff, has_iff]
  constructor
  · rintro ⟨r, h1, h2⟩
    exact ⟨r, (List.mem_filter.mp h1).1, h2⟩
  · rintro ⟨r, h1, h2⟩
    exact ⟨r, List.mem_filter.mpr ⟨h1, by unfold nl; rw [h2, h]; rfl⟩, h2⟩
theorem fold_filter : ∀ (cs : Rows) (A B : Rows), cs.foldl (add W (okP okE lost)) (A.filter (nl W lost), B.filter (nl W lost)) =
    ((cs.foldl (add W (okL T okE)) (A, B)).1.filter (nl W lost), (cs.foldl (add W (okL T okE)) (A, B)).2.filter (nl W lost))
  | [], A, B => rfl
  | c :: cs, A, B => by
    rw [List.foldl_cons, List.foldl_cons]
    cases hl : lost (W c) with
    | true =>
      have e1 : add W (okP okE lost) (A.filter (nl W lost), B.filter (nl W lost)) c = (A.filter (nl W lost), B.filter (nl W lost)) := by
        unfold add okP
        rw [hl, if_neg (by simp)]
      have n : nl W lost c = false := by unfold nl; rw [hl]; rfl
      rw [e1]
      unfold add
      by_cases q : (!has W (A, B).1 (W c) && okL T okE (c.getLastD 0) (W c)) = true
      · rw [if_pos q]
        have f1 : A.filter (nl W lost) = (A ++ [c]).filter (nl W lost) := by rw [List.filter_append, List.filter_cons_of_neg (by rw [n]; decide)]; simp
        have f2 : B.filter (nl W lost) = (B ++ [c]).filter (nl W lost) := by rw [List.filter_append, List.filter_cons_of_neg (by rw [n]; decide)]; simp
        rw [f1, f2]
        exact fold_filter cs _ _
      · rw [if_neg q]
        exact fold_filter cs _ _
    | false =>
      have n : nl W lost c = true := by unfold nl; rw [hl]; rfl
      have hh : has W (A.filter (nl W lost)) (W c) = has W A (W c) := has_filter hl
      unfold add okP okL
      simp only [hh, hl, Bool.not_false, Bool.and_true]
      by_cases q : (!has W A (W c) && okE (c.getLastD 0)) = true
      · rw [if_pos q, if_pos q]
        have f1 : A.filter (nl W lost) ++ [c] = (A ++ [c]).filter (nl W lost) := by rw [List.filter_append, List.filter_cons_of_pos n]; rfl
        have f2 : B.filter (nl W lost) ++ [c] = (B ++ [c]).filter (nl W lost) := by rw [List.filter_append, List.filter_cons_of_pos n]; rfl
        rw [f1, f2]
        exact fold_filter cs _ _
      · rw [if_neg q, if_neg q]
        exact fold_filter cs _ _
theorem fold_skip (A : Rows × Rows) : ∀ (cs : Rows) (q : Rows × Rows), cs.foldl (add W (okP okE lost)) q = (cs.filter (nl W lost)).foldl (add W (okP okE lost)) q
  | [], q => rfl
  | c :: cs, q => by
    rw [List.foldl_cons]
    cases hl : lost (W c) with
    | true =>
      have e1 : add W (okP okE lost) q c = q := by unfold add okP; rw [hl, if_neg (by simp)]
      rw [e1, List.filter_cons_of_neg (by unfold nl; rw [hl]; decide)]
      exact fold_skip A cs q
    | false =>
      rw [List.filter_cons_of_pos (by unfold nl; rw [hl]; rfl), List.foldl_cons]
      exact fold_skip A cs _
theorem cands_filter (mono : ∀ r p, lost (W r) = true → lost (W (r ++ [p])) = true) (l : Rows) : (cands m (l.filter (nl W lost))).filter (nl W lost) = (cands m l).filter (nl W lost) := by
  induction l with
  | nil => rfl
  | cons r l ih =>
    have e : cands m (r :: l) = kids m r ++ cands m l := by unfold cands; rw [List.flatMap_cons]
    rw [e, List.filter_append]
    cases hl : lost (W r) with
    | true =>
      rw [List.filter_cons_of_neg (by unfold nl; rw [hl]; decide), ih]
      have : (kids m r).filter (nl W lost) = [] := by
        rw [List.filter_eq_nil_iff]
        intro c hc
        obtain ⟨p, _, e⟩ := List.mem_map.mp hc
        unfold nl
        rw [← e, mono r p hl]
        decide
      rw [this, List.nil_append]
    | false =>
      rw [List.filter_cons_of_pos (by unfold nl; rw [hl]; rfl)]
      have e2 : cands m (r :: l.filter (nl W lost)) = kids m r ++ cands m (l.filter (nl W lost)) := by unfold cands; rw [List.flatMap_cons]
      rw [e2, List.filter_append, ih]
theorem bfs_filter (mono : ∀ r p, lost (W r) = true → lost (W (r ++ [p])) = true) (h0 : lost (W []) = false) : ∀ k, bfs W m (okP okE lost) k = ((bfs W m (okL T okE) k).1.filter (nl W lost), (bfs W m (okL T okE) k).2.filter (nl W lost))
  | 0 => by
    show ([[]], [[]]) = (List.filter (nl W lost) [[]], List.filter (nl W lost) [[]])
    rw [List.filter_cons_of_pos (by unfold nl; rw [h0]; rfl)]
    rfl
  | k + 1 => by
    have ih := bfs_filter mono h0 k
    show lvl W m (okP okE lost) (bfs W m (okP okE lost) k) = _
    rw [ih]
    unfold lvl
    rw [fold_skip ([], []), cands_filter mono, ← fold_skip ([], [])]
    exact fold_filter (cands m (bfs W m (okL T okE) k).2) (bfs W m (okL T okE) k).1 []
theorem row_filter {f : Rows} {t : T} (h : lost t = false) : rowAt W (f.filter (nl W lost)) t = rowAt W f t := by
  unfold rowAt
  induction f with
  | nil => rfl
  | cons r f ih =>
    by_cases e : W r = t
    · rw [List.filter_cons_of_pos (by unfold nl; rw [e, h]; rfl), List.find?_cons_of_pos (by exact decide_eq_true e), List.find?_cons_of_pos (by exact decide_eq_true e)]
    · rw [List.find?_cons_of_neg (by simpa using e), ← ih]
      cases q : nl W lost r with
      | true => rw [List.filter_cons_of_pos q, List.find?_cons_of_neg (by simpa using e)]
      | false => rw [List.filter_cons_of_neg (by rw [q]; decide)]
theorem row_app {f l : Rows} {t : T} {r : List Int} (h : rowAt W f t = some r) : rowAt W (f ++ l) t = some r := by
  unfold rowAt at h ⊢
  rw [List.find?_append, h]
  rfl
theorem row_some {f : Rows} {t : T} {r : List Int} (h : rowAt W f t = some r) : r ∈ f ∧ W r = t := by
  unfold rowAt at h
  have := List.find?_some h
  exact ⟨List.mem_of_find?_eq_some h, of_decide_eq_true this⟩
theorem row_self {f : Rows} (d : f.Pairwise fun a b => W a ≠ W b) {r : List Int} (h : r ∈ f) : rowAt W f (W r) = some r := by
  cases e : rowAt W f (W r) with
  | none =>
    have := has_row (W := W) (f := f) (t := W r)
    rw [e, has_iff.mpr ⟨r, h, rfl⟩] at this
    cases this
  | some q =>
    obtain ⟨h1, h2⟩ := row_some e
    by_cases z : q = r
    · rw [z]
    · have : ∀ {f : Rows}, f.Pairwise (fun a b => W a ≠ W b) → ∀ a ∈ f, ∀ b ∈ f, a ≠ b → W a ≠ W b := by
        intro f d
        induction d with
        | nil => intro a ha; simp at ha
        | cons h t ih =>
          intro a ha b hb ne
          rcases List.mem_cons.mp ha with e1 | ha
          · rcases List.mem_cons.mp hb with e2 | hb
            · rw [e1, e2] at ne; exact absurd rfl ne
            · rw [e1]; exact h b hb
          · rcases List.mem_cons.mp hb with e2 | hb
            · rw [e2]; exact fun z => h a ha z.symm
            · exact ih a ha b hb ne
      exact absurd h2 (this d q h1 r h z)

/-! ### what both find -/
/-- the least number that does -/
theorem least_nat {p : Nat → Bool} : ∀ n, p n = true → ∃ N, N ≤ n ∧ p N = true ∧ ∀ k, k < N → p k = false
  | 0, h => ⟨0, Nat.le_refl _, h, fun k hk => by omega⟩
  | n + 1, h => by
    by_cases q : ∃ k, k ≤ n ∧ p k = true
    · obtain ⟨k, hk, hp⟩ := q
      obtain ⟨N, h1, h2, h3⟩ := least_nat k hp
      exact ⟨N, by omega, h2, h3⟩
    · refine ⟨n + 1, Nat.le_refl _, h, fun k hk => ?_⟩
      cases e : p k with
      | false => rfl
      | true => exact absurd ⟨k, by omega, e⟩ q
structure Goes (W : List Int → T) (m : Nat) (lost : T → Bool) (G : T) : Prop where
  wk : Wk W m
  mono : ∀ r p, lost (W r) = true → lost (W (r ++ [p])) = true
  h0 : lost (W []) = false
  hG : lost G = false
  fin : W (first m) = G
theorem Goes.pre {G : T} (g : Goes W m lost G) {R : List Int} (hR : W R = G) {q s : List Int} (e : R = q ++ s) : lost (W q) = false := by
  cases z : lost (W q) with
  | false => rfl
  | true =>
    have : ∀ (s q : List Int), lost (W q) = true → lost (W (q ++ s)) = true := by
      intro s
      induction s with
      | nil => intro q h; rw [List.append_nil]; exact h
      | cons p s ih =>
        intro q h
        have := ih (q ++ [p]) (g.mono q p h)
        rw [List.append_assoc] at this
        exact this
    have := this s q z
    rw [← e, hR, g.hG] at this
    cases this
/-- the pruned search finds the end, and the row of the whole search -/
theorem least_both {G : T} (g : Goes W m lost G) : ∃ N R, N ≤ 7 ∧ has W (bfs W m (okP (fun _ => true) lost) N).1 G = true ∧ (∀ k, k < N → has W (bfs W m (okP (fun _ => true) lost) k).1 G = false) ∧
    rowAt W (bfs W m (okP (fun _ => true) lost) N).1 G = some R ∧ rowAt W (bfs W m (okL T fun _ => true) 8).1 G = some R ∧ W R = G ∧ (∀ p ∈ R, 0 ≤ p ∧ p < (m : Int)) ∧ R.length ≤ 6 ∧ (R = [] ∨ W R.dropLast ≠ G) := by
  have h7 : has W (bfs W m (okP (fun _ => true) lost) 7).1 G = true := by
    rw [← g.fin]
    refine chain g.wk (bfs_seven g.wk _) (first m) (fun p hp => first_mem.mp hp) fun q p s e => ?_
    unfold okP
    rw [g.pre g.fin (q := q ++ [p]) (s := s) (by rw [e, List.append_assoc]; rfl)]
    rfl
  obtain ⟨N, n7, hN, hk⟩ := least_nat (p := fun k => has W (bfs W m (okP (fun _ => true) lost) k).1 G) 7 h7
  have hr := has_row (W := W) (f := (bfs W m (okP (fun _ => true) lost) N).1) (t := G)
  rw [hN] at hr
  obtain ⟨R, eR⟩ := Option.isSome_iff_exists.mp hr.symm
  obtain ⟨r1, r2⟩ := row_some eR
  have b := bi g.wk (okP (fun _ => true) lost) N
  have gd := b.good R r1
  have m7 := g.wk.m7
  refine ⟨N, R, n7, hN, hk, eR, ?_, r2, fun p hp => by have := gd.2 p hp; omega, nod_len gd.1 fun p hp => by have := gd.2 p hp; omega, ?_⟩
  · rw [bfs_filter g.mono g.h0, row_filter g.hG] at eR
    obtain ⟨l, e⟩ := bfs_more (W := W) (m := m) (ok := okL T fun _ => true) N (8 - N)
    rw [show N + (8 - N) = 8 by omega] at e
    rw [e]
    exact row_app eR
  · rcases b.par R r1 with e | ⟨r', p, e, _, ne, _⟩
    · exact .inl e
    · refine .inr fun z => ne ?_
      rw [e, List.dropLast_concat] at z
      rw [z, r2]
/-- without one person: the pruned search stops at the right answer -/
theorem without_both {G : T} (g : Goes W m lost G) (okE : Int → Bool) : ∃ N, N ≤ 7 ∧ (∀ k, k < N → (bfs W m (okP okE lost) k).2 ≠ [] ∧ has W (bfs W m (okP okE lost) k).1 G = false) ∧
    ((bfs W m (okP okE lost) N).2 = [] ∨ has W (bfs W m (okP okE lost) N).1 G = true) ∧ has W (bfs W m (okP okE lost) N).1 G = has W (bfs W m (okL T okE) 9).1 G := by
  obtain ⟨N, n7, hN, hk⟩ := least_nat (p := fun k => (bfs W m (okP okE lost) k).2.isEmpty || has W (bfs W m (okP okE lost) k).1 G) 7 (by rw [bfs_seven g.wk]; rfl)
  have hN2 : (bfs W m (okP okE lost) N).2 = [] ∨ has W (bfs W m (okP okE lost) N).1 G = true := by
    rw [Bool.or_eq_true, List.isEmpty_iff] at hN
    exact hN
  refine ⟨N, n7, fun k hk' => ?_, hN2, ?_⟩
  · have := hk k hk'
    have this := Bool.or_eq_false_iff.mp this
    exact ⟨fun e => by rw [e] at this; exact absurd this.1 (by decide), this.2⟩
  · have e9 : has W (bfs W m (okL T okE) 9).1 G = has W (bfs W m (okP okE lost) 9).1 G := by rw [bfs_filter g.mono g.h0, has_filter g.hG]
    rw [e9]
    rcases hN2 with e | e
    · have := (bfs_stop (W := W) (m := m) e (9 - N)).1
      rw [show N + (9 - N) = 9 by omega] at this
      rw [this]
    · obtain ⟨l, e2⟩ := bfs_more (W := W) (m := m) (ok := okP okE lost) N (9 - N)
      rw [show N + (9 - N) = 9 by omega] at e2
      rw [e2, e, has_app e]
/-- who isn't in the least row isn't needed -/
theorem must_in {G : T} (g : Goes W m lost G) {R : List Int} (hR : W R = G) (rg : ∀ p ∈ R, 0 ≤ p ∧ p < (m : Int)) {p : Int} (hp : p ∉ R) : has W (bfs W m (okL T fun q => decide (q ≠ p)) 9).1 G = true := by
  have e9 : has W (bfs W m (okL T fun q => decide (q ≠ p)) 9).1 G = has W (bfs W m (okP (fun q => decide (q ≠ p)) lost) 9).1 G := by rw [bfs_filter g.mono g.h0, has_filter g.hG]
  rw [e9, ← hR]
  refine chain g.wk (bfs_stop (bfs_seven g.wk _) 2).2 R rg fun q x s e => ?_
  unfold okP
  have ne : x ≠ p := fun z => hp (by rw [← z, e]; simp)
  rw [g.pre hR (q := q ++ [x]) (s := s) (by rw [e, List.append_assoc]; rfl)]
  show (decide (x ≠ p) && true) = true
  rw [decide_eq_true ne]
  rfl
end

/-! ### rows in order -/
def lx : List Int → List Int → Prop
  | x :: a, y :: b => x < y ∨ (x = y ∧ lx a b)
  | _, _ => False
theorem lx_app : ∀ {a b : List Int} (x y : Int), lx a b → a.length = b.length → lx (a ++ [x]) (b ++ [y])
  | u :: a, v :: b, x, y, h, hl => by
    rcases h with h | ⟨h1, h2⟩
    · exact .inl h
    · exact .inr ⟨h1, lx_app x y h2 (by simpa using hl)⟩
  | [], _, _, _, h, _ => h.elim
  | _ :: _, [], _, _, h, _ => h.elim
theorem lx_last : ∀ (a : List Int) {x y : Int}, x < y → lx (a ++ [x]) (a ++ [y])
  | [], _, _, h => .inl h
  | u :: a, _, _, h => .inr ⟨rfl, lx_last a h⟩
theorem first_up (k : Nat) : (first k).Pairwise (· < ·) := by
  unfold first
  refine List.Pairwise.map _ (fun a b h => ?_) List.pairwise_lt_range
  omega
theorem cands_up (m : Nat) : ∀ {l : Rows} {k : Nat}, l.Pairwise lx → (∀ r ∈ l, r.length = k) → (cands m l).Pairwise lx
  | [], _, _, _ => List.Pairwise.nil
  | r :: l, k, h, hl => by
    obtain ⟨h1, h2⟩ := List.pairwise_cons.mp h
    have e : cands m (r :: l) = kids m r ++ cands m l := by unfold cands; rw [List.flatMap_cons]
    rw [e]
    refine List.pairwise_append.mpr ⟨?_, cands_up m h2 fun x hx => hl x (List.mem_cons_of_mem _ hx), fun a ha b hb => ?_⟩
    · unfold kids
      exact List.Pairwise.map _ (fun x y h => lx_last r h) (first_up m)
    · obtain ⟨p, _, ea⟩ := List.mem_map.mp ha
      obtain ⟨r', hr', p', _, eb⟩ := cand_mem.mp hb
      rw [← ea, eb]
      exact lx_app p p' (h1 r' hr') (by rw [hl r (by simp), hl r' (List.mem_cons_of_mem _ hr')])
theorem bfs_up {T : Type} [DecidableEq T] {W : List Int → T} {m : Nat} (H : Wk W m) (ok : Int → T → Bool) : ∀ k, (bfs W m ok k).2.Pairwise lx
  | 0 => List.pairwise_singleton ..
  | k + 1 => by
    obtain ⟨l, g⟩ := lvl_grow (W := W) (m := m) ok k
    have gn : (bfs W m ok (k + 1)).2 = l := by rw [g.n]; rfl
    rw [gn]
    exact (cands_up m (bfs_up H ok k) (bi H ok k).len).sublist g.sub
end SGM
set_option Elab.async false
set_option linter.all false
/-! Part M3: nets as searches; counting right lines. -/
namespace SGM
section
variable {n : Nat} {gs : List (List Int)}
abbrev sz (n : Nat) (gs : List (List Int)) : Nat := n + gs.length
def lostG (n : Nat) (gs : List (List Int)) (t : List (List Int)) : Bool := lost t (goal n gs)
def Wc (n : Nat) (gs : List (List Int)) (cs r : List Int) : List (List Int) := wk n gs (cs ++ r)
theorem Wc_call (cs r : List Int) (p : Int) : callA n gs (Wc n gs cs r) p = Wc n gs cs (r ++ [p]) := by
  unfold Wc
  rw [wk_call, List.append_assoc]
theorem Wc_wk (N : NetOk n gs) (cs : List Int) : Wk (Wc n gs cs) (sz n gs) := by
  have n1 := N.n1
  have n3 := N.n3
  have g4 := N.g4
  refine ⟨fun r q p e => ?_, fun r p _ _ h => ?_, by show 1 ≤ n + gs.length; omega, by show n + gs.length ≤ 7; omega⟩
  · rw [← Wc_call, ← Wc_call, e]
  · unfold Wc
    rw [← List.append_assoc]
    refine still N ?_
    rcases h with h | h
    · exact .inl (List.mem_append_right _ h)
    · exact .inr h
theorem goes (N : NetOk n gs) (cs : List Int) (h : lostG n gs (wk n gs cs) = false) : Goes (Wc n gs cs) (sz n gs) (lostG n gs) (goal n gs) := by
  refine ⟨Wc_wk N cs, fun r p q => ?_, ?_, goal_not_lost, reach N cs h⟩
  · unfold Wc lostG at *
    rw [← List.append_assoc]
    exact lost_mono _ _ q
  · unfold Wc
    rw [List.append_nil]
    exact h

/-! ### sums -/
def tot {α : Type} (l : List α) (g : α → Int) : Int := l.foldr (fun a s => g a + s) 0
theorem tot_nil {α : Type} (g : α → Int) : tot [] g = 0 := rfl
theorem tot_cons {α : Type} (a : α) (l : List α) (g : α → Int) : tot (a :: l) g = g a + tot l g := rfl
theorem tot_app {α : Type} (l m : List α) (g : α → Int) : tot (l ++ m) g = tot l g + tot m g := by
  induction l with
  | nil => rw [List.nil_append, tot_nil]; omega
  | cons a l ih => rw [List.cons_append, tot_cons, tot_cons, ih]; omega
theorem tot_map {α β : Type} (h : α → β) (l : List α) (g : β → Int) : tot (l.map h) g = tot l fun a => g (h a) := by
  induction l with
  | nil => rfl
  | cons a l ih => rw [List.map_cons, tot_cons, tot_cons, ih]
theorem tot_flat {α β : Type} (h : α → List β) (l : List α) (g : β → Int) : tot (l.flatMap h) g = tot l fun a => tot (h a) g := by
  induction l with
  | nil => rfl
  | cons a l ih => rw [List.flatMap_cons, tot_app, tot_cons, ih]
theorem tot_congr {α : Type} {l : List α} {g g' : α → Int} (h : ∀ a ∈ l, g a = g' a) : tot l g = tot l g' := by
  induction l with
  | nil => rfl
  | cons a l ih => rw [tot_cons, tot_cons, h a (by simp), ih fun x hx => h x (List.mem_cons_of_mem _ hx)]
theorem tot_zero {α : Type} {l : List α} {g : α → Int} (h : ∀ a ∈ l, g a = 0) : tot l g = 0 := by
  induction l with
  | nil => rfl
  | cons a l ih => rw [tot_cons, h a (by simp), ih fun x hx => h x (List.mem_cons_of_mem _ hx)]; rfl
theorem tot_mul {α : Type} (c : Int) (l : List α) (g : α → Int) : tot l (fun a => c * g a) = c * tot l g := by
  induction l with
  | nil => rw [tot_nil, tot_nil, Int.mul_zero]
  | cons a l ih => rw [tot_cons, tot_cons, ih, Int.mul_add]

/-! ### the dict of counts -/
abbrev Cnt := List (List (List Int) × Int)
def clook (f : Cnt) (s : List (List Int)) : Option Int := (f.find? fun y => decide (y.1 = s)).map (·.2)
def cput (f : Cnt) (s : List (List Int)) (v : Int) : Cnt := if (clook f s).isSome then f.map (fun y => if y.1 = s then (y.1, v) else y) else f ++ [(s, v)]
def cget (f : Cnt) (s : List (List Int)) : Int := (clook f s).getD 0
def val (g : List (List Int) → Int) (y : List (List Int) × Int) : Int := y.2 * g y.1
theorem look_none {f : Cnt} {s : List (List Int)} (h : s ∉ f.map (·.1)) : clook f s = none := by
  unfold clook
  rw [Option.map_eq_none_iff, List.find?_eq_none]
  intro y hy e
  exact h (List.mem_map.mpr ⟨y, hy, of_decide_eq_true e⟩)
theorem look_mem {f : Cnt} {s : List (List Int)} (h : (clook f s).isSome = false) : s ∉ f.map (·.1) := fun z => by
  obtain ⟨y, hy, e⟩ := List.mem_map.mp z
  unfold clook at h
  rw [Option.isSome_map, ← Bool.not_eq_true, List.find?_isSome] at h
  exact h ⟨y, hy, decide_eq_true e⟩
theorem map_off {f : Cnt} {s : List (List Int)} {v : Int} (h : s ∉ f.map (·.1)) : f.map (fun y => if y.1 = s then (y.1, v) else y) = f := by
  induction f with
  | nil => rfl
  | cons y f ih =>
    rw [List.map_cons] at h ⊢
    rw [if_neg (fun e => h (by rw [← e]; simp)), ih fun z => h (List.mem_cons_of_mem _ z)]
theorem put_keys (f : Cnt) (s : List (List Int)) (v : Int) : ((cput f s v).map (·.1)) = if (clook f s).isSome then f.map (·.1) else f.map (·.1) ++ [s] := by
  unfold cput
  split
  · rw [List.map_map]
    refine List.map_congr_left fun y _ => ?_
    show (if y.1 = s then (y.1, v) else y).1 = y.1
    split <;> rfl
  · rw [List.map_append]; rfl
theorem put_nodup {f : Cnt} (s : List (List Int)) (v : Int) (h : (f.map (·.1)).Nodup) : ((cput f s v).map (·.1)).Nodup := by
  rw [put_keys]
  split
  · exact h
  · rename_i q
    have := look_mem (f := f) (s := s) (by simpa using q)
    refine List.nodup_append.mpr ⟨h, by simp, fun a ha b hb e => this ?_⟩
    have hb : b = s := by simpa using hb
    rw [← hb, ← e]
    exact ha
theorem put_mem {f : Cnt} {s k : List (List Int)} {v : Int} (h : k ∈ (cput f s v).map (·.1)) : k ∈ f.map (·.1) ∨ k = s := by
  rw [put_keys] at h
  split at h
  · exact .inl h
  · rcases List.mem_append.mp h with h | h
    · exact .inl h
    · exact .inr (by simpa using h)
theorem put_len (f : Cnt) (s : List (List Int)) (v : Int) : (cput f s v).length ≤ f.length + 1 := by
  have := congrArg List.length (put_keys f s v)
  rw [List.length_map] at this
  rw [this]
  split
  · rw [List.length_map]; omega
  · rw [List.length_append, List.length_map]; exact Nat.le_refl _
theorem put_tot {g : List (List Int) → Int} {s : List (List Int)} {c : Int} : ∀ {f : Cnt}, (f.map (·.1)).Nodup → tot (cput f s (cget f s + c)) (val g) = tot f (val g) + c * g s := by
  intro f h
  by_cases q : (clook f s).isSome = true
  · unfold cput
    rw [if_pos q]
    have go : ∀ (v : Int) (f : Cnt), (f.map (·.1)).Nodup → (clook f s).isSome = true → tot (f.map (fun y => if y.1 = s then (y.1, v) else y)) (val g) = tot f (val g) + (v - cget f s) * g s := by
      intro v f
      induction f with
      | nil => intro _ z; cases z
      | cons y f ih =>
        intro nd z
        rw [List.map_cons] at nd
        obtain ⟨n1, n2⟩ := List.nodup_cons.mp nd
        by_cases e : y.1 = s
        · have e1 : cget (y :: f) s = y.2 := by unfold cget clook; rw [List.find?_cons_of_pos (by exact decide_eq_true e)]; rfl
          rw [List.map_cons, map_off (by rw [← e]; exact n1), if_pos e, tot_cons, tot_cons, e1]
          show v * g y.1 + _ = y.2 * g y.1 + _ + _
          rw [e, Int.sub_mul]
          omega
        · have e1 : clook (y :: f) s = clook f s := by unfold clook; rw [List.find?_cons_of_neg (by simpa using e)]
          have e2 : cget (y :: f) s = cget f s := by unfold cget; rw [e1]
          rw [e1] at z
          rw [List.map_cons, if_neg e, tot_cons, tot_cons, ih n2 z, e2]
          omega
    rw [go _ f h q]
    congr 2
    omega
  · have q : (clook f s).isSome = false := by simpa using q
    have e : cget f s = 0 := by
      unfold cget
      cases z : clook f s with
      | none => rfl
      | some x => rw [z] at q; cases q
    unfold cput
    rw [q, if_neg (by decide), tot_app, e]
    show _ + ((0 + c) * g s + 0) = _
    rw [Int.zero_add]
    omega
theorem get_tot {s : List (List Int)} : ∀ {f : Cnt}, (f.map (·.1)).Nodup → tot f (val fun t => if t = s then 1 else 0) = cget f s
  | [], _ => rfl
  | y :: f, nd => by
    rw [List.map_cons] at nd
    obtain ⟨n1, n2⟩ := List.nodup_cons.mp nd
    rw [tot_cons, get_tot n2]
    show y.2 * (if y.1 = s then 1 else 0) + cget f s = _
    by_cases e : y.1 = s
    · have e1 : cget (y :: f) s = y.2 := by unfold cget clook; rw [List.find?_cons_of_pos (by exact decide_eq_true e)]; rfl
      have e2 : cget f s = 0 := by unfold cget; rw [look_none (by rw [← e]; exact n1)]; rfl
      rw [if_pos e, e1, e2]
      omega
    · have e1 : cget (y :: f) s = cget f s := by unfold cget clook; rw [List.find?_cons_of_neg (by simpa using e)]
      rw [if_neg e, e1]
      omega
def cstep (n : Nat) (gs : List (List Int)) (h : List (List Int)) (c : Int) (acc : Cnt) (p : Int) : Cnt := if lostG n gs (callA n gs h p) = true then acc else cput acc (callA n gs h p) (cget acc (callA n gs h p) + c)
def cturn (n : Nat) (gs : List (List Int)) (acc : Cnt) (y : List (List Int) × Int) : Cnt := (first (sz n gs)).foldl (cstep n gs y.1 y.2) acc
def cnt (n : Nat) (gs : List (List Int)) : Nat → Cnt
  | 0 => [(begins n gs, 1)]
  | k + 1 => (cnt n gs k).foldl (cturn n gs) []
structure COk (n : Nat) (gs : List (List Int)) (f : Cnt) : Prop where
  nd : (f.map (·.1)).Nodup
  of : ∀ k ∈ f.map (·.1), ∃ l, k = wk n gs l
theorem cstep_ok {h : List (List Int)} {c : Int} {acc : Cnt} {p : Int} (hh : ∃ l, h = wk n gs l) (H : COk n gs acc) : COk n gs (cstep n gs h c acc p) := by
  unfold cstep
  split
  · exact H
  · refine ⟨put_nodup _ _ H.nd, fun k hk => ?_⟩
    rcases put_mem hk with h1 | h1
    · exact H.of k h1
    · obtain ⟨l, e⟩ := hh
      exact ⟨l ++ [p], by rw [h1, e, wk_call]⟩
theorem steps_ok {h : List (List Int)} {c : Int} (hh : ∃ l, h = wk n gs l) : ∀ (ps : List Int) {acc : Cnt}, COk n gs acc → COk n gs (ps.foldl (cstep n gs h c) acc)
  | [], _, H => H
  | p :: ps, _, H => steps_ok hh ps (cstep_ok hh H)
theorem turns_ok : ∀ (ys : Cnt) {acc : Cnt}, (∀ k ∈ ys.map (·.1), ∃ l, k = wk n gs l) → COk n gs acc → COk n gs (ys.foldl (cturn n gs) acc)
  | [], _, _, H => H
  | y :: ys, _, h, H => turns_ok ys (fun k hk => h k (List.mem_cons_of_mem _ hk)) (steps_ok (h y.1 (by simp)) _ H)
theorem cnt_ok : ∀ k, COk n gs (cnt n gs k)
  | 0 => ⟨by show [begins n gs].Nodup; simp, fun k hk => ⟨[], by rw [show k = begins n gs by simpa [cnt] using hk, wk_nil]⟩⟩
  | k + 1 => turns_ok _ (cnt_ok k).of ⟨List.nodup_nil, fun _ h => by simp at h⟩
theorem steps_len {h : List (List Int)} {c : Int} : ∀ (ps : List Int) (acc : Cnt), (ps.foldl (cstep n gs h c) acc).length ≤ acc.length + ps.length
  | [], _ => Nat.le_refl _
  | p :: ps, acc => by
    rw [List.foldl_cons, List.length_cons]
    have h1 := steps_len (h := h) (c := c) ps (cstep n gs h c acc p)
    have h2 : (cstep n gs h c acc p).length ≤ acc.length + 1 := by
      unfold cstep
      split
      · omega
      · exact put_len _ _ _
    omega
theorem turns_len : ∀ (ys : Cnt) (acc : Cnt), (ys.foldl (cturn n gs) acc).length ≤ acc.length + ys.length * sz n gs
  | [], acc => by rw [List.length_nil, Nat.zero_mul]; exact Nat.le_refl _
  | y :: ys, acc => by
    rw [List.foldl_cons, List.length_cons, Nat.succ_mul]
    have h1 := turns_len ys (cturn n gs acc y)
    have h2 : (cturn n gs acc y).length ≤ acc.length + sz n gs := by
      have := steps_len (n := n) (gs := gs) (h := y.1) (c := y.2) (first (sz n gs)) acc
      rw [first_len] at this
      exact this
    omega
theorem cnt_len : ∀ k, (cnt n gs k).length ≤ (sz n gs) ^ k
  | 0 => Nat.le_refl _
  | k + 1 => by
    have h1 := turns_len (n := n) (gs := gs) (cnt n gs k) []
    have h2 := Nat.mul_le_mul_right (sz n gs) (cnt_len k)
    rw [List.length_nil, Nat.zero_add] at h1
    rw [Nat.pow_succ]
    exact Nat.le_trans h1 h2
theorem steps_tot {g : List (List Int) → Int} {h : List (List Int)} {c : Int} (hh : ∃ l, h = wk n gs l) : ∀ (ps : List Int) {acc : Cnt}, COk n gs acc → (∀ p ∈ ps, lostG n gs (callA n gs h p) = true → g (callA n gs h p) = 0) →
    tot (ps.foldl (cstep n gs h c) acc) (val g) = tot acc (val g) + c * tot ps fun p => g (callA n gs h p)
  | [], acc, _, _ => by rw [tot_nil, Int.mul_zero, Int.add_zero]; rfl
  | p :: ps, acc, H, hz => by
    rw [List.foldl_cons, steps_tot hh ps (cstep_ok hh H) fun x hx => hz x (List.mem_cons_of_mem _ hx), tot_cons, Int.mul_add]
    have : tot (cstep n gs h c acc p) (val g) = tot acc (val g) + c * g (callA n gs h p) := by
      unfold cstep
      split
      · rename_i q
        rw [hz p (by simp) q, Int.mul_zero, Int.add_zero]
      · exact put_tot H.nd
    omega
theorem turns_tot {g : List (List Int) → Int} (hg : ∀ l, lostG n gs (wk n gs l) = true → g (wk n gs l) = 0) : ∀ (ys : Cnt) {acc : Cnt}, (∀ k ∈ ys.map (·.1), ∃ l, k = wk n gs l) → COk n gs acc →
    tot (ys.foldl (cturn n gs) acc) (val g) = tot acc (val g) + tot ys (val fun h => tot (first (sz n gs)) fun p => g (callA n gs h p))
  | [], acc, _, _ => by rw [tot_nil, Int.add_zero]; rfl
  | y :: ys, acc, h, H => by
    have hy := h y.1 (by simp)
    rw [List.foldl_cons, turns_tot hg ys (fun k hk => h k (List.mem_cons_of_mem _ hk)) (show COk n gs (cturn n gs acc y) from steps_ok hy _ H), tot_cons]
    have : tot (cturn n gs acc y) (val g) = tot acc (val g) + y.2 * tot (first (sz n gs)) fun p => g (callA n gs y.1 p) := by
      refine steps_tot hy _ H fun p _ q => ?_
      obtain ⟨l, e⟩ := hy
      rw [e, wk_call] at q ⊢
      exact hg _ q
    rw [this]
    show _ = tot acc (val g) + (y.2 * tot (first (sz n gs)) (fun p => g (callA n gs y.1 p)) + _)
    omega
def lines (m : Nat) : Nat → Rows
  | 0 => [[]]
  | k + 1 => cands m (lines m k)
theorem cnt_tot : ∀ (k : Nat) {g : List (List Int) → Int}, (∀ l, lostG n gs (wk n gs l) = true → g (wk n gs l) = 0) → tot (cnt n gs k) (val g) = tot (lines (sz n gs) k) fun l => g (wk n gs l)
  | 0, g, hg => by
    show 1 * g (begins n gs) + 0 = g (wk n gs []) + 0
    rw [wk_nil, Int.one_mul]
  | k + 1, g, hg => by
    show tot ((cnt n gs k).foldl (cturn n gs) []) (val g) = tot (cands (sz n gs) (lines (sz n gs) k)) _
    rw [turns_tot hg _ (cnt_ok k).of (acc := []) ⟨List.nodup_nil, fun _ h => by simp at h⟩, tot_nil, Int.zero_add, cnt_tot k]
    · unfold cands kids
      rw [tot_flat]
      refine tot_congr fun l _ => ?_
      rw [tot_map]
      refine tot_congr fun p _ => ?_
      rw [wk_call]
    · intro l hl
      refine tot_zero fun p _ => ?_
      rw [wk_call]
      exact hg _ (lost_mono l [p] hl)
theorem tot_filter {α : Type} (p : α → Prop) [DecidablePred p] : ∀ l : List α, tot l (fun a => if p a then 1 else 0) = ((l.filter fun a => decide (p a)).length : Int)
  | [] => rfl
  | a :: l => by
    rw [tot_cons, tot_filter p l]
    by_cases h : p a
    · rw [List.filter_cons_of_pos (by exact decide_eq_true h), if_pos h, List.length_cons]
      omega
    · rw [List.filter_cons_of_neg (by simpa using h), if_neg h]
      omega
/-- the count is the number of lines that end right -/
theorem cnt_right (k : Nat) : cget (cnt n gs k) (goal n gs) = (((lines (sz n gs) k).filter fun l => decide (wk n gs l = goal n gs)).length : Int) := by
  rw [← get_tot (cnt_ok k).nd, cnt_tot k, tot_filter]
  intro l hl
  by_cases e : wk n gs l = goal n gs
  · rw [e] at hl
    unfold lostG at hl
    rw [goal_not_lost] at hl
    cases hl
  · rw [if_neg e]
end
end SGM
set_option Elab.async false
set_option linter.all false
set_option maxRecDepth 100000
set_option maxHeartbeats 4000000
/-! Part E4: the searches' data. -/
namespace SG
open PySem PySem.Spec PyProof.Rows L2 SGM
def kn (W : List Int → S) (vl : List Int → PyData) (f : Rows) : List (S × PyData) := f.map fun r => (W r, vl r)
theorem kn_look {W : List Int → S} {vl : List Int → PyData} {t : S} : ∀ f : Rows, dlook (kn W vl f) t = (rowAt W f t).map vl
  | [] => rfl
  | r :: f => by
    have ih := kn_look (W := W) (vl := vl) (t := t) f
    unfold dlook kn rowAt at *
    rw [List.map_cons]
    by_cases e : W r = t
    · rw [List.find?_cons_of_pos (by exact decide_eq_true e), List.find?_cons_of_pos (by exact decide_eq_true e)]
      rfl
    · rw [List.find?_cons_of_neg (by simpa using e), List.find?_cons_of_neg (by simpa using e)]
      exact ih
theorem kn_has {W : List Int → S} {vl : List Int → PyData} {t : S} {f : Rows} : (dlook (kn W vl f) t).isSome = has W f t := by rw [kn_look, Option.isSome_map, has_row]
theorem kn_put {W : List Int → S} {vl : List Int → PyData} {c : List Int} {f : Rows} (h : has W f (W c) = false) : dput (kn W vl f) (W c) (vl c) = kn W vl (f ++ [c]) := by
  rw [dput_new]
  · unfold kn
    rw [List.map_append]
    rfl
  · have := kn_has (W := W) (vl := vl) (t := W c) (f := f)
    rw [h] at this
    exact Option.isNone_iff_eq_none.mp (by rw [← Option.not_isSome, this]; rfl)
theorem kn_len {W : List Int → S} {vl : List Int → PyData} {f : Rows} : (kn W vl f).length = f.length := List.length_map _
/-! the sorted pairs are sorted already -/
def encP (W : List Int → S) (r : List Int) : PyData := .tuple [encR r, encS (W r)]
theorem toks_lx : ∀ {a b : List Int} (l m : List (Int ⊕ List Nat)), lx a b → PyProof.Rows.lexLt itemOrd (PySem.W.keyToksAll (b.map .int) ++ l) (PySem.W.keyToksAll (a.map .int) ++ m) = false
  | x :: a, y :: b, l, m, h => by
    rw [List.map_cons, List.map_cons, PySem.W.keyToksAll, PySem.W.keyToksAll]
    simp only [PySem.W.keyToks, List.cons_append, List.nil_append]
    rw [lex_self (O := itemOrd)]
    rcases h with h | ⟨h1, h2⟩
    · rw [lex_diff (O := itemOrd) (fun e => by injection e with e; omega)]
      show decide (y < x) = false
      exact decide_eq_false (by omega)
    · subst h1
      rw [lex_self (O := itemOrd)]
      exact toks_lx l m h2
  | [], _, _, _, h => h.elim
  | _ :: _, [], _, _, h => h.elim
theorem pair_le {W : List Int → S} {a b : List Int} (h : lx a b) : PySem.W.dataLe false (encP W) a b = true := by
  show (!PyProof.Rows.lexLt itemOrd (PySem.W.keyToks (encP W b)) (PySem.W.keyToks (encP W a))) = true
  unfold encP encR
  simp only [PySem.W.keyToks]
  rw [PySem.W.toks_all_cons (PyData.tuple (b.map .int)), PySem.W.toks_all_cons (PyData.tuple (a.map .int))]
  rw [lex_self (O := itemOrd)]
  simp only [PySem.W.keyToks]
  rw [toks_lx _ _ h]
  rfl
theorem sorted_same {W : List Int → S} {l : Rows} (h : l.Pairwise lx) : l.mergeSort (PySem.W.dataLe false (encP W)) = l := List.mergeSort_of_pairwise (h.imp fun {a b} q => pair_le q)
theorem alike_rows : ∀ xs ys : S, PySem.W.alikeAll (xs.map encR) (ys.map encR) = true
  | [], _ => by simp [PySem.W.alikeAll]
  | _ :: _, [] => by simp [PySem.W.alikeAll]
  | x :: xs, y :: ys => by
    rw [List.map_cons, List.map_cons, PySem.W.alikeAll, alike_rows xs ys]
    simp [encR, PySem.W.alike, PySem.W.alike_ints]
theorem pairs_alike {W : List Int → S} {l : Rows} : PySem.W.AllAlike (l.map (encP W)) := PySem.W.AllAlike.of fun b b' => by
  unfold encP encS
  simp [PySem.W.alike, PySem.W.alikeAll, encR, PySem.W.alike_ints]
  exact alike_rows _ _
theorem pairs_sortable {W : List Int → S} {l : Rows} : PySem.W.Sortable (l.map (encP W)) := PySem.W.Sortable.tuples fun b => ⟨_, _, rfl⟩
theorem pair_depth {W : List Int → S} (r : List Int) : (encP W r).depth ≤ 32 := by
  have := dep_rows (W r)
  simp [encP, encR, encS, PyData.depth, PyData.depthAll, dep_ints]
  omega
/-! within a level -/
theorem fold_len {W : List Int → S} {ok : Int → S → Bool} : ∀ (cs : Rows) (q : Rows × Rows), q.1.length ≤ (cs.foldl (add W ok) q).1.length ∧ q.2.length ≤ (cs.foldl (add W ok) q).2.length
  | cs, q => by
    obtain ⟨l, g⟩ := grow (W := W) ok cs q
    rw [g.f, g.n, List.length_append, List.length_append]
    omega
def mid (W : List Int → S) (m : Nat) (ok : Int → S → Bool) (f last : Rows) (i : Nat) : Rows × Rows := (cands m (last.take i)).foldl (add W ok) (f, [])
def mid2 (W : List Int → S) (m : Nat) (ok : Int → S → Bool) (f last : Rows) (i j : Nat) (r : List Int) : Rows × Rows := ((kids m r).take j).foldl (add W ok) (mid W m ok f last i)
section
variable {W : List Int → S} {m : Nat} {ok : Int → S → Bool} {f last : Rows} {i j : Nat} {r : List Int}
theorem mid_0 : mid W m ok f last 0 = (f, []) := rfl
theorem mid_all : mid W m ok f last last.length = lvl W m ok (f, last) := by unfold mid lvl; rw [List.take_length]
theorem mid2_0 : mid2 W m ok f last i 0 r = mid W m ok f last i := rfl
theorem mid2_all (h : last[i]? = some r) : mid2 W m ok f last i m r = mid W m ok f last (i + 1) := by
  have hl : (kids m r).length = m := by unfold kids; rw [List.length_map, first_len]
  have e : (kids m r).take m = kids m r := by rw [List.take_of_length_le (by omega)]
  unfold mid2
  rw [e]
  unfold mid
  rw [List.take_add_one, h]
  show _ = (cands m (last.take i ++ [r])).foldl _ _
  have : cands m (last.take i ++ [r]) = cands m (last.take i) ++ kids m r := by unfold cands; rw [List.flatMap_append]; simp
  rw [this, List.foldl_append]
theorem mid2_next (hj : j < m) : mid2 W m ok f last i (j + 1) r = add W ok (mid2 W m ok f last i j r) (r ++ [(j : Int)]) := by
  have hl : (first m)[j]? = some (j : Int) := by unfold first; rw [List.getElem?_map, List.getElem?_range hj]; rfl
  unfold mid2 kids
  rw [List.take_add_one, List.getElem?_map, hl, List.foldl_append]
  rfl
theorem mid_le (hi : i ≤ last.length) : (mid W m ok f last i).1.length ≤ (lvl W m ok (f, last)).1.length := by
  rw [← mid_all]
  have e : cands m (last.take last.length) = cands m (last.take i) ++ cands m (last.drop i) := by
    rw [List.take_length]
    unfold cands
    rw [← List.flatMap_append, List.take_append_drop]
  show _ ≤ ((cands m (last.take last.length)).foldl (add W ok) (f, [])).1.length
  rw [e, List.foldl_append]
  exact (fold_len _ _).1
theorem mid2_le (h : last[i]? = some r) : (mid2 W m ok f last i j r).1.length ≤ (lvl W m ok (f, last)).1.length := by
  have hi := (List.getElem?_eq_some_iff.mp h).1
  refine Nat.le_trans ?_ (mid_le (i := i + 1) hi)
  rw [← mid2_all h]
  have hl : (kids m r).length = m := by unfold kids; rw [List.length_map, first_len]
  have e : (kids m r).take m = (kids m r).take j ++ (kids m r).drop j := by rw [List.take_append_drop, List.take_of_length_le (by omega)]
  unfold mid2
  rw [e, List.foldl_append]
  exact (fold_len _ _).1
theorem mid_fr (hi : i ≤ last.length) : (mid W m ok f last i).2.length ≤ (mid W m ok f last i).1.length := by
  obtain ⟨l, g⟩ := grow (W := W) ok (cands m (last.take i)) (f, [])
  unfold mid
  rw [g.f, g.n, List.length_append, List.length_append]
  show 0 + _ ≤ _
  omega
theorem mid2_fr (h : last[i]? = some r) : (mid2 W m ok f last i j r).2.length ≤ (mid2 W m ok f last i j r).1.length := by
  obtain ⟨l, g⟩ := grow (W := W) ok ((kids m r).take j) (mid W m ok f last i)
  have := mid_fr (W := W) (m := m) (ok := ok) (f := f) (last := last) (i := i) (Nat.le_of_lt (List.getElem?_eq_some_iff.mp h).1)
  unfold mid2
  rw [g.f, g.n, List.length_append, List.length_append]
  omega
theorem add_yes {q : Rows × Rows} {c : List Int} (h : (!has W q.1 (W c) && ok (c.getLastD 0) (W c)) = true) : add W ok q c = (q.1 ++ [c], q.2 ++ [c]) := by unfold add; rw [if_pos h]
theorem add_no {q : Rows × Rows} {c : List Int} (h : (!has W q.1 (W c) && ok (c.getLastD 0) (W c)) = false) : add W ok q c = q := by unfold add; rw [if_neg (by rw [h]; decide)]
end
end SG
set_option Elab.async false
set_option linter.all false
set_option maxRecDepth 100000
set_option maxHeartbeats 4000000
/-! Part E5: least_from. -/
namespace SG
open PySem PySem.Spec PyProof.Rows L2 SGM
def GLeast (xs : List PyData) (z : PyData) : Prop := ∃ n gs cs R, xs = [encNet n gs, encS (Wc n gs cs [])] ∧ NetOk n gs ∧ lostG n gs (Wc n gs cs []) = false ∧ rowAt (Wc n gs cs) (bfs (Wc n gs cs) (sz n gs) (okL S fun _ => true) 8).1 (goal n gs) = some R ∧ z = encR R
abbrev encL (W : List Int → S) (l : Rows) : List PyData := l.map fun r => encS (W r)
abbrev lfS (n : Nat) (gs : List (List Int)) (A : S) (f : List (S × PyData)) (last : List PyData) (fr row here person there : Option Slot) : Rho :=
  [some (.d (encNet n gs)), some (.d (encS A)), some (.d (encS (goal n gs))), some (.m f), some (.d (.list last)), fr, row, here, person, there, none]
theorem lx_ne : ∀ {a b : List Int}, lx a b → a ≠ b
  | x :: a, y :: b, h, e => by
    injection e with e1 e2
    rcases h with h | h
    · omega
    · exact lx_ne h.2 e2
  | [], _, h, _ => h.elim
  | _ :: _, [], h, _ => h.elim
theorem lost_of {n : Nat} {gs : List (List Int)} {cs : List Int} (N : NetOk n gs) : GLost [encS (wk n gs cs), encS (goal n gs)] (.bool (lost (wk n gs cs) (goal n gs))) := by
  have n3 := N.n3
  have g4 := N.g4
  refine ⟨_, _, rfl, ?_, fun st hst => by have := (wk_st hst).1; omega, rfl⟩
  rw [wk_len]
  have : 2 ^ n ≤ 2 ^ 3 := Nat.pow_le_pow_right (by decide) n3
  omega
section
variable {P : Program} {w : World} {K : PySem.W.Frag} {mg : Str → Option Value} {base : Heap}
theorem w_least_from (B : BI mg) (Cn : CI mg) (D : DefAt K mg "least_from" (topS 30) ["net", "first"]) (C1 : Callee P w K mg base "goal_of" 2 ["net"] GGoal) (C2 : Callee P w K mg base "size_of" 1 ["net"] GSize) (C3 : Callee P w K mg base "all_call" 3 ["net", "states", "person"] GAll) (C4 : Callee P w K mg base "is_lost" 1 ["states", "goal"] GLost) :
    Callee P w K mg base "least_from" 4 ["net", "first"] GLeast :=
  callee_of D fun f fd F => fn_ok F (N := ["net", "first", "goal", "found", "last", "fresh", "row", "here", "person", "there", "some"]) ⟨rfl, rfl, rfl, by decide +kernel, rfl, by decide +kernel, by decide +kernel⟩ (fun xs z h => by obtain ⟨n, gs, cs, R, rfl, _⟩ := h; rfl) fun cdv A outer s H E hr xs z h => by
    obtain ⟨n, gs, cs, R, rfl, N, h0, hR, rfl⟩ := h
    have h0' : lostG n gs (wk n gs cs) = false := by
      have := h0
      unfold Wc at this
      rw [List.append_nil] at this
      exact this
    obtain ⟨NN, R', n7, hN, hk, r1, r2, _⟩ := least_both (goes N cs h0')
    have n3 := N.n3
    have g4 := N.g4
    rw [hR] at r2
    have r2 := Option.some.inj r2
    subst r2
    have hD := Wc_wk N cs
    have few := bfs_few hD (okP (fun _ => true) (lostG n gs))
    refine dss_cons (ds_set 2 (nodup_of (by kernel_rfl)) rfl (Or.inl rfl) (de_callC (C1.mono (by decide)) hr rfl (da_cons (de_var 0 rfl) da_nil) ⟨n, gs, rfl, N, rfl⟩)) ?_
    refine dss_cons (ds_parOD (i := 3) (j := 4) (fun ta ha mono => par_C rfl (nodup_of (by kernel_rfl)) rfl rfl (Or.inr rfl) (Or.inl rfl) rfl rfl (by first | exact .inl rfl | exact .inr rfl) (by first | exact .inl rfl | exact .inr rfl) ha mono) (do_disp1 hr (de_var 1 rfl) (de_tup da_nil (by decide))) trivial (de_new (do_lst (da_cons (de_var 1 rfl) da_nil) (show 1 ≤ 100000 by decide)))) ?_
    refine dss_cons (ds_while (fun k => lfS n gs (Wc n gs cs []) (kn (Wc n gs cs) encR (bfs (Wc n gs cs) (sz n gs) (okP (fun _ => true) (lostG n gs)) k).1) (encL (Wc n gs cs) (bfs (Wc n gs cs) (sz n gs) (okP (fun _ => true) (lostG n gs)) k).2) none none none none none) NN rfl PassesOwn.never (fun k hkN => ?_) (fun k hkN => ?_)) ?_
    · refine dt_is (dt_dnotin hr (de_var 2 rfl) (dv_var 3 rfl)) ?_
      rw [kn_has]
      by_cases q : k < NN
      · rw [hk k q, decide_eq_true q]; rfl
      · have e : k = NN := by omega
        subst e
        rw [hN, decide_eq_false q]; rfl
    · have b := bi hD (okP (fun _ => true) (lostG n gs)) k
      have bl := b.last
      have bd := b.dis
      have bg := b.good
      clear b
      have up := bfs_up hD (okP (fun _ => true) (lostG n gs)) k
      have few1 := few k
      have few2 : (lvl (Wc n gs cs) (sz n gs) (okP (fun _ => true) (lostG n gs)) ((bfs (Wc n gs cs) (sz n gs) (okP (fun _ => true) (lostG n gs)) k).1, (bfs (Wc n gs cs) (sz n gs) (okP (fun _ => true) (lostG n gs)) k).2)).1.length ≤ 1957 := few (k + 1)
      have nx : bfs (Wc n gs cs) (sz n gs) (okP (fun _ => true) (lostG n gs)) (k + 1) = lvl (Wc n gs cs) (sz n gs) (okP (fun _ => true) (lostG n gs)) ((bfs (Wc n gs cs) (sz n gs) (okP (fun _ => true) (lostG n gs)) k).1, (bfs (Wc n gs cs) (sz n gs) (okP (fun _ => true) (lostG n gs)) k).2) := rfl
      rw [nx]
      clear nx few
      generalize (bfs (Wc n gs cs) (sz n gs) (okP (fun _ => true) (lostG n gs)) k).1 = fo at bl bd bg few1 few2 ⊢
      generalize (bfs (Wc n gs cs) (sz n gs) (okP (fun _ => true) (lostG n gs)) k).2 = la at bl up few2 ⊢
      have la_len : la.length ≤ fo.length := nodup_le (up.imp fun {a b} h e => lx_ne h e) bl
      refine dss_cons (ds_setO 5 (nodup_of (by kernel_rfl)) rfl (Or.inl rfl) (do_lst da_nil (by decide)) trivial) ?_
      refine dss_cons (ds_forN (ts := la) (enc := encP (Wc n gs cs)) (fs := fun r ρ => (ρ.set 6 (some (.d (encR r)))).set 7 (some (.d (encS (Wc n gs cs r))))) (fun i => lfS n gs (Wc n gs cs []) (kn (Wc n gs cs) encR (mid (Wc n gs cs) (sz n gs) (okP (fun _ => true) (lostG n gs)) fo la i).1) (encL (Wc n gs cs) la) (some (.l (encL (Wc n gs cs) (mid (Wc n gs cs) (sz n gs) (okP (fun _ => true) (lostG n gs)) fo la i).2))) none none none none) rfl PassesOwn.never rfl
        (di_list (de_new (do_is (do_sorted hr rfl B.sorted (de_new (do_lcN 10 (ts := la) (enc := fun r => encS (Wc n gs cs r)) (encP (Wc n gs cs)) rfl (nodup_of (by kernel_rfl)) (di_list (de_var 4 rfl)) (blk_of (by kernel_rfl)) (fun _ _ _ _ _ => dg_name 10 (nodup_of (by kernel_rfl)) rfl (Or.inl rfl)) (fun _ _ _ _ _ r hr' => de_tup (da_cons (de_dget hr (dv_var 3 rfl) (de_var 10 rfl) (by rw [kn_look, row_self bd (bl r hr')]; rfl) (fun _ _ => rfl)) (da_cons (de_var 10 rfl) da_nil)) (show 2 ≤ 100000 by decide)) (by omega))) pairs_alike pairs_sortable (by omega) (fun r _ => pair_depth r)) (by rw [sorted_same up]))))
        (dg_pair 6 7 rfl (nodup_of (by kernel_rfl)) rfl (Or.inl rfl) rfl (Or.inl rfl)) (fun r _ => ⟨_, _, rfl, rfl⟩) (fun i r hr' => ?_)) ?_
      · refine dss_keep (lfS n gs (Wc n gs cs []) (kn (Wc n gs cs) encR (mid2 (Wc n gs cs) (sz n gs) (okP (fun _ => true) (lostG n gs)) fo la i (List.range (sz n gs)).length r).1) (encL (Wc n gs cs) la) (some (.l (encL (Wc n gs cs) (mid2 (Wc n gs cs) (sz n gs) (okP (fun _ => true) (lostG n gs)) fo la i (List.range (sz n gs)).length r).2))) (some (.d (encR r))) (some (.d (encS (Wc n gs cs r)))) none none) ?_ (dss_one (ds_forN (ts := List.range (sz n gs)) (enc := fun (p : Nat) => PyData.int p) (fs := fun (p : Nat) ρ => ρ.set 8 (some (.d (.int p)))) (fun j => lfS n gs (Wc n gs cs []) (kn (Wc n gs cs) encR (mid2 (Wc n gs cs) (sz n gs) (okP (fun _ => true) (lostG n gs)) fo la i j r).1) (encL (Wc n gs cs) la) (some (.l (encL (Wc n gs cs) (mid2 (Wc n gs cs) (sz n gs) (okP (fun _ => true) (lostG n gs)) fo la i j r).2))) (some (.d (encR r))) (some (.d (encS (Wc n gs cs r)))) none none) rfl PassesOwn.never rfl
          (di_range rfl B.range (de_callC (C2.mono (by decide)) hr rfl (da_cons (de_var 0 rfl) da_nil) ⟨n, gs, rfl, rfl⟩) (by show n + gs.length ≤ 100000; omega)) (dg_name 8 (nodup_of (by kernel_rfl)) rfl (Or.inl rfl)) (fun _ _ => rfl) (fun j p hp => ?_)))
        · rw [List.length_range, mid2_all hr']
          exact ⟨rfl, rfl, rfl, rfl, rfl, rfl, trivial⟩
        · have hj : j < sz n gs := by
            have := (List.getElem?_eq_some_iff.mp hp).1
            rwa [List.length_range] at this
          have e : p = j := by
            rw [List.getElem?_range hj] at hp
            exact (Option.some.inj hp).symm
          subst e
          rw [mid2_next hj]
          have l1 := mid2_le (W := Wc n gs cs) (m := sz n gs) (ok := okP (fun _ => true) (lostG n gs)) (f := fo) (j := p) hr'
          have l2 := mid2_fr (W := Wc n gs cs) (m := sz n gs) (ok := okP (fun _ => true) (lostG n gs)) (f := fo) (j := p) hr'
          have rl := bg r (bl r (List.mem_of_getElem? hr'))
          generalize mid2 (Wc n gs cs) (sz n gs) (okP (fun _ => true) (lostG n gs)) fo la i p r = q at l1 l2 ⊢
          have ht : (!(dlook (kn (Wc n gs cs) encR q.1) (Wc n gs cs (r ++ [(p : Int)]))).isSome && !lost (Wc n gs cs (r ++ [(p : Int)])) (goal n gs)) = (!has (Wc n gs cs) q.1 (Wc n gs cs (r ++ [(p : Int)])) && okP (fun _ => true) (lostG n gs) ((r ++ [(p : Int)]).getLastD 0) (Wc n gs cs (r ++ [(p : Int)]))) := by rw [kn_has]; rfl
          refine dss_keep (lfS n gs (Wc n gs cs []) (kn (Wc n gs cs) encR (add (Wc n gs cs) (okP (fun _ => true) (lostG n gs)) q (r ++ [(p : Int)])).1) (encL (Wc n gs cs) la) (some (.l (encL (Wc n gs cs) (add (Wc n gs cs) (okP (fun _ => true) (lostG n gs)) q (r ++ [(p : Int)])).2))) (some (.d (encR r))) (some (.d (encS (Wc n gs cs r)))) (some (.d (.int p))) (some (.d (encS (Wc n gs cs (r ++ [(p : Int)])))))) ⟨rfl, rfl, rfl, rfl, rfl, rfl, rfl, rfl, trivial⟩ (dss_cons (ds_set 9 (nodup_of (by kernel_rfl)) rfl (Or.inl rfl) (de_callC C3 hr rfl (da_cons (de_var 0 rfl) (da_cons (de_var 7 rfl) (da_cons (de_var 8 rfl) da_nil))) (all_of (row := cs ++ r) N ⟨by omega, by show (p : Int) < ((n + gs.length : Nat) : Int); have : p < n + gs.length := hj; omega⟩ (congrArg encS (Wc_call cs r p).symm)))) (dss_one (ds_if (t := (!(dlook (kn (Wc n gs cs) encR q.1) (Wc n gs cs (r ++ [(p : Int)]))).isSome && !lost (Wc n gs cs (r ++ [(p : Int)])) (goal n gs))) (dt_w (dw_and (dt_dnotin hr (de_var 9 rfl) (dv_var 3 rfl)) fun _ => dw_and1 (dt_not (dt_val (de_callC (C4.mono (by decide)) hr rfl (da_cons (de_var 9 rfl) (da_cons (de_var 2 rfl) da_nil)) (lost_of N)))))) (fun t => ?_) (fun t => ?_))))
          · have hh : has (Wc n gs cs) q.1 (Wc n gs cs (r ++ [(p : Int)])) = false := by
              rw [Bool.and_eq_true, kn_has] at t
              simpa using t.1
            rw [add_yes (ht ▸ t)]
            show DSs _ _ _ (.nx (lfS n gs _ (kn (Wc n gs cs) encR (q.1 ++ [r ++ [(p : Int)]])) _ (some (.l (encL (Wc n gs cs) (q.2 ++ [r ++ [(p : Int)]])))) _ _ _ _))
            rw [← kn_put hh]
            unfold encL
            rw [List.map_append (l₁ := q.2)]
            refine dss_ifF (dt_is (dt_eqI hr (de_dlen B.len rfl (dv_var 3 rfl)) (de_cst rfl Cn.states)) (decide_eq_false (by rw [kn_len]; omega))) (dss_cons (ds_dput hr (dv_var 3 rfl) rfl (de_var 9 rfl) (x := encR (r ++ [(p : Int)])) (de_is (de_tup (da_star (de_var 6 rfl) (da_cons (de_var 8 rfl) da_nil)) ?_) ?_) (by rw [kn_len]; omega)) (dss_one (ds_append 5 (dv_var 5 rfl) rfl (de_var 9 rfl) (by rw [List.length_map]; omega))))
            · have := nod_len (k := 7) rl.1 fun x hx => by
                have := rl.2 x hx
                have : sz n gs ≤ 7 := by show n + gs.length ≤ 7; omega
                omega
              rw [List.length_append, List.length_map]
              show _ + 1 ≤ _
              omega
            · unfold encR
              rw [List.map_append]
              rfl
          · rw [add_no (ht ▸ t)]
            exact dss_nil
      · rw [← mid_all]
        exact dss_post (dss_one (ds_move 4 (nodup_of (by kernel_rfl)) rfl (Or.inl rfl) (dv_var 5 rfl) rfl trivial (by decide))) fun _ _ _ _ _ es => es.freeze (i := 4) rfl
    · exact dss_one (ds_ret (de_dget hr (dv_var 3 rfl) (de_var 2 rfl) (by rw [kn_look, r1]; rfl) (fun _ _ => rfl)))
end
end SG
set_option Elab.async false
set_option linter.all false
set_option maxRecDepth 100000
set_option maxHeartbeats 4000000
/-! Part E6: can_without, must_call, least_right, fewest_calls, mended. -/
namespace SG
open PySem PySem.Spec PyProof.Rows L2 SGM
def outB (n : Nat) (gs : List (List Int)) (p : Int) : Bool := has (Wc n gs []) (bfs (Wc n gs []) (sz n gs) (okL S fun q => decide (q ≠ p)) 9).1 (goal n gs)
def GWithout (xs : List PyData) (z : PyData) : Prop := ∃ n gs p, xs = [encNet n gs, .int p] ∧ NetOk n gs ∧ z = .bool (outB n gs p)
def GMust (xs : List PyData) (z : PyData) : Prop := ∃ n gs, xs = [encNet n gs] ∧ NetOk n gs ∧ z = .tuple (((List.range (sz n gs)).filter fun (p : Nat) => !outB n gs p).map fun (p : Nat) => .int p)
def GRight (xs : List PyData) (z : PyData) : Prop := ∃ n gs R, xs = [encNet n gs] ∧ NetOk n gs ∧ rowAt (Wc n gs []) (bfs (Wc n gs []) (sz n gs) (okL S fun _ => true) 8).1 (goal n gs) = some R ∧ z = encR R
def GFew (xs : List PyData) (z : PyData) : Prop := ∃ n gs R, xs = [encNet n gs] ∧ NetOk n gs ∧ rowAt (Wc n gs []) (bfs (Wc n gs []) (sz n gs) (okL S fun _ => true) 8).1 (goal n gs) = some R ∧ z = .int R.length
def GMend (xs : List PyData) (z : PyData) : Prop := ∃ n gs cs, xs = [encNet n gs, encR cs] ∧ NetOk n gs ∧ RowOk n gs cs ∧ cs.length ≤ 30 ∧ ((lostG n gs (wk n gs cs) = true ∧ z = .none) ∨ (lostG n gs (wk n gs cs) = false ∧ ∃ R, rowAt (Wc n gs cs) (bfs (Wc n gs cs) (sz n gs) (okL S fun _ => true) 8).1 (goal n gs) = some R ∧ z = encR R))
theorem lay_SS : ∀ ss : List S, PyData.canLayAll0 (ss.map encS) = true
  | [] => by simp [PyData.canLayAll0]
  | r :: s => by simp [PyData.canLayAll0, encS, PyData.canLay0, lay_rows r, lay_SS s]
theorem dep_SS : ∀ ss : List S, PyData.depthAll (ss.map encS) ≤ 2
  | [] => by simp [PyData.depthAll]
  | r :: s => by
    have h1 := dep_SS s
    have h2 := dep_rows r
    simp [PyData.depthAll, encS, PyData.depth]
    omega
theorem shaped_SS (ss : List S) : SeqAt.shaped (.list (ss.map encS)) = true := by
  have := dep_SS ss
  simp [SeqAt.shaped, PyData.canLay0, PyData.depth, lay_SS ss]
  omega
theorem shaped_encL (W : List Int → S) (l : Rows) : SeqAt.shaped (.list (encL W l)) = true := by
  have := shaped_SS (l.map W)
  rw [List.map_map] at this
  exact this
theorem eqv_nil {l : List PyData} : PyData.eqv (.list l) (.list []) = l.isEmpty := by
  simp only [PyData.eqv]
  cases l <;> simp [PyData.eqvAll]
abbrev cwS (n : Nat) (gs : List (List Int)) (p : Int) (f : List (S × PyData)) (last : List PyData) (fr here who there : Option Slot) : Rho :=
  [some (.d (encNet n gs)), some (.d (.int p)), some (.d (encS (goal n gs))), some (.m f), some (.d (.list last)), fr, here, who, there]
section
variable {P : Program} {w : World} {K : PySem.W.Frag} {mg : Str → Option Value} {base : Heap}
theorem w_can_without (B : BI mg) (Cn : CI mg) (D : DefAt K mg "can_without" (topS 34) ["net", "person"]) (C0 : Callee P w K mg base "begins" 2 ["net"] GBegins) (C1 : Callee P w K mg base "goal_of" 2 ["net"] GGoal) (C2 : Callee P w K mg base "size_of" 1 ["net"] GSize) (C3 : Callee P w K mg base "all_call" 3 ["net", "states", "person"] GAll) (C4 : Callee P w K mg base "is_lost" 1 ["states", "goal"] GLost) :
    Callee P w K mg base "can_without" 4 ["net", "person"] GWithout :=
  callee_of D fun f fd F => fn_ok F (N := ["net", "person", "goal", "known", "last", "fresh", "here", "who", "there"]) ⟨rfl, rfl, rfl, by decide +kernel, rfl, by decide +kernel, by decide +kernel⟩ (fun xs z h => by obtain ⟨n, gs, p, rfl, _⟩ := h; rfl) fun cdv A outer s H E hr xs z h => by
    obtain ⟨n, gs, pp, rfl, N, rfl⟩ := h
    have h0' : lostG n gs (wk n gs []) = false := begin_not_lost N
    obtain ⟨NN, n7, hk, hN, hE⟩ := without_both (goes N [] h0') (fun q => decide (q ≠ pp))
    have n3 := N.n3
    have g4 := N.g4
    have hD := Wc_wk N []
    have few := bfs_few hD (okP (fun q => decide (q ≠ pp)) (lostG n gs))
    refine dss_cons (ds_set 2 (nodup_of (by kernel_rfl)) rfl (Or.inl rfl) (de_callC (C1.mono (by decide)) hr rfl (da_cons (de_var 0 rfl) da_nil) ⟨n, gs, rfl, N, rfl⟩)) ?_
    refine dss_cons (ds_parOD (i := 3) (j := 4) (fun ta ha mono => par_L rfl (nodup_of (by kernel_rfl)) rfl rfl (by decide) rfl rfl rfl rfl ha mono) (do_disp1 hr (de_callC (C0.mono (by decide)) hr rfl (da_cons (de_var 0 rfl) da_nil) ⟨n, gs, rfl, N, rfl⟩) de_bl) trivial (de_new (do_lst (da_cons (de_callC (C0.mono (by decide)) hr rfl (da_cons (de_var 0 rfl) da_nil) ⟨n, gs, rfl, N, rfl⟩) da_nil) (show 1 ≤ 100000 by decide)))) ?_
    refine dss_cons (ds_while (fun k => cwS n gs pp (kn (Wc n gs []) (fun _ => .bool true) (bfs (Wc n gs []) (sz n gs) (okP (fun q => decide (q ≠ pp)) (lostG n gs)) k).1) (encL (Wc n gs []) (bfs (Wc n gs []) (sz n gs) (okP (fun q => decide (q ≠ pp)) (lostG n gs)) k).2) none none none none) NN rfl PassesOwn.never (fun k hkN => ?_) (fun k hkN => ?_)) ?_
    · refine dt_is (dt_w (dw_and (dt_is (dt_neD hr (shaped_encL _ _) (shaped_SS []) (de_var 4 rfl) (de_new (do_lst da_nil (by decide)))) (congrArg not eqv_nil)) fun _ => dw_and1 (dt_dnotin hr (de_var 2 rfl) (dv_var 3 rfl)))) ?_
      rw [kn_has]
      by_cases q : k < NN
      · obtain ⟨q1, q2⟩ := hk k q
        rw [q2, decide_eq_true q]
        cases e : (bfs (Wc n gs []) (sz n gs) (okP (fun q => decide (q ≠ pp)) (lostG n gs)) k).2 with
        | nil => exact absurd e q1
        | cons a l => rfl
      · have e : k = NN := by omega
        subst e
        rw [decide_eq_false q]
        rcases hN with e | e
        · rw [e]; rfl
        · rw [e, Bool.not_true, Bool.and_false]
    · have b := bi hD (okP (fun q => decide (q ≠ pp)) (lostG n gs)) k
      have bl := b.last
      have bd := b.dis
      have bg := b.good
      clear b
      have up := bfs_up hD (okP (fun q => decide (q ≠ pp)) (lostG n gs)) k
      have few1 := few k
      have few2 : (lvl (Wc n gs []) (sz n gs) (okP (fun q => decide (q ≠ pp)) (lostG n gs)) ((bfs (Wc n gs []) (sz n gs) (okP (fun q => decide (q ≠ pp)) (lostG n gs)) k).1, (bfs (Wc n gs []) (sz n gs) (okP (fun q => decide (q ≠ pp)) (lostG n gs)) k).2)).1.length ≤ 1957 := few (k + 1)
      have nx : bfs (Wc n gs []) (sz n gs) (okP (fun q => decide (q ≠ pp)) (lostG n gs)) (k + 1) = lvl (Wc n gs []) (sz n gs) (okP (fun q => decide (q ≠ pp)) (lostG n gs)) ((bfs (Wc n gs []) (sz n gs) (okP (fun q => decide (q ≠ pp)) (lostG n gs)) k).1, (bfs (Wc n gs []) (sz n gs) (okP (fun q => decide (q ≠ pp)) (lostG n gs)) k).2) := rfl
      rw [nx]
      clear nx few
      generalize (bfs (Wc n gs []) (sz n gs) (okP (fun q => decide (q ≠ pp)) (lostG n gs)) k).1 = fo at bl bd bg few1 few2 ⊢
      generalize (bfs (Wc n gs []) (sz n gs) (okP (fun q => decide (q ≠ pp)) (lostG n gs)) k).2 = la at bl up few2 ⊢
      have la_len : la.length ≤ fo.length := nodup_le (up.imp fun {a b} h e => lx_ne h e) bl
      refine dss_cons (ds_setO 5 (nodup_of (by kernel_rfl)) rfl (Or.inl rfl) (do_lst da_nil (by decide)) trivial) ?_
      refine dss_cons (ds_forN (ts := la) (enc := fun r => encS (Wc n gs [] r)) (fs := fun r ρ => ρ.set 6 (some (.d (encS (Wc n gs [] r))))) (fun i => cwS n gs pp (kn (Wc n gs []) (fun _ => .bool true) (mid (Wc n gs []) (sz n gs) (okP (fun q => decide (q ≠ pp)) (lostG n gs)) fo la i).1) (encL (Wc n gs []) la) (some (.l (encL (Wc n gs []) (mid (Wc n gs []) (sz n gs) (okP (fun q => decide (q ≠ pp)) (lostG n gs)) fo la i).2))) none none none) rfl PassesOwn.never rfl
        (di_list (de_var 4 rfl)) (dg_name 6 (nodup_of (by kernel_rfl)) rfl (Or.inl rfl)) (fun _ _ => rfl) (fun i r hr' => ?_)) ?_
      · refine dss_keep (cwS n gs pp (kn (Wc n gs []) (fun _ => .bool true) (mid2 (Wc n gs []) (sz n gs) (okP (fun q => decide (q ≠ pp)) (lostG n gs)) fo la i (List.range (sz n gs)).length r).1) (encL (Wc n gs []) la) (some (.l (encL (Wc n gs []) (mid2 (Wc n gs []) (sz n gs) (okP (fun q => decide (q ≠ pp)) (lostG n gs)) fo la i (List.range (sz n gs)).length r).2))) (some (.d (encS (Wc n gs [] r)))) none none) ?_ (dss_one (ds_forN (ts := List.range (sz n gs)) (enc := fun (p : Nat) => PyData.int p) (fs := fun (p : Nat) ρ => ρ.set 7 (some (.d (.int p)))) (fun j => cwS n gs pp (kn (Wc n gs []) (fun _ => .bool true) (mid2 (Wc n gs []) (sz n gs) (okP (fun q => decide (q ≠ pp)) (lostG n gs)) fo la i j r).1) (encL (Wc n gs []) la) (some (.l (encL (Wc n gs []) (mid2 (Wc n gs []) (sz n gs) (okP (fun q => decide (q ≠ pp)) (lostG n gs)) fo la i j r).2))) (some (.d (encS (Wc n gs [] r)))) none none) rfl PassesOwn.never rfl
          (di_range rfl B.range (de_callC (C2.mono (by decide)) hr rfl (da_cons (de_var 0 rfl) da_nil) ⟨n, gs, rfl, rfl⟩) (by show n + gs.length ≤ 100000; omega)) (dg_name 7 (nodup_of (by kernel_rfl)) rfl (Or.inl rfl)) (fun _ _ => rfl) (fun j p hp => ?_)))
        · rw [List.length_range, mid2_all hr']
          exact ⟨rfl, rfl, rfl, rfl, rfl, rfl, trivial⟩
        · have hj : j < sz n gs := by
            have := (List.getElem?_eq_some_iff.mp hp).1
            rwa [List.length_range] at this
          have e : p = j := by
            rw [List.getElem?_range hj] at hp
            exact (Option.some.inj hp).symm
          subst e
          rw [mid2_next hj]
          have l1 := mid2_le (W := Wc n gs []) (m := sz n gs) (ok := okP (fun q => decide (q ≠ pp)) (lostG n gs)) (f := fo) (j := p) hr'
          have l2 := mid2_fr (W := Wc n gs []) (m := sz n gs) (ok := okP (fun q => decide (q ≠ pp)) (lostG n gs)) (f := fo) (j := p) hr'
          generalize mid2 (Wc n gs []) (sz n gs) (okP (fun q => decide (q ≠ pp)) (lostG n gs)) fo la i p r = q at l1 l2 ⊢
          have ht : (!decide ((p : Int) = pp) && ((!(dlook (kn (Wc n gs []) (fun _ => .bool true) q.1) (Wc n gs [] (r ++ [(p : Int)]))).isSome) && !lost (Wc n gs [] (r ++ [(p : Int)])) (goal n gs))) = (!has (Wc n gs []) q.1 (Wc n gs [] (r ++ [(p : Int)])) && okP (fun q => decide (q ≠ pp)) (lostG n gs) ((r ++ [(p : Int)]).getLastD 0) (Wc n gs [] (r ++ [(p : Int)]))) := by
            rw [kn_has, lastD]
            unfold okP lostG
            dsimp only
            have : decide ((p : Int) ≠ pp) = !decide ((p : Int) = pp) := by simp
            rw [this]
            cases decide ((p : Int) = pp) <;> cases has (Wc n gs []) q.1 (Wc n gs [] (r ++ [(p : Int)])) <;> rfl
          refine dss_keep (cwS n gs pp (kn (Wc n gs []) (fun _ => .bool true) (add (Wc n gs []) (okP (fun q => decide (q ≠ pp)) (lostG n gs)) q (r ++ [(p : Int)])).1) (encL (Wc n gs []) la) (some (.l (encL (Wc n gs []) (add (Wc n gs []) (okP (fun q => decide (q ≠ pp)) (lostG n gs)) q (r ++ [(p : Int)])).2))) (some (.d (encS (Wc n gs [] r)))) (some (.d (.int p))) (some (.d (encS (Wc n gs [] (r ++ [(p : Int)])))))) ⟨rfl, rfl, rfl, rfl, rfl, rfl, rfl, trivial⟩ (dss_cons (ds_set 8 (nodup_of (by kernel_rfl)) rfl (Or.inl rfl) (de_callC C3 hr rfl (da_cons (de_var 0 rfl) (da_cons (de_var 6 rfl) (da_cons (de_var 7 rfl) da_nil))) (all_of (row := [] ++ r) N ⟨by omega, by show (p : Int) < ((n + gs.length : Nat) : Int); have : p < n + gs.length := hj; omega⟩ (congrArg encS (Wc_call [] r p).symm)))) (dss_one (ds_if (t := (!decide ((p : Int) = pp) && ((!(dlook (kn (Wc n gs []) (fun _ => .bool true) q.1) (Wc n gs [] (r ++ [(p : Int)]))).isSome) && !lost (Wc n gs [] (r ++ [(p : Int)])) (goal n gs)))) (dt_w (dw_and (dt_is (dt_neD hr (shaped_int _) (shaped_int _) (de_var 7 rfl) (de_var 1 rfl)) (congrArg not (eqv_int _ _))) fun _ => dw_and (dt_dnotin hr (de_var 8 rfl) (dv_var 3 rfl)) fun _ => dw_and1 (dt_not (dt_val (de_callC (C4.mono (by decide)) hr rfl (da_cons (de_var 8 rfl) (da_cons (de_var 2 rfl) da_nil)) (lost_of N)))))) (fun t => ?_) (fun t => ?_))))
          · have hh : has (Wc n gs []) q.1 (Wc n gs [] (r ++ [(p : Int)])) = false := by
              rw [Bool.and_eq_true, Bool.and_eq_true, kn_has] at t
              simpa using t.2.1
            rw [add_yes (ht ▸ t)]
            show DSs _ _ _ (.nx (cwS n gs _ (kn (Wc n gs []) (fun _ => .bool true) (q.1 ++ [r ++ [(p : Int)]])) _ (some (.l (encL (Wc n gs []) (q.2 ++ [r ++ [(p : Int)]])))) _ _ _))
            rw [← kn_put hh]
            unfold encL
            rw [List.map_append (l₁ := q.2)]
            exact dss_ifF (dt_is (dt_eqI hr (de_dlen B.len rfl (dv_var 3 rfl)) (de_cst rfl Cn.states)) (decide_eq_false (by rw [kn_len]; omega))) (dss_cons (ds_dput hr (dv_var 3 rfl) rfl (de_var 8 rfl) de_bl (by rw [kn_len]; omega)) (dss_one (ds_append 5 (dv_var 5 rfl) rfl (de_var 8 rfl) (by rw [List.length_map]; omega))))
          · rw [add_no (ht ▸ t)]
            exact dss_nil
      · rw [← mid_all]
        exact dss_post (dss_one (ds_move 4 (nodup_of (by kernel_rfl)) rfl (Or.inl rfl) (dv_var 5 rfl) rfl trivial (by decide))) fun _ _ _ _ _ es => es.freeze (i := 4) rfl
    · refine dss_one (ds_ret (de_is (de_din hr (de_var 2 rfl) (dv_var 3 rfl)) ?_))
      rw [kn_has, hE]
      rfl
theorem w_least_right (B : BI mg) (D : DefAt K mg "least_right" (topS 31) ["net"]) (C1 : Callee P w K mg base "need_net" 3 ["net"] (fun xs z => GNeed xs ∧ z = .none)) (C2 : Callee P w K mg base "begins" 2 ["net"] GBegins) (C3 : Callee P w K mg base "least_from" 4 ["net", "first"] GLeast) : Callee P w K mg base "least_right" 5 ["net"] GRight :=
  callee_of D fun f fd F => fn_ok F (N := ["net"]) ⟨rfl, rfl, rfl, by decide +kernel, rfl, by decide +kernel, by decide +kernel⟩ (fun xs z h => by obtain ⟨n, gs, R, rfl, _⟩ := h; rfl) fun cdv A outer s H E hr xs z h => by
    obtain ⟨n, gs, R, rfl, N, hR, rfl⟩ := h
    exact dss_cons (ds_expr (de_callC (C1.mono (by decide)) hr rfl (da_cons (de_var 0 rfl) da_nil) ⟨⟨n, gs, rfl, N⟩, rfl⟩)) (dss_one (ds_ret (de_callC C3 hr rfl (da_cons (de_var 0 rfl) (da_cons (de_callC (C2.mono (by decide)) hr rfl (da_cons (de_var 0 rfl) da_nil) ⟨n, gs, rfl, N, rfl⟩) da_nil)) ⟨n, gs, [], R, rfl, N, begin_not_lost N, hR, rfl⟩)))
theorem w_fewest (B : BI mg) (D : DefAt K mg "fewest_calls" (topS 32) ["net"]) (C1 : Callee P w K mg base "need_net" 3 ["net"] (fun xs z => GNeed xs ∧ z = .none)) (C2 : Callee P w K mg base "begins" 2 ["net"] GBegins) (C3 : Callee P w K mg base "least_from" 4 ["net", "first"] GLeast) : Callee P w K mg base "fewest_calls" 5 ["net"] GFew :=
  callee_of D fun f fd F => fn_ok F (N := ["net"]) ⟨rfl, rfl, rfl, by decide +kernel, rfl, by decide +kernel, by decide +kernel⟩ (fun xs z h => by obtain ⟨n, gs, R, rfl, _⟩ := h; rfl) fun cdv A outer s H E hr xs z h => by
    obtain ⟨n, gs, R, rfl, N, hR, rfl⟩ := h
    exact dss_cons (ds_expr (de_callC (C1.mono (by decide)) hr rfl (da_cons (de_var 0 rfl) da_nil) ⟨⟨n, gs, rfl, N⟩, rfl⟩)) (dss_one (ds_ret (de_is (de_len rfl B.len (de_callC C3 hr rfl (da_cons (de_var 0 rfl) (da_cons (de_callC (C2.mono (by decide)) hr rfl (da_cons (de_var 0 rfl) da_nil) ⟨n, gs, rfl, N, rfl⟩) da_nil)) ⟨n, gs, [], R, rfl, N, begin_not_lost N, hR, rfl⟩)) (by rw [List.length_map]))))
theorem w_must (B : BI mg) (D : DefAt K mg "must_call" (topS 33) ["net"]) (C1 : Callee P w K mg base "need_net" 3 ["net"] (fun xs z => GNeed xs ∧ z = .none)) (C2 : Callee P w K mg base "size_of" 1 ["net"] GSize) (C3 : Callee P w K mg base "can_without" 4 ["net", "person"] GWithout) : Callee P w K mg base "must_call" 5 ["net"] GMust :=
  callee_of D fun f fd F => fn_ok F (N := ["net", "person"]) ⟨rfl, rfl, rfl, by decide +kernel, rfl, by decide +kernel, by decide +kernel⟩ (fun xs z h => by obtain ⟨n, gs, rfl, _⟩ := h; rfl) fun cdv A outer s H E hr xs z h => by
    obtain ⟨n, gs, rfl, N, rfl⟩ := h
    have n3 := N.n3
    have g4 := N.g4
    exact dss_cons (ds_expr (de_callC (C1.mono (by decide)) hr rfl (da_cons (de_var 0 rfl) da_nil) ⟨⟨n, gs, rfl, N⟩, rfl⟩)) (dss_one (ds_ret (de_tupL rfl B.tuple (de_new (do_lcF 1 (ts := List.range (sz n gs)) (enc := fun (p : Nat) => PyData.int p) (fun (p : Nat) => !outB n gs p) (fun (p : Nat) => .int p) rfl (nodup_of (by kernel_rfl)) (di_range rfl B.range (de_callC (C2.mono (by decide)) hr rfl (da_cons (de_var 0 rfl) da_nil) ⟨n, gs, rfl, rfl⟩) (by show n + gs.length ≤ 100000; omega)) (blk_of (by kernel_rfl)) (fun _ _ _ _ _ => dg_name 1 (nodup_of (by kernel_rfl)) rfl (Or.inl rfl))
      (fun _ _ _ _ _ p _ => dt_not (dt_val (de_callC C3 hr rfl (da_cons (de_var 0 rfl) (da_cons (de_var 1 rfl) da_nil)) ⟨n, gs, p, rfl, N, rfl⟩))) (fun _ _ _ _ _ p _ _ => (de_var 1 rfl)) (by rw [List.length_range]; show n + gs.length ≤ 90000; omega))))))
theorem w_mended (B : BI mg) (D : DefAt K mg "mended" (topS 39) ["net", "calls"]) (C1 : Callee P w K mg base "need_net" 3 ["net"] (fun xs z => GNeed xs ∧ z = .none)) (C2 : Callee P w K mg base "need_calls" 3 ["net", "calls"] (fun xs z => GNeedC xs ∧ z = .none)) (C3 : Callee P w K mg base "walked" 4 ["net", "calls"] GWalk) (C4 : Callee P w K mg base "goal_of" 2 ["net"] GGoal) (C5 : Callee P w K mg base "is_lost" 1 ["states", "goal"] GLost) (C6 : Callee P w K mg base "least_from" 4 ["net", "first"] GLeast) : Callee P w K mg base "mended" 5 ["net", "calls"] GMend :=
  callee_of D fun f fd F => fn_ok F (N := ["net", "calls", "first", "goal"]) ⟨rfl, rfl, rfl, by decide +kernel, rfl, by decide +kernel, by decide +kernel⟩ (fun xs z h => by obtain ⟨n, gs, cs, rfl, _⟩ := h; rfl) fun cdv A outer s H E hr xs z h => by
    obtain ⟨n, gs, cs, rfl, N, rg, hl, hz⟩ := h
    have e0 : Wc n gs cs [] = wk n gs cs := by unfold Wc; rw [List.append_nil]
    refine dss_cons (ds_expr (de_callC (C1.mono (by decide)) hr rfl (da_cons (de_var 0 rfl) da_nil) ⟨⟨n, gs, rfl, N⟩, rfl⟩)) (dss_cons (ds_expr (de_callC (C2.mono (by decide)) hr rfl (da_cons (de_var 0 rfl) (da_cons (de_var 1 rfl) da_nil)) ⟨⟨n, gs, cs, rfl, hl, rg⟩, rfl⟩)) ?_)
    refine dss_cons (ds_parDD (i := 2) (j := 3) (x := encS (Wc n gs cs [])) (fun ta ha mono => par_L rfl (nodup_of (by kernel_rfl)) rfl rfl (by decide) rfl rfl rfl rfl ha mono) (de_callC C3 hr rfl (da_cons (de_var 0 rfl) (da_cons (de_var 1 rfl) da_nil)) ⟨n, gs, cs, rfl, N, rg, by omega, by rw [e0]⟩) (de_callC (C4.mono (by decide)) hr rfl (da_cons (de_var 0 rfl) da_nil) ⟨n, gs, rfl, N, rfl⟩)) ?_
    refine dss_one (ds_ret (de_if (t := lostG n gs (Wc n gs cs [])) (dt_val (de_callC (C5.mono (by decide)) hr rfl (da_cons (de_var 2 rfl) (da_cons (de_var 3 rfl) da_nil)) (lost_of N))) (fun t => ?_) (fun t => ?_)))
    · rcases hz with ⟨_, rfl⟩ | ⟨q, _⟩
      · exact de_non
      · rw [← e0, t] at q; cases q
    · rcases hz with ⟨q, _⟩ | ⟨_, R, hR, rfl⟩
      · rw [← e0, t] at q; cases q
      · exact de_callC C6 hr rfl (da_cons (de_var 0 rfl) (da_cons (de_var 2 rfl) da_nil)) ⟨n, gs, cs, R, rfl, N, t, hR, rfl⟩
end
end SG
set_option Elab.async false
set_option linter.all false
set_option maxRecDepth 100000
set_option maxHeartbeats 4000000
/-! Part E7: count_right. -/
namespace SG
open PySem PySem.Spec PyProof.Rows L2 SGM
def GCount (xs : List PyData) (z : PyData) : Prop := ∃ n gs, ∃ k : Nat, xs = [encNet n gs, .int k] ∧ NetOk n gs ∧ k ≤ 3 ∧ z = .int (cget (cnt n gs k) (goal n gs))
def ck (f : Cnt) : List (S × PyData) := f.map fun y => (y.1, .int y.2)
theorem ck_look {t : S} : ∀ f : Cnt, dlook (ck f) t = (clook f t).map .int
  | [] => rfl
  | y :: f => by
    have ih := ck_look (t := t) f
    unfold dlook ck clook at *
    rw [List.map_cons]
    by_cases e : y.1 = t
    · rw [List.find?_cons_of_pos (by exact decide_eq_true e), List.find?_cons_of_pos (by exact decide_eq_true e)]
      rfl
    · rw [List.find?_cons_of_neg (by simpa using e), List.find?_cons_of_neg (by simpa using e)]
      exact ih
theorem ck_get (f : Cnt) (t : S) : (dlook (ck f) t).getD (.int 0) = .int (cget f t) := by
  rw [ck_look]
  unfold cget
  cases clook f t <;> rfl
theorem ck_put (f : Cnt) (t : S) (v : Int) : dput (ck f) t (.int v) = ck (cput f t v) := by
  unfold dput cput
  rw [ck_look, Option.isSome_map]
  split
  · unfold ck
    rw [List.map_map, List.map_map]
    refine List.map_congr_left fun y _ => ?_
    show (if y.1 = t then (y.1, PyData.int v) else (y.1, PyData.int y.2)) = ((if y.1 = t then (y.1, v) else y).1, PyData.int (if y.1 = t then (y.1, v) else y).2)
    split <;> rfl
  · unfold ck
    rw [List.map_append]
    rfl
theorem ck_len (f : Cnt) : (ck f).length = f.length := List.length_map _
abbrev crS (n : Nat) (gs : List (List Int)) (k : Nat) (f turn later here count person there : Option Slot) : Rho :=
  [some (.d (encNet n gs)), some (.d (.int k)), f, some (.d (encS (goal n gs))), turn, later, here, count, person, there]
section
variable {P : Program} {w : World} {K : PySem.W.Frag} {mg : Str → Option Value} {base : Heap}
theorem w_count_right (B : BI mg) (D : DefAt K mg "count_right" (topS 35) ["net", "many"]) (Cn : Callee P w K mg base "need_net" 3 ["net"] (fun xs z => GNeed xs ∧ z = .none)) (Ci : Callee P w K mg base "is_in" 2 ["value", "least", "most"] GIn) (C0 : Callee P w K mg base "begins" 2 ["net"] GBegins) (C1 : Callee P w K mg base "goal_of" 2 ["net"] GGoal) (C2 : Callee P w K mg base "size_of" 1 ["net"] GSize) (C3 : Callee P w K mg base "all_call" 3 ["net", "states", "person"] GAll) (C4 : Callee P w K mg base "is_lost" 1 ["states", "goal"] GLost) :
    Callee P w K mg base "count_right" 4 ["net", "many"] GCount :=
  callee_of D fun f fd F => fn_ok F (N := ["net", "many", "found", "goal", "turn", "later", "here", "count", "person", "there"]) ⟨rfl, rfl, rfl, by decide +kernel, rfl, by decide +kernel, by decide +kernel⟩ (fun xs z h => by obtain ⟨n, gs, p, rfl, _⟩ := h; rfl) fun cdv A outer s H E hr xs z h => by
    obtain ⟨n, gs, kk, rfl, N, hk3, rfl⟩ := h
    have n3 := N.n3
    have g4 := N.g4
    refine dss_cons (ds_expr (de_callC Cn hr rfl (da_cons (de_var 0 rfl) da_nil) ⟨⟨n, gs, rfl, N⟩, rfl⟩)) ?_
    refine dss_ifF (dt_is (dt_not (t := true) (dt_val (de_is (de_callC (Ci.mono (by decide)) hr rfl (da_cons (de_var 1 rfl) (da_cons de_int (da_cons de_int da_nil))) ⟨_, _, _, rfl, rfl⟩) (congrArg PyData.bool (and_dec (by omega) (by omega)))))) rfl) ?_
    refine dss_cons (ds_parOD (i := 2) (j := 3) (fun ta ha mono => par_L rfl (nodup_of (by kernel_rfl)) rfl rfl (by decide) rfl rfl rfl rfl ha mono) (do_disp1 hr (de_callC (C0.mono (by decide)) hr rfl (da_cons (de_var 0 rfl) da_nil) ⟨n, gs, rfl, N, rfl⟩) de_int) trivial (de_callC (C1.mono (by decide)) hr rfl (da_cons (de_var 0 rfl) da_nil) ⟨n, gs, rfl, N, rfl⟩)) ?_
    refine dss_cons (ds_forN (ts := List.range kk) (enc := fun (i : Nat) => PyData.int i) (fs := fun (a : Nat) ρ => ρ.set 4 (some (.d (.int a)))) (fun k => crS n gs kk (some (.m (ck (cnt n gs k)))) none none none none none none) rfl PassesOwn.never rfl (di_range rfl B.range (de_var 1 rfl) (by omega)) (dg_name 4 (nodup_of (by kernel_rfl)) rfl (Or.inl rfl)) (fun _ _ => rfl) (fun k t ht => ?_)) ?_
    · have hkk : k < kk := by
        have := (List.getElem?_eq_some_iff.mp ht).1
        rwa [List.length_range] at this
      have ok := cnt_ok (n := n) (gs := gs) k
      have len : (cnt n gs k).length ≤ 343 := by
        refine Nat.le_trans (cnt_len k) (Nat.le_trans (Nat.pow_le_pow_left (show sz n gs ≤ 7 by show n + gs.length ≤ 7; omega) k) ?_)
        exact Nat.le_trans (Nat.pow_le_pow_right (by decide) (show k ≤ 3 by omega)) (by decide)
      have nx : cnt n gs (k + 1) = (cnt n gs k).foldl (cturn n gs) [] := rfl
      rw [nx]
      generalize cnt n gs k = fo at ok len ⊢
      refine dss_cons (ds_setO 5 (nodup_of (by kernel_rfl)) rfl (Or.inl rfl) do_dnew trivial) ?_
      refine dss_cons (ρ1 := crS n gs kk none (some (.d (.int t))) (some (.m (ck ((fo.take (ck fo).length).foldl (cturn n gs) [])))) none none none none) (ds_forItems (i := 2) (kvs := ck fo) (fs := fun y ρ => (ρ.set 6 (some (.d (encS y.1)))).set 7 (some (.d y.2))) (fun i => crS n gs kk none (some (.d (.int t))) (some (.m (ck ((fo.take i).foldl (cturn n gs) [])))) none none none none) rfl PassesOwn.never rfl (dv_var 2 rfl) rfl (dg_pair 6 7 rfl (nodup_of (by kernel_rfl)) rfl (Or.inl rfl) rfl (Or.inl rfl)) (fun y _ => ⟨_, _, rfl, rfl⟩) (fun i y hy => ?_)) ?_
      · obtain ⟨y0, hy0, ey⟩ : ∃ y0, fo[i]? = some y0 ∧ y = (y0.1, .int y0.2) := by
          unfold ck at hy
          rw [List.getElem?_map] at hy
          cases q : fo[i]? with
          | none => rw [q] at hy; cases hy
          | some y0 =>
            rw [q] at hy
            exact ⟨y0, rfl, (Option.some.inj hy).symm⟩
        subst ey
        have hi := (List.getElem?_eq_some_iff.mp hy0).1
        obtain ⟨l, el⟩ := ok.of y0.1 (List.mem_map.mpr ⟨y0, List.mem_of_getElem? hy0, rfl⟩)
        have e1 : (fo.take (i + 1)).foldl (cturn n gs) [] = (first (sz n gs)).foldl (cstep n gs y0.1 y0.2) ((fo.take i).foldl (cturn n gs) []) := by
          rw [List.take_add_one, hy0, List.foldl_append]
          rfl
        have alen : ((fo.take i).foldl (cturn n gs) []).length ≤ 343 * 7 := by
          have := turns_len (n := n) (gs := gs) (fo.take i) []
          rw [List.length_nil, Nat.zero_add] at this
          refine Nat.le_trans this (Nat.mul_le_mul ?_ (show sz n gs ≤ 7 by show n + gs.length ≤ 7; omega))
          rw [List.length_take]
          omega
        rw [e1]
        generalize (fo.take i).foldl (cturn n gs) [] = acc at alen ⊢
        refine dss_keep (crS n gs kk none (some (.d (.int t))) (some (.m (ck (((first (sz n gs)).take (List.range (sz n gs)).length).foldl (cstep n gs y0.1 y0.2) acc)))) (some (.d (encS y0.1))) (some (.d (.int y0.2))) none none) ?_ (dss_one (ds_forN (ts := List.range (sz n gs)) (enc := fun (p : Nat) => PyData.int p) (fs := fun (p : Nat) ρ => ρ.set 8 (some (.d (.int p)))) (fun j => crS n gs kk none (some (.d (.int t))) (some (.m (ck (((first (sz n gs)).take j).foldl (cstep n gs y0.1 y0.2) acc)))) (some (.d (encS y0.1))) (some (.d (.int y0.2))) none none) rfl PassesOwn.never rfl
          (di_range rfl B.range (de_callC (C2.mono (by decide)) hr rfl (da_cons (de_var 0 rfl) da_nil) ⟨n, gs, rfl, rfl⟩) (by show n + gs.length ≤ 100000; omega)) (dg_name 8 (nodup_of (by kernel_rfl)) rfl (Or.inl rfl)) (fun _ _ => rfl) (fun j p hp => ?_)))
        · rw [List.length_range, List.take_of_length_le (by rw [first_len]; exact Nat.le_refl _)]
          exact ⟨rfl, rfl, rfl, rfl, rfl, trivial⟩
        · have hj : j < sz n gs := by
            have := (List.getElem?_eq_some_iff.mp hp).1
            rwa [List.length_range] at this
          have e : p = j := by
            rw [List.getElem?_range hj] at hp
            exact (Option.some.inj hp).symm
          subst e
          have e2 : ((first (sz n gs)).take (p + 1)).foldl (cstep n gs y0.1 y0.2) acc = cstep n gs y0.1 y0.2 (((first (sz n gs)).take p).foldl (cstep n gs y0.1 y0.2) acc) p := by
            have hl : (first (sz n gs))[p]? = some (p : Int) := by unfold first; rw [List.getElem?_map, List.getElem?_range hj]; rfl
            rw [List.take_add_one, hl, List.foldl_append]
            rfl
          have blen : (((first (sz n gs)).take p).foldl (cstep n gs y0.1 y0.2) acc).length ≤ 343 * 7 + 7 := by
            have := steps_len (n := n) (gs := gs) (h := y0.1) (c := y0.2) ((first (sz n gs)).take p) acc
            rw [List.length_take, first_len] at this
            have : sz n gs ≤ 7 := by show n + gs.length ≤ 7; omega
            omega
          rw [e2]
          generalize ((first (sz n gs)).take p).foldl (cstep n gs y0.1 y0.2) acc = ac at blen ⊢
          have ea : callA n gs y0.1 p = wk n gs (l ++ [(p : Int)]) := by rw [el, wk_call]
          refine dss_keep (crS n gs kk none (some (.d (.int t))) (some (.m (ck (cstep n gs y0.1 y0.2 ac p)))) (some (.d (encS y0.1))) (some (.d (.int y0.2))) (some (.d (.int p))) (some (.d (encS (wk n gs (l ++ [(p : Int)])))))) ⟨rfl, rfl, rfl, rfl, rfl, rfl, rfl, trivial⟩ (dss_cons (ds_set 9 (nodup_of (by kernel_rfl)) rfl (Or.inl rfl) (de_callC C3 hr rfl (da_cons (de_var 0 rfl) (da_cons (x := encS (wk n gs l)) (de_is (de_var 6 rfl) (by rw [el])) (da_cons (de_var 8 rfl) da_nil))) (all_of (row := l) N ⟨by omega, by show (p : Int) < ((n + gs.length : Nat) : Int); have : p < n + gs.length := hj; omega⟩ (by rw [wk_call])))) (dss_one (ds_if (t := !lostG n gs (wk n gs (l ++ [(p : Int)]))) (dt_not (dt_val (de_callC (C4.mono (by decide)) hr rfl (da_cons (de_var 9 rfl) (da_cons (de_var 3 rfl) da_nil)) (lost_of N)))) (fun t => ?_) (fun t => ?_))))
          · unfold cstep
            rw [ea, if_neg (by simpa using t), ← ck_put]
            exact dss_one (ds_dput hr (dv_var 5 rfl) rfl (de_var 9 rfl) (de_is (de_add (de_is (de_dget2 hr (dv_var 5 rfl) (de_var 9 rfl) de_int ⟨rfl, rfl, rfl, rfl⟩) (ck_get _ _)) (de_var 7 rfl)) rfl) (by rw [ck_len]; omega))
          · unfold cstep
            rw [ea, if_pos (by simpa using t)]
            exact dss_nil
      · rw [ck_len, List.take_length]
        refine dss_keep ((((crS n gs kk none (some (.d (.int t))) (some (.m (ck (fo.foldl (cturn n gs) [])))) none none none none).set 5 none).set 2 (some (.m (ck (fo.foldl (cturn n gs) [])))))) ⟨rfl, rfl, rfl, rfl, trivial⟩ (dss_one (ds_move 2 (nodup_of (by kernel_rfl)) rfl (Or.inl rfl) (dv_var 5 rfl) rfl trivial (by decide)))
    · rw [List.length_range]
      exact dss_one (ds_ret (de_is (de_dget2 hr (dv_var 2 rfl) (de_var 3 rfl) de_int ⟨rfl, rfl, rfl, rfl⟩) (ck_get _ _)))
end
end SG
set_option Elab.async false
set_option linter.all false
set_option maxRecDepth 100000
set_option maxHeartbeats 4000000
/-! Part E8: the law's helpers that change nothing. -/
namespace SG
open PySem PySem.Spec PyProof.Rows L2 SGM
theorem kit2 {K : PySem.W.Frag} {T : String} {b1 b2 : Bool} (h1 : kitB T "tuple" = some b1) (h2 : kitB T "list" = some b2) : PySem.W.kitAny K (.type T) [.type "tuple", .type "list"] = some (b1 || b2) :=
  kitAny_cons (kit_ty h1) (fun e => by rw [e]; exact kitAny_cons (kit_ty h2) (fun e => by rw [e]; rfl) (fun e => by rw [e]; rfl)) (fun e => by rw [e]; rfl)
theorem isx_int {X : Cx} {ρ : Rho} {e : Expr} {i : Int} : kitB "int" "tuple" = some false ∧ kitB "int" "list" = some false ∧ kitB "bool" "tuple" = some false ∧ kitB "bool" "list" = some false ∧ kitB "tuple" "tuple" = some true ∧ kitB "tuple" "list" = some false ∧ kitB "int" "str" = some false ∧ kitB "bool" "str" = some false ∧ kitB "int" "int" = some true ∧ kitB "bool" "int" = some true ∧ kitB "int" "bool" = some false ∧ kitB "bool" "bool" = some true := by decide +kernel
def Flat (x : PyData) : Prop := (∃ i, x = .int i) ∨ ∃ b, x = .bool b
def GAl1 (xs : List PyData) (z : PyData) : Prop := ∃ x, Flat x ∧ xs = [x, x] ∧ z = .bool true
def GAl2 (xs : List PyData) (z : PyData) : Prop := ∃ r : List Int, r.length ≤ 1000 ∧ xs = [encR r, encR r] ∧ z = .bool true
def GWalkL (xs : List PyData) (z : PyData) : Prop := ∃ n gs b cs, xs = [encNet n gs, encR b, encR cs] ∧ NetOk n gs ∧ StB n gs b (begin1 gs b) ∧ RowOk n gs cs ∧ cs.length ≤ 1000 ∧ z = .list ((List.range (cs.length + 1)).map fun k => encR (walk1 n gs (begin1 gs b) (cs.take k)))
def GRound (xs : List PyData) (z : PyData) : Prop := ∃ n gs b st p, xs = [encNet n gs, encR st, encR [p]] ∧ NetOk n gs ∧ StB n gs b st ∧ 0 ≤ p ∧ p < ((n + gs.length : Nat) : Int) ∧ z = encR (call1 n gs st p)
section
variable {P : Program} {w : World} {K : PySem.W.Frag} {mg : Str → Option Value} {base : Heap}
theorem w_alike1 (B : BI mg) (D : DefAt K mg "_law_alike" (topS 42) ["_law_found", "_law_due"]) : Callee P w K mg base "_law_alike" 1 ["_law_found", "_law_due"] GAl1 :=
  callee_of D fun f fd F => fn_ok F (N := ["_law_found", "_law_due", "_law_k"]) ⟨rfl, rfl, rfl, by decide +kernel, rfl, by decide +kernel, by decide +kernel⟩ (fun xs z h => by obtain ⟨x, _, rfl, _⟩ := h; rfl) fun cdv A outer s H E hr xs z h => by
    obtain ⟨x, hx, rfl, rfl⟩ := h
    obtain ⟨k1, k2, k3, k4, k5, k6, k7, k8, k9, k10, k11, k12⟩ := isx_int (X := (cxOf CX0 P w K mg base ["_law_found", "_law_due", "_law_k"] "_law_alike" (defScope (topS 42)) f cdv A outer s H E).nox) (ρ := []) (e := .Name "a" ⟨0, 0, 0, 0⟩) (i := 0)
    rcases hx with ⟨i, rfl⟩ | ⟨b, rfl⟩
    · refine dss_ifF (dt_val (de_isi2 (r := false) rfl B.isinstance (de_var 1 rfl) rfl B.tuple PyProof.Rows.boot_tuple rfl B.list PyProof.Rows.boot_list (fun K => kit2 k1 k2))) (dss_ifF (dt_is (dt_w (dw_or (t := false) (u := false) (dt_is (dt_cmp op_isN pure_isN (de_var 1 rfl) de_non (nomark _)) rfl) fun _ => dw_or1 (dt_val (de_isi (r := false) rfl B.isinstance (de_var 1 rfl) rfl B.str PyProof.Rows.boot_str k7)))) rfl) ?_)
      refine dss_one (ds_ret (de_and (t := true) (u := true) (de_isi (r := true) rfl B.isinstance (de_var 0 rfl) rfl B.int PyProof.Rows.boot_int k9) fun _ => de_and (t := true) (u := true) (de_is (de_eqD hr (shaped_bool false) (shaped_bool false) (de_isi (r := false) rfl B.isinstance (de_var 0 rfl) rfl B.bool PyProof.Rows.boot_bool k11) (de_isi (r := false) rfl B.isinstance (de_var 1 rfl) rfl B.bool PyProof.Rows.boot_bool k11)) (by simp [PyData.eqv])) fun _ => de_one (de_is (de_eqI hr (de_var 0 rfl) (de_var 1 rfl)) (by rw [decide_eq_true rfl]))))
    · refine dss_ifF (dt_val (de_isi2 (r := false) rfl B.isinstance (de_var 1 rfl) rfl B.tuple PyProof.Rows.boot_tuple rfl B.list PyProof.Rows.boot_list (fun K => kit2 k3 k4))) (dss_ifF (dt_is (dt_w (dw_or (t := false) (u := false) (dt_is (dt_cmp op_isN pure_isN (de_var 1 rfl) de_non (nomark _)) rfl) fun _ => dw_or1 (dt_val (de_isi (r := false) rfl B.isinstance (de_var 1 rfl) rfl B.str PyProof.Rows.boot_str k8)))) rfl) ?_)
      refine dss_one (ds_ret (de_and (t := true) (u := true) (de_isi (r := true) rfl B.isinstance (de_var 0 rfl) rfl B.int PyProof.Rows.boot_int k10) fun _ => de_and (t := true) (u := true) (de_is (de_eqD hr (shaped_bool true) (shaped_bool true) (de_isi (r := true) rfl B.isinstance (de_var 0 rfl) rfl B.bool PyProof.Rows.boot_bool k12) (de_isi (r := true) rfl B.isinstance (de_var 1 rfl) rfl B.bool PyProof.Rows.boot_bool k12)) (by simp [PyData.eqv])) fun _ => de_one (de_is (de_eqD hr (shaped_bool b) (shaped_bool b) (de_var 0 rfl) (de_var 1 rfl)) (by simp [PyData.eqv]))))
theorem w_alike2 (B : BI mg) (D : DefAt K mg "_law_alike" (topS 42) ["_law_found", "_law_due"]) (C1 : Callee P w K mg base "_law_alike" 1 ["_law_found", "_law_due"] GAl1) : Callee P w K mg base "_law_alike" 2 ["_law_found", "_law_due"] GAl2 :=
  callee_of D fun f fd F => fn_ok F (N := ["_law_found", "_law_due", "_law_k"]) ⟨rfl, rfl, rfl, by decide +kernel, rfl, by decide +kernel, by decide +kernel⟩ (fun xs z h => by obtain ⟨x, _, rfl, _⟩ := h; rfl) fun cdv A outer s H E hr xs z h => by
    obtain ⟨r, hl, rfl, rfl⟩ := h
    obtain ⟨k1, k2, k3, k4, k5, k6, k7, k8, k9, k10, k11, k12⟩ := isx_int (X := (cxOf CX0 P w K mg base ["_law_found", "_law_due", "_law_k"] "_law_alike" (defScope (topS 42)) f cdv A outer s H E).nox) (ρ := []) (e := .Name "a" ⟨0, 0, 0, 0⟩) (i := 0)
    refine dss_rtN (ds_if (t := true) (dt_val (de_isi2 (r := true) rfl B.isinstance (de_var 1 rfl) rfl B.tuple PyProof.Rows.boot_tuple rfl B.list PyProof.Rows.boot_list (fun K => kit2 k5 k6))) (fun _ => ?_) (fun t => nomatch t))
    refine dss_ifF (dt_is (dt_w (dw_or (t := false) (u := false) (dt_not (t := true) (dt_val (de_isi2 (r := true) rfl B.isinstance (de_var 0 rfl) rfl B.tuple PyProof.Rows.boot_tuple rfl B.list PyProof.Rows.boot_list (fun K => kit2 k5 k6)))) fun _ => dw_or1 (dt_is (dt_neD hr (shaped_bool false) (shaped_bool false) (de_isi (r := false) rfl B.isinstance (de_var 0 rfl) rfl B.list PyProof.Rows.boot_list k6) (de_isi (r := false) rfl B.isinstance (de_var 1 rfl) rfl B.list PyProof.Rows.boot_list k6)) (by simp [PyData.eqv])))) rfl) ?_
    refine dss_ifF (dt_is (dt_neD hr (shaped_int _) (shaped_int _) (de_len rfl B.len (de_var 0 rfl)) (de_len rfl B.len (de_var 1 rfl))) (by simp [PyData.eqv])) ?_
    have hf : (List.range r.length).filter (fun _ => false) = [] := List.filter_eq_nil_iff.mpr fun _ _ => by decide
    refine dss_one (ds_ret (de_is (de_eqD hr (x := .list []) (shaped_L []) (shaped_L []) (de_new (do_is (do_lcF 2 (ts := List.range r.length) (enc := fun (i : Nat) => PyData.int i) (fun _ => false) (fun (i : Nat) => .int i) rfl (nodup_of (by kernel_rfl)) (di_range rfl B.range (de_is (de_len rfl B.len (de_var 1 rfl)) (by rw [List.length_map])) (by omega)) (blk_of (by kernel_rfl)) (fun _ _ _ _ _ => dg_name 2 (nodup_of (by kernel_rfl)) rfl (Or.inl rfl)) (fun _ _ _ _ _ i hi => ?_) (fun _ _ _ _ _ i hi hf => nomatch hf) (by rw [List.length_range]; omega)) (by rw [hf]; rfl))) (de_new (do_lst da_nil (by decide)))) (by simp [PyData.eqv, PyData.eqvAll])))
    have hi := List.mem_range.mp hi
    exact dt_not (t := true) (dt_val (de_callC C1 hr rfl (da_cons (de_at (de_var 0 rfl) (de_var 2 rfl) (atI_map (i := i) rfl (gt_some hi)) (fun _ _ => rfl)) (da_cons (de_at (de_var 1 rfl) (de_var 2 rfl) (atI_map (i := i) rfl (gt_some hi)) (fun _ _ => rfl)) da_nil)) ⟨_, .inl ⟨_, rfl⟩, rfl, rfl⟩))
theorem w_lbits (B : BI mg) (D : DefAt K mg "_law_bits" (topS 44) ["_law_size"]) : Callee P w K mg base "_law_bits" 1 ["_law_size"] GBits :=
  callee_of D fun f fd F => fn_ok F (N := ["_law_size", "_law_found", "_law_turn", "_law_longer", "_law_bits_here"]) ⟨rfl, rfl, rfl, by decide +kernel, rfl, by decide +kernel, by decide +kernel⟩ (fun xs z h => by obtain ⟨n, rfl, _⟩ := h; rfl) fun cdv A outer s H E hr xs z h => by
    obtain ⟨n, rfl, hn, rfl⟩ := h
    refine dss_cons (ds_setO 1 (nodup_of (by kernel_rfl)) rfl (Or.inl rfl) (do_lst (da_cons (de_tup da_nil (by decide)) da_nil) (by decide)) trivial) ?_
    refine dss_freeze 1 rfl (dss_cons (ds_forN (ts := List.range n) (enc := fun (i : Nat) => PyData.int i) (fs := fun (i : Nat) ρ => ρ.set 2 (some (.d (.int i)))) (fun k => [some (.d (.int n)), some (.d (.list ((SGM.allB k).map encR))), none, none, none]) rfl PassesOwn.never rfl (di_range rfl B.range (de_var 0 rfl) (by omega)) (dg_name 2 (nodup_of (by kernel_rfl)) rfl (Or.inl rfl)) (fun _ _ => rfl) (fun k t ht => ?_)) ?_)
    · have hk : k < n := by
        have := (List.getElem?_eq_some_iff.mp ht).1
        rwa [List.length_range] at this
      have hlen : (SGM.allB k).length ≤ 8 := by
        rw [allB_len]
        exact Nat.pow_le_pow_right (n := 2) (by decide) (show k ≤ 3 by omega)
      have hok := allB_ok k
      have nx : SGM.allB (k + 1) = (SGM.allB k).flatMap fun b => [b ++ [0], b ++ [1]] := rfl
      rw [nx]
      generalize SGM.allB k = al at hlen hok ⊢
      have fl : ∀ l : List (List Int), (l.flatMap fun b => [b ++ [0], b ++ [1]]).length = 2 * l.length := fun l => by
        induction l with
        | nil => rfl
        | cons a l ih => rw [List.flatMap_cons, List.length_append, ih, List.length_cons]; simp; omega
      refine dss_cons (ds_setO 3 (nodup_of (by kernel_rfl)) rfl (Or.inl rfl) (do_lst da_nil (by decide)) trivial) ?_
      refine dss_cons (ds_forN (ts := al) (enc := encR) (fs := fun b ρ => ρ.set 4 (some (.d (encR b)))) (fun j => [some (.d (.int n)), some (.d (.list (al.map encR))), some (.d (.int t)), some (.l (((al.take j).flatMap fun b => [b ++ [0], b ++ [1]]).map encR)), none]) rfl PassesOwn.never rfl (di_list (de_var 1 rfl)) (dg_name 4 (nodup_of (by kernel_rfl)) rfl (Or.inl rfl)) (fun _ _ => rfl) (fun j b hb => ?_)) ?_
      · have bl := (hok b (List.mem_of_getElem? hb)).1
        have e : ((al.take (j + 1)).flatMap fun b => [b ++ [0], b ++ [1]]).map encR = ((al.take j).flatMap fun b => [b ++ [0], b ++ [1]]).map encR ++ [encR (b ++ [0]), encR (b ++ [1])] := by
          rw [List.take_add_one, hb, List.flatMap_append, List.map_append]
          simp
        have hz : ∀ x : Int, PyData.tuple (b.map .int ++ [.int x]) = encR (b ++ [x]) := fun x => by unfold encR; rw [List.map_append]; rfl
        refine dss_keep [some (.d (.int n)), some (.d (.list (al.map encR))), some (.d (.int t)), some (.l (((al.take (j + 1)).flatMap fun b => [b ++ [0], b ++ [1]]).map encR)), some (.d (encR b))] ⟨rfl, rfl, rfl, rfl, trivial⟩ (dss_one ?_)
        rw [e]
        refine ds_setO 3 (nodup_of (by kernel_rfl)) rfl (Or.inl rfl) (do_catV (dv_var 3 rfl) rfl (do_lst (da_cons (de_is (de_catT (de_var 4 rfl) (de_tup (da_cons de_int da_nil) (by decide)) ?_) (hz 0)) (da_cons (de_is (de_catT (de_var 4 rfl) (de_tup (da_cons de_int da_nil) (by decide)) ?_) (hz 1)) da_nil)) (show 2 ≤ 100000 by decide)) ?_) trivial
        · rw [List.length_map]; show b.length + 1 ≤ _; omega
        · rw [List.length_map]; show b.length + 1 ≤ _; omega
        · rw [List.length_map, fl, List.length_take]
          show _ + 2 ≤ _
          omega
      · rw [List.take_length]
        refine dss_keep [some (.d (.int n)), some (.d (.list ((al.flatMap fun b => [b ++ [0], b ++ [1]]).map encR))), some (.d (.int t)), none, none] ⟨rfl, rfl, trivial⟩ (dss_post (dss_one (ds_move 1 (nodup_of (by kernel_rfl)) rfl (Or.inl rfl) (dv_var 3 rfl) rfl trivial (by decide))) fun _ _ _ _ _ es => es.freeze (i := 1) rfl)
    · exact dss_one (ds_ret (by rw [List.length_range]; exact (de_var 1 rfl)))
end
end SG
set_option Elab.async false
set_option linter.all false
set_option maxRecDepth 100000
set_option maxHeartbeats 4000000
/-! Part E9: the law's ends, rounds, walks. -/
namespace SG
open PySem PySem.Spec PyProof.Rows L2 SGM
theorem ixN_at {n j : Nat} (hj : j < n) : ixN n (j : Int) = some j := by
  unfold ixN
  rw [if_pos (by omega), if_pos (by omega)]
  simp
theorem filter_any {α : Type} (l : List α) (p : α → Bool) : (l.filter p).isEmpty = !l.any p := by
  induction l with
  | nil => rfl
  | cons a l ih =>
    cases q : p a with
    | true => rw [List.filter_cons_of_pos q, List.any_cons, q]; rfl
    | false => rw [List.filter_cons_of_neg (by rw [q]; decide), List.any_cons, q, ih]; rfl
theorem map_emp {α β : Type} (l : List α) (f : α → β) : (l.map f).isEmpty = l.isEmpty := by cases l <;> rfl
def rnd (n : Nat) (gs : List (List Int)) (st : List Int) (p : Int) (k : Nat) : List Int := (List.range st.length).map fun w => if gt st p.toNat ≠ 0 ∧ w < n + k ∧ (SGM.frs n gs w).contains p = true then 0 else gt st w
theorem rnd_0 {n : Nat} {gs : List (List Int)} {st : List Int} {p : Int} : rnd n gs st p 0 = st := by
  unfold rnd
  refine ext_gt (by rw [List.length_map, List.length_range]) fun i hi => ?_
  rw [List.length_map, List.length_range] at hi
  rw [gt_map hi, if_neg]
  rintro ⟨_, h1, h2⟩
  unfold SGM.frs at h2
  rw [if_neg (by omega)] at h2
  simp at h2
theorem rnd_len {n : Nat} {gs : List (List Int)} {st : List Int} {p : Int} {k : Nat} : (rnd n gs st p k).length = st.length := by unfold rnd; rw [List.length_map, List.length_range]
theorem rnd_all {n : Nat} {gs : List (List Int)} {st : List Int} {p : Int} (hl : st.length = n + gs.length) : rnd n gs st p gs.length = call1 n gs st p := by
  refine ext_gt (by rw [rnd_len, call1_len]) fun i hi => ?_
  rw [rnd_len] at hi
  rw [call1_gt]
  unfold rnd
  rw [gt_map hi]
  by_cases c : gt st p.toNat ≠ 0 ∧ (SGM.frs n gs i).contains p = true
  · rw [if_pos c, if_pos ⟨c.1, by omega, c.2⟩]
  · rw [if_neg c, if_neg fun z => c ⟨z.1, z.2.2⟩]
theorem rnd_next {n : Nat} {gs : List (List Int)} {st : List Int} {p : Int} {k : Nat} {near : List Int} (hl : st.length = n + gs.length) (hk : gs[k]? = some near) :
    rnd n gs st p (k + 1) = if gt st p.toNat ≠ 0 ∧ near.contains p = true then (rnd n gs st p k).set (n + k) 0 else rnd n gs st p k := by
  have hkl := (List.getElem?_eq_some_iff.mp hk).1
  have ef : SGM.frs n gs ((n + k : Nat) : Int) = near := by
    unfold SGM.frs
    rw [if_pos (by omega), List.getD_eq_getElem?_getD, show (((n + k : Nat) : Int) - (n : Int)).toNat = k by omega, hk]
    rfl
  refine ext_gt (by split <;> simp [rnd_len]) fun i hi => ?_
  rw [rnd_len] at hi
  have eg : ∀ k, gt (rnd n gs st p k) i = if gt st p.toNat ≠ 0 ∧ i < n + k ∧ (SGM.frs n gs i).contains p = true then 0 else gt st i := fun k => by unfold rnd; rw [gt_map hi]
  rw [eg]
  by_cases c : gt st p.toNat ≠ 0 ∧ near.contains p = true
  · rw [if_pos c]
    by_cases e : i = n + k
    · subst e
      rw [if_pos ⟨c.1, by omega, by rw [ef]; exact c.2⟩]
      unfold gt
      rw [List.getD_eq_getElem?_getD, List.getElem?_set_self (by rw [rnd_len]; exact hi)]
      rfl
    · have : gt ((rnd n gs st p k).set (n + k) 0) i = gt (rnd n gs st p k) i := by
        unfold gt
        rw [List.getD_eq_getElem?_getD, List.getD_eq_getElem?_getD, List.getElem?_set_ne (by omega)]
      rw [this, eg]
      by_cases q : gt st p.toNat ≠ 0 ∧ i < n + k ∧ (SGM.frs n gs i).contains p = true
      · rw [if_pos q, if_pos ⟨q.1, by omega, q.2.2⟩]
      · rw [if_neg q, if_neg fun z => q ⟨z.1, by omega, z.2.2⟩]
  · rw [if_neg c, eg]
    by_cases q : gt st p.toNat ≠ 0 ∧ i < n + k ∧ (SGM.frs n gs i).contains p = true
    · rw [if_pos q, if_pos ⟨q.1, by omega, q.2.2⟩]
    · rw [if_neg q, if_neg]
      rintro ⟨z1, z2, z3⟩
      by_cases e : i = n + k
      · subst e
        rw [ef] at z3
        exact c ⟨z1, z3⟩
      · exact q ⟨z1, by omega, z3⟩
def badL (n : Nat) (gs : List (List Int)) (cs b : List Int) : List Nat := (List.range (n + gs.length)).filter fun (i : Nat) => decide (gt (walk1 n gs (begin1 gs b) cs) i ≠ gt (endIn gs b) i)
def bad (n : Nat) (gs : List (List Int)) (cs b : List Int) : Bool := decide (walk1 n gs (begin1 gs b) cs ≠ endIn gs b)
def badZ (n : Nat) (gs : List (List Int)) (cs b : List Int) : PyData := .tuple [encR b, .int ((badL n gs cs b).headD 0 : Nat)]
def wz (n : Nat) (gs : List (List Int)) (cs : List Int) : PyData := match (SGM.allB n).find? (bad n gs cs) with
  | none => .none
  | some b => badZ n gs cs b
def GWrong (xs : List PyData) (z : PyData) : Prop := ∃ n gs cs, xs = [encNet n gs, encR cs] ∧ NetOk n gs ∧ RowOk n gs cs ∧ cs.length ≤ 1000 ∧ z = wz n gs cs
theorem bad_iff {n : Nat} {gs : List (List Int)} {cs b : List Int} (h1 : b.length = n) (h2 : Bin b) : (!(badL n gs cs b).isEmpty) = bad n gs cs b := by
  have sw := ((StB.start (gs := gs) h1 h2).walk cs).len
  have se := endIn_len (gs := gs) b
  unfold badL bad
  rw [filter_any, Bool.not_not]
  by_cases e : walk1 n gs (begin1 gs b) cs = endIn gs b
  · rw [e, decide_eq_false (fun z => z rfl)]
    simp
  · rw [decide_eq_true e, List.any_eq_true]
    by_cases q : ∃ i, i < n + gs.length ∧ gt (walk1 n gs (begin1 gs b) cs) i ≠ gt (endIn gs b) i
    · obtain ⟨i, hi, hq⟩ := q
      exact ⟨i, List.mem_range.mpr hi, decide_eq_true hq⟩
    · refine absurd (ext_gt (by rw [sw, se, h1]) fun i hi => ?_) e
      by_cases z : gt (walk1 n gs (begin1 gs b) cs) i = gt (endIn gs b) i
      · exact z
      · exact absurd ⟨i, by omega, z⟩ q
theorem wz_none {n : Nat} {gs : List (List Int)} {cs : List Int} : isNone (wz n gs cs) = decide (wk n gs cs = goal n gs) := by
  unfold wz
  cases hf : (SGM.allB n).find? (bad n gs cs) with
  | none =>
    have h := List.find?_eq_none.mp hf
    rw [decide_eq_true]
    · rfl
    · unfold wk goal
      refine List.map_congr_left fun b hb => ?_
      have := h b hb
      unfold bad at this
      simpa using this
  | some b =>
    have h1 := List.find?_some hf
    have h2 := List.mem_of_find?_eq_some hf
    rw [decide_eq_false]
    · rfl
    · intro e
      unfold wk goal at e
      have := List.map_inj_left.mp e b h2
      unfold bad at h1
      exact (of_decide_eq_true h1) this
theorem first_is {α : Type} {p : α → Bool} {d : α} : ∀ {l : List α} {a : α} {k : Nat}, l.find? p = some a → k < l.length → p (l.getD k d) = true → (∀ j, j < k → p (l.getD j d) = false) → l.getD k d = a
  | [], _, _, h, _, _, _ => by cases h
  | x :: l, a, 0, h, _, q, _ => by
    have q : p x = true := q
    rw [List.find?_cons_of_pos q] at h
    exact Option.some.inj h
  | x :: l, a, k + 1, h, hk, q, hj => by
    have h0 : p x = false := hj 0 (by omega)
    rw [List.find?_cons_of_neg (by rw [h0]; decide)] at h
    exact first_is (l := l) h (by simpa using hk) q fun j hj' => hj (j + 1) (by omega)
theorem shaped_nats (l : List Nat) : SeqAt.shaped (.list (l.map fun (i : Nat) => PyData.int i)) = true := by
  have := shaped_L (l.map fun (i : Nat) => (i : Int))
  rw [List.map_map] at this
  exact this
/-- the body of a def's first statement, a for -/
def forBody (st : Stmt) : List Stmt := match defBody st with
  | .For _ _ b _ _ :: _ => b
  | _ => []
section
variable {X : Cx} {ρ : Rho} {elt iter : Expr} {scope : Scope} {pos : Pos}
/-- name = [elt for x in iter if test] on one line -/
theorem ds_setLcF {τ : Type} {ts : List τ} {enc : τ → PyData} (i j : Nat) {n1 nm : Str} {py p1 spos : Pos} {c : Expr} (p : τ → Bool) (g : τ → PyData) (hc : X.calm = true) (hN : X.N.Nodup) (hy : X.N[i]? = some n1) (hyl : X.env.scope.names.lookup n1 = some .local)
    (hsw : swapsWith (.ListComp elt [⟨.Name nm p1, iter, [c], 0⟩] scope pos) (some (.Name n1 py)) spos.line X.env = pure true) (hi : DI X (.Name nm p1) iter ρ (ts.map enc)) (ok : BlkOk X.N X.env.scope scope [(nm, j)])
    (hx : ∀ (s : Shared) (H : Hp) (C : Addr) (cl : List (Str × Addr)) (fp : List Addr), DG (X.blk s H scope (compEnvC scope cl C X.env) fp) (.Name nm p1) (tgN j) [j])
    (ht : ∀ (s : Shared) (H : Hp) (C : Addr) (cl : List (Str × Addr)) (fp : List Addr), ∀ t ∈ ts, DT (X.blk s H scope (compEnvC scope cl C X.env) fp) c ((ρ.set j none).set j (some (.d (enc t)))) (p t))
    (he : ∀ (s : Shared) (H : Hp) (C : Addr) (cl : List (Str × Addr)) (fp : List Addr), ∀ t ∈ ts, p t = true → DE (X.blk s H scope (compEnvC scope cl C X.env) fp) elt ((ρ.set j none).set j (some (.d (enc t)))) (g t))
    (hz : ts.length ≤ 90000) (hs : ∀ x, foldedSetIterable iter X.env x = pure x := by intro _; rfl) : DS X (.Assign [.Name n1 py] (.ListComp elt [⟨.Name nm p1, iter, [c], 0⟩] scope pos) spos) ρ (.nx (ρ.set i (some (.l ((ts.filter p).map g))))) :=
  ds_setLc i hc hN hy hyl hsw hi ok (fs := fun t ρ => ρ.set j (some (.d (enc t)))) ⟨hx, fun k hk => by simpa using hk, fun t _ => rfl, fun s H C cl fp t h => dts_one (ht s H C cl fp t h), fun s H C cl fp t h => he s H C cl fp t h⟩ hz hs
end
section
variable {P : Program} {w : World} {K : PySem.W.Frag} {mg : Str → Option Value} {base : Heap}
theorem w_lend (B : BI mg) (D : DefAt K mg "_law_end" (topS 45) ["_law_net_here", "_law_bits_here"]) : Callee P w K mg base "_law_end" 1 ["_law_net_here", "_law_bits_here"] GStand :=
  callee_of D fun f fd F => fn_ok F (N := ["_law_net_here", "_law_bits_here", "_law_found", "_law_near", "_law_who"]) ⟨rfl, rfl, rfl, by decide +kernel, rfl, by decide +kernel, by decide +kernel⟩ (fun xs z h => by obtain ⟨n, gs, b, rfl, _⟩ := h; rfl) fun cdv A outer s H E hr xs z h => by
    obtain ⟨n, gs, b, rfl, N, hb, rfl⟩ := h
    refine dss_cons (ds_setO 2 (nodup_of (by kernel_rfl)) rfl (Or.inr rfl) (do_list rfl B.list PyProof.Rows.boot_list (de_var 1 rfl)) trivial) ?_
    refine dss_cons (ds_forN (ts := gs) (enc := encR) (fs := fun g ρ => ρ.set 3 (some (.d (encR g)))) (fun k => [some (.d (encNet n gs)), some (.d (encR b)), some (.l ((endIn (gs.take k) b).map .int)), none, none]) rfl PassesOwn.never rfl (di_tup (de_at (de_var 0 rfl) de_int rfl (fun _ _ => rfl))) (dg_name 3 (nodup_of (by kernel_rfl)) rfl (Or.inl rfl)) (fun _ _ => rfl) (fun k near hk => ?_)) (dss_one (ds_ret (by rw [List.take_length]; exact de_tupleV rfl B.tuple PyProof.Rows.boot_tuple (dv_var 2 rfl))))
    have hkl := (List.getElem?_eq_some_iff.mp hk).1
    have el : (endIn (gs.take k) b).length = n + k := by rw [endIn_len, hb, List.length_take]; omega
    have es : (endIn (gs.take (k + 1)) b).map PyData.int = (endIn (gs.take k) b).map .int ++ [.int (bitOf (near.any fun o => decide (gt (endIn (gs.take k) b) o.toNat = 1)))] := by
      unfold endIn
      rw [List.take_add_one, hk, List.foldl_append]
      show (endStep _ near).map PyData.int = _
      unfold endStep
      rw [List.map_append]
      rfl
    refine dss_keep [some (.d (encNet n gs)), some (.d (encR b)), some (.l ((endIn (gs.take (k + 1)) b).map .int)), some (.d (encR near)), none] ⟨rfl, rfl, rfl, trivial⟩ (dss_one ?_)
    rw [es]
    have rl := rise_len (a := 0) (b := ((n + k : Nat) : Int)) (N.up near (List.mem_of_getElem? hk)) (N.rg k near hk)
    have n3 := N.n3
    have g4 := N.g4
    refine ds_append 2 (dv_var 2 rfl) rfl (de_is (de_callTy call_int1 pure_intB rfl B.int PyProof.Rows.boot_int (da_cons (de_is (de_eqD hr (shaped_L (near.filter fun o => decide (gt (endIn (gs.take k) b) o.toNat = 1))) (shaped_L []) (de_new (do_lcF 4 (ts := near) (enc := PyData.int) (fun o => decide (gt (endIn (gs.take k) b) o.toNat = 1)) PyData.int rfl (nodup_of (by kernel_rfl)) (di_tup (de_var 3 rfl)) (blk_of (by kernel_rfl)) (fun _ _ _ _ _ => dg_name 4 (nodup_of (by kernel_rfl)) rfl (Or.inl rfl)) (fun _ _ _ _ _ o ho => dt_eqI hr (de_ixV (dv_var 2 rfl) (de_var 4 rfl) (atI_map (i := o.toNat) ?_ ?_) (fun _ _ => rfl)) de_int) (fun _ _ _ _ _ o ho _ => (de_var 4 rfl)) ?_)) (de_new (do_lst da_nil (by decide)))) (congrArg PyData.bool eqv_nil)) da_nil)) ?_) ?_
    · have := (N.rg k near hk o ho).1
      omega
    · have := N.rg k near hk o ho
      exact gt_some (by omega)
    · omega
    · rw [map_emp, filter_any]
      unfold bitOf
      cases near.any fun o => decide (gt (endIn (gs.take k) b) o.toNat = 1) <;> rfl
    · rw [List.length_map, el]
      omega
theorem w_lround (B : BI mg) (D : DefAt K mg "_law_round" (topS 46) ["_law_net_here", "_law_state", "_law_some"]) : Callee P w K mg base "_law_round" 1 ["_law_net_here", "_law_state", "_law_some"] GRound :=
  callee_of D fun f fd F => fn_ok F (N := ["_law_net_here", "_law_state", "_law_some", "_law_active", "_law_later", "_law_at", "_law_who"]) ⟨rfl, rfl, rfl, by decide +kernel, rfl, by decide +kernel, by decide +kernel⟩ (fun xs z h => by obtain ⟨n, gs, b, st, p, rfl, _⟩ := h; rfl) fun cdv A outer s H E hr xs z h => by
    obtain ⟨n, gs, b, st, p, rfl, N, sb, p0, p1, rfl⟩ := h
    have n3 := N.n3
    have g4 := N.g4
    have hl := sb.len
    have hp : st[p.toNat]? = some (gt st p.toNat) := gt_some (by omega)
    have act : ∀ o : Int, ([p].filter fun o => decide (gt st o.toNat = 1)).contains o = (decide (gt st p.toNat ≠ 0) && (p == o)) := fun o => by
      rcases sb.bin p.toNat with e | e
      · rw [List.filter_cons_of_neg (by rw [e]; decide), e]; rfl
      · rw [List.filter_cons_of_pos (by rw [e]; decide), e]
        show (o == p || false) = (true && (p == o))
        rw [Bool.or_false, Bool.true_and, Bool.beq_comm]
    refine dss_cons (ds_parDO (i := 3) (j := 4) (x := .list (([p].filter fun o => decide (gt st o.toNat = 1)).map .int)) (fun ta ha mono => par_C rfl (nodup_of (by kernel_rfl)) rfl rfl (Or.inr rfl) (Or.inl rfl) rfl rfl (by first | exact .inl rfl | exact .inr rfl) (by first | exact .inl rfl | exact .inr rfl) ha mono)
      (de_new (do_lcF 6 (ts := [p]) (enc := PyData.int) (fun o => decide (gt st o.toNat = 1)) PyData.int rfl (nodup_of (by kernel_rfl)) (di_tup (de_var 2 rfl)) (blk_of (by kernel_rfl)) (fun _ _ _ _ _ => dg_name 6 (nodup_of (by kernel_rfl)) rfl (Or.inl rfl)) (fun _ _ _ _ _ o ho => ?_) (fun _ _ _ _ _ o ho _ => (de_var 6 rfl)) (show 1 ≤ 90000 by decide))) (do_list rfl B.list PyProof.Rows.boot_list (de_var 1 rfl)) trivial) ?_
    · have e : o = p := by simpa using ho
      subst e
      exact dt_eqI hr (de_at (de_var 1 rfl) (de_var 6 rfl) (atI_map (i := o.toNat) (by omega) hp) (fun _ _ => rfl)) de_int
    generalize [p].filter (fun o => decide (gt st o.toNat = 1)) = al at act ⊢
    refine dss_cons (ds_forN (ts := List.range gs.length) (enc := fun (i : Nat) => PyData.int i) (fs := fun (i : Nat) ρ => ρ.set 5 (some (.d (.int i)))) (fun k => [some (.d (encNet n gs)), some (.d (encR st)), some (.d (encR [p])), some (.d (.list (al.map .int))), some (.l ((rnd n gs st p k).map .int)), none, none]) (by rw [rnd_0]; rfl) PassesOwn.never rfl (di_range rfl B.range (de_is (de_len rfl B.len (de_at (de_var 0 rfl) de_int rfl (fun _ _ => rfl))) (by rw [List.length_map])) (by omega)) (dg_name 5 (nodup_of (by kernel_rfl)) rfl (Or.inl rfl)) (fun _ _ => rfl) (fun k t ht => ?_)) (dss_one (ds_ret (by rw [List.length_range, rnd_all hl]; exact de_tupleV rfl B.tuple PyProof.Rows.boot_tuple (dv_var 4 rfl))))
    have hk : k < gs.length := by
      have := (List.getElem?_eq_some_iff.mp ht).1
      rwa [List.length_range] at this
    have e : t = k := by
      rw [List.getElem?_range hk] at ht
      exact (Option.some.inj ht).symm
    subst e
    have hg : gs[t]? = some gs[t] := List.getElem?_eq_getElem hk
    generalize gs[t] = near at hg
    have rl := rise_len (a := 0) (b := ((n + t : Nat) : Int)) (N.up near (List.mem_of_getElem? hg)) (N.rg t near hg)
    refine dss_keep [some (.d (encNet n gs)), some (.d (encR st)), some (.d (encR [p])), some (.d (.list (al.map .int))), some (.l ((rnd n gs st p (t + 1)).map .int)), some (.d (.int t)), none] ⟨rfl, rfl, rfl, rfl, rfl, trivial⟩ (dss_one ?_)
    have tt : (!(near.filter fun o => al.contains o).isEmpty) = decide (gt st p.toNat ≠ 0 ∧ near.contains p = true) := by
      rw [filter_any, Bool.not_not]
      rw [Bool.eq_iff_iff, List.any_eq_true, decide_eq_true_iff]
      constructor
      · rintro ⟨o, ho, hc⟩
        rw [act, Bool.and_eq_true] at hc
        have e : p = o := by simpa using hc.2
        exact ⟨of_decide_eq_true hc.1, by rw [e]; simpa using ho⟩
      · rintro ⟨h1, h2⟩
        refine ⟨p, by simpa using h2, ?_⟩
        rw [act, decide_eq_true h1]
        simp
    refine ds_if (t := decide (gt st p.toNat ≠ 0 ∧ near.contains p = true)) (dt_is (dt_neD hr (shaped_L (near.filter fun o => al.contains o)) (shaped_L []) (de_new (do_lcF 6 (ts := near) (enc := PyData.int) (fun o => al.contains o) PyData.int rfl (nodup_of (by kernel_rfl)) (di_tup (de_at (de_at (de_var 0 rfl) de_int rfl (fun _ _ => rfl)) (de_var 5 rfl) (atI_map (i := t) rfl hg) (fun _ _ => rfl))) (blk_of (by kernel_rfl)) (fun _ _ _ _ _ => dg_name 6 (nodup_of (by kernel_rfl)) rfl (Or.inl rfl)) (fun _ _ _ _ _ o ho => dt_inL (de_var 6 rfl) (de_var 3 rfl)) (fun _ _ _ _ _ o ho _ => (de_var 6 rfl)) (by omega))) (de_new (do_lst da_nil (by decide)))) (by rw [show List.map PyData.int [] = [] from rfl, eqv_nil, map_emp, tt])) (fun c => ?_) (fun c => ?_)
    · have c := of_decide_eq_true c
      rw [rnd_next hl hg, if_pos c, List.map_set]
      exact dss_one (ds_setItem (k := ((n + t : Nat) : Int)) (j := n + t) de_int (dv_var 4 rfl) rfl (de_is (de_add (de_at (de_var 0 rfl) de_int rfl (fun _ _ => rfl)) (de_var 5 rfl)) rfl) (ixN_at (by rw [List.length_map, rnd_len]; omega)))
    · have c := of_decide_eq_false c
      rw [rnd_next hl hg, if_neg c]
      exact dss_nil
theorem w_lwalk (B : BI mg) (D : DefAt K mg "_law_walk" (topS 47) ["_law_net_here", "_law_bits_here", "_law_calls"]) (C1 : Callee P w K mg base "_law_round" 1 ["_law_net_here", "_law_state", "_law_some"] GRound) : Callee P w K mg base "_law_walk" 2 ["_law_net_here", "_law_bits_here", "_law_calls"] GWalkL :=
  callee_of D fun f fd F => fn_ok F (N := ["_law_net_here", "_law_bits_here", "_law_calls", "_law_found", "_law_person"]) ⟨rfl, rfl, rfl, by decide +kernel, rfl, by decide +kernel, by decide +kernel⟩ (fun xs z h => by obtain ⟨n, gs, b, cs, rfl, _⟩ := h; rfl) fun cdv A outer s H E hr xs z h => by
    obtain ⟨n, gs, b, cs, rfl, N, sb, rg, hl, rfl⟩ := h
    have n3 := N.n3
    have g4 := N.g4
    have bl := sb.bl
    have e1 : (List.replicate ((gs.map encR).length : Int).toNat [PyData.int 1]).flatten = (List.replicate gs.length 1).map .int := by
      rw [List.length_map, Int.toNat_natCast, List.flatten_replicate_singleton, List.map_replicate]
    refine dss_cons (ds_setO (s := .l [encR (begin1 gs b)]) 3 (nodup_of (by kernel_rfl)) rfl (Or.inl rfl) (do_lst (da_cons (de_is (de_catT (de_var 1 rfl) (de_op op_rep3 (pure_rep3 (by simp) (by omega) (by rw [List.length_map]; omega) (by decide)) (de_tup (da_cons de_int da_nil) (by decide)) (de_len rfl B.len (de_at (de_var 0 rfl) de_int rfl (fun _ _ => rfl)))) ?_) ?_) da_nil) (show 1 ≤ 100000 by decide)) trivial) ?_
    · rw [e1, List.length_map, List.length_map, List.length_replicate]
      omega
    · rw [e1, ← List.map_append]
      rfl
    refine dss_cons (ds_forN (ts := cs) (enc := PyData.int) (fs := fun c ρ => ρ.set 4 (some (.d (.int c)))) (fun k => [some (.d (encNet n gs)), some (.d (encR b)), some (.d (encR cs)), some (.l ((List.range (k + 1)).map fun k => encR (walk1 n gs (begin1 gs b) (cs.take k)))), none]) rfl PassesOwn.never rfl (di_tup (de_var 2 rfl)) (dg_name 4 (nodup_of (by kernel_rfl)) rfl (Or.inl rfl)) (fun _ _ => rfl) (fun k c hc => ?_)) (dss_one (ds_retV (dv_var 3 rfl) rfl))
    have r := rg c (List.mem_of_getElem? hc)
    have hk := (List.getElem?_eq_some_iff.mp hc).1
    have ew : walk1 n gs (begin1 gs b) (cs.take (k + 1)) = call1 n gs (walk1 n gs (begin1 gs b) (cs.take k)) c := by rw [List.take_add_one, hc, walk1_app]; rfl
    have el : ∀ k, (List.range (k + 1)).map (fun k => encR (walk1 n gs (begin1 gs b) (cs.take k))) = (List.range k).map (fun k => encR (walk1 n gs (begin1 gs b) (cs.take k))) ++ [encR (walk1 n gs (begin1 gs b) (cs.take k))] := fun k => by rw [List.range_succ, List.map_append]; rfl
    refine dss_keep [some (.d (encNet n gs)), some (.d (encR b)), some (.d (encR cs)), some (.l ((List.range (k + 1 + 1)).map fun k => encR (walk1 n gs (begin1 gs b) (cs.take k)))), some (.d (.int c))] ⟨rfl, rfl, rfl, rfl, trivial⟩ (dss_one ?_)
    rw [el (k + 1), ew]
    refine ds_append 3 (dv_var 3 rfl) rfl (de_callC C1 hr rfl (da_cons (de_var 0 rfl) (da_cons (de_ixV (z := encR (walk1 n gs (begin1 gs b) (cs.take k))) (dv_var 3 rfl) (de_neg de_int) ?_ (fun _ _ => rfl)) (da_cons (de_tup (da_cons (de_var 4 rfl) da_nil) (show 1 ≤ 100000 by decide)) da_nil))) ⟨n, gs, b, _, c, rfl, N, sb.walk _, r.1, r.2, rfl⟩) ?_
    · rw [el k]
      exact atI_last _ _
    · rw [List.length_map, List.length_range]
      omega
theorem w_lwrong (B : BI mg) (D : DefAt K mg "_law_wrong" (topS 49) ["_law_net_here", "_law_calls"]) (C1 : Callee P w K mg base "_law_bits" 1 ["_law_size"] GBits) (C2 : Callee P w K mg base "_law_walk" 2 ["_law_net_here", "_law_bits_here", "_law_calls"] GWalkL) (C3 : Callee P w K mg base "_law_end" 1 ["_law_net_here", "_law_bits_here"] GStand) : Callee P w K mg base "_law_wrong" 3 ["_law_net_here", "_law_calls"] GWrong :=
  callee_of D fun f fd F => fn_ok F (N := ["_law_net_here", "_law_calls", "_law_bits_here", "_law_there", "_law_end_here", "_law_some", "_law_who"]) ⟨rfl, rfl, rfl, by decide +kernel, rfl, by decide +kernel, by decide +kernel⟩ (fun xs z h => by obtain ⟨n, gs, cs, rfl, _⟩ := h; rfl) fun cdv A outer s H E hr xs z h => by
    obtain ⟨n, gs, cs, rfl, N, rg, hl, rfl⟩ := h
    have n3 := N.n3
    have g4 := N.g4
    have turn : ∀ (k : Nat) (b : List Int), (SGM.allB n)[k]? = some b → ∀ out, out = (if bad n gs cs b = true then Out.rt (badZ n gs cs b) else Out.nx [some (.d (encNet n gs)), some (.d (encR cs)), none, none, none, none, none]) → DSs (cxOf CX0 P w K mg base ["_law_net_here", "_law_calls", "_law_bits_here", "_law_there", "_law_end_here", "_law_some", "_law_who"] "_law_wrong" (defScope (topS 49)) f cdv A outer s H E).nox (forBody (topS 49)) [some (.d (encNet n gs)), some (.d (encR cs)), some (.d (encR b)), none, none, none, none] out := by
      intro k b hb out ho
      subst ho
      obtain ⟨b1, b2⟩ := allB_ok n b (List.mem_of_getElem? hb)
      have sb := StB.start (gs := gs) b1 b2
      have sw := (sb.walk cs).len
      have se := endIn_len (gs := gs) b
      refine dss_cons (ds_parDD (i := 3) (j := 4) (x := encR (walk1 n gs (begin1 gs b) cs)) (y := encR (endIn gs b)) (fun ta ha mono => par_C rfl (nodup_of (by kernel_rfl)) rfl rfl (Or.inr rfl) (Or.inr rfl) rfl rfl (by first | exact .inl rfl | exact .inr rfl) (by first | exact .inl rfl | exact .inr rfl) ha mono) (de_ix ix_list (pure_ixL ?_) (de_callC C2 hr rfl (da_cons (de_var 0 rfl) (da_cons (de_var 2 rfl) (da_cons (de_var 1 rfl) da_nil))) ⟨n, gs, b, cs, rfl, N, sb, rg, hl, rfl⟩) (de_neg de_int) (fun _ _ => rfl)) (de_callC (C3.mono (by decide)) hr rfl (da_cons (de_var 0 rfl) (da_cons (de_var 2 rfl) da_nil)) ⟨n, gs, b, rfl, N, b1, rfl⟩)) ?_
      · rw [List.range_succ, List.map_append, List.map_cons, List.take_length]
        exact atI_last _ _
      refine dss_cons (ds_setLcF 5 6 (ts := List.range (n + gs.length)) (enc := fun (i : Nat) => PyData.int i) (fun (i : Nat) => decide (gt (walk1 n gs (begin1 gs b) cs) i ≠ gt (endIn gs b) i)) (fun (i : Nat) => PyData.int i) rfl (nodup_of (by kernel_rfl)) rfl rfl rfl (di_range rfl B.range (de_is (de_len rfl B.len (de_var 4 rfl)) (by rw [List.length_map, se, b1])) (by omega)) (blk_of (by kernel_rfl)) (fun _ _ _ _ _ => dg_name 6 (nodup_of (by kernel_rfl)) rfl (Or.inl rfl)) (fun _ _ _ _ _ i hi => ?_) (fun _ _ _ _ _ i hi _ => (de_var 6 rfl)) (by rw [List.length_range]; omega)) ?_
      · have hi := List.mem_range.mp hi
        refine dt_is (dt_neD hr (shaped_int _) (shaped_int _) (de_at (de_var 3 rfl) (de_var 6 rfl) (atI_map (i := i) rfl (gt_some (by omega))) (fun _ _ => rfl)) (de_at (de_var 4 rfl) (de_var 6 rfl) (atI_map (i := i) rfl (gt_some (by omega))) (fun _ _ => rfl))) ?_
        rw [eqv_int]
        simp
      refine dss_freeze 5 rfl ?_
      have eb : (!(badL n gs cs b).isEmpty) = bad n gs cs b := bad_iff b1 b2
      by_cases q : bad n gs cs b = true
      · rw [if_pos q]
        rw [q] at eb
        refine dss_ifT (dt_is (dt_neD hr (shaped_nats (badL n gs cs b)) (shaped_L []) (de_var 5 rfl) (de_new (do_lst da_nil (by decide)))) (by rw [show List.map PyData.int [] = [] from rfl, eqv_nil, map_emp]; exact eb)) (dss_one (ds_ret (de_tup (da_cons (de_var 2 rfl) (da_cons (de_ix ix_list (pure_ixL ?_) (de_var 5 rfl) de_int (fun _ _ => rfl)) da_nil)) (show 2 ≤ 100000 by decide))))
        show atI ((badL n gs cs b).map fun (i : Nat) => PyData.int i) 0 = some (.int ((badL n gs cs b).headD 0 : Nat))
        cases e : badL n gs cs b with
        | nil => rw [e] at eb; cases eb
        | cons a l => exact atI_map (i := 0) rfl rfl
      · rw [if_neg q]
        have q : bad n gs cs b = false := by simpa using q
        rw [q] at eb
        refine dss_keep [some (.d (encNet n gs)), some (.d (encR cs)), some (.d (encR b)), some (.d (encR (walk1 n gs (begin1 gs b) cs))), some (.d (encR (endIn gs b))), some (.d (.list ((badL n gs cs b).map fun (i : Nat) => PyData.int i))), none] ⟨rfl, rfl, trivial⟩ (dss_ifF (dt_is (dt_neD hr (shaped_nats (badL n gs cs b)) (shaped_L []) (de_var 5 rfl) (de_new (do_lst da_nil (by decide)))) (by rw [show List.map PyData.int [] = [] from rfl, eqv_nil, map_emp]; exact eb)) dss_nil)
    cases hf : (SGM.allB n).find? (bad n gs cs) with
    | none =>
      have hz : wz n gs cs = .none := by unfold wz; rw [hf]
      rw [hz]
      refine dss_cons (ds_forN (ts := SGM.allB n) (enc := encR) (fs := fun b ρ => ρ.set 2 (some (.d (encR b)))) (fun k => [some (.d (encNet n gs)), some (.d (encR cs)), none, none, none, none, none]) rfl PassesOwn.never rfl (di_list (de_callC (C1.mono (by decide)) hr rfl (da_cons (de_at (de_var 0 rfl) de_int rfl (fun _ _ => rfl)) da_nil) ⟨n, rfl, n3, rfl⟩)) (dg_name 2 (nodup_of (by kernel_rfl)) rfl (Or.inl rfl)) (fun _ _ => rfl) (fun k b hb => turn k b hb _ ?_)) (dss_one (ds_ret de_non))
      rw [if_neg]
      exact List.find?_eq_none.mp hf b (List.mem_of_getElem? hb)
    | some b0 =>
      have hz : wz n gs cs = badZ n gs cs b0 := by unfold wz; rw [hf]
      rw [hz]
      refine dss_rtN (ds_for (ts := SGM.allB n) (enc := encR) (fs := fun b ρ => ρ.set 2 (some (.d (encR b)))) (outs := fun k => if bad n gs cs ((SGM.allB n).getD k []) = true then Out.rt (badZ n gs cs ((SGM.allB n).getD k [])) else Out.nx [some (.d (encNet n gs)), some (.d (encR cs)), none, none, none, none, none]) (fun k => [some (.d (encNet n gs)), some (.d (encR cs)), none, none, none, none, none]) rfl PassesOwn.never rfl (di_list (de_callC (C1.mono (by decide)) hr rfl (da_cons (de_at (de_var 0 rfl) de_int rfl (fun _ _ => rfl)) da_nil) ⟨n, rfl, n3, rfl⟩)) (dg_name 2 (nodup_of (by kernel_rfl)) rfl (Or.inl rfl)) (fun _ _ => rfl) (fun k b hb => turn k b hb _ ?_) (fun k hk hon => ?_) (fun hon => ?_))
      · rw [List.getD_eq_getElem?_getD, hb]
        rfl
      · by_cases q : bad n gs cs ((SGM.allB n).getD k []) = true
        · rw [if_pos q]
          show Out.rt _ = Out.rt _
          rw [first_is hf hk q fun j hj => ?_]
          have := hon j hj
          by_cases q2 : bad n gs cs ((SGM.allB n).getD j []) = true
          · rw [if_pos q2] at this
            exact this.elim
          · simpa using q2
        · rw [if_neg q]
          exact rfl
      · exfalso
        have hm := List.mem_of_find?_eq_some hf
        obtain ⟨k, hk, e⟩ := List.getElem_of_mem hm
        have := hon k hk
        rw [if_pos] at this
        · exact this
        · rw [List.getD_eq_getElem?_getD, List.getElem?_eq_getElem hk, e]
          exact List.find?_some hf
end
end SG
set_option Elab.async false
set_option linter.all false
set_option maxRecDepth 100000
set_option maxHeartbeats 4000000
/-! Part F1: what draws from the row: values that may be any of several, the row changed. -/
namespace SG
open PySem PySem.Spec PyProof.Rows L2
abbrev one (a : Addr) : Own := fun b => b = a
section
variable {P : Program} {w : World} {K : PySem.W.Frag} {HB H H' : Hp} {L0 L : Own} {σ : L2.St} {ρ : Rho}
theorem RowAt.up {a : Addr} {ns : List Int} (e : Same H H') (h : RowAt K L H a ns) : RowAt K L H' a ns := by
  obtain ⟨sc, i, j, k, h1, h2, h3⟩ := h
  exact ⟨sc, i, j, k, e _ _ h1, h2, (msk_up e).seq h3⟩
theorem off_row {a : Addr} (e : Same (msk (one a) H) H') {b : Addr} {o : HO} (nb : b ≠ a) (hb : H b = some o) : H' b = some o := e b o (by rw [msk_out (L := one a) nb]; exact hb)
theorem msk_row {a : Addr} (la : L a) (e : Same (msk (one a) H) H') : Same (msk L H) (msk L H') := fun b o hb => by
  obtain ⟨h1, h2⟩ := msk_some hb
  rw [msk_out h1]
  exact off_row e (fun z => h1 (by rw [z]; exact la)) h2
theorem row_trans {a : Addr} {H2 : Hp} (e : Same (msk (one a) H) H') (e2 : Same (msk (one a) H') H2) : Same (msk (one a) H) H2 := fun b o hb => by
  obtain ⟨h1, h2⟩ := msk_some hb
  exact off_row e2 h1 (off_row e h1 h2)
theorem row_of {a : Addr} (e : Same H H') : Same (msk (one a) H) H' := fun b o hb => e b o (msk_some hb).2
/-- the row has changed -/
theorem ES.turn {i : Nat} {a : Addr} {ns : List Int} (h : ES P w K HB L0 L σ H ρ) (hi : ρ[i]? = some (some (.r a ns))) (e : Same (msk (one a) H) H') (hr : RowAt K L H' a ns) : ES P w K HB L0 L σ H' ρ := by
  obtain ⟨v, hv, ev, la, _⟩ := h.at_ i _ hi
  subst ev
  have na := h.mine i _ a hi trivial hv
  have HBa := h.own a la na
  refine ⟨fun b o hb => off_row e (ne_of_none hb HBa) (h.base b o hb), h.fr, h.own, fun b hb z => ?_, h.len, fun j s hs => ?_, h.mine, h.sep⟩
  · by_cases q : b = a
    · obtain ⟨sc, x, y, t, h1, _⟩ := hr
      rw [q, h1] at z
      cases z
    · cases r : H b with
      | none => exact h.trk b hb r
      | some o => rw [off_row e q r] at z; cases z
  · obtain ⟨u, hu, q⟩ := h.at_ j s hs
    by_cases z : i = j
    · subst z
      rw [hi] at hs
      cases hs
      rw [hv] at hu
      injection hu with hu
      injection hu with hu
      exact ⟨_, hv, rfl, la, hr⟩
    · refine ⟨u, hu, slot_move (msk_row la e) (fun ow b eb lb => ⟨lb, ?_⟩) q⟩
      have nb : b ≠ a := fun y => by
        rw [eb, y] at hu
        exact h.sep i j _ s a z hi hs trivial ow hv hu
      cases r : H b with
      | none => exact (h.trk b lb r).elim
      | some o => exact off_row e nb r
theorem upd_self {a : Addr} {o : HO} (h : H a = some o) : upd H a o = H := by
  funext b
  by_cases e : b = a
  · rw [e, upd_same, h]
  · rw [upd_ne e]
/-- the same object, told otherwise -/
theorem ES.swap {i : Nat} {s t : Slot} (h : ES P w K HB L0 L σ H ρ) (hi : ρ[i]? = some (some s)) (ow : s.owned) (ot : t.owned) (f : ∀ v, σ[i]? = some (some v) → SlotAt P w K L H v s → SlotAt P w K L H v t) : ES P w K HB L0 L σ H (ρ.set i (some t)) := by
  obtain ⟨v, hv, q⟩ := h.at_ i s hi
  obtain ⟨a, ev, la, hH⟩ := slot_ref ow q
  have q2 := f v hv q
  subst ev
  cases e : H a with
  | none => exact (hH e).elim
  | some o =>
    have := h.write (o := o) hi ow ot hv (by rw [upd_self e]; exact q2)
    rwa [upd_self e] at this
theorem row_split {a : Addr} {ns : List Int} {i : Nat} (h : ES P w K HB L0 L σ H ρ) (hi : ρ[i]? = some (some (.r a ns))) : ∃ x y z : Int, 0 ≤ x ∧ ES P w K HB L0 L σ H (ρ.set i (some (.f a [.list (ns.map .int), .int x, .int y, .int z]))) := by
  obtain ⟨v, hv, ev, la, sc, x, y, z, h1, h2, h3⟩ := h.at_ i _ hi
  subst ev
  refine ⟨x, y, z, h2, h.swap hi trivial trivial fun u hu _ => ?_⟩
  rw [hv] at hu
  injection hu with hu
  injection hu with hu
  exact ⟨hu.symm, la, _, h1, .cons (.lst h3 (ints_dp ns)) (.cons (.int _) (.cons (.int _) (.cons (.int _) .nil)))⟩
theorem row_join {a : Addr} {ns : List Int} {i : Nat} {x y z : Int} (h : ES P w K HB L0 L σ H ρ) (hi : ρ[i]? = some (some (.f a [.list (ns.map .int), .int x, .int y, .int z]))) (hx : 0 ≤ x) : ES P w K HB L0 L σ H (ρ.set i (some (.r a ns))) := by
  refine h.swap hi trivial trivial fun u hu hs => ?_
  obtain ⟨ev, la, vs, h1, h2⟩ := hs
  refine ⟨ev, la, ?_⟩
  cases h2 with | @cons v0 _ _ _ d0 h2 =>
  cases h2 with | cons d1 h2 =>
  cases h2 with | cons d2 h2 =>
  cases h2 with | cons d3 h2 =>
  cases h2
  cases d1
  cases d2
  cases d3
  cases d0 with
  | @lst sc us _ hs ha =>
    have e := dp_ints ha
    rw [e] at hs
    exact ⟨sc, x, y, z, h1, hx, hs⟩
end
section
variable (P : Program) (w : World) (K : PySem.W.Frag)
/-- e's value is one of R; the row at a has changed -/
def tN (ρ : Rho) (ri : Nat) (a : Addr) (ns : List Int) (R : PyData → Prop) : TE := fun σ H Q => ∃ HB L0 L, ES P w K HB L0 L σ H ρ ∧ ρ[ri]? = some (some (.r a ns)) ∧ ∀ x, R x → ∀ v H2, Same (msk (one a) H) H2 → RowAt K L H2 a ns → Dp K (msk L H2) v x → Q v H2
def tNT (ρ : Rho) (ri : Nat) (a : Addr) (ns : List Int) : TT := fun σ H Q => ∃ HB L0 L, ES P w K HB L0 L σ H ρ ∧ ρ[ri]? = some (some (.r a ns)) ∧ ∀ b H2, Same (msk (one a) H) H2 → RowAt K L H2 a ns → Q b H2
def tNI {τ : Type} (ρ : Rho) (ri : Nat) (a : Addr) (ns : List Int) (enc : τ → PyData) (T : List τ → Prop) : TI := fun σ H R => ∃ HB L0 L, ES P w K HB L0 L σ H ρ ∧ ρ[ri]? = some (some (.r a ns)) ∧ ∀ ts, T ts → ∀ J H1, Same (msk (one a) H) H1 → RowAt K L H1 a ns → GoodIt K L J H1 (ts.map enc) → R J H1
/-- goes on to one of J, or hands back one of R -/
def tNS (ρ : Rho) (J : Rho → Prop) (R : PyData → Rho → Prop) : TS := fun D σ H => ∃ HB L0, (∃ L, ES P w K HB L0 L σ H ρ) ∧ (∀ ρ', J ρ' → ∀ σ' H', (∃ L, ES P w K HB L0 L σ' H' ρ') → D.nx σ' H') ∧ (∀ x ρ', R x ρ' → ∀ v σ' H', (∃ L, ES P w K HB L0 L σ' H' ρ' ∧ Dp K (msk L H') v x) → D.rt v H')
end
abbrev NE (X : Cx) (e : Expr) (ρ : Rho) (ri : Nat) (a : Addr) (ns : List Int) (R : PyData → Prop) : Prop := PE X e (tN X.prog X.w X.K ρ ri a ns R)
abbrev NT (X : Cx) (e : Expr) (ρ : Rho) (ri : Nat) (a : Addr) (ns : List Int) : Prop := PT X e (tNT X.prog X.w X.K ρ ri a ns)
abbrev NI {τ : Type} (X : Cx) (tg e : Expr) (ρ : Rho) (ri : Nat) (a : Addr) (ns : List Int) (enc : τ → PyData) (T : List τ → Prop) : Prop := PI X tg e (tNI X.prog X.w X.K ρ ri a ns enc T)
abbrev NS (X : Cx) (st : Stmt) (ρ : Rho) (J : Rho → Prop) (R : PyData → Rho → Prop) : Prop := PS X st (tNS X.prog X.w X.K ρ J R)
abbrev NSs (X : Cx) (sts : List Stmt) (ρ : Rho) (J : Rho → Prop) (R : PyData → Rho → Prop) : Prop := PSs X sts (tNS X.prog X.w X.K ρ J R)
section
variable {X : Cx} {ρ ρ1 : Rho} {ri : Nat} {ad : Addr} {ns : List Int} {e a b c : Expr} {x y z : PyData} {pos : Pos} {R R1 R2 : PyData → Prop} {J J1 : Rho → Prop} {RR : PyData → Rho → Prop} {st : Stmt} {rest sa sb : List Stmt} {out : Out}
theorem row_here {P : Program} {w : World} {K : PySem.W.Frag} {HB H : Hp} {L0 L : Own} {σ : L2.St} (es : ES P w K HB L0 L σ H ρ) (hi : ρ[ri]? = some (some (.r ad ns))) : L ad ∧ RowAt K L H ad ns := by
  obtain ⟨v, hv, ev, la, r⟩ := es.at_ ri _ hi
  exact ⟨la, r⟩
theorem ne_of (hi : ρ[ri]? = some (some (.r ad ns))) (h : DE X e ρ x) (hR : R x) : NE X e ρ ri ad ns R :=
  pe_imp h fun σ H Q ⟨HB, L0, L, es, _, q⟩ => ⟨HB, L0, L, es, fun v H2 e2 d2 => q x hR v H2 (row_of e2) ((row_here es hi).2.up e2) d2⟩
theorem ne_imp (h : NE X e ρ ri ad ns R1) (f : ∀ x, R1 x → R x) : NE X e ρ ri ad ns R := pe_imp h fun σ H Q ⟨HB, L0, L, es, hi, q⟩ => ⟨HB, L0, L, es, hi, fun x hx => q x (f x hx)⟩
theorem ne_addL {i : Int} {p : Int → Prop} (ha : DE X a ρ (.int i)) (hb : NE X b ρ ri ad ns fun x => ∃ r, x = .int r ∧ p r) : NE X (.BinOp a .Add b pos) ρ ri ad ns (fun x => ∃ r, x = .int (i + r) ∧ p r) :=
  pe_imp (pe_op op_add ha hb) fun σ H Q ⟨HB, L0, L, es, hi, q⟩ => ⟨HB, L0, L, es, fun v H1 e1 d1 => ⟨HB, L0, L, es.up e1, hi, fun x ⟨r, ex, hp⟩ u H2 e2 r2 d2 => by
    subst ex
    cases d1
    cases d2
    exact ⟨i, r, rfl, rfl, q _ ⟨r, rfl, hp⟩ _ H2 (row_trans (row_of e1) e2) r2 (.int _)⟩⟩⟩
theorem nt_lt {i : Int} {p : Int → Prop} (ha : NE X a ρ ri ad ns fun x => ∃ r, x = .int r ∧ p r) (hb : DE X b ρ (.int i)) : NT X (.Compare a [.Lt] [b] pos) ρ ri ad ns :=
  pt_imp (pt_cmpR op_lt ha hb (nomark _)) fun σ H Q ⟨HB, L0, L, es, hi, q⟩ => ⟨HB, L0, L, es, hi, fun x ⟨r, ex, hp⟩ v H1 e1 r1 d1 => ⟨HB, L0, L, es.turn hi e1 r1, fun u H2 e2 d2 => by
    subst ex
    cases d1
    cases d2
    exact ⟨r, i, rfl, rfl, _, rfl, q _ H2 (row_trans e1 (row_of e2)) (r1.up e2)⟩⟩⟩
theorem ni_of {τ : Type} {ts : List τ} {enc : τ → PyData} {tg : Expr} (hi : ρ[ri]? = some (some (.r ad ns))) (h : DI X tg e ρ (ts.map enc)) : NI X tg e ρ ri ad ns enc (fun us => us = ts) :=
  pi_imp h fun σ H R ⟨HB, L0, L, es, _, q⟩ => ⟨HB, L0, L, es, fun J H1 e1 g => q ts rfl J H1 (row_of e1) ((row_here es hi).2.up e1) g⟩
theorem ni_range {tg : Expr} {p : Pos} {m : Int} (hg : Gl X "range") (hm : X.mg "range" = none) (ha : NE X a ρ ri ad ns fun x => ∃ r, x = .int r ∧ 0 ≤ r ∧ r < m) (h100 : m ≤ 1000) (hs : starEach [a] X.env = [(false, eval a X.env)] := by rfl) (hs2 : starEach (a :: []) X.env = (false, eval a X.env) :: starEach [] X.env := by rfl) :
    NI X tg (.Call (.Name "range" p) [a] [] pos) ρ ri ad ns (fun (i : Nat) => PyData.int i) (fun ts => ∃ r : Nat, (r : Int) < m ∧ ts = List.range r) :=
  pi_imp (pi_range1 hg hm (pa_cons ha pa_nil hs2) hs) fun σ H R ⟨HB, L0, L, es, hi, q⟩ => ⟨HB, L0, L, es, hi, fun x ⟨r, ex, h0, h1⟩ v H1 e1 r1 d1 => by
    subst ex
    cases d1
    refine ⟨r, rfl, by omega, by omega, q (List.range r.toNat) ⟨r.toNat, by omega, rfl⟩ _ H1 e1 r1 fun i H' M eM hM tM => ?_⟩
    rw [List.length_map, List.length_range]
    refine ⟨fun hi => hi, fun hi => Nat.le_of_eq hi.symm, fun x H'' hi hy => ?_⟩
    obtain ⟨rfl, rfl⟩ := hy
    refine ⟨Same.refl _, .int i, rngD_at hi, ?_⟩
    rw [show (0 : Int) + (i : Nat) = (i : Nat) from Int.zero_add _]
    exact .int _⟩
theorem ne_tupL {p : Pos} {RL : List PyData → Prop} (hg : Gl X "tuple") (hm : X.mg "tuple" = none) (h : NE X e ρ ri ad ns fun x => ∃ xs, x = .list xs ∧ RL xs) (hs : starEach (e :: []) X.env = (false, eval e X.env) :: starEach [] X.env := by rfl) (hpl : (backTo pos (starEach [] X.env)).any (·.1) = false := by rfl) : NE X (.Call (.Name "tuple" p) [e] [] pos) ρ ri ad ns (fun x => ∃ xs, x = .tuple xs ∧ RL xs) :=
  pe_imp (pe_callTy call_tuple_of hg hm PyProof.Rows.boot_tuple (pa_cons h pa_nil hs) (by decide) (by decide) hs hpl) fun σ H Q ⟨HB, L0, L, es, hi, q⟩ => ⟨HB, L0, L, es, hi, fun x ⟨xs, ex, hx⟩ v H1 e1 r1 d1 => by
    subst ex
    exact pure_tupleL L H1 [v] Q (es.turn hi e1 r1).trk (.cons d1 .nil) fun t H2 e2 d2 => q _ ⟨xs, rfl, hx⟩ t H2 (row_trans e1 (row_of e2)) (r1.up e2) d2⟩

/-! statements -/
theorem ns_ds (h : DS X st ρ (.nx ρ1)) (hJ : J ρ1) : NS X st ρ J RR := ps_imp h fun D σ H ⟨HB, L0, es, q1, q2⟩ => ⟨HB, L0, es, q1 ρ1 hJ⟩
theorem nss_nil (hJ : J ρ) : NSs X [] ρ J RR := pss_imp pss_nil fun D σ H ⟨HB, L0, es, q1, q2⟩ => q1 ρ hJ σ H es
theorem nss_cons (h1 : NS X st ρ J1 RR) (h2 : ∀ ρ1, J1 ρ1 → NSs X rest ρ1 J RR) : NSs X (st :: rest) ρ J RR := by
  have fam : PSs X rest (fun D σ H => ∃ ρ1, J1 ρ1 ∧ tNS X.prog X.w X.K ρ1 J RR D σ H) := ⟨fun pins s σ H D I ⟨ρ1, hj, q⟩ => (h2 ρ1 hj).run pins s σ H D I q⟩
  exact pss_imp (pss_cons h1 fam) fun D σ H ⟨HB, L0, es, q1, q2⟩ => ⟨HB, L0, es, fun ρ1 hj σ' H' es' => ⟨ρ1, hj, HB, L0, es', q1, q2⟩, q2⟩
theorem nss_one (h : NS X st ρ J RR) : NSs X [st] ρ J RR := pss_one h
theorem nss_d (h1 : DS X st ρ (.nx ρ1)) (h2 : NSs X rest ρ1 J RR) : NSs X (st :: rest) ρ J RR := nss_cons (ns_ds (J := fun r => r = ρ1) h1 rfl) fun r hr => by rw [hr]; exact h2
theorem dss_ns (h1 : NS X st ρ J (fun _ _ => False)) (h2 : ∀ ρ1, J ρ1 → DSs X rest ρ1 out) : DSs X (st :: rest) ρ out := by
  have fam : PSs X rest (fun D σ H => ∃ ρ1, J ρ1 ∧ tSt X.prog X.w X.K ρ1 out D σ H) := ⟨fun pins s σ H D I ⟨ρ1, hj, q⟩ => (h2 ρ1 hj).run pins s σ H D I q⟩
  exact pss_imp (pss_cons h1 fam) fun D σ H ⟨HB, L0, es, q⟩ => ⟨HB, L0, es, fun ρ1 hj σ' H' es' => ⟨ρ1, hj, HB, L0, es', q⟩, fun x ρ' h => h.elim⟩
/-- what is known may be told otherwise, by one of several -/
theorem nss_pre (h : ∀ HB L0 L σ H, ES X.prog X.w X.K HB L0 L σ H ρ → ∃ ρ', J1 ρ' ∧ ∃ L', ES X.prog X.w X.K HB L0 L' σ H ρ') (h2 : ∀ ρ1, J1 ρ1 → NSs X rest ρ1 J RR) : NSs X rest ρ J RR := by
  have fam : PSs X rest (fun D σ H => ∃ ρ1, J1 ρ1 ∧ tNS X.prog X.w X.K ρ1 J RR D σ H) := ⟨fun pins s σ H D I ⟨ρ1, hj, q⟩ => (h2 ρ1 hj).run pins s σ H D I q⟩
  exact pss_imp fam fun D σ H ⟨HB, L0, ⟨L, es⟩, q⟩ => let ⟨ρ', hj, es'⟩ := h HB L0 L σ H es; ⟨ρ', hj, HB, L0, es', q⟩
theorem dss_preF (h : ∀ HB L0 L σ H, ES X.prog X.w X.K HB L0 L σ H ρ → ∃ ρ', J1 ρ' ∧ ∃ L', ES X.prog X.w X.K HB L0 L' σ H ρ') (h2 : ∀ ρ1, J1 ρ1 → DSs X rest ρ1 out) : DSs X rest ρ out := by
  have fam : PSs X rest (fun D σ H => ∃ ρ1, J1 ρ1 ∧ tSt X.prog X.w X.K ρ1 out D σ H) := ⟨fun pins s σ H D I ⟨ρ1, hj, q⟩ => (h2 ρ1 hj).run pins s σ H D I q⟩
  exact pss_imp fam fun D σ H ⟨HB, L0, ⟨L, es⟩, q⟩ => let ⟨ρ', hj, es'⟩ := h HB L0 L σ H es; ⟨ρ', hj, HB, L0, es', q⟩
theorem nss_post {J2 : Rho → Prop} (h : NSs X rest ρ J2 RR) (i : ∀ ρ', J2 ρ' → ∃ ρ1, J ρ1 ∧ Sub ρ1 ρ') : NSs X rest ρ J RR :=
  pss_imp h fun D σ H ⟨HB, L0, es, q1, q2⟩ => ⟨HB, L0, es, fun ρ' hj σ' H' ⟨L, es'⟩ => let ⟨ρ1, h1, s⟩ := i ρ' hj; q1 ρ1 h1 σ' H' ⟨L, es'.weak s.len s.get⟩, q2⟩
/-- a value is handed back -/
theorem ns_ret (h : DE X e ρ x) (hR : RR x ρ) : NS X (.Return (some e) pos) ρ J RR :=
  ps_imp (ps_ret h) fun D σ H ⟨HB, L0, ⟨L, es⟩, q1, q2⟩ => ⟨HB, L0, L, es, fun v H2 e2 d2 => q2 x ρ hR v σ H2 ⟨L, es.up e2, d2⟩⟩
theorem ns_retN (h : NE X e ρ ri ad ns R) (hi : ρ[ri]? = some (some (.r ad ns))) (hR : ∀ x, R x → RR x ρ) : NS X (.Return (some e) pos) ρ J RR :=
  ps_imp (ps_ret h) fun D σ H ⟨HB, L0, ⟨L, es⟩, q1, q2⟩ => ⟨HB, L0, L, es, hi, fun x hx v H2 e2 r2 d2 => q2 x ρ (hR x hx) v σ H2 ⟨L, es.turn hi e2 r2, d2⟩⟩
theorem ns_set (i : Nat) {nm : Str} {p : Pos} (hN : X.N.Nodup) (hi : X.N[i]? = some nm) (hx : Loc X.env.scope nm) (h : NE X e ρ ri ad ns R) (hr : ρ[ri]? = some (some (.r ad ns))) (hs : swapsWith e (some (.Name nm p)) pos.line X.env = pure false := by rfl)
    (hf : X.fn nm = true ∨ X.env.scope.names.lookup nm = some .local := by first | exact .inl rfl | exact .inr rfl | assumption) : NS X (.Assign [.Name nm p] e pos) ρ (fun ρ' => ∃ x, R x ∧ ρ' = ρ.set i (some (.d x))) RR :=
  ps_imp (ps_set (i := i) hN hi hx h hs hf) fun D σ H ⟨HB, L0, ⟨L, es⟩, q1, q2⟩ => ⟨HB, L0, L, es, hr, fun x hx v H2 e2 r2 d2 => q1 _ ⟨x, hx, rfl⟩ _ H2 ⟨L, (es.turn hr e2 r2).set d2⟩⟩
theorem ns_par {i j : Nat} (hp : ParOk X i j a b st) (ha : NE X a ρ ri ad ns R1) (hb : NE X b ρ ri ad ns R2) (hr : ρ[ri]? = some (some (.r ad ns))) (hs : starEach (a :: b :: []) X.env = (false, eval a X.env) :: starEach [b] X.env := by rfl) (hs2 : starEach (b :: []) X.env = (false, eval b X.env) :: starEach [] X.env := by rfl) :
    NS X st ρ (fun ρ' => ∃ x y, R1 x ∧ R2 y ∧ ρ' = (ρ.set i (some (.d x))).set j (some (.d y))) RR :=
  ps_imp (hp _ (pa_cons ha (pa_cons hb pa_nil hs2) hs) fun σ H Q Q' k ⟨HB, L0, L, es, hi, q⟩ => ⟨HB, L0, L, es, hi, fun x hx v H2 e2 r2 d2 => by
    obtain ⟨HB', L0', L', es', hi', q'⟩ := q x hx v H2 e2 r2 d2
    exact ⟨HB', L0', L', es', hi', fun y hy u H3 e3 r3 d3 => k _ _ (q' y hy u H3 e3 r3 d3)⟩⟩) fun D σ H ⟨HB, L0, ⟨L, es⟩, q1, q2⟩ => ⟨HB, L0, L, es, hr, fun x hx v H1 e1 r1 d1 => ⟨HB, L0, L, es.turn hr e1 r1, hr, fun y hy u H2 e2 r2 d2 => ⟨v, u, rfl, fun H3 e3 => q1 _ ⟨x, y, hx, hy, rfl⟩ _ H3 ⟨L, (((es.turn hr e1 r1).turn hr e2 r2 |>.set (dp_up (msk_row (row_here es hr).1 e2) _ _ d1)).set d2).up e3⟩⟩⟩⟩
theorem ns_ifF (hc : DT X c ρ false) (h : NSs X sb ρ J RR) : NS X (.If c sa sb pos) ρ J RR :=
  ps_imp (ps_if hc pss_never h) fun D σ H ⟨HB, L0, ⟨L, es⟩, q⟩ => ⟨HB, L0, L, es, fun H2 e2 => iteF ⟨HB, L0, ⟨L, es.up e2⟩, q⟩⟩
theorem ns_ifT (hc : DT X c ρ true) (h : NSs X sa ρ J RR) : NS X (.If c sa sb pos) ρ J RR :=
  ps_imp (ps_if hc h pss_never) fun D σ H ⟨HB, L0, ⟨L, es⟩, q⟩ => ⟨HB, L0, L, es, fun H2 e2 => iteT ⟨HB, L0, ⟨L, es.up e2⟩, q⟩⟩
/-- a loop whose turns go to one of several -/
theorem ns_for {τ : Type} {enc : τ → PyData} {T : List τ → Prop} {tg iter : Expr} {body : List Stmt} {G : PyData → (Rho → Rho) → Prop} {js : List Nat} {fs : τ → Rho → Rho} (I : Nat → Rho → Prop) (h0 : I 0 ρ) (hr : ρ[ri]? = some (some (.r ad ns))) (hp : PassesOwn (model X.prog X.w) X.A X.env X.xe) (hc : X.calm = true) (hi : NI X tg iter ρ ri ad ns enc T) (hg : DG X tg G js) (hT : ∀ t, G (enc t) (fs t))
    (hb : ∀ ts, T ts → ∀ (k : Nat) (t : τ) (ρ' : Rho), ts[k]? = some t → I k ρ' → NSs X body (fs t ρ') (I (k + 1)) RR) (hs : ∀ x, foldedSetIterable iter X.env x = pure x := by intro _; rfl) : NS X (.For tg iter body [] pos) ρ (fun ρ' => ∃ ts, T ts ∧ I ts.length ρ') RR := by
  have fam : PSs X body (fun D σ H => ∃ ts, T ts ∧ ∃ k t ρ', ts[k]? = some t ∧ I k ρ' ∧ tNS X.prog X.w X.K (fs t ρ') (I (k + 1)) RR D σ H) := ⟨fun pins s σ H D II ⟨ts, hT, k, t, ρ', ht, hI, q⟩ => (hb ts hT k t ρ' ht hI).run pins s σ H D II q⟩
  refine ps_imp (ps_for hp hc hi hg fam hs) fun D σ H ⟨HB, L0, ⟨L, es0⟩, q1, q2⟩ => ⟨HB, L0, L, es0, hr, fun ts hts J H1 e1 r1 good => ?_⟩
  have es := es0.turn hr e1 r1
  have hl : (ts.map enc).length = ts.length := List.length_map _
  obtain ⟨esB, sB⟩ := es.rebase
  generalize hHB : msk (fun a => L a ∧ ¬ L0 a) H1 = HB' at esB sB
  refine ⟨fun i m σ' H' => m = ts.length - i ∧ i ≤ ts.length ∧ ∃ ρ', I i ρ' ∧ ∃ L', ES X.prog X.w X.K HB' L0 L' σ' H' ρ', ⟨ts.length, by omega, Nat.zero_le _, ρ, h0, L, esB⟩, ?_⟩
  rintro i m σ' H' ⟨rfl, hi', ρ', hI, L', es'⟩
  have sub : Same (msk L H1) HB' := fun a o e => by
    rw [← hHB]
    obtain ⟨h1, h2⟩ := msk_some e
    rw [msk_out fun z => h1 z.1]
    exact h2
  have hM : ∀ a, L' a → msk L H1 a = none := fun a ha => by
    by_cases h0 : L0 a
    · exact msk_in (es.fr a h0)
    · exact sub.free (es'.own a ha h0)
  obtain ⟨g1, g2, g3⟩ := good i H' L' (sub.trans es'.base) hM es'.trk
  rw [hl] at g1 g2 g3
  by_cases hlt : i < ts.length
  · obtain ⟨t, ht⟩ : ∃ t, ts[i]? = some t := ⟨ts[i], List.getElem?_eq_getElem hlt⟩
    refine .inr ⟨g1 hlt, fun σ2 H2 => ∃ ρ2, I (i + 1) ρ2 ∧ ∃ L2, ES X.prog X.w X.K HB' L0 L2 σ2 H2 ρ2, fun σ2 H2 n => ⟨ts.length - (i + 1), by omega, rfl, hlt, n⟩, fun x H'' hy => ?_⟩
    obtain ⟨e2, d, hd, dd⟩ := g3 x H'' hlt hy
    have hd' : d = enc t := by
      rw [List.getElem?_map, ht] at hd
      exact (Option.some.inj hd).symm
    subst hd'
    exact ⟨HB', L0, L', ρ', enc t, fs t, es'.up e2, dd, hT t, fun σ2 es2 _ _ => ⟨ts, hts, i, t, ρ', ht, hI, HB', L0, ⟨L', es2⟩, fun ρ2 h2 σ3 H3 es3 => ⟨ρ2, h2, es3⟩, fun x ρ2 hR v σ3 H3 ⟨L3, es3, d3⟩ => q2 x ρ2 hR v σ3 H3 ⟨L3, es3.back sB, d3⟩⟩⟩
  · have e : i = ts.length := by omega
    subst e
    exact .inl ⟨g2 rfl, q1 ρ' ⟨ts, hts, hI⟩ σ' H' ⟨L', es'.back sB⟩⟩
end
end SG
set_option Elab.async false
set_option linter.all false
set_option maxRecDepth 100000
set_option maxHeartbeats 4000000
/-! Part F2: defs that draw; comprehensions that draw. -/
namespace SG
open PySem PySem.Spec PyProof.Rows L2
/-! ### the row by its cells -/
section
variable {X : Cx} {ρ : Rho} {a b e : Expr} {x z : PyData} {pos : Pos} {i : Nat} {ad : Addr} {xs : List PyData}
theorem de_ixF {k : Int} (ha : DV X a ρ i (.f ad xs)) (hb : DE X b ρ (.int k)) (hk : atI xs k = some z) (hs : PlainIx b) : DE X (.Subscript a b pos) ρ z :=
  pe_imp (pe_ix ix_list ha hb hs) fun σ H Q ⟨HB, L0, L, es, q⟩ => ⟨HB, L0, L, es, fun v hv hsl => ⟨HB, L0, L, es, fun u H2 e2 d2 => by
    obtain ⟨ev, la, vs, hH, hd⟩ := hsl
    cases d2
    obtain ⟨t, ht, dt⟩ := atI_dp hd hk
    exact ⟨ad, vs, k, t, ev, rfl, SqL.of (e2 _ _ hH), ht, q t H2 e2 (dp_up (msk_up e2) _ _ dt)⟩⟩⟩
theorem ds_setItemF {k : Int} {j : Nat} {opos : Pos} (hv : DE X e ρ x) (ho : DV X a ρ i (.f ad xs)) (hi : ρ[i]? = some (some (.f ad xs))) (hk : DE X b ρ (.int k)) (hj : ixN xs.length k = some j) (hsw : swapsWithSole [.Subscript a b opos] e pos.line X.env = pure false := by rfl)
    (hsw2 : swappedStores [.Subscript a b opos] e X.env = pure none := by rfl)
    (hx : ∀ v, assign (.Subscript a b opos) X.env v = (do
      let ov ← holding [v] (eval a X.env)
      let iv ← holding [v, ov] (eval b X.env)
      standAt opos
      holding [v, ov, iv] (setItem ov iv v)
      release [v, ov, iv] []) := by intro _; rfl) : DS X (.Assign [.Subscript a b opos] e pos) ρ (.nx (ρ.set i (some (.f ad (xs.set j x))))) :=
  ps_imp (ps_asg hv (pg_sub ho hk set_list hx) hsw hsw2) fun D σ H ⟨HB, L0, ⟨L, es⟩, q⟩ => ⟨HB, L0, L, es, fun v H1 e1 d1 => ⟨HB, L0, L, es.up e1, fun u hu hsl => ⟨HB, L0, L, es.up e1, fun t H2 e2 d2 => by
    cases d2
    obtain ⟨ev, la, vs, hH, hd⟩ := hsl
    subst ev
    refine ⟨ad, vs, k, j, rfl, rfl, e2 _ _ hH, by rw [dpAll_len hd]; exact hj, q σ _ ⟨L, ((es.up e1).up e2).write hi trivial trivial hu ⟨rfl, la, vs.set j v, upd_same, ?_⟩⟩⟩
    rw [msk_upd la]
    exact ds_setItem.dp_setAt (dpAll_up (msk_up e2) _ _ hd) (dp_up (msk_up e2) _ _ d1) j⟩⟩⟩
end

/-! ### defs that draw -/
/-- a def whose first argument is the row: A tells the others, G its values -/
def spR (K : PySem.W.Frag) (A : List PyData → Prop) (G : List PyData → PyData → Prop) : Sp := fun vs H Q _ => ∃ (L : Own) (a : Addr) (ns : List Int) (xs : List PyData) (vs' : List V), Trk L H ∧ L a ∧ vs = .ref a :: vs' ∧ RowAt K L H a ns ∧ DpAll K (msk L H) vs' xs ∧ A xs ∧
  ∀ x, G xs x → ∀ v H', Same (msk (one a) H) H' → RowAt K L H' a ns → Dp K (msk L H') v x → Q v H'
structure CalleeR (P : Program) (w : World) (K : PySem.W.Frag) (mg : Str → Option Value) (base : Heap) (nm : Str) (k : Nat) (ps : List Str) (A : List PyData → Prop) (G : List PyData → PyData → Prop) : Prop where
  ex : ∃ f fd, FnOk P w K mg base CX0 k f fd ps (spR K A G) ∧ mg nm = some (.ref f) ∧ PySem.W.keepIn K (.ref f) = true ∧ Binds K fd ps []
section
variable {P : Program} {w : World} {K : PySem.W.Frag} {mg : Str → Option Value} {base : Heap}
theorem calleeR_of {nm : Str} {st : Stmt} {ps : List Str} {k : Nat} {A : List PyData → Prop} {G : List PyData → PyData → Prop} (D : DefAt K mg nm st ps) (h : ∀ f fd, Fun K nm nm st f fd → FnOk P w K mg base CX0 k f fd ps (spR K A G)) : CalleeR P w K mg base nm k ps A G :=
  let ⟨f, fd, F, m, b⟩ := D.ex
  ⟨f, fd, h f fd F, m, F.kp, b⟩
theorem CalleeR.mono {nm : Str} {j k : Nat} {ps : List Str} {A : List PyData → Prop} {G : List PyData → PyData → Prop} (C : CalleeR P w K mg base nm j ps A G) (h : j ≤ k) : CalleeR P w K mg base nm k ps A G :=
  let ⟨f, fd, F, m⟩ := C.ex
  ⟨f, fd, F.mono h, m⟩
theorem es_startR {H : Hp} {L : Own} {a : Addr} {ns : List Int} {vs : List V} {xs : List PyData} {N : List Str} (t : Trk L H) (la : L a) (r : RowAt K L H a ns) (d : DpAll K (msk L H) vs xs) :
    ES P w K (msk (one a) H) (fun b => L b ∧ b ≠ a) L (L2.start N (.ref a :: vs)) H (some (.r a ns) :: inRho xs (N.length - 1)) := by
  have hl := dpAll_len d
  have old : ∀ (i : Nat) (s : Slot), (inRho xs (N.length - 1))[i]? = some (some s) → ∃ x, xs[i]? = some x ∧ s = .d x := fun i s hs => by
    unfold inRho at hs
    by_cases hi : i < xs.length
    · rw [List.getElem?_append_left (by rw [List.length_map]; exact hi), List.getElem?_map, List.getElem?_eq_getElem hi] at hs
      have q := Option.some.inj (Option.some.inj hs)
      exact ⟨xs[i], List.getElem?_eq_getElem hi, q.symm⟩
    · rw [List.getElem?_append_right (by rw [List.length_map]; omega), List.getElem?_replicate] at hs
      split at hs <;> cases hs
  have st : L2.start N (.ref a :: vs) = some (.ref a) :: (vs.map some ++ List.replicate (N.length - 1 - vs.length) none) := by
    unfold L2.start
    rw [List.map_cons, List.length_cons, List.cons_append, show N.length - (vs.length + 1) = N.length - 1 - vs.length by omega]
  rw [st]
  refine ⟨msk_same _ _, fun _ h => h.1, fun b hb n => ?_, t, ?_, fun i s hs => ?_, fun i s b hs ow hv => ?_, fun i j s u b ne hs hu ow ou hv hw => ?_⟩
  · have e : b = a := by
      by_cases q : b = a
      · exact q
      · exact absurd ⟨hb, q⟩ n
    exact msk_in e
  · unfold inRho
    rw [List.length_cons, List.length_cons, List.length_append, List.length_append, List.length_map, List.length_map, List.length_replicate, List.length_replicate, hl]
  · match i with
    | 0 =>
      have e : Slot.r a ns = s := Option.some.inj (Option.some.inj hs)
      subst e
      exact ⟨_, rfl, rfl, la, r⟩
    | i + 1 =>
      obtain ⟨x, hx, rfl⟩ := old i s hs
      obtain ⟨v, hv, q⟩ := dpAll_get d hx
      refine ⟨v, ?_, q⟩
      rw [List.getElem?_cons_succ, List.getElem?_append_left (by rw [List.length_map]; exact (List.getElem?_eq_some_iff.mp hv).1), List.getElem?_map, hv]
      rfl
  · match i with
    | 0 =>
      have e : V.ref a = .ref b := Option.some.inj (Option.some.inj hv)
      injection e with e
      exact fun z => z.2 e.symm
    | i + 1 =>
      obtain ⟨x, hx, rfl⟩ := old i s hs
      exact ow.elim
  · match i, j with
    | 0, 0 => exact ne rfl
    | 0, j + 1 =>
      obtain ⟨x, hx, rfl⟩ := old j u hu
      exact ou.elim
    | i + 1, _ =>
      obtain ⟨x, hx, rfl⟩ := old i s hs
      exact ow.elim
theorem fn_okR {x qual : Str} {st : Stmt} {f : Addr} {fd : FuncData} {N ps : List Str} {k : Nat} {A : List PyData → Prop} {G : List PyData → PyData → Prop} (F : Fun K x qual st f fd) (S : FnScope N ps (defScope st)) (len : ∀ xs, A xs → xs.length + 1 = ps.length)
    (body : ∀ (cdv : Value) (Ar : Around) (outer : List Env) (s : Shared) (H : Hp) (E : XK), Room k (Ar.deeper (envOfC qual (defScope st) s.heap.objs.size f cdv)) → ∀ (a : Addr) (ns : List Int) xs, A xs →
      NSs (cxOf CX0 P w K mg base N qual (defScope st) f cdv Ar outer s H E).nox (defBody st) (some (.r a ns) :: inRho xs (N.length - 1)) (fun _ => False) (fun x ρ' => G xs x ∧ ρ'[0]? = some (some (.r a ns)))) : FnOk P w K mg base CX0 (k + 1) f fd ps (spR K A G) := by
  refine F.ok S (fun vs H Q E h => ?_) (fun cdv Ar outer s H vs Q E hr h => ?_)
  · obtain ⟨L, a, ns, xs, vs', t, la, ev, r, d, hA, q⟩ := h
    rw [ev, List.length_cons, dpAll_len d]
    exact len xs hA
  · obtain ⟨L, a, ns, xs, vs', t, la, ev, r, d, hA, q⟩ := h
    subst ev
    refine ⟨_, body cdv Ar outer s H E hr a ns xs hA, msk (one a) H, fun b => L b ∧ b ≠ a, ⟨L, es_startR t la r d⟩, fun _ h => h.elim, fun y ρ' ⟨hG, h0⟩ v σ' H' ⟨L', es, dv⟩ => ?_⟩
    obtain ⟨u, hu, eu, la', sc, i, j, k', h1, h2, h3⟩ := es.at_ 0 _ h0
    have less : ∀ b, L b → L' b := fun b hb => by
      by_cases e : b = a
      · rw [e]; exact la'
      · exact es.fr b ⟨hb, e⟩
    exact q y hG v H' es.base ⟨sc, i, j, k', h1, h2, (msk_less less).seq h3⟩ (dp_up (msk_less less) _ _ dv)
end
theorem ne_call {X : Cx} {ρ : Rho} {ri : Nat} {ad : Addr} {ns : List Int} {e : Expr} {es : List Expr} {xs : List PyData} {nm : Str} {k : Nat} {ps : List Str} {A : List PyData → Prop} {G : List PyData → PyData → Prop} {p pos : Pos} (C : CalleeR X.prog X.w X.K X.mg X.base nm k ps A G) (hr : Room k X.A) (hg : Gl X nm) (he0 : DV X e ρ ri (.r ad ns)) (hi : ρ[ri]? = some (some (.r ad ns))) (ha : DA X es ρ xs) (hA : A xs)
    (hdb : (nm == ("__debug__" : Str)) = false := by decide) (he : starEach (e :: es) X.env = (false, eval e X.env) :: starEach es X.env := by rfl) (hpl : (backTo pos (starEach es X.env)).any (·.1) = false := by rfl) : NE X (.Call (.Name nm p) (e :: es) [] pos) ρ ri ad ns (G xs) :=
  let ⟨f, fd, F, m, kp, b⟩ := C.ex
  pe_imp (pe_call F hr hg m kp b .nil pass0 (pa_cons he0 ha he) hdb he hpl) fun σ H Q ⟨HB, L0, L, es, _, q⟩ => ⟨HB, L0, L, es, fun v hv hs => ⟨HB, L0, L, es, fun vs H1 e1 d1 => by
    obtain ⟨ev, la, row⟩ := hs
    subst ev
    show spR X.K A G ((V.ref ad :: vs) ++ []) H1 Q E0
    rw [List.append_nil]
    exact ⟨L, ad, ns, xs, vs, (es.up e1).trk, la, rfl, row.up e1, d1, hA, fun x hx u H2 e2 r2 d2 => q x hx u H2 (row_trans (row_of e1) e2) r2 d2⟩⟩⟩

/-! ### comprehensions that draw -/
inductive Pick {τ : Type} (p : Bool → Prop) (R : τ → PyData → Prop) : List τ → List PyData → Prop where
  | nil : Pick p R [] []
  | skip {ts xs t} : Pick p R ts xs → p false → Pick p R (ts ++ [t]) xs
  | take {ts xs t x} : Pick p R ts xs → p true → R t x → Pick p R (ts ++ [t]) (xs ++ [x])
theorem Pick.len {τ : Type} {p : Bool → Prop} {R : τ → PyData → Prop} {ts : List τ} {xs : List PyData} (h : Pick p R ts xs) : xs.length ≤ ts.length := by
  induction h with
  | nil => exact Nat.le_refl _
  | skip h _ ih => rw [List.length_append]; exact Nat.le_trans ih (Nat.le_add_right _ _)
  | take h _ _ ih => rw [List.length_append, List.length_append]; exact Nat.add_le_add_right ih _
/-- the test may say any of p -/
def tNTs (P : Program) (w : World) (K : PySem.W.Frag) (ρ : Rho) (ri : Nat) (a : Addr) (ns : List Int) (p : Bool → Prop) : TT := fun σ H Q => ∃ HB L0 L, ES P w K HB L0 L σ H ρ ∧ ρ[ri]? = some (some (.r a ns)) ∧ ∀ b, p b → ∀ H2, Same (msk (one a) H) H2 → RowAt K L H2 a ns → Q b H2
theorem nts_nil {X : Cx} {ρ : Rho} {ri : Nat} {a : Addr} {ns : List Int} : PTs X [] (tNTs X.prog X.w X.K ρ ri a ns fun b => b = true) := pts_imp pts_nil fun σ H Q ⟨HB, L0, L, es, hi, q⟩ => q true rfl H (row_of (Same.refl H)) (row_here es hi).2
theorem nts_one {X : Cx} {ρ : Rho} {ri : Nat} {a : Addr} {ns : List Int} {c : Expr} (h : NT X c ρ ri a ns) : PTs X [c] (tNTs X.prog X.w X.K ρ ri a ns fun _ => True) := pts_imp (pts_one h) fun σ H Q ⟨HB, L0, L, es, hi, q⟩ => ⟨HB, L0, L, es, hi, fun b H2 => q b trivial H2⟩
theorem ne_lc {X : Cx} {ρ : Rho} {ri : Nat} {a : Addr} {ns : List Int} {elt iter : Expr} {ifs : List Expr} {scope : Scope} {pos : Pos} {τ : Type} {enc : τ → PyData} {T : List τ → Prop} {p : Bool → Prop} {R : τ → PyData → Prop} (i : Nat) {nm : Str} {p1 : Pos} (hc : X.calm = true) (hN : X.N.Nodup) (hrow : ρ[ri]? = some (some (.r a ns))) (hi : NI X (.Name nm p1) iter ρ ri a ns enc T) (ok : BlkOk X.N X.env.scope scope [(nm, i)])
    (hrow2 : ∀ t, (((ρ.set i none).set i (some (.d (enc t)))) : Rho)[ri]? = some (some (.r a ns)))
    (hx : ∀ (s : Shared) (H : Hp) (C : Addr) (cl : List (Str × Addr)) (fp : List Addr), DG (X.blk s H scope (compEnvC scope cl C X.env) fp) (.Name nm p1) (tgN i) [i])
    (ht : ∀ (s : Shared) (H : Hp) (C : Addr) (cl : List (Str × Addr)) (fp : List Addr), ∀ t : τ, PTs (X.blk s H scope (compEnvC scope cl C X.env) fp) ifs (tNTs X.prog X.w X.K ((ρ.set i none).set i (some (.d (enc t)))) ri a ns p))
    (he : ∀ (s : Shared) (H : Hp) (C : Addr) (cl : List (Str × Addr)) (fp : List Addr), ∀ t : τ, NE (X.blk s H scope (compEnvC scope cl C X.env) fp) elt ((ρ.set i none).set i (some (.d (enc t)))) ri a ns (R t))
    (hz : ∀ ts, T ts → ts.length ≤ 90000) (hs : ∀ x, foldedSetIterable iter X.env x = pure x := by intro _; rfl) : NE X (.ListComp elt [⟨.Name nm p1, iter, ifs, 0⟩] scope pos) ρ ri a ns (fun x => ∃ xs, x = .list xs ∧ ∃ ts, T ts ∧ Pick p R ts xs) := by
  have famT : ∀ (s : Shared) (H : Hp) (C : Addr) (cl : List (Str × Addr)) (fp : List Addr), PTs (X.blk s H scope (compEnvC scope cl C X.env) fp) ifs (fun σ H Q => ∃ t : τ, tNTs X.prog X.w X.K ((ρ.set i none).set i (some (.d (enc t)))) ri a ns p σ H Q) :=
    fun s H C cl fp => ⟨fun pins s' σ H' Q I ⟨t, q⟩ => (ht s H C cl fp t).run pins s' σ H' Q I q⟩
  have famE : ∀ (s : Shared) (H : Hp) (C : Addr) (cl : List (Str × Addr)) (fp : List Addr), PE (X.blk s H scope (compEnvC scope cl C X.env) fp) elt (fun σ H Q => ∃ t : τ, tN X.prog X.w X.K ((ρ.set i none).set i (some (.d (enc t)))) ri a ns (R t) σ H Q) :=
    fun s H C cl fp => ⟨fun pins s' σ H' Q I ⟨t, q⟩ => (he s H C cl fp t).run pins s' σ H' Q I q⟩
  refine pe_imp (pe_lc (own := [(nm, i)]) (g := tG X.prog X.w X.K (tgN i) [i]) hc hN hi ok hx famT famE hs) fun σ H Q ⟨HB, L0, L, es0, hi0, q⟩ => ⟨HB, L0, L, es0, hi0, fun ts hts J H1 e1 r1 good D hD => ?_⟩
  have es1 := es0.turn hi0 e1 r1
  have la := (row_here es1 hi0).1
  have hl : (ts.map enc).length = ts.length := List.length_map _
  have nDa : D ≠ a := fun z => es1.trk a la (by rw [← z]; exact hD)
  refine ⟨fun k m H' => m = ts.length - k ∧ k ≤ ts.length ∧ (∀ b o, b ≠ a → b ≠ D → H1 b = some o → H' b = some o) ∧ RowAt X.K (plus L D) H' a ns ∧ ∃ acc xs, Pick p R (ts.take k) xs ∧ H' D = some (.lst acc) ∧ DpAll X.K (msk (plus L D) H') acc xs,
    ⟨ts.length, by omega, Nat.zero_le _, fun b o n1 n2 h => by rw [upd_ne n2]; exact h, ?_, [], [], .nil, upd_same, .nil⟩, ?_⟩
  · obtain ⟨sc, x, y, z, h1, h2, h3⟩ := r1
    exact ⟨sc, x, y, z, by rw [upd_ne (Ne.symm nDa)]; exact h1, h2, (msk_plus (same_upd hD) hD).seq h3⟩
  rintro k m H' ⟨rfl, hk, old, row, acc, xs, pick, hacc, dacc⟩
  have esG : ES X.prog X.w X.K HB L0 (plus L D) σ (upd H1 D (.lst acc)) ρ := es1.grow hD (same_upd hD) (by rw [upd_same]; exact fun z => nomatch z)
  have eG : Same (msk (one a) (upd H1 D (.lst acc))) H' := fun b o hb => by
    obtain ⟨h1, h2⟩ := msk_some hb
    by_cases e : b = D
    · rw [e, upd_same] at h2
      rw [e, hacc, h2]
    · rw [upd_ne e] at h2
      exact old b o h1 e h2
  have esD : ES X.prog X.w X.K HB L0 (plus L D) σ H' ρ := esG.turn hi0 eG row
  have hM : ∀ b, plus L D b → msk L H1 b = none := fun b hb => by
    rcases hb with hb | hb
    · exact msk_in hb
    · subst hb; rw [msk_out (es1.fresh hD)]; exact hD
  have sub : Same (msk L H1) H' := fun b o hb => by
    obtain ⟨h1, h2⟩ := msk_some hb
    exact old b o (fun z => h1 (by rw [z]; exact la)) (ne_of_none h2 hD) h2
  obtain ⟨g1, g2, g3⟩ := good k H' (plus L D) sub hM esD.trk
  rw [hl] at g1 g2 g3
  by_cases hlt : k < ts.length
  · refine .inr ⟨g1 hlt, fun H3 => (∀ b o, b ≠ a → b ≠ D → H1 b = some o → H3 b = some o) ∧ RowAt X.K (plus L D) H3 a ns ∧ ∃ acc xs, Pick p R (ts.take (k + 1)) xs ∧ H3 D = some (.lst acc) ∧ DpAll X.K (msk (plus L D) H3) acc xs, fun H3 ⟨u1, u2, u3⟩ => ⟨ts.length - (k + 1), by omega, rfl, hlt, u1, u2, u3⟩, fun x H'' hy => ?_⟩
    obtain ⟨e2, d, hd, dd⟩ := g3 x H'' hlt hy
    obtain ⟨t, ht⟩ : ∃ t, ts[k]? = some t := ⟨ts[k], List.getElem?_eq_getElem hlt⟩
    have hd' : d = enc t := by
      rw [List.getElem?_map, ht] at hd
      exact (Option.some.inj hd).symm
    subst hd'
    have tk : ts.take (k + 1) = ts.take k ++ [t] := by rw [List.take_add_one, ht]; rfl
    have esW := (esD.up e2).wipe [i]
    refine ⟨HB, L0, plus L D, _, enc t, _, esW, dd, rfl, fun σ' es' hl' hw' => ⟨wipe_eq hl' hw' (fun j hj => by simpa using hj), t, HB, L0, plus L D, es', hrow2 t, fun b hb H3 e3 r3 => ?_⟩⟩
    have la' : plus L D a := .inl la
    cases b with
    | false =>
      refine iteF ⟨fun b o n1 n2 h => off_row e3 n1 (e2 _ _ (old b o n1 n2 h)), r3, acc, xs, by rw [tk]; exact .skip pick hb, off_row e3 nDa (e2 _ _ hacc), ?_⟩
      exact dpAll_up ((msk_up e2).trans (msk_row la' e3)) _ _ dacc
    | true =>
      refine iteT ⟨t, HB, L0, plus L D, es'.turn (hrow2 t) e3 r3, hrow2 t, fun y hy u H4 e4 r4 d4 => ⟨acc, off_row e4 nDa (off_row e3 nDa (e2 _ _ hacc)), ?_, ?_, ?_, acc ++ [u], xs ++ [y], by rw [tk]; exact .take pick hb hy, upd_same, ?_⟩⟩
      · rw [dpAll_len dacc]
        refine line_lt (Nat.lt_of_le_of_lt pick.len ?_)
        have := hz ts hts
        rw [List.length_take]
        omega
      · intro b o n1 n2 h
        rw [upd_ne n2]
        exact off_row e4 n1 (off_row e3 n1 (e2 _ _ (old b o n1 n2 h)))
      · obtain ⟨sc, x', y', z', h1, h2, h3⟩ := r4
        exact ⟨sc, x', y', z', by rw [upd_ne (Ne.symm nDa)]; exact h1, h2, by rw [msk_upd (.inr rfl)]; exact h3⟩
      · rw [msk_upd (.inr rfl)]
        exact dpAll_app (dpAll_up (((msk_up e2).trans (msk_row la' e3)).trans (msk_row la' e4)) _ _ dacc) (dpAll_one d4)
  · have e : k = ts.length := by omega
    subst e
    rw [List.take_length] at pick
    refine .inl ⟨g2 rfl, q _ ⟨xs, rfl, ts, hts, pick⟩ (.ref D) H' (fun b o hb => ?_) ?_ (.lst (.inl (.inl ?_)) (dpAll_up (msk_less fun b z => .inl z) _ _ dacc))⟩
    · obtain ⟨h1, h2⟩ := msk_some hb
      have h3 := off_row e1 h1 h2
      exact old b o h1 (ne_of_none h3 hD) h3
    · obtain ⟨sc, x', y', z', h1, h2, h3⟩ := row
      exact ⟨sc, x', y', z', h1, h2, (msk_less fun b z => .inl z).seq h3⟩
    · rw [msk_out (es1.fresh hD)]
      exact hacc
end SG
set_option Elab.async false
set_option linter.all false
set_option maxRecDepth 100000
set_option maxHeartbeats 4000000
/-! Part F3: _law_taken, _law_net, _law_row. -/
namespace SG
open PySem PySem.Spec PyProof.Rows L2 SGM
section
variable {X : Cx} {ρ : Rho} {a b e c : Expr} {i j : Int} {x : PyData} {pos p : Pos} {J : Rho → Prop} {RR : PyData → Rho → Prop} {sa sb : List Stmt} {out : Out}
theorem de_mod (hj : 0 < j) (ha : DE X a ρ (.int i)) (hb : DE X b ρ (.int j)) : DE X (.BinOp a .Mod b pos) ρ (.int (i % j)) := de_op op_mod (pure_I hj fun _ => .int _) ha hb
theorem de_fdiv (hj : 0 < j ∧ j < 1073741824) (ha : DE X a ρ (.int i)) (hb : DE X b ρ (.int j)) : DE X (.BinOp a .FloorDiv b pos) ρ (.int (i / j)) := de_op op_fdiv (pure_I hj fun _ => .int _) ha hb
theorem de_mul (hj : CMul i j) (ha : DE X a ρ (.int i)) (hb : DE X b ρ (.int j)) : DE X (.BinOp a .Mult b pos) ρ (.int (i * j)) := de_op op_mul (pure_I hj fun _ => .int _) ha hb
theorem de_pow (hj : CPow i j) (ha : DE X a ρ (.int i)) (hb : DE X b ρ (.int j)) : DE X (.BinOp a .Pow b pos) ρ (.int (i ^ j.toNat)) := de_op op_pow (pure_I hj fun _ => .int _) ha hb
theorem de_toInt (hg : Gl X "int") (hm : X.mg "int" = none) (h : DE X e ρ (.int i)) (hs : starEach (e :: []) X.env = (false, eval e X.env) :: starEach [] X.env := by rfl) (hpl : (backTo pos (starEach [] X.env)).any (·.1) = false := by rfl) : DE X (.Call (.Name "int" p) [e] [] pos) ρ (.int i) :=
  de_callTy call_int1 pure_intI hg hm PyProof.Rows.boot_int (da_cons h da_nil hs) (by decide) (by decide) hs hpl
theorem ns_retF {k : Nat} {ad : Addr} {ns : List Int} {x0 y0 z0 : Int} (h : DE X e ρ x) (hi : ρ[k]? = some (some (.f ad [.list (ns.map .int), .int x0, .int y0, .int z0]))) (h0 : 0 ≤ x0) (hR : RR x (ρ.set k (some (.r ad ns)))) : NS X (.Return (some e) pos) ρ J RR :=
  ps_imp (ps_ret h) fun D σ H ⟨HB, L0, ⟨L, es⟩, q1, q2⟩ => ⟨HB, L0, L, es, fun v H2 e2 d2 => q2 x _ hR v σ H2 ⟨L, row_join (es.up e2) hi h0, d2⟩⟩
theorem ds_ifT {ρ1 : Rho} (hc : DT X c ρ true) (ha : DSs X sa ρ out) : DS X (.If c sa sb pos) ρ out := ds_if hc (fun _ => ha) (fun t => nomatch t)
end
def ATake (xs : List PyData) : Prop := ∃ m : Int, xs = [.int m] ∧ 1 ≤ m ∧ m ≤ 1000
def GTake (xs : List PyData) (x : PyData) : Prop := ∃ m r : Int, xs = [.int m] ∧ x = .int r ∧ 0 ≤ r ∧ r < m
def ANet (xs : List PyData) : Prop := xs = [.int 4]
def GNet (xs : List PyData) (x : PyData) : Prop := ∃ n gs, x = encNet n gs ∧ NetOk n gs
def ARow (xs : List PyData) : Prop := ∃ n gs, xs = [encNet n gs, .int 6] ∧ NetOk n gs
def GRowL (xs : List PyData) (x : PyData) : Prop := ∃ n gs cs, xs = [encNet n gs, .int 6] ∧ x = encR cs ∧ RowOk n gs cs ∧ cs.length ≤ 6
def NetG (n : Nat) (gs : List (List Int)) : Prop := (∀ near ∈ gs, near.Pairwise (· < ·)) ∧ ∀ (i : Nat) near, gs[i]? = some near → ∀ o ∈ near, 0 ≤ o ∧ o < ((n + i : Nat) : Int)
theorem pick_sub {p : Bool → Prop} {ts : List Nat} {xs : List PyData} (h : Pick p (fun (i : Nat) x => x = PyData.int i) ts xs) : ∃ l : List Nat, l.Sublist ts ∧ xs = l.map fun (i : Nat) => PyData.int i := by
  induction h with
  | nil => exact ⟨[], List.Sublist.slnil, rfl⟩
  | skip h _ ih =>
    obtain ⟨l, s, e⟩ := ih
    exact ⟨l, s.trans (List.sublist_append_left _ _), e⟩
  | @take ts xs t x h _ hx ih =>
    obtain ⟨l, s, e⟩ := ih
    exact ⟨l ++ [t], s.append (List.Sublist.refl _), by rw [e, hx, List.map_append]; rfl⟩
theorem pick_ints {n : Nat} {gs : List (List Int)} {p : Bool → Prop} {ts : List Nat} {xs : List PyData} (h : Pick p (fun (i : Nat) x => ∃ r : Int, x = PyData.int r ∧ 0 ≤ r ∧ r < ((n + gs.length : Nat) : Int)) ts xs) : ∃ cs : List Int, xs = cs.map .int ∧ RowOk n gs cs := by
  induction h with
  | nil => exact ⟨[], rfl, fun _ h => by simp at h⟩
  | skip h _ ih => exact ih
  | take h _ hx ih =>
    obtain ⟨cs, e, ok⟩ := ih
    obtain ⟨r, er, r0, r1⟩ := hx
    refine ⟨cs ++ [r], by rw [e, er, List.map_append]; rfl, fun c hc => ?_⟩
    rcases List.mem_append.mp hc with h | h
    · exact ok c h
    · rw [show c = r by simpa using h]; exact ⟨r0, r1⟩
section
variable {P : Program} {w : World} {K : PySem.W.Frag} {mg : Str → Option Value} {base : Heap}
theorem w_taken (B : BI mg) (D : DefAt K mg "_law_taken" (topS 41) ["_law_row_here", "_law_many"]) : CalleeR P w K mg base "_law_taken" 1 ["_law_row_here", "_law_many"] ATake GTake :=
  calleeR_of D fun f fd F => fn_okR F (N := ["_law_row_here", "_law_many", "_law_found", "_law_cell"]) ⟨rfl, rfl, rfl, by decide +kernel, rfl, by decide +kernel, by decide +kernel⟩ (fun xs h => by obtain ⟨m, rfl, _⟩ := h; rfl) fun cdv A outer s H E hr a ns xs h => by
    obtain ⟨m, rfl, m1, m2⟩ := h
    refine nss_pre (J1 := fun ρ' => ∃ x y z : Int, 0 ≤ x ∧ ρ' = [some (.f a [.list (ns.map .int), .int x, .int y, .int z]), some (.d (.int m)), none, none]) (fun HB L0 L σ H es => ?_) ?_
    · obtain ⟨x, y, z, h0, es'⟩ := row_split (i := 0) es rfl
      exact ⟨_, ⟨x, y, z, h0, rfl⟩, L, es'⟩
    rintro ρ1 ⟨x, y, z, x0, rfl⟩
    have hm : ∀ v : Int, GTake [.int m] (.int (v % m)) := fun v => ⟨m, v % m, rfl, rfl, Int.emod_nonneg _ (by omega), Int.emod_lt_of_pos _ (by omega)⟩
    by_cases cz : 0 < z
    · refine nss_cons (J1 := fun _ => False) (ns_ifT (dt_is (dt_gt (de_ixF (dv_var 0 rfl) de_int rfl (fun _ _ => rfl)) de_int) (decide_eq_true cz)) ?_) fun _ h => h.elim
      refine nss_d (ds_set 2 (nodup_of (by kernel_rfl)) rfl (Or.inl rfl) (de_mod (by omega) (de_toInt rfl B.int (de_ixF (dv_var 0 rfl) de_int rfl (fun _ _ => rfl))) (de_var 1 rfl))) (nss_d (ds_setItemF (j := 3) (de_fdiv (by omega) (de_ixF (dv_var 0 rfl) de_int rfl (fun _ _ => rfl)) (de_var 1 rfl)) (dv_var 0 rfl) rfl de_int rfl) (nss_one (ns_retF (k := 0) (de_var 2 rfl) rfl x0 ⟨hm z, rfl⟩)))
    · refine nss_d (ds_ifF (dt_is (dt_gt (de_ixF (dv_var 0 rfl) de_int rfl (fun _ _ => rfl)) de_int) (decide_eq_false cz)) dss_nil) ?_
      refine nss_d (ds_setItemF (j := 1) (de_add (de_ixF (dv_var 0 rfl) de_int rfl (fun _ _ => rfl)) de_int) (dv_var 0 rfl) rfl de_int rfl) ?_
      by_cases cx : ((ns.length : Int) < x + 1)
      · refine nss_cons (J1 := fun _ => False) (ns_ifT (dt_is (dt_gt (de_ixF (dv_var 0 rfl) de_int rfl (fun _ _ => rfl)) (de_lenL rfl B.len (de_ixF (dv_var 0 rfl) de_int rfl (fun _ _ => rfl)))) (decide_eq_true (by rw [List.length_map]; exact cx))) ?_) fun _ h => h.elim
        refine nss_d (ds_setItemF (j := 2) (de_mod (by decide) (de_toInt rfl B.int (de_add (de_mul (.inr (by decide)) (de_ixF (dv_var 0 rfl) de_int rfl (fun _ _ => rfl)) de_int) de_int)) de_int) (dv_var 0 rfl) rfl de_int rfl) (nss_one (ns_retF (k := 0) (de_mod (by omega) (de_toInt rfl B.int (de_fdiv (by decide) (de_ixF (dv_var 0 rfl) de_int rfl (fun _ _ => rfl)) de_int)) (de_var 1 rfl)) rfl (by omega) ⟨hm _, rfl⟩))
      · refine nss_d (ds_ifF (dt_is (dt_gt (de_ixF (dv_var 0 rfl) de_int rfl (fun _ _ => rfl)) (de_lenL rfl B.len (de_ixF (dv_var 0 rfl) de_int rfl (fun _ _ => rfl)))) (decide_eq_false (by rw [List.length_map]; exact cx))) dss_nil) ?_
        refine nss_d (ds_set 3 (nodup_of (by kernel_rfl)) rfl (Or.inl rfl) (de_ix ix_list (pure_ixL (atI_map (i := x.toNat) (x := gt ns x.toNat) (by omega) (gt_some (by omega)))) (de_ixF (dv_var 0 rfl) de_int rfl (fun _ _ => rfl)) (de_sub (de_ixF (dv_var 0 rfl) de_int rfl (fun _ _ => rfl)) de_int) (fun _ _ => rfl))) ?_
        refine nss_d (ds_setItemF (j := 2) (de_mod (by decide) (de_toInt rfl B.int (de_add (de_add (de_mul (.inr (by decide)) (de_ixF (dv_var 0 rfl) de_int rfl (fun _ _ => rfl)) de_int) (de_var 3 rfl)) de_int)) de_int) (dv_var 0 rfl) rfl de_int rfl) ?_
        by_cases cc : (10 : Int) ^ (18 : Int).toNat ≤ gt ns x.toNat
        · refine nss_d (ds_ifT (ρ1 := []) (dt_is (dt_ge (de_var 3 rfl) (de_pow ⟨by decide, by decide, by decide⟩ de_int de_int)) (decide_eq_true cc)) (dss_one (ds_setItemF (j := 3) (de_fdiv (by omega) (de_var 3 rfl) (de_var 1 rfl)) (dv_var 0 rfl) rfl de_int rfl))) (nss_one (ns_retF (k := 0) (de_mod (by omega) (de_toInt rfl B.int (de_var 3 rfl)) (de_var 1 rfl)) rfl (by omega) ⟨hm _, rfl⟩))
        · refine nss_d (ds_ifF (dt_is (dt_ge (de_var 3 rfl) (de_pow ⟨by decide, by decide, by decide⟩ de_int de_int)) (decide_eq_false cc)) dss_nil) (nss_one (ns_retF (k := 0) (de_mod (by omega) (de_toInt rfl B.int (de_var 3 rfl)) (de_var 1 rfl)) rfl (by omega) ⟨hm _, rfl⟩))
theorem w_lnet (B : BI mg) (D : DefAt K mg "_law_net" (topS 43) ["_law_row_here", "_law_most"]) (C : CalleeR P w K mg base "_law_taken" 1 ["_law_row_here", "_law_many"] ATake GTake) : CalleeR P w K mg base "_law_net" 2 ["_law_row_here", "_law_most"] ANet GNet :=
  calleeR_of D fun f fd F => fn_okR F (N := ["_law_row_here", "_law_most", "_law_size", "_law_gates", "_law_turn", "_law_near", "_law_who"]) ⟨rfl, rfl, rfl, by decide +kernel, rfl, by decide +kernel, by decide +kernel⟩ (fun xs h => by rw [h]; rfl) fun cdv A outer s H E hr a ns xs h => by
    have h : xs = [.int 4] := h
    subst h
    refine nss_cons (ns_par (i := 2) (j := 3) (ri := 0) (fun ta ha mono => par_L rfl (nodup_of (by kernel_rfl)) rfl rfl (by decide) rfl rfl rfl rfl ha mono) (ne_addL (p := fun r => 0 ≤ r ∧ r < 3) de_int (ne_imp (ne_call C hr rfl (dv_var 0 rfl) rfl (da_cons de_int da_nil) ⟨3, rfl, by decide, by decide⟩) (fun x ⟨m, r, em, ex, r0, r1⟩ => ?_))) (ne_of (R := fun x => x = encS []) rfl (de_tup da_nil (by decide)) rfl) rfl) ?_
    · injection em with em
      injection em with em
      exact ⟨r, ex, r0, by omega⟩
    rintro ρ1 ⟨x, y, ⟨r, rfl, r0, r1⟩, rfl, rfl⟩
    obtain ⟨n, hn⟩ : ∃ n : Nat, (1 : Int) + r = n := ⟨(1 + r).toNat, by omega⟩
    rw [hn]
    have n1 : 1 ≤ n := by omega
    have n3 : n ≤ 3 := by omega
    refine nss_cons (ns_for (ri := 0) (ad := a) (ns := ns) (fs := fun (i : Nat) ρ => ρ.set 4 (some (.d (.int i)))) (fun k ρ' => ∃ gs, NetG n gs ∧ gs.length = k ∧ ρ' = [some (.r a ns), some (.d (.int 4)), some (.d (.int n)), some (.d (encS gs)), none, none, none]) ⟨[], ⟨fun _ h => by simp at h, fun i _ h => by simp at h⟩, rfl, rfl⟩ rfl PassesOwn.never rfl (ni_range (m := 5) rfl B.range (ne_imp (ne_call C hr rfl (dv_var 0 rfl) rfl (da_cons (de_add (de_var 1 rfl) de_int) da_nil) ⟨5, rfl, by decide, by decide⟩) (fun x ⟨m, r, em, ex, r0, r1⟩ => ?_)) (by decide)) (dg_name 4 (nodup_of (by kernel_rfl)) rfl (Or.inl rfl)) (fun _ => rfl) (fun ts hts k t ρ' ht hI => ?_)) ?_
    · injection em with em
      injection em with em
      exact ⟨r, ex, r0, by omega⟩
    · obtain ⟨r, hr5, rfl⟩ := hts
      obtain ⟨gs, ok, hl, rfl⟩ := hI
      have hk : k < r := by
        have := (List.getElem?_eq_some_iff.mp ht).1
        rwa [List.length_range] at this
      have e : t = k := by
        rw [List.getElem?_range hk] at ht
        exact (Option.some.inj ht).symm
      subst e
      refine nss_cons (ns_set 5 (nodup_of (by kernel_rfl)) rfl (Or.inl rfl) (ne_tupL (RL := fun xs => ∃ near : List Int, xs = near.map .int ∧ near.Pairwise (· < ·) ∧ ∀ o ∈ near, 0 ≤ o ∧ o < ((n + t : Nat) : Int)) rfl B.tuple (ne_imp (ne_lc (T := fun us => us = List.range (n + t)) (enc := fun (i : Nat) => PyData.int i) (R := fun (i : Nat) x => x = .int i) 6 rfl (nodup_of (by kernel_rfl)) rfl (ni_of rfl (di_range rfl B.range (de_is (de_add (de_var 2 rfl) (de_var 4 rfl)) rfl) (by omega))) (blk_of (by kernel_rfl)) (fun _ => rfl) (fun _ _ _ _ _ => dg_name 6 (nodup_of (by kernel_rfl)) rfl (Or.inl rfl)) (fun _ _ _ _ _ i => nts_one (nt_lt (p := fun _ => True) (ne_imp (ne_call C hr rfl (dv_var 0 rfl) rfl (da_cons de_int da_nil) ⟨5, rfl, by decide, by decide⟩) (fun x ⟨m, r, em, ex, _⟩ => ⟨r, ex, trivial⟩)) de_int)) (fun _ _ _ _ _ i => ne_of rfl (de_var 6 rfl) rfl) (fun us hus => by rw [hus, List.length_range]; omega)) (fun x ⟨xs, ex, ts, hts, pk⟩ => ⟨xs, ex, ?_⟩))) rfl) ?_
      · subst hts
        obtain ⟨l, sl, el⟩ := pick_sub pk
        refine ⟨l.map fun (i : Nat) => (i : Int), by rw [el, List.map_map]; rfl, ?_, fun o ho => ?_⟩
        · refine List.Pairwise.map _ (fun a b h => ?_) ((List.pairwise_lt_range (n := n + t)).sublist sl)
          omega
        · obtain ⟨i, hi, e⟩ := List.mem_map.mp ho
          have := List.mem_range.mp (sl.subset hi)
          omega
      rintro ρ1 ⟨x, ⟨xs, rfl, near, rfl, up, rg⟩, rfl⟩
      refine nss_post (J2 := fun ρ' => ρ' = [some (.r a ns), some (.d (.int 4)), some (.d (.int n)), some (.d (encS (gs ++ [near]))), some (.d (.int t)), some (.d (encR near)), none]) (nss_d (ds_set 3 (nodup_of (by kernel_rfl)) rfl (Or.inl rfl) (de_is (de_catT (de_var 3 rfl) (de_tup (da_cons (de_var 5 rfl) da_nil) (show 1 ≤ 100000 by decide)) ?_) ?_)) (nss_nil rfl)) fun ρ' e => ?_
      · rw [List.length_map, hl]
        show t + 1 ≤ 100000
        omega
      · show PyData.tuple (gs.map encR ++ [encR near]) = encS (gs ++ [near])
        unfold encS
        rw [List.map_append]
        rfl
      · subst e
        refine ⟨_, ⟨gs ++ [near], ⟨fun g hg => ?_, fun i g hg o ho => ?_⟩, by rw [List.length_append, hl]; rfl, rfl⟩, ⟨rfl, rfl, rfl, rfl, trivial⟩⟩
        · rcases List.mem_append.mp hg with h | h
          · exact ok.1 g h
          · rw [show g = near by simpa using h]; exact up
        · by_cases hi : i < gs.length
          · rw [List.getElem?_append_left hi] at hg
            exact ok.2 i g hg o ho
          · rw [List.getElem?_append_right (by omega)] at hg
            have hi2 := (List.getElem?_eq_some_iff.mp hg).1
            have e : i = t := by
              rw [List.length_singleton] at hi2
              omega
            subst e
            rw [hl, Nat.sub_self] at hg
            have e : near = g := Option.some.inj hg
            subst e
            exact rg o ho
    · rintro ρ1 ⟨ts, ⟨r, hr5, rfl⟩, gs, ok, hl, rfl⟩
      rw [List.length_range] at hl
      exact nss_one (ns_ret (x := encNet n gs) (de_tup (da_cons (de_var 2 rfl) (da_cons (de_var 3 rfl) da_nil)) (show 2 ≤ 100000 by decide)) ⟨⟨n, gs, rfl, n1, n3, by omega, ok.1, ok.2⟩, rfl⟩)
theorem w_lrow (B : BI mg) (D : DefAt K mg "_law_row" (topS 48) ["_law_row_here", "_law_net_here", "_law_most"]) (C : CalleeR P w K mg base "_law_taken" 1 ["_law_row_here", "_law_many"] ATake GTake) : CalleeR P w K mg base "_law_row" 2 ["_law_row_here", "_law_net_here", "_law_most"] ARow GRowL :=
  calleeR_of D fun f fd F => fn_okR F (N := ["_law_row_here", "_law_net_here", "_law_most", "_law_size", "_law_turn"]) ⟨rfl, rfl, rfl, by decide +kernel, rfl, by decide +kernel, by decide +kernel⟩ (fun xs h => by obtain ⟨n, gs, rfl, _⟩ := h; rfl) fun cdv A outer s H E hr a ns xs h => by
    obtain ⟨n, gs, rfl, N⟩ := h
    have n1 := N.n1
    have n3 := N.n3
    have g4 := N.g4
    refine nss_d (ds_set 3 (nodup_of (by kernel_rfl)) rfl (Or.inr rfl) (de_is (c := .int ((n + gs.length : Nat) : Int)) (de_add (de_at (de_var 1 rfl) de_int rfl (fun _ _ => rfl)) (de_len rfl B.len (de_at (de_var 1 rfl) de_int rfl (fun _ _ => rfl)))) (by rw [List.length_map]; rfl))) ?_
    refine nss_one (ns_retN (ri := 0) (ad := a) (ns := ns) (ne_tupL (RL := fun xs => ∃ cs : List Int, xs = cs.map .int ∧ RowOk n gs cs ∧ cs.length ≤ 6) rfl B.tuple (ne_imp (ne_lc (enc := fun (i : Nat) => PyData.int i) (R := fun (i : Nat) x => ∃ r : Int, x = .int r ∧ 0 ≤ r ∧ r < ((n + gs.length : Nat) : Int)) 4 rfl (nodup_of (by kernel_rfl)) rfl (ni_range (m := 7) rfl B.range (ne_imp (ne_call C hr rfl (dv_var 0 rfl) rfl (da_cons (de_add (de_var 2 rfl) de_int) da_nil) ⟨7, rfl, by decide, by decide⟩) (fun x ⟨m, r, em, ex, r0, r1⟩ => ?_)) (by decide)) (blk_of (by kernel_rfl)) (fun _ => rfl) (fun _ _ _ _ _ => dg_name 4 (nodup_of (by kernel_rfl)) rfl (Or.inl rfl)) (fun _ _ _ _ _ i => nts_nil) (fun _ _ _ _ _ i => ne_imp (ne_call C hr rfl (dv_var 0 rfl) rfl (da_cons (de_var 3 rfl) da_nil) ⟨_, rfl, by omega, by omega⟩) (fun x ⟨m, r, em, ex, r0, r1⟩ => ?_)) (fun us ⟨r, hr, hus⟩ => by rw [hus, List.length_range]; omega)) (fun x ⟨xs, ex, ts, ⟨r, hr, hts⟩, pk⟩ => ⟨xs, ex, ?_⟩))) rfl (fun x ⟨xs, ex, cs, e2, ok, hl⟩ => ?_))
    · injection em with em
      injection em with em
      exact ⟨r, ex, r0, by omega⟩
    · injection em with em
      injection em with em
      exact ⟨r, ex, r0, by omega⟩
    · obtain ⟨cs, e, ok⟩ := pick_ints pk
      refine ⟨cs, e, ok, ?_⟩
      have := pk.len
      rw [e, List.length_map, hts, List.length_range] at this
      omega
    · subst e2
      subst ex
      exact ⟨⟨n, gs, cs, rfl, rfl, ok, hl⟩, rfl⟩
end
end SG
set_option Elab.async false
set_option linter.all false
set_option maxRecDepth 100000
set_option maxHeartbeats 4000000
/-! Part G1: the law's start. -/
namespace SG
open PySem PySem.Spec PyProof.Rows L2 SGM
abbrev lawN : List Str := ("_law_script" : Str) :: ("_law_row_here" : Str) :: ("_law_net_here" : Str) :: ("_law_some" : Str) :: ("_law_size" : Str) :: ("_law_goal" : Str) :: ("_law_first" : Str) :: ("_law_known" : Str) :: ("_law_last" : Str) :: ("_law_turn" : Str) :: ("_law_fresh" : Str) :: ("_law_calls" : Str) :: ("_law_here" : Str) :: ("_law_person" : Str) :: ("_law_there" : Str) :: ("_law_must" : Str) :: ("_law_some_known" : Str) :: ("_law_edge" : Str) :: ("_law_later" : Str) :: ("_law_who" : Str) :: ("_law_other" : Str) :: ("_law_mine" : Str) :: ("_law_idle" : Str) :: ("_law_many" : Str) :: ("_law_lines" : Str) :: ("_law_longer" : Str) :: ("_law_line" : Str) :: ("_law_told" : Str) :: ("_law_lost" : Str) :: ("_law_bits_here" : Str) :: ("_law_spot" : Str) :: ("_law_state" : Str) :: ("_law_at" : Str) :: []
abbrev lawX (P : Program) (w : World) (K : PySem.W.Frag) (mg : Str → Option Value) (base : Heap) (f : Addr) (cdv : Value) (A : Around) (outer : List Env) (s : Shared) (H : Hp) (E : XK) : Cx := (cxOf CX0 P w K mg base lawN "law" (defScope (topS 50)) f cdv A outer s H E).nox
def lawS (i : Nat) : Stmt := (defBody (topS 50)).getD i (.Pass ⟨0, 0, 0, 0⟩)
/-- all that law calls -/
structure LC (P : Program) (w : World) (K : PySem.W.Frag) (mg : Str → Option Value) (base : Heap) : Prop where
  taken : CalleeR P w K mg base "_law_taken" 6 ["_law_row_here", "_law_many"] ATake GTake
  net : CalleeR P w K mg base "_law_net" 6 ["_law_row_here", "_law_most"] ANet GNet
  row : CalleeR P w K mg base "_law_row" 6 ["_law_row_here", "_law_net_here", "_law_most"] ARow GRowL
  al1 : Callee P w K mg base "_law_alike" 6 ["_law_found", "_law_due"] GAl1
  al2 : Callee P w K mg base "_law_alike" 6 ["_law_found", "_law_due"] GAl2
  bits : Callee P w K mg base "_law_bits" 6 ["_law_size"] GBits
  end_ : Callee P w K mg base "_law_end" 6 ["_law_net_here", "_law_bits_here"] GStand
  round : Callee P w K mg base "_law_round" 6 ["_law_net_here", "_law_state", "_law_some"] GRound
  walk : Callee P w K mg base "_law_walk" 6 ["_law_net_here", "_law_bits_here", "_law_calls"] GWalkL
  wrong : Callee P w K mg base "_law_wrong" 6 ["_law_net_here", "_law_calls"] GWrong
  right : Callee P w K mg base "least_right" 6 ["net"] GRight
  few : Callee P w K mg base "fewest_calls" 6 ["net"] GFew
  must : Callee P w K mg base "must_call" 6 ["net"] GMust
  idle : Callee P w K mg base "needless_calls" 6 ["net", "calls"] GIdle
  same : Callee P w K mg base "same_rows" 6 ["net", "one", "other"] GSame
  count : Callee P w K mg base "count_right" 6 ["net", "many"] GCount
  mend : Callee P w K mg base "mended" 6 ["net", "calls"] GMend
abbrev hd6 (a : Addr) (ns : List Int) (n : Nat) (gs : List (List Int)) : Rho := [some (.d (.list (ns.map .int))), some (.r a ns), some (.d (encNet n gs)), some (.d (.list ((SGM.allB n).map encR))), some (.d (.int ((n + gs.length : Nat) : Int))), some (.d (encS (goal n gs))), some (.d (encS (Wc n gs [] [])))]
/-- the first phase: known, last, turn, fresh, calls, here, person, there -/
abbrev R1 (a : Addr) (ns : List Int) (n : Nat) (gs : List (List Int)) (known last turn fresh calls here person there : Option Slot) : Rho :=
  [some (.d (.list (ns.map .int))), some (.r a ns), some (.d (encNet n gs)), some (.d (.list ((SGM.allB n).map encR))), some (.d (.int ((n + gs.length : Nat) : Int))), some (.d (encS (goal n gs))), some (.d (encS (Wc n gs [] []))), known, last, turn, fresh, calls, here, person, there, none, none, none, none, none, none, none, none, none, none, none, none, none, none, none, none, none, none]
section
variable {P : Program} {w : World} {K : PySem.W.Frag} {mg : Str → Option Value} {base : Heap} {f : Addr} {cdv : Value} {A : Around} {outer : List Env} {s : Shared} {H : Hp} {E : XK}
theorem row_make {HB H : Hp} {L0 L : Own} {σ : L2.St} {ρ : Rho} {ns : List Int} {i : Nat} {x y z : Int} (h : ES P w K HB L0 L σ H ρ) (hi : ρ[i]? = some (some (.l [.list (ns.map .int), .int x, .int y, .int z]))) (hx : 0 ≤ x) : ∃ a, ES P w K HB L0 L σ H (ρ.set i (some (.r a ns))) := by
  obtain ⟨v, hv, a, vs, ev, la, h1, h2⟩ := h.at_ i _ hi
  subst ev
  have il : i < ρ.length := (List.getElem?_eq_some_iff.mp hi).1
  have h3 : ES P w K HB L0 L σ H (ρ.set i (some (.f a [.list (ns.map .int), .int x, .int y, .int z]))) := h.swap hi trivial trivial fun u hu _ => by
    rw [hv] at hu
    injection hu with hu
    injection hu with hu
    exact ⟨hu.symm, la, vs, h1, h2⟩
  have h4 := row_join (i := i) h3 (List.getElem?_set_self il) hx
  rw [List.set_set] at h4
  exact ⟨a, h4⟩
theorem law_1 {rest : List Stmt} {out : Out} {ns : List Int} (h : ∀ a, DSs (lawX P w K mg base f cdv A outer s H E) rest ((inRho [.list (ns.map .int)] lawN.length).set 1 (some (.r a ns))) out) : DSs (lawX P w K mg base f cdv A outer s H E) (lawS 0 :: rest) (inRho [.list (ns.map .int)] lawN.length) out := by
  refine dss_cons (ds_setO (s := .l [.list (ns.map .int), .int 0, .int 10305, .int 0]) 1 (nodup_of (by kernel_rfl)) rfl (Or.inl rfl) (do_lst (da_cons (de_var 0 rfl) (da_cons de_int (da_cons de_int (da_cons de_int da_nil)))) (show 4 ≤ 100000 by decide)) trivial) ?_
  refine dss_preF (J1 := fun ρ' => ∃ a, ρ' = (inRho [.list (ns.map .int)] lawN.length).set 1 (some (.r a ns))) (fun HB L0 L σ H es => ?_) (fun ρ1 ⟨a, e⟩ => by rw [e]; exact h a)
  obtain ⟨a, es'⟩ := row_make (i := 1) es rfl (by decide)
  exact ⟨_, ⟨a, rfl⟩, L, es'⟩
theorem law_2 {rest : List Stmt} {out : Out} {a : Addr} {ns : List Int} (C : LC P w K mg base) (hr2 : Room 6 (lawX P w K mg base f cdv A outer s H E).A) (h : ∀ n gs, NetOk n gs → DSs (lawX P w K mg base f cdv A outer s H E) rest (((inRho [.list (ns.map .int)] lawN.length).set 1 (some (.r a ns))).set 2 (some (.d (encNet n gs)))) out) :
    DSs (lawX P w K mg base f cdv A outer s H E) (lawS 1 :: rest) ((inRho [.list (ns.map .int)] lawN.length).set 1 (some (.r a ns))) out :=
  dss_ns (ns_set 2 (ri := 1) (ad := a) (ns := ns) (nodup_of (by kernel_rfl)) rfl (Or.inr rfl) (ne_call C.net hr2 rfl (dv_var 1 rfl) rfl (da_cons de_int da_nil) rfl) rfl) fun ρ1 ⟨x, ⟨n, gs, ex, N⟩, e⟩ => by
    rw [e, ex]
    exact h n gs N
theorem law_3 {a : Addr} {ns : List Int} {n : Nat} {gs : List (List Int)} {rest : List Stmt} {out : Out} (B : BI mg) (C : LC P w K mg base) (hr : Room 6 (lawX P w K mg base f cdv A outer s H E).A) (N : NetOk n gs)
    (h : DSs (lawX P w K mg base f cdv A outer s H E) rest (R1 a ns n gs (some (.m (kn (Wc n gs []) encR [[]]))) (some (.d (.list (encL (Wc n gs []) [[]])))) none none none none none none) out) :
    DSs (lawX P w K mg base f cdv A outer s H E) (lawS 2 :: lawS 3 :: lawS 4 :: lawS 5 :: rest) (((inRho [.list (ns.map .int)] lawN.length).set 1 (some (.r a ns))).set 2 (some (.d (encNet n gs)))) out := by
  have n3 := N.n3
  have g4 := N.g4
  have e1 : (List.replicate ((gs.map encR).length : Int).toNat [PyData.int 1]).flatten = (List.replicate gs.length 1).map .int := by
    rw [List.length_map, Int.toNat_natCast, List.flatten_replicate_singleton, List.map_replicate]
  refine dss_cons (ds_parDD (i := 3) (j := 4) (x := .list ((SGM.allB n).map encR)) (y := .int ((n + gs.length : Nat) : Int)) (fun ta ha mono => par_C rfl (nodup_of (by kernel_rfl)) rfl rfl (Or.inr rfl) (Or.inr rfl) rfl rfl (by first | exact .inl rfl | exact .inr rfl) (by first | exact .inl rfl | exact .inr rfl) ha mono) (de_callC C.bits hr rfl (da_cons (de_at (de_var 2 rfl) de_int rfl (fun _ _ => rfl)) da_nil) ⟨n, rfl, n3, rfl⟩) (de_is (de_add (de_at (de_var 2 rfl) de_int rfl (fun _ _ => rfl)) (de_len rfl B.len (de_at (de_var 2 rfl) de_int rfl (fun _ _ => rfl)))) (by rw [List.length_map]; rfl))) ?_
  refine dss_cons (ds_set (x := encS (goal n gs)) 5 (nodup_of (by kernel_rfl)) rfl (Or.inr rfl) (de_is (de_tupL rfl B.tuple (de_new (do_lcN 29 (ts := SGM.allB n) (enc := encR) (fun b => encR (endIn gs b)) rfl (nodup_of (by kernel_rfl)) (di_list (de_var 3 rfl)) (blk_of (by kernel_rfl)) (fun _ _ _ _ _ => dg_name 29 (nodup_of (by kernel_rfl)) rfl (Or.inl rfl)) (fun _ _ _ _ _ b hb => de_callC C.end_ hr rfl (da_cons (de_var 2 rfl) (da_cons (de_var 29 rfl) da_nil)) ⟨n, gs, b, rfl, N, (allB_ok n b hb).1, rfl⟩) (allB_le n3)))) ?_)) ?_
  · show _ = PyData.tuple (((SGM.allB n).map _).map encR)
    rw [List.map_map]
    rfl
  refine dss_cons (ds_set (x := encS (Wc n gs [] [])) 6 (nodup_of (by kernel_rfl)) rfl (Or.inl rfl) (de_is (de_tupL rfl B.tuple (de_new (do_lcN 29 (ts := SGM.allB n) (enc := encR) (fun b => encR (begin1 gs b)) rfl (nodup_of (by kernel_rfl)) (di_list (de_var 3 rfl)) (blk_of (by kernel_rfl)) (fun _ _ _ _ _ => dg_name 29 (nodup_of (by kernel_rfl)) rfl (Or.inl rfl)) (fun _ _ _ _ _ b hb => de_is (de_catT (de_var 29 rfl) (de_op op_rep3 (pure_rep3 (by simp) (by omega) (by rw [List.length_map]; omega) (by decide)) (de_tup (da_cons de_int da_nil) (by decide)) (de_len rfl B.len (de_at (de_var 2 rfl) de_int rfl (fun _ _ => rfl)))) ?_) ?_) (allB_le n3)))) ?_)) ?_
  · have := (allB_ok n b hb).1
    rw [e1, List.length_map, List.length_map, List.length_replicate]
    omega
  · rw [e1, ← List.map_append]
    rfl
  · show _ = PyData.tuple (((SGM.allB n).map _).map encR)
    rw [List.map_map]
    rfl
  refine dss_cons (ds_parOD (i := 7) (j := 8) (fun ta ha mono => par_C rfl (nodup_of (by kernel_rfl)) rfl rfl (Or.inr rfl) (Or.inl rfl) rfl rfl (by first | exact .inl rfl | exact .inr rfl) (by first | exact .inl rfl | exact .inr rfl) ha mono) (do_disp1 hr (de_var 6 rfl) (de_tup da_nil (by decide))) trivial (de_new (do_lst (da_cons (de_var 6 rfl) da_nil) (show 1 ≤ 100000 by decide)))) h
end
end SG
set_option Elab.async false
set_option linter.all false
set_option maxRecDepth 100000
set_option maxHeartbeats 4000000
/-! Part G2: the law's own search for the least row. -/
namespace SG
open PySem PySem.Spec PyProof.Rows L2 SGM
theorem wc_st {n : Nat} {gs : List (List Int)} {cs r st : List Int} (h : st ∈ Wc n gs cs r) : ∃ b, StB n gs b st := by
  obtain ⟨b, hb, e⟩ := List.mem_map.mp h
  obtain ⟨h1, h2⟩ := allB_ok n b hb
  exact ⟨b, by rw [← e]; exact (StB.start h1 h2).walk _⟩
theorem wc_len {n : Nat} {gs : List (List Int)} {cs r : List Int} (N : NetOk n gs) : (Wc n gs cs r).length ≤ 8 := by
  unfold Wc
  rw [wk_len]
  exact Nat.pow_le_pow_right (n := 2) (by decide) N.n3
section
variable {P : Program} {w : World} {K : PySem.W.Frag} {mg : Str → Option Value} {base : Heap} {f : Addr} {cdv : Value} {A : Around} {outer : List Env} {s : Shared} {H : Hp} {E : XK}
theorem law_7 {a : Addr} {ns : List Int} {n : Nat} {gs : List (List Int)} (B : BI mg) (C : LC P w K mg base) (hr : Room 6 (lawX P w K mg base f cdv A outer s H E).A) (N : NetOk n gs) :
    DS (lawX P w K mg base f cdv A outer s H E) (lawS 6) (R1 a ns n gs (some (.m (kn (Wc n gs []) encR [[]]))) (some (.d (.list (encL (Wc n gs []) [[]])))) none none none none none none)
      (.nx (R1 a ns n gs (some (.m (kn (Wc n gs []) encR (bfs (Wc n gs []) (sz n gs) (okL S fun _ => true) 8).1))) (some (.d (.list (encL (Wc n gs []) (bfs (Wc n gs []) (sz n gs) (okL S fun _ => true) 8).2)))) none none none none none none)) := by
  have n3 := N.n3
  have g4 := N.g4
  have hD := Wc_wk N []
  have few := bfs_few hD (okL S fun _ => true)
  refine ds_is (ds_forN (ts := List.range 8) (enc := fun (i : Nat) => PyData.int i) (fs := fun (i : Nat) ρ => ρ.set 9 (some (.d (.int i)))) (fun k => R1 a ns n gs (some (.m (kn (Wc n gs []) encR (bfs (Wc n gs []) (sz n gs) (okL S fun _ => true) k).1))) (some (.d (.list (encL (Wc n gs []) (bfs (Wc n gs []) (sz n gs) (okL S fun _ => true) k).2)))) none none none none none none) rfl PassesOwn.never rfl (di_range (n := 8) rfl B.range de_int (by decide)) (dg_name 9 (nodup_of (by kernel_rfl)) rfl (Or.inl rfl)) (fun _ _ => rfl) (fun k t _ => ?_)) (by rw [List.length_range])
  have b := bi hD (okL S fun _ => true) k
  have bl := b.last
  have bd := b.dis
  have bg := b.good
  clear b
  have up := bfs_up hD (okL S fun _ => true) k
  have few1 := few k
  have few2 : (lvl (Wc n gs []) (sz n gs) (okL S fun _ => true) ((bfs (Wc n gs []) (sz n gs) (okL S fun _ => true) k).1, (bfs (Wc n gs []) (sz n gs) (okL S fun _ => true) k).2)).1.length ≤ 1957 := few (k + 1)
  have nx : bfs (Wc n gs []) (sz n gs) (okL S fun _ => true) (k + 1) = lvl (Wc n gs []) (sz n gs) (okL S fun _ => true) ((bfs (Wc n gs []) (sz n gs) (okL S fun _ => true) k).1, (bfs (Wc n gs []) (sz n gs) (okL S fun _ => true) k).2) := rfl
  rw [nx]
  clear nx few
  generalize (bfs (Wc n gs []) (sz n gs) (okL S fun _ => true) k).1 = fo at bl bd bg few1 few2 ⊢
  generalize (bfs (Wc n gs []) (sz n gs) (okL S fun _ => true) k).2 = la at bl up few2 ⊢
  have la_len : la.length ≤ fo.length := nodup_le (up.imp fun {a b} h e => lx_ne h e) bl
  refine dss_cons (ds_setO 10 (nodup_of (by kernel_rfl)) rfl (Or.inl rfl) (do_lst da_nil (by decide)) trivial) ?_
  refine dss_cons (ds_forN (ts := la) (enc := encP (Wc n gs [])) (fs := fun r ρ => (ρ.set 11 (some (.d (encR r)))).set 12 (some (.d (encS (Wc n gs [] r))))) (fun i => R1 a ns n gs (some (.m (kn (Wc n gs []) encR (mid (Wc n gs []) (sz n gs) (okL S fun _ => true) fo la i).1))) (some (.d (.list (encL (Wc n gs []) la)))) (some (.d (.int t))) (some (.l (encL (Wc n gs []) (mid (Wc n gs []) (sz n gs) (okL S fun _ => true) fo la i).2))) none none none none) rfl PassesOwn.never rfl
    (di_list (de_new (do_is (do_sorted hr rfl B.sorted (de_new (do_lcN 30 (ts := la) (enc := fun r => encS (Wc n gs [] r)) (encP (Wc n gs [])) rfl (nodup_of (by kernel_rfl)) (di_list (de_var 8 rfl)) (blk_of (by kernel_rfl)) (fun _ _ _ _ _ => dg_name 30 (nodup_of (by kernel_rfl)) rfl (Or.inl rfl)) (fun _ _ _ _ _ r hr' => de_tup (da_cons (de_dget hr (dv_var 7 rfl) (de_var 30 rfl) (by rw [kn_look, row_self bd (bl r hr')]; rfl) (fun _ _ => rfl)) (da_cons (de_var 30 rfl) da_nil)) (show 2 ≤ 100000 by decide)) (by omega))) pairs_alike pairs_sortable (by omega) (fun r _ => pair_depth r)) (by rw [sorted_same up]))))
    (dg_pair 11 12 rfl (nodup_of (by kernel_rfl)) rfl (Or.inr rfl) rfl (Or.inl rfl)) (fun r _ => ⟨_, _, rfl, rfl⟩) (fun i r hr' => ?_)) ?_
  · refine dss_keep (R1 a ns n gs (some (.m (kn (Wc n gs []) encR (mid2 (Wc n gs []) (sz n gs) (okL S fun _ => true) fo la i (List.range (sz n gs)).length r).1))) (some (.d (.list (encL (Wc n gs []) la)))) (some (.d (.int t))) (some (.l (encL (Wc n gs []) (mid2 (Wc n gs []) (sz n gs) (okL S fun _ => true) fo la i (List.range (sz n gs)).length r).2))) (some (.d (encR r))) (some (.d (encS (Wc n gs [] r)))) none none) ?_ (dss_one (ds_forN (ts := List.range (sz n gs)) (enc := fun (p : Nat) => PyData.int p) (fs := fun (p : Nat) ρ => ρ.set 13 (some (.d (.int p)))) (fun j => R1 a ns n gs (some (.m (kn (Wc n gs []) encR (mid2 (Wc n gs []) (sz n gs) (okL S fun _ => true) fo la i j r).1))) (some (.d (.list (encL (Wc n gs []) la)))) (some (.d (.int t))) (some (.l (encL (Wc n gs []) (mid2 (Wc n gs []) (sz n gs) (okL S fun _ => true) fo la i j r).2))) (some (.d (encR r))) (some (.d (encS (Wc n gs [] r)))) none none) rfl PassesOwn.never rfl
      (di_range rfl B.range (de_var 4 rfl) (by show n + gs.length ≤ 100000; omega)) (dg_name 13 (nodup_of (by kernel_rfl)) rfl (Or.inr rfl)) (fun _ _ => rfl) (fun j p hp => ?_)))
    · rw [List.length_range, mid2_all hr']
      exact ⟨rfl, rfl, rfl, rfl, rfl, rfl, rfl, rfl, rfl, rfl, rfl, trivial⟩
    · have hj : j < sz n gs := by
        have := (List.getElem?_eq_some_iff.mp hp).1
        rwa [List.length_range] at this
      have e : p = j := by
        rw [List.getElem?_range hj] at hp
        exact (Option.some.inj hp).symm
      subst e
      rw [mid2_next hj]
      have l1 := mid2_le (W := Wc n gs []) (m := sz n gs) (ok := okL S fun _ => true) (f := fo) (j := p) hr'
      have l2 := mid2_fr (W := Wc n gs []) (m := sz n gs) (ok := okL S fun _ => true) (f := fo) (j := p) hr'
      have rl := bg r (bl r (List.mem_of_getElem? hr'))
      generalize mid2 (Wc n gs []) (sz n gs) (okL S fun _ => true) fo la i p r = q at l1 l2 ⊢
      have ht : (!(dlook (kn (Wc n gs []) encR q.1) (Wc n gs [] (r ++ [(p : Int)]))).isSome) = (!has (Wc n gs []) q.1 (Wc n gs [] (r ++ [(p : Int)])) && okL S (fun _ => true) ((r ++ [(p : Int)]).getLastD 0) (Wc n gs [] (r ++ [(p : Int)]))) := by
        rw [kn_has]
        unfold okL
        rw [Bool.and_true]
      have wl := wc_len (cs := []) (r := r) N
      refine dss_keep (R1 a ns n gs (some (.m (kn (Wc n gs []) encR (add (Wc n gs []) (okL S fun _ => true) q (r ++ [(p : Int)])).1))) (some (.d (.list (encL (Wc n gs []) la)))) (some (.d (.int t))) (some (.l (encL (Wc n gs []) (add (Wc n gs []) (okL S fun _ => true) q (r ++ [(p : Int)])).2))) (some (.d (encR r))) (some (.d (encS (Wc n gs [] r)))) (some (.d (.int p))) (some (.d (encS (Wc n gs [] (r ++ [(p : Int)])))))) ⟨rfl, rfl, rfl, rfl, rfl, rfl, rfl, rfl, rfl, rfl, rfl, rfl, rfl, trivial⟩ (dss_cons (ds_set (x := encS (Wc n gs [] (r ++ [(p : Int)]))) 14 (nodup_of (by kernel_rfl)) rfl (Or.inl rfl) (de_is (de_tupL rfl B.tuple (de_new (do_lcN 31 (ts := Wc n gs [] r) (enc := encR) (fun st => encR (call1 n gs st p)) rfl (nodup_of (by kernel_rfl)) (di_tup (de_var 12 rfl)) (blk_of (by kernel_rfl)) (fun _ _ _ _ _ => dg_name 31 (nodup_of (by kernel_rfl)) rfl (Or.inl rfl)) (fun _ _ _ _ _ st hst => ?_) (by omega)))) ?_)) (dss_one (ds_if (t := !(dlook (kn (Wc n gs []) encR q.1) (Wc n gs [] (r ++ [(p : Int)]))).isSome) (dt_dnotin hr (de_var 14 rfl) (dv_var 7 rfl)) (fun t => ?_) (fun t => ?_))))
      · obtain ⟨b, sb⟩ := wc_st hst
        exact de_callC C.round hr rfl (da_cons (de_var 2 rfl) (da_cons (de_var 31 rfl) (da_cons (de_tup (da_cons (de_var 13 rfl) da_nil) (show 1 ≤ 100000 by decide)) da_nil))) ⟨n, gs, b, st, p, rfl, N, sb, by omega, by show (p : Int) < ((n + gs.length : Nat) : Int); have : p < n + gs.length := hj; omega, rfl⟩
      · rw [← Wc_call]
        show _ = PyData.tuple (((Wc n gs [] r).map _).map encR)
        rw [List.map_map]
        rfl
      · have hh : has (Wc n gs []) q.1 (Wc n gs [] (r ++ [(p : Int)])) = false := by
          rw [kn_has] at t
          simpa using t
        rw [add_yes (ht ▸ t)]
        show DSs _ _ _ (.nx (R1 a ns n gs (some (.m (kn (Wc n gs []) encR (q.1 ++ [r ++ [(p : Int)]])))) _ _ (some (.l (encL (Wc n gs []) (q.2 ++ [r ++ [(p : Int)]])))) _ _ _ _))
        rw [← kn_put hh]
        unfold encL
        rw [List.map_append (l₁ := q.2)]
        refine dss_cons (ds_dput hr (dv_var 7 rfl) rfl (de_var 14 rfl) (x := encR (r ++ [(p : Int)])) (de_is (de_catT (de_var 11 rfl) (de_tup (da_cons (de_var 13 rfl) da_nil) (show 1 ≤ 100000 by decide)) ?_) ?_) (by rw [kn_len]; omega)) (dss_one (ds_append 10 (dv_var 10 rfl) rfl (de_var 14 rfl) (by rw [List.length_map]; omega)))
        · have := nod_len (k := 7) rl.1 fun x hx => by
            have := rl.2 x hx
            have : sz n gs ≤ 7 := by show n + gs.length ≤ 7; omega
            omega
          rw [List.length_map]
          show _ + 1 ≤ _
          omega
        · unfold encR
          rw [List.map_append]
          rfl
      · rw [add_no (ht ▸ t)]
        exact dss_nil
  · rw [← mid_all]
    refine dss_keep (R1 a ns n gs (some (.m (kn (Wc n gs []) encR (mid (Wc n gs []) (sz n gs) (okL S fun _ => true) fo la la.length).1))) (some (.d (.list (encL (Wc n gs []) (mid (Wc n gs []) (sz n gs) (okL S fun _ => true) fo la la.length).2)))) (some (.d (.int t))) none none none none none) ⟨rfl, rfl, rfl, rfl, rfl, rfl, rfl, rfl, rfl, trivial⟩ (dss_post (dss_one (ds_move 8 (nodup_of (by kernel_rfl)) rfl (Or.inl rfl) (dv_var 10 rfl) rfl trivial (by decide))) fun _ _ _ _ _ es => es.freeze (i := 8) rfl)
end
end SG
set_option Elab.async false
set_option linter.all false
set_option maxRecDepth 100000
set_option maxHeartbeats 4000000
/-! Part G3: the law on the least row, on who must be called. -/
namespace SG
open PySem PySem.Spec PyProof.Rows L2 SGM
/-- the second phase -/
abbrev R2 (a : Addr) (ns : List Int) (n : Nat) (gs : List (List Int)) (known : List (S × PyData)) (turn here person there : Option Slot) (must : List PyData) (sk edge later who : Option Slot) : Rho :=
  [some (.d (.list (ns.map .int))), some (.r a ns), some (.d (encNet n gs)), some (.d (.list ((SGM.allB n).map encR))), some (.d (.int ((n + gs.length : Nat) : Int))), some (.d (encS (goal n gs))), some (.d (encS (Wc n gs [] []))), some (.m known), none, turn, none, none, here, person, there, some (.l must), sk, edge, later, who, none, none, none, none, none, none, none, none, none, none, none, none, none]
def mustD (n : Nat) (gs : List (List Int)) (k : Nat) : List PyData := ((List.range k).filter fun (p : Nat) => !outB n gs p).map fun (p : Nat) => PyData.int p
theorem filter_next (q : Nat → Bool) (k : Nat) : ((List.range (k + 1)).filter q).map (fun (p : Nat) => PyData.int p) = ((List.range k).filter q).map (fun (p : Nat) => PyData.int p) ++ (List.replicate (if q k = true then (1 : Int) else 0).toNat [PyData.int k]).flatten := by
  rw [List.range_succ, List.filter_append, List.map_append]
  cases h : q k with
  | true => rw [List.filter_cons_of_pos h]; rfl
  | false => rw [List.filter_cons_of_neg (by rw [h]; decide)]; rfl
theorem mustD_next (n : Nat) (gs : List (List Int)) (k : Nat) : mustD n gs (k + 1) = mustD n gs k ++ (List.replicate (if (!outB n gs k) = true then (1 : Int) else 0).toNat [PyData.int k]).flatten := filter_next (fun (p : Nat) => !outB n gs p) k
/-- a for's body -/
def bodyOf : Stmt → List Stmt
  | .For _ _ b _ _ => b
  | _ => []
theorem mustD_len (n : Nat) (gs : List (List Int)) (k : Nat) : (mustD n gs k).length ≤ k := by
  unfold mustD
  rw [List.length_map]
  have := List.length_filter_le (fun (p : Nat) => !outB n gs p) (List.range k)
  rwa [List.length_range] at this
section
variable {P : Program} {w : World} {K : PySem.W.Frag} {mg : Str → Option Value} {base : Heap} {f : Addr} {cdv : Value} {A : Around} {outer : List Env} {s : Shared} {H : Hp} {E : XK}
theorem law_10b {a : Addr} {ns : List Int} {n : Nat} {gs : List (List Int)} {known : List (S × PyData)} {must : List PyData} {pp : Nat} (B : BI mg) (C : LC P w K mg base) (hr : Room 6 (lawX P w K mg base f cdv A outer s H E).A) (N : NetOk n gs) :
    DS (lawX P w K mg base f cdv A outer s H E) ((bodyOf (lawS 9)).getD 1 (.Pass ⟨0, 0, 0, 0⟩)) (R2 a ns n gs known none none (some (.d (.int pp))) none must (some (.m (kn (Wc n gs []) (fun _ => .bool true) [[]]))) (some (.d (.list (encL (Wc n gs []) [[]])))) none none)
      (.nx (R2 a ns n gs known none none (some (.d (.int pp))) none must (some (.m (kn (Wc n gs []) (fun _ => .bool true) (bfs (Wc n gs []) (sz n gs) (okL S fun q => decide (q ≠ pp)) 9).1))) (some (.d (.list (encL (Wc n gs []) (bfs (Wc n gs []) (sz n gs) (okL S fun q => decide (q ≠ pp)) 9).2)))) none none)) := by
  have n3 := N.n3
  have g4 := N.g4
  have hD := Wc_wk N []
  have few := bfs_few hD (okL S fun q => decide (q ≠ pp))
  refine ds_is (ds_forN (ts := List.range 9) (enc := fun (i : Nat) => PyData.int i) (fs := fun (i : Nat) ρ => ρ.set 9 (some (.d (.int i)))) (fun k => R2 a ns n gs known none none (some (.d (.int pp))) none must (some (.m (kn (Wc n gs []) (fun _ => .bool true) (bfs (Wc n gs []) (sz n gs) (okL S fun q => decide (q ≠ pp)) k).1))) (some (.d (.list (encL (Wc n gs []) (bfs (Wc n gs []) (sz n gs) (okL S fun q => decide (q ≠ pp)) k).2)))) none none) rfl PassesOwn.never rfl (di_range (n := 9) rfl B.range de_int (by decide)) (dg_name 9 (nodup_of (by kernel_rfl)) rfl (Or.inl rfl)) (fun _ _ => rfl) (fun k t _ => ?_)) (by rw [List.length_range])
  have b := bi hD (okL S fun q => decide (q ≠ pp)) k
  have bl := b.last
  have bg := b.good
  clear b
  have up := bfs_up hD (okL S fun q => decide (q ≠ pp)) k
  have few1 := few k
  have few2 : (lvl (Wc n gs []) (sz n gs) (okL S fun q => decide (q ≠ pp)) ((bfs (Wc n gs []) (sz n gs) (okL S fun q => decide (q ≠ pp)) k).1, (bfs (Wc n gs []) (sz n gs) (okL S fun q => decide (q ≠ pp)) k).2)).1.length ≤ 1957 := few (k + 1)
  have nx : bfs (Wc n gs []) (sz n gs) (okL S fun q => decide (q ≠ pp)) (k + 1) = lvl (Wc n gs []) (sz n gs) (okL S fun q => decide (q ≠ pp)) ((bfs (Wc n gs []) (sz n gs) (okL S fun q => decide (q ≠ pp)) k).1, (bfs (Wc n gs []) (sz n gs) (okL S fun q => decide (q ≠ pp)) k).2) := rfl
  rw [nx]
  clear nx few
  generalize (bfs (Wc n gs []) (sz n gs) (okL S fun q => decide (q ≠ pp)) k).1 = fo at bl bg few1 few2 ⊢
  generalize (bfs (Wc n gs []) (sz n gs) (okL S fun q => decide (q ≠ pp)) k).2 = la at bl up few2 ⊢
  have la_len : la.length ≤ fo.length := nodup_le (up.imp fun {a b} h e => lx_ne h e) bl
  refine dss_cons (ds_setO 18 (nodup_of (by kernel_rfl)) rfl (Or.inl rfl) (do_lst da_nil (by decide)) trivial) ?_
  refine dss_cons (ds_forN (ts := la) (enc := fun r => encS (Wc n gs [] r)) (fs := fun r ρ => ρ.set 12 (some (.d (encS (Wc n gs [] r))))) (fun i => R2 a ns n gs known (some (.d (.int t))) none (some (.d (.int pp))) none must (some (.m (kn (Wc n gs []) (fun _ => .bool true) (mid (Wc n gs []) (sz n gs) (okL S fun q => decide (q ≠ pp)) fo la i).1))) (some (.d (.list (encL (Wc n gs []) la)))) (some (.l (encL (Wc n gs []) (mid (Wc n gs []) (sz n gs) (okL S fun q => decide (q ≠ pp)) fo la i).2))) none) rfl PassesOwn.never rfl
    (di_list (de_var 17 rfl)) (dg_name 12 (nodup_of (by kernel_rfl)) rfl (Or.inl rfl)) (fun _ _ => rfl) (fun i r hr' => ?_)) ?_
  · refine dss_keep (R2 a ns n gs known (some (.d (.int t))) (some (.d (encS (Wc n gs [] r)))) (some (.d (.int pp))) none must (some (.m (kn (Wc n gs []) (fun _ => .bool true) (mid2 (Wc n gs []) (sz n gs) (okL S fun q => decide (q ≠ pp)) fo la i (List.range (sz n gs)).length r).1))) (some (.d (.list (encL (Wc n gs []) la)))) (some (.l (encL (Wc n gs []) (mid2 (Wc n gs []) (sz n gs) (okL S fun q => decide (q ≠ pp)) fo la i (List.range (sz n gs)).length r).2))) none) ?_ (dss_one (ds_forN (ts := List.range (sz n gs)) (enc := fun (p : Nat) => PyData.int p) (fs := fun (p : Nat) ρ => ρ.set 19 (some (.d (.int p)))) (fun j => R2 a ns n gs known (some (.d (.int t))) (some (.d (encS (Wc n gs [] r)))) (some (.d (.int pp))) none must (some (.m (kn (Wc n gs []) (fun _ => .bool true) (mid2 (Wc n gs []) (sz n gs) (okL S fun q => decide (q ≠ pp)) fo la i j r).1))) (some (.d (.list (encL (Wc n gs []) la)))) (some (.l (encL (Wc n gs []) (mid2 (Wc n gs []) (sz n gs) (okL S fun q => decide (q ≠ pp)) fo la i j r).2))) none) rfl PassesOwn.never rfl
      (di_range rfl B.range (de_var 4 rfl) (by show n + gs.length ≤ 100000; omega)) (dg_name 19 (nodup_of (by kernel_rfl)) rfl (Or.inr rfl)) (fun _ _ => rfl) (fun j p hp => ?_)))
    · rw [List.length_range, mid2_all hr']
      exact ⟨rfl, rfl, rfl, rfl, rfl, rfl, rfl, rfl, rfl, rfl, rfl, rfl, rfl, rfl, trivial⟩
    · have hj : j < sz n gs := by
        have := (List.getElem?_eq_some_iff.mp hp).1
        rwa [List.length_range] at this
      have e : p = j := by
        rw [List.getElem?_range hj] at hp
        exact (Option.some.inj hp).symm
      subst e
      rw [mid2_next hj]
      have l1 := mid2_le (W := Wc n gs []) (m := sz n gs) (ok := okL S fun q => decide (q ≠ pp)) (f := fo) (j := p) hr'
      have l2 := mid2_fr (W := Wc n gs []) (m := sz n gs) (ok := okL S fun q => decide (q ≠ pp)) (f := fo) (j := p) hr'
      generalize mid2 (Wc n gs []) (sz n gs) (okL S fun q => decide (q ≠ pp)) fo la i p r = q at l1 l2 ⊢
      have ht : (!decide ((p : Int) = pp) && (!(dlook (kn (Wc n gs []) (fun _ => .bool true) q.1) (Wc n gs [] (r ++ [(p : Int)]))).isSome)) = (!has (Wc n gs []) q.1 (Wc n gs [] (r ++ [(p : Int)])) && okL S (fun q => decide (q ≠ pp)) ((r ++ [(p : Int)]).getLastD 0) (Wc n gs [] (r ++ [(p : Int)]))) := by
        rw [kn_has, lastD]
        unfold okL
        dsimp only
        have : decide ((p : Int) ≠ pp) = !decide ((p : Int) = pp) := by simp
        rw [this, Bool.and_comm]
      have wl := wc_len (cs := []) (r := r) N
      refine dss_keep (R2 a ns n gs known (some (.d (.int t))) (some (.d (encS (Wc n gs [] r)))) (some (.d (.int pp))) (some (.d (encS (Wc n gs [] (r ++ [(p : Int)]))))) must (some (.m (kn (Wc n gs []) (fun _ => .bool true) (add (Wc n gs []) (okL S fun q => decide (q ≠ pp)) q (r ++ [(p : Int)])).1))) (some (.d (.list (encL (Wc n gs []) la)))) (some (.l (encL (Wc n gs []) (add (Wc n gs []) (okL S fun q => decide (q ≠ pp)) q (r ++ [(p : Int)])).2))) (some (.d (.int p)))) ⟨rfl, rfl, rfl, rfl, rfl, rfl, rfl, rfl, rfl, rfl, rfl, rfl, rfl, rfl, rfl, trivial⟩ (dss_cons (ds_set (x := encS (Wc n gs [] (r ++ [(p : Int)]))) 14 (nodup_of (by kernel_rfl)) rfl (Or.inl rfl) (de_is (de_tupL rfl B.tuple (de_new (do_lcN 31 (ts := Wc n gs [] r) (enc := encR) (fun st => encR (call1 n gs st p)) rfl (nodup_of (by kernel_rfl)) (di_tup (de_var 12 rfl)) (blk_of (by kernel_rfl)) (fun _ _ _ _ _ => dg_name 31 (nodup_of (by kernel_rfl)) rfl (Or.inl rfl)) (fun _ _ _ _ _ st hst => ?_) (by omega)))) ?_)) (dss_one (ds_if (t := !decide ((p : Int) = pp) && (!(dlook (kn (Wc n gs []) (fun _ => .bool true) q.1) (Wc n gs [] (r ++ [(p : Int)]))).isSome)) (dt_w (dw_and (dt_is (dt_neD hr (shaped_int _) (shaped_int _) (de_var 19 rfl) (de_var 13 rfl)) (congrArg not (eqv_int _ _))) fun _ => dw_and1 (dt_dnotin hr (de_var 14 rfl) (dv_var 16 rfl)))) (fun t => ?_) (fun t => ?_))))
      · obtain ⟨b, sb⟩ := wc_st hst
        exact de_callC C.round hr rfl (da_cons (de_var 2 rfl) (da_cons (de_var 31 rfl) (da_cons (de_tup (da_cons (de_var 19 rfl) da_nil) (show 1 ≤ 100000 by decide)) da_nil))) ⟨n, gs, b, st, p, rfl, N, sb, by omega, by show (p : Int) < ((n + gs.length : Nat) : Int); have : p < n + gs.length := hj; omega, rfl⟩
      · rw [← Wc_call]
        show _ = PyData.tuple (((Wc n gs [] r).map _).map encR)
        rw [List.map_map]
        rfl
      · have hh : has (Wc n gs []) q.1 (Wc n gs [] (r ++ [(p : Int)])) = false := by
          rw [Bool.and_eq_true, kn_has] at t
          simpa using t.2
        rw [add_yes (ht ▸ t)]
        show DSs _ _ _ (.nx (R2 a ns n gs _ _ _ _ _ _ (some (.m (kn (Wc n gs []) (fun _ => .bool true) (q.1 ++ [r ++ [(p : Int)]])))) _ (some (.l (encL (Wc n gs []) (q.2 ++ [r ++ [(p : Int)]])))) _))
        rw [← kn_put hh]
        unfold encL
        rw [List.map_append (l₁ := q.2)]
        exact dss_cons (ds_dput hr (dv_var 16 rfl) rfl (de_var 14 rfl) de_bl (by rw [kn_len]; omega)) (dss_one (ds_append 18 (dv_var 18 rfl) rfl (de_var 14 rfl) (by rw [List.length_map]; omega)))
      · rw [add_no (ht ▸ t)]
        exact dss_nil
  · rw [← mid_all]
    refine dss_keep (R2 a ns n gs known (some (.d (.int t))) none (some (.d (.int pp))) none must (some (.m (kn (Wc n gs []) (fun _ => .bool true) (mid (Wc n gs []) (sz n gs) (okL S fun q => decide (q ≠ pp)) fo la la.length).1))) (some (.d (.list (encL (Wc n gs []) (mid (Wc n gs []) (sz n gs) (okL S fun q => decide (q ≠ pp)) fo la la.length).2)))) none none) ⟨rfl, rfl, rfl, rfl, rfl, rfl, rfl, rfl, rfl, rfl, rfl, rfl, trivial⟩ (dss_post (dss_one (ds_move 17 (nodup_of (by kernel_rfl)) rfl (Or.inl rfl) (dv_var 18 rfl) rfl trivial (by decide))) fun _ _ _ _ _ es => es.freeze (i := 17) rfl)
end
end SG
set_option Elab.async false
set_option linter.all false
set_option maxRecDepth 100000
set_option maxHeartbeats 4000000
/-! Part G4: the law's first answers. -/
namespace SG
open PySem PySem.Spec PyProof.Rows L2 SGM
def F8 (n : Nat) (gs : List (List Int)) : Rows := (bfs (Wc n gs []) (sz n gs) (okL S fun _ => true) 8).1
theorem outB_eq (n : Nat) (gs : List (List Int)) (p : Int) : has (Wc n gs []) (bfs (Wc n gs []) (sz n gs) (okL S fun q => decide (q ≠ p)) 9).1 (goal n gs) = outB n gs p := rfl
theorem ints_tup (l : List Nat) : PyData.tuple (l.map fun (p : Nat) => PyData.int p) = encR (l.map fun (p : Nat) => (p : Int)) := by
  unfold encR
  rw [List.map_map]
  rfl
section
variable {P : Program} {w : World} {K : PySem.W.Frag} {mg : Str → Option Value} {base : Heap} {f : Addr} {cdv : Value} {A : Around} {outer : List Env} {s : Shared} {H : Hp} {E : XK}
theorem law_8 {a : Addr} {ns : List Int} {n : Nat} {gs : List (List Int)} {R : List Int} {last : Option Slot} {rest : List Stmt} {out : Out} (B : BI mg) (C : LC P w K mg base) (hr : Room 6 (lawX P w K mg base f cdv A outer s H E).A) (N : NetOk n gs) (hR : rowAt (Wc n gs []) (F8 n gs) (goal n gs) = some R) (hl : R.length ≤ 6)
    (h : DSs (lawX P w K mg base f cdv A outer s H E) rest (R1 a ns n gs (some (.m (kn (Wc n gs []) encR (F8 n gs)))) last none none none none none none) out) :
    DSs (lawX P w K mg base f cdv A outer s H E) (lawS 7 :: rest) (R1 a ns n gs (some (.m (kn (Wc n gs []) encR (F8 n gs)))) last none none none none none none) out := by
  have hlook : dlook (kn (Wc n gs []) encR (F8 n gs)) (goal n gs) = some (encR R) := by rw [kn_look, hR]; rfl
  have hR' : rowAt (Wc n gs []) (bfs (Wc n gs []) (sz n gs) (okL S fun _ => true) 8).1 (goal n gs) = some R := hR
  generalize F8 n gs = F at hlook h ⊢
  exact dss_ifF (dt_is (dt_w (dw_or (t := false) (u := false) (dt_not (t := true) (dt_val (de_callC C.al2 hr rfl (da_cons (de_callC C.right hr rfl (da_cons (de_var 2 rfl) da_nil) ⟨n, gs, R, rfl, N, hR', rfl⟩) (da_cons (de_dget hr (dv_var 7 rfl) (de_var 5 rfl) hlook (fun _ _ => rfl)) da_nil)) ⟨R, by omega, rfl, rfl⟩))) fun _ => dw_or1 (dt_not (t := true) (dt_val (de_callC C.al1 hr rfl (da_cons (de_callC C.few hr rfl (da_cons (de_var 2 rfl) da_nil) ⟨n, gs, R, rfl, N, hR', rfl⟩) (da_cons (de_is (de_len rfl B.len (de_dget hr (dv_var 7 rfl) (de_var 5 rfl) hlook (fun _ _ => rfl))) (by rw [List.length_map])) da_nil)) ⟨.int R.length, .inl ⟨_, rfl⟩, rfl, rfl⟩))))) rfl) h
theorem law_10 {a : Addr} {ns : List Int} {n : Nat} {gs : List (List Int)} {known : List (S × PyData)} (B : BI mg) (C : LC P w K mg base) (hr : Room 6 (lawX P w K mg base f cdv A outer s H E).A) (N : NetOk n gs) :
    DS (lawX P w K mg base f cdv A outer s H E) (lawS 9) (R2 a ns n gs known none none none none (mustD n gs 0) none none none none) (.nx (R2 a ns n gs known none none none none (mustD n gs (n + gs.length)) none none none none)) := by
  have n3 := N.n3
  have g4 := N.g4
  refine ds_is (ds_forN (ts := List.range (n + gs.length)) (enc := fun (i : Nat) => PyData.int i) (fs := fun (i : Nat) ρ => ρ.set 13 (some (.d (.int i)))) (fun k => R2 a ns n gs known none none none none (mustD n gs k) none none none none) rfl PassesOwn.never rfl (di_range rfl B.range (de_var 4 rfl) (by omega)) (dg_name 13 (nodup_of (by kernel_rfl)) rfl (Or.inr rfl)) (fun _ _ => rfl) (fun k t ht => ?_)) (by rw [List.length_range])
  have hk : k < n + gs.length := by
    have := (List.getElem?_eq_some_iff.mp ht).1
    rwa [List.length_range] at this
  have e : t = k := by
    rw [List.getElem?_range hk] at ht
    exact (Option.some.inj ht).symm
  subst e
  have ml := mustD_len n gs t
  rw [mustD_next, ← outB_eq]
  have hh := kn_has (W := Wc n gs []) (vl := fun _ => PyData.bool true) (t := goal n gs) (f := (bfs (Wc n gs []) (sz n gs) (okL S fun q => decide (q ≠ (t : Int))) 9).1)
  rw [← hh]
  refine dss_cons (ds_parOD (i := 16) (j := 17) (fun ta ha mono => par_L rfl (nodup_of (by kernel_rfl)) rfl rfl (by decide) rfl rfl rfl rfl ha mono) (do_disp1 hr (de_var 6 rfl) de_bl) trivial (de_new (do_lst (da_cons (de_var 6 rfl) da_nil) (show 1 ≤ 100000 by decide)))) ?_
  refine dss_cons (law_10b (pp := t) (a := a) (ns := ns) (known := known) (must := mustD n gs t) B C hr N) ?_
  clear hh
  generalize (bfs (Wc n gs []) (sz n gs) (okL S fun q => decide (q ≠ (t : Int))) 9).1 = F
  generalize (bfs (Wc n gs []) (sz n gs) (okL S fun q => decide (q ≠ (t : Int))) 9).2 = F2
  generalize mustD n gs t = M at ml ⊢
  refine dss_keep (R2 a ns n gs known none none (some (.d (.int t))) none (M ++ (List.replicate (if (!(dlook (kn (Wc n gs []) (fun _ => PyData.bool true) F) (goal n gs)).isSome) = true then (1 : Int) else 0).toNat [PyData.int t]).flatten) (some (.m (kn (Wc n gs []) (fun _ => .bool true) F))) (some (.d (.list (encL (Wc n gs []) F2)))) none none) ⟨rfl, rfl, rfl, rfl, rfl, rfl, rfl, rfl, rfl, trivial⟩ (dss_one (ds_setO 15 (nodup_of (by kernel_rfl)) rfl (Or.inl rfl) (do_catV (dv_var 15 rfl) rfl (do_rep (do_lst (da_cons (de_var 13 rfl) da_nil) (show 1 ≤ 100000 by decide)) (de_callTy call_int1 pure_intB rfl B.int PyProof.Rows.boot_int (da_cons (de_dnotin hr (de_var 5 rfl) (dv_var 16 rfl)) da_nil)) ?_ ?_ (show 1 ≤ 10 by decide)) ?_) trivial))
  · cases (!(dlook (kn (Wc n gs []) (fun _ => PyData.bool true) F) (goal n gs)).isSome) <;> decide
  · cases (!(dlook (kn (Wc n gs []) (fun _ => PyData.bool true) F) (goal n gs)).isSome) <;> decide
  · have : ((List.replicate (if (!(dlook (kn (Wc n gs []) (fun _ => PyData.bool true) F) (goal n gs)).isSome) = true then (1 : Int) else 0).toNat [PyData.int t]).flatten).length ≤ 1 := by
      cases (!(dlook (kn (Wc n gs []) (fun _ => PyData.bool true) F) (goal n gs)).isSome) <;> simp
    omega
theorem law_11 {a : Addr} {ns : List Int} {n : Nat} {gs : List (List Int)} {R : List Int} {rest : List Stmt} {out : Out} (B : BI mg) (C : LC P w K mg base) (hr : Room 6 (lawX P w K mg base f cdv A outer s H E).A) (N : NetOk n gs) (hR : rowAt (Wc n gs []) (F8 n gs) (goal n gs) = some R) (hW : Wc n gs [] R = goal n gs) (rg : ∀ p ∈ R, 0 ≤ p ∧ p < ((sz n gs : Nat) : Int)) (hl : R.length ≤ 6)
    (h : DSs (lawX P w K mg base f cdv A outer s H E) rest (R1 a ns n gs none none none none none none none none) out) :
    DSs (lawX P w K mg base f cdv A outer s H E) (lawS 10 :: rest) (R2 a ns n gs (kn (Wc n gs []) encR (F8 n gs)) none none none none (mustD n gs (n + gs.length)) none none none none) out := by
  have n3 := N.n3
  have g4 := N.g4
  have hlook : dlook (kn (Wc n gs []) encR (F8 n gs)) (goal n gs) = some (encR R) := by rw [kn_look, hR]; rfl
  obtain ⟨ml, hml⟩ : ∃ ml : List Nat, ml = (List.range (sz n gs)).filter fun (p : Nat) => !outB n gs p := ⟨_, rfl⟩
  have em : mustD n gs (n + gs.length) = (ml.map fun (p : Nat) => (p : Int)).map PyData.int := by
    rw [List.map_map, hml]
    rfl
  have mlen : (ml.map fun (p : Nat) => (p : Int)).length ≤ 7 := by
    rw [List.length_map, hml]
    have := List.length_filter_le (fun (p : Nat) => !outB n gs p) (List.range (sz n gs))
    rw [List.length_range] at this
    have : sz n gs ≤ 7 := by show n + gs.length ≤ 7; omega
    omega
  have hin : ∀ p ∈ ml.map fun (p : Nat) => (p : Int), R.contains p = true := fun p hp => by
    obtain ⟨q, hq, e⟩ := List.mem_map.mp hp
    rw [hml] at hq
    have ho := (List.mem_filter.mp hq).2
    cases c : R.contains p with
    | true => rfl
    | false =>
      have hp' : p ∉ R := fun z => by
        have : R.contains p = true := by simpa using z
        rw [c] at this
        cases this
      have := must_in (goes N [] (begin_not_lost N)) hW rg hp'
      have e2 : outB n gs p = true := this
      rw [← e] at e2
      rw [e2] at ho
      cases ho
  have hf : (ml.map fun (p : Nat) => (p : Int)).filter (fun p => !R.contains p) = [] := List.filter_eq_nil_iff.mpr fun p hp => by rw [hin p hp]; decide
  have hm : GMust [encNet n gs] (encR (ml.map fun (p : Nat) => (p : Int))) := ⟨n, gs, rfl, N, by rw [← ints_tup, hml]⟩
  rw [em]
  generalize F8 n gs = F at hlook ⊢
  generalize (ml.map fun (p : Nat) => (p : Int)) = mi at hm hf hin mlen ⊢
  refine dss_freeze 15 rfl (dss_ifF (dt_is (dt_w (dw_or (t := false) (u := false) (dt_not (t := true) (dt_val (de_callC C.al2 hr rfl (da_cons (de_callC C.must hr rfl (da_cons (de_var 2 rfl) da_nil) hm) (da_cons (de_tupL rfl B.tuple (de_var 15 rfl)) da_nil)) ⟨mi, by omega, rfl, rfl⟩))) fun _ => dw_or1 (dt_is (dt_neD hr (x := .list []) (shaped_L []) (shaped_L []) (de_new (do_is (do_lcF 19 (ts := mi) (enc := PyData.int) (fun p => !R.contains p) PyData.int rfl (nodup_of (by kernel_rfl)) (di_list (de_var 15 rfl)) (blk_of (by kernel_rfl)) (fun _ _ _ _ _ => dg_name 19 (nodup_of (by kernel_rfl)) rfl (Or.inl rfl)) (fun _ _ _ _ _ i hi => dt_notInT (de_var 19 rfl) (de_dget hr (dv_var 7 rfl) (de_var 5 rfl) hlook (fun _ _ => rfl))) (fun _ _ _ _ _ i hi _ => (de_var 19 rfl)) (by omega)) (by rw [hf]; rfl))) (de_new (do_lst da_nil (by decide)))) (by simp [PyData.eqv, PyData.eqvAll])))) rfl) (dss_less (R1 a ns n gs none none none none none none none none) ⟨rfl, rfl, rfl, rfl, rfl, rfl, rfl, trivial⟩ h))
end
end SG
set_option Elab.async false
set_option linter.all false
set_option maxRecDepth 100000
set_option maxHeartbeats 4000000
/-! Part G5: the law on rows of calls. -/
namespace SG
open PySem PySem.Spec PyProof.Rows L2 SGM
/-- the third phase -/
abbrev R3 (a : Addr) (ns : List Int) (n : Nat) (gs : List (List Int)) (cs ds : List Int) (mine idle : Option Slot) : Rho :=
  [some (.d (.list (ns.map .int))), some (.r a ns), some (.d (encNet n gs)), some (.d (.list ((SGM.allB n).map encR))), some (.d (.int ((n + gs.length : Nat) : Int))), some (.d (encS (goal n gs))), some (.d (encS (Wc n gs [] []))), none, none, none, none, some (.d (encR cs)), none, none, none, none, none, none, none, none, some (.d (encR ds)), mine, idle, none, none, none, none, none, none, none, none, none, none]
theorem ints_inj {a b : List Int} (h : a.map PyData.int = b.map PyData.int) : a = b := (List.map_inj_right (f := PyData.int) (fun x y e => by injection e)).mp h
theorem net_inj {n m : Nat} {gs hs : List (List Int)} {l : List PyData} (h : encNet n gs :: l = encNet m hs :: l) : m = n ∧ hs = gs := by
  injection h with h _
  unfold encNet at h
  injection h with h
  injection h with h1 h2
  injection h2 with h2 _
  injection h1 with h1
  refine ⟨by omega, ?_⟩
  unfold encS at h2
  injection h2 with h2
  have := (List.map_inj_right (f := encR) (fun x y e => by unfold encR at e; injection e with e; exact ints_inj e)).mp h2
  exact this.symm
theorem de_walkEnd {X : Cx} {ρ : Rho} {e1 e2 e3 : Expr} {n : Nat} {gs : List (List Int)} {b cs : List Int} {p pos p2 p3 pos2 : Pos} {j : Nat} (C : Callee X.prog X.w X.K X.mg X.base "_law_walk" 6 ["_law_net_here", "_law_bits_here", "_law_calls"] GWalkL) (hr : Room 6 X.A) (hg : Gl X "_law_walk") (N : NetOk n gs) (sb : StB n gs b (begin1 gs b)) (rg : RowOk n gs cs) (hl : cs.length ≤ 1000)
    (h1 : DE X e1 ρ (encNet n gs)) (h2 : DE X e2 ρ (encR b)) (h3 : DE X e3 ρ (encR cs)) (hs1 : starEach (e1 :: e2 :: e3 :: []) X.env = (false, eval e1 X.env) :: starEach [e2, e3] X.env := by rfl) (hs2 : starEach (e2 :: e3 :: []) X.env = (false, eval e2 X.env) :: starEach [e3] X.env := by rfl) (hs3 : starEach (e3 :: []) X.env = (false, eval e3 X.env) :: starEach [] X.env := by rfl)
    (hpl : (backTo pos (starEach [e2, e3] X.env)).any (·.1) = false := by rfl) : DE X (.Subscript (.Call (.Name "_law_walk" p) [e1, e2, e3] [] pos) (.UnaryOp .USub (.Constant (.int 1) j p2) p3) pos2) ρ (encR (walk1 n gs (begin1 gs b) cs)) := by
  refine de_ix ix_list (pure_ixL ?_) (de_callC C hr hg (da_cons h1 (da_cons h2 (da_cons h3 da_nil hs3) hs2) hs1) ⟨n, gs, b, cs, rfl, N, sb, rg, hl, rfl⟩ (by decide) hs1 hpl) (de_neg de_int) (fun _ _ => rfl)
  rw [List.range_succ, List.map_append, List.map_cons, List.take_length]
  exact atI_last _ _
theorem ends_wk {n : Nat} {gs : List (List Int)} (cs : List Int) : PyData.tuple ((SGM.allB n).map fun b => encR (walk1 n gs (begin1 gs b) cs)) = encS (wk n gs cs) := by
  unfold encS wk
  rw [List.map_map]
  rfl
theorem cut_ok {n : Nat} {gs : List (List Int)} {cs : List Int} (rg : RowOk n gs cs) (i : Nat) : RowOk n gs (cs.take i ++ cs.drop (i + 1)) := fun c hc => by
  rcases List.mem_append.mp hc with h | h
  · exact rg c (List.mem_of_mem_take h)
  · exact rg c (List.mem_of_mem_drop h)
theorem de_cut {X : Cx} {ρ : Rho} {c1 c2 e1 e2 : Expr} {cs : List Int} {i : Nat} {p1 p2 p3 p4 pos : Pos} (hl : cs.length ≤ 1000) (h1 : DE X c1 ρ (encR cs)) (h2 : DE X c2 ρ (encR cs)) (ha : DE X e1 ρ (.int i)) (hb : DE X e2 ρ (.int ((i : Int) + 1))) :
    DE X (.BinOp (.Subscript c1 (.Slice none (some e1) none p1) p2) .Add (.Subscript c2 (.Slice (some e2) none none p3) p4) pos) ρ (encR (cs.take i ++ cs.drop (i + 1))) := by
  refine de_is (de_catT (xs := (cs.take i).map .int) (ys := (cs.drop (i + 1)).map .int) (de_is (de_slice h1 dpo_none (dpo_some ha)) (congrArg PyData.tuple (cut_take cs i))) (de_is (de_slice h2 (dpo_some (k := ((i + 1 : Nat) : Int)) (de_is hb rfl)) dpo_none) (congrArg PyData.tuple (cut_drop cs (i + 1)))) ?_) ?_
  · rw [List.length_map, List.length_map, List.length_take, List.length_drop]
    omega
  · rw [← List.map_append]
    rfl
section
variable {P : Program} {w : World} {K : PySem.W.Frag} {mg : Str → Option Value} {base : Heap} {f : Addr} {cdv : Value} {A : Around} {outer : List Env} {s : Shared} {H : Hp} {E : XK}
theorem law_12 {a : Addr} {ns : List Int} {n : Nat} {gs : List (List Int)} {rest : List Stmt} {out : Out} (C : LC P w K mg base) (hr : Room 6 (lawX P w K mg base f cdv A outer s H E).A) (N : NetOk n gs) (h : ∀ cs ds, RowOk n gs cs → cs.length ≤ 6 → RowOk n gs ds → ds.length ≤ 6 → DSs (lawX P w K mg base f cdv A outer s H E) rest (R3 a ns n gs cs ds none none) out) :
    DSs (lawX P w K mg base f cdv A outer s H E) (lawS 11 :: rest) (R1 a ns n gs none none none none none none none none) out :=
  dss_ns (ns_par (i := 11) (j := 20) (ri := 1) (ad := a) (ns := ns) (fun ta ha mono => par_C rfl (nodup_of (by kernel_rfl)) rfl rfl (Or.inr rfl) (Or.inr rfl) rfl rfl (by first | exact .inl rfl | exact .inr rfl) (by first | exact .inl rfl | exact .inr rfl) ha mono) (ne_call C.row hr rfl (dv_var 1 rfl) rfl (da_cons (de_var 2 rfl) (da_cons de_int da_nil)) ⟨n, gs, rfl, N⟩) (ne_call C.row hr rfl (dv_var 1 rfl) rfl (da_cons (de_var 2 rfl) (da_cons de_int da_nil)) ⟨n, gs, rfl, N⟩) rfl) fun ρ1 ⟨x, y, ⟨n1, g1, cs, e1, ex, o1, l1⟩, ⟨n2, g2, ds, e2, ey, o2, l2⟩, e⟩ => by
    obtain ⟨rfl, rfl⟩ := net_inj e1
    obtain ⟨rfl, rfl⟩ := net_inj e2
    rw [e, ex, ey]
    exact h cs ds o1 l1 o2 l2
theorem law_13 {a : Addr} {ns : List Int} {n : Nat} {gs : List (List Int)} {cs ds : List Int} (B : BI mg) (C : LC P w K mg base) (hr : Room 6 (lawX P w K mg base f cdv A outer s H E).A) (N : NetOk n gs) (rg : RowOk n gs cs) (hl : cs.length ≤ 6) :
    DS (lawX P w K mg base f cdv A outer s H E) (lawS 12) (R3 a ns n gs cs ds none none) (.nx (R3 a ns n gs cs ds (some (.d (encS (wk n gs cs)))) none)) :=
  ds_set (x := encS (wk n gs cs)) 21 (nodup_of (by kernel_rfl)) rfl (Or.inr rfl) (de_is (de_tupL rfl B.tuple (de_new (do_lcN 29 (ts := SGM.allB n) (enc := encR) (fun b => encR (walk1 n gs (begin1 gs b) cs)) rfl (nodup_of (by kernel_rfl)) (di_list (de_var 3 rfl)) (blk_of (by kernel_rfl)) (fun _ _ _ _ _ => dg_name 29 (nodup_of (by kernel_rfl)) rfl (Or.inl rfl)) (fun _ _ _ _ _ b hb => de_walkEnd C.walk hr rfl N (StB.start (allB_ok n b hb).1 (allB_ok n b hb).2) rg (by omega) (de_var 2 rfl) (de_var 29 rfl) (de_var 11 rfl)) (allB_le N.n3)))) (ends_wk cs))
theorem law_14 {a : Addr} {ns : List Int} {n : Nat} {gs : List (List Int)} {cs ds : List Int} (B : BI mg) (C : LC P w K mg base) (hr : Room 6 (lawX P w K mg base f cdv A outer s H E).A) (N : NetOk n gs) (rg : RowOk n gs cs) (hl : cs.length ≤ 6) :
    DS (lawX P w K mg base f cdv A outer s H E) (lawS 13) (R3 a ns n gs cs ds (some (.d (encS (wk n gs cs)))) none) (.nx (R3 a ns n gs cs ds (some (.d (encS (wk n gs cs)))) (some (.l ((idle n gs cs).map fun (i : Nat) => PyData.int i))))) := by
  refine ds_setLcF 22 32 (ts := List.range cs.length) (enc := fun (i : Nat) => PyData.int i) (fun i => decide (wk n gs cs = wk n gs (cs.take i ++ cs.drop (i + 1)))) (fun (i : Nat) => PyData.int i) rfl (nodup_of (by kernel_rfl)) rfl rfl rfl (di_range rfl B.range (de_is (de_len rfl B.len (de_var 11 rfl)) (by rw [List.length_map])) (by omega)) (blk_of (by kernel_rfl)) (fun _ _ _ _ _ => dg_name 32 (nodup_of (by kernel_rfl)) rfl (Or.inr rfl)) (fun _ _ _ _ _ i hi => ?_) (fun _ _ _ _ _ i hi _ => (de_var 32 rfl)) (by rw [List.length_range]; omega)
  refine dt_is (dt_eqD hr (shaped_S (wk n gs (cs.take i ++ cs.drop (i + 1)))) (shaped_S (wk n gs cs)) (de_is (de_tupL rfl B.tuple (de_new (do_lcN 29 (ts := SGM.allB n) (enc := encR) (fun b => encR (walk1 n gs (begin1 gs b) (cs.take i ++ cs.drop (i + 1)))) rfl (nodup_of (by kernel_rfl)) (di_list (de_var 3 rfl)) (blk_of (by kernel_rfl)) (fun _ _ _ _ _ => dg_name 29 (nodup_of (by kernel_rfl)) rfl (Or.inl rfl)) (fun _ _ _ _ _ b hb => de_walkEnd C.walk hr rfl N (StB.start (allB_ok n b hb).1 (allB_ok n b hb).2) (cut_ok rg i) ?_ (de_var 2 rfl) (de_var 29 rfl) (de_cut (by omega) (de_var 11 rfl) (de_var 11 rfl) (de_var 32 rfl) (de_add (de_var 32 rfl) de_int))) (allB_le N.n3)))) (ends_wk _)) (de_var 21 rfl)) ?_
  · rw [List.length_append, List.length_take, List.length_drop]
    omega
  · rw [eqv_S]
    by_cases e : wk n gs cs = wk n gs (cs.take i ++ cs.drop (i + 1))
    · rw [decide_eq_true e, decide_eq_true e.symm]
    · rw [decide_eq_false e, decide_eq_false fun z => e z.symm]
theorem law_15 {a : Addr} {ns : List Int} {n : Nat} {gs : List (List Int)} {cs ds : List Int} {rest : List Stmt} {out : Out} (B : BI mg) (C : LC P w K mg base) (hr : Room 6 (lawX P w K mg base f cdv A outer s H E).A) (N : NetOk n gs) (rg : RowOk n gs cs) (hl : cs.length ≤ 6)
    (h : DSs (lawX P w K mg base f cdv A outer s H E) rest (R3 a ns n gs cs ds (some (.d (encS (wk n gs cs)))) none) out) :
    DSs (lawX P w K mg base f cdv A outer s H E) (lawS 14 :: rest) (R3 a ns n gs cs ds (some (.d (encS (wk n gs cs)))) (some (.l ((idle n gs cs).map fun (i : Nat) => PyData.int i)))) out := by
  have il : (idle n gs cs).length ≤ 6 := by
    unfold idle
    have := List.length_filter_le (fun a => decide (wk n gs cs = wk n gs (cs.take a ++ cs.drop (a + 1)))) (List.range cs.length)
    rw [List.length_range] at this
    omega
  have hm : GIdle [encNet n gs, encR cs] (encR ((idle n gs cs).map fun (i : Nat) => (i : Int))) := ⟨n, gs, cs, rfl, N, rg, by omega, by rw [← ints_tup]⟩
  generalize idle n gs cs = id at il hm ⊢
  refine dss_ifF (dt_is (dt_not (t := true) (dt_val (de_callC C.al2 hr rfl (da_cons (de_callC C.idle hr rfl (da_cons (de_var 2 rfl) (da_cons (de_var 11 rfl) da_nil)) hm) (da_cons (de_is (de_tupleV rfl B.tuple PyProof.Rows.boot_tuple (dv_var 22 rfl)) (ints_tup id)) da_nil)) ⟨_, ?_, rfl, rfl⟩))) rfl) (dss_less (R3 a ns n gs cs ds (some (.d (encS (wk n gs cs)))) none) ⟨rfl, rfl, rfl, rfl, rfl, rfl, rfl, rfl, rfl, rfl, trivial⟩ h)
  rw [List.length_map]
  omega
theorem law_16 {a : Addr} {ns : List Int} {n : Nat} {gs : List (List Int)} {cs ds : List Int} {rest : List Stmt} {out : Out} (B : BI mg) (C : LC P w K mg base) (hr : Room 6 (lawX P w K mg base f cdv A outer s H E).A) (N : NetOk n gs) (rg : RowOk n gs cs) (hl : cs.length ≤ 6) (rg2 : RowOk n gs ds) (hl2 : ds.length ≤ 6)
    (h : DSs (lawX P w K mg base f cdv A outer s H E) rest (R3 a ns n gs cs ds (some (.d (encS (wk n gs cs)))) none) out) :
    DSs (lawX P w K mg base f cdv A outer s H E) (lawS 15 :: rest) (R3 a ns n gs cs ds (some (.d (encS (wk n gs cs)))) none) out :=
  dss_ifF (dt_is (dt_not (t := true) (dt_val (de_callC C.al1 hr rfl (da_cons (x := .bool (decide (wk n gs cs = wk n gs ds))) (de_callC C.same hr rfl (da_cons (de_var 2 rfl) (da_cons (de_var 11 rfl) (da_cons (de_var 20 rfl) da_nil))) ⟨n, gs, cs, ds, rfl, N, rg, by omega, rg2, by omega, rfl⟩) (da_cons (de_is (de_eqD hr (shaped_S (wk n gs cs)) (shaped_S (wk n gs ds)) (de_var 21 rfl) (de_is (de_tupL rfl B.tuple (de_new (do_lcN 29 (ts := SGM.allB n) (enc := encR) (fun b => encR (walk1 n gs (begin1 gs b) ds)) rfl (nodup_of (by kernel_rfl)) (di_list (de_var 3 rfl)) (blk_of (by kernel_rfl)) (fun _ _ _ _ _ => dg_name 29 (nodup_of (by kernel_rfl)) rfl (Or.inl rfl)) (fun _ _ _ _ _ b hb => de_walkEnd C.walk hr rfl N (StB.start (allB_ok n b hb).1 (allB_ok n b hb).2) rg2 (by omega) (de_var 2 rfl) (de_var 29 rfl) (de_var 20 rfl)) (allB_le N.n3)))) (ends_wk ds))) (congrArg PyData.bool (eqv_S _ _))) da_nil)) ⟨_, .inr ⟨_, rfl⟩, rfl, rfl⟩))) rfl) h
end
end SG
set_option Elab.async false
set_option linter.all false
set_option maxRecDepth 100000
set_option maxHeartbeats 4000000
/-! Part G6: the law on counts and on what is mended. -/
namespace SG
open PySem PySem.Spec PyProof.Rows L2 SGM
/-- the last phase -/
abbrev R4 (a : Addr) (ns : List Int) (n : Nat) (gs : List (List Int)) (cs : List Int) (k : Nat) (turn lines longer line told lost : Option Slot) : Rho :=
  [some (.d (.list (ns.map .int))), some (.r a ns), some (.d (encNet n gs)), some (.d (.list ((SGM.allB n).map encR))), some (.d (.int ((n + gs.length : Nat) : Int))), some (.d (encS (goal n gs))), none, none, none, turn, none, some (.d (encR cs)), none, none, none, none, none, none, none, none, none, some (.d (encS (wk n gs cs))), none, some (.d (.int (k : Nat))), lines, longer, line, told, lost, none, none, none, none]
theorem lines_ok (m : Nat) : ∀ (k : Nat) (l : List Int), l ∈ lines m k → l.length = k ∧ ∀ c ∈ l, 0 ≤ c ∧ c < (m : Int)
  | 0, l, h => by
    have e : l = [] := by simpa [lines] using h
    subst e
    exact ⟨rfl, fun _ h => by simp at h⟩
  | k + 1, l, h => by
    obtain ⟨r, hr, p, hp, e⟩ := cand_mem.mp (show l ∈ cands m (lines m k) from h)
    obtain ⟨h1, h2⟩ := lines_ok m k r hr
    subst e
    refine ⟨by rw [List.length_append, h1]; rfl, fun c hc => ?_⟩
    rcases List.mem_append.mp hc with h | h
    · exact h2 c h
    · rw [show c = p by simpa using h]; exact hp
theorem kids_len (m : Nat) (r : List Int) : (kids m r).length = m := by unfold kids; rw [List.length_map, first_len]
theorem cands_len (m : Nat) : ∀ l : Rows, (cands m l).length = l.length * m
  | [] => by unfold cands; simp
  | r :: l => by
    have e : cands m (r :: l) = kids m r ++ cands m l := by unfold cands; rw [List.flatMap_cons]
    rw [e, List.length_append, kids_len, cands_len m l, List.length_cons, Nat.succ_mul]
    omega
theorem lines_len (m : Nat) : ∀ k, (lines m k).length = m ^ k
  | 0 => rfl
  | k + 1 => by
    show (cands m (lines m k)).length = _
    rw [cands_len, lines_len m k, Nat.pow_succ]
theorem cands_next {m : Nat} {l : Rows} {j : Nat} {r : List Int} (h : l[j]? = some r) : (cands m (l.take (j + 1))).map encR = (cands m (l.take j)).map encR ++ (List.range m).map fun (p : Nat) => encR (r ++ [(p : Int)]) := by
  have e : cands m (l.take (j + 1)) = cands m (l.take j) ++ kids m r := by
    rw [List.take_add_one, h]
    unfold cands
    rw [List.flatMap_append]
    simp
  rw [e, List.map_append]
  congr 1
  unfold kids first
  rw [List.map_map, List.map_map]
  rfl
section
variable {P : Program} {w : World} {K : PySem.W.Frag} {mg : Str → Option Value} {base : Heap} {f : Addr} {cdv : Value} {A : Around} {outer : List Env} {s : Shared} {H : Hp} {E : XK}
theorem law_17 {a : Addr} {ns : List Int} {n : Nat} {gs : List (List Int)} {cs ds : List Int} {rest : List Stmt} {out : Out} (C : LC P w K mg base) (hr : Room 6 (lawX P w K mg base f cdv A outer s H E).A) (h : ∀ k : Nat, k ≤ 3 → DSs (lawX P w K mg base f cdv A outer s H E) rest (R4 a ns n gs cs k none (some (.d (.list ((lines (n + gs.length) 0).map encR)))) none none none none) out) :
    DSs (lawX P w K mg base f cdv A outer s H E) (lawS 16 :: rest) (R3 a ns n gs cs ds (some (.d (encS (wk n gs cs)))) none) out :=
  dss_ns (ns_par (i := 23) (j := 24) (ri := 1) (ad := a) (ns := ns) (fun ta ha mono => par_L rfl (nodup_of (by kernel_rfl)) rfl rfl (by decide) rfl rfl rfl rfl ha mono) (ne_call C.taken hr rfl (dv_var 1 rfl) rfl (da_cons de_int da_nil) ⟨4, rfl, by decide, by decide⟩) (ne_of (R := fun x => x = .list [encR []]) rfl (de_new (do_lst (da_cons (de_tup da_nil (by decide)) da_nil) (show 1 ≤ 100000 by decide))) rfl) rfl) fun ρ1 ⟨x, y, ⟨m, r, em, ex, r0, r1⟩, ey, e⟩ => by
    injection em with em
    injection em with em
    obtain ⟨k, hk⟩ : ∃ k : Nat, r = k := ⟨r.toNat, by omega⟩
    subst hk
    rw [e, ex, ey]
    exact dss_less (R4 a ns n gs cs k none (some (.d (.list ((lines (n + gs.length) 0).map encR)))) none none none none) ⟨rfl, rfl, rfl, rfl, rfl, rfl, rfl, rfl, rfl, rfl, trivial⟩ (h k (by omega))
theorem law_18 {a : Addr} {ns : List Int} {n : Nat} {gs : List (List Int)} {cs : List Int} {k : Nat} (B : BI mg) (N : NetOk n gs) (hk : k ≤ 3) :
    DS (lawX P w K mg base f cdv A outer s H E) (lawS 17) (R4 a ns n gs cs k none (some (.d (.list ((lines (n + gs.length) 0).map encR)))) none none none none) (.nx (R4 a ns n gs cs k none (some (.d (.list ((lines (n + gs.length) k).map encR)))) none none none none)) := by
  have n3 := N.n3
  have g4 := N.g4
  refine ds_is (ds_forN (ts := List.range k) (enc := fun (i : Nat) => PyData.int i) (fs := fun (i : Nat) ρ => ρ.set 9 (some (.d (.int i)))) (fun j => R4 a ns n gs cs k none (some (.d (.list ((lines (n + gs.length) j).map encR)))) none none none none) rfl PassesOwn.never rfl (di_range rfl B.range (de_var 23 rfl) (by omega)) (dg_name 9 (nodup_of (by kernel_rfl)) rfl (Or.inl rfl)) (fun _ _ => rfl) (fun j t ht => ?_)) (by rw [List.length_range])
  have hj : j < k := by
    have := (List.getElem?_eq_some_iff.mp ht).1
    rwa [List.length_range] at this
  have ll : (lines (n + gs.length) j).length ≤ 343 := by
    rw [lines_len]
    refine Nat.le_trans (Nat.pow_le_pow_left (show n + gs.length ≤ 7 by omega) j) ?_
    exact Nat.le_trans (Nat.pow_le_pow_right (by decide) (show j ≤ 3 by omega)) (by decide)
  have lo := lines_ok (n + gs.length) j
  have nx : lines (n + gs.length) (j + 1) = cands (n + gs.length) (lines (n + gs.length) j) := rfl
  rw [nx]
  generalize lines (n + gs.length) j = ls at ll lo ⊢
  refine dss_cons (ds_setO 25 (nodup_of (by kernel_rfl)) rfl (Or.inl rfl) (do_lst da_nil (by decide)) trivial) ?_
  refine dss_cons (ds_forN (ts := ls) (enc := encR) (fs := fun l ρ => ρ.set 26 (some (.d (encR l)))) (fun i => R4 a ns n gs cs k (some (.d (.int t))) (some (.d (.list (ls.map encR)))) (some (.l ((cands (n + gs.length) (ls.take i)).map encR))) none none none) rfl PassesOwn.never rfl (di_list (de_var 24 rfl)) (dg_name 26 (nodup_of (by kernel_rfl)) rfl (Or.inr rfl)) (fun _ _ => rfl) (fun i l hl => ?_)) ?_
  · have lk := (lo l (List.mem_of_getElem? hl)).1
    refine dss_keep (R4 a ns n gs cs k (some (.d (.int t))) (some (.d (.list (ls.map encR)))) (some (.l ((cands (n + gs.length) (ls.take (i + 1))).map encR))) (some (.d (encR l))) none none) ⟨rfl, rfl, rfl, rfl, rfl, rfl, rfl, rfl, rfl, rfl, rfl, rfl, trivial⟩ (dss_one ?_)
    rw [cands_next hl]
    refine ds_setO 25 (nodup_of (by kernel_rfl)) rfl (Or.inl rfl) (do_catV (dv_var 25 rfl) rfl (do_lcN 13 (ts := List.range (n + gs.length)) (enc := fun (p : Nat) => PyData.int p) (fun (p : Nat) => encR (l ++ [(p : Int)])) rfl (nodup_of (by kernel_rfl)) (di_range rfl B.range (de_var 4 rfl) (by omega)) (blk_of (by kernel_rfl)) (fun _ _ _ _ _ => dg_name 13 (nodup_of (by kernel_rfl)) rfl (Or.inl rfl)) (fun _ _ _ _ _ p hp => de_is (de_catT (de_var 26 rfl) (de_tup (da_cons (de_var 13 rfl) da_nil) (show 1 ≤ 100000 by decide)) ?_) ?_) (by rw [List.length_range]; omega)) ?_) trivial
    · rw [List.length_map]
      show _ + 1 ≤ _
      omega
    · unfold encR
      rw [List.map_append]
      rfl
    · have : (cands (n + gs.length) (ls.take i)).length ≤ 343 * 7 := by
        rw [cands_len, List.length_take]
        exact Nat.mul_le_mul (by omega) (by omega)
      rw [List.length_map, List.length_map, List.length_range]
      omega
  · rw [List.take_length]
    refine dss_keep (R4 a ns n gs cs k (some (.d (.int t))) (some (.d (.list ((cands (n + gs.length) ls).map encR)))) none none none none) ⟨rfl, rfl, rfl, rfl, rfl, rfl, rfl, rfl, rfl, rfl, trivial⟩ (dss_post (dss_one (ds_move 24 (nodup_of (by kernel_rfl)) rfl (Or.inl rfl) (dv_var 25 rfl) rfl trivial (by decide))) fun _ _ _ _ _ es => es.freeze (i := 24) rfl)
theorem law_19 {a : Addr} {ns : List Int} {n : Nat} {gs : List (List Int)} {cs : List Int} {k : Nat} {rest : List Stmt} {out : Out} (B : BI mg) (C : LC P w K mg base) (hr : Room 6 (lawX P w K mg base f cdv A outer s H E).A) (N : NetOk n gs) (hk : k ≤ 3)
    (h : DSs (lawX P w K mg base f cdv A outer s H E) rest (R4 a ns n gs cs k none none none none none none) out) :
    DSs (lawX P w K mg base f cdv A outer s H E) (lawS 18 :: rest) (R4 a ns n gs cs k none (some (.d (.list ((lines (n + gs.length) k).map encR)))) none none none none) out := by
  have n3 := N.n3
  have g4 := N.g4
  have ll : (lines (n + gs.length) k).length ≤ 343 := by
    rw [lines_len]
    refine Nat.le_trans (Nat.pow_le_pow_left (show n + gs.length ≤ 7 by omega) k) ?_
    exact Nat.le_trans (Nat.pow_le_pow_right (by decide) hk) (by decide)
  have lo := lines_ok (n + gs.length) k
  have hc : GCount [encNet n gs, .int k] (.int (((lines (n + gs.length) k).filter fun l => decide (wk n gs l = goal n gs)).length : Int)) := ⟨n, gs, k, rfl, N, hk, congrArg PyData.int (cnt_right k).symm⟩
  generalize lines (n + gs.length) k = ls at ll lo hc ⊢
  refine dss_ifF (dt_is (dt_not (t := true) (dt_val (de_callC C.al1 hr rfl (da_cons (de_callC C.count hr rfl (da_cons (de_var 2 rfl) (da_cons (de_var 23 rfl) da_nil)) hc) (da_cons (de_is (de_lenL rfl B.len (de_new (do_lcF 26 (ts := ls) (enc := encR) (fun l => decide (wk n gs l = goal n gs)) encR rfl (nodup_of (by kernel_rfl)) (di_list (de_var 24 rfl)) (blk_of (by kernel_rfl)) (fun _ _ _ _ _ => dg_name 26 (nodup_of (by kernel_rfl)) rfl (Or.inl rfl)) (fun _ _ _ _ _ l hl => dt_is (dt_cmp op_isN pure_isN (de_callC C.wrong hr rfl (da_cons (de_var 2 rfl) (da_cons (de_var 26 rfl) da_nil)) ⟨n, gs, l, rfl, N, (lo l hl).2, ?_, rfl⟩) de_non (nomark _)) wz_none) (fun _ _ _ _ _ l hl _ => (de_var 26 rfl)) (by omega)))) (by rw [List.length_map])) da_nil)) ⟨_, .inl ⟨_, rfl⟩, rfl, rfl⟩))) rfl) (dss_less (R4 a ns n gs cs k none none none none none none) ⟨rfl, rfl, rfl, rfl, rfl, rfl, rfl, rfl, rfl, trivial⟩ h)
  have := (lo l hl).1
  omega
theorem lost_at {n : Nat} {gs : List (List Int)} (cs : List Int) : (!((List.range (2 ^ n)).filter fun i => !((List.range (n + gs.length)).filter fun w => decide (gt ((wk n gs cs).getD i []) w < gt ((goal n gs).getD i []) w)).isEmpty).isEmpty) = lostG n gs (wk n gs cs) := by
  rw [filter_any, Bool.not_not]
  unfold lostG
  rw [lost_wk, Bool.eq_iff_iff, List.any_eq_true, List.any_eq_true]
  have len := allB_len n
  have at_ : ∀ i, (h : i < 2 ^ n) → ∃ b, b ∈ SGM.allB n ∧ (SGM.allB n)[i]? = some b ∧ (wk n gs cs).getD i [] = walk1 n gs (begin1 gs b) cs ∧ (goal n gs).getD i [] = endIn gs b := fun i h => by
    have hi : i < (SGM.allB n).length := by rw [len]; exact h
    refine ⟨(SGM.allB n)[i], List.getElem_mem hi, List.getElem?_eq_getElem hi, ?_, ?_⟩
    · unfold wk
      rw [List.getD_eq_getElem?_getD, List.getElem?_map, List.getElem?_eq_getElem hi]
      rfl
    · unfold goal
      rw [List.getD_eq_getElem?_getD, List.getElem?_map, List.getElem?_eq_getElem hi]
      rfl
  have one : ∀ b ∈ SGM.allB n, ((!((List.range (n + gs.length)).filter fun w => decide (gt (walk1 n gs (begin1 gs b) cs) w < gt (endIn gs b) w)).isEmpty) = true ↔ lost1 (walk1 n gs (begin1 gs b) cs) (endIn gs b) = true) := fun b hb => by
    obtain ⟨h1, h2⟩ := allB_ok n b hb
    have sl := ((StB.start (gs := gs) h1 h2).walk cs).len
    have el := endIn_len (gs := gs) b
    rw [filter_any, Bool.not_not, List.any_eq_true, lost1_iff (by rw [sl, el, h1])]
    constructor
    · rintro ⟨w, _, hw⟩
      exact ⟨w, of_decide_eq_true hw⟩
    · rintro ⟨w, hw⟩
      refine ⟨w, List.mem_range.mpr ?_, decide_eq_true hw⟩
      by_cases q : w < n + gs.length
      · exact q
      · rw [gt_ge (by rw [sl]; omega), gt_ge (by rw [el, h1]; omega)] at hw
        omega
  constructor
  · rintro ⟨i, hi, q⟩
    obtain ⟨b, hb, _, e1, e2⟩ := at_ i (List.mem_range.mp hi)
    rw [e1, e2] at q
    exact ⟨b, hb, (one b hb).mp q⟩
  · rintro ⟨b, hb, q⟩
    obtain ⟨i, hi, e⟩ := List.getElem_of_mem hb
    have hi' : i < 2 ^ n := by rw [← len]; exact hi
    obtain ⟨b', hb', e0, e1, e2⟩ := at_ i hi'
    have eb : b' = b := by
      rw [List.getElem?_eq_getElem hi] at e0
      rw [← e]
      exact (Option.some.inj e0).symm
    subst eb
    refine ⟨i, List.mem_range.mpr hi', ?_⟩
    rw [e1, e2]
    exact (one b' hb').mpr q
end
end SG
set_option Elab.async false
set_option linter.all false
set_option maxRecDepth 100000
set_option maxHeartbeats 4000000
/-! Part G7: the law on what is mended; the law whole. -/
namespace SG
open PySem PySem.Spec PyProof.Rows L2 SGM
theorem rows_at {xs : S} {i : Nat} (h : i < xs.length) : xs[i]? = some (xs.getD i []) := by
  rw [List.getD_eq_getElem?_getD, List.getElem?_eq_getElem h]
  rfl
theorem cut_last (R : List Int) : cutD (R.map .int) none (some (-1)) = (R.dropLast).map PyData.int := by
  unfold cutD
  rw [HT.sIx_none, List.drop_zero, Nat.sub_zero, List.length_map]
  have e : HT.sIx R.length R.length (some (-1)) = R.length - 1 := by
    show (if (-1 : Int) < 0 then ((-1 : Int) + (R.length : Int)).toNat else min (-1 : Int).toNat R.length) = R.length - 1
    rw [if_pos (by decide)]
    omega
  rw [e, List.dropLast_eq_take, List.map_take]
section
variable {P : Program} {w : World} {K : PySem.W.Frag} {mg : Str → Option Value} {base : Heap} {f : Addr} {cdv : Value} {A : Around} {outer : List Env} {s : Shared} {H : Hp} {E : XK}
theorem law_21 {a : Addr} {ns : List Int} {n : Nat} {gs : List (List Int)} {cs : List Int} {k : Nat} {Z : PyData} (B : BI mg) (hr : Room 6 (lawX P w K mg base f cdv A outer s H E).A) (N : NetOk n gs) :
    DS (lawX P w K mg base f cdv A outer s H E) (lawS 20) (R4 a ns n gs cs k none none none none (some (.d Z)) none) (.nx (R4 a ns n gs cs k none none none none (some (.d Z)) (some (.d (.bool (lostG n gs (wk n gs cs))))))) := by
  have n3 := N.n3
  have g4 := N.g4
  have len := allB_len n
  have l8 : 2 ^ n ≤ 8 := Nat.pow_le_pow_right (n := 2) (by decide) n3
  have wl := wk_len (n := n) (gs := gs) cs
  have gl : (goal n gs).length = 2 ^ n := by unfold goal; rw [List.length_map, len]
  have ws : ∀ st ∈ wk n gs cs, st.length = n + gs.length := fun st h => (wk_st h).1
  have gss : ∀ st ∈ goal n gs, st.length = n + gs.length := fun st h => by
    obtain ⟨b, hb, e⟩ := List.mem_map.mp h
    rw [← e, endIn_len, (allB_ok n b hb).1]
  have hL := lost_at (n := n) (gs := gs) cs
  rw [← hL]
  unfold R4
  generalize wk n gs cs = mi at wl ws ⊢
  generalize goal n gs = go at gl gss ⊢
  refine ds_set 28 (nodup_of (by kernel_rfl)) rfl (Or.inl rfl) (de_is (de_cmp (op_neD (by have := hr.units; omega)) (pure_neD (x := .list (((List.range (2 ^ n)).filter fun i => !((List.range (n + gs.length)).filter fun w => decide (gt (mi.getD i []) w < gt (go.getD i []) w)).isEmpty).map fun (i : Nat) => PyData.int i)) (y := .list []) (shaped_nats _) (shaped_L [])) (de_new (do_lcF 32 (ts := List.range (2 ^ n)) (enc := fun (i : Nat) => PyData.int i) (fun i => !((List.range (n + gs.length)).filter fun w => decide (gt (mi.getD i []) w < gt (go.getD i []) w)).isEmpty) (fun (i : Nat) => PyData.int i) rfl (nodup_of (by kernel_rfl)) (di_range rfl B.range (de_is (de_lenL rfl B.len (de_var 3 rfl)) (by rw [List.length_map, len])) (by omega)) (blk_of (by kernel_rfl)) (fun _ _ _ _ _ => dg_name 32 (nodup_of (by kernel_rfl)) rfl (Or.inr rfl)) (fun _ _ _ _ _ i hi => ?_) (fun _ _ _ _ _ i hi _ => (de_var 32 rfl)) (by rw [List.length_range]; omega))) (de_new (do_lst da_nil (by decide))) (nomark _)) (congrArg PyData.bool (by rw [eqv_nil, map_emp])))
  have hi := List.mem_range.mp hi
  have m1 : mi[i]? = some (mi.getD i []) := rows_at (by omega)
  have g1 : go[i]? = some (go.getD i []) := rows_at (by omega)
  have m2 := ws _ (List.mem_of_getElem? m1)
  have g2 := gss _ (List.mem_of_getElem? g1)
  refine dt_is (dt_neD hr (shaped_nats ((List.range (n + gs.length)).filter fun w => decide (gt (mi.getD i []) w < gt (go.getD i []) w))) (shaped_L []) (de_new (do_lcF 19 (ts := List.range (n + gs.length)) (enc := fun (i : Nat) => PyData.int i) (fun w => decide (gt (mi.getD i []) w < gt (go.getD i []) w)) (fun (i : Nat) => PyData.int i) rfl (nodup_of (by kernel_rfl)) (di_range rfl B.range (de_var 4 rfl) (by omega)) (blk_of (by kernel_rfl)) (fun _ _ _ _ _ => dg_name 19 (nodup_of (by kernel_rfl)) rfl (Or.inl rfl)) (fun _ _ _ _ _ w hw => ?_) (fun _ _ _ _ _ w hw _ => (de_var 19 rfl)) (by rw [List.length_range]; omega))) (de_new (do_lst da_nil (by decide)))) (by rw [show List.map PyData.int [] = [] from rfl, eqv_nil, map_emp])
  have hw := List.mem_range.mp hw
  exact dt_lt (de_at (de_at (de_var 21 rfl) (de_var 32 rfl) (atI_map (i := i) rfl m1) (fun _ _ => rfl)) (de_var 19 rfl) (atI_map (i := w) rfl (gt_some (by omega))) (fun _ _ => rfl)) (de_at (de_at (de_var 5 rfl) (de_var 32 rfl) (atI_map (i := i) rfl g1) (fun _ _ => rfl)) (de_var 19 rfl) (atI_map (i := w) rfl (gt_some (by omega))) (fun _ _ => rfl))
theorem law_end {a : Addr} {ns : List Int} {n : Nat} {gs : List (List Int)} {cs : List Int} {k : Nat} (B : BI mg) (C : LC P w K mg base) (hr : Room 6 (lawX P w K mg base f cdv A outer s H E).A) (N : NetOk n gs) (rg : RowOk n gs cs) (hl : cs.length ≤ 6) :
    DSs (lawX P w K mg base f cdv A outer s H E) [lawS 19, lawS 20, lawS 21, lawS 22] (R4 a ns n gs cs k none none none none none none) (.rt (.bool true)) := by
  have two : ∀ (Z : PyData) (b : Bool), isNone Z = b → lostG n gs (wk n gs cs) = b → GMend [encNet n gs, encR cs] Z → DSs (lawX P w K mg base f cdv A outer s H E) [lawS 22] (R4 a ns n gs cs k none none none none (some (.d Z)) (some (.d (.bool b)))) (.rt (.bool true)) → DSs (lawX P w K mg base f cdv A outer s H E) [lawS 19, lawS 20, lawS 21, lawS 22] (R4 a ns n gs cs k none none none none none none) (.rt (.bool true)) := by
    intro Z b hz hb hm h
    refine dss_cons (ds_set 27 (nodup_of (by kernel_rfl)) rfl (Or.inl rfl) (de_callC C.mend hr rfl (da_cons (de_var 2 rfl) (da_cons (de_var 11 rfl) da_nil)) hm)) ?_
    refine dss_cons (law_21 (a := a) (ns := ns) (cs := cs) (k := k) (Z := Z) B hr N) ?_
    rw [hb]
    exact dss_ifF (dt_is (dt_neD hr (shaped_bool (isNone Z)) (shaped_bool b) (de_cmp op_isN pure_isN (de_var 27 rfl) de_non (nomark _)) (de_var 28 rfl)) (by rw [hz]; simp [PyData.eqv])) h
  cases hL : lostG n gs (wk n gs cs) with
  | true =>
    refine two .none true rfl hL ⟨n, gs, cs, rfl, N, rg, by omega, .inl ⟨hL, rfl⟩⟩ ?_
    refine dss_one (ds_ret (de_is (de_or (t := true) (u := true) (de_cmp op_isN pure_isN (de_var 27 rfl) de_non (nomark _)) fun h => nomatch h) rfl))
  | false =>
    obtain ⟨NN, R, n7, hN, hk, r1, r2, hW, rr, rl, rd⟩ := least_both (goes N cs hL)
    refine two (encR R) false rfl hL ⟨n, gs, cs, rfl, N, rg, by omega, .inr ⟨hL, R, r2, rfl⟩⟩ ?_
    have rgR : RowOk n gs (cs ++ R) := fun c hc => by
      rcases List.mem_append.mp hc with h | h
      · exact rg c h
      · exact rr c h
    have rgD : RowOk n gs (cs ++ R.dropLast) := fun c hc => by
      rcases List.mem_append.mp hc with h | h
      · exact rg c h
      · exact rr c ((List.dropLast_sublist R).subset h)
    have ll : (cs ++ R).length ≤ 1000 := by rw [List.length_append]; omega
    have lD : (cs ++ R.dropLast).length ≤ 1000 := by rw [List.length_append, List.length_dropLast]; omega
    have z1 : isNone (wz n gs (cs ++ R)) = true := by rw [wz_none]; exact decide_eq_true hW
    have cat : ∀ T : List Int, PyData.tuple (cs.map .int ++ T.map .int) = encR (cs ++ T) := fun T => by unfold encR; rw [List.map_append]
    refine dss_one (ds_ret (de_is (de_or (t := false) (u := true) (de_cmp op_isN pure_isN (de_var 27 rfl) de_non (nomark _)) fun _ => de_one (de_and (t := true) (u := true) (de_is (de_cmp op_isN pure_isN (de_callC C.wrong hr rfl (da_cons (de_var 2 rfl) (da_cons (x := encR (cs ++ R)) (de_is (de_catT (de_var 11 rfl) (de_var 27 rfl) ?_) (cat R)) da_nil)) ⟨n, gs, cs ++ R, rfl, N, rgR, ll, rfl⟩) de_non (nomark _)) (congrArg PyData.bool z1)) fun _ => de_one ?_)) rfl))
    · rw [List.length_map, List.length_map]; omega
    refine de_is (de_or (t := decide (R = [])) (u := !isNone (wz n gs (cs ++ R.dropLast))) (de_is (de_eqD hr (shaped_R R) (shaped_R []) (de_var 27 rfl) (de_tup da_nil (by decide))) (congrArg PyData.bool (eqv_R R []))) fun _ => de_one (de_cmp op_notN pure_notN (de_callC C.wrong hr rfl (da_cons (de_var 2 rfl) (da_cons (x := encR (cs ++ R.dropLast)) (de_is (de_catT (de_var 11 rfl) (de_is (de_slice (de_var 27 rfl) dpo_none (dpo_some (de_neg de_int))) (congrArg PyData.tuple (cut_last R))) ?_) (cat R.dropLast)) da_nil)) ⟨n, gs, cs ++ R.dropLast, rfl, N, rgD, lD, rfl⟩) de_non (nomark _))) (congrArg PyData.bool ?_)
    · rw [List.length_map, List.length_map, List.length_dropLast]; omega
    · rw [wz_none]
      rcases rd with e | e
      · rw [decide_eq_true e]; rfl
      · have : decide (wk n gs (cs ++ R.dropLast) = goal n gs) = false := decide_eq_false e
        rw [this]
        cases decide (R = []) <;> rfl
/-- the law says True, whatever is drawn -/
theorem w_law (B : BI mg) (C : LC P w K mg base) {f : Addr} {fd : FuncData} (F : Fun K "law" "law" (topS 50) f fd) : FnOk P w K mg base CX0 7 f fd ["_law_script"] (spD K fun xs z => ∃ ns : List Int, xs = [.list (ns.map .int)] ∧ z = .bool true) :=
  fn_ok F (N := lawN) ⟨rfl, rfl, rfl, by decide +kernel, rfl, by decide +kernel, by decide +kernel⟩ (fun xs z h => by obtain ⟨ns, rfl, _⟩ := h; rfl) fun cdv A outer s H E hr xs z h => by
    obtain ⟨ns, rfl, rfl⟩ := h
    show DSs (lawX P w K mg base f cdv A outer s H E) [lawS 0, lawS 1, lawS 2, lawS 3, lawS 4, lawS 5, lawS 6, lawS 7, lawS 8, lawS 9, lawS 10, lawS 11, lawS 12, lawS 13, lawS 14, lawS 15, lawS 16, lawS 17, lawS 18, lawS 19, lawS 20, lawS 21, lawS 22] _ _
    refine law_1 fun a => law_2 C hr fun n gs N => law_3 B C hr N ?_
    obtain ⟨NN, R, n7, hN, hk, r1, r2, hW, rr, rl, rd⟩ := least_both (goes N [] (begin_not_lost N))
    refine dss_cons (law_7 (a := a) (ns := ns) B C hr N) ?_
    refine law_8 (R := R) B C hr N r2 rl ?_
    refine dss_cons (ds_setO 15 (nodup_of (by kernel_rfl)) rfl (Or.inl rfl) (do_lst da_nil (by decide)) trivial) ?_
    refine dss_less (R2 a ns n gs (kn (Wc n gs []) encR (F8 n gs)) none none none none (mustD n gs 0) none none none none) ⟨rfl, rfl, rfl, rfl, rfl, rfl, rfl, rfl, rfl, trivial⟩ ?_
    refine dss_cons (law_10 (a := a) (ns := ns) B C hr N) ?_
    refine law_11 (R := R) B C hr N r2 hW rr rl ?_
    refine law_12 C hr N fun cs ds o1 l1 o2 l2 => ?_
    refine dss_cons (law_13 (a := a) (ns := ns) (cs := cs) (ds := ds) B C hr N o1 l1) ?_
    refine dss_cons (law_14 (a := a) (ns := ns) (cs := cs) (ds := ds) B C hr N o1 l1) ?_
    refine law_15 B C hr N o1 l1 (law_16 B C hr N o1 l1 o2 l2 (law_17 C hr fun k hk => ?_))
    refine dss_cons (law_18 (a := a) (ns := ns) (cs := cs) (k := k) B N hk) ?_
    exact law_19 B C hr N hk (law_end B C hr N o1 l1)
end
end SG
set_option Elab.async false
set_option linter.all false
set_option maxRecDepth 100000
set_option maxHeartbeats 4000000
/-! Part Z: the program's top; the theorem. -/
namespace SG
open PySem PySem.Spec PyProof.Rows L2 SGM
def spLaw (K : PySem.W.Frag) : Sp := fun vs H Q _ => ∃ (a : Addr) (ns : List Int), vs = [.ref a] ∧ SqL K H a (ns.map V.int) ∧ ns.length ≤ 63 ∧ ∀ H', Q (.bl true) H'
section
variable {P : Program} {w : World} {K : PySem.W.Frag} {mg : Str → Option Value} {base : Heap}
theorem lc_of (B : BI mg) (N : CI mg) (D0 : DefAt K mg "is_integer" (topS 1) ["value"]) (D1 : DefAt K mg "is_in" (topS 2) ["value", "least", "most"]) (D2 : DefAt K mg "is_list" (topS 3) ["value", "least", "most"]) (D3 : DefAt K mg "need_net" (topS 13) ["net"]) (D4 : DefAt K mg "size_of" (topS 14) ["net"]) (D5 : DefAt K mg "friends_in" (topS 15) ["net", "person"]) (D6 : DefAt K mg "all_bits" (topS 16) ["inputs"]) (D7 : DefAt K mg "standing_in" (topS 18) ["net", "bits"]) (D8 : DefAt K mg "need_calls" (topS 21) ["net", "calls"]) (D9 : DefAt K mg "begin" (topS 22) ["net", "bits"]) (D10 : DefAt K mg "call_in" (topS 23) ["net", "state", "person"]) (D11 : DefAt K mg "begins" (topS 26) ["net"]) (D12 : DefAt K mg "goal_of" (topS 27) ["net"]) (D13 : DefAt K mg "all_call" (topS 28) ["net", "states", "person"]) (D14 : DefAt K mg "is_lost" (topS 29) ["states", "goal"]) (D15 : DefAt K mg "least_from" (topS 30) ["net", "first"]) (D16 : DefAt K mg "least_right" (topS 31) ["net"]) (D17 : DefAt K mg "fewest_calls" (topS 32) ["net"]) (D18 : DefAt K mg "must_call" (topS 33) ["net"]) (D19 : DefAt K mg "can_without" (topS 34) ["net", "person"]) (D20 : DefAt K mg "count_right" (topS 35) ["net", "many"]) (D21 : DefAt K mg "needless_calls" (topS 36) ["net", "calls"]) (D22 : DefAt K mg "walked" (topS 37) ["net", "calls"]) (D23 : DefAt K mg "same_rows" (topS 38) ["net", "one", "other"]) (D24 : DefAt K mg "mended" (topS 39) ["net", "calls"]) (D25 : DefAt K mg "_law_taken" (topS 41) ["_law_row_here", "_law_many"]) (D26 : DefAt K mg "_law_alike" (topS 42) ["_law_found", "_law_due"]) (D27 : DefAt K mg "_law_net" (topS 43) ["_law_row_here", "_law_most"]) (D28 : DefAt K mg "_law_bits" (topS 44) ["_law_size"]) (D29 : DefAt K mg "_law_end" (topS 45) ["_law_net_here", "_law_bits_here"]) (D30 : DefAt K mg "_law_round" (topS 46) ["_law_net_here", "_law_state", "_law_some"]) (D31 : DefAt K mg "_law_walk" (topS 47) ["_law_net_here", "_law_bits_here", "_law_calls"]) (D32 : DefAt K mg "_law_row" (topS 48) ["_law_row_here", "_law_net_here", "_law_most"]) (D33 : DefAt K mg "_law_wrong" (topS 49) ["_law_net_here", "_law_calls"]) : LC P w K mg base := by
  have C_is_integer := (w_is_integer (P := P) (w := w) (base := base) B D0)
  have C_is_in := (w_is_in (P := P) (w := w) (base := base) B D1 C_is_integer)
  have C_is_list := (w_is_list (P := P) (w := w) (base := base) B D2)
  have C_size_of := (w_size_of (P := P) (w := w) (base := base) B D4)
  have C_friends_in := (w_friends_in (P := P) (w := w) (base := base) B D5)
  have C_all_bits := (w_all_bits (P := P) (w := w) (base := base) B D6)
  have C_standing_in := (w_standing_in (P := P) (w := w) (base := base) B D7)
  have C_need_net := (w_need_net (P := P) (w := w) (base := base) B N D3 C_is_list C_is_in)
  have C_need_calls := (w_need_calls (P := P) (w := w) (base := base) B N D8 C_is_list C_is_in C_size_of)
  have C_begin := (w_begin (P := P) (w := w) (base := base) B D9)
  have C_call_in := (w_call_in (P := P) (w := w) (base := base) B D10 C_friends_in)
  have C_begins := (w_begins (P := P) (w := w) (base := base) B D11 C_begin C_all_bits)
  have C_goal_of := (w_goal_of (P := P) (w := w) (base := base) B D12 C_standing_in C_all_bits)
  have C_all_call := (w_all_call (P := P) (w := w) (base := base) B D13 C_call_in)
  have C_is_lost := (w_is_lost (P := P) (w := w) (base := base) B D14)
  have C_walked := (w_walked (P := P) (w := w) (base := base) B D22 C_begins C_all_call)
  have C_needless_calls := (w_needless (P := P) (w := w) (base := base) B D21 C_need_net C_need_calls C_walked)
  have C_same_rows := (w_same_rows (P := P) (w := w) (base := base) B D23 C_need_net C_need_calls C_walked)
  have C_least_from := (w_least_from (P := P) (w := w) (base := base) B N D15 C_goal_of C_size_of C_all_call C_is_lost)
  have C_can_without := (w_can_without (P := P) (w := w) (base := base) B N D19 C_begins C_goal_of C_size_of C_all_call C_is_lost)
  have C_least_right := (w_least_right (P := P) (w := w) (base := base) B D16 C_need_net C_begins C_least_from)
  have C_fewest_calls := (w_fewest (P := P) (w := w) (base := base) B D17 C_need_net C_begins C_least_from)
  have C_must_call := (w_must (P := P) (w := w) (base := base) B D18 C_need_net C_size_of C_can_without)
  have C_mended := (w_mended (P := P) (w := w) (base := base) B D24 C_need_net C_need_calls C_walked C_goal_of C_is_lost C_least_from)
  have C_count_right := (w_count_right (P := P) (w := w) (base := base) B D20 C_need_net C_is_in C_begins C_goal_of C_size_of C_all_call C_is_lost)
  have C__law_alike := (w_alike1 (P := P) (w := w) (base := base) B D26)
  have C__law_alike2 := (w_alike2 (P := P) (w := w) (base := base) B D26 C__law_alike)
  have C__law_bits := (w_lbits (P := P) (w := w) (base := base) B D28)
  have C__law_end := (w_lend (P := P) (w := w) (base := base) B D29)
  have C__law_round := (w_lround (P := P) (w := w) (base := base) B D30)
  have C__law_walk := (w_lwalk (P := P) (w := w) (base := base) B D31 C__law_round)
  have C__law_wrong := (w_lwrong (P := P) (w := w) (base := base) B D33 C__law_bits C__law_walk C__law_end)
  have C__law_taken := (w_taken (P := P) (w := w) (base := base) B D25)
  have C__law_net := (w_lnet (P := P) (w := w) (base := base) B D27 C__law_taken)
  have C__law_row := (w_lrow (P := P) (w := w) (base := base) B D32 C__law_taken)
  exact { taken := C__law_taken.mono (by decide), net := C__law_net.mono (by decide), row := C__law_row.mono (by decide), al1 := C__law_alike.mono (by decide), al2 := C__law_alike2.mono (by decide), bits := C__law_bits.mono (by decide), end_ := C__law_end.mono (by decide), round := C__law_round.mono (by decide), walk := C__law_walk.mono (by decide), wrong := C__law_wrong.mono (by decide), right := C_least_right.mono (by decide), few := C_fewest_calls.mono (by decide), must := C_must_call.mono (by decide), idle := C_needless_calls.mono (by decide), same := C_same_rows.mono (by decide), count := C_count_right.mono (by decide), mend := C_mended.mono (by decide) }
theorem ok_law {f : Addr} {fd : FuncData} (B : BI mg) (C : LC P w K mg base) (F : Fun K "law" "law" (topS 50) f fd) : FnOk P w K mg base CX0 7 f fd ["_law_script"] (spLaw K) :=
  (w_law B C F).imp fun vs H Q E ⟨a, ns, ev, hS, _, q⟩ => by
    subst ev
    have e : msk (fun _ => False) H = H := by
      funext b
      exact msk_out (L := fun _ => False) fun z => z
    refine ⟨fun _ => False, [.list (ns.map .int)], .bool true, fun _ h => h.elim, .cons (.lst (by rw [e]; exact hS) (ints_dp ns)) .nil, ⟨ns, rfl, rfl⟩, fun v H' _ d => ?_⟩
    cases d
    exact q H'
end
theorem all_mk {l : PySem.W.OpenLaw} {w : World} {K : PySem.W.Frag} {h : Heap} {mg : Str → Option Value} {fa f0 f1 f2 f3 f4 f5 f6 f7 f8 f9 f10 f11 f12 f13 f14 f15 f16 f17 f18 f19 f20 f21 f22 f23 f24 f25 f26 f27 f28 f29 f30 f31 f32 f33 f34 : Addr} (X : K.In h) (G : h.Ns mainGlobals mg) (hfa : mg "law" = some (.ref fa))
    {od0 an0 od1 an1 od2 an2 od3 an3 od4 an4 od5 an5 od6 an6 od7 an7 od8 an8 od9 an9 od10 an10 od11 an11 od12 an12 od13 an13 od14 an14 od15 an15 od16 an16 od17 an17 od18 an18 od19 an19 od20 an20 od21 an21 od22 an22 od23 an23 od24 an24 od25 an25 od26 an26 od27 an27 od28 an28 od29 an29 od30 an30 od31 an31 od32 an32 od33 an33 od34 an34 : Option Addr} {sl0 sl1 sl2 sl3 sl4 sl5 sl6 sl7 sl8 sl9 sl10 sl11 sl12 sl13 sl14 sl15 sl16 sl17 sl18 sl19 sl20 sl21 sl22 sl23 sl24 sl25 sl26 sl27 sl28 sl29 sl30 sl31 sl32 sl33 sl34 : Array (Option Value)} {oc0 kV0 dc0 pm0 cd0 ct0 oc1 kV1 dc1 pm1 cd1 ct1 oc2 kV2 dc2 pm2 cd2 ct2 oc3 kV3 dc3 pm3 cd3 ct3 oc4 kV4 dc4 pm4 cd4 ct4 oc5 kV5 dc5 pm5 cd5 ct5 oc6 kV6 dc6 pm6 cd6 ct6 oc7 kV7 dc7 pm7 cd7 ct7 oc8 kV8 dc8 pm8 cd8 ct8 oc9 kV9 dc9 pm9 cd9 ct9 oc10 kV10 dc10 pm10 cd10 ct10 oc11 kV11 dc11 pm11 cd11 ct11 oc12 kV12 dc12 pm12 cd12 ct12 oc13 kV13 dc13 pm13 cd13 ct13 oc14 kV14 dc14 pm14 cd14 ct14 oc15 kV15 dc15 pm15 cd15 ct15 oc16 kV16 dc16 pm16 cd16 ct16 oc17 kV17 dc17 pm17 cd17 ct17 oc18 kV18 dc18 pm18 cd18 ct18 oc19 kV19 dc19 pm19 cd19 ct19 oc20 kV20 dc20 pm20 cd20 ct20 oc21 kV21 dc21 pm21 cd21 ct21 oc22 kV22 dc22 pm22 cd22 ct22 oc23 kV23 dc23 pm23 cd23 ct23 oc24 kV24 dc24 pm24 cd24 ct24 oc25 kV25 dc25 pm25 cd25 ct25 oc26 kV26 dc26 pm26 cd26 ct26 oc27 kV27 dc27 pm27 cd27 ct27 oc28 kV28 dc28 pm28 cd28 ct28 oc29 kV29 dc29 pm29 cd29 ct29 oc30 kV30 dc30 pm30 cd30 ct30 oc31 kV31 dc31 pm31 cd31 ct31 oc32 kV32 dc32 pm32 cd32 ct32 oc33 kV33 dc33 pm33 cd33 ct33 oc34 kV34 dc34 pm34 cd34 ct34 : Value} {t0 t1 t2 t3 : Tok}
    (a0 : PySem.W.nsIn K mainGlobals "is_integer" = some (some (.ref f0))) (l0 : K.lookup f0 = some ⟨oc0, od0, .func (PySem.W.fnOf "is_integer" "is_integer" (defArgs (topS 1)) (defBody (topS 1)) (defScope (topS 1)) .none kV0 dc0 pm0 an0 cd0 ct0), sl0⟩) (c0 : PySem.W.codeIn K cd0 "is_integer" = true) (k0 : PySem.W.keepIn K (.ref f0) = true)
    (a1 : PySem.W.nsIn K mainGlobals "is_in" = some (some (.ref f1))) (l1 : K.lookup f1 = some ⟨oc1, od1, .func (PySem.W.fnOf "is_in" "is_in" (defArgs (topS 2)) (defBody (topS 2)) (defScope (topS 2)) .none kV1 dc1 pm1 an1 cd1 ct1), sl1⟩) (c1 : PySem.W.codeIn K cd1 "is_in" = true) (k1 : PySem.W.keepIn K (.ref f1) = true)
    (a2 : PySem.W.nsIn K mainGlobals "is_list" = some (some (.ref f2))) (l2 : K.lookup f2 = some ⟨oc2, od2, .func (PySem.W.fnOf "is_list" "is_list" (defArgs (topS 3)) (defBody (topS 3)) (defScope (topS 3)) .none kV2 dc2 pm2 an2 cd2 ct2), sl2⟩) (c2 : PySem.W.codeIn K cd2 "is_list" = true) (k2 : PySem.W.keepIn K (.ref f2) = true)
    (a3 : PySem.W.nsIn K mainGlobals "need_net" = some (some (.ref f3))) (l3 : K.lookup f3 = some ⟨oc3, od3, .func (PySem.W.fnOf "need_net" "need_net" (defArgs (topS 13)) (defBody (topS 13)) (defScope (topS 13)) .none kV3 dc3 pm3 an3 cd3 ct3), sl3⟩) (c3 : PySem.W.codeIn K cd3 "need_net" = true) (k3 : PySem.W.keepIn K (.ref f3) = true)
    (a4 : PySem.W.nsIn K mainGlobals "size_of" = some (some (.ref f4))) (l4 : K.lookup f4 = some ⟨oc4, od4, .func (PySem.W.fnOf "size_of" "size_of" (defArgs (topS 14)) (defBody (topS 14)) (defScope (topS 14)) .none kV4 dc4 pm4 an4 cd4 ct4), sl4⟩) (c4 : PySem.W.codeIn K cd4 "size_of" = true) (k4 : PySem.W.keepIn K (.ref f4) = true)
    (a5 : PySem.W.nsIn K mainGlobals "friends_in" = some (some (.ref f5))) (l5 : K.lookup f5 = some ⟨oc5, od5, .func (PySem.W.fnOf "friends_in" "friends_in" (defArgs (topS 15)) (defBody (topS 15)) (defScope (topS 15)) .none kV5 dc5 pm5 an5 cd5 ct5), sl5⟩) (c5 : PySem.W.codeIn K cd5 "friends_in" = true) (k5 : PySem.W.keepIn K (.ref f5) = true)
    (a6 : PySem.W.nsIn K mainGlobals "all_bits" = some (some (.ref f6))) (l6 : K.lookup f6 = some ⟨oc6, od6, .func (PySem.W.fnOf "all_bits" "all_bits" (defArgs (topS 16)) (defBody (topS 16)) (defScope (topS 16)) .none kV6 dc6 pm6 an6 cd6 ct6), sl6⟩) (c6 : PySem.W.codeIn K cd6 "all_bits" = true) (k6 : PySem.W.keepIn K (.ref f6) = true)
    (a7 : PySem.W.nsIn K mainGlobals "standing_in" = some (some (.ref f7))) (l7 : K.lookup f7 = some ⟨oc7, od7, .func (PySem.W.fnOf "standing_in" "standing_in" (defArgs (topS 18)) (defBody (topS 18)) (defScope (topS 18)) .none kV7 dc7 pm7 an7 cd7 ct7), sl7⟩) (c7 : PySem.W.codeIn K cd7 "standing_in" = true) (k7 : PySem.W.keepIn K (.ref f7) = true)
    (a8 : PySem.W.nsIn K mainGlobals "need_calls" = some (some (.ref f8))) (l8 : K.lookup f8 = some ⟨oc8, od8, .func (PySem.W.fnOf "need_calls" "need_calls" (defArgs (topS 21)) (defBody (topS 21)) (defScope (topS 21)) .none kV8 dc8 pm8 an8 cd8 ct8), sl8⟩) (c8 : PySem.W.codeIn K cd8 "need_calls" = true) (k8 : PySem.W.keepIn K (.ref f8) = true)
    (a9 : PySem.W.nsIn K mainGlobals "begin" = some (some (.ref f9))) (l9 : K.lookup f9 = some ⟨oc9, od9, .func (PySem.W.fnOf "begin" "begin" (defArgs (topS 22)) (defBody (topS 22)) (defScope (topS 22)) .none kV9 dc9 pm9 an9 cd9 ct9), sl9⟩) (c9 : PySem.W.codeIn K cd9 "begin" = true) (k9 : PySem.W.keepIn K (.ref f9) = true)
    (a10 : PySem.W.nsIn K mainGlobals "call_in" = some (some (.ref f10))) (l10 : K.lookup f10 = some ⟨oc10, od10, .func (PySem.W.fnOf "call_in" "call_in" (defArgs (topS 23)) (defBody (topS 23)) (defScope (topS 23)) .none kV10 dc10 pm10 an10 cd10 ct10), sl10⟩) (c10 : PySem.W.codeIn K cd10 "call_in" = true) (k10 : PySem.W.keepIn K (.ref f10) = true)
    (a11 : PySem.W.nsIn K mainGlobals "begins" = some (some (.ref f11))) (l11 : K.lookup f11 = some ⟨oc11, od11, .func (PySem.W.fnOf "begins" "begins" (defArgs (topS 26)) (defBody (topS 26)) (defScope (topS 26)) .none kV11 dc11 pm11 an11 cd11 ct11), sl11⟩) (c11 : PySem.W.codeIn K cd11 "begins" = true) (k11 : PySem.W.keepIn K (.ref f11) = true)
    (a12 : PySem.W.nsIn K mainGlobals "goal_of" = some (some (.ref f12))) (l12 : K.lookup f12 = some ⟨oc12, od12, .func (PySem.W.fnOf "goal_of" "goal_of" (defArgs (topS 27)) (defBody (topS 27)) (defScope (topS 27)) .none kV12 dc12 pm12 an12 cd12 ct12), sl12⟩) (c12 : PySem.W.codeIn K cd12 "goal_of" = true) (k12 : PySem.W.keepIn K (.ref f12) = true)
    (a13 : PySem.W.nsIn K mainGlobals "all_call" = some (some (.ref f13))) (l13 : K.lookup f13 = some ⟨oc13, od13, .func (PySem.W.fnOf "all_call" "all_call" (defArgs (topS 28)) (defBody (topS 28)) (defScope (topS 28)) .none kV13 dc13 pm13 an13 cd13 ct13), sl13⟩) (c13 : PySem.W.codeIn K cd13 "all_call" = true) (k13 : PySem.W.keepIn K (.ref f13) = true)
    (a14 : PySem.W.nsIn K mainGlobals "is_lost" = some (some (.ref f14))) (l14 : K.lookup f14 = some ⟨oc14, od14, .func (PySem.W.fnOf "is_lost" "is_lost" (defArgs (topS 29)) (defBody (topS 29)) (defScope (topS 29)) .none kV14 dc14 pm14 an14 cd14 ct14), sl14⟩) (c14 : PySem.W.codeIn K cd14 "is_lost" = true) (k14 : PySem.W.keepIn K (.ref f14) = true)
    (a15 : PySem.W.nsIn K mainGlobals "least_from" = some (some (.ref f15))) (l15 : K.lookup f15 = some ⟨oc15, od15, .func (PySem.W.fnOf "least_from" "least_from" (defArgs (topS 30)) (defBody (topS 30)) (defScope (topS 30)) .none kV15 dc15 pm15 an15 cd15 ct15), sl15⟩) (c15 : PySem.W.codeIn K cd15 "least_from" = true) (k15 : PySem.W.keepIn K (.ref f15) = true)
    (a16 : PySem.W.nsIn K mainGlobals "least_right" = some (some (.ref f16))) (l16 : K.lookup f16 = some ⟨oc16, od16, .func (PySem.W.fnOf "least_right" "least_right" (defArgs (topS 31)) (defBody (topS 31)) (defScope (topS 31)) .none kV16 dc16 pm16 an16 cd16 ct16), sl16⟩) (c16 : PySem.W.codeIn K cd16 "least_right" = true) (k16 : PySem.W.keepIn K (.ref f16) = true)
    (a17 : PySem.W.nsIn K mainGlobals "fewest_calls" = some (some (.ref f17))) (l17 : K.lookup f17 = some ⟨oc17, od17, .func (PySem.W.fnOf "fewest_calls" "fewest_calls" (defArgs (topS 32)) (defBody (topS 32)) (defScope (topS 32)) .none kV17 dc17 pm17 an17 cd17 ct17), sl17⟩) (c17 : PySem.W.codeIn K cd17 "fewest_calls" = true) (k17 : PySem.W.keepIn K (.ref f17) = true)
    (a18 : PySem.W.nsIn K mainGlobals "must_call" = some (some (.ref f18))) (l18 : K.lookup f18 = some ⟨oc18, od18, .func (PySem.W.fnOf "must_call" "must_call" (defArgs (topS 33)) (defBody (topS 33)) (defScope (topS 33)) .none kV18 dc18 pm18 an18 cd18 ct18), sl18⟩) (c18 : PySem.W.codeIn K cd18 "must_call" = true) (k18 : PySem.W.keepIn K (.ref f18) = true)
    (a19 : PySem.W.nsIn K mainGlobals "can_without" = some (some (.ref f19))) (l19 : K.lookup f19 = some ⟨oc19, od19, .func (PySem.W.fnOf "can_without" "can_without" (defArgs (topS 34)) (defBody (topS 34)) (defScope (topS 34)) .none kV19 dc19 pm19 an19 cd19 ct19), sl19⟩) (c19 : PySem.W.codeIn K cd19 "can_without" = true) (k19 : PySem.W.keepIn K (.ref f19) = true)
    (a20 : PySem.W.nsIn K mainGlobals "count_right" = some (some (.ref f20))) (l20 : K.lookup f20 = some ⟨oc20, od20, .func (PySem.W.fnOf "count_right" "count_right" (defArgs (topS 35)) (defBody (topS 35)) (defScope (topS 35)) .none kV20 dc20 pm20 an20 cd20 ct20), sl20⟩) (c20 : PySem.W.codeIn K cd20 "count_right" = true) (k20 : PySem.W.keepIn K (.ref f20) = true)
    (a21 : PySem.W.nsIn K mainGlobals "needless_calls" = some (some (.ref f21))) (l21 : K.lookup f21 = some ⟨oc21, od21, .func (PySem.W.fnOf "needless_calls" "needless_calls" (defArgs (topS 36)) (defBody (topS 36)) (defScope (topS 36)) .none kV21 dc21 pm21 an21 cd21 ct21), sl21⟩) (c21 : PySem.W.codeIn K cd21 "needless_calls" = true) (k21 : PySem.W.keepIn K (.ref f21) = true)
    (a22 : PySem.W.nsIn K mainGlobals "walked" = some (some (.ref f22))) (l22 : K.lookup f22 = some ⟨oc22, od22, .func (PySem.W.fnOf "walked" "walked" (defArgs (topS 37)) (defBody (topS 37)) (defScope (topS 37)) .none kV22 dc22 pm22 an22 cd22 ct22), sl22⟩) (c22 : PySem.W.codeIn K cd22 "walked" = true) (k22 : PySem.W.keepIn K (.ref f22) = true)
    (a23 : PySem.W.nsIn K mainGlobals "same_rows" = some (some (.ref f23))) (l23 : K.lookup f23 = some ⟨oc23, od23, .func (PySem.W.fnOf "same_rows" "same_rows" (defArgs (topS 38)) (defBody (topS 38)) (defScope (topS 38)) .none kV23 dc23 pm23 an23 cd23 ct23), sl23⟩) (c23 : PySem.W.codeIn K cd23 "same_rows" = true) (k23 : PySem.W.keepIn K (.ref f23) = true)
    (a24 : PySem.W.nsIn K mainGlobals "mended" = some (some (.ref f24))) (l24 : K.lookup f24 = some ⟨oc24, od24, .func (PySem.W.fnOf "mended" "mended" (defArgs (topS 39)) (defBody (topS 39)) (defScope (topS 39)) .none kV24 dc24 pm24 an24 cd24 ct24), sl24⟩) (c24 : PySem.W.codeIn K cd24 "mended" = true) (k24 : PySem.W.keepIn K (.ref f24) = true)
    (a25 : PySem.W.nsIn K mainGlobals "_law_taken" = some (some (.ref f25))) (l25 : K.lookup f25 = some ⟨oc25, od25, .func (PySem.W.fnOf "_law_taken" "_law_taken" (defArgs (topS 41)) (defBody (topS 41)) (defScope (topS 41)) .none kV25 dc25 pm25 an25 cd25 ct25), sl25⟩) (c25 : PySem.W.codeIn K cd25 "_law_taken" = true) (k25 : PySem.W.keepIn K (.ref f25) = true)
    (a26 : PySem.W.nsIn K mainGlobals "_law_alike" = some (some (.ref f26))) (l26 : K.lookup f26 = some ⟨oc26, od26, .func (PySem.W.fnOf "_law_alike" "_law_alike" (defArgs (topS 42)) (defBody (topS 42)) (defScope (topS 42)) .none kV26 dc26 pm26 an26 cd26 ct26), sl26⟩) (c26 : PySem.W.codeIn K cd26 "_law_alike" = true) (k26 : PySem.W.keepIn K (.ref f26) = true)
    (a27 : PySem.W.nsIn K mainGlobals "_law_net" = some (some (.ref f27))) (l27 : K.lookup f27 = some ⟨oc27, od27, .func (PySem.W.fnOf "_law_net" "_law_net" (defArgs (topS 43)) (defBody (topS 43)) (defScope (topS 43)) .none kV27 dc27 pm27 an27 cd27 ct27), sl27⟩) (c27 : PySem.W.codeIn K cd27 "_law_net" = true) (k27 : PySem.W.keepIn K (.ref f27) = true)
    (a28 : PySem.W.nsIn K mainGlobals "_law_bits" = some (some (.ref f28))) (l28 : K.lookup f28 = some ⟨oc28, od28, .func (PySem.W.fnOf "_law_bits" "_law_bits" (defArgs (topS 44)) (defBody (topS 44)) (defScope (topS 44)) .none kV28 dc28 pm28 an28 cd28 ct28), sl28⟩) (c28 : PySem.W.codeIn K cd28 "_law_bits" = true) (k28 : PySem.W.keepIn K (.ref f28) = true)
    (a29 : PySem.W.nsIn K mainGlobals "_law_end" = some (some (.ref f29))) (l29 : K.lookup f29 = some ⟨oc29, od29, .func (PySem.W.fnOf "_law_end" "_law_end" (defArgs (topS 45)) (defBody (topS 45)) (defScope (topS 45)) .none kV29 dc29 pm29 an29 cd29 ct29), sl29⟩) (c29 : PySem.W.codeIn K cd29 "_law_end" = true) (k29 : PySem.W.keepIn K (.ref f29) = true)
    (a30 : PySem.W.nsIn K mainGlobals "_law_round" = some (some (.ref f30))) (l30 : K.lookup f30 = some ⟨oc30, od30, .func (PySem.W.fnOf "_law_round" "_law_round" (defArgs (topS 46)) (defBody (topS 46)) (defScope (topS 46)) .none kV30 dc30 pm30 an30 cd30 ct30), sl30⟩) (c30 : PySem.W.codeIn K cd30 "_law_round" = true) (k30 : PySem.W.keepIn K (.ref f30) = true)
    (a31 : PySem.W.nsIn K mainGlobals "_law_walk" = some (some (.ref f31))) (l31 : K.lookup f31 = some ⟨oc31, od31, .func (PySem.W.fnOf "_law_walk" "_law_walk" (defArgs (topS 47)) (defBody (topS 47)) (defScope (topS 47)) .none kV31 dc31 pm31 an31 cd31 ct31), sl31⟩) (c31 : PySem.W.codeIn K cd31 "_law_walk" = true) (k31 : PySem.W.keepIn K (.ref f31) = true)
    (a32 : PySem.W.nsIn K mainGlobals "_law_row" = some (some (.ref f32))) (l32 : K.lookup f32 = some ⟨oc32, od32, .func (PySem.W.fnOf "_law_row" "_law_row" (defArgs (topS 48)) (defBody (topS 48)) (defScope (topS 48)) .none kV32 dc32 pm32 an32 cd32 ct32), sl32⟩) (c32 : PySem.W.codeIn K cd32 "_law_row" = true) (k32 : PySem.W.keepIn K (.ref f32) = true)
    (a33 : PySem.W.nsIn K mainGlobals "_law_wrong" = some (some (.ref f33))) (l33 : K.lookup f33 = some ⟨oc33, od33, .func (PySem.W.fnOf "_law_wrong" "_law_wrong" (defArgs (topS 49)) (defBody (topS 49)) (defScope (topS 49)) .none kV33 dc33 pm33 an33 cd33 ct33), sl33⟩) (c33 : PySem.W.codeIn K cd33 "_law_wrong" = true) (k33 : PySem.W.keepIn K (.ref f33) = true)
    (a34 : PySem.W.nsIn K mainGlobals "law" = some (some (.ref f34))) (l34 : K.lookup f34 = some ⟨oc34, od34, .func (PySem.W.fnOf "law" "law" (defArgs (topS 50)) (defBody (topS 50)) (defScope (topS 50)) .none kV34 dc34 pm34 an34 cd34 ct34), sl34⟩) (c34 : PySem.W.codeIn K cd34 "law" = true) (k34 : PySem.W.keepIn K (.ref f34) = true)
    (z0 : PySem.W.nsIn K mainGlobals "isinstance" = some none)
    (z1 : PySem.W.nsIn K mainGlobals "int" = some none)
    (z2 : PySem.W.nsIn K mainGlobals "bool" = some none)
    (z3 : PySem.W.nsIn K mainGlobals "tuple" = some none)
    (z4 : PySem.W.nsIn K mainGlobals "list" = some none)
    (z5 : PySem.W.nsIn K mainGlobals "str" = some none)
    (z6 : PySem.W.nsIn K mainGlobals "set" = some none)
    (z7 : PySem.W.nsIn K mainGlobals "len" = some none)
    (z8 : PySem.W.nsIn K mainGlobals "range" = some none)
    (z9 : PySem.W.nsIn K mainGlobals "any" = some none)
    (z10 : PySem.W.nsIn K mainGlobals "all" = some none)
    (z11 : PySem.W.nsIn K mainGlobals "zip" = some none)
    (z12 : PySem.W.nsIn K mainGlobals "enumerate" = some none)
    (z13 : PySem.W.nsIn K mainGlobals "sorted" = some none)
    (g0 : PySem.W.nsIn K mainGlobals "MOST_INPUTS" = some (some (.int 3 t0)))
    (g1 : PySem.W.nsIn K mainGlobals "MOST_GATES" = some (some (.int 8 t1)))
    (g2 : PySem.W.nsIn K mainGlobals "MOST_CALLS" = some (some (.int 30 t2)))
    (g3 : PySem.W.nsIn K mainGlobals "MOST_STATES" = some (some (.int 5000 t3)))
    : ∃ fd : FuncData, (∀ (s : Shared) (v : Value), BindsTo s fd ⟨[v], []⟩ [("_law_script", v)]) ∧ ∀ base : Heap, K.In base → base.Ns mainGlobals mg → FnOk l.prog w K mg base CX0 7 fa fd ["_law_script"] (spLaw K) := by
  have e := hfa.symm.trans (PySem.W.mg_of X G a34)
  cases e
  have B : BI mg := { isinstance := PySem.W.mg_none_of X G z0, int := PySem.W.mg_none_of X G z1, bool := PySem.W.mg_none_of X G z2, tuple := PySem.W.mg_none_of X G z3, list := PySem.W.mg_none_of X G z4, str := PySem.W.mg_none_of X G z5, set := PySem.W.mg_none_of X G z6, len := PySem.W.mg_none_of X G z7, range := PySem.W.mg_none_of X G z8, any := PySem.W.mg_none_of X G z9, all := PySem.W.mg_none_of X G z10, zip := PySem.W.mg_none_of X G z11, enumerate := PySem.W.mg_none_of X G z12, sorted := PySem.W.mg_none_of X G z13 }
  have N : CI mg := { inputs := ⟨_, PySem.W.mg_of X G g0⟩, gates := ⟨_, PySem.W.mg_of X G g1⟩, calls := ⟨_, PySem.W.mg_of X G g2⟩, states := ⟨_, PySem.W.mg_of X G g3⟩ }
  have D0 : DefAt K mg "is_integer" (topS 1) ["value"] := ⟨f0, _, fun_mk (st := topS 1) l0 c0 k0, PySem.W.mg_of X G a0, (fun_mk (st := topS 1) l0 c0 k0).binds (ps := ["value"]) fun _ _ _ _ _ _ us hl => match us, hl with | [_], _ => rfl⟩
  have D1 : DefAt K mg "is_in" (topS 2) ["value", "least", "most"] := ⟨f1, _, fun_mk (st := topS 2) l1 c1 k1, PySem.W.mg_of X G a1, (fun_mk (st := topS 2) l1 c1 k1).binds (ps := ["value", "least", "most"]) fun _ _ _ _ _ _ us hl => match us, hl with | [_, _, _], _ => rfl⟩
  have D2 : DefAt K mg "is_list" (topS 3) ["value", "least", "most"] := ⟨f2, _, fun_mk (st := topS 3) l2 c2 k2, PySem.W.mg_of X G a2, (fun_mk (st := topS 3) l2 c2 k2).binds (ps := ["value", "least", "most"]) fun _ _ _ _ _ _ us hl => match us, hl with | [_, _, _], _ => rfl⟩
  have D3 : DefAt K mg "need_net" (topS 13) ["net"] := ⟨f3, _, fun_mk (st := topS 13) l3 c3 k3, PySem.W.mg_of X G a3, (fun_mk (st := topS 13) l3 c3 k3).binds (ps := ["net"]) fun _ _ _ _ _ _ us hl => match us, hl with | [_], _ => rfl⟩
  have D4 : DefAt K mg "size_of" (topS 14) ["net"] := ⟨f4, _, fun_mk (st := topS 14) l4 c4 k4, PySem.W.mg_of X G a4, (fun_mk (st := topS 14) l4 c4 k4).binds (ps := ["net"]) fun _ _ _ _ _ _ us hl => match us, hl with | [_], _ => rfl⟩
  have D5 : DefAt K mg "friends_in" (topS 15) ["net", "person"] := ⟨f5, _, fun_mk (st := topS 15) l5 c5 k5, PySem.W.mg_of X G a5, (fun_mk (st := topS 15) l5 c5 k5).binds (ps := ["net", "person"]) fun _ _ _ _ _ _ us hl => match us, hl with | [_, _], _ => rfl⟩
  have D6 : DefAt K mg "all_bits" (topS 16) ["inputs"] := ⟨f6, _, fun_mk (st := topS 16) l6 c6 k6, PySem.W.mg_of X G a6, (fun_mk (st := topS 16) l6 c6 k6).binds (ps := ["inputs"]) fun _ _ _ _ _ _ us hl => match us, hl with | [_], _ => rfl⟩
  have D7 : DefAt K mg "standing_in" (topS 18) ["net", "bits"] := ⟨f7, _, fun_mk (st := topS 18) l7 c7 k7, PySem.W.mg_of X G a7, (fun_mk (st := topS 18) l7 c7 k7).binds (ps := ["net", "bits"]) fun _ _ _ _ _ _ us hl => match us, hl with | [_, _], _ => rfl⟩
  have D8 : DefAt K mg "need_calls" (topS 21) ["net", "calls"] := ⟨f8, _, fun_mk (st := topS 21) l8 c8 k8, PySem.W.mg_of X G a8, (fun_mk (st := topS 21) l8 c8 k8).binds (ps := ["net", "calls"]) fun _ _ _ _ _ _ us hl => match us, hl with | [_, _], _ => rfl⟩
  have D9 : DefAt K mg "begin" (topS 22) ["net", "bits"] := ⟨f9, _, fun_mk (st := topS 22) l9 c9 k9, PySem.W.mg_of X G a9, (fun_mk (st := topS 22) l9 c9 k9).binds (ps := ["net", "bits"]) fun _ _ _ _ _ _ us hl => match us, hl with | [_, _], _ => rfl⟩
  have D10 : DefAt K mg "call_in" (topS 23) ["net", "state", "person"] := ⟨f10, _, fun_mk (st := topS 23) l10 c10 k10, PySem.W.mg_of X G a10, (fun_mk (st := topS 23) l10 c10 k10).binds (ps := ["net", "state", "person"]) fun _ _ _ _ _ _ us hl => match us, hl with | [_, _, _], _ => rfl⟩
  have D11 : DefAt K mg "begins" (topS 26) ["net"] := ⟨f11, _, fun_mk (st := topS 26) l11 c11 k11, PySem.W.mg_of X G a11, (fun_mk (st := topS 26) l11 c11 k11).binds (ps := ["net"]) fun _ _ _ _ _ _ us hl => match us, hl with | [_], _ => rfl⟩
  have D12 : DefAt K mg "goal_of" (topS 27) ["net"] := ⟨f12, _, fun_mk (st := topS 27) l12 c12 k12, PySem.W.mg_of X G a12, (fun_mk (st := topS 27) l12 c12 k12).binds (ps := ["net"]) fun _ _ _ _ _ _ us hl => match us, hl with | [_], _ => rfl⟩
  have D13 : DefAt K mg "all_call" (topS 28) ["net", "states", "person"] := ⟨f13, _, fun_mk (st := topS 28) l13 c13 k13, PySem.W.mg_of X G a13, (fun_mk (st := topS 28) l13 c13 k13).binds (ps := ["net", "states", "person"]) fun _ _ _ _ _ _ us hl => match us, hl with | [_, _, _], _ => rfl⟩
  have D14 : DefAt K mg "is_lost" (topS 29) ["states", "goal"] := ⟨f14, _, fun_mk (st := topS 29) l14 c14 k14, PySem.W.mg_of X G a14, (fun_mk (st := topS 29) l14 c14 k14).binds (ps := ["states", "goal"]) fun _ _ _ _ _ _ us hl => match us, hl with | [_, _], _ => rfl⟩
  have D15 : DefAt K mg "least_from" (topS 30) ["net", "first"] := ⟨f15, _, fun_mk (st := topS 30) l15 c15 k15, PySem.W.mg_of X G a15, (fun_mk (st := topS 30) l15 c15 k15).binds (ps := ["net", "first"]) fun _ _ _ _ _ _ us hl => match us, hl with | [_, _], _ => rfl⟩
  have D16 : DefAt K mg "least_right" (topS 31) ["net"] := ⟨f16, _, fun_mk (st := topS 31) l16 c16 k16, PySem.W.mg_of X G a16, (fun_mk (st := topS 31) l16 c16 k16).binds (ps := ["net"]) fun _ _ _ _ _ _ us hl => match us, hl with | [_], _ => rfl⟩
  have D17 : DefAt K mg "fewest_calls" (topS 32) ["net"] := ⟨f17, _, fun_mk (st := topS 32) l17 c17 k17, PySem.W.mg_of X G a17, (fun_mk (st := topS 32) l17 c17 k17).binds (ps := ["net"]) fun _ _ _ _ _ _ us hl => match us, hl with | [_], _ => rfl⟩
  have D18 : DefAt K mg "must_call" (topS 33) ["net"] := ⟨f18, _, fun_mk (st := topS 33) l18 c18 k18, PySem.W.mg_of X G a18, (fun_mk (st := topS 33) l18 c18 k18).binds (ps := ["net"]) fun _ _ _ _ _ _ us hl => match us, hl with | [_], _ => rfl⟩
  have D19 : DefAt K mg "can_without" (topS 34) ["net", "person"] := ⟨f19, _, fun_mk (st := topS 34) l19 c19 k19, PySem.W.mg_of X G a19, (fun_mk (st := topS 34) l19 c19 k19).binds (ps := ["net", "person"]) fun _ _ _ _ _ _ us hl => match us, hl with | [_, _], _ => rfl⟩
  have D20 : DefAt K mg "count_right" (topS 35) ["net", "many"] := ⟨f20, _, fun_mk (st := topS 35) l20 c20 k20, PySem.W.mg_of X G a20, (fun_mk (st := topS 35) l20 c20 k20).binds (ps := ["net", "many"]) fun _ _ _ _ _ _ us hl => match us, hl with | [_, _], _ => rfl⟩
  have D21 : DefAt K mg "needless_calls" (topS 36) ["net", "calls"] := ⟨f21, _, fun_mk (st := topS 36) l21 c21 k21, PySem.W.mg_of X G a21, (fun_mk (st := topS 36) l21 c21 k21).binds (ps := ["net", "calls"]) fun _ _ _ _ _ _ us hl => match us, hl with | [_, _], _ => rfl⟩
  have D22 : DefAt K mg "walked" (topS 37) ["net", "calls"] := ⟨f22, _, fun_mk (st := topS 37) l22 c22 k22, PySem.W.mg_of X G a22, (fun_mk (st := topS 37) l22 c22 k22).binds (ps := ["net", "calls"]) fun _ _ _ _ _ _ us hl => match us, hl with | [_, _], _ => rfl⟩
  have D23 : DefAt K mg "same_rows" (topS 38) ["net", "one", "other"] := ⟨f23, _, fun_mk (st := topS 38) l23 c23 k23, PySem.W.mg_of X G a23, (fun_mk (st := topS 38) l23 c23 k23).binds (ps := ["net", "one", "other"]) fun _ _ _ _ _ _ us hl => match us, hl with | [_, _, _], _ => rfl⟩
  have D24 : DefAt K mg "mended" (topS 39) ["net", "calls"] := ⟨f24, _, fun_mk (st := topS 39) l24 c24 k24, PySem.W.mg_of X G a24, (fun_mk (st := topS 39) l24 c24 k24).binds (ps := ["net", "calls"]) fun _ _ _ _ _ _ us hl => match us, hl with | [_, _], _ => rfl⟩
  have D25 : DefAt K mg "_law_taken" (topS 41) ["_law_row_here", "_law_many"] := ⟨f25, _, fun_mk (st := topS 41) l25 c25 k25, PySem.W.mg_of X G a25, (fun_mk (st := topS 41) l25 c25 k25).binds (ps := ["_law_row_here", "_law_many"]) fun _ _ _ _ _ _ us hl => match us, hl with | [_, _], _ => rfl⟩
  have D26 : DefAt K mg "_law_alike" (topS 42) ["_law_found", "_law_due"] := ⟨f26, _, fun_mk (st := topS 42) l26 c26 k26, PySem.W.mg_of X G a26, (fun_mk (st := topS 42) l26 c26 k26).binds (ps := ["_law_found", "_law_due"]) fun _ _ _ _ _ _ us hl => match us, hl with | [_, _], _ => rfl⟩
  have D27 : DefAt K mg "_law_net" (topS 43) ["_law_row_here", "_law_most"] := ⟨f27, _, fun_mk (st := topS 43) l27 c27 k27, PySem.W.mg_of X G a27, (fun_mk (st := topS 43) l27 c27 k27).binds (ps := ["_law_row_here", "_law_most"]) fun _ _ _ _ _ _ us hl => match us, hl with | [_, _], _ => rfl⟩
  have D28 : DefAt K mg "_law_bits" (topS 44) ["_law_size"] := ⟨f28, _, fun_mk (st := topS 44) l28 c28 k28, PySem.W.mg_of X G a28, (fun_mk (st := topS 44) l28 c28 k28).binds (ps := ["_law_size"]) fun _ _ _ _ _ _ us hl => match us, hl with | [_], _ => rfl⟩
  have D29 : DefAt K mg "_law_end" (topS 45) ["_law_net_here", "_law_bits_here"] := ⟨f29, _, fun_mk (st := topS 45) l29 c29 k29, PySem.W.mg_of X G a29, (fun_mk (st := topS 45) l29 c29 k29).binds (ps := ["_law_net_here", "_law_bits_here"]) fun _ _ _ _ _ _ us hl => match us, hl with | [_, _], _ => rfl⟩
  have D30 : DefAt K mg "_law_round" (topS 46) ["_law_net_here", "_law_state", "_law_some"] := ⟨f30, _, fun_mk (st := topS 46) l30 c30 k30, PySem.W.mg_of X G a30, (fun_mk (st := topS 46) l30 c30 k30).binds (ps := ["_law_net_here", "_law_state", "_law_some"]) fun _ _ _ _ _ _ us hl => match us, hl with | [_, _, _], _ => rfl⟩
  have D31 : DefAt K mg "_law_walk" (topS 47) ["_law_net_here", "_law_bits_here", "_law_calls"] := ⟨f31, _, fun_mk (st := topS 47) l31 c31 k31, PySem.W.mg_of X G a31, (fun_mk (st := topS 47) l31 c31 k31).binds (ps := ["_law_net_here", "_law_bits_here", "_law_calls"]) fun _ _ _ _ _ _ us hl => match us, hl with | [_, _, _], _ => rfl⟩
  have D32 : DefAt K mg "_law_row" (topS 48) ["_law_row_here", "_law_net_here", "_law_most"] := ⟨f32, _, fun_mk (st := topS 48) l32 c32 k32, PySem.W.mg_of X G a32, (fun_mk (st := topS 48) l32 c32 k32).binds (ps := ["_law_row_here", "_law_net_here", "_law_most"]) fun _ _ _ _ _ _ us hl => match us, hl with | [_, _, _], _ => rfl⟩
  have D33 : DefAt K mg "_law_wrong" (topS 49) ["_law_net_here", "_law_calls"] := ⟨f33, _, fun_mk (st := topS 49) l33 c33 k33, PySem.W.mg_of X G a33, (fun_mk (st := topS 49) l33 c33 k33).binds (ps := ["_law_net_here", "_law_calls"]) fun _ _ _ _ _ _ us hl => match us, hl with | [_, _], _ => rfl⟩
  refine ⟨PySem.W.fnOf "law" "law" (defArgs (topS 50)) (defBody (topS 50)) (defScope (topS 50)) .none kV34 dc34 pm34 an34 cd34 ct34, fun s v => .of_eq rfl, fun base _ _ => ?_⟩
  exact ok_law B (lc_of B N D0 D1 D2 D3 D4 D5 D6 D7 D8 D9 D10 D11 D12 D13 D14 D15 D16 D17 D18 D19 D20 D21 D22 D23 D24 D25 D26 D27 D28 D29 D30 D31 D32 D33) (fun_mk (st := topS 50) l34 c34 k34)
theorem walk {l : PySem.W.OpenLaw} {q : Program} {loose : List Str} {XP : (Str → Option Value) → Heap → Prop} {YP : World → Heap → Prop} {d : DefRec} {K : Params → PySem.W.Frag} (hn : l.most = some 63) (hdf : d.params.defaults = [])
    (hY : ∀ (w : World) (h : Heap), YP w h → (K w.params).In h)
    (F : ∀ (w : World) (mg : Str → Option Value) (fa : Addr) (h : Heap), (K w.params).In h → h.Ns mainGlobals mg → mg d.name = some (.ref fa) →
      ∃ fd : FuncData, (∀ (s : Shared) (u : Value), BindsTo s fd ⟨[u], []⟩ [("_law_script", u)]) ∧ ∀ base : Heap, (K w.params).In base → base.Ns mainGlobals mg → FnOk l.prog w (K w.params) mg base CX0 7 fa fd ["_law_script"] (spLaw (K w.params))) :
    PySem.W.WalkO q loose XP YP l.row.toRowW d [] (fun f vs => PySem.call f vs) :=
  L2.walk_of (n := 63) (k := 7) (x := "_law_script") (CX := fun _ => CX0) (sp := fun w => spLaw (K w.params)) hn (by decide) hdf ⟨rfl, by decide, by decide⟩ hY F (fun _ _ a ns hl _ hS => ⟨a, ns, rfl, hS, hl, fun _ => rfl⟩) fun _ _ _ _ _ z => z
end SG
set_option Elab.async false
set_option linter.all false
open PySem PySem.W PyProof.Rows in
set_option maxRecDepth 100000 in
set_option maxHeartbeats 0 in
theorem PySem.Challenge.cw_standgates_k05_whole_least_rows_holds : PySem.Challenge.rw_standgates_k05_whole_least_rows.Holds := by
  w_on; o_law; k_head; (case hw => w_witness2)
  k_fill
  refine SG.walk (l := PySem.Challenge.rw_standgates_k05_whole_least_rows) rfl rfl (fun w h Y => PySem.W.kIn_of Y) ?F
  case F =>
    intro w mg fa h KX G hmg
    refine' SG.all_mk KX G hmg ?a0 ?l0 ?c0 ?k0 ?a1 ?l1 ?c1 ?k1 ?a2 ?l2 ?c2 ?k2 ?a3 ?l3 ?c3 ?k3 ?a4 ?l4 ?c4 ?k4 ?a5 ?l5 ?c5 ?k5 ?a6 ?l6 ?c6 ?k6 ?a7 ?l7 ?c7 ?k7 ?a8 ?l8 ?c8 ?k8 ?a9 ?l9 ?c9 ?k9 ?a10 ?l10 ?c10 ?k10 ?a11 ?l11 ?c11 ?k11 ?a12 ?l12 ?c12 ?k12 ?a13 ?l13 ?c13 ?k13 ?a14 ?l14 ?c14 ?k14 ?a15 ?l15 ?c15 ?k15 ?a16 ?l16 ?c16 ?k16 ?a17 ?l17 ?c17 ?k17 ?a18 ?l18 ?c18 ?k18 ?a19 ?l19 ?c19 ?k19 ?a20 ?l20 ?c20 ?k20 ?a21 ?l21 ?c21 ?k21 ?a22 ?l22 ?c22 ?k22 ?a23 ?l23 ?c23 ?k23 ?a24 ?l24 ?c24 ?k24 ?a25 ?l25 ?c25 ?k25 ?a26 ?l26 ?c26 ?k26 ?a27 ?l27 ?c27 ?k27 ?a28 ?l28 ?c28 ?k28 ?a29 ?l29 ?c29 ?k29 ?a30 ?l30 ?c30 ?k30 ?a31 ?l31 ?c31 ?k31 ?a32 ?l32 ?c32 ?k32 ?a33 ?l33 ?c33 ?k33 ?a34 ?l34 ?c34 ?k34 ?z0 ?z1 ?z2 ?z3 ?z4 ?z5 ?z6 ?z7 ?z8 ?z9 ?z10 ?z11 ?z12 ?z13 ?num0 ?num1 ?num2 ?num3
    (case a0 => k_is)
    (case l0 => k_is)
    (case c0 => k_is)
    (case k0 => k_is)
    (case a1 => k_is)
    (case l1 => k_is)
    (case c1 => k_is)
    (case k1 => k_is)
    (case a2 => k_is)
    (case l2 => k_is)
    (case c2 => k_is)
    (case k2 => k_is)
    (case a3 => k_is)
    (case l3 => k_is)
    (case c3 => k_is)
    (case k3 => k_is)
    (case a4 => k_is)
    (case l4 => k_is)
    (case c4 => k_is)
    (case k4 => k_is)
    (case a5 => k_is)
    (case l5 => k_is)
    (case c5 => k_is)
    (case k5 => k_is)
    (case a6 => k_is)
    (case l6 => k_is)
    (case c6 => k_is)
    (case k6 => k_is)
    (case a7 => k_is)
    (case l7 => k_is)
    (case c7 => k_is)
    (case k7 => k_is)
    (case a8 => k_is)
    (case l8 => k_is)
    (case c8 => k_is)
    (case k8 => k_is)
    (case a9 => k_is)
    (case l9 => k_is)
    (case c9 => k_is)
    (case k9 => k_is)
    (case a10 => k_is)
    (case l10 => k_is)
    (case c10 => k_is)
    (case k10 => k_is)
    (case a11 => k_is)
    (case l11 => k_is)
    (case c11 => k_is)
    (case k11 => k_is)
    (case a12 => k_is)
    (case l12 => k_is)
    (case c12 => k_is)
    (case k12 => k_is)
    (case a13 => k_is)
    (case l13 => k_is)
    (case c13 => k_is)
    (case k13 => k_is)
    (case a14 => k_is)
    (case l14 => k_is)
    (case c14 => k_is)
    (case k14 => k_is)
    (case a15 => k_is)
    (case l15 => k_is)
    (case c15 => k_is)
    (case k15 => k_is)
    (case a16 => k_is)
    (case l16 => k_is)
    (case c16 => k_is)
    (case k16 => k_is)
    (case a17 => k_is)
    (case l17 => k_is)
    (case c17 => k_is)
    (case k17 => k_is)
    (case a18 => k_is)
    (case l18 => k_is)
    (case c18 => k_is)
    (case k18 => k_is)
    (case a19 => k_is)
    (case l19 => k_is)
    (case c19 => k_is)
    (case k19 => k_is)
    (case a20 => k_is)
    (case l20 => k_is)
    (case c20 => k_is)
    (case k20 => k_is)
    (case a21 => k_is)
    (case l21 => k_is)
    (case c21 => k_is)
    (case k21 => k_is)
    (case a22 => k_is)
    (case l22 => k_is)
    (case c22 => k_is)
    (case k22 => k_is)
    (case a23 => k_is)
    (case l23 => k_is)
    (case c23 => k_is)
    (case k23 => k_is)
    (case a24 => k_is)
    (case l24 => k_is)
    (case c24 => k_is)
    (case k24 => k_is)
    (case a25 => k_is)
    (case l25 => k_is)
    (case c25 => k_is)
    (case k25 => k_is)
    (case a26 => k_is)
    (case l26 => k_is)
    (case c26 => k_is)
    (case k26 => k_is)
    (case a27 => k_is)
    (case l27 => k_is)
    (case c27 => k_is)
    (case k27 => k_is)
    (case a28 => k_is)
    (case l28 => k_is)
    (case c28 => k_is)
    (case k28 => k_is)
    (case a29 => k_is)
    (case l29 => k_is)
    (case c29 => k_is)
    (case k29 => k_is)
    (case a30 => k_is)
    (case l30 => k_is)
    (case c30 => k_is)
    (case k30 => k_is)
    (case a31 => k_is)
    (case l31 => k_is)
    (case c31 => k_is)
    (case k31 => k_is)
    (case a32 => k_is)
    (case l32 => k_is)
    (case c32 => k_is)
    (case k32 => k_is)
    (case a33 => k_is)
    (case l33 => k_is)
    (case c33 => k_is)
    (case k33 => k_is)
    (case a34 => k_is)
    (case l34 => k_is)
    (case c34 => k_is)
    (case k34 => k_is)
    (case z0 => k_is)
    (case z1 => k_is)
    (case z2 => k_is)
    (case z3 => k_is)
    (case z4 => k_is)
    (case z5 => k_is)
    (case z6 => k_is)
    (case z7 => k_is)
    (case z8 => k_is)
    (case z9 => k_is)
    (case z10 => k_is)
    (case z11 => k_is)
    (case z12 => k_is)
    (case z13 => k_is)
    (case num0 => k_is)
    (case num1 => k_is)
    (case num2 => k_is)
    (case num3 => k_is)
