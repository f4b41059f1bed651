import PyProof.Rows.All
import Wide.All
import OpenK.AllK
import Wide.FinOn
import HandS.Base
import HandS.Call
import HandS.List
import HandS.Comp
import HandS.Ends
import HandS.Words
import HandS.Zip
import HandS.WideBits
import HandS.TupMul
import HandS.TupLe
import HandS.TupAny
import HandS.Style
import HandS.TupSets
import HandS.SortOrd
import KE.KeyNested
import HandS.Conv
import HandS.IsInst
import HandS.Iter
import HandS.Star
import KE.GoesEnum
import KE.GoesMore
import KE.DataMinMax
import KE.SortData
import HandS.SlotsOwn
import HandS.More
import HandS.Dict
import HandS.DictComp
import HandS.Flow
import HandS.CallRecv
import KE.KUnpackStar
import HandS.Deep
import HandS.SetFor
import KE.DataEq
import KE.SortCalls
import PyProof.TupleOfSeq
import HandS.GenList
import HandS.Small
import KE.KTupSum
import KE.KDictKeyed
import KE.KDictCopyH
import KE.KDictWalk
import KE.KDictOf
import KE.KDictDisplayH
import KE.KExcSuper
import HandS.ExcSuper
import HandS.ExcInit
import HandS.ExcInitHot
import HandS.WideMore
import HandS.ExcIs
import KE.KExcIs
import HandS.ExcField
import HandS.Lambda
import HandS.EndTab
import KE.KNestM
import KE.KIndexOf
import HandS.SetFor
import HandS.Codes
import HandS.Replace
import PyProof.StrOps2
import HandS.ExcValue
import HandS.Strs
import HandS.Property
import HandS.ClsMeth
import HandS.More
import HandS.ListItems
import KE.KItemsList
import KE.KDictList
import KE.KDictZip
import PyProof.TupleOfStr
import KE.GoesZip
import PySem.Challenge.RW_maskgroups_k09_all_tests_of_a_group
set_option Elab.async false
set_option linter.all false
set_option maxRecDepth 100000
set_option maxHeartbeats 8000000
namespace ML
open PySem PySem.Spec PyProof.Rows L2

structure Sl where
  p : Hp → V → Prop
  mono : ∀ {F F' : Hp} {v : V}, Same F F' → p F v → p F' v
structure Cl where
  p : Hp → HO → Prop
  mono : ∀ {F F' : Hp} {o : HO}, Same F F' → p F o → p F' o
abbrev Cells := List (Addr × Cl)
abbrev Gam := List (Option Sl)
abbrev Tms := List (V × Sl)
structure Wd where
  F : Hp
  B : Hp
structure Core (W : Wd) (F : Hp) (cs : Cells) (H : Hp) : Prop where
  f0 : Same W.F F
  fh : Same F H
  bh : Same W.B H
  bf : ∀ a o, W.B a = some o → F a = none
  nd : (cs.map (·.1)).Nodup
  cell : ∀ x ∈ cs, F x.1 = none ∧ W.B x.1 = none ∧ ∃ o, H x.1 = some o ∧ x.2.p F o
def Slots (F : Hp) (G : Gam) (s : L2.St) : Prop := s.length = G.length ∧ ∀ (i : Nat) (sl : Sl), G[i]? = some (some sl) → ∃ v, s[i]? = some (some v) ∧ sl.p F v
def Temps (F : Hp) (T : Tms) : Prop := ∀ x ∈ T, x.2.p F x.1
def Sta (W : Wd) (G : Gam) (T : Tms) (cs : Cells) (s : L2.St) (H : Hp) : Prop := ∃ F, Core W F cs H ∧ Slots F G s ∧ Temps F T
def Exit (W : Wd) (sl : Sl) (cs : Cells) (v : V) (H : Hp) : Prop := ∃ F, Core W F cs H ∧ sl.p F v

theorem Slots.mono {F F' : Hp} {G : Gam} {s : L2.St} (e : Same F F') (h : Slots F G s) : Slots F' G s :=
  ⟨h.1, fun i sl hi => let ⟨v, h1, h2⟩ := h.2 i sl hi; ⟨v, h1, sl.mono e h2⟩⟩
theorem Temps.mono {F F' : Hp} {T : Tms} (e : Same F F') (h : Temps F T) : Temps F' T := fun x hx => x.2.mono e (h x hx)
theorem Temps.cons {F : Hp} {T : Tms} {v : V} {sl : Sl} (h1 : sl.p F v) (h : Temps F T) : Temps F ((v, sl) :: T) := fun x hx => by
  rcases List.mem_cons.mp hx with e | e
  · subst e; exact h1
  · exact h x e
theorem Temps.tail {F : Hp} {T : Tms} {x : V × Sl} (h : Temps F (x :: T)) : Temps F T := fun y hy => h y (List.mem_cons_of_mem _ hy)
theorem Temps.head {F : Hp} {T : Tms} {v : V} {sl : Sl} (h : Temps F ((v, sl) :: T)) : sl.p F v := h (v, sl) List.mem_cons_self
theorem Temps.nil {F : Hp} : Temps F [] := fun x hx => absurd hx (by simp)
theorem Sta.pop {W G T cs s H} {x : V × Sl} (h : Sta W G (x :: T) cs s H) : Sta W G T cs s H := let ⟨F, a, b, c⟩ := h; ⟨F, a, b, c.tail⟩
theorem Sta.push {W G T cs s H} {v : V} {sl : Sl} (h : Sta W G T cs s H) (hs : ∀ F, sl.p F v) : Sta W G ((v, sl) :: T) cs s H := let ⟨F, a, b, c⟩ := h; ⟨F, a, b, c.cons (hs F)⟩
theorem Sta.clear {W G T cs s H} (h : Sta W G T cs s H) : Sta W G [] cs s H := let ⟨F, a, b, c⟩ := h; ⟨F, a, b, Temps.nil⟩
theorem Sta.top {W G T cs s H} {v : V} {sl : Sl} (h : Sta W G ((v, sl) :: T) cs s H) : ∃ F, Core W F cs H ∧ Slots F G s ∧ sl.p F v ∧ Temps F T := let ⟨F, a, b, c⟩ := h; ⟨F, a, b, c.head, c.tail⟩

theorem same_upd {H : Hp} {p : Addr} {o : HO} (h : H p = none) : Same H (upd H p o) := fun b x e => by
  rw [upd_ne (ne_of_none e h)]
  exact e
theorem Core.new {W F cs H} (h : Core W F cs H) {p : Addr} {o : HO} (hp : H p = none) : Core W (upd F p o) cs (upd H p o) := by
  have fp : F p = none := h.fh.free hp
  have sF : Same F (upd F p o) := same_upd fp
  have sH : Same H (upd H p o) := same_upd hp
  refine ⟨h.f0.trans sF, fun b u e => ?_, h.bh.trans sH, fun a u e => ?_, h.nd, fun x hx => ?_⟩
  · by_cases hb : b = p
    · subst hb; rw [upd_same] at e ⊢; exact e
    · rw [upd_ne hb] at e ⊢; exact h.fh b u e
  · have : a ≠ p := fun z => by subst z; have := h.bh _ _ e; rw [hp] at this; cases this
    rw [upd_ne this]; exact h.bf a u e
  · obtain ⟨h1, h2, u, h3, h4⟩ := h.cell x hx
    have : x.1 ≠ p := ne_of_none h3 hp
    exact ⟨by rw [upd_ne this]; exact h1, h2, u, sH _ _ h3, x.2.mono sF h4⟩
theorem Core.newCell {W F cs H} (h : Core W F cs H) {p : Addr} {o : HO} {c : Cl} (hp : H p = none) (hc : c.p F o) : Core W F (cs ++ [(p, c)]) (upd H p o) := by
  have fp : F p = none := h.fh.free hp
  have sH : Same H (upd H p o) := same_upd hp
  have np : ∀ x ∈ cs, x.1 ≠ p := fun x hx => let ⟨_, _, u, h3, _⟩ := h.cell x hx; ne_of_none h3 hp
  refine ⟨h.f0, h.fh.trans sH, h.bh.trans sH, h.bf, ?_, fun x hx => ?_⟩
  · rw [List.map_append, List.nodup_append]
    refine ⟨h.nd, by simp, fun a ha b hb e => ?_⟩
    have eb : b = p := by simpa using hb
    obtain ⟨x, hx, ex⟩ := List.mem_map.mp ha
    exact np x hx (by rw [ex, e, eb])
  · rcases List.mem_append.mp hx with hx | hx
    · obtain ⟨h1, h2, u, h3, h4⟩ := h.cell x hx
      exact ⟨h1, h2, u, sH _ _ h3, h4⟩
    · have e : x = (p, c) := by simpa using hx
      subst e
      exact ⟨fp, h.bh.free hp, o, upd_same, hc⟩
theorem _root_.List.Nodup.getElem?_inj_of {α : Type} {l : List α} (nd : l.Nodup) {i j : Nat} (hi : i < l.length) (e : l[i]? = l[j]?) : i = j := (List.getElem?_inj hi nd).mp e
theorem nodup_at {cs : Cells} (nd : (cs.map (·.1)).Nodup) {j : Nat} {p : Addr} {c : Cl} (hj : cs[j]? = some (p, c)) {i : Nat} {x : Addr × Cl} (hi : cs[i]? = some x) (hne : i ≠ j) : x.1 ≠ p := by
  intro e
  have h1 : (cs.map (·.1))[i]? = some p := by rw [List.getElem?_map, hi]; simp [e]
  have h2 : (cs.map (·.1))[j]? = some p := by rw [List.getElem?_map, hj]; rfl
  have hl := (List.getElem?_eq_some_iff.mp h1).1
  exact hne (nd.getElem?_inj_of hl (h1.trans h2.symm))
theorem map_set_fst (cs : Cells) (j : Nat) (p : Addr) (c c' : Cl) (hj : cs[j]? = some (p, c)) : (cs.set j (p, c')).map (·.1) = cs.map (·.1) := by
  apply List.ext_getElem?
  intro i
  rw [List.getElem?_map, List.getElem?_map, List.getElem?_set]
  by_cases e : j = i
  · subst e
    have := (List.getElem?_eq_some_iff.mp hj).1
    rw [if_pos rfl, if_pos this, hj]
    rfl
  · rw [if_neg e]
theorem Core.write {W F cs H} (h : Core W F cs H) {j : Nat} {p : Addr} {c c' : Cl} {o : HO} (hj : cs[j]? = some (p, c)) (hc : c'.p F o) : Core W F (cs.set j (p, c')) (upd H p o) := by
  obtain ⟨h1, h2, u, h3, h4⟩ := h.cell (p, c) (List.mem_of_getElem? hj)
  have nF : ∀ b u, F b = some u → b ≠ p := fun b u e z => by subst z; rw [h1] at e; cases e
  have nB : ∀ b u, W.B b = some u → b ≠ p := fun b u e z => by subst z; rw [h2] at e; cases e
  refine ⟨h.f0, fun b u e => ?_, fun b u e => ?_, h.bf, ?_, fun x hx => ?_⟩
  · rw [upd_ne (nF b u e)]; exact h.fh b u e
  · rw [upd_ne (nB b u e)]; exact h.bh b u e
  · rw [map_set_fst cs j p c c' hj]; exact h.nd
  · obtain ⟨i, hi⟩ := List.mem_iff_getElem?.mp hx
    rw [List.getElem?_set] at hi
    by_cases e : j = i
    · subst e
      have hl := (List.getElem?_eq_some_iff.mp hj).1
      rw [if_pos rfl, if_pos hl] at hi
      have e2 := (Option.some.inj hi).symm
      subst e2
      exact ⟨h1, h2, o, upd_same, hc⟩
    · rw [if_neg e] at hi
      have ne := nodup_at h.nd hj hi (Ne.symm e)
      obtain ⟨a1, a2, w, a3, a4⟩ := h.cell x (List.mem_of_getElem? hi)
      exact ⟨a1, a2, w, by rw [upd_ne ne]; exact a3, a4⟩
theorem Core.freeze {W F cs H} (h : Core W F cs H) {j : Nat} {p : Addr} {c : Cl} (hj : cs[j]? = some (p, c)) : ∃ o F', H p = some o ∧ c.p F' o ∧ F' p = some o ∧ Same F F' ∧ Core W F' (cs.eraseIdx j) H := by
  obtain ⟨h1, h2, u, h3, h4⟩ := h.cell (p, c) (List.mem_of_getElem? hj)
  have sF : Same F (upd F p u) := same_upd h1
  have nB : ∀ b o, W.B b = some o → b ≠ p := fun b o e z => by subst z; rw [h2] at e; cases e
  refine ⟨u, upd F p u, h3, c.mono sF h4, upd_same, sF, h.f0.trans sF, fun b o e => ?_, h.bh, fun a o e => ?_, ?_, fun x hx => ?_⟩
  · by_cases hb : b = p
    · subst hb; rw [upd_same] at e; cases e; exact h3
    · rw [upd_ne hb] at e; exact h.fh b o e
  · rw [upd_ne (nB a o e)]; exact h.bf a o e
  · have : (cs.eraseIdx j).map (·.1) = (cs.map (·.1)).eraseIdx j := by
      apply List.ext_getElem?
      intro i
      rw [List.getElem?_map, List.getElem?_eraseIdx, List.getElem?_eraseIdx]
      split <;> rw [List.getElem?_map]
    rw [this]
    exact h.nd.sublist (List.eraseIdx_sublist _ _)
  · obtain ⟨i, hi⟩ := List.mem_iff_getElem?.mp hx
    have ne : x.1 ≠ p := by
      rw [List.getElem?_eraseIdx] at hi
      split at hi
      · rename_i hlt; exact nodup_at h.nd hj hi (by omega)
      · rename_i hlt; exact nodup_at h.nd hj hi (by omega)
    obtain ⟨a1, a2, w, a3, a4⟩ := h.cell x (List.mem_of_mem_eraseIdx hx)
    exact ⟨by rw [upd_ne ne]; exact a1, a2, w, a3, x.2.mono sF a4⟩
theorem Core.drop {W F cs cs' H} (h : Core W F cs H) (hs : cs'.Sublist cs) : Core W F cs' H :=
  ⟨h.f0, h.fh, h.bh, h.bf, h.nd.sublist (hs.map _), fun x hx => h.cell x (hs.subset hx)⟩

structure R (α : Type) where
  p : α → Hp → V → Prop
  mono : ∀ {a : α} {F F' : Hp} {v : V}, Same F F' → p a F v → p a F' v
def R.at {α : Type} (r : R α) (a : α) : Sl := ⟨r.p a, r.mono⟩
def rInt : R Int := ⟨fun i _ v => v = .int i, fun _ h => h⟩
def rBool : R Bool := ⟨fun b _ v => v = .bl b, fun _ h => h⟩
def rStr : R Str := ⟨fun x _ v => v = .str x, fun _ h => h⟩
def rNon : R Unit := ⟨fun _ _ v => v = .non, fun _ h => h⟩
def rOpt {α : Type} (r : R α) : R (Option α) := ⟨fun a F v => match a with | none => v = .non | some x => r.p x F v, fun {a} _ _ _ e h => by
  cases a with
  | none => exact h
  | some x => exact r.mono e h⟩
inductive All2 {α β : Type} (P : α → β → Prop) : List α → List β → Prop
  | nil : All2 P [] []
  | cons {a b l m} : P a b → All2 P l m → All2 P (a :: l) (b :: m)
theorem All2.imp {α β : Type} {P Q : α → β → Prop} (f : ∀ a b, P a b → Q a b) : ∀ {l m}, All2 P l m → All2 Q l m
  | _, _, .nil => .nil
  | _, _, .cons h t => .cons (f _ _ h) (All2.imp f t)
theorem All2.length {α β : Type} {P : α → β → Prop} : ∀ {l : List α} {m : List β}, All2 P l m → l.length = m.length
  | _, _, .nil => rfl
  | _, _, .cons _ t => by rw [List.length_cons, List.length_cons, All2.length t]
theorem All2.get {α β : Type} {P : α → β → Prop} : ∀ {l : List α} {m : List β} {i : Nat} {a : α}, All2 P l m → l[i]? = some a → ∃ b, m[i]? = some b ∧ P a b
  | _, _, _, _, .nil, h => by simp at h
  | _, _, 0, _, .cons q t, h => by simp at h; subst h; exact ⟨_, rfl, q⟩
  | _, _, i + 1, a, .cons q t, h => by
    obtain ⟨b, h1, h2⟩ := All2.get (i := i) (a := a) t (by simpa using h)
    exact ⟨b, by simpa using h1, h2⟩
theorem All2.get' {α β : Type} {P : α → β → Prop} : ∀ {l : List α} {m : List β} {i : Nat} {b : β}, All2 P l m → m[i]? = some b → ∃ a, l[i]? = some a ∧ P a b
  | _, _, _, _, .nil, h => by simp at h
  | _, _, 0, _, .cons q t, h => by simp at h; subst h; exact ⟨_, rfl, q⟩
  | _, _, i + 1, a, .cons q t, h => by
    obtain ⟨b, h1, h2⟩ := All2.get' (i := i) (b := a) t (by simpa using h)
    exact ⟨b, by simpa using h1, h2⟩
theorem All2.app {α β : Type} {P : α → β → Prop} : ∀ {l l' : List α} {m m' : List β}, All2 P l m → All2 P l' m' → All2 P (l ++ l') (m ++ m')
  | _, _, _, _, .nil, h => h
  | _, _, _, _, .cons q t, h => .cons q (All2.app t h)
theorem All2.take {α β : Type} {P : α → β → Prop} : ∀ {l : List α} {m : List β} (n : Nat), All2 P l m → All2 P (l.take n) (m.take n)
  | _, _, 0, _ => by simp; exact .nil
  | _, _, n + 1, .nil => .nil
  | _, _, n + 1, .cons q t => .cons q (All2.take n t)
theorem All2.drop {α β : Type} {P : α → β → Prop} : ∀ {l : List α} {m : List β} (n : Nat), All2 P l m → All2 P (l.drop n) (m.drop n)
  | _, _, 0, h => h
  | _, _, n + 1, .nil => .nil
  | _, _, n + 1, .cons q t => All2.drop n t
theorem All2.set {α β : Type} {P : α → β → Prop} {a : α} {b : β} (q : P a b) : ∀ {l : List α} {m : List β} (n : Nat), All2 P l m → All2 P (l.set n a) (m.set n b)
  | _, _, _, .nil => .nil
  | _, _, 0, .cons _ t => .cons q t
  | _, _, n + 1, .cons z t => .cons z (All2.set q n t)
def TupA (F : Hp) (a : Addr) (vs : List V) : Prop := F a = some (.tup vs) ∨ ∃ o : Obj, F a = some (.frz o (.tup vs)) ∧ o.dict = none
theorem TupA.mono {F G : Hp} {a : Addr} {vs : List V} (e : Same F G) (h : TupA F a vs) : TupA G a vs := h.elim (fun h => .inl (e _ _ h)) fun ⟨o, h, d⟩ => .inr ⟨o, e _ _ h, d⟩
theorem TupA.sq {K : PySem.W.Frag} {F H : Hp} {a : Addr} {vs : List V} (e : Same F H) (h : TupA F a vs) : SqT K H a vs := h.elim (fun h => SqT.of (e _ _ h)) fun ⟨o, h, _⟩ => .inl (.inr ⟨o, e _ _ h⟩)
theorem TupA.rd {F H : Hp} {a : Addr} {vs : List V} (e : Same F H) (h : TupA F a vs) : Rd H a (.tup vs) := h.elim (fun h => .inl (e _ _ h)) fun ⟨o, h, _⟩ => .inr ⟨o, e _ _ h⟩
theorem TupA.eq {F : Hp} {a : Addr} {us vs : List V} (h : TupA F a us) (g : TupA F a vs) : us = vs := by
  rcases h with h | ⟨o, h, _⟩ <;> rcases g with g | ⟨o', g, _⟩ <;> rw [h] at g <;> cases g <;> rfl
def rTup {α : Type} (r : R α) : R (List α) := ⟨fun xs F v => xs.length ≤ sizeLine ∧ ∃ a vs, v = .ref a ∧ TupA F a vs ∧ All2 (fun x u => r.p x F u) xs vs,
  fun {_ _ _ _} e ⟨h0, a, vs, h1, h2, h3⟩ => ⟨h0, a, vs, h1, h2.mono e, h3.imp fun _ _ q => r.mono e q⟩⟩
def rLst {α : Type} (r : R α) : R (List α) := ⟨fun xs F v => xs.length ≤ sizeLine ∧ ∃ a vs, v = .ref a ∧ F a = some (.lst vs) ∧ All2 (fun x u => r.p x F u) xs vs,
  fun {_ _ _ _} e ⟨h0, a, vs, h1, h2, h3⟩ => ⟨h0, a, vs, h1, e _ _ h2, h3.imp fun _ _ q => r.mono e q⟩⟩
def rPair {α β : Type} (r : R α) (q : R β) : R (α × β) := ⟨fun x F v => ∃ a u w, v = .ref a ∧ TupA F a [u, w] ∧ r.p x.1 F u ∧ q.p x.2 F w,
  fun {_ _ _ _} e ⟨a, u, w, h1, h2, h3, h4⟩ => ⟨a, u, w, h1, h2.mono e, r.mono e h3, q.mono e h4⟩⟩
def sRef (p : Addr) : Sl := ⟨fun _ v => v = .ref p, fun _ h => h⟩
def cLst {α : Type} (r : R α) (xs : List α) : Cl := ⟨fun F o => xs.length ≤ sizeLine ∧ ∃ vs, o = .lst vs ∧ All2 (fun x u => r.p x F u) xs vs, fun {_ _ _} e ⟨h0, vs, h1, h2⟩ => ⟨h0, vs, h1, h2.imp fun _ _ q => r.mono e q⟩⟩

def Ev (te : TE) (W : Wd) (G : Gam) (T : Tms) (cs : Cells) (K : Sl → Cells → Prop) : Prop :=
  ∀ s H, Sta W G T cs s H → ∀ Q : VK, (∀ sl cs', K sl cs' → ∀ v H', Sta W G ((v, sl) :: T) cs' s H' → Q v H') → te s H Q
def Et (tt : TT) (W : Wd) (G : Gam) (T : Tms) (cs : Cells) (K : Bool → Cells → Prop) : Prop :=
  ∀ s H, Sta W G T cs s H → ∀ Q : Bool → Hp → Prop, (∀ b cs', K b cs' → ∀ H', Sta W G T cs' s H' → Q b H') → tt s H Q
def Args (F : Hp) : List Sl → List V → Prop := All2 (fun sl v => sl.p F v)
def EvA (ta : TA) (W : Wd) (G : Gam) (T : Tms) (cs : Cells) (K : List Sl → Cells → Prop) : Prop :=
  ∀ s H, Sta W G T cs s H → ∀ Q : List V → Hp → Prop, (∀ sls cs', K sls cs' → ∀ vs H', (∃ F, Core W F cs' H' ∧ Slots F G s ∧ Temps F T ∧ Args F sls vs) → Q vs H') → ta s H Q
def Nx (P : L2.St → Hp → Prop) (W : Wd) (G : Gam) (cs : Cells) : Prop := ∀ s H, Sta W G [] cs s H → P s H
def Rt (P : VK) (W : Wd) (sl : Sl) (cs : Cells) : Prop := ∀ v H, Exit W sl cs v H → P v H

section
variable {W : Wd} {G : Gam} {T : Tms} {cs : Cells} {K : Sl → Cells → Prop} {KB : Bool → Cells → Prop} {ta tb tc : TE} {tt tu : TT}
theorem Ev.imp {K' : Sl → Cells → Prop} (h : Ev ta W G T cs K) (f : ∀ sl cs', K sl cs' → K' sl cs') : Ev ta W G T cs K' := fun s H st Q q => h s H st Q fun sl cs' k => q sl cs' (f sl cs' k)
theorem Et.imp {K' : Bool → Cells → Prop} (h : Et tt W G T cs KB) (f : ∀ b cs', KB b cs' → K' b cs') : Et tt W G T cs K' := fun s H st Q q => h s H st Q fun b cs' k => q b cs' (f b cs' k)
theorem int_top {v : V} {i : Int} {s H} (h : Sta W G ((v, rInt.at i) :: T) cs s H) : v = .int i := let ⟨_, _, _, h, _⟩ := h.top; h
theorem bool_top {v : V} {i : Bool} {s H} (h : Sta W G ((v, rBool.at i) :: T) cs s H) : v = .bl i := let ⟨_, _, _, h, _⟩ := h.top; h
theorem e_var {i : Nat} {sl : Sl} (hi : G[i]? = some (some sl)) (k : K sl cs) : Ev (tVar i) W G T cs K := fun s H st Q q => by
  obtain ⟨F, c, sg, t⟩ := st
  obtain ⟨v, h1, h2⟩ := sg.2 i sl hi
  exact ⟨v, h1, q sl cs k v H ⟨F, c, sg, t.cons h2⟩⟩
theorem e_int {i : Int} (k : K (rInt.at i) cs) : Ev (tC (.int i)) W G T cs K := fun s H st Q q => q _ cs k _ H (st.push fun _ => rfl)
theorem e_bl {i : Bool} (k : K (rBool.at i) cs) : Ev (tC (.bl i)) W G T cs K := fun s H st Q q => q _ cs k _ H (st.push fun _ => rfl)
theorem e_non (k : K (rNon.at ()) cs) : Ev (tC .non) W G T cs K := fun s H st Q q => q _ cs k _ H (st.push fun _ => rfl)

theorem e_opI0 {g : Int → Int → Int} (ha : Ev ta W G T cs fun sa cs1 => ∃ i, sa = rInt.at i ∧ Ev tb W G T cs1 fun sb cs2 => ∃ j, sb = rInt.at j ∧ K (rInt.at (g i j)) cs2) :
    Ev (tOp (rI0 fun i j => .int (g i j)) ta tb) W G T cs K := fun s H st Q q => by
  refine ha s H st _ fun sa cs1 ⟨i, e, hb⟩ va H1 st1 => ?_
  subst e
  refine hb s H1 st1.pop _ fun sb cs2 ⟨j, e, k⟩ vb H2 st2 => ?_
  subst e
  exact ⟨i, j, int_top st1, int_top st2, q _ _ k _ H2 (st2.pop.push fun _ => rfl)⟩
theorem e_opB0 {g : Int → Int → Bool} (ha : Ev ta W G T cs fun sa cs1 => ∃ i, sa = rInt.at i ∧ Ev tb W G T cs1 fun sb cs2 => ∃ j, sb = rInt.at j ∧ K (rBool.at (g i j)) cs2) :
    Ev (tOp (rI0 fun i j => .bl (g i j)) ta tb) W G T cs K := fun s H st Q q => by
  refine ha s H st _ fun sa cs1 ⟨i, e, hb⟩ va H1 st1 => ?_
  subst e
  refine hb s H1 st1.pop _ fun sb cs2 ⟨j, e, k⟩ vb H2 st2 => ?_
  subst e
  exact ⟨i, j, int_top st1, int_top st2, q _ _ k _ H2 (st2.pop.push fun _ => rfl)⟩
theorem e_opO {C : Int → Int → Prop} {g : Int → Int → Int} {o : Int → Int → Option Int} (ho : ∀ i j t, o i j = some t → C i j ∧ t = g i j)
    (ha : Ev ta W G T cs fun sa cs1 => ∃ i, sa = rInt.at i ∧ Ev tb W G T cs1 fun sb cs2 => ∃ j t, sb = rInt.at j ∧ o i j = some t ∧ K (rInt.at t) cs2) :
    Ev (tOp (rI C fun i j => .int (g i j)) ta tb) W G T cs K := fun s H st Q q => by
  refine ha s H st _ fun sa cs1 ⟨i, e, hb⟩ va H1 st1 => ?_
  subst e
  refine hb s H1 st1.pop _ fun sb cs2 ⟨j, t, e, et, k⟩ vb H2 st2 => ?_
  subst e
  obtain ⟨hc, e⟩ := ho i j t et
  subst e
  exact ⟨i, j, int_top st1, int_top st2, hc, q _ _ k _ H2 (st2.pop.push fun _ => rfl)⟩
theorem e_un {g : Int → Int} (ha : Ev ta W G T cs fun sa cs1 => ∃ i, sa = rInt.at i ∧ K (rInt.at (g i)) cs1) : Ev (tUn (rU fun i => .int (g i)) ta) W G T cs K := fun s H st Q q => by
  refine ha s H st _ fun sa cs1 ⟨i, e, k⟩ va H1 st1 => ?_
  subst e
  exact ⟨i, int_top st1, q _ _ k _ H1 (st1.pop.push fun _ => rfl)⟩
theorem e_eqI (ha : Ev ta W G T cs fun sa cs1 => ∃ i, sa = rInt.at i ∧ Ev tb W G T cs1 fun sb cs2 => ∃ j, sb = rInt.at j ∧ K (rBool.at (decide (i = j))) cs2) :
    Ev (tOp rEq ta tb) W G T cs K := fun s H st Q q => by
  refine ha s H st _ fun sa cs1 ⟨i, e, hb⟩ va H1 st1 => ?_
  subst e
  refine hb s H1 st1.pop _ fun sb cs2 ⟨j, e, k⟩ vb H2 st2 => ?_
  subst e
  rw [int_top st1, int_top st2]
  refine ⟨rfl, q _ _ k _ H2 (st2.pop.push fun _ => ?_)⟩
  show V.bl _ = V.bl _
  congr 1
  simp
theorem e_neI (ha : Ev ta W G T cs fun sa cs1 => ∃ i, sa = rInt.at i ∧ Ev tb W G T cs1 fun sb cs2 => ∃ j, sb = rInt.at j ∧ K (rBool.at (!decide (i = j))) cs2) :
    Ev (tOp rNe ta tb) W G T cs K := fun s H st Q q => by
  refine ha s H st _ fun sa cs1 ⟨i, e, hb⟩ va H1 st1 => ?_
  subst e
  refine hb s H1 st1.pop _ fun sb cs2 ⟨j, e, k⟩ vb H2 st2 => ?_
  subst e
  rw [int_top st1, int_top st2]
  refine ⟨rfl, q _ _ k _ H2 (st2.pop.push fun _ => ?_)⟩
  show V.bl _ = V.bl _
  congr 1
  simp

theorem t_val (ha : Ev ta W G T cs fun sa cs1 => ∃ b, sa = rBool.at b ∧ KB b cs1) : Et (tB ta) W G T cs KB := fun s H st Q q => by
  refine ha s H st _ fun sa cs1 ⟨b, e, k⟩ va H1 st1 => ?_
  subst e
  exact ⟨b, bool_top st1, q b cs1 k H1 st1.pop⟩
theorem t_test (ha : Ev ta W G T cs fun sa cs1 => ∃ b, sa = rBool.at b ∧ KB b cs1) : Et (tTest ta) W G T cs KB := fun s H st Q q => by
  refine ha s H st _ fun sa cs1 ⟨b, e, k⟩ va H1 st1 => ?_
  subst e
  exact ⟨b, bool_top st1, q b cs1 k H1 st1.pop⟩
theorem t_not (ha : Et tt W G T cs fun b cs1 => KB (!b) cs1) : Et (tNot tt) W G T cs KB := fun s H st Q q => ha s H st _ fun b cs1 k H1 st1 => q (!b) cs1 k H1 st1
theorem t_and {c : Bool} {d : Bool} {cs' : Cells} (ha : Et tt W G T cs fun b cs1 => b = c ∧ (c = true → Et tu W G T cs1 fun b2 cs2 => b2 = d ∧ cs2 = cs') ∧ (c = false → d = false ∧ cs1 = cs')) (k : KB d cs') : Et (tAnd tt tu) W G T cs KB := fun s H st Q q => by
  refine ha s H st _ fun b cs1 ⟨e, h1, h2⟩ H1 st1 => ?_
  subst e
  cases b with
  | true => rw [if_pos rfl]; exact h1 rfl s H1 st1 _ fun b2 cs2 ⟨e1, e2⟩ H2 st2 => by subst e1 e2; exact q _ _ k H2 st2
  | false => rw [if_neg Bool.false_ne_true]; obtain ⟨e1, e2⟩ := h2 rfl; subst e1 e2; exact q _ _ k H1 st1
theorem t_or {c : Bool} {d : Bool} {cs' : Cells} (ha : Et tt W G T cs fun b cs1 => b = c ∧ (c = false → Et tu W G T cs1 fun b2 cs2 => b2 = d ∧ cs2 = cs') ∧ (c = true → d = true ∧ cs1 = cs')) (k : KB d cs') : Et (tOr tt tu) W G T cs KB := fun s H st Q q => by
  refine ha s H st _ fun b cs1 ⟨e, h1, h2⟩ H1 st1 => ?_
  subst e
  cases b with
  | false => rw [if_neg Bool.false_ne_true]; exact h1 rfl s H1 st1 _ fun b2 cs2 ⟨e1, e2⟩ H2 st2 => by subst e1 e2; exact q _ _ k H2 st2
  | true => rw [if_pos rfl]; obtain ⟨e1, e2⟩ := h2 rfl; subst e1 e2; exact q _ _ k H1 st1
theorem e_and {c : Bool} {d : Bool} {cs' : Cells} (ha : Ev ta W G T cs fun sa cs1 => sa = rBool.at c ∧ (c = true → Ev tb W G T cs1 fun sb cs2 => sb = rBool.at d ∧ cs2 = cs') ∧ (c = false → d = false ∧ cs1 = cs')) (k : K (rBool.at d) cs') : Ev (tAndV ta tb) W G T cs K := fun s H st Q q => by
  refine ha s H st _ fun sa cs1 ⟨e, h1, h2⟩ va H1 st1 => ?_
  subst e
  refine ⟨c, bool_top st1, ?_⟩
  cases c with
  | true => rw [if_pos rfl]; exact h1 rfl s H1 st1.pop _ fun sb cs2 ⟨e1, e2⟩ vb H2 st2 => by subst e1 e2; exact q _ _ k _ H2 st2
  | false => rw [if_neg Bool.false_ne_true]; obtain ⟨e1, e2⟩ := h2 rfl; subst e1 e2; exact q _ _ k _ H1 (st1.pop.push fun _ => rfl)
theorem e_not (ha : Ev ta W G T cs fun sa cs1 => ∃ b, sa = rBool.at b ∧ K (rBool.at (!b)) cs1) : Ev (tNotV ta) W G T cs K := fun s H st Q q => by
  refine ha s H st _ fun sa cs1 ⟨b, e, k⟩ va H1 st1 => ?_
  subst e
  exact ⟨b, bool_top st1, q _ _ k _ H1 (st1.pop.push fun _ => rfl)⟩
theorem e_if {c : Bool} {sl : Sl} {cs' : Cells} (ht : Et tt W G T cs fun b cs1 => b = c ∧ (c = true → Ev ta W G T cs1 fun sa cs2 => sa = sl ∧ cs2 = cs') ∧ (c = false → Ev tb W G T cs1 fun sb cs2 => sb = sl ∧ cs2 = cs')) (k : K sl cs') : Ev (tIf tt ta tb) W G T cs K := fun s H st Q q => by
  refine ht s H st _ fun b cs1 ⟨e, h1, h2⟩ H1 st1 => ?_
  subst e
  cases b with
  | true => rw [if_pos rfl]; exact h1 rfl s H1 st1 _ fun sb cs2 ⟨e1, e2⟩ vb H2 st2 => by subst e1 e2; exact q _ _ k _ H2 st2
  | false => rw [if_neg Bool.false_ne_true]; exact h2 rfl s H1 st1 _ fun sb cs2 ⟨e1, e2⟩ vb H2 st2 => by subst e1 e2; exact q _ _ k _ H2 st2

theorem ea_nil {K : List Sl → Cells → Prop} (k : K [] cs) : EvA tNil W G T cs K := fun s H ⟨F, c, sg, t⟩ Q q => q [] cs k [] H ⟨F, c, sg, t, .nil⟩
theorem ea_cons {K : List Sl → Cells → Prop} {tr : TA} (ha : Ev ta W G T cs fun sa cs1 => ∀ va, EvA tr W G ((va, sa) :: T) cs1 fun sls cs2 => K (sa :: sls) cs2) : EvA (tCons ta tr) W G T cs K := fun s H st Q q => by
  refine ha s H st _ fun sa cs1 h1 va H1 st1 => ?_
  refine h1 va s H1 st1 _ fun sls cs2 k vs H2 ⟨F, c, sg, t, ar⟩ => ?_
  exact q _ _ k _ H2 ⟨F, c, sg, t.tail, .cons t.head ar⟩
end
end ML

namespace ML
open PySem PySem.Spec PyProof.Rows L2

section
variable {W : Wd} {G G' : Gam} {T : Tms} {cs : Cells} {K : Sl → Cells → Prop} {KB : Bool → Cells → Prop} {ta tb tc te : TE} {tt tu : TT} {D : Ends} {t1 t2 : TS} {α β γ ρ : Type}

variable {nx bk ct : L2.St → Hp → Prop} {rt : VK}
def NxT (P : L2.St → Hp → Prop) (W : Wd) (G : Gam) (T : Tms) (cs : Cells) : Prop := ∀ s H, Sta W G T cs s H → P s H
theorem s_seq (h : NxT (t1 ⟨t2 ⟨nx, rt, bk, ct⟩, rt, bk, ct⟩) W G T cs) : NxT (tSeq t1 t2 ⟨nx, rt, bk, ct⟩) W G T cs := h
theorem s_next (h : NxT nx W G T cs) : NxT (tNext ⟨nx, rt, bk, ct⟩) W G T cs := h
theorem Slots.set {F : Hp} {s : L2.St} {i : Nat} {v : V} {sl : Sl} (h : Slots F G s) (hv : sl.p F v) : Slots F (G.set i (some sl)) (s.set i (some v)) := by
  refine ⟨by rw [List.length_set, List.length_set]; exact h.1, fun j sl' hj => ?_⟩
  rw [List.getElem?_set] at hj ⊢
  by_cases e : i = j
  · subst e
    rw [if_pos rfl] at hj ⊢
    split at hj
    · rename_i hl
      cases hj
      rw [if_pos (by rw [h.1]; exact hl)]
      exact ⟨v, rfl, hv⟩
    · cases hj
  · rw [if_neg e] at hj ⊢
    exact h.2 j sl' hj
theorem s_set {i : Nat} (h : Ev te W G T cs fun sl cs1 => NxT nx W (G.set i (some sl)) T cs1) : NxT (tAsg te (gName i) ⟨nx, rt, bk, ct⟩) W G T cs := fun s H st => by
  refine h s H st _ fun sl cs1 k v H1 ⟨F, c, sg, t⟩ => ?_
  exact k _ H1 ⟨F, c, sg.set t.head, t.tail⟩
theorem s_drop (h : Ev te W G T cs fun _ cs1 => NxT nx W G T cs1) : NxT (tDrop te ⟨nx, rt, bk, ct⟩) W G T cs := fun s H st => by
  refine h s H st _ fun sl cs1 k v H1 st1 => ?_
  exact k _ H1 st1.pop
theorem s_ret (h : Ev te W G T cs fun sl cs1 => Rt rt W sl cs1) : NxT (tRet te ⟨nx, rt, bk, ct⟩) W G T cs := fun s H st => by
  refine h s H st _ fun sl cs1 k v H1 ⟨F, c, sg, t⟩ => ?_
  exact k _ H1 ⟨F, c, t.head⟩
theorem Rt.imp {P : VK} {sl sl' : Sl} (h : Rt P W sl cs) (f : ∀ F v, sl'.p F v → sl.p F v) : Rt P W sl' cs := fun v H ⟨F, c, q⟩ => h v H ⟨F, c, f _ _ q⟩
theorem Rt.drop {P : VK} {sl : Sl} {cs' : Cells} (h : Rt P W sl cs) (hs : cs.Sublist cs') : Rt P W sl cs' := fun v H ⟨F, c, q⟩ => h v H ⟨F, c.drop hs, q⟩
theorem s_if (h : Et tt W G T cs fun b cs1 => (b = true → NxT (t1 D) W G T cs1) ∧ (b = false → NxT (t2 D) W G T cs1)) : NxT (tIfS tt t1 t2 D) W G T cs := fun s H st => by
  refine h s H st _ fun b cs1 ⟨k1, k2⟩ H1 st1 => ?_
  cases b with
  | true => rw [if_pos rfl]; exact k1 rfl s H1 st1
  | false => rw [if_neg Bool.false_ne_true]; exact k2 rfl s H1 st1
def Wkn : Gam → Gam → Prop
  | [], [] => True
  | _ :: g, none :: g' => Wkn g g'
  | some a :: g, some b :: g' => a = b ∧ Wkn g g'
  | _, _ => False
theorem Wkn.get : ∀ {g g' : Gam}, Wkn g g' → g.length = g'.length ∧ ∀ (i : Nat) (sl : Sl), g'[i]? = some (some sl) → g[i]? = some (some sl)
  | [], [], _ => ⟨rfl, fun _ _ h => h⟩
  | [], none :: _, h => h.elim
  | [], some _ :: _, h => h.elim
  | none :: _, [], h => h.elim
  | some _ :: _, [], h => h.elim
  | none :: g, some _ :: _, h => h.elim
  | x :: g, none :: g', h => by
    have h' : Wkn g g' := by cases x <;> exact h
    obtain ⟨h1, h2⟩ := Wkn.get h'
    refine ⟨by rw [List.length_cons, List.length_cons, h1], fun i sl hi => ?_⟩
    cases i with
    | zero => simp at hi
    | succ i => simpa using h2 i sl (by simpa using hi)
  | some a :: g, some b :: g', ⟨e, h⟩ => by
    subst e
    obtain ⟨h1, h2⟩ := Wkn.get h
    refine ⟨by rw [List.length_cons, List.length_cons, h1], fun i sl hi => ?_⟩
    cases i with
    | zero => exact hi
    | succ i => simpa using h2 i sl (by simpa using hi)
theorem Slots.weak {F : Hp} {s : L2.St} (w : Wkn G G') (h : Slots F G s) : Slots F G' s := by
  obtain ⟨h1, h2⟩ := w.get
  exact ⟨h.1.trans h1, fun i sl hi => h.2 i sl (h2 i sl hi)⟩
theorem s_weak {P : L2.St → Hp → Prop} {cs' : Cells} (w : Wkn G G') (hs : cs'.Sublist cs) (h : NxT P W G' T cs') : NxT P W G T cs := fun s H ⟨F, c, sg, t⟩ => h s H ⟨F, c.drop hs, sg.weak w, t⟩
theorem s_freeze {P : L2.St → Hp → Prop} {r : R α} {xs : List α} {p : Addr} (i j : Nat) (hi : G[i]? = some (some (sRef p))) (hj : cs[j]? = some (p, cLst r xs)) (h : NxT P W (G.set i (some ((rLst r).at xs))) T (cs.eraseIdx j)) : NxT P W G T cs := fun s H ⟨F, c, sg, t⟩ => by
  obtain ⟨o, F', h1, ⟨hz, vs, e, h2⟩, h3, sF, c'⟩ := c.freeze hj
  subst e
  obtain ⟨v, hv, ev⟩ := sg.2 i _ hi
  have hs : s = s.set i (some v) := by
    apply List.ext_getElem?
    intro k
    rw [List.getElem?_set]
    split
    · rename_i e; subst e; split
      · exact hv
      · rename_i hn; rw [List.getElem?_eq_none (by omega)]
    · rfl
  have ev' : v = .ref p := ev
  refine h s H ⟨F', c', ?_, t.mono sF⟩
  rw [hs]
  exact (sg.mono sF).set ⟨hz, p, vs, ev', h3, h2⟩

theorem wipe_get (s : L2.St) (j : Nat) : ∀ vs : List Nat, (wipe s vs)[j]? = if j ∈ vs then (if j < s.length then some none else none) else s[j]?
  | [] => by simp [wipe]
  | v :: vs => by
    unfold wipe
    rw [List.getElem?_set, wipe_get s j vs, wipe_length]
    by_cases e : v = j
    · subst e; simp
    · rw [if_neg e]
      have : (j ∈ v :: vs) ↔ j ∈ vs := by simp [Ne.symm e]
      simp only [this]
theorem wipe_set (s : L2.St) (i : Nat) (x : Option V) (vs : List Nat) (h : i ∈ vs) : wipe (s.set i x) vs = wipe s vs := by
  apply List.ext_getElem?
  intro j
  rw [wipe_get, wipe_get, List.length_set, List.getElem?_set]
  by_cases e : i = j
  · subst e; simp [h]
  · rw [if_neg e]
theorem wipe_wipe (s : L2.St) (vs : List Nat) : wipe (wipe s vs) vs = wipe s vs := by
  apply List.ext_getElem?
  intro j
  rw [wipe_get, wipe_get, wipe_length]
  by_cases e : j ∈ vs <;> simp [e]
def wipeG (G : Gam) : List Nat → Gam
  | [] => G
  | v :: vs => (wipeG G vs).set v none
theorem Slots.wipe {F : Hp} {s : L2.St} (h : Slots F G s) : ∀ vs : List Nat, Slots F (wipeG G vs) (L2.wipe s vs)
  | [] => h
  | v :: vs => by
    have ih := Slots.wipe h vs
    refine ⟨by unfold wipeG L2.wipe; rw [List.length_set, List.length_set]; exact ih.1, fun j sl hj => ?_⟩
    unfold wipeG at hj
    unfold L2.wipe
    rw [List.getElem?_set] at hj ⊢
    by_cases e : v = j
    · subst e; rw [if_pos rfl] at hj; split at hj <;> cases hj
    · rw [if_neg e] at hj ⊢; exact ih.2 j sl hj
def Tg (g : TG) (is : List Nat) (W : Wd) (G : Gam) (T : Tms) (cs : Cells) (sl : Sl) (K : Gam → Prop) : Prop :=
  ∀ v s H, Sta W G ((v, sl) :: T) cs s H → ∀ Q : L2.St → Hp → Prop, (∀ G', K G' → ∀ s', Sta W G' T cs s' H → (∀ vs : List Nat, (∀ i ∈ is, i ∈ vs) → wipe s' vs = wipe s vs) → Q s' H) → g v s H Q
theorem g_name {i : Nat} {sl : Sl} {K : Gam → Prop} (k : K (G.set i (some sl))) : Tg (gName i) [i] W G T cs sl K := fun v s H ⟨F, c, sg, t⟩ Q q =>
  q _ k _ ⟨F, c, sg.set t.head, t.tail⟩ fun vs h => wipe_set s i _ vs (h i (by simp))
theorem g_pair {KF : PySem.W.Frag} {i j : Nat} {r : R α} {q : R β} {x : α × β} {K : Gam → Prop} (k : K ((G.set i (some (r.at x.1))).set j (some (q.at x.2)))) : Tg (gTup KF 2 (gCons (gName i) (gCons (gName j) gNil))) [i, j] W G T cs ((rPair r q).at x) K := fun v s H ⟨F, c, sg, t⟩ Q k' => by
  obtain ⟨a, u, w, h1, h2, h3, h4⟩ := t.head
  refine ⟨a, [u, w], h1, TupA.sq c.fh h2, rfl, u, [w], rfl, w, [], rfl, rfl, ?_⟩
  refine k' _ k _ ⟨F, c, (sg.set h3).set h4, t.tail⟩ fun vs h => ?_
  rw [wipe_set _ j _ vs (h j (by simp)), wipe_set _ i _ vs (h i (by simp))]
structure Wk (J : It) (W : Wd) (T0 : Tms) (items : List Sl) : Prop where
  go : ∀ i F H cs, i < items.length → Core W F cs H → Temps F T0 → J.go i H
  yld : ∀ i F H cs x H' sl, items[i]? = some sl → Core W F cs H → Temps F T0 → J.yld i H x H' → ∃ F', Core W F' cs H' ∧ Same F F' ∧ sl.p F' x
  stop : ∀ F H cs, Core W F cs H → Temps F T0 → J.stop items.length H
def EvI (wi : TI) (W : Wd) (G : Gam) (T : Tms) (cs : Cells) (K : List Sl → Cells → Prop) : Prop :=
  ∀ s H, Sta W G T cs s H → ∀ R : It → Hp → Prop, (∀ J T0 items cs', K items cs' → items.length ≤ sizeLine → (∀ B, Wk J ⟨W.F, B⟩ T0 items) → ∀ H', Sta W G (T0 ++ T) cs' s H' → R J H') → wi s H R
def EvIB (wi : TI) (W : Wd) (G : Gam) (T : Tms) (cs : Cells) (K : List Sl → Cells → Prop) : Prop :=
  ∀ s H, Sta W G T cs s H → ∀ R : It → Hp → Prop, (∀ J T0 items cs', K items cs' → items.length ≤ sizeLine → (∀ B, Same W.B B → Wk J ⟨W.F, B⟩ T0 items) → ∀ H', Sta W G (T0 ++ T) cs' s H' → R J H') → wi s H R
theorem EvI.toB {wi : TI} {W : Wd} {G : Gam} {T : Tms} {cs : Cells} {K : List Sl → Cells → Prop} (h : EvI wi W G T cs K) : EvIB wi W G T cs K := fun s H st R q => h s H st R fun J T0 items cs' k hz wk H' st' => q J T0 items cs' k hz (fun B _ => wk B) H' st'
theorem Temps.app {F : Hp} {T0 T : Tms} (h0 : Temps F T0) (h : Temps F T) : Temps F (T0 ++ T) := fun x hx => (List.mem_append.mp hx).elim (h0 x) (h x)
theorem Temps.left {F : Hp} {T0 T : Tms} (h : Temps F (T0 ++ T)) : Temps F T0 := fun x hx => h x (List.mem_append_left _ hx)
theorem Temps.right {F : Hp} {T0 T : Tms} (h : Temps F (T0 ++ T)) : Temps F T := fun x hx => h x (List.mem_append_right _ hx)
theorem Core.B {F : Hp} {H : Hp} (h : Core W F cs H) (B : Hp) (h1 : Same B H) (h2 : ∀ a o, B a = some o → F a = none) (h3 : ∀ x ∈ cs, B x.1 = none) : Core ⟨W.F, B⟩ F cs H :=
  ⟨h.f0, h.fh, h1, h2, h.nd, fun x hx => ⟨(h.cell x hx).1, h3 x hx, (h.cell x hx).2.2⟩⟩
theorem i_tup {KF : PySem.W.Frag} {KI : List Sl → Cells → Prop} (h : Ev te W G T cs fun sl cs1 => ∃ (α : Type) (r : R α) (xs : List α), sl = (rTup r).at xs ∧ KI (xs.map r.at) cs1) : EvI (iTup KF te) W G T cs KI := fun s H st R q => by
  refine h s H st _ fun sl cs1 ⟨α, r, xs, e, k⟩ v H1 st1 => ?_
  subst e
  obtain ⟨F, c, sg, t⟩ := id st1
  obtain ⟨hz, a, vs, rfl, hF, hA⟩ := t.head
  refine ⟨a, rfl, ⟨vs, TupA.sq c.fh hF⟩, q _ [(V.ref a, (rTup r).at xs)] _ cs1 k (by rw [List.length_map]; exact hz) (fun B => ?_) H1 st1⟩
  have get : ∀ (F : Hp), Temps F [(V.ref a, (rTup r).at xs)] → ∃ us, TupA F a us ∧ All2 (fun x u => r.p x F u) xs us := fun F t => by
    obtain ⟨_, a', us, e, h1, h2⟩ := t.head
    cases e
    exact ⟨us, h1, h2⟩
  refine ⟨fun i F H cs hi c t => ?_, fun i F H cs x H' sl hi c t y => ?_, fun F H cs c t => ?_⟩
  · obtain ⟨us, h1, h2⟩ := get F t
    rw [List.length_map] at hi
    obtain ⟨u, h3, _⟩ := h2.get (List.getElem?_eq_getElem hi)
    exact ⟨us, u, TupA.sq c.fh h1, h3⟩
  · obtain ⟨us, h1, h2⟩ := get F t
    obtain ⟨e, y⟩ := y
    subst e
    have y' := y us (TupA.sq c.fh h1)
    rw [List.getElem?_map] at hi
    obtain ⟨z, hz', ez⟩ := h2.get' y'
    rw [hz'] at hi
    cases hi
    exact ⟨F, c, Same.refl F, ez⟩
  · obtain ⟨us, h1, h2⟩ := get F t
    exact ⟨us, TupA.sq c.fh h1, by rw [List.length_map, ← h2.length]; exact Nat.le_refl _⟩
theorem i_lst {KF : PySem.W.Frag} {KI : List Sl → Cells → Prop} (h : Ev te W G T cs fun sl cs1 => ∃ (α : Type) (r : R α) (xs : List α), sl = (rLst r).at xs ∧ KI (xs.map r.at) cs1) : EvI (iList KF te) W G T cs KI := fun s H st R q => by
  refine h s H st _ fun sl cs1 ⟨α, r, xs, e, k⟩ v H1 st1 => ?_
  subst e
  obtain ⟨F, c, sg, t⟩ := id st1
  obtain ⟨hz, a, vs, rfl, hF, hA⟩ := t.head
  refine ⟨a, rfl, ⟨vs, SqL.of (c.fh _ _ hF)⟩, q _ [(V.ref a, (rLst r).at xs)] _ cs1 k (by rw [List.length_map]; exact hz) (fun B => ?_) H1 st1⟩
  have get : ∀ (F : Hp), Temps F [(V.ref a, (rLst r).at xs)] → ∃ us, F a = some (.lst us) ∧ All2 (fun x u => r.p x F u) xs us := fun F t => by
    obtain ⟨_, a', us, e, h1, h2⟩ := t.head
    cases e
    exact ⟨us, h1, h2⟩
  refine ⟨fun i F H cs hi c t => ?_, fun i F H cs x H' sl hi c t y => ?_, fun F H cs c t => ?_⟩
  · obtain ⟨us, h1, h2⟩ := get F t
    rw [List.length_map] at hi
    obtain ⟨u, h3, _⟩ := h2.get (List.getElem?_eq_getElem hi)
    exact ⟨us, u, SqL.of (c.fh _ _ h1), h3⟩
  · obtain ⟨us, h1, h2⟩ := get F t
    obtain ⟨e, y⟩ := y
    subst e
    have y' := y us (SqL.of (c.fh _ _ h1))
    rw [List.getElem?_map] at hi
    obtain ⟨z, hz', ez⟩ := h2.get' y'
    rw [hz'] at hi
    cases hi
    exact ⟨F, c, Same.refl F, ez⟩
  · obtain ⟨us, h1, h2⟩ := get F t
    exact ⟨us, SqL.of (c.fh _ _ h1), by rw [List.length_map, ← h2.length]; exact Nat.le_refl _⟩
def rangeI (lo hi : Int) : List Int := (List.range (hi - lo).toNat).map fun (k : Nat) => lo + (k : Int)
theorem wk_range (lo : Int) (n : Nat) (B : Hp) : Wk (Itr lo n) ⟨W.F, B⟩ [] (((List.range n).map fun (k : Nat) => lo + (k : Int)).map rInt.at) := by
  refine ⟨fun i F H cs hi c t => by show i < n; simpa using hi, fun i F H cs x H' sl hi c t y => ?_, fun F H cs c t => by show n ≤ _; simp⟩
  obtain ⟨e, y⟩ := y
  subst e
  rw [List.getElem?_map, List.getElem?_map] at hi
  refine ⟨F, c, Same.refl F, ?_⟩
  by_cases hl : i < n
  · rw [List.getElem?_range hl] at hi
    cases hi
    exact y
  · rw [List.getElem?_eq_none (by simp; omega)] at hi
    cases hi
def small62 (i : Int) : Prop := -(2 ^ 62) ≤ i ∧ i < 2 ^ 62
instance {i : Int} : Decidable (small62 i) := by unfold small62; infer_instance
def oRange (i j : Int) : Option (List Int) := if small62 i ∧ small62 j ∧ (j - i).toNat ≤ sizeLine then some (rangeI i j) else none
theorem oRange_ok {i j : Int} {xs : List Int} (h : oRange i j = some xs) : (small62 i ∧ small62 j ∧ (j - i).toNat ≤ sizeLine) ∧ xs = rangeI i j := by
  unfold oRange at h
  split at h
  · rename_i hc; exact ⟨hc, (Option.some.inj h).symm⟩
  · cases h
theorem len_rangeI (i j : Int) : (rangeI i j).length = (j - i).toNat := by unfold rangeI; simp
theorem args1i {F : Hp} {j : Int} {vs : List V} (ar : Args F [rInt.at j] vs) : vs = [.int j] := by
  cases ar with
  | cons a b => cases b; rw [show _ = V.int j from a]
theorem args2 {F : Hp} {i j : Int} {vs : List V} (ar : Args F [rInt.at i, rInt.at j] vs) : vs = [.int i, .int j] := by
  cases ar with
  | cons a b =>
    cases b with
    | cons a' b' => cases b'; rw [show _ = V.int i from a, show _ = V.int j from a']
theorem i_range1 {t : TA} {KI : List Sl → Cells → Prop} (h : EvA t W G T cs fun sls cs1 => ∃ (j : Int) (xs : List Int), sls = [rInt.at j] ∧ oRange 0 j = some xs ∧ KI (xs.map rInt.at) cs1) : EvI (iRng1 t) W G T cs KI := fun s H st R q => by
  refine h s H st _ fun sls cs1 ⟨j, xs, e, ho, k⟩ vs H1 ⟨F, c, sg, t, ar⟩ => ?_
  subst e
  obtain ⟨⟨_, ⟨b1, b2⟩, b3⟩, e⟩ := oRange_ok ho
  subst e
  have e := args1i ar
  subst e
  refine ⟨j, rfl, b1, b2, q _ [] _ cs1 k (by rw [List.length_map, len_rangeI]; exact b3) (fun B => ?_) H1 ⟨F, c, sg, t⟩⟩
  have := wk_range (W := W) 0 j.toNat B
  unfold rangeI
  rw [Int.sub_zero]
  exact this
inductive Fl (ρ β : Type) where
  | go (b : β) | brk (b : β) | ret (r : ρ)
inductive Lo (ρ β : Type) where
  | go (b : β) | ret (r : ρ)
def loopO (f : β → α → Option (Fl ρ β)) : List α → β → Option (Lo ρ β)
  | [], b => some (.go b)
  | x :: xs, b => match f b x with
    | none => none
    | some (.go b') => loopO f xs b'
    | some (.brk b') => some (.go b')
    | some (.ret r) => some (.ret r)
def foldO (f : β → α → Option β) : List α → β → Option β
  | [], b => some b
  | x :: xs, b => match f b x with
    | none => none
    | some b' => foldO f xs b'
theorem foldO_loop (f : β → α → Option β) : ∀ (xs : List α) (b b' : β), foldO f xs b = some b' → loopO (ρ := Empty) (fun b x => (f b x).map .go) xs b = some (.go b')
  | [], b, b', h => by cases h; rfl
  | x :: xs, b, b', h => by
    unfold foldO at h
    unfold loopO
    cases e : f b x with
    | none => rw [e] at h; cases h
    | some c => rw [e] at h; exact foldO_loop f xs c b' h
theorem for_sound {wi : TI} {g : TG} {tb : TS} {is : List Nat} (h : EvI wi W G T cs fun items cs1 => ∃ (α β ρ : Type) (r : R α) (xs : List α) (b0 : β) (f : β → α → Option (Fl ρ β)) (out : Lo ρ β) (Gb : β → Gam) (cb : β → Cells),
      items = xs.map r.at ∧ loopO f xs b0 = some out ∧ Wkn G (Gb b0) ∧ cs1 = cb b0 ∧
      (∀ T' b x fl, f b x = some fl → ∀ N Bk : L2.St → Hp → Prop, (∀ b', fl = .go b' → NxT N W (Gb b') T' (cb b')) → (∀ b', fl = .brk b' → NxT Bk W (Gb b') T' (cb b')) → (∀ z, fl = .ret z → out = .ret z) →
        Tg g is W (Gb b) T' (cb b) (r.at x) fun G' => NxT (tb ⟨N, rt, Bk, N⟩) W G' T' (cb b)) ∧
      (∀ b', out = .go b' → NxT nx W (Gb b') T (cb b'))) : NxT (tFor wi g tb ⟨nx, rt, bk, ct⟩) W G T cs := fun s H st => by
  refine h s H st _ fun J T0 items cs1 ⟨α, β, ρ, r, xs, b0, f, out, Gb, cb, e1, hl, hw, e2, body, after⟩ hz wk H1 ⟨F1, c1, sg1, t1⟩ => ?_
  subst e1 e2
  have wk := wk W.B
  refine ⟨fun i m s H => i + m = xs.length ∧ ∃ b, loopO f (xs.drop i) b = some out ∧ Sta W (Gb b) (T0 ++ T) (cb b) s H, ⟨xs.length, by omega, b0, hl, F1, c1, sg1.weak hw, t1⟩, ?_⟩
  rintro i m s H ⟨em, b, hlo, F, c, sg, t⟩
  by_cases hi : i < xs.length
  · refine .inr ⟨wk.go i F H _ (by simpa using hi) c t.left, ?_⟩
    have hd : xs.drop i = xs[i] :: xs.drop (i + 1) := List.drop_eq_getElem_cons hi
    rw [hd] at hlo
    unfold loopO at hlo
    cases ef : f b xs[i] with
    | none => rw [ef] at hlo; cases hlo
    | some fl =>
      rw [ef] at hlo
      have bd : ∀ b', out = .go b' → NxT nx W (Gb b') (T0 ++ T) (cb b') := fun b' eo s H ⟨F, c, sg, t⟩ => after b' eo s H ⟨F, c, sg, t.right⟩
      refine ⟨fun s' H' => ∃ b', fl = .go b' ∧ Sta W (Gb b') (T0 ++ T) (cb b') s' H', fun s' H' ⟨b', ef', st'⟩ => ?_, fun x H' y => ?_⟩
      · subst ef'
        exact ⟨m - 1, by omega, by omega, b', hlo, st'⟩
      · have hx : (xs.map r.at)[i]? = some (r.at xs[i]) := by rw [List.getElem?_map, List.getElem?_eq_getElem hi]; rfl
        obtain ⟨F', c', sF, px⟩ := wk.yld i F H _ x H' _ hx c t.left y
        refine body (T0 ++ T) b xs[i] fl ef _ nx (fun b' e s H st => ⟨b', e, st⟩) (fun b' e => ?_) (fun z e => ?_) x s H' ⟨F', c', sg.mono sF, (t.mono sF).cons px⟩ _ fun G' k s' st' _ => k s' H' st'
        · subst e
          exact bd b' (Option.some.inj hlo).symm
        · subst e
          exact (Option.some.inj hlo).symm
  · have ei : i = xs.length := by omega
    subst ei
    refine .inl ⟨?_, ?_⟩
    · have := wk.stop F H _ c t.left
      rwa [List.length_map] at this
    · rw [List.drop_length] at hlo
      exact after b (Option.some.inj hlo).symm s H ⟨F, c, sg, t.right⟩
theorem fold_sound {wi : TI} {g : TG} {tb : TS} {is : List Nat} (h : EvI wi W G T cs fun items cs1 => ∃ (α β : Type) (r : R α) (xs : List α) (b0 : β) (f : β → α → Option β) (out : β) (Gb : β → Gam) (cb : β → Cells),
      items = xs.map r.at ∧ foldO f xs b0 = some out ∧ Wkn G (Gb b0) ∧ cs1 = cb b0 ∧
      (∀ T' b x b', f b x = some b' → ∀ N Bk : L2.St → Hp → Prop, NxT N W (Gb b') T' (cb b') →
        Tg g is W (Gb b) T' (cb b) (r.at x) fun G' => NxT (tb ⟨N, rt, Bk, N⟩) W G' T' (cb b)) ∧
      NxT nx W (Gb out) T (cb out)) : NxT (tFor wi g tb ⟨nx, rt, bk, ct⟩) W G T cs := by
  refine for_sound (is := is) ?_
  intro s H st Q q
  refine h s H st Q fun J T0 items cs' ⟨α, β, r, xs, b0, f, out, Gb, cb, e1, hl, hw, e2, body, after⟩ hz wk H' st' => q J T0 items cs' ⟨α, β, Empty, r, xs, b0, _, .go out, Gb, cb, e1, foldO_loop f xs b0 out hl, hw, e2, fun T' b x fl hf N Bk hN _ _ => ?_, fun b' e => ?_⟩ hz wk H' st'
  · cases ef : f b x with
    | none => rw [ef] at hf; cases hf
    | some b' =>
      rw [ef] at hf
      cases hf
      exact body T' b x b' ef N Bk (hN b' rfl)
  · cases e; exact after

def lcO (f : β → α → Option (Option γ × β)) : List α → β → Option (List γ × β)
  | [], b => some ([], b)
  | x :: xs, b => match f b x with
    | none => none
    | some (o, b') => match lcO f xs b' with
      | none => none
      | some (ys, b'') => some (match o with | some y => y :: ys | none => ys, b'')
theorem lcO_cons {f : β → α → Option (Option γ × β)} {x : α} {xs : List α} {b b2 : β} {ys : List γ} (h : lcO f (x :: xs) b = some (ys, b2)) : ∃ o b' zs, f b x = some (o, b') ∧ lcO f xs b' = some (zs, b2) ∧ ys = (match o with | some y => y :: zs | none => zs) := by
  unfold lcO at h
  cases e : f b x with
  | none => rw [e] at h; cases h
  | some p =>
    obtain ⟨o, b'⟩ := p
    rw [e] at h
    dsimp only at h
    cases e2 : lcO f xs b' with
    | none => rw [e2] at h; cases h
    | some q =>
      obtain ⟨zs, b3⟩ := q
      rw [e2] at h
      dsimp only at h
      have h' := Option.some.inj h
      exact ⟨o, b', zs, rfl, by rw [e2, (Prod.mk.inj h').2], (Prod.mk.inj h').1.symm⟩
theorem lc_cellB {wi : TI} {g : TG} {vs : List Nat} {is : List Nat} (hvs : ∀ i ∈ is, i ∈ vs) (h : EvIB wi W G T cs fun items cs1 => ∃ (α β γ : Type) (r : R α) (xs : List α) (b0 : β) (f : β → α → Option (Option γ × β)) (ys : List γ) (b1 : β) (rr : R γ) (cb : β → Cells),
      items = xs.map r.at ∧ lcO f xs b0 = some (ys, b1) ∧ cs1 = cb b0 ∧
      (∀ W' T' b x o b', f b x = some (o, b') →
        Tg g is W' (wipeG G vs) T' (cb b) (r.at x) fun G' => Et tt W' G' T' (cb b) fun c cs3 => (c = true → Ev te W' G' T' cs3 fun sl cs4 => ∃ y, o = some y ∧ sl = rr.at y ∧ cs4 = cb b') ∧ (c = false → o = none ∧ cs3 = cb b')) ∧
      ∀ p, K (sRef p) (cb b1 ++ [(p, cLst rr ys)])) : Ev (tLc wi g tt te vs) W G T cs K := fun s H st Q q => by
  refine h s H st _ fun J T0 items cs1 ⟨α, β, γ, r, xs, b0, f, ys, b1, rr, cb, e1, hl, e2, body, k⟩ hsz wk H1 ⟨F1, c1, sg1, t1⟩ => ?_
  subst e1 e2
  rw [List.length_map] at hsz
  intro Dp hD
  have fD : F1 Dp = none := c1.fh.free hD
  have bD : W.B Dp = none := c1.bh.free hD
  -- the invariant: what is made so far
  refine ⟨fun i m H => i + m = xs.length ∧ ∃ (b : β) (acc : List γ) (zs : List γ), lcO f (xs.drop i) b = some (zs, b1) ∧ ys = acc ++ zs ∧ acc.length ≤ i ∧ ∃ F, Core W F (cb b ++ [(Dp, cLst rr acc)]) H ∧ Slots F G s ∧ Temps F (T0 ++ T), ⟨xs.length, by omega, b0, [], ys, hl, rfl, Nat.le_refl _, F1, c1.newCell hD ⟨Nat.zero_le _, [], rfl, .nil⟩, sg1, t1⟩, ?_⟩
  rintro i m H ⟨em, b, acc, zs, hlo, ey, hacc, F, c, sg, t⟩
  by_cases hi : i < xs.length
  · refine .inr ⟨(wk W.B fun _ _ e => e).go i F H _ (by simpa using hi) c t.left, ?_⟩
    have hd : xs.drop i = xs[i] :: xs.drop (i + 1) := List.drop_eq_getElem_cons hi
    rw [hd] at hlo
    obtain ⟨o, b', zs', hf, hl', ez⟩ := lcO_cons hlo
    refine ⟨_, fun H' hN => hN, fun x H' y => ?_⟩
    have hx : (xs.map r.at)[i]? = some (r.at xs[i]) := by rw [List.getElem?_map, List.getElem?_eq_getElem hi]; rfl
    obtain ⟨F', c', sF, px⟩ := (wk W.B fun _ _ e => e).yld i F H _ x H' _ hx c t.left y
    -- the list made so far goes to the background
    obtain ⟨d1, d2, od, d3, d4⟩ := c'.cell (Dp, cLst rr acc) (List.mem_append_right _ (by simp))
    have nb : ∀ x ∈ cb b, x.1 ≠ Dp := fun x hx e => by
      have nd := c'.nd
      rw [List.map_append, List.nodup_append] at nd
      exact nd.2.2 x.1 (List.mem_map_of_mem hx) Dp (by simp) e
    have cW : Core ⟨W.F, upd W.B Dp od⟩ F' (cb b) H' := by
      refine (c'.drop (List.sublist_append_left _ _)).B (upd W.B Dp od) (fun a o e => ?_) (fun a o e => ?_) fun x hx => ?_
      · by_cases ha : a = Dp
        · subst ha; rw [upd_same] at e; cases e; exact d3
        · rw [upd_ne ha] at e; exact c'.bh a o e
      · by_cases ha : a = Dp
        · subst ha; exact d1
        · rw [upd_ne ha] at e; exact c'.bf a o e
      · rw [upd_ne (nb x hx)]; exact (c'.cell x (List.mem_append_left _ hx)).2.1
    have back : ∀ {F2 : Hp} {cs2 : Cells} {H2 : Hp}, Core ⟨W.F, upd W.B Dp od⟩ F2 cs2 H2 → Core W F2 (cs2 ++ [(Dp, cLst rr acc)]) H2 ∨ ¬ Same F' F2 := fun {F2 cs2 H2} c2 => by
      by_cases hs : Same F' F2
      · refine .inl ⟨c2.f0, c2.fh, fun a o e => c2.bh a o ?_, fun a o e => c2.bf a o ?_, ?_, fun x hx => ?_⟩
        · show upd W.B Dp od a = some o
          rw [upd_ne (ne_of_none e bD)]; exact e
        · show upd W.B Dp od a = some o
          rw [upd_ne (ne_of_none e bD)]; exact e
        · rw [List.map_append, List.nodup_append]
          refine ⟨c2.nd, by simp, fun a ha b hb e => ?_⟩
          have eb : b = Dp := by simpa using hb
          obtain ⟨x, hx, ex⟩ := List.mem_map.mp ha
          have h0 := (c2.cell x hx).2.1
          have : upd W.B Dp od x.1 = none := h0
          rw [ex, e, eb, upd_same] at this
          cases this
        · rcases List.mem_append.mp hx with hx | hx
          · obtain ⟨a1, a2, a3⟩ := c2.cell x hx
            have a2' : upd W.B Dp od x.1 = none := a2
            by_cases hxd : x.1 = Dp
            · rw [hxd, upd_same] at a2'; cases a2'
            · rw [upd_ne hxd] at a2'; exact ⟨a1, a2', a3⟩
          · have e : x = (Dp, cLst rr acc) := by simpa using hx
            subst e
            exact ⟨c2.bf Dp od (show upd W.B Dp od Dp = some od from upd_same), bD, od, c2.bh Dp od (show upd W.B Dp od Dp = some od from upd_same), (cLst rr acc).mono hs d4⟩
      · exact .inr hs
    -- F' stays below: kept by a world whose frozen part is F'
    have cW' : Core ⟨F', upd W.B Dp od⟩ F' (cb b) H' := ⟨Same.refl F', cW.fh, cW.bh, cW.bf, cW.nd, cW.cell⟩
    have toW : ∀ {F2 : Hp} {cs2 : Cells} {H2 : Hp}, Core ⟨F', upd W.B Dp od⟩ F2 cs2 H2 → Core W F2 (cs2 ++ [(Dp, cLst rr acc)]) H2 := fun {F2 cs2 H2} c2 => by
      have c3 : Core ⟨W.F, upd W.B Dp od⟩ F2 cs2 H2 := ⟨c'.f0.trans c2.f0, c2.fh, c2.bh, c2.bf, c2.nd, c2.cell⟩
      rcases back c3 with z | z
      · exact z
      · exact absurd c2.f0 z
    refine body ⟨F', upd W.B Dp od⟩ (T0 ++ T) b xs[i] o b' hf x (wipe s vs) H' ⟨F', cW', (sg.mono sF).wipe vs, (t.mono sF).cons px⟩ _ fun G2 ht s2 st2 hw => ⟨by rw [hw vs hvs, wipe_wipe], ?_⟩
    refine ht s2 H' st2 _ fun cc cs3 ⟨k1, k2⟩ H3 st3 => ?_
    cases cc with
    | true =>
      rw [if_pos rfl]
      refine k1 rfl s2 H3 st3 _ fun sl cs4 ⟨y, eo, es, e4⟩ v4 H4 ⟨F4, c4, sg4, t4⟩ => ?_
      subst eo es e4
      have c5 := toW c4
      obtain ⟨_, _, o5, d5, ⟨hz5, ws, eo5, h5⟩⟩ := c5.cell (Dp, cLst rr acc) (List.mem_append_right _ (by simp))
      subst eo5
      have hlt : ws.length < sizeLine := by
        have := h5.length
        omega
      refine ⟨ws, d5, hlt, m - 1, by omega, by omega, b', acc ++ [y], zs', hl', ?_, ?_, F4, ?_, sg.mono (sF.trans c4.f0), t4.tail⟩
      · rw [ey, ez]; simp
      · rw [List.length_append, List.length_singleton]; omega
      · have hj : (cb b' ++ [(Dp, cLst rr acc)])[(cb b').length]? = some (Dp, cLst rr acc) := by simp
        have := c5.write (c' := cLst rr (acc ++ [y])) (o := .lst (ws ++ [v4])) hj ⟨by rw [List.length_append, List.length_singleton, h5.length]; exact hlt, _, rfl, h5.app (.cons t4.head .nil)⟩
        rw [show (cb b' ++ [(Dp, cLst rr acc)]).set (cb b').length (Dp, cLst rr (acc ++ [y])) = cb b' ++ [(Dp, cLst rr (acc ++ [y]))] by simp [List.set_append]] at this
        exact this
    | false =>
      rw [if_neg Bool.false_ne_true]
      obtain ⟨eo, e3⟩ := k2 rfl
      subst eo e3
      obtain ⟨F4, c4, sg4, t4⟩ := st3
      exact ⟨m - 1, by omega, by omega, b', acc, zs', hl', by rw [ey, ez], by omega, F4, toW c4, sg.mono (sF.trans c4.f0), t4⟩
  · have ei : i = xs.length := by omega
    subst ei
    refine .inl ⟨?_, ?_⟩
    · have := (wk W.B fun _ _ e => e).stop F H _ c t.left
      rwa [List.length_map] at this
    · rw [List.drop_length] at hlo
      have e := Option.some.inj hlo
      have e1 : zs = [] := (Prod.mk.inj e).1.symm
      have e2 : b = b1 := (Prod.mk.inj e).2
      subst e1 e2
      rw [List.append_nil] at ey
      subst ey
      exact q _ _ (k Dp) _ H ⟨F, c, sg, t.right.cons rfl⟩
theorem lc_soundB {wi : TI} {g : TG} {vs : List Nat} {is : List Nat} (hvs : ∀ i ∈ is, i ∈ vs) (h : EvIB wi W G T cs fun items cs1 => ∃ (α β γ : Type) (r : R α) (xs : List α) (b0 : β) (f : β → α → Option (Option γ × β)) (ys : List γ) (b1 : β) (rr : R γ) (cb : β → Cells),
      items = xs.map r.at ∧ lcO f xs b0 = some (ys, b1) ∧ cs1 = cb b0 ∧
      (∀ W' T' b x o b', f b x = some (o, b') →
        Tg g is W' (wipeG G vs) T' (cb b) (r.at x) fun G' => Et tt W' G' T' (cb b) fun c cs3 => (c = true → Ev te W' G' T' cs3 fun sl cs4 => ∃ y, o = some y ∧ sl = rr.at y ∧ cs4 = cb b') ∧ (c = false → o = none ∧ cs3 = cb b')) ∧
      K ((rLst rr).at ys) (cb b1)) : Ev (tLc wi g tt te vs) W G T cs K := fun s H st Q q => by
  refine lc_cellB (K := fun sl cs' => ∃ (γ : Type) (rr : R γ) (ys : List γ) (c0 : Cells) (p : Addr), sl = sRef p ∧ cs' = c0 ++ [(p, cLst rr ys)] ∧ K ((rLst rr).at ys) c0) hvs ?_ s H st Q fun sl cs' ⟨γ, rr, ys, c0, p, e1, e2, k⟩ v H' ⟨F, c, sg, t⟩ => ?_
  · intro s H st R q
    exact h s H st R fun J T0 items cs1 ⟨α, β, γ, r, xs, b0, f, ys, b1, rr, cb, e1, hl, e2, body, k⟩ hsz wk H1 st1 => q J T0 items cs1 ⟨α, β, γ, r, xs, b0, f, ys, b1, rr, cb, e1, hl, e2, body, fun p => ⟨γ, rr, ys, cb b1, p, rfl, rfl, k⟩⟩ hsz wk H1 st1
  · subst e1 e2
    have hj : (c0 ++ [(p, cLst rr ys)])[c0.length]? = some (p, cLst rr ys) := by simp
    obtain ⟨o, F', h1, ⟨hz, ws, eo, h2⟩, h3, sF, c'⟩ := c.freeze hj
    subst eo
    have ee : (c0 ++ [(p, cLst rr ys)]).eraseIdx c0.length = c0 := by
      rw [List.eraseIdx_append_of_length_le (Nat.le_refl _)]; simp
    rw [ee] at c'
    have ev : v = .ref p := t.head
    exact q _ _ k v H' ⟨F', c', sg.mono sF, (t.tail.mono sF).cons ⟨hz, p, ws, ev, h3, h2⟩⟩
theorem lc_sound {wi : TI} {g : TG} {vs : List Nat} {is : List Nat} (hvs : ∀ i ∈ is, i ∈ vs) (h : EvI wi W G T cs fun items cs1 => ∃ (α β γ : Type) (r : R α) (xs : List α) (b0 : β) (f : β → α → Option (Option γ × β)) (ys : List γ) (b1 : β) (rr : R γ) (cb : β → Cells),
      items = xs.map r.at ∧ lcO f xs b0 = some (ys, b1) ∧ cs1 = cb b0 ∧
      (∀ W' T' b x o b', f b x = some (o, b') →
        Tg g is W' (wipeG G vs) T' (cb b) (r.at x) fun G' => Et tt W' G' T' (cb b) fun c cs3 => (c = true → Ev te W' G' T' cs3 fun sl cs4 => ∃ y, o = some y ∧ sl = rr.at y ∧ cs4 = cb b') ∧ (c = false → o = none ∧ cs3 = cb b')) ∧
      K ((rLst rr).at ys) (cb b1)) : Ev (tLc wi g tt te vs) W G T cs K := lc_soundB hvs h.toB
end
end ML

namespace ML
open PySem PySem.Spec PyProof.Rows L2

section
variable {nx bk ct : L2.St → Hp → Prop} {rt : VK}
variable {W : Wd} {G G' : Gam} {T : Tms} {cs : Cells} {K : Sl → Cells → Prop} {KB : Bool → Cells → Prop} {ta tb tc te to ti : TE} {tt tu : TT} {D : Ends} {t1 t2 : TS} {t : TA} {α β γ ρ : Type} {KF : PySem.W.Frag}

@[irreducible] def Sml (i : Int) : Prop := i.natAbs < 2 ^ 4096
theorem sml_iff {i : Int} : Sml i ↔ i.natAbs < 2 ^ 4096 := by unfold Sml; exact Iff.rfl
instance {i : Int} : Decidable (Sml i) := decidable_of_iff _ (sml_iff (i := i)).symm
theorem sml_of {i : Int} {n : Nat} (hn : n ≤ 4096) (h : i.natAbs < 2 ^ n) : Sml i := sml_iff.mpr (Nat.lt_of_lt_of_le h (Nat.pow_le_pow_right (by decide) hn))
theorem Sml.bits {i : Int} (h : Sml i) : Builtin.Int.intBits i ≤ 4096 := PyProof.Rows.intBits_le (sml_iff.mp h)
def oShl (i j : Int) : Option Int := if 0 ≤ j ∧ j ≤ 100000 ∧ Sml i then some (i * 2 ^ j.toNat) else none
def oMul (i j : Int) : Option Int := if Sml i ∧ Sml j then some (i * j) else none
def oDiv (i j : Int) : Option Int := if 0 < j ∧ Sml j then some (i / j) else none
def oMod (i j : Int) : Option Int := if 0 < j then some (i % j) else none
def oPow (i j : Int) : Option Int := if 0 ≤ j ∧ j ≤ 1000 ∧ Sml i then some (i ^ j.toNat) else none
def CPowW (i j : Int) : Prop := 0 ≤ j ∧ (Builtin.Int.intBits i : Int) * j ≤ 2 ^ 27
theorem op_powW {X : Cx} : OpR X (binaryOp .Pow) (rI CPowW fun i j => .int (i ^ j.toNat)) := opI fun _ _ _ _ _ _ _ hc q => pow_int hc.1 hc.2 q
theorem of_ite {c : Prop} [Decidable c] {a : α} {b : α} (h : (if c then some a else none) = some b) : c ∧ b = a := by
  split at h
  · rename_i hc; exact ⟨hc, (Option.some.inj h).symm⟩
  · cases h
theorem oShl_ok (i j t : Int) (h : oShl i j = some t) : CShl i j ∧ t = i * 2 ^ j.toNat := by
  obtain ⟨⟨h1, h2, h3⟩, e⟩ := of_ite h
  have := h3.bits
  have e27 : (2 : Int) ^ 27 = 134217728 := by decide
  exact ⟨⟨h1, by rw [e27]; omega⟩, e⟩
theorem oMul_ok (i j t : Int) (h : oMul i j = some t) : CMulX i j ∧ t = i * j := by
  obtain ⟨⟨h1, h2⟩, e⟩ := of_ite h
  have b1 := h1.bits
  have b2 := h2.bits
  refine ⟨?_, e⟩
  unfold CMulX
  omega
theorem oDiv_ok (i j t : Int) (h : oDiv i j = some t) : CDivW i j ∧ t = i / j := by
  obtain ⟨⟨h1, h2⟩, e⟩ := of_ite h
  exact ⟨wide_div h1 (sml_iff.mp h2) (by decide) (by decide), e⟩
theorem oMod_ok (i j t : Int) (h : oMod i j = some t) : 0 < j ∧ t = i % j := of_ite h
theorem oPow_ok (i j t : Int) (h : oPow i j = some t) : CPowW i j ∧ t = i ^ j.toNat := by
  obtain ⟨⟨h1, h2, h3⟩, e⟩ := of_ite h
  have b := h3.bits
  have e27 : (2 : Int) ^ 27 = 134217728 := by decide
  refine ⟨⟨h1, ?_⟩, e⟩
  rw [e27]
  have : (Builtin.Int.intBits i : Int) * j ≤ 4096 * 1000 := Int.mul_le_mul (by omega) h2 h1 (by decide)
  omega

theorem args1 {F : Hp} {a : Sl} {vs : List V} (ar : Args F [a] vs) : ∃ v, vs = [v] ∧ a.p F v := by
  cases ar with
  | cons p q => cases q; exact ⟨_, rfl, p⟩
theorem args2' {F : Hp} {a b : Sl} {vs : List V} (ar : Args F [a, b] vs) : ∃ v w, vs = [v, w] ∧ a.p F v ∧ b.p F w := by
  cases ar with
  | cons p q =>
    cases q with
    | cons p' q' => cases q'; exact ⟨_, _, rfl, p, p'⟩
theorem args_map {F : Hp} {r : R α} : ∀ {xs : List α} {vs : List V}, Args F (xs.map r.at) vs → All2 (fun x u => r.p x F u) xs vs
  | [], _, .nil => .nil
  | _ :: _, _, .cons p q => .cons p (args_map q)

theorem small_len {n : Nat} (h : n ≤ 1000) : n ≤ sizeLine := by rw [sizeLine_eq]; omega
theorem e_lst (h : EvA t W G T cs fun sls cs1 => ∃ (α : Type) (r : R α) (xs : List α), sls = xs.map r.at ∧ xs.length ≤ 1000 ∧ K ((rLst r).at xs) cs1) : Ev (tLst t) W G T cs K := fun s H st Q q => by
  refine h s H st _ fun sls cs1 ⟨α, r, xs, e, hz, k⟩ vs H1 ⟨F, c, sg, tm, ar⟩ => ?_
  subst e
  have a2 := args_map ar
  refine ⟨by rw [← a2.length]; exact small_len hz, fun p hp => ?_⟩
  have sF : Same F (upd F p (.lst vs)) := same_upd (c.fh.free hp)
  exact q _ _ k _ _ ⟨_, c.new hp, sg.mono sF, (tm.mono sF).cons ⟨small_len hz, p, vs, rfl, upd_same, a2.imp fun _ _ z => r.mono sF z⟩⟩
theorem e_lstC (h : EvA t W G T cs fun sls cs1 => ∃ (α : Type) (r : R α) (xs : List α), sls = xs.map r.at ∧ xs.length ≤ 1000 ∧ ∀ p, K (sRef p) (cs1 ++ [(p, cLst r xs)])) : Ev (tLst t) W G T cs K := fun s H st Q q => by
  refine h s H st _ fun sls cs1 ⟨α, r, xs, e, hz, k⟩ vs H1 ⟨F, c, sg, tm, ar⟩ => ?_
  subst e
  have a2 := args_map ar
  exact ⟨by rw [← a2.length]; exact small_len hz, fun p hp => q _ _ (k p) _ _ ⟨F, c.newCell hp ⟨small_len hz, vs, rfl, a2⟩, sg, tm.cons rfl⟩⟩
theorem e_tup (h : EvA t W G T cs fun sls cs1 => ∃ (α : Type) (r : R α) (xs : List α), sls = xs.map r.at ∧ xs.length ≤ 1000 ∧ K ((rTup r).at xs) cs1) : Ev (tTup t) W G T cs K := fun s H st Q q => by
  refine h s H st _ fun sls cs1 ⟨α, r, xs, e, hz, k⟩ vs H1 ⟨F, c, sg, tm, ar⟩ => ?_
  subst e
  have a2 := args_map ar
  refine ⟨by rw [← a2.length]; exact small_len hz, fun p hp => ?_⟩
  have sF : Same F (upd F p (.tup vs)) := same_upd (c.fh.free hp)
  exact q _ _ k _ _ ⟨_, c.new hp, sg.mono sF, (tm.mono sF).cons ⟨small_len hz, p, vs, rfl, (.inl upd_same), a2.imp fun _ _ z => r.mono sF z⟩⟩
theorem e_pair (h : EvA t W G T cs fun sls cs1 => ∃ (α β : Type) (r : R α) (r' : R β) (a : α) (b : β), sls = [r.at a, r'.at b] ∧ K ((rPair r r').at (a, b)) cs1) : Ev (tTup t) W G T cs K := fun s H st Q q => by
  refine h s H st _ fun sls cs1 ⟨α, β, r, r', a, b, e, k⟩ vs H1 ⟨F, c, sg, tm, ar⟩ => ?_
  subst e
  obtain ⟨v, w, rfl, h1, h2⟩ := args2' ar
  refine ⟨by show 2 ≤ sizeLine; decide, fun p hp => ?_⟩
  have sF : Same F (upd F p (.tup [v, w])) := same_upd (c.fh.free hp)
  exact q _ _ k _ _ ⟨_, c.new hp, sg.mono sF, (tm.mono sF).cons ⟨p, v, w, rfl, (.inl upd_same), r.mono sF h1, r'.mono sF h2⟩⟩

theorem all2_atI {P : α → V → Prop} {xs : List α} {vs : List V} {i : Int} {x : α} (a : All2 P xs vs) (h : atI xs i = some x) : ∃ v, atI vs i = some v ∧ P x v := by
  unfold atI at h ⊢
  rw [← a.length]
  cases e : ixN xs.length i with
  | none => rw [e] at h; cases h
  | some j =>
    rw [e] at h
    obtain ⟨v, h1, h2⟩ := a.get h
    exact ⟨v, h1, h2⟩
theorem e_ixT (ha : Ev ta W G T cs fun sa cs1 => ∀ va, Ev tb W G ((va, sa) :: T) cs1 fun sb cs2 => ∃ (α : Type) (r : R α) (xs : List α) (i : Int) (x : α), sa = (rTup r).at xs ∧ sb = rInt.at i ∧ atI xs i = some x ∧ K (r.at x) cs2) :
    Ev (tOp (rIxT KF) ta tb) W G T cs K := fun s H st Q q => by
  refine ha s H st _ fun sa cs1 h1 va H1 st1 => ?_
  refine h1 va s H1 st1 _ fun sb cs2 ⟨α, r, xs, i, x, e1, e2, hx, k⟩ vb H2 ⟨F, c, sg, tm⟩ => ?_
  subst e1 e2
  obtain ⟨hz, a, vs, rfl, hF, hA⟩ := tm.tail.head
  obtain ⟨v, hv, pv⟩ := all2_atI hA hx
  have eb : vb = .int i := tm.head
  exact ⟨a, vs, i, v, rfl, eb, TupA.sq c.fh hF, hv, q _ _ k _ H2 ⟨F, c, sg, tm.tail.tail.cons pv⟩⟩
theorem e_ixL (ha : Ev ta W G T cs fun sa cs1 => ∀ va, Ev tb W G ((va, sa) :: T) cs1 fun sb cs2 => ∃ (α : Type) (r : R α) (xs : List α) (i : Int) (x : α), sa = (rLst r).at xs ∧ sb = rInt.at i ∧ atI xs i = some x ∧ K (r.at x) cs2) :
    Ev (tOp (rIxL KF) ta tb) W G T cs K := fun s H st Q q => by
  refine ha s H st _ fun sa cs1 h1 va H1 st1 => ?_
  refine h1 va s H1 st1 _ fun sb cs2 ⟨α, r, xs, i, x, e1, e2, hx, k⟩ vb H2 ⟨F, c, sg, tm⟩ => ?_
  subst e1 e2
  obtain ⟨hz, a, vs, rfl, hF, hA⟩ := tm.tail.head
  obtain ⟨v, hv, pv⟩ := all2_atI hA hx
  have eb : vb = .int i := tm.head
  exact ⟨a, vs, i, v, rfl, eb, SqL.of (c.fh _ _ hF), hv, q _ _ k _ H2 ⟨F, c, sg, tm.tail.tail.cons pv⟩⟩
theorem Core.lst {F : Hp} {H : Hp} (c : Core W F cs H) {j : Nat} {p : Addr} {r : R α} {xs : List α} (hj : cs[j]? = some (p, cLst r xs)) : xs.length ≤ sizeLine ∧ ∃ vs, H p = some (.lst vs) ∧ All2 (fun x u => r.p x F u) xs vs := by
  obtain ⟨h1, h2, o, h3, hz, vs, e, h4⟩ := c.cell _ (List.mem_of_getElem? hj)
  subst e
  exact ⟨hz, vs, h3, h4⟩
theorem e_ixC (j : Nat) (ha : Ev ta W G T cs fun sa cs1 => ∀ va, Ev tb W G ((va, sa) :: T) cs1 fun sb cs2 => ∃ (α : Type) (p : Addr) (r : R α) (xs : List α) (i : Int) (x : α), sa = sRef p ∧ cs2[j]? = some (p, cLst r xs) ∧ sb = rInt.at i ∧ atI xs i = some x ∧ K (r.at x) cs2) :
    Ev (tOp (rIxL KF) ta tb) W G T cs K := fun s H st Q q => by
  refine ha s H st _ fun sa cs1 h1 va H1 st1 => ?_
  refine h1 va s H1 st1 _ fun sb cs2 ⟨α, p, r, xs, i, x, e1, hj, e2, hx, k⟩ vb H2 ⟨F, c, sg, tm⟩ => ?_
  subst e1 e2
  obtain ⟨hz, vs, hH, hA⟩ := c.lst hj
  obtain ⟨v, hv, pv⟩ := all2_atI hA hx
  have eb : vb = .int i := tm.head
  have ea : va = .ref p := tm.tail.head
  exact ⟨p, vs, i, v, ea, eb, SqL.of hH, hv, q _ _ k _ H2 ⟨F, c, sg, tm.tail.tail.cons pv⟩⟩
def oSet (xs : List α) (i : Int) (x : α) : Option (List α) := match ixN xs.length i with
  | none => none
  | some j => some (xs.set j x)
theorem s_setitem (j : Nat) (hv : Ev te W G T cs fun sv cs1 => ∀ vv, Ev to W G ((vv, sv) :: T) cs1 fun so cs2 => ∀ vo, Ev ti W G ((vo, so) :: (vv, sv) :: T) cs2 fun si cs3 =>
      ∃ (α : Type) (p : Addr) (r : R α) (xs ys : List α) (i : Int) (x : α), sv = r.at x ∧ so = sRef p ∧ si = rInt.at i ∧ cs3[j]? = some (p, cLst r xs) ∧ oSet xs i x = some ys ∧ NxT nx W G T (cs3.set j (p, cLst r ys))) :
    NxT (tAsg te (gSub to ti rSetL) ⟨nx, rt, bk, ct⟩) W G T cs := fun s H st => by
  refine hv s H st _ fun sv cs1 h1 vv H1 st1 => ?_
  refine h1 vv s H1 st1 _ fun so cs2 h2 vo H2 st2 => ?_
  refine h2 vo s H2 st2 _ fun si cs3 ⟨α, p, r, xs, ys, i, x, e1, e2, e3, hj, hy, k⟩ vi H3 ⟨F, c, sg, tm⟩ => ?_
  subst e1 e2 e3
  obtain ⟨hz, vs, hH, hA⟩ := c.lst hj
  have ei : vi = .int i := tm.head
  have eo : vo = .ref p := tm.tail.head
  have pv := tm.tail.tail.head
  unfold oSet at hy
  cases en : ixN xs.length i with
  | none => rw [en] at hy; cases hy
  | some n =>
    rw [en] at hy
    cases hy
    refine ⟨p, vs, i, n, eo, ei, hH, by rw [← hA.length]; exact en, ?_⟩
    exact k s _ ⟨F, c.write hj ⟨by rw [List.length_set]; exact hz, _, rfl, All2.set (P := fun x u => r.p x F u) pv n hA⟩, sg, tm.tail.tail.tail⟩

theorem e_tupL (h : EvA t W G T cs fun sls cs1 => ∃ (α : Type) (r : R α) (xs : List α), sls = [(rLst r).at xs] ∧ K ((rTup r).at xs) cs1) : Ev (tCB (fun xs H Q => ∃ p ys, xs = [.ref p] ∧ ((SqL KF H p ys ∧ ∀ l, H l = none → Q (.ref l) (upd H l (.tup ys))) ∨ (SqT KF H p ys ∧ Q (.ref p) H))) t) W G T cs K := fun s H st Q q => by
  refine h s H st _ fun sls cs1 ⟨α, r, xs, e, k⟩ vs H1 ⟨F, c, sg, tm, ar⟩ => ?_
  subst e
  obtain ⟨v, rfl, hz, a, us, rfl, hF, hA⟩ := args1 ar
  refine ⟨a, us, rfl, .inl ⟨SqL.of (c.fh _ _ hF), fun p hp => ?_⟩⟩
  have sF : Same F (upd F p (.tup us)) := same_upd (c.fh.free hp)
  exact q _ _ k _ _ ⟨_, c.new hp, sg.mono sF, (tm.mono sF).cons ⟨hz, p, us, rfl, (.inl upd_same), hA.imp fun _ _ z => r.mono sF z⟩⟩
theorem e_tupC (j : Nat) (h : EvA t W G T cs fun sls cs1 => ∃ (α : Type) (p : Addr) (r : R α) (xs : List α), sls = [sRef p] ∧ cs1[j]? = some (p, cLst r xs) ∧ K ((rTup r).at xs) cs1) : Ev (tCB (fun xs H Q => ∃ p ys, xs = [.ref p] ∧ ((SqL KF H p ys ∧ ∀ l, H l = none → Q (.ref l) (upd H l (.tup ys))) ∨ (SqT KF H p ys ∧ Q (.ref p) H))) t) W G T cs K := fun s H st Q q => by
  refine h s H st _ fun sls cs1 ⟨α, p, r, xs, e, hj, k⟩ vs H1 ⟨F, c, sg, tm, ar⟩ => ?_
  subst e
  obtain ⟨v, rfl, ev⟩ := args1 ar
  obtain ⟨hz, us, hH, hA⟩ := c.lst hj
  have ev' : v = .ref p := ev
  subst ev'
  refine ⟨p, us, rfl, .inl ⟨SqL.of hH, fun l hl => ?_⟩⟩
  have sF : Same F (upd F l (.tup us)) := same_upd (c.fh.free hl)
  exact q _ _ k _ _ ⟨_, c.new hl, sg.mono sF, (tm.mono sF).cons ⟨hz, l, us, rfl, (.inl upd_same), hA.imp fun _ _ z => r.mono sF z⟩⟩
def oApp (xs : List α) (x : α) : Option (List α) := if xs.length < sizeLine then some (xs ++ [x]) else none
theorem e_append (j : Nat) (ho : Ev to W G T cs fun so cs1 => ∃ (α : Type) (p : Addr) (r : R α) (xs0 : List α), so = sRef p ∧ cs1[j]? = some (p, cLst r xs0) ∧ ∀ vo, EvA t W G ((vo, so) :: T) cs1 fun sls cs2 => ∃ (xs ys : List α) (x : α), sls = [r.at x] ∧ cs2[j]? = some (p, cLst r xs) ∧ oApp xs x = some ys ∧ K (rNon.at ()) (cs2.set j (p, cLst r ys))) :
    Ev (tBM KF "list" rAppend to t) W G T cs K := fun s H st Q q => by
  refine ho s H st _ fun so cs1 ⟨α, p, r, xs0, e, hj1, h1⟩ vo H1 st1 => ?_
  subst e
  obtain ⟨F1, c1, sg1, tm1⟩ := id st1
  have eo : vo = .ref p := tm1.head
  subst eo
  obtain ⟨_, us0, hH0, _⟩ := c1.lst hj1
  refine ⟨.inl ⟨rfl, _, SqL.of hH0⟩, h1 _ s H1 st1 _ fun sls cs2 ⟨xs, ys, x, e2, hj2, hy, k⟩ vs H2 ⟨F, c, sg, tm, ar⟩ => ?_⟩
  subst e2
  obtain ⟨v, rfl, pv⟩ := args1 ar
  obtain ⟨hz, us, hH, hA⟩ := c.lst hj2
  obtain ⟨hlt, e⟩ := of_ite hy
  subst e
  refine ⟨p, us, v, rfl, rfl, hH, by rw [← hA.length]; exact hlt, q _ _ k _ _ ⟨F, c.write hj2 ⟨by rw [List.length_append, List.length_singleton]; exact hlt, _, rfl, hA.app (.cons pv .nil)⟩, sg, tm.tail.cons rfl⟩⟩
theorem e_abs (h : EvA t W G T cs fun sls cs1 => ∃ i, sls = [rInt.at i] ∧ K (rInt.at (i.natAbs : Int)) cs1) : Ev (tCB (fun xs H Q => ∃ i, xs = [.int i] ∧ Q (.int (if i < 0 then -i else i)) H) t) W G T cs K := fun s H st Q q => by
  refine h s H st _ fun sls cs1 ⟨i, e, k⟩ vs H1 ⟨F, c, sg, tm, ar⟩ => ?_
  subst e
  obtain ⟨v, rfl, ev⟩ := args1 ar
  have ev' : v = .int i := ev
  subst ev'
  refine ⟨i, rfl, q _ _ k _ H1 ⟨F, c, sg, tm.cons ?_⟩⟩
  show V.int _ = V.int _
  congr 1
  split <;> omega
theorem e_max2 (h : EvA t W G T cs fun sls cs1 => ∃ i j : Int, sls = [rInt.at i, rInt.at j] ∧ K (rInt.at (max i j)) cs1) : Ev (tCB (fun xs H Q => ∃ i j, xs = [.int i, .int j] ∧ Q (.int (if j > i then j else i)) H) t) W G T cs K := fun s H st Q q => by
  refine h s H st _ fun sls cs1 ⟨i, j, e, k⟩ vs H1 ⟨F, c, sg, tm, ar⟩ => ?_
  subst e
  have e := args2 ar
  subst e
  refine ⟨i, j, rfl, q _ _ k _ H1 ⟨F, c, sg, tm.cons ?_⟩⟩
  show V.int _ = V.int _
  congr 1
  split <;> omega
theorem e_min2 (h : EvA t W G T cs fun sls cs1 => ∃ i j : Int, sls = [rInt.at i, rInt.at j] ∧ K (rInt.at (min i j)) cs1) : Ev (tCB (fun xs H Q => ∃ i j, xs = [.int i, .int j] ∧ Q (.int (if j < i then j else i)) H) t) W G T cs K := fun s H st Q q => by
  refine h s H st _ fun sls cs1 ⟨i, j, e, k⟩ vs H1 ⟨F, c, sg, tm, ar⟩ => ?_
  subst e
  have e := args2 ar
  subst e
  refine ⟨i, j, rfl, q _ _ k _ H1 ⟨F, c, sg, tm.cons ?_⟩⟩
  show V.int _ = V.int _
  congr 1
  split <;> omega
theorem e_intB (h : EvA t W G T cs fun sls cs1 => ∃ b : Bool, sls = [rBool.at b] ∧ K (rInt.at (if b then 1 else 0)) cs1) : Ev (tCB (fun xs H Q => (∃ i, xs = [.int i] ∧ Q (.int i) H) ∨ ∃ k, xs = [.bl k] ∧ Q (.int (if k then 1 else 0)) H) t) W G T cs K := fun s H st Q q => by
  refine h s H st _ fun sls cs1 ⟨b, e, k⟩ vs H1 ⟨F, c, sg, tm, ar⟩ => ?_
  subst e
  obtain ⟨v, rfl, ev⟩ := args1 ar
  have ev' : v = .bl b := ev
  subst ev'
  exact .inr ⟨b, rfl, q _ _ k _ H1 ⟨F, c, sg, tm.cons rfl⟩⟩
theorem all2_bl {F : Hp} : ∀ {bs : List Bool} {us : List V}, All2 (fun x u => rBool.p x F u) bs us → us = bs.map V.bl
  | _, _, .nil => rfl
  | _, _, .cons p q => by rw [List.map_cons, ← all2_bl q, show _ = V.bl _ from p]
theorem e_all (h : EvA t W G T cs fun sls cs1 => ∃ bs, sls = [(rLst rBool).at bs] ∧ K (rBool.at (bs.all id)) cs1) : Ev (tCB (rAll KF) t) W G T cs K := fun s H st Q q => by
  refine h s H st _ fun sls cs1 ⟨bs, e, k⟩ vs H1 ⟨F, c, sg, tm, ar⟩ => ?_
  subst e
  obtain ⟨v, rfl, hz, a, us, rfl, hF, hA⟩ := args1 ar
  exact ⟨a, bs, rfl, SqL.of (by rw [← all2_bl hA]; exact c.fh _ _ hF), q _ _ k _ H1 ⟨F, c, sg, tm.cons rfl⟩⟩
structure REq {α : Type} [DecidableEq α] (r : R α) where
  d : α → PyData
  ok : ∀ {K : PySem.W.Frag} {F H : Hp} {a : α} {v : V}, r.p a F v → Same F H → Dp K H v (d a)
  lay : ∀ a, (d a).canLay0 = true
  n : Nat
  dep : ∀ a, (d a).depth ≤ n
  eqv : ∀ a b, PyData.eqv (d a) (d b) = decide (a = b)
def eInt : REq rInt where
  d := .int
  ok := fun {K F H a v} h _ => by have e : v = .int a := h; subst e; exact Dp.int a
  lay := fun _ => rfl
  n := 1
  dep := fun a => by simp [PyData.depth]
  eqv := fun a b => by simp [PyData.eqv, Bool.beq_eq_decide_eq]
def eBool : REq rBool where
  d := .bool
  ok := fun {K F H a v} h _ => by have e : v = .bl a := h; subst e; exact Dp.bl a
  lay := fun _ => rfl
  n := 1
  dep := fun a => by simp [PyData.depth]
  eqv := fun a b => by simp [PyData.eqv, Bool.beq_eq_decide_eq]
theorem dpAll {r : R α} [DecidableEq α] (e : REq r) {K : PySem.W.Frag} {F H : Hp} (s : Same F H) : ∀ {xs : List α} {us : List V}, All2 (fun x u => r.p x F u) xs us → DpAll K H us (xs.map e.d)
  | _, _, .nil => .nil
  | _, _, .cons p q => .cons (e.ok p s) (dpAll e s q)
theorem layAll {r : R α} [DecidableEq α] (e : REq r) : ∀ xs : List α, PyData.canLayAll0 (xs.map e.d) = true
  | [] => rfl
  | x :: xs => by rw [List.map_cons, PyData.canLayAll0, e.lay x, layAll e xs]; rfl
theorem depAll {r : R α} [DecidableEq α] (e : REq r) : ∀ xs : List α, PyData.depthAll (xs.map e.d) ≤ e.n
  | [] => by simp [PyData.depthAll]
  | x :: xs => by
    rw [List.map_cons, PyData.depthAll]
    have h1 := e.dep x
    have h2 := depAll e xs
    omega
theorem eqvAll {r : R α} [DecidableEq α] (e : REq r) : ∀ xs ys : List α, PyData.eqvAll (xs.map e.d) (ys.map e.d) = decide (xs = ys)
  | [], [] => by simp [PyData.eqvAll]
  | [], _ :: _ => by simp [PyData.eqvAll]
  | _ :: _, [] => by simp [PyData.eqvAll]
  | x :: xs, y :: ys => by
    rw [List.map_cons, List.map_cons, PyData.eqvAll, e.eqv, eqvAll e xs ys]
    by_cases h1 : x = y <;> by_cases h2 : xs = ys <;> simp [h1, h2]
def eTup {r : R α} [DecidableEq α] (e : REq r) : REq (rTup r) where
  d := fun xs => .tuple (xs.map e.d)
  ok := fun {K F H a v} h s => by
    obtain ⟨_, p, vs, rfl, h2, h3⟩ := h
    exact Dp.tup (TupA.sq s h2) (dpAll e s h3)
  lay := fun xs => by rw [PyData.canLay0]; exact layAll e xs
  n := e.n + 1
  dep := fun xs => by
    rw [PyData.depth]
    have := depAll e xs
    omega
  eqv := fun a b => by rw [PyData.eqv]; exact eqvAll e a b
def eLst {r : R α} [DecidableEq α] (e : REq r) : REq (rLst r) where
  d := fun xs => .list (xs.map e.d)
  ok := fun {K F H a v} h s => by
    obtain ⟨_, p, vs, rfl, h2, h3⟩ := h
    exact Dp.lst (SqL.of (s _ _ h2)) (dpAll e s h3)
  lay := fun xs => by rw [PyData.canLay0]; exact layAll e xs
  n := e.n + 1
  dep := fun xs => by
    rw [PyData.depth]
    have := depAll e xs
    omega
  eqv := fun a b => by rw [PyData.eqv]; exact eqvAll e a b
def ePair {r : R α} {r' : R β} [DecidableEq α] [DecidableEq β] (e : REq r) (e' : REq r') : REq (rPair r r') where
  d := fun x => .tuple [e.d x.1, e'.d x.2]
  ok := fun {K F H a v} h s => by
    obtain ⟨p, u, w, rfl, h2, h3, h4⟩ := h
    exact Dp.tup (TupA.sq s h2) (.cons (e.ok h3 s) (.cons (e'.ok h4 s) .nil))
  lay := fun x => by simp [PyData.canLay0, PyData.canLayAll0, e.lay, e'.lay]
  n := max e.n e'.n + 1
  dep := fun x => by
    have h1 := e.dep x.1
    have h2 := e'.dep x.2
    simp only [PyData.depth, PyData.depthAll]
    omega
  eqv := fun a b => by
    obtain ⟨a1, a2⟩ := a
    obtain ⟨b1, b2⟩ := b
    simp only [PyData.eqv, PyData.eqvAll, e.eqv, e'.eqv, Bool.and_true]
    by_cases h1 : a1 = b1 <;> by_cases h2 : a2 = b2 <;> simp [h1, h2]
theorem REq.shaped {r : R α} [DecidableEq α] (e : REq r) (hn : e.n ≤ 64) (a : α) : SeqAt.shaped (e.d a) = true := by
  unfold SeqAt.shaped
  rw [e.lay a, decide_eq_true (Nat.le_trans (e.dep a) hn)]
  rfl
theorem e_eqD (ha : Ev ta W G T cs fun sa cs1 => ∀ va, Ev tb W G ((va, sa) :: T) cs1 fun sb cs2 => ∃ (α : Type) (_ : DecidableEq α) (r : R α) (e : REq r) (x y : α), e.n ≤ 64 ∧ sa = r.at x ∧ sb = r.at y ∧ K (rBool.at (decide (x = y))) cs2) :
    Ev (tOp (rEqD KF) ta tb) W G T cs K := fun s H st Q q => by
  refine ha s H st _ fun sa cs1 h1 va H1 st1 => ?_
  refine h1 va s H1 st1 _ fun sb cs2 ⟨α, _, r, e, x, y, hn, e1, e2, k⟩ vb H2 ⟨F, c, sg, tm⟩ => ?_
  subst e1 e2
  have pb : r.p y F vb := tm.head
  have pa : r.p x F va := tm.tail.head
  refine ⟨_, _, e.ok pa c.fh, e.ok pb c.fh, e.shaped hn x, e.shaped hn y, ?_⟩
  rw [e.eqv]
  exact q _ _ k _ H2 ⟨F, c, sg, tm.tail.tail.cons rfl⟩
theorem e_neD (ha : Ev ta W G T cs fun sa cs1 => ∀ va, Ev tb W G ((va, sa) :: T) cs1 fun sb cs2 => ∃ (α : Type) (_ : DecidableEq α) (r : R α) (e : REq r) (x y : α), e.n ≤ 64 ∧ sa = r.at x ∧ sb = r.at y ∧ K (rBool.at (!decide (x = y))) cs2) :
    Ev (tOp (rNeD KF) ta tb) W G T cs K := fun s H st Q q => by
  refine ha s H st _ fun sa cs1 h1 va H1 st1 => ?_
  refine h1 va s H1 st1 _ fun sb cs2 ⟨α, _, r, e, x, y, hn, e1, e2, k⟩ vb H2 ⟨F, c, sg, tm⟩ => ?_
  subst e1 e2
  have pb : r.p y F vb := tm.head
  have pa : r.p x F va := tm.tail.head
  refine ⟨_, _, e.ok pa c.fh, e.ok pb c.fh, e.shaped hn x, e.shaped hn y, ?_⟩
  rw [e.eqv]
  exact q _ _ k _ H2 ⟨F, c, sg, tm.tail.tail.cons rfl⟩

def spM {ι β : Type} (A : ι → List Sl) (ci : ι → Cells) (m : ι → Option β) (res : ι → β → Sl) (co : ι → β → Cells) : Sp := fun vs H Q _ =>
  ∃ (i : ι) (b : β) (W : Wd), m i = some b ∧ Core W W.F (ci i) H ∧ Args W.F (A i) vs ∧ Rt Q W (res i b) (co i b)
theorem spM_len {ι β : Type} {A : ι → List Sl} {ci : ι → Cells} {m : ι → Option β} {res : ι → β → Sl} {co : ι → β → Cells} {n : Nat} {vs : List V} {H : Hp} {Q : VK} {E : XK} (h : spM A ci m res co vs H Q E) (hA : ∀ i, (A i).length = n) : vs.length = n := by
  obtain ⟨i, b, W, _, _, ar, _⟩ := h
  rw [← hA i]
  exact ar.length.symm
open Classical in
noncomputable def Wd.sub (F H : Hp) (us : Cells) : Wd := ⟨F, fun a => if F a = none ∧ ∀ x ∈ us, x.1 ≠ a then H a else none⟩
theorem Core.sub {F H : Hp} {us rest : Cells} (c : Core W F (us ++ rest) H) : Core (Wd.sub F H us) F us H := by
  refine ⟨Same.refl F, c.fh, fun a o e => ?_, fun a o e => ?_, (c.drop (List.sublist_append_left _ _)).nd, fun x hx => ?_⟩
  · unfold Wd.sub at e; dsimp only at e
    split at e
    · exact e
    · cases e
  · unfold Wd.sub at e; dsimp only at e
    split at e
    · rename_i h; exact h.1
    · cases e
  · obtain ⟨h1, h2, o, h3, h4⟩ := c.cell x (List.mem_append_left _ hx)
    refine ⟨h1, ?_, o, h3, h4⟩
    unfold Wd.sub; dsimp only
    rw [if_neg]
    exact fun z => z.2 x hx rfl
theorem Core.unsub {F F2 H H2 : Hp} {us rest co : Cells} (c : Core W F (us ++ rest) H) (c2 : Core (Wd.sub F H us) F2 co H2) : Core W F2 (co ++ rest) H2 := by
  have bB : ∀ a o, H a = some o → F a = none → (∀ x ∈ us, x.1 ≠ a) → (Wd.sub F H us).B a = some o := fun a o e hf hu => by
    unfold Wd.sub; dsimp only
    rw [if_pos ⟨hf, hu⟩]; exact e
  have bw : ∀ a o, W.B a = some o → (Wd.sub F H us).B a = some o := fun a o e => bB a o (c.bh a o e) (c.bf a o e) fun x hx z => by
    have := (c.cell x (List.mem_append_left _ hx)).2.1
    rw [z, e] at this; cases this
  have br : ∀ x ∈ rest, ∃ o, H x.1 = some o ∧ x.2.p F o ∧ (Wd.sub F H us).B x.1 = some o := fun x hx => by
    obtain ⟨h1, h2, o, h3, h4⟩ := c.cell x (List.mem_append_right _ hx)
    refine ⟨o, h3, h4, bB _ _ h3 h1 fun y hy e => ?_⟩
    have nd := c.nd
    rw [List.map_append, List.nodup_append] at nd
    exact nd.2.2 y.1 (List.mem_map_of_mem hy) x.1 (List.mem_map_of_mem hx) e
  refine ⟨c.f0.trans c2.f0, c2.fh, fun a o e => c2.bh a o (bw a o e), fun a o e => c2.bf a o (bw a o e), ?_, fun x hx => ?_⟩
  · rw [List.map_append, List.nodup_append]
    refine ⟨c2.nd, (c.drop (List.sublist_append_right _ _)).nd, fun a ha b hb e => ?_⟩
    obtain ⟨x, hx, ex⟩ := List.mem_map.mp ha
    obtain ⟨y, hy, ey⟩ := List.mem_map.mp hb
    obtain ⟨o, _, _, h⟩ := br y hy
    have h0 := (c2.cell x hx).2.1
    rw [ex, e, ← ey, h] at h0
    cases h0
  · rcases List.mem_append.mp hx with hx | hx
    · obtain ⟨a1, a2, a3⟩ := c2.cell x hx
      refine ⟨a1, ?_, a3⟩
      cases e : W.B x.1 with
      | none => rfl
      | some o => rw [bw _ _ e] at a2; cases a2
    · obtain ⟨o, h3, h4, hb⟩ := br x hx
      exact ⟨c2.bf _ _ hb, (c.cell x (List.mem_append_right _ hx)).2.1, o, c2.bh _ _ hb, x.2.mono c2.f0 h4⟩
theorem e_call {ι β : Type} {A : ι → List Sl} {ci : ι → Cells} {m : ι → Option β} {res : ι → β → Sl} {co : ι → β → Cells} {E : XK}
    (h : EvA t W G T cs fun sls cs1 => ∃ (i : ι) (b : β) (rest : Cells), m i = some b ∧ sls = A i ∧ cs1 = ci i ++ rest ∧ K (res i b) (co i b ++ rest)) : Ev (tCall (spM A ci m res co) [] E t) W G T cs K := fun s H st Q q => by
  refine h s H st _ fun sls cs1 ⟨i, b, rest, hm, e1, e2, k⟩ vs H1 ⟨F, c, sg, tm, ar⟩ => ?_
  subst e1 e2
  rw [List.append_nil]
  refine ⟨i, b, Wd.sub F H1 (ci i), hm, c.sub, ar, fun v H2 ⟨F2, c2, pv⟩ => ?_⟩
  have sF : Same F F2 := c2.f0
  exact q _ _ k v H2 ⟨F2, c.unsub c2, sg.mono sF, (tm.mono sF).cons pv⟩
theorem Sta.enter {N : List Str} {sls : List Sl} {vs : List V} {F H : Hp} (c : Core W W.F cs H) (ar : Args W.F sls vs) (hn : sls.length ≤ N.length) : Sta W (sls.map some ++ List.replicate (N.length - sls.length) none) [] cs (L2.start N vs) H := by
  refine ⟨W.F, c, ⟨?_, fun i sl hi => ?_⟩, Temps.nil⟩
  · unfold L2.start
    have := ar.length
    simp only [List.length_append, List.length_map, List.length_replicate]
    omega
  · have hl := ar.length
    by_cases h : i < sls.length
    · rw [List.getElem?_append_left (by simpa using h), List.getElem?_map, List.getElem?_eq_getElem h] at hi
      simp at hi
      obtain ⟨v, h1, h2⟩ := ar.get (List.getElem?_eq_getElem h)
      refine ⟨v, ?_, by rw [← hi]; exact h2⟩
      unfold L2.start
      rw [List.getElem?_append_left (by simp; omega), List.getElem?_map, h1]
      rfl
    · rw [List.getElem?_append_right (by simp; omega), List.getElem?_replicate] at hi
      split at hi <;> cases hi
theorem body {N : List Str} {sls : List Sl} {vs : List V} {H : Hp} {P : L2.St → Hp → Prop} (c : Core W W.F cs H) (ar : Args W.F sls vs) (hn : sls.length ≤ N.length) (h : NxT P W (sls.map some ++ List.replicate (N.length - sls.length) none) [] cs) : P (L2.start N vs) H := h _ _ (Sta.enter (F := W.F) c ar hn)
end
end ML

namespace ML
open PySem PySem.Spec PyProof.Rows L2

section
variable {nx bk ct : L2.St → Hp → Prop} {rt : VK}
variable {W : Wd} {G G' : Gam} {T : Tms} {cs : Cells} {K : Sl → Cells → Prop} {KB : Bool → Cells → Prop} {ta tb tc te to ti : TE} {tt tu : TT} {D : Ends} {t1 t2 : TS} {t : TA} {α β γ ρ : Type} {KF : PySem.W.Frag}
theorem s_par {i j : Nat} (h : EvA t W G T cs fun sls cs1 => ∃ a b, sls = [a, b] ∧ NxT nx W ((G.set i (some a)).set j (some b)) T cs1) : NxT (tPar i j t ⟨nx, rt, bk, ct⟩) W G T cs := fun s H st => by
  refine h s H st _ fun sls cs1 ⟨a, b, e, k⟩ vs H1 ⟨F, c, sg, tm, ar⟩ => ?_
  subst e
  obtain ⟨v, w, rfl, h1, h2⟩ := args2' ar
  exact ⟨v, w, rfl, k _ H1 ⟨F, c, (sg.set h1).set h2, tm⟩⟩
def rScr (KF : PySem.W.Frag) : R (List Int) := ⟨fun ns F v => ns.length ≤ 63 ∧ ∃ a, v = .ref a ∧ SqL KF F a (ns.map V.int), fun e ⟨h0, a, h1, h2⟩ => ⟨h0, a, h1, e.seq h2⟩⟩
theorem e_lenS (h : EvA t W G T cs fun sls cs1 => ∃ xs, sls = [(rScr KF).at xs] ∧ K (rInt.at (xs.length : Int)) cs1) : Ev (tCB (fun xs H Q => ∃ p ys, xs = [.ref p] ∧ (SqL KF H p ys ∨ SqT KF H p ys) ∧ Q (.int ys.length) H) t) W G T cs K := fun s H st Q q => by
  refine h s H st _ fun sls cs1 ⟨xs, e, k⟩ vs H1 ⟨F, c, sg, tm, ar⟩ => ?_
  subst e
  obtain ⟨v, rfl, hz, a, rfl, hA⟩ := args1 ar
  exact ⟨a, _, rfl, .inl (c.fh.seq hA), q _ _ k _ H1 ⟨F, c, sg, tm.cons (by rw [List.length_map]; rfl)⟩⟩
theorem e_ixS (ha : Ev ta W G T cs fun sa cs1 => ∀ va, Ev tb W G ((va, sa) :: T) cs1 fun sb cs2 => ∃ (xs : List Int) (i x : Int), sa = (rScr KF).at xs ∧ sb = rInt.at i ∧ atI xs i = some x ∧ K (rInt.at x) cs2) :
    Ev (tOp (rIxL KF) ta tb) W G T cs K := fun s H st Q q => by
  refine ha s H st _ fun sa cs1 h1 va H1 st1 => ?_
  refine h1 va s H1 st1 _ fun sb cs2 ⟨xs, i, x, e1, e2, hx, k⟩ vb H2 ⟨F, c, sg, tm⟩ => ?_
  subst e1 e2
  obtain ⟨hz, a, rfl, hA⟩ := tm.tail.head
  have eb : vb = .int i := tm.head
  refine ⟨a, _, i, .int x, rfl, eb, c.fh.seq hA, ?_, q _ _ k _ H2 ⟨F, c, sg, tm.tail.tail.cons rfl⟩⟩
  unfold atI at hx ⊢
  rw [List.length_map]
  cases e : ixN xs.length i with
  | none => rw [e] at hx; cases hx
  | some j =>
    rw [e] at hx
    have hx' : xs[j]? = some x := hx
    show (xs.map V.int)[j]? = _
    rw [List.getElem?_map, hx']
    rfl
theorem t_yes (k : KB true cs) : Et tYes W G T cs KB := fun s H st Q q => q true cs k H st
theorem lcO_map (f : α → γ) : ∀ xs : List α, lcO (fun (u : Unit) x => some (some (f x), u)) xs () = some (xs.map f, ())
  | [] => rfl
  | x :: xs => by unfold lcO; simp only [lcO_map f xs]; rfl
theorem lcO_filter (c : α → Bool) (f : α → γ) : ∀ xs : List α, lcO (fun (u : Unit) x => bif c x then some (some (f x), u) else some (none, u)) xs () = some ((xs.filter c).map f, ())
  | [] => rfl
  | x :: xs => by
    unfold lcO
    cases h : c x with
    | true => simp only [lcO_filter c f xs, cond_true]; rw [List.filter_cons_of_pos h]; rfl
    | false => simp only [lcO_filter c f xs, cond_false]; rw [List.filter_cons_of_neg (by rw [h]; exact Bool.false_ne_true)]
def mapO (f : α → Option (Option γ)) : List α → Option (List γ)
  | [] => some []
  | x :: xs => match f x with
    | none => none
    | some o => match mapO f xs with
      | none => none
      | some ys => some (match o with | some y => y :: ys | none => ys)
theorem lcO_mapO (f : α → Option (Option γ)) : ∀ (xs : List α) (ys : List γ), mapO f xs = some ys → lcO (fun (u : Unit) x => (f x).map fun o => (o, u)) xs () = some (ys, ())
  | [], ys, h => by cases h; rfl
  | x :: xs, ys, h => by
    unfold mapO at h
    unfold lcO
    cases e : f x with
    | none => rw [e] at h; cases h
    | some o =>
      rw [e] at h
      dsimp only at h
      cases e2 : mapO f xs with
      | none => rw [e2] at h; cases h
      | some zs =>
        rw [e2] at h
        dsimp only at h
        simp only [Option.map_some, lcO_mapO f xs zs e2]
        cases h
        rfl
theorem bindE {m : Option α} {f : α → Option β} {r : β} (h : (m >>= f) = some r) : ∃ a, m = some a ∧ f a = some r := by
  cases m with
  | none => cases h
  | some a => exact ⟨a, rfl, h⟩
theorem condT {c : Bool} {a b x : α} (hc : c = true) (h : (bif c then a else b) = x) : a = x := by rw [hc] at h; exact h
theorem condF {c : Bool} {a b x : α} (hc : c = false) (h : (bif c then a else b) = x) : b = x := by rw [hc] at h; exact h
theorem pureE {a r : α} (h : (pure a : Option α) = some r) : a = r := Option.some.inj h
theorem pureE' {a r : α} (h : (pure a : Option α) = some r) : r = a := (Option.some.inj h).symm
theorem andF {c : Bool} {d : Bool} (hc : c = false) : (c && d) = false := by rw [hc]; rfl
theorem andT {c : Bool} {d : Bool} (hc : c = true) : (c && d) = d := by rw [hc]; rfl
theorem orF {c : Bool} {d : Bool} (hc : c = false) : (c || d) = d := by rw [hc]; rfl
theorem orT {c : Bool} {d : Bool} (hc : c = true) : (c || d) = true := by rw [hc]; rfl
end
section
variable {nx bk ct : L2.St → Hp → Prop} {rt : VK}
variable {W : Wd} {G Gj : Gam} {T : Tms} {cs cj : Cells} {K : Sl → Cells → Prop} {ta tb te : TE} {tt : TT} {D : Ends} {t1 t2 : TS} {t : TA} {α γ : Type} {KF : PySem.W.Frag}
theorem s_ifJ (Gj : Gam) (cj : Cells) (h : Et tt W G T cs fun b cs1 => (b = true → ∀ N, NxT N W Gj T cj → NxT (t1 ⟨N, rt, bk, ct⟩) W G T cs1) ∧ (b = false → ∀ N, NxT N W Gj T cj → NxT (t2 ⟨N, rt, bk, ct⟩) W G T cs1)) (rest : NxT nx W Gj T cj) : NxT (tIfS tt t1 t2 ⟨nx, rt, bk, ct⟩) W G T cs :=
  s_if (h.imp fun b cs1 ⟨h1, h2⟩ => ⟨fun e => h1 e nx rest, fun e => h2 e nx rest⟩)
theorem mapU {f : Option (Option γ)} {u u1 : Unit} {o : Option γ} (h : (f.map fun o => (o, u)) = some (o, u1)) : f = some o ∧ u1 = u := by
  cases f with
  | none => cases h
  | some p => cases h; exact ⟨rfl, rfl⟩
theorem e_neC (j : Nat) (ha : Ev ta W G T cs fun sa cs1 => ∀ va, Ev tb W G ((va, sa) :: T) cs1 fun sb cs2 => ∃ (α : Type) (_ : DecidableEq α) (r : R α) (e : REq r) (p : Addr) (x y : List α), e.n ≤ 60 ∧ sa = sRef p ∧ cs2[j]? = some (p, cLst r x) ∧ sb = (rLst r).at y ∧ K (rBool.at (!decide (x = y))) cs2) :
    Ev (tOp (rNeD KF) ta tb) W G T cs K := fun s H st Q q => by
  refine ha s H st _ fun sa cs1 h1 va H1 st1 => ?_
  refine h1 va s H1 st1 _ fun sb cs2 ⟨α, _, r, e, p, x, y, hn, e1, hj, e2, k⟩ vb H2 ⟨F, c, sg, tm⟩ => ?_
  subst e1 e2
  obtain ⟨hz, vs, hH, hA⟩ := c.lst hj
  have pb : (rLst r).p y F vb := tm.head
  have pa : va = .ref p := tm.tail.head
  subst pa
  refine ⟨_, _, Dp.lst (SqL.of hH) (dpAll e c.fh hA), (eLst e).ok pb c.fh, (eLst e).shaped (show e.n + 1 ≤ 64 by omega) x, (eLst e).shaped (show e.n + 1 ≤ 64 by omega) y, ?_⟩
  rw [show PyData.eqv (.list (x.map e.d)) ((eLst e).d y) = decide (x = y) from (eLst e).eqv x y]
  exact q _ _ k _ H2 ⟨F, c, sg, tm.tail.tail.cons rfl⟩
end
abbrev rdLen (KF : PySem.W.Frag) : List V → Hp → VK → Prop := fun xs H Q => ∃ p ys, xs = [.ref p] ∧ (SqL KF H p ys ∨ SqT KF H p ys) ∧ Q (.int ys.length) H
abbrev rdTupleOf (KF : PySem.W.Frag) : List V → Hp → VK → Prop := fun xs H Q => ∃ p ys, xs = [.ref p] ∧ ((SqL KF H p ys ∧ ∀ l, H l = none → Q (.ref l) (upd H l (.tup ys))) ∨ (SqT KF H p ys ∧ Q (.ref p) H))
abbrev rdAbs : List V → Hp → VK → Prop := fun xs H Q => ∃ i, xs = [.int i] ∧ Q (.int (if i < 0 then -i else i)) H
abbrev rdMax2 : List V → Hp → VK → Prop := fun xs H Q => ∃ i j, xs = [.int i, .int j] ∧ Q (.int (if j > i then j else i)) H
abbrev rdMin2 : List V → Hp → VK → Prop := fun xs H Q => ∃ i j, xs = [.int i, .int j] ∧ Q (.int (if j < i then j else i)) H
abbrev rdInt1 : List V → Hp → VK → Prop := fun xs H Q => (∃ i, xs = [.int i] ∧ Q (.int i) H) ∨ ∃ k, xs = [.bl k] ∧ Q (.int (if k then 1 else 0)) H
abbrev rdAdd : R2 := rI0 fun i j => .int (i + j)
abbrev rdSub : R2 := rI0 fun i j => .int (i - j)
abbrev rdAnd : R2 := rI0 fun i j => .int (Builtin.bitAnd i j)
abbrev rdXor : R2 := rI0 fun i j => .int (Builtin.bitXor i j)
abbrev rdLt : R2 := rI0 fun i j => .bl (decide (i < j))
abbrev rdGt : R2 := rI0 fun i j => .bl (decide (j < i))
abbrev rdGe : R2 := rI0 fun i j => .bl (decide (j ≤ i))
abbrev rdMul : R2 := rI CMulX fun i j => .int (i * j)
abbrev rdDiv : R2 := rI CDivW fun i j => .int (i / j)
abbrev rdMod : R2 := rI (fun _ j => 0 < j) fun i j => .int (i % j)
abbrev rdPow : R2 := rI CPowW fun i j => .int (i ^ j.toNat)
abbrev rdShl : R2 := rI CShl fun i j => .int (i * 2 ^ j.toNat)
abbrev rdNeg : V → Hp → VK → Prop := rU fun i => .int (-i)
abbrev rdInv : V → Hp → VK → Prop := rU fun i => .int (Builtin.bitNot i)
def Cup := Int × Int × Int
def cCup (k : Cup) : Cl := cLst rInt [k.1, k.2.1, k.2.2]

theorem bt_len : bootBuiltins "len" = some (.builtin "len") := PySem.boot_len
theorem bt_all : bootBuiltins "all" = some (.builtin "all") := PyProof.Rows.boot_all
theorem bt_max : bootBuiltins "max" = some (.builtin "max") := PyProof.Rows.boot_max
theorem bt_min : bootBuiltins "min" = some (.builtin "min") := PyProof.Rows.boot_min
theorem bt_abs : bootBuiltins "abs" = some (.builtin "abs") := PyProof.Rows.boot_abs
theorem bt_repr : bootBuiltins "repr" = some (.builtin "repr") := PyProof.Rows.boot_repr
theorem bt_isinstance : bootBuiltins "isinstance" = some (.builtin "isinstance") := PyProof.Rows.boot_isinstance
theorem bt_int : bootBuiltins "int" = some (.type "int") := PyProof.Rows.boot_int
theorem bt_bool : bootBuiltins "bool" = some (.type "bool") := PyProof.Rows.boot_bool
theorem bt_tuple : bootBuiltins "tuple" = some (.type "tuple") := PyProof.Rows.boot_tuple
theorem bt_list : bootBuiltins "list" = some (.type "list") := PyProof.Rows.boot_list
end ML

namespace ML
open PySem PySem.Spec PyProof.Rows L2
section
variable {nx bk ct : L2.St → Hp → Prop} {rt : VK}
variable {W : Wd} {G G' : Gam} {T : Tms} {cs : Cells} {K : Sl → Cells → Prop} {KB : Bool → Cells → Prop} {ta tb tc te to ti : TE} {tt tu : TT} {D : Ends} {t1 t2 : TS} {t : TA} {α β γ ρ : Type} {KF : PySem.W.Frag}
theorem s_augI0 {i : Nat} {a : Int} {g : Int → Int → Int} (hi : G[i]? = some (some (rInt.at a))) (h : Ev te W G T cs fun sl cs1 => ∃ j, sl = rInt.at j ∧ NxT nx W (G.set i (some (rInt.at (g a j)))) T cs1) : NxT (tAug i te (rI0 fun i j => .int (g i j)) ⟨nx, rt, bk, ct⟩) W G T cs := fun s H st => by
  obtain ⟨F, c, sg, tm⟩ := id st
  obtain ⟨v, hv, pv⟩ := sg.2 i _ hi
  refine ⟨v, hv, h s H st _ fun sl cs1 ⟨j, e, k⟩ vb H1 ⟨F1, c1, sg1, tm1⟩ => ?_⟩
  subst e
  have ev : v = .int a := pv
  have eb : vb = .int j := tm1.head
  exact ⟨a, j, ev, eb, k _ H1 ⟨F1, c1, sg1.set (sl := rInt.at (g a j)) rfl, tm1.tail⟩⟩
def cutL (xs : List α) (lo hi : Option Int) : List α := (xs.drop (HT.sIx xs.length 0 lo)).take (HT.sIx xs.length xs.length hi - HT.sIx xs.length 0 lo)
theorem All2.cut {P : α → V → Prop} {xs : List α} {vs : List V} (a : All2 P xs vs) (lo hi : Option Int) : All2 P (cutL xs lo hi) (cutV vs lo hi) := by
  unfold cutL cutV
  rw [a.length]
  exact (a.drop _).take _
end
section
variable {nx bk ct : L2.St → Hp → Prop} {rt : VK}
variable {W : Wd} {G : Gam} {T : Tms} {cs : Cells} {K : Sl → Cells → Prop} {t : TA}
def spC {ι β : Type} (A : ι → List Sl) (ci : ι → Cells) (m : ι → Option β) (new : β → Cl) (co : ι → β → Cells) : Sp := fun vs H Q _ =>
  ∃ (i : ι) (b : β) (W : Wd), m i = some b ∧ Core W W.F (ci i) H ∧ Args W.F (A i) vs ∧ ∀ p, Rt Q W (sRef p) (co i b ++ [(p, new b)])
theorem spC_len {ι β : Type} {A : ι → List Sl} {ci : ι → Cells} {m : ι → Option β} {new : β → Cl} {co : ι → β → Cells} {n : Nat} {vs : List V} {H : Hp} {Q : VK} {E : XK} (h : spC A ci m new co vs H Q E) (hA : ∀ i, (A i).length = n) : vs.length = n := by
  obtain ⟨i, b, W, _, _, ar, _⟩ := h
  rw [← hA i]
  exact ar.length.symm
theorem e_callC {ι β : Type} {A : ι → List Sl} {ci : ι → Cells} {m : ι → Option β} {new : β → Cl} {co : ι → β → Cells} {E : XK}
    (h : EvA t W G T cs fun sls cs1 => ∃ (i : ι) (b : β) (rest : Cells), m i = some b ∧ sls = A i ∧ cs1 = ci i ++ rest ∧ ∀ p, K (sRef p) (co i b ++ [(p, new b)] ++ rest)) : Ev (tCall (spC A ci m new co) [] E t) W G T cs K := fun s H st Q q => by
  refine h s H st _ fun sls cs1 ⟨i, b, rest, hm, e1, e2, k⟩ vs H1 ⟨F, c, sg, tm, ar⟩ => ?_
  subst e1 e2
  rw [List.append_nil]
  refine ⟨i, b, Wd.sub F H1 (ci i), hm, c.sub, ar, fun p v H2 ⟨F2, c2, pv⟩ => ?_⟩
  have sF : Same F F2 := c2.f0
  exact q _ _ (k p) v H2 ⟨F2, c.unsub c2, sg.mono sF, (tm.mono sF).cons pv⟩
end
theorem only_core {H : Hp} {ns : List Int} {a : Addr} {KF : PySem.W.Frag} (hS : SqL KF H a (ns.map V.int)) : Core ⟨H, fun _ => none⟩ H [] H :=
  ⟨Same.refl H, Same.refl H, fun _ _ e => (by cases e), fun _ _ e => (by cases e), List.nodup_nil, fun _ h => absurd h (by simp)⟩
end ML

namespace ML
open PySem Spec PyProof.Rows L2

structure RoomG (k : Nat) (A : Around) : Prop where
  rm : Room k A
  gd : A.guards = some []
theorem RoomG.mono {j k : Nat} {A : Around} (r : RoomG k A) (h : j ≤ k) : RoomG j A := ⟨r.rm.mono h, r.gd⟩
theorem RoomG.units {k : Nat} {A : Around} (r : RoomG k A) : A.units + 64 < cLine := r.rm.units
theorem RoomG.deeper {k : Nat} {A : Around} (r : RoomG (k + 1) A) (env : Env) : RoomG k (A.deeper env) := ⟨r.rm.deeper env, r.gd⟩
structure FnG (P : Program) (w : World) (K : PySem.W.Frag) (mg : Str → Option Value) (base : Heap) (CX : CXT) (k : Nat) (f : Addr) (fd : FuncData) (ps : List Str) (sp : Sp) : Prop where
  len : ∀ vs H Q E, sp vs H Q E → vs.length = ps.length
  go : ∀ (A : Around) (ou : List Env) (s : Shared) (H : Hp) (ar : PySem.Args) (us : List Value) (vs : List V) (Q : VK) (E : XK), RoomG k A → Env0 P w K mg base A ou s H → BindsTo s fd ar (ps.zip us) → Vals vs us → sp vs H Q E →
    codeAny (model P w) A (.call (.ref f) ar) (CR CX ou P w H s Q E) s
section
variable {X : Cx} {CX : CXT} {k : Nat} {f : Addr} {fd : FuncData} {ps : List Str} {sp : Sp} {dvs : List V} {ds : List Value} {E : XK} {x : Str} {p pos : Pos} {e : Expr} {es : List Expr} {t : TA}
theorem run_fnG {pins : List (Addr × Obj)} {σ : L2.St} {H : Hp} {s : Shared} {Q : VK} {us : List Value} {vs : List V} (F : FnG X.prog X.w X.K X.mg X.base CX k f fd ps sp) (hr : RoomG k X.A) (hb : Binds X.K fd ps ds) (hd : Vals dvs ds) (hx : Passes CX X E)
    (I : Inv X pins σ H s) (r : Vals vs us) (h : sp (vs ++ dvs) H Q E) : wpAny (model X.prog X.w) X.A (call (.ref f) us) (EP X pins σ Q) X.xe s := by
  have r2 := r.append hd
  have hl : (us ++ ds).length = ps.length := r2.length.symm.trans (F.len _ _ _ _ h)
  have run := F.go X.A X.stack s H ⟨us, []⟩ _ _ Q E hr I.env0 (hb s us I.kIn hl) r2 h
  refine wpAny_call (codeAny_mono run fun r s' hq => ?_)
  match r, hq with
  | .error e, hq => exact hx pins σ H s e s' I hq
  | .ok (.ret u), hq => exact I.after hq
  | .ok .next, hq => exact False.elim hq
  | .ok .brk, hq => exact False.elim hq
  | .ok .cont, hq => exact False.elim hq
theorem pe_callG (F : FnG X.prog X.w X.K X.mg X.base CX k f fd ps sp) (hr : RoomG k X.A) (hg : Gl X x) (hm : X.mg x = some (.ref f)) (hk : PySem.W.keepIn X.K (.ref f) = true) (hb : Binds X.K fd ps ds) (hd : Vals dvs ds) (hx : Passes CX X E)
    (ha : PA X (e :: es) t) (h1 : (x == ("__debug__" : Str)) = false := by decide) (h2 : starEach (e :: es) X.env = (false, eval e X.env) :: starEach es X.env := by rfl) (h3 : (backTo pos (starEach es X.env)).any (·.1) = false := by rfl) :
    PE X (.Call (.Name x p) (e :: es) [] pos) (tCall sp dvs E t) := ⟨fun pins s σ H Q I h =>
  wpAny_Call_Name_kw (ld_glob I hg hm (PySem.W.callWith_K (h₀ := X.base) I.ok.mod.kin hk (thn (ha.run pos pins s σ H _ I h) fun us s1 ⟨vs, H1, I1, r, q⟩ => ⟨I1.kIn, run_fnG F hr hb hd hx I1 r q⟩) h2 h3) h1)⟩
end
theorem fn_G {CX : CXT} {P : Program} {w : World} {K : PySem.W.Frag} {mg : Str → Option Value} {base : Heap} {k : Nat} {f : Addr} {name qual : Str} {params : Arguments} {body : List Stmt} {scope : Scope} {dV kV doc pm cdv ct oc : Value} {an od : Option Addr}
    {osl : Array (Option Value)} {N ps : List Str} {sp : Sp} (lk : K.lookup f = some ⟨oc, od, .func (PySem.W.fnOf name qual params body scope dV kV doc pm an cdv ct), osl⟩) (hcd : PySem.W.codeIn K cdv qual = true) (S : FnScope N ps scope)
    (len : ∀ vs H Q E, sp vs H Q E → vs.length = ps.length)
    (hb : ∀ (A : Around) (ou : List Env) (s : Shared) (H : Hp) (vs : List V) (Q : VK) (E : XK), RoomG k (A.deeper (envOfC qual scope s.heap.objs.size f cdv)) → sp vs H Q E →
      ∃ t, PSs (cxOf CX P w K mg base N qual scope f cdv A ou s H E) body t ∧ t { nx := fun _ H' => Q .non H', rt := Q } (L2.start N vs) H) :
    FnG P w K mg base CX (k + 1) f (PySem.W.fnOf name qual params body scope dV kV doc pm an cdv ct) ps sp := by
  refine ⟨len, fun A ou s H ar us vs Q E hr e0 hbd r hsp => ?_⟩
  have hl := len _ _ _ _ hsp
  have old : ∀ b o, base.get? b = some o → s.heap.get? b = some o := fun b o e => (e0.bs b o e).1
  have KX : K.In s.heap := e0.mod.kin.keeps old
  have lim : s.heap.NoLimit := e0.mod.nolimit.keeps old
  have kinds : ∀ y ∈ ps.zip us, scope.names.lookup y.1 = some .local ∨ (scope.names.lookup y.1 = some .cell ∧ ((cellsFrom (s.heap.objs.size + 1) scope.names []).lookup y.1).isSome = true) := fun y hy =>
    (S.par y.1 (List.of_mem_zip hy).1).imp id fun q => ⟨q, PySem.W.cellsFrom_some _ _ _ (.inl q)⟩
  refine codeAny_call_function hr.rm.depth (KX _ _ lk) rfl S.co S.gen rfl (PySem.W.codeRec_of KX hcd) (hbd _ _ _ _ ?_)
  refine wpAny_newFunctionEnv_cells S.kind kinds fun env he s1 x => ?_
  subst he
  refine ⟨lim.keeps x.toInCall.keep, codeAny_func ?_⟩
  obtain ⟨t, ht, hq⟩ := hb A ou s H vs Q E (hr.deeper _) hsp
  refine wpAny_mono (ht.run [] s1 (L2.start N vs) H _ (inv_start S hr.rm.hd e0 hl r x) hq) (fun fl s' hs => ?_) fun e s' hs => hs
  match fl, hs with
  | .ret u, ⟨v, _, H', J, rv, q⟩ => exact ⟨v, H', J.os, J.bare, J.base, J.hok, rv, q⟩
  | .next, ⟨_, H', J, q⟩ => exact ⟨V.non, H', J.os, J.bare, J.base, J.hok, rfl, q⟩
  | .brk, ⟨_, _, _, q⟩ => exact False.elim q
  | .cont, ⟨_, _, _, q⟩ => exact False.elim q
theorem okG {P : Program} {w : World} {K : PySem.W.Frag} {mg : Str → Option Value} {base : Heap} {x qual : Str} {st : Stmt} {f : Addr} {fd : FuncData} {N ps : List Str} {k : Nat} {sp : Sp} (F : Fun K x qual st f fd) (S : FnScope N ps (defScope st)) (len : ∀ vs H Q E, sp vs H Q E → vs.length = ps.length)
    (hb : ∀ (cdv : Value) (A : Around) (ou : List Env) (s : Shared) (H : Hp) (vs : List V) (Q : VK) (E : XK), RoomG k (A.deeper (envOfC qual (defScope st) s.heap.objs.size f cdv)) → sp vs H Q E →
      ∃ t, PSs (cxOf CX0 P w K mg base N qual (defScope st) f cdv A ou s H E).nox (defBody st) t ∧ t { nx := fun _ H' => Q .non H', rt := Q } (L2.start N vs) H) : FnG P w K mg base CX0 (k + 1) f fd ps sp := by
  obtain ⟨oc, od, kV, doc, pm, an, cdv, ct, osl, rfl, lk, hcd⟩ := F.ex
  exact fn_G lk hcd S len fun A ou s H vs Q E hr hsp => let ⟨t, h, q⟩ := hb cdv A ou s H vs Q E hr hsp; ⟨t, h.nox, q⟩
theorem lawG {P : Program} {w : World} {K : PySem.W.Frag} {mg mb : Str → Option Value} {CX : CXT} {k : Nat} {fa a : Addr} {fd : FuncData} {x : Str} {sp : Sp} {s₁ : Shared} {vs : List Value} {ns : List Int}
    (KX : K.In s₁.heap) (hns : s₁.heap.Ns mainGlobals mg) (hb : s₁.heap.Ns builtinsNs mb) (hbb : ∀ x : Str, x ≠ "__name__" → mb x = bootBuiltins x) (hlim : s₁.heap.NoLimit) (hg : s₁.gens = #[])
    (ha : s₁.heap.get? a = some { cls := .type "list", data := .seq vs.toArray }) (hi : IntsAre vs ns) (hl : ns.length ≤ sizeLine) (hr : RoomG k callerA)
    (F : ∀ base : Heap, K.In base → base.Ns mainGlobals mg → FnG P w K mg base CX k fa fd [x] sp) (hbind : ∀ (s : Shared) (u : Value), BindsTo s fd ⟨[u], []⟩ [(x, u)])
    (hsp : ∀ H : Hp, Only H → SqL K H a (ns.map V.int) → sp [.ref a] H (fun v _ => v = .bl true) fun _ _ _ => False)
    (hCX : ∀ H e s', CX [] H s₁ (fun _ _ _ => False) e s' → False) :
    codeAny (model P w) callerA (.call (.ref fa) ⟨[.ref a], []⟩) (fun r s' => r = .ok (.ret (.bool true)) ∧ OldK s₁.heap s'.heap ∧ s'.os = s₁.os ∧ AllBare s'.gens) s₁ := by
  have rv := vals_ints hi
  have nl := hi.length
  have main : ∀ H : Hp, Only H → SqL K H a (ns.map V.int) → HOk P w H s₁.heap → (∀ b, H b ≠ none → b = a) → (H a ≠ none → K.lookup a = none) →
      codeAny (model P w) callerA (.call (.ref fa) ⟨[.ref a], []⟩) (fun r s' => r = .ok (.ret (.bool true)) ∧ OldK s₁.heap s'.heap ∧ s'.os = s₁.os ∧ AllBare s'.gens) s₁ := by
    intro H hO hS hok only kno
    have is_a : ∀ {b : Addr} {u : HO}, H b = some u → b = a := fun {b u} q => only b (by rw [q]; simp)
    have at_none : ∀ {b : Addr} {o : Obj}, s₁.heap.get? b = some o → H b = none → (hidT s₁.heap H).get? b = some o := fun e n => hidT_get e n
    have dict_none : ∀ {b : Addr} {o : Obj} {es : Array DictEntry} {ep : Nat}, s₁.heap.get? b = some o → o.data = .dict es ep → H b = none := fun {b o es ep} e d => by
      cases q : H b with
      | none => rfl
      | some u =>
        rw [is_a q, ha] at e
        cases e
        exact nomatch (show Data.seq vs.toArray _ = Data.dict es ep from d)
    have ns_of : ∀ {b : Addr} {m : Str → Option Value}, s₁.heap.Ns b m → (hidT s₁.heap H).Ns b m := fun {b m} ⟨o, es, ep, e, d, r⟩ => ⟨o, es, ep, at_none e (dict_none e d), d, r⟩
    have KB : K.In (hidT s₁.heap H) := fun b o e => at_none (KX b o e) (by
      cases q : H b with
      | none => rfl
      | some u =>
        rw [is_a q, kno (by rw [← is_a q, q]; simp)] at e
        cases e)
    have lim : (hidT s₁.heap H).NoLimit := let ⟨mc, h1, h2⟩ := hlim; ⟨mc, ns_of h1, h2⟩
    have e0 : Env0 P w K mg (hidT s₁.heap H) callerA [] s₁ H := ⟨rfl, ⟨KB, ns_of hns, ⟨mb, ns_of hb, hbb⟩, lim⟩, fun b o e => of_hidT e, Nat.le_of_eq (hidT_size _ _), trivial, fun b hb => absurd (show b ∈ ([] : List Addr) from hb) (by simp), hok, .of_eq hg⟩
    have run := (F _ KB (ns_of hns)).go callerA [] s₁ H ⟨[.ref a], []⟩ [.ref a] [.ref a] _ _ hr e0 (hbind s₁ (.ref a)) (.cons rfl .nil) (hsp H hO hS)
    refine codeAny_mono run fun r s' h => ?_
    match r, h with
    | .error e, h => exact (hCX H e s' h).elim
    | .ok .next, h => exact False.elim h
    | .ok .brk, h => exact False.elim h
    | .ok .cont, h => exact False.elim h
    | .ok (.ret u), ⟨v, H', os, bare, un, hok', r', q⟩ =>
      obtain rfl : v = .bl true := q
      obtain rfl : u = Value.bool true := r'
      refine ⟨rfl, OldK.of_keep fun b o e => ?_, os, bare⟩
      cases q : H b with
      | none => exact un.keep b o e q (fun z => absurd (show b ∈ ([] : List Addr) from z) (by simp)) (by simp)
      | some u =>
        rcases hO b with z | ⟨ob, xs, z⟩
        · rw [q] at z; cases z
        · obtain ⟨e1, _⟩ := hok b _ z
          obtain ⟨e2, _⟩ := hok' b _ (un.frzs b ob _ z)
          rw [e] at e1
          cases e1
          exact e2
  cases hk : K.lookup a with
  | some o =>
    have e := KX a o hk
    rw [ha] at e
    cases e
    exact main (fun _ => none) (fun _ => .inl rfl) (.inr ⟨_, vs.toArray, _, hk, rfl, rfl, rfl, by rw [List.size_toArray, nl]; exact hl, by simpa using rv⟩) (fun b u z => nomatch (show (none : Option HO) = some u from z)) (fun b z => absurd rfl z) fun z => absurd rfl z
  | none =>
    refine main (fun b => if b = a then some (.frz { cls := .type "list", data := .seq vs.toArray } (.lst (ns.map V.int))) else none) (fun b => ?_) (.inl (.inr ⟨{ cls := .type "list", data := .seq vs.toArray }, if_pos rfl⟩)) (fun b u z => ?_) (fun b z => ?_) fun _ => hk
    · by_cases c : b = a
      · exact .inr ⟨_, _, if_pos c⟩
      · exact .inl (if_neg c)
    · by_cases c : b = a
      · cases (if_pos c).symm.trans z
        subst c
        exact ⟨ha, by rw [List.length_map]; exact hl, vs, _, rv, ha⟩
      · cases (if_neg c).symm.trans z
    · by_cases c : b = a
      · exact c
      · exact absurd (if_neg c) z
theorem walk_G {l : PySem.W.OpenLaw} {n k : Nat} {q : Program} {loose : List Str} {XP : (Str → Option Value) → Heap → Prop} {YP : World → Heap → Prop} {d : DefRec} {K : Params → PySem.W.Frag} {CX : World → CXT} {sp : World → Sp} {x : Str}
    (hn : l.most = some n) (hn2 : n ≤ sizeLine) (hdf : d.params.defaults = []) (hr : RoomG k callerA)
    (hY : ∀ (w : World) (h : Heap), YP w h → (K w.params).In h)
    (F : ∀ (w : World) (mg : Str → Option Value) (fa : Addr) (h : Heap), (K w.params).In h → h.Ns mainGlobals mg → mg d.name = some (.ref fa) →
      ∃ fd : FuncData, (∀ (s : Shared) (u : Value), BindsTo s fd ⟨[u], []⟩ [(x, u)]) ∧
        ∀ base : Heap, (K w.params).In base → base.Ns mainGlobals mg → FnG l.prog w (K w.params) mg base (CX w) k fa fd [x] (sp w))
    (hsp : ∀ (w : World) (H : Hp) (a : Addr) (ns : List Int), ns.length ≤ n → Only H → SqL (K w.params) H a (ns.map V.int) → sp w [.ref a] H (fun v _ => v = .bl true) fun _ _ _ => False)
    (hCX : ∀ (w : World) (H : Hp) (s : Shared) (e : Value) (s' : Shared), CX w [] H s (fun _ _ _ => False) e s' → False) :
    PySem.W.WalkO q loose XP YP l.row.toRowW d [] (fun f vs => PySem.call f vs) :=
  Att.attach_call hn hdf fun w s₀ s₁ mg mb fa o pm cd doc a vs ns G Y ho hd hcd hmg hobj hints hlen hg =>
    let ⟨fd, hb, hF⟩ := F w mg fa _ (hY w _ Y) G.T.g hmg
    lawG (hY w _ Y) G.T.g G.T.b G.T.builtins G.T.nolimit hg hobj hints (Nat.le_trans hlen hn2) hr hF hb (fun H hO hS => hsp w H a ns hlen hO hS) fun H e s' => hCX w H s₁ e s'

theorem repr_any {prog : Program} {w : World} {A : Around} {E : Value → Shared → Prop} {s : Shared} {v : Value} {d : PyData} {as : List Addr} {Q : Value → Shared → Prop} (r : Reads s.heap v d as) (hs : d.showable = true) (hl : d.canLay0 = true)
    (hg : A.guards = some []) (hu : A.units + (d.depth + 1) < cLine) (hz : d.shown.length ≤ sizeLine)
    (hQ : ∀ h' u tk, (∀ b o, s.heap.get? b = some o → h'.get? b = some o) → Q (.str d.shown u) { s with heap := h', toks := tk }) : wpAny (model prog w) A (call (.builtin "repr") [v]) Q E s := by
  have same : ∀ b o, s.heap.get? b = some o → s.heap.get? b = some o := fun _ _ e => e
  cases r with
  | none => exact PySem.P.repr_of_none (hQ s.heap _ _ same)
  | bool b =>
    refine PySem.P.repr_of_bool ?_
    have := hQ s.heap s.toks (s.toks + 1) same
    simpa only [PyData.shown] using this
  | int i t =>
    refine PySem.P.repr_of_int (by simpa [PyData.showable] using hs) ?_
    have := hQ s.heap s.toks (s.toks + 1) same
    simpa only [PyData.shown] using this
  | str x t =>
    refine PySem.P.repr_of_str ?_ (by simpa only [PyData.shown] using hz)
    have := hQ s.heap s.toks (s.toks + 1) same
    simpa only [PyData.shown] using this
  | list h1 h2 h3 h4 => exact repr_of_reads' (.list h1 h2 h3 h4) hs (PyData.noDict_hsm (PyData.hasDict_of_canLay _ hl)) hg hu same hQ hz
  | tuple h1 h2 h3 h4 => exact repr_of_reads' (.tuple h1 h2 h3 h4) hs (PyData.noDict_hsm (PyData.hasDict_of_canLay _ hl)) hg hu same hQ hz
  | dict h1 h2 h3 h4 h5 => exact nomatch (show false = true from by simpa [PyData.canLay0] using hl)
def rRepr (K : PySem.W.Frag) : List V → Hp → VK → Prop := fun xs H Q => ∃ x d, xs = [x] ∧ Dp K H x d ∧ d.showable = true ∧ d.canLay0 = true ∧ d.depth ≤ 60 ∧ d.shown.length ≤ sizeLine ∧ Q (.str d.shown) H
theorem cr_repr {X : Cx} {k : Nat} (hr : RoomG k X.A) : CallR X (.builtin "repr") (rRepr X.K) := by
  intro pins s σ H xs us Q I r h
  obtain ⟨x, d, rfl, hd, hs, hl, hn, hz, q⟩ := h
  obtain ⟨u, rfl, ru⟩ := vals1 r
  obtain ⟨as, rd⟩ := Dp.reads I d x u hd ru
  have hu := hr.units
  exact repr_any rd hs hl hr.gd (by omega) hz fun h' u tk kp => ⟨.str _, H, I.kept (t' := tk) kp, ⟨_, rfl⟩, q⟩
section
variable {nx bk ct : L2.St → Hp → Prop} {rt : VK}
variable {W : Wd} {G : Gam} {T : Tms} {cs : Cells} {K : Sl → Cells → Prop} {t ta tb : TE}
def oRepr (d : PyData) : Option Str := if d.showable = true ∧ d.shown.length ≤ sizeLine then some d.shown else none
variable {KF : PySem.W.Frag}
theorem e_repr {t : TA} (h : EvA t W G T cs fun sls cs1 => ∃ (α : Type) (_ : DecidableEq α) (r : R α) (e : REq r) (x : α) (z : Str), sls = [r.at x] ∧ e.n ≤ 60 ∧ oRepr (e.d x) = some z ∧ K (rStr.at z) cs1) :
    Ev (tCB (rRepr KF) t) W G T cs K := fun s H st Q q => by
  refine h s H st _ fun sls cs1 ⟨α, _, r, e, x, z, e1, hn, ho, k⟩ vs H1 ⟨F, c, sg, tm, ar⟩ => ?_
  subst e1
  obtain ⟨v, rfl, hv⟩ : ∃ v, vs = [v] ∧ r.p x F v := by
    cases ar with
    | cons p a => cases a; exact ⟨_, rfl, p⟩
  unfold oRepr at ho
  split at ho
  · rename_i hh
    cases ho
    exact ⟨v, e.d x, rfl, e.ok hv c.fh, hh.1, e.lay x, Nat.le_trans (e.dep x) hn, hh.2, q _ _ k _ H1 ⟨F, c, sg, tm.cons rfl⟩⟩
  · cases ho
end
end ML

namespace ML
open PySem Spec PyProof.Rows L2
structure Rnd (m : Nat) : Prop where
  odd : m % 2 = 1
  big : m ≤ 4095
  one : m = 7 ∨ m = 31 ∨ m = 127 ∨ m = 511 ∨ m = 2047
  goes : ∀ i j, i ≤ m → j ≤ m → ∃ k, k ≤ m ∧ lcgI m i k = j
def sweep (m : Nat) : Nat → Nat → Nat → Nat
  | 0, _, acc => acc
  | k + 1, x, acc => sweep m k ((x * 5 + 1) % (m + 1)) (acc ||| 1 <<< x)
theorem lcg_front (m x : Nat) : ∀ k, lcgI m ((x * 5 + 1) % (m + 1)) k = lcgI m x (k + 1)
  | 0 => rfl
  | k + 1 => by
    show (lcgI m _ k * 5 + 1) % (m + 1) = (lcgI m x (k + 1) * 5 + 1) % (m + 1)
    rw [lcg_front m x k]
theorem sweep_bit (m : Nat) {j : Nat} : ∀ k x acc, (sweep m k x acc).testBit j = true → acc.testBit j = true ∨ ∃ b, b < k ∧ lcgI m x b = j
  | 0, x, acc, h => .inl h
  | k + 1, x, acc, h => by
    rcases sweep_bit m k _ _ h with z | ⟨b, hb, e⟩
    · rw [Nat.testBit_or, Bool.or_eq_true] at z
      rcases z with z | z
      · exact .inl z
      · refine .inr ⟨0, Nat.succ_pos _, ?_⟩
        rw [Nat.one_shiftLeft, Nat.testBit_two_pow, decide_eq_true_iff] at z
        exact z
    · exact .inr ⟨b + 1, Nat.succ_lt_succ hb, by rw [← lcg_front]; exact e⟩
theorem lcg_zero (m : Nat) : ∀ k, lcgN m k = lcgI m 0 k
  | 0 => rfl
  | k + 1 => by
    show (lcgN m k * 5 + 1) % (m + 1) = (lcgI m 0 k * 5 + 1) % (m + 1)
    rw [lcg_zero m k]
theorem Rnd.of {n m : Nat} (e : m + 1 = 2 ^ n) (odd : m % 2 = 1) (big : m ≤ 4095) (one : m = 7 ∨ m = 31 ∨ m = 127 ∨ m = 511 ∨ m = 2047) (h : sweep m (m + 1) 0 0 = 2 ^ (m + 1) - 1) (z : lcgN m (m + 1) = 0) : Rnd m := by
  have met : ∀ j, j ≤ m → ∃ b, b ≤ m ∧ lcgN m b = j := fun j hj => by
    have t : (sweep m (m + 1) 0 0).testBit j = true := by
      rw [h, Nat.testBit_two_pow_sub_one, decide_eq_true_iff]
      omega
    rcases sweep_bit m _ _ _ t with q | ⟨b, hb, q⟩
    · rw [Nat.zero_testBit] at q; cases q
    · exact ⟨b, by omega, by rw [lcg_zero]; exact q⟩
  have turn : ∀ k, lcgN m (m + 1 + k) = lcgN m k := fun k => by
    induction k with
    | zero => exact z
    | succ k ih =>
      show (lcgN m (m + 1 + k) * 5 + 1) % (m + 1) = (lcgN m k * 5 + 1) % (m + 1)
      rw [ih]
  refine ⟨odd, big, one, fun i j hi hj => ?_⟩
  obtain ⟨a, a1, a2⟩ := met i hi
  obtain ⟨b, b1, b2⟩ := met j hj
  subst a2 b2
  by_cases c : a ≤ b
  · exact ⟨b - a, by omega, (lcgN_add m a _).trans (congrArg _ (by omega))⟩
  · exact ⟨m + 1 + b - a, by omega, ((lcgN_add m a _).trans (congrArg _ (by omega : a + (m + 1 + b - a) = m + 1 + b))).trans (turn b)⟩
theorem rnd7 : Rnd 7 := .of (n := 3) rfl rfl (by decide) (by decide) (by decide +kernel) (by decide +kernel)
theorem Rnd.run {m : Nat} (r : Rnd m) (h : Int) {j : Nat} (hj : j ≤ m) : ∃ n, n ≤ m + 12 ∧ runI m (SetTable.bits h) n = j := by
  obtain ⟨k, k1, k2⟩ := r.goes _ j (runI_le m (SetTable.bits h) 12) hj
  refine ⟨12 + k, by omega, ?_⟩
  rw [runI_tail (bits_lt h)]
  exact k2
theorem Rnd.hit {m : Nat} (r : Rnd m) (h : Int) {j : Nat} (hj : j ≤ m) : ∃ k, k < 10 * SetTable.turns m ∧ way m h k = j := by
  obtain ⟨n, n1, n2⟩ := r.run h hj
  obtain ⟨k, k1, k2⟩ := run_nth m (SetTable.bits h) n
  have : k < 10 * SetTable.turns m := by
    unfold SetTable.turns
    omega
  exact ⟨k, this, (congrArg SetTable.Probe.j k2).trans n2⟩
theorem way_in (m : Nat) (h : Int) (k : Nat) : way m h k ≤ m := by
  have lo : SetTable.bits h % (m + 1) ≤ m := Nat.le_of_lt_succ (Nat.mod_lt _ (Nat.succ_pos m))
  obtain ⟨r1, r2, _⟩ := runEnd_bd lo
  have := nth_in (m := m) k (runAt m (SetTable.bits h % (m + 1)) (SetTable.bits h)) (by unfold runAt; dsimp only; omega)
  exact Nat.le_trans (Nat.le_add_right _ _) this
structure TabB (t : SetTable) (hs : List Int) : Prop where
  up : Ris t.place.toList
  nodum : t.dummies = #[]
  len : t.place.size = hs.length
  rnd : Rnd t.mask
  low : ∀ x ∈ t.place.toList, x ≤ t.mask
  met : ∀ (i : Nat) (h : Int) (j : Nat), hs[i]? = some h → t.place.toList[i]? = some j → ∃ c, way t.mask h c = j ∧ ∀ b, b < c → way t.mask h b ∈ t.place.toList
section
variable {t : SetTable} {hs : List Int}
theorem TabB.first (T : TabB t hs) (few : hs.length ≤ t.mask) (h : Int) : ∃ N, N < 10 * SetTable.turns t.mask ∧ way t.mask h N ∉ t.place.toList ∧ ∀ c, c < N → way t.mask h c ∈ t.place.toList := by
  obtain ⟨j, j1, j2⟩ := st_missing t.place.toList (t.mask + 1) (by have := T.len; rw [Array.length_toList]; omega)
  obtain ⟨c, c1, c2⟩ := T.rnd.hit h (Nat.le_of_lt_succ j1)
  have at_c : way t.mask h c ∉ t.place.toList := by
    rw [c2]
    exact j2
  obtain ⟨N, n1, n2, n3⟩ := st_least (p := fun c => way t.mask h c ∉ t.place.toList) c at_c
  exact ⟨N, by omega, n2, fun b hb => Classical.byContradiction (n3 b hb)⟩
end
theorem Rnd.free {m : Nat} (r : Rnd m) (owner : Array (Option Nat)) (h : Int) {j : Nat} (hj : j ≤ m) (empty : oAt owner j = none) :
    ∃ N, SetTable.layClean.free m owner (SetTable.turns m) (SetTable.bits h % (m + 1)) (SetTable.bits h) = some (way m h N) ∧ oAt owner (way m h N) = none ∧ ∀ c, c < N → oAt owner (way m h c) ≠ none := by
  obtain ⟨n, n1, n2⟩ := r.run h hj
  generalize eo : off m (SetTable.bits h % (m + 1)) (SetTable.bits h) n = o
  have there : way m h o = j := by
    rw [← eo]
    refine (congrArg SetTable.Probe.j (nth_off m n _ _)).trans ?_
    rw [itL_run]
    exact n2
  obtain ⟨N, N1, N2, N3⟩ := st_least (p := fun c => oAt owner (way m h c) = none) o (by rw [there]; exact empty)
  refine ⟨N, free_spec m owner (SetTable.turns m) n _ _ N ?_ (by rw [eo]; exact N1) (fun c hc => ?_) ?_, N2, N3⟩
  · show n < m + 15
    omega
  · have := N3 c hc
    cases q : oAt owner (nth m (runAt m (SetTable.bits h % (m + 1)) (SetTable.bits h)) c).j with
    | none => exact absurd q this
    | some x => rfl
  · exact Option.isNone_iff_eq_none.mpr N2
structure Sits (m : Nat) (hs : List Int) (owner : Array (Option Nat)) (ps : List Nat) : Prop where
  size : owner.size = m + 1
  len : ps.length = hs.length
  low : ∀ j ∈ ps, j ≤ m
  iff : ∀ j k, j ≤ m → (oAt owner j = some k ↔ ps[k]? = some j)
  met : ∀ (k : Nat) (h : Int) (j : Nat), hs[k]? = some h → ps[k]? = some j → ∃ c, way m h c = j ∧ ∀ b, b < c → oAt owner (way m h b) ≠ none
theorem Sits.nil (m : Nat) : Sits m [] (Array.replicate (m + 1) none) [] := by
  refine ⟨Array.size_replicate, rfl, fun j h => (nomatch h), fun j k hj => ⟨fun z => ?_, fun z => (nomatch z)⟩, fun k h j a => (nomatch a)⟩
  rw [oAt_init hj] at z
  cases z
theorem Sits.more {m : Nat} (r : Rnd m) {hs : List Int} {owner : Array (Option Nat)} {ps : List Nat} (S : Sits m hs owner ps) (few : hs.length ≤ m) (h : Int) :
    ∃ j, stepF m (some (owner, hs.length)) h = some (owner.setIfInBounds j (some hs.length), hs.length + 1) ∧ Sits m (hs ++ [h]) (owner.setIfInBounds j (some hs.length)) (ps ++ [j]) := by
  obtain ⟨e, e1, e2⟩ := st_missing ps (m + 1) (by have := S.len; omega)
  have lo : e ≤ m := Nat.le_of_lt_succ e1
  have empty : oAt owner e = none := by
    cases q : oAt owner e with
    | none => rfl
    | some k => exact absurd (List.mem_of_getElem? ((S.iff e k lo).mp q)) e2
  obtain ⟨N, N1, N2, N3⟩ := r.free owner h lo empty
  have inside := way_in m h N
  refine ⟨way m h N, stepF_some N1, ?_⟩
  generalize ew : way m h N = j at N2 inside ⊢
  have own : oAt (owner.setIfInBounds j (some hs.length)) j = some hs.length := oAt_set_self _ (by rw [S.size]; omega)
  have rest : ∀ i, i ≠ j → oAt (owner.setIfInBounds j (some hs.length)) i = oAt owner i := fun i hi => oAt_set_ne _ hi
  have stay : ∀ i, oAt owner i ≠ none → oAt (owner.setIfInBounds j (some hs.length)) i ≠ none := fun i hi => by
    by_cases q : i = j
    · rw [q, own]; exact fun z => nomatch z
    · rw [rest i q]; exact hi
  have size : (owner.setIfInBounds j (some hs.length)).size = m + 1 := Array.size_setIfInBounds.trans S.size
  generalize owner.setIfInBounds j (some hs.length) = owner' at own rest stay size ⊢
  have get : ∀ {α : Type} (l : List α) (x : α) (k : Nat), (l ++ [x])[k]? = if k < l.length then l[k]? else if k = l.length then some x else none := fun l x k => by
    rw [List.getElem?_append]
    split
    · rfl
    · by_cases q : k = l.length
      · rw [if_pos q, q, Nat.sub_self]; rfl
      · rw [if_neg q]
        obtain ⟨d, hd⟩ : ∃ d, k - l.length = d + 1 := ⟨k - l.length - 1, by omega⟩
        rw [hd]; rfl
  refine ⟨size, by rw [List.length_append, List.length_append, S.len]; rfl, fun i hi => ?_, fun i k hi => ?_, fun k g i a b => ?_⟩
  · rcases List.mem_append.mp hi with z | z
    · exact S.low i z
    · rw [List.mem_singleton.mp z]; exact inside
  · rw [get, S.len]
    by_cases q : i = j
    · subst q
      rw [own]
      by_cases a : k < hs.length
      · rw [if_pos a]
        refine ⟨fun z => ?_, fun z => ?_⟩
        · have := Option.some.inj z
          omega
        · have := (S.iff i k hi).mpr z
          rw [N2] at this
          cases this
      · rw [if_neg a]
        by_cases b : k = hs.length
        · rw [if_pos b, b]; simp
        · rw [if_neg b]
          exact ⟨fun z => absurd (Option.some.inj z).symm b, fun z => nomatch z⟩
    · rw [rest i q, S.iff i k hi]
      by_cases a : k < hs.length
      · rw [if_pos a]
      · rw [if_neg a, List.getElem?_eq_none (by have := S.len; omega)]
        by_cases b : k = hs.length
        · rw [if_pos b]
          exact ⟨fun z => (nomatch z), fun z => absurd (Option.some.inj z).symm q⟩
        · rw [if_neg b]
  · rw [get] at a b
    rw [S.len] at b
    by_cases lt : k < hs.length
    · rw [if_pos lt] at a b
      obtain ⟨c, c1, c2⟩ := S.met k g i a b
      exact ⟨c, c1, fun b hb => stay _ (c2 b hb)⟩
    · rw [if_neg lt] at a b
      by_cases q : k = hs.length
      · rw [if_pos q] at a b
        cases a
        cases b
        exact ⟨N, ew, fun c hc => stay _ (N3 c hc)⟩
      · rw [if_neg q] at a
        cases a
theorem Sits.fold {m : Nat} (r : Rnd m) : ∀ (gs hs : List Int) (owner : Array (Option Nat)) (ps : List Nat), Sits m hs owner ps → hs.length + gs.length ≤ m →
    ∃ owner' ps', gs.foldl (stepF m) (some (owner, hs.length)) = some (owner', (hs ++ gs).length) ∧ Sits m (hs ++ gs) owner' ps'
  | [], hs, owner, ps, S, _ => ⟨owner, ps, by rw [List.append_nil]; rfl, by rw [List.append_nil]; exact S⟩
  | g :: gs, hs, owner, ps, S, few => by
    rw [List.length_cons] at few
    obtain ⟨j, e, S1⟩ := S.more r (by omega) g
    have ln : (hs ++ [g]).length = hs.length + 1 := List.length_append
    obtain ⟨owner', ps', f, S2⟩ := Sits.fold r gs _ _ _ S1 (by rw [ln]; omega)
    rw [ln, List.append_assoc] at f
    rw [List.append_assoc] at S2
    exact ⟨owner', ps', by rw [List.foldl_cons, e]; exact f, S2⟩
end ML

namespace ML
open PySem Spec PyProof.Rows L2
mutual
def numK : NestedKey → Bool
  | .num _ => true
  | .tup ks => numKs ks
  | _ => false
def numKs : List NestedKey → Bool
  | [] => true
  | k :: ks => numK k && numKs ks
end
mutual
inductive PN (h : Heap) : NestedKey → Value → Prop
  | num (i t) : PN h (.num i) (.int i t)
  | tup {a o vs n ks} : h.get? a = some o → o.cls = .type "tuple" → o.data = .seq vs n → PNs h ks vs.toList → PN h (.tup ks) (.ref a)
inductive PNs (h : Heap) : List NestedKey → List Value → Prop
  | nil : PNs h [] []
  | cons {k v ks vs} : PN h k v → PNs h ks vs → PNs h (k :: ks) (v :: vs)
end
mutual
theorem PN.is {h : Heap} : ∀ {k : NestedKey} {v : Value}, PN h k v → NestedIs h k v
  | _, _, .num i t => .int i t
  | _, _, .tup h1 h2 h3 h4 => .tup h1 h2 h3 h4.is
theorem PNs.is {h : Heap} : ∀ {ks : List NestedKey} {vs : List Value}, PNs h ks vs → NestedAll h ks vs
  | _, _, .nil => .nil
  | _, _, .cons a b => .cons a.is b.is
end
mutual
theorem PN.at {h h' : Heap} (g : ∀ a o vs n, h.get? a = some o → o.cls = .type "tuple" → o.data = .seq vs n → h'.get? a = some o) : ∀ {k : NestedKey} {v : Value}, PN h k v → PN h' k v
  | _, _, .num i t => .num i t
  | _, _, .tup h1 h2 h3 h4 => .tup (g _ _ _ _ h1 h2 h3) h2 h3 (h4.at g)
theorem PNs.at {h h' : Heap} (g : ∀ a o vs n, h.get? a = some o → o.cls = .type "tuple" → o.data = .seq vs n → h'.get? a = some o) : ∀ {ks : List NestedKey} {vs : List Value}, PNs h ks vs → PNs h' ks vs
  | _, _, .nil => .nil
  | _, _, .cons a b => .cons (a.at g) (b.at g)
end
mutual
theorem PN.of {h : Heap} : ∀ {k : NestedKey} {v : Value} {as : List Addr}, Reads h v k.data as → numK k = true → PN h k v
  | .num i, _, _, r, _ => by cases r; exact .num _ _
  | .tup ks, _, _, r, hn => by
    rw [numK] at hn
    cases r with
    | tuple h1 h2 h3 h4 => exact .tup h1 h2 h3 (PNs.of h4 hn)
  | .none, _, _, _, hn => nomatch hn
  | .text _, _, _, _, hn => nomatch hn
theorem PNs.of {h : Heap} : ∀ {ks : List NestedKey} {vs : List Value} {as : List Addr}, ReadsAll h vs (NestedKey.datas ks) as → numKs ks = true → PNs h ks vs
  | [], _, _, r, _ => by cases r; exact .nil
  | k :: ks, _, _, r, hn => by
    rw [numKs, Bool.and_eq_true] at hn
    cases r with
    | cons r1 r2 => exact .cons (PN.of r1 hn.1) (PNs.of r2 hn.2)
end
structure NI (h : Heap) (k : NestedKey) (a : Addr) : Prop where
  pn : PN h k (.ref a)
  dp : k.depth ≤ 8
  nm : numK k = true
theorem NI.is {h : Heap} {k : NestedKey} {a : Addr} (x : NI h k a) : NestedIs h k (.ref a) := x.pn.is
theorem NI.same {h h' : Heap} {k : NestedKey} {a b : Addr} {o : Obj} {es : Array (Int × Value)} {ep : Nat} {t : SetTable} (x : NI h k b) (ho : h.get? a = some o) (hd : o.data = .set es ep t) (hs : Heap.SameBut a h h') : NI h' k b := by
  refine ⟨x.pn.at (fun c u vs n hc _ hv => ?_), x.dp, x.nm⟩
  refine (hs.2 c fun e => ?_).trans hc
  subst e
  rw [ho] at hc
  cases hc
  rw [hd] at hv
  cases hv
section
variable {P : Program} {w : World} {A : Around} {E : Value → Shared → Prop} {s : Shared}
end

abbrev Rows := List (Addr × NestedKey)
def rws (w : World) (L : Rows) : List (Int × Value) := L.map fun p => (p.2.hash w, Value.ref p.1)
abbrev hsh (w : World) (L : Rows) : List Int := L.map fun p => p.2.hash w
abbrev kys (L : Rows) : List NestedKey := L.map (·.2)
structure STab (w : World) (h : Heap) (a : Addr) (L : Rows) (es : Array (Int × Value)) (ep : Nat) (t : SetTable) : Prop where
  ob : ∃ o, h.get? a = some o ∧ o.ExactSet ∧ o.data = .set es ep t
  el : es.toList = rws w L
  tab : TabB t (hsh w L)
  nd : (kys L).Nodup
  ks : ∀ p ∈ L, NI h p.2 p.1
  pl : t.plain = true
  ld : w.params.followText "set-order" = true ∨ t.led = true
  rm : L.length * 5 < t.mask * 3
  fw : L.length < 1200
theorem rws_len (w : World) (L : Rows) : (rws w L).length = L.length := List.length_map _
theorem size_of_rws {w : World} {es : Array (Int × Value)} {L : Rows} (e : es.toList = rws w L) : es.size = L.length := by rw [← Array.length_toList, e, rws_len]
section
variable {P : Program} {w : World} {A : Around} {E : Value → Shared → Prop} {s : Shared}
variable {a : Addr} {L : Rows} {es : Array (Int × Value)} {ep : Nat} {t : SetTable}
theorem STab.len (R : STab w s.heap a L es ep t) : t.place.size = L.length := by rw [R.tab.len]; exact List.length_map _
theorem STab.fits (R : STab w s.heap a L es ep t) : t.fits es.size = true := by
  have h1 := R.len
  have h2 := size_of_rws R.el
  have h3 := R.rm
  unfold SetTable.fits SetTable.fill
  rw [R.tab.nodum, Bool.and_eq_true, beq_iff_eq, decide_eq_true_eq]
  show t.place.size = es.size ∧ t.place.size + 0 ≤ t.mask
  omega
theorem STab.whole (R : STab w s.heap a L es ep t) : ¬ t.gaveWay = true := by
  unfold SetTable.gaveWay
  rw [R.tab.rnd.odd]
  decide
end
end ML

namespace ML
open PySem Spec PyProof.Rows L2
section
variable {P : Program} {w : World} {A : Around} {E : Value → Shared → Prop} {s : Shared}
variable {a : Addr} {L : Rows} {es : Array (Int × Value)} {ep : Nat} {t : SetTable}
end
structure Had (ks : Rows) (i : Nat) (L : Rows) : Prop where
  sub : ∀ p ∈ L, p ∈ ks.take i
  all : ∀ p ∈ ks.take i, p.2 ∈ kys L
  len : L.length ≤ i
theorem Had.zero (ks : Rows) : Had ks 0 [] := ⟨fun p h => (nomatch h), fun p h => (by simp at h), Nat.le_refl _⟩
theorem Had.next {ks L L' : Rows} {i : Nat} {x : Addr × NestedKey} (g : Had ks i L) (h : ks[i]? = some x) (c1 : x.2 ∈ kys L → L' = L) (c2 : x.2 ∉ kys L → L'.Perm (x :: L)) : Had ks (i + 1) L' := by
  rcases Classical.em (x.2 ∈ kys L) with c | c
  · rw [c1 c]
    refine ⟨fun p hp => ?_, fun p hp => ?_, Nat.le_succ_of_le g.len⟩
    · rw [take_next h]; exact List.mem_append_left _ (g.sub p hp)
    · rw [take_next h] at hp
      rcases List.mem_append.mp hp with z | z
      · exact g.all p z
      · rw [List.mem_singleton.mp z]; exact c
  · have pm := c2 c
    refine ⟨fun p hp => ?_, fun p hp => ?_, by rw [pm.length_eq]; exact Nat.succ_le_succ g.len⟩
    · rw [take_next h]
      rcases List.mem_cons.mp (pm.mem_iff.mp hp) with e | z
      · rw [e]; exact List.mem_append_right _ (List.mem_singleton.mpr rfl)
      · exact List.mem_append_left _ (g.sub p z)
    · rw [(pm.map (·.2)).mem_iff, List.map_cons]
      rw [take_next h] at hp
      rcases List.mem_append.mp hp with z | z
      · exact List.mem_cons_of_mem _ (g.all p z)
      · rw [List.mem_singleton.mp z]; exact List.mem_cons_self
section
variable {P : Program} {w : World} {A : Around} {E : Value → Shared → Prop} {s : Shared}
theorem STab.keep {h h' : Heap} {a : Addr} {L : Rows} {es : Array (Int × Value)} {ep : Nat} {t : SetTable} (R : STab w h a L es ep t) (ha : ∀ o, h.get? a = some o → h'.get? a = some o) (ht : ∀ p ∈ L, NI h' p.2 p.1) : STab w h' a L es ep t :=
  let ⟨o, ho, r⟩ := R.ob
  ⟨⟨o, ha o ho, r⟩, R.el, R.tab, R.nd, ht, R.pl, R.ld, R.rm, R.fw⟩
theorem STab.fresh {h : Heap} {a : Addr} (ho : h.get? a = some { cls := .type "set", dict := none, data := .set #[] 0 (.fresh 0 0 (!w.params.followText "set-order")) }) : STab w h a [] #[] 0 (.fresh 0 0 (!w.params.followText "set-order")) where
  ob := ⟨_, ho, ⟨rfl, rfl, rfl⟩, rfl⟩
  el := rfl
  tab := ⟨List.Pairwise.nil, rfl, rfl, rnd7, fun x hx => (nomatch hx), fun i h j hi => (by simp at hi)⟩
  nd := List.nodup_nil
  ks := fun p hp => nomatch hp
  pl := rfl
  ld := by
    show _ ∨ (!w.params.followText "set-order") = true
    cases w.params.followText "set-order"
    · exact .inr rfl
    · exact .inl rfl
  rm := (by decide : 0 * 5 < 7 * 3)
  fw := (by decide : 0 < 1200)
end
end ML

namespace ML
open PySem Spec PyProof.Rows L2
section
variable {P : Program} {w : World} {A : Around} {E : Value → Shared → Prop} {s : Shared}
end
end ML

namespace ML
open PySem Spec PyProof.Rows L2
mutual
def ltK : NestedKey → NestedKey → Bool
  | .num a, .num b => decide (a < b)
  | .num _, .tup _ => true
  | .tup xs, .tup ys => ltKs xs ys
  | _, _ => false
def ltKs : List NestedKey → List NestedKey → Bool
  | [], [] => false
  | [], _ :: _ => true
  | _ :: _, [] => false
  | x :: xs, y :: ys => if x = y then ltKs xs ys else ltK x y
end
mutual
theorem ltK_irr : ∀ x : NestedKey, ltK x x = false
  | .none => by simp [ltK]
  | .text _ => by simp [ltK]
  | .num a => by simp [ltK]
  | .tup xs => by rw [ltK]; exact ltKs_irr xs
theorem ltKs_irr : ∀ xs : List NestedKey, ltKs xs xs = false
  | [] => by simp [ltKs]
  | x :: xs => by rw [ltKs, if_pos rfl]; exact ltKs_irr xs
end
mutual
theorem ltK_asym : ∀ x y : NestedKey, ltK x y = true → ltK y x = false
  | .num a, .num b, h => by simp only [ltK, decide_eq_true_eq] at h; simp only [ltK, decide_eq_false_iff_not]; omega
  | .num a, .tup ys, _ => by simp [ltK]
  | .tup xs, .tup ys, h => by rw [ltK] at h ⊢; exact ltKs_asym xs ys h
  | .tup xs, .num b, h => by simp [ltK] at h
  | .none, .none, h => by simp [ltK] at h
  | .none, .num _, h => by simp [ltK] at h
  | .none, .text _, h => by simp [ltK] at h
  | .none, .tup _, h => by simp [ltK] at h
  | .text _, .none, h => by simp [ltK] at h
  | .text _, .num _, h => by simp [ltK] at h
  | .text _, .text _, h => by simp [ltK] at h
  | .text _, .tup _, h => by simp [ltK] at h
  | .num _, .none, h => by simp [ltK] at h
  | .num _, .text _, h => by simp [ltK] at h
  | .tup _, .none, h => by simp [ltK] at h
  | .tup _, .text _, h => by simp [ltK] at h
theorem ltKs_asym : ∀ xs ys : List NestedKey, ltKs xs ys = true → ltKs ys xs = false
  | [], [], h => by simp [ltKs] at h
  | [], _ :: _, _ => by simp [ltKs]
  | _ :: _, [], h => by simp [ltKs] at h
  | x :: xs, y :: ys, h => by
    rw [ltKs] at h ⊢
    by_cases e : x = y
    · rw [if_pos e] at h
      rw [if_pos e.symm]
      exact ltKs_asym xs ys h
    · rw [if_neg e] at h
      rw [if_neg (Ne.symm e)]
      exact ltK_asym x y h
end
mutual
theorem ltK_tri : ∀ x y : NestedKey, numK x = true → numK y = true → ltK x y = true ∨ x = y ∨ ltK y x = true
  | .num a, .num b, _, _ => by
    simp only [ltK, decide_eq_true_eq, NestedKey.num.injEq]
    omega
  | .num a, .tup ys, _, _ => .inl (by simp [ltK])
  | .tup xs, .num b, _, _ => .inr (.inr (by simp [ltK]))
  | .tup xs, .tup ys, hx, hy => by
    rw [numK] at hx hy
    rw [ltK, ltK]
    rcases ltKs_tri xs ys hx hy with h | h | h
    · exact .inl h
    · exact .inr (.inl (by rw [h]))
    · exact .inr (.inr h)
  | .none, _, h, _ => nomatch h
  | .text _, _, h, _ => nomatch h
  | .num _, .none, _, h => nomatch h
  | .num _, .text _, _, h => nomatch h
  | .tup _, .none, _, h => nomatch h
  | .tup _, .text _, _, h => nomatch h
theorem ltKs_tri : ∀ xs ys : List NestedKey, numKs xs = true → numKs ys = true → ltKs xs ys = true ∨ xs = ys ∨ ltKs ys xs = true
  | [], [], _, _ => .inr (.inl rfl)
  | [], _ :: _, _, _ => .inl (by simp [ltKs])
  | _ :: _, [], _, _ => .inr (.inr (by simp [ltKs]))
  | x :: xs, y :: ys, hx, hy => by
    rw [numKs, Bool.and_eq_true] at hx hy
    rw [ltKs, ltKs]
    by_cases e : x = y
    · rw [if_pos e, if_pos e.symm]
      rcases ltKs_tri xs ys hx.2 hy.2 with h | h | h
      · exact .inl h
      · exact .inr (.inl (by rw [h, e]))
      · exact .inr (.inr h)
    · rw [if_neg e, if_neg (Ne.symm e)]
      rcases ltK_tri x y hx.1 hy.1 with h | h | h
      · exact .inl h
      · exact absurd h e
      · exact .inr (.inr h)
end
mutual
theorem ltK_tr : ∀ x y z : NestedKey, ltK x y = true → ltK y z = true → ltK x z = true
  | .num a, .num b, .num c, h1, h2 => by simp only [ltK, decide_eq_true_eq] at h1 h2 ⊢; omega
  | .num a, _, .tup ys, _, _ => by simp [ltK]
  | .tup xs, .tup ys, .tup zs, h1, h2 => by rw [ltK] at h1 h2 ⊢; exact ltKs_tr xs ys zs h1 h2
  | .tup xs, .tup ys, .num _, _, h => by simp [ltK] at h
  | .tup xs, .tup ys, .none, _, h => by simp [ltK] at h
  | .tup xs, .tup ys, .text _, _, h => by simp [ltK] at h
  | .tup xs, .num b, _, h, _ => by simp [ltK] at h
  | .tup xs, .none, _, h, _ => by simp [ltK] at h
  | .tup xs, .text _, _, h, _ => by simp [ltK] at h
  | .num _, .tup _, .num _, _, h => by simp [ltK] at h
  | .num _, .tup _, .none, _, h => by simp [ltK] at h
  | .num _, .tup _, .text _, _, h => by simp [ltK] at h
  | .num _, .num _, .none, _, h => by simp [ltK] at h
  | .num _, .num _, .text _, _, h => by simp [ltK] at h
  | .num _, .none, .num _, h, _ => by simp [ltK] at h
  | .num _, .none, .none, h, _ => by simp [ltK] at h
  | .num _, .none, .text _, h, _ => by simp [ltK] at h
  | .num _, .text _, .num _, h, _ => by simp [ltK] at h
  | .num _, .text _, .none, h, _ => by simp [ltK] at h
  | .num _, .text _, .text _, h, _ => by simp [ltK] at h
  | .none, y, _, h, _ => by cases y <;> simp [ltK] at h
  | .text _, y, _, h, _ => by cases y <;> simp [ltK] at h
theorem ltKs_tr : ∀ xs ys zs : List NestedKey, ltKs xs ys = true → ltKs ys zs = true → ltKs xs zs = true
  | [], [], _, h, _ => by simp [ltKs] at h
  | _ :: _, [], _, h, _ => by simp [ltKs] at h
  | _, _ :: _, [], _, h => by simp [ltKs] at h
  | [], _ :: _, _ :: _, _, _ => by simp [ltKs]
  | x :: xs, y :: ys, z :: zs, h1, h2 => by
    rw [ltKs] at h1 h2 ⊢
    by_cases e1 : x = y
    · rw [if_pos e1] at h1
      by_cases e2 : y = z
      · rw [if_pos e2] at h2
        rw [if_pos (e1.trans e2)]
        exact ltKs_tr xs ys zs h1 h2
      · rw [if_neg e2] at h2
        rw [if_neg (fun e => e2 (e1.symm.trans e)), e1]
        exact h2
    · rw [if_neg e1] at h1
      by_cases e2 : y = z
      · rw [if_neg (fun e => e1 (e.trans e2.symm)), ← e2]
        exact h1
      · rw [if_neg e2] at h2
        have h3 := ltK_tr x y z h1 h2
        rw [if_neg (fun e => by
          rw [e, ltK_irr] at h3
          cases h3)]
        exact h3
end
mutual
def cmpK : NestedKey → NestedKey → Bool
  | .num _, .num _ => true
  | .tup xs, .tup ys => cmpKs xs ys
  | _, _ => false
def cmpKs : List NestedKey → List NestedKey → Bool
  | x :: xs, y :: ys => cmpK x y && cmpKs xs ys
  | _, _ => true
end
section
variable {P : Program} {w : World} {s : Shared}
end
end ML

namespace ML
open PySem Spec PyProof.Rows L2 SrtO
section
variable {P : Program} {w : World} {A : Around} {E : Value → Shared → Prop} {s : Shared}
open Classical in
noncomputable def keyAt (h : Heap) (v : Value) : NestedKey := if x : ∃ k, PN h k v ∧ numK k = true then x.choose else .num 0
end
end ML

namespace ML
open PySem Spec PyProof.Rows L2
section
variable {X : Cx}
end
structure RKey {α : Type} (r : R α) where
  k : α → NestedKey
  ok : ∀ {K : PySem.W.Frag} {F H : Hp} {a : α} {v : V}, r.p a F v → Same F H → (∃ b, v = V.ref b) ∧ Dp K H v (k a).data
  nm : ∀ a, numK (k a) = true
  dp : ∀ a, (k a).depth ≤ 8
  inj : ∀ a b, k a = k b → a = b
section
variable {nx bk ct : L2.St → Hp → Prop} {rt : VK}
variable {W : Wd} {G : Gam} {T : Tms} {cs : Cells} {K : Sl → Cells → Prop} {t ta tb : TE} {KF : PySem.W.Frag}
end
end ML

namespace ML
open PySem Spec PyProof.Rows L2
section
variable {nx bk ct : L2.St → Hp → Prop} {rt : VK}
variable {W : Wd} {G : Gam} {T : Tms} {cs : Cells} {K : Sl → Cells → Prop} {t ta tb : TE} {KF : PySem.W.Frag}
theorem e_neS (ha : Ev ta W G T cs fun sa cs1 => ∃ x, sa = rStr.at x ∧ ∀ va, Ev tb W G ((va, sa) :: T) cs1 fun sb cs2 => ∃ y, sb = rStr.at y ∧ K (rBool.at (!decide (x = y))) cs2) :
    Ev (tOp rNe ta tb) W G T cs K := fun s H st Q q => by
  refine ha s H st _ fun sa cs1 ⟨x, e, hb⟩ va H1 st1 => ?_
  subst e
  refine hb va s H1 st1 _ fun sb cs2 ⟨y, e, k⟩ vb H2 ⟨F, c, sg, tm⟩ => ?_
  subst e
  have e1 : vb = .str y := tm.head
  have e2 : va = .str x := tm.tail.head
  subst e1 e2
  exact ⟨rfl, q _ _ k _ H2 ⟨F, c, sg, tm.tail.tail.cons (by show V.bl _ = V.bl _; congr 1; simp)⟩⟩
theorem e_eqB (ha : Ev ta W G T cs fun sa cs1 => ∃ x, sa = rBool.at x ∧ ∀ va, Ev tb W G ((va, sa) :: T) cs1 fun sb cs2 => ∃ y, sb = rBool.at y ∧ K (rBool.at (decide (x = y))) cs2) :
    Ev (tOp rEq ta tb) W G T cs K := fun s H st Q q => by
  refine ha s H st _ fun sa cs1 ⟨x, e, hb⟩ va H1 st1 => ?_
  subst e
  refine hb va s H1 st1 _ fun sb cs2 ⟨y, e, k⟩ vb H2 ⟨F, c, sg, tm⟩ => ?_
  subst e
  have e1 : vb = .bl y := tm.head
  have e2 : va = .bl x := tm.tail.head
  subst e1 e2
  exact ⟨rfl, q _ _ k _ H2 ⟨F, c, sg, tm.tail.tail.cons (by show V.bl _ = V.bl _; congr 1; simp)⟩⟩
end
end ML

namespace ML
open PySem Spec PyProof.Rows L2
section
variable {nx bk ct : L2.St → Hp → Prop} {rt : VK}
variable {W : Wd} {G : Gam} {T : Tms} {cs : Cells} {K : Sl → Cells → Prop} {t ta tb : TE} {KF : PySem.W.Frag}
theorem all2_in {F : Hp} {i : Int} : ∀ {xs : List Int} {vs : List V}, All2 (fun x u => rInt.p x F u) xs vs → vs.all flatV = true ∧ inV (.int i) vs = decide (i ∈ xs)
  | _, _, .nil => ⟨rfl, by simp [inV]⟩
  | _, _, .cons (a := a) (b := b) p q => by
    obtain ⟨h1, h2⟩ := all2_in (i := i) q
    have e : b = .int a := p
    subst e
    refine ⟨by rw [List.all_cons, h1]; rfl, ?_⟩
    unfold inV at h2 ⊢
    rw [List.any_cons, h2]
    have e2 : eqV (.int a) (.int i) = decide (a = i) := by simp [eqV, Bool.beq_eq_decide_eq]
    rw [e2]
    by_cases h : a = i
    · subst h; simp
    · have h' : ¬ i = a := fun z => h z.symm
      simp [h, h']
theorem e_inT (ng : Bool) (ha : Ev ta W G T cs fun sa cs1 => ∃ i, sa = rInt.at i ∧ ∀ va, Ev tb W G ((va, sa) :: T) cs1 fun sb cs2 => ∃ xs : List Int, sb = (rTup rInt).at xs ∧ K (rBool.at (if ng then !decide (i ∈ xs) else decide (i ∈ xs))) cs2) :
    Ev (tOp (rIn KF ng) ta tb) W G T cs K := fun s H st Q q => by
  refine ha s H st _ fun sa cs1 ⟨i, e, hb⟩ va H1 st1 => ?_
  subst e
  refine hb va s H1 st1 _ fun sb cs2 ⟨xs, e, k⟩ vb H2 ⟨F, c, sg, tm⟩ => ?_
  subst e
  obtain ⟨hz, a, vs, rfl, hF, hA⟩ := tm.head
  have e2 : va = .int i := tm.tail.head
  subst e2
  obtain ⟨f1, f2⟩ := all2_in (i := i) hA
  exact ⟨a, vs, rfl, .inr (TupA.sq c.fh hF), rfl, f1, q _ _ k _ H2 ⟨F, c, sg, tm.tail.tail.cons (by rw [f2]; rfl)⟩⟩
def rListOf (KF : PySem.W.Frag) : List V → Hp → VK → Prop := fun xs H Q => ∃ p ys, xs = [.ref p] ∧ (SqL KF H p ys ∨ SqT KF H p ys) ∧ ∀ l, H l = none → Q (.ref l) (upd H l (.lst ys))
end
section
variable {α β γ δ : Type} {W : Wd} {G : Gam} {T : Tms} {cs : Cells}
end
section
variable {nx bk ct : L2.St → Hp → Prop} {rt : VK}
variable {W : Wd} {G : Gam} {T : Tms} {cs : Cells} {K : Sl → Cells → Prop} {t ta tb : TE} {KF : PySem.W.Frag}
end
section
variable {nx bk ct : L2.St → Hp → Prop} {rt : VK}
variable {W : Wd} {G : Gam} {T : Tms} {cs : Cells} {K : Sl → Cells → Prop} {t ta tb : TE} {KF : PySem.W.Frag}
end
end ML

namespace ML
open PySem Spec PyProof.Rows L2
section
variable {W : Wd} {G : Gam} {T : Tms} {cs : Cells} {K : Sl → Cells → Prop} {t : TA} {ta tb tc te : TE} {KF : PySem.W.Frag} {α : Type}
theorem all2_rg {F : Hp} (a b : Int) : All2 (fun x u => rInt.p x F u) (rangeI a b) (rgV a b) := by
  unfold rangeI rgV
  have : ∀ l : List Nat, All2 (fun x u => rInt.p x F u) (l.map fun (k : Nat) => a + (k : Int)) (l.map fun (i : Nat) => V.int (a + (i : Nat))) := fun l => by
    induction l with
    | nil => exact .nil
    | cons x l ih => exact .cons rfl ih
  exact this _
theorem rgOk_of {a b : Int} {xs : List Int} (h : oRange a b = some xs) : RgOk a b ∧ xs = rangeI a b ∧ xs.length ≤ sizeLine := by
  obtain ⟨⟨⟨a1, a2⟩, ⟨b1, b2⟩, c⟩, e⟩ := oRange_ok h
  rw [sizeLine_eq] at c
  exact ⟨⟨a1, a2, b1, b2, c⟩, e, by rw [e, len_rangeI, sizeLine_eq]; exact c⟩
def EvR (tr : L2.St → Hp → (Int → Int → Hp → Prop) → Prop) (W : Wd) (G : Gam) (T : Tms) (cs : Cells) (K : Int → Int → Cells → Prop) : Prop :=
  ∀ s H, Sta W G T cs s H → ∀ Q : Int → Int → Hp → Prop, (∀ a b cs', K a b cs' → ∀ H', Sta W G T cs' s H' → Q a b H') → tr s H Q
theorem er_1 {K : Int → Int → Cells → Prop} (ha : Ev ta W G T cs fun sa cs1 => ∃ i, sa = rInt.at i ∧ K 0 i cs1) : EvR (tRg1 ta) W G T cs K := fun s H st Q q => by
  refine ha s H st _ fun sa cs1 ⟨i, e, k⟩ va H1 st1 => ?_
  subst e
  exact ⟨i, int_top st1, q _ _ _ k H1 st1.pop⟩
variable {tr : L2.St → Hp → (Int → Int → Hp → Prop) → Prop}
theorem e_tupRg (h : EvR tr W G T cs fun a b cs1 => ∃ xs, oRange a b = some xs ∧ K ((rTup rInt).at xs) cs1) : Ev (tTupRg tr) W G T cs K := fun s H st Q q => by
  refine h s H st _ fun a b cs1 ⟨xs, ho, k⟩ H1 ⟨F, c, sg, tm⟩ => ?_
  obtain ⟨ok, e, hz⟩ := rgOk_of ho
  subst e
  refine ⟨ok, fun p hp => ?_⟩
  have sF : Same F (upd F p (.tup (rgV a b))) := same_upd (c.fh.free hp)
  exact q _ _ k _ _ ⟨_, c.new hp, sg.mono sF, (tm.mono sF).cons ⟨hz, p, _, rfl, (.inl upd_same), all2_rg a b⟩⟩
def enumI (xs : List α) : List (Int × α) := (List.range xs.length).zipWith (fun (i : Nat) x => ((i : Int), x)) xs
theorem enumI_get {xs : List α} {i : Nat} {x : α} (h : xs[i]? = some x) : (enumI xs)[i]? = some ((i : Int), x) := by
  unfold enumI
  have hl := (List.getElem?_eq_some_iff.mp h).1
  rw [List.getElem?_zipWith, List.getElem?_range hl, h]
theorem enumI_len (xs : List α) : (enumI xs).length = xs.length := by unfold enumI; simp
structure RTy {α : Type} (r : R α) (n : String) : Prop where
  ty : ∀ {KF : PySem.W.Frag} {F H : Hp} {a : α} {v : V}, r.p a F v → Same F H → TyX KF H v (.type n)
theorem tyInt : RTy rInt "int" := ⟨fun {KF F H a v} h s => by rw [show v = .int a from h]; exact .base (.int a)⟩
theorem e_isi {T : Tms} {n c : String} {b : Bool} (h : EvA t W G T cs fun sls cs1 => ∃ (α : Type) (r : R α) (x : α) (e : RTy r n), sls = [r.at x, ⟨fun _ v => v = .ty c, fun _ h => h⟩] ∧ PySem.W.kitOne KF (.type n) (.type c) = some b ∧ K (rBool.at b) cs1) :
    Ev (tCB (rIsi KF) t) W G T cs K := fun s H st Q q => by
  refine h s H st _ fun sls cs1 ⟨α, r, x, e, e1, hk, k⟩ vs H1 ⟨F, cc, sg, tm, ar⟩ => ?_
  subst e1
  obtain ⟨v, w, rfl, p1, p2⟩ := args2' ar
  have ew : w = .ty c := p2
  subst ew
  exact ⟨v, _, _, _, b, rfl, .ty c, e.ty p1 cc.fh, hk, q _ _ k _ H1 ⟨F, cc, sg, tm.cons rfl⟩⟩
theorem e_cls {n : String} (k : K ⟨fun _ v => v = .ty n, fun _ h => h⟩ cs) : Ev (tC (.ty n)) W G T cs K := fun s H st Q q => q _ cs k _ H (st.push fun _ => rfl)
end
section
variable {W : Wd} {G : Gam} {T : Tms} {cs : Cells} {K : Sl → Cells → Prop} {ta tb : TE} {KF : PySem.W.Frag}
end
section
variable {W : Wd} {G : Gam} {T : Tms} {cs : Cells} {K : Sl → Cells → Prop} {ta : TE} {KF : PySem.W.Frag}
end
end ML

namespace ML
open PySem Spec PyProof.Rows L2 StX
def tNo : TS := fun _ _ _ => False
theorem ps_no {X : Cx} {st : Stmt} : PS X st tNo := ⟨fun _ _ _ _ _ _ h => h.elim⟩
section
variable {nx bk ct : L2.St → Hp → Prop} {rt : VK}
variable {W : Wd} {G : Gam} {T : Tms} {cs : Cells} {K : Sl → Cells → Prop} {t : TA} {ta tb tc te : TE} {KF : PySem.W.Frag}
end
end ML

namespace ML
open PySem Spec PyProof.Rows L2 StX
open AutoSeq1 (wpAny_loadPart')
theorem enum_new_tup (q : Addr) (xs : Array Value) (m : Nat) (dc : Option Addr) (so : Array (Option Value)) :
    Meets (Builtin.«enumerate.__new__» ⟨[.type "enumerate", .ref q], []⟩) (fun _ Z s => s.heap.get? q = some { cls := .type "tuple", dict := dc, data := .seq xs m, slots := so } ∧
      Z (.ok (.ret (.ref (s.heap.push { cls := .type "tuple_iterator", data := .fields #[.ref q, .int 0 0] }).objs.size)))
        { s with heap := (s.heap.push { cls := .type "tuple_iterator", data := .fields #[.ref q, .int 0 0] }).push { cls := .type "enumerate", data := .fields #[.none, .bool false, .ref s.heap.objs.size, rawInt 0, .none, .none] } }) :=
  .of_wp fun prog w A Z s h => by
    obtain ⟨h0, g0, d0, t0, o0⟩ := s; obtain ⟨hq, h⟩ := h
    have sube := sub_enumerate
    have tq : Heap.IsTuple (Shared.heap ⟨h0, g0, d0, t0, o0⟩) q xs := ⟨_, hq, rfl, m, rfl⟩
    wp_walk using wpAny_loadPart' hq
    refine wpAny_stack_any fun _ => wpAny_pure ?_
    split
    · rename_i cc _ _ _ _ _
      cases cc == Value.type "enumerate" <;> wp_walk using wpAny_loadPart' hq, wpAny_pyIter_tuple tq <;> exact ⟨_, rfl, h⟩
    · wp_walk using wpAny_loadPart' hq, wpAny_pyIter_tuple tq; exact ⟨_, rfl, h⟩
theorem call_enum_tup {prog : Program} {w : World} {A : Around} {E : Value → Shared → Prop} {s : Shared} {q : Addr} {xs : Array Value} {Q : Value → Shared → Prop} (tq : s.heap.IsTuple q xs)
    (h : ∀ hp, IsEnum hp (s.heap.objs.size + 1) s.heap.objs.size 0 .none → hp.IsTupleIter s.heap.objs.size q 0 →
      (∀ b o, s.heap.get? b = some o → hp.get? b = some o) → Q (.ref (s.heap.objs.size + 1)) { s with heap := hp }) :
    wpAny (model prog w) A (call (.type "enumerate") [.ref q]) Q E s := by
  obtain ⟨⟨c, dc, dt, so⟩, hq, hc, m, hd⟩ := tq
  replace hc : c = .type "tuple" := hc
  replace hd : dt = .seq xs m := hd
  subst hc hd
  refine callType_new F.called_enumerate (by decide) (F.typeCall_enumerate_1 _) (F.newCall_enumerate_1 _) (fun ob => F.args_object_init_2 ob _) F.entry_enumerate_new (enum_new_tup q xs m dc so) ⟨hq, ?_⟩
  generalize hi : ({ cls := .type "tuple_iterator", data := .fields #[.ref q, .int 0 0] } : Obj) = oi
  have sz : (s.heap.push oi).objs.size = s.heap.objs.size + 1 := Heap.size_push ..
  have fr : oi.isFreed = false := by subst hi; rfl
  show _ ∧ _
  rw [sz]
  have en := Heap.get?_push_size (s.heap.push oi) (o := { cls := .type "enumerate", data := .fields #[.none, .bool false, .ref s.heap.objs.size, rawInt 0, .none, .none] }) rfl
  rw [sz] at en
  refine ⟨⟨_, en, rfl⟩, h _ en ⟨oi, Heap.get?_push_of_some _ (Heap.get?_push_size _ fr), ?_, ?_⟩ fun b o x => Heap.get?_push_of_some _ (Heap.get?_push_of_some _ x)⟩
  · subst hi; rfl
  · subst hi; rfl
theorem enum_tup_end {prog : Program} {w : World} {A : Around} {E : Value → Shared → Prop} {s : Shared} {e it a : Addr} {i : Nat} {c : Int} {xs : Array Value} {old : Value} {Q : Option Value → Shared → Prop} (hh : A.handled = none)
    (he : IsEnum s.heap e it c old) (hit : s.heap.IsTupleIter it a i) (ha : s.heap.IsTuple a xs) (hx : xs[i]? = none) (h : ∀ hp, Heap.ExtBut it s.heap hp → Q none { s with heap := hp }) : wpAny (model prog w) A (pyNext (.ref e)) Q E s := by
  have tE : s.TypeIs (.ref e) "enumerate" := ⟨_, he, rfl⟩
  unfold pyNext
  refine wpAny_bind (wpAny_attempt (wpAny_callSpecial?_slot (name := Str.ofString "__next__") tE F.slot_enumerate_next (wpAny_call_entry F.slot_enumerate_next tE F.entry_enumerate_next ?_ (F.args_enumerate_next_1 _))))
  show wpAny _ _ (field (.ref e) 2 >>= _) _ _ _
  refine wpAny_bind (wpAny_field he rfl (x := .ref it) rfl (wpAny_bind (wpAny_nextOf_tuple_end hh hit ha hx fun hp y ex sx => ?_)))
  obtain ⟨o, ho, hc⟩ := sx
  exact wpAny_bind (wpAny_isInstance (T := "StopIteration") (b := true) ⟨o, ho, hc⟩ isSubtype_stop (wpAny_pure (h _ ex)))
def IteT (K : PySem.W.Frag) (a : Addr) : It :=
  ⟨fun i H => ∃ (xs : List V) (x : V), SqT K H a xs ∧ xs[i]? = some x, fun i H u H' => ∃ B x, u = .ref B ∧ H B = none ∧ H' = upd H B (.tup [.int (i : Nat), x]) ∧ ∀ xs, SqT K H a xs → xs[i]? = some x,
    fun i H => ∃ xs : List V, SqT K H a xs ∧ xs.length ≤ i⟩
theorem turn_enumT {P : Program} {w : World} {K : PySem.W.Frag} {es : List Expr} {n0 : Nat} {ps : Pos} (a e it : Addr) (ha : a ≠ it) (hae : a ≠ e) (hne : e ≠ it) :
    Turn P w K (.Tuple es n0 ps) (IteT K a) [e, it] e (fun i h => (∃ old, IsEnum h e it (0 + ((i : Nat) : Int)) old) ∧ h.IsTupleIter it a i) where
  mem := List.mem_cons_self
  obj := fun i h st b hb => by
    obtain ⟨⟨old, he⟩, ⟨o, ho, hc, hd⟩⟩ := st
    have hb' : b = e ∨ b = it := by simpa using hb
    rcases hb' with z | z
    · rw [z]; exact ⟨_, he, fun v q => nomatch q⟩
    · rw [z]; exact ⟨o, ho, fun v q => by rw [hd] at q; cases q⟩
  keep := fun i h h' st kp => by
    obtain ⟨⟨old, he⟩, h1⟩ := st
    exact ⟨⟨old, kp e (by simp) _ he⟩, h1.at fun o q => kp it (by simp) o q⟩
  item := by
    intro X hP hw hK hc i pins s σ H E I hf st hg
    subst hP hw hK
    obtain ⟨⟨old, he⟩, h1⟩ := st
    obtain ⟨xs, x, hq, hx⟩ := hg
    obtain ⟨its, rv, pl, hz⟩ := I.tuple hq
    obtain ⟨u, hu, ru⟩ := rv.get hx
    have lt_e : e < s.heap.objs.size := Heap.lt_size he
    have lt_i : it < s.heap.objs.size := by obtain ⟨_, q, _⟩ := h1; exact Heap.lt_size q
    have hl : i < its.toArray.size := by
      have := (List.getElem?_eq_some_iff.mp hu).1
      simpa using this
    have D : Draws X.prog X.w X.A.in1 it [it, a] its.toArray.size (fun i v => its.toArray[i]? = some v) (fun i h => h.IsTupleIter it a i ∧ h.IsTuple a its.toArray) := Draws.tuple (A := X.A.in1) (I.ok.hd hc) it a ha its.toArray
    have nin : e ∉ [it, a] := by
      intro hm
      have : e = it ∨ e = a := by simpa using hm
      rcases this with z | z
      · exact hne z
      · exact hae z.symm
    refine wpAny_pyNext_enum_itemC D he ⟨h1, pl⟩ hl hne nin fun y h' tk hy ho hs hT hsz hk => ?_
    have ey : y = u := by
      have hy' : its[i]? = some y := by simpa using hy
      rw [hu] at hy'
      exact (Option.some.inj hy').symm
    subst ey
    refine ⟨_, rfl, wpAny_letOwnedTupleGo_enum (s := { s with heap := h', toks := tk + 1 }) ho fun h'' he2 sb => ?_⟩
    have hT2 := (sb.2 _ (Nat.ne_of_gt lt_e)).trans hT
    have fresh : H s.heap.objs.size = none := I.hok.fresh (Nat.le_refl _)
    have new : ObjOk X.prog X.w (upd H s.heap.objs.size (.tup [.int (i : Nat), x])) h'' s.heap.objs.size (.tup [.int (i : Nat), x]) :=
      ⟨by show 2 ≤ sizeLine; decide, [.int (0 + (i : Int)) tk, y], .cons ⟨tk, by rw [Int.zero_add]⟩ (.cons ru .nil), ⟨_, hT2, rfl, _, rfl⟩⟩
    have J : Inv X pins σ (upd H s.heap.objs.size (.tup [.int (i : Nat), x])) { s with heap := h'', toks := tk + 1 } :=
      I.turnedNew (ch := [e, it]) (fun b ob hb q => (sb.2 b (fun z => hb (by simp [z]))).trans (hk b ob (fun z => hb (by simp [z])) (fun z => hb (by simp [z])) q)) hf (Nat.le_refl _) new
    have ci : ((i + 1 : Nat) : Int) = (i : Int) + 1 := by omega
    refine ⟨.ref s.heap.objs.size, _, J, rfl, ⟨_, x, rfl, fresh, rfl, fun ys hys => by rw [I.tuple_inj hys hq]; exact hx⟩, ⟨⟨y, ?_⟩, hs.1.at fun o q => (sb.2 it (Ne.symm hne)).trans q⟩, fun b hb => ?_⟩
    · rw [ci, ← Int.add_assoc]; exact he2
    · have hlt : b < s.heap.objs.size := by
        have hb' : b = e ∨ b = it := by simpa using hb
        rcases hb' with z | z <;> rw [z] <;> assumption
      rw [upd_ne (Nat.ne_of_lt hlt)]
      exact (hf b hb).1
  done := by
    intro X hP hw hK hc i pins s σ H E I hf st hg
    subst hP hw hK
    obtain ⟨⟨old, he⟩, h1⟩ := st
    obtain ⟨xs, hq, hx⟩ := hg
    obtain ⟨its, rv, pl, hz⟩ := I.tuple hq
    have ll := rv.length
    obtain ⟨f0, f1, f2, f3, f4, f5⟩ := hf it (by simp)
    refine enum_tup_end (I.ok.hd hc) he h1 pl (by simp; omega) fun hp eb => ⟨rfl, I.turned (t' := s.toks) (fun b o hb q => eb b o hb q) f0 f1 f3 f4 f5⟩
  self := fun A i s Q E st h => let ⟨⟨_, he⟩, _⟩ := st; wpAny_pyIter_enum he h
def iEnumT (K : PySem.W.Frag) (ta : TA) : TI := fun σ H R => ta σ H fun vs H1 => ∃ a xs, vs = [.ref a] ∧ SqT K H1 a xs ∧ R (IteT K a) H1
theorem pi_enumT {X : Cx} {e : Expr} {ta : TA} {p pos tpos : Pos} {es : List Expr} {n0 : Nat} (hg : Gl X "enumerate") (hm : X.mg "enumerate" = none) (ha : PA X [e] ta) (hs : starEach [e] X.env = [(false, eval e X.env)] := by rfl) :
    PI X (.Tuple es n0 tpos) (.Call (.Name "enumerate" p) [e] [] pos) (iEnumT X.K ta) := by
  refine ⟨fun pins s σ H R I h => ?_⟩
  refine Call_ (ld_blt I hg hm PyProof.Rows.boot_enumerate (PyProof.Rows.callWith_type1 (thn (ha.run pos pins s σ H _ I h) fun us s1 ⟨vs, H1, I1, r1, q1⟩ => ?_) hs rfl))
  obtain ⟨a, xs, ex, hq, q⟩ := q1
  subst ex
  obtain ⟨u, rfl, ru⟩ := vals1 r1
  cases ru
  obtain ⟨its, rv, pl, hz⟩ := I1.tuple hq
  have lt_a : a < s1.heap.objs.size := by obtain ⟨_, q, _⟩ := pl; exact Heap.lt_size q
  refine call_enum_tup pl fun hp he hit kp => wpAny_pyIter_enum he ?_
  have J : Inv X pins σ H1 { s1 with heap := hp } := I1.kept (t' := s1.toks) kp
  refine ⟨s1.heap.objs.size + 1, [s1.heap.objs.size + 1, s1.heap.objs.size], _, _, H1, rfl, J, turn_enumT a (s1.heap.objs.size + 1) s1.heap.objs.size (Nat.ne_of_lt lt_a) (Nat.ne_of_lt (Nat.lt_succ_of_lt lt_a)) (Nat.succ_ne_self _), ⟨⟨.none, he⟩, hit⟩, fun b hb => ?_, q⟩
  have le : s1.heap.objs.size ≤ b := by
    have : b = s1.heap.objs.size + 1 ∨ b = s1.heap.objs.size := by simpa using hb
    rcases this with z | z
    · rw [z]; exact Nat.le_succ _
    · rw [z]; exact Nat.le_refl _
  exact I1.fpOk le (I1.hok.fresh le)
section
variable {W : Wd} {G : Gam} {T : Tms} {cs : Cells} {t : TA} {KF : PySem.W.Frag}
theorem wk_enumT {α : Type} {r : R α} {xs : List α} {a : Addr} {B : Hp} : Wk (IteT KF a) ⟨W.F, B⟩ [(V.ref a, (rTup r).at xs)] ((enumI xs).map (rPair rInt r).at) := by
  have get : ∀ (F : Hp), Temps F [(V.ref a, (rTup r).at xs)] → ∃ us, TupA F a us ∧ All2 (fun x u => r.p x F u) xs us := fun F t => by
    obtain ⟨_, a', us, e, h1, h2⟩ := t.head
    cases e
    exact ⟨us, h1, h2⟩
  refine ⟨fun i F H cs hi c t => ?_, fun i F H cs x H' sl hi c t y => ?_, fun F H cs c t => ?_⟩
  · obtain ⟨us, h1, h3⟩ := get F t
    rw [List.length_map, enumI_len] at hi
    obtain ⟨u, hu, _⟩ := h3.get (List.getElem?_eq_getElem hi)
    exact ⟨us, u, TupA.sq c.fh h1, hu⟩
  · obtain ⟨us, h1, h3⟩ := get F t
    obtain ⟨T, x', rfl, hT, rfl, f1⟩ := y
    obtain ⟨z, hz, pz⟩ := h3.get' (f1 us (TupA.sq c.fh h1))
    have sF : Same F (upd F T (.tup [.int (i : Nat), x'])) := same_upd (c.fh.free hT)
    rw [List.getElem?_map, enumI_get hz] at hi
    cases hi
    exact ⟨_, c.new hT, sF, T, _, x', rfl, (.inl upd_same), rfl, r.mono sF pz⟩
  · obtain ⟨us, h1, h3⟩ := get F t
    refine ⟨us, TupA.sq c.fh h1, ?_⟩
    rw [List.length_map, enumI_len]
    have := h3.length
    omega
theorem i_enumT {KI : List Sl → Cells → Prop} (h : EvA t W G T cs fun sls cs1 => ∃ (α : Type) (r : R α) (xs : List α), sls = [(rTup r).at xs] ∧ KI ((enumI xs).map (rPair rInt r).at) cs1) : EvI (iEnumT KF t) W G T cs KI := fun s H st R k => by
  refine h s H st _ fun sls cs1 ⟨α, r, xs, e, ki⟩ vs H1 ⟨F, c, sg, tm, ar⟩ => ?_
  subst e
  obtain ⟨v, rfl, p1⟩ := args1 ar
  obtain ⟨hz, a, us, rfl, hF, hA⟩ := id p1
  exact ⟨a, us, rfl, TupA.sq c.fh hF, k _ _ _ cs1 ki (by rw [List.length_map, enumI_len]; exact hz) (fun B => wk_enumT) H1 ⟨F, c, sg, Temps.app (Temps.cons p1 Temps.nil) tm⟩⟩
end
end ML

namespace ML
open PySem Spec PyProof.Rows L2 StX
theorem RoomG.in1 {k : Nat} {A : Around} (r : RoomG (k + 1) A) : RoomG k A.in1 := ⟨r.rm.in1, r.gd⟩
theorem RoomG.make {k : Nat} {A : Around} (r : RoomG (k + 1) A) (C : Addr) (us : List Value) (kw : List (Str × Value)) : RoomG k (A.under (.builtin "type.__call__" ⟨.ref C :: us, kw⟩)) := ⟨r.rm.make C us kw, by
  have e : (Code.builtin "type.__call__" ⟨.ref C :: us, kw⟩).guards = [] := by
    first | rfl | (unfold Code.guards; rw [if_neg]; unfold Code.isGuard; decide)
  show pushGuards (Code.builtin "type.__call__" ⟨.ref C :: us, kw⟩).guards A.guards = some []
  rw [e, r.gd]
  rfl⟩
section
variable {X : Cx} {CX : CXT} {k : Nat} {f C : Addr} {fd : FuncData} {ps : List Str} {sp : Sp} {dvs : List V} {ds : List Value} {E : XK} {x m : Str} {p pos apos : Pos} {e o : Expr} {es : List Expr} {t : TA} {ta tf : TE}
theorem run_makeG {pins : List (Addr × Obj)} {σ : L2.St} {H : Hp} {s : Shared} {Q : VK} {us : List Value} {vs : List V} (M : Mk X.K C f) (F : FnG X.prog X.w X.K X.mg X.base CX k f fd ps sp) (hr : RoomG (k + 1) X.A) (hb : Binds X.K fd ps ds) (hd : Vals dvs ds)
    (hx : Passes CX X E) (I : Inv X pins σ H s) (r : Vals vs us)
    (h : ∀ x dx, H x = none → H dx = none → dx ≠ x → sp (.ref x :: (vs ++ dvs)) (upd (upd H dx (.own x)) x (.ins C dx [])) (fun v H2 => v = .non ∧ Q (.ref x) H2) E) :
    wpAny (model X.prog X.w) X.A (call (.ref C) us) (EP X pins σ Q) X.xe s := by
  have wish := h (s.heap.objs.size + 1) s.heap.objs.size (I.hok.fresh (Nat.le_succ _)) (I.hok.fresh (Nat.le_refl _)) (Nat.ne_of_lt (Nat.lt_succ_self _))
  have J := Inv.made (C := C) I
  have r2 : Vals (V.ref (s.heap.objs.size + 1) :: (vs ++ dvs)) (Value.ref (s.heap.objs.size + 1) :: (us ++ ds)) := .cons rfl (r.append hd)
  have hl : (Value.ref (s.heap.objs.size + 1) :: us ++ ds).length = ps.length := r2.length.symm.trans (F.len _ _ _ _ wish)
  have run := F.go _ X.stack _ _ ⟨Value.ref (s.heap.objs.size + 1) :: us, []⟩ _ _ _ E (hr.make C us []) (J.env0.make C us []) (hb _ (Value.ref (s.heap.objs.size + 1) :: us) J.kIn hl) r2 wish
  refine wpAny_call (make_map (f := f) I.kIn M.makes M.init (beq_iff_eq.mp M.fn) (codeAny_mono run fun r s' hq => ?_))
  match r, hq with
  | .error e, hq => exact hx pins σ _ _ e s' J hq
  | .ok (.ret u), hq =>
    obtain ⟨v, H', J3, rv, ev, q3⟩ := J.after hq
    subst ev
    exact ⟨rv, ⟨V.ref (s.heap.objs.size + 1), H', J3, rfl, q3⟩⟩
  | .ok .next, hq => exact False.elim hq
  | .ok .brk, hq => exact False.elim hq
  | .ok .cont, hq => exact False.elim hq
theorem pe_makeG (M : Mk X.K C f) (F : FnG X.prog X.w X.K X.mg X.base CX k f fd ps sp) (hr : RoomG (k + 1) X.A) (hg : Gl X x) (hm : X.mg x = some (.ref C)) (hb : Binds X.K fd ps ds) (hd : Vals dvs ds) (hx : Passes CX X E)
    (ha : PA X (e :: es) t) (h1 : (x == ("__debug__" : Str)) = false := by decide) (h2 : starEach (e :: es) X.env = (false, eval e X.env) :: starEach es X.env := by rfl) (h3 : (backTo pos (starEach es X.env)).any (·.1) = false := by rfl) :
    PE X (.Call (.Name x p) (e :: es) [] pos) (tMake C sp dvs E t) := ⟨fun pins s σ H Q I h =>
  wpAny_Call_Name_kw (ld_glob I hg hm (PySem.W.callWith_K (h₀ := X.base) I.ok.mod.kin M.kp (thn (ha.run pos pins s σ H _ I h) fun us s1 ⟨vs, H1, I1, r, q⟩ => ⟨I1.kIn, run_makeG M F hr hb hd hx I1 r q⟩) h2 h3) h1)⟩
def tCallOb (C : Addr) (sp : Sp) (dvs : List V) (E : XK) (tf : TE) (t : TA) : TE := fun σ H Q => tf σ H fun y H1 => ∃ a, y = V.ref a ∧ t σ H1 fun vs H2 => (∃ dx fs, H2 a = some (.ins C dx fs)) ∧ sp (V.ref a :: (vs ++ dvs)) H2 Q E
theorem pe_callOG {fe : Expr} (hf : PE X fe tf) (c : CallO X.K C f) (F : FnG X.prog X.w X.K X.mg X.base CX k f fd ps sp) (hr : RoomG k X.A) (hb : Binds X.K fd ps ds) (hd : Vals dvs ds) (hx : Passes CX X E) (ha : PA X (e :: es) t)
    (h1 : eval (.Call fe (e :: es) [] pos) X.env = (do callWith pos (← eval fe X.env) [] (backTo pos (starEach (e :: es) X.env)) (backToKw pos (keywordEach [] X.env))) := by rfl)
    (h2 : starEach (e :: es) X.env = (false, eval e X.env) :: starEach es X.env := by rfl) (h3 : (backTo pos (starEach es X.env)).any (·.1) = false := by rfl) : PE X (.Call fe (e :: es) [] pos) (tCallOb C sp dvs E tf t) := by
  refine ⟨fun pins s σ H Q I h => ?_⟩
  refine Call_ (thn (hf.run pins s σ H _ I h) fun u s1 ⟨y, H1, I1, ry, a, ey, q⟩ => ?_) h1
  subst ey
  cases ry
  refine callO_with (thn (ha.run pos pins s1 σ H1 _ I1 q) fun us s2 ⟨vs, H2, I2, r, ⟨dx, fs, hi⟩, q2⟩ => ?_) h2 h3
  obtain ⟨ox, od, J, hd0⟩ := insC_at (X := X) (C := C) I2 (.inr ⟨dx, fs, hi⟩)
  have r1 : Vals (V.ref a :: vs) (Value.ref a :: us) := .cons rfl r
  have r2 : Vals (V.ref a :: (vs ++ dvs)) (Value.ref a :: us ++ ds) := r1.append hd
  have hl : (Value.ref a :: us ++ ds).length = ps.length := r2.length.symm.trans (F.len _ _ _ _ q2)
  refine ⟨⟨C, ox, od, J, hd0⟩, wpAny_call (PySem.W.kco_code I2.kIn J hd0 c.at_ c.fn c.fi ?_)⟩
  refine codeAny_mono (F.go X.A X.stack s2 H2 ⟨Value.ref a :: us, []⟩ _ _ Q E hr I2.env0 (hb s2 (Value.ref a :: us) I2.kIn hl) r2 q2) fun r s' hq => ?_
  match r, hq with
  | .error e, hq => exact hx pins σ H2 s2 e s' I2 hq
  | .ok (.ret u), hq => exact I2.after hq
  | .ok .next, hq => exact False.elim hq
  | .ok .brk, hq => exact False.elim hq
  | .ok .cont, hq => exact False.elim hq
structure DM (K : PySem.W.Frag) (C : Addr) (name : Str) (f : Addr) : Prop where
  at_ : PySem.W.findIn K (.ref C) name = some (some (.ref f))
  fn : PySem.W.isFn K (.ref f) = true
end
def Fld (F : Hp) (l : List (Str × Sl)) (fs : List (Str × V)) : Prop := All2 (fun x y => x.1 = y.1 ∧ x.2.p F y.2) l fs
theorem Fld.mono {F F' : Hp} {l : List (Str × Sl)} {fs : List (Str × V)} (e : Same F F') (h : Fld F l fs) : Fld F' l fs := h.imp fun x y q => ⟨q.1, x.2.mono e q.2⟩
theorem Fld.names {F : Hp} : ∀ {l : List (Str × Sl)} {fs : List (Str × V)}, Fld F l fs → l.map (·.1) = fs.map (·.1)
  | _, _, .nil => rfl
  | _, _, .cons q t => by rw [List.map_cons, List.map_cons, q.1, Fld.names t]
theorem look_at : ∀ {fs : List (Str × V)} {i : Nat} {f : Str} {v : V}, (fs.map (·.1)).Nodup → fs[i]? = some (f, v) → fs.lookup f = some v
  | [], _, _, _, _, h => by simp at h
  | (g, u) :: fs, 0, f, v, _, h => by
    simp at h
    obtain ⟨rfl, rfl⟩ := h
    rw [List.lookup_cons]
    simp
  | (g, u) :: fs, i + 1, f, v, nd, h => by
    rw [List.map_cons, List.nodup_cons] at nd
    have h' : fs[i]? = some (f, v) := by simpa using h
    have ne : ¬ f = g := fun e => nd.1 (List.mem_map.mpr ⟨(f, v), List.mem_of_getElem? h', e⟩)
    rw [List.lookup_cons]
    have : (f == g) = false := by simpa using ne
    rw [this]
    exact look_at nd.2 h'
theorem Fld.look {F : Hp} {l : List (Str × Sl)} {fs : List (Str × V)} {i : Nat} {f : Str} {sl : Sl} (h : Fld F l fs) (nd : (l.map (·.1)).Nodup) (hi : l[i]? = some (f, sl)) : ∃ v, fs.lookup f = some v ∧ sl.p F v := by
  obtain ⟨⟨g, v⟩, h1, h2, h3⟩ := h.get hi
  subst h2
  exact ⟨v, look_at (h.names ▸ nd) h1, h3⟩
def rRec {α : Type} (C : Addr) (fl : α → List (Str × Sl)) : R α := ⟨fun a F v => ∃ p dx fs, v = .ref p ∧ F p = some (.ins C dx fs) ∧ Fld F (fl a) fs, fun {_ _ _ _} e ⟨p, dx, fs, h1, h2, h3⟩ => ⟨p, dx, fs, h1, e _ _ h2, h3.mono e⟩⟩
def cObj (C : Addr) (l : List (Str × Sl)) : Cl := ⟨fun F o => ∃ dx fs, o = .ins C dx fs ∧ Fld F l fs, fun {_ _ _} e ⟨dx, fs, h1, h2⟩ => ⟨dx, fs, h1, h2.mono e⟩⟩
inductive PutS (f : Str) (sl : Sl) : List (Str × Sl) → List (Str × Sl) → Prop
  | nil : PutS f sl [] [(f, sl)]
  | here (s0 : Sl) (r : List (Str × Sl)) : PutS f sl ((f, s0) :: r) ((f, sl) :: r)
  | next {g : Str} {s0 : Sl} {r r' : List (Str × Sl)} (h : ¬ g = f) (t : PutS f sl r r') : PutS f sl ((g, s0) :: r) ((g, s0) :: r')
theorem PutS.fld {F : Hp} {f : Str} {sl : Sl} {v : V} (hv : sl.p F v) : ∀ {l l' : List (Str × Sl)} {fs : List (Str × V)}, PutS f sl l l' → Fld F l fs → Fld F l' (putF f v fs)
  | _, _, _, .nil, .nil => .cons ⟨rfl, hv⟩ .nil
  | _, _, _, .here s0 r, .cons (b := (g, u)) q t => by
    obtain ⟨q1, q2⟩ := q
    have q1 : f = g := q1
    subst q1
    show Fld F _ (if f = f then _ else _)
    rw [if_pos rfl]
    exact .cons ⟨rfl, hv⟩ t
  | _, _, _, .next hne pt, .cons (b := (g, u)) q t => by
    obtain ⟨q1, q2⟩ := q
    dsimp only at q1
    subst q1
    show Fld F _ (if _ = f then _ else _)
    rw [if_neg hne]
    exact .cons ⟨rfl, q2⟩ (PutS.fld hv pt t)
section
variable {nx bk ct : L2.St → Hp → Prop} {rt : VK}
variable {W : Wd} {G : Gam} {T : Tms} {cs : Cells} {K : Sl → Cells → Prop} {t : TA} {ta tb tc te to : TE} {KF : PySem.W.Frag}
theorem e_fld {α : Type} {C : Addr} {fl : α → List (Str × Sl)} {f : Str} (i : Nat) (cl : Cls KF C) (na : NoAttr KF C f) (nd : ∀ x, ((fl x).map (·.1)).Nodup) (ha : Ev ta W G T cs fun sa cs1 => ∃ x sl, sa = (rRec C fl).at x ∧ (fl x)[i]? = some (f, sl) ∧ K sl cs1) :
    Ev (tFld KF ta f) W G T cs K := fun s H st Q q => by
  refine ha s H st _ fun sa cs1 ⟨x, sl, e, hi, k⟩ va H1 ⟨F, c, sg, tm⟩ => ?_
  subst e
  obtain ⟨p, dx, fs, ev, hF, hf⟩ := tm.head
  obtain ⟨v, hv, pv⟩ := hf.look (nd x) hi
  exact ⟨p, C, dx, fs, v, ev, c.fh _ _ hF, cl, na, hv, q _ _ k _ H1 ⟨F, c, sg, tm.tail.cons pv⟩⟩
theorem Core.obj {F H : Hp} (c : Core W F cs H) {j : Nat} {p C : Addr} {l : List (Str × Sl)} (hj : cs[j]? = some (p, cObj C l)) : ∃ dx fs, H p = some (.ins C dx fs) ∧ Fld F l fs := by
  obtain ⟨_, _, o, h1, dx, fs, e, h2⟩ := c.cell _ (List.mem_of_getElem? hj)
  subst e
  exact ⟨dx, fs, h1, h2⟩
theorem s_fld {C : Addr} {f : Str} (j : Nat) (cl : Cls KF C) (na : NoAttr KF C f) (hv : Ev te W G T cs fun sv cs1 => ∀ vv, Ev to W G ((vv, sv) :: T) cs1 fun so cs2 => ∃ p l l', so = sRef p ∧ cs2[j]? = some (p, cObj C l) ∧ l.length < 1000 ∧ PutS f sv l l' ∧ NxT nx W G T (cs2.set j (p, cObj C l'))) :
    NxT (sFld KF to te f ⟨nx, rt, bk, ct⟩) W G T cs := fun s H st => by
  refine hv s H st _ fun sv cs1 h1 vv H1 st1 => ?_
  refine h1 vv s H1 st1 _ fun so cs2 ⟨p, l, l', e, hj, hz, hp, k⟩ vo H2 ⟨F, c, sg, tm⟩ => ?_
  subst e
  have ev : vo = .ref p := tm.head
  obtain ⟨dx, fs, hF, hf⟩ := c.obj hj
  refine ⟨p, C, dx, fs, ev, hF, cl, na, by rw [← hf.length]; exact hz, k s _ ⟨F, c.write (c' := cObj C l') hj ⟨dx, _, rfl, hp.fld tm.tail.head hf⟩, sg, tm.tail.tail⟩⟩
theorem s_fallN {Q : VK} (h : Rt Q W (rNon.at ()) cs) : NxT (fun _ H' => Q .non H') W G T cs := fun s H ⟨F, c, sg, t⟩ => h _ H ⟨F, c, rfl⟩
theorem Core.freezeO {F H : Hp} (c : Core W F cs H) {j : Nat} {p C : Addr} {l : List (Str × Sl)} (hj : cs[j]? = some (p, cObj C l)) : ∃ F' dx fs, F' p = some (.ins C dx fs) ∧ Fld F' l fs ∧ Same F F' ∧ Core W F' (cs.eraseIdx j) H := by
  obtain ⟨o, F', h1, ⟨dx, fs, e, h2⟩, h3, sF, c'⟩ := c.freeze hj
  subst e
  exact ⟨F', dx, fs, h3, h2, sF, c'⟩
theorem e_makeF {ι β : Type} {C : Addr} {fl : β → List (Str × Sl)} {A : Addr → ι → List Sl} {m : ι → Option β} {E : XK}
    (h : EvA t W G T cs fun sls cs1 => ∃ (i : ι) (b : β), m i = some b ∧ (∀ p, sRef p :: sls = A p i) ∧ K ((rRec C fl).at b) cs1) :
    Ev (tMake C (spM (ι := Addr × ι) (fun i => A i.1 i.2) (fun i => [(i.1, cObj C [])]) (fun i => m i.2) (fun _ _ => rNon.at ()) (fun i b => [(i.1, cObj C (fl b))])) [] E t) W G T cs K := fun s H st Q q => by
  refine h s H st _ fun sls cs1 ⟨i, b, hm, e1, k⟩ vs H1 ⟨F, c, sg, tm, ar⟩ => ?_
  intro x dx hx hdx hne
  rw [List.append_nil]
  -- the dict of the instance, then the instance
  have c1 := c.new (o := .own x) hdx
  have sF : Same F (upd F dx (.own x)) := same_upd (c.fh.free hdx)
  have hx1 : (upd H1 dx (.own x)) x = none := by rw [upd_ne (Ne.symm hne)]; exact hx
  have c2 := c1.newCell (c := cObj C []) hx1 ⟨dx, [], rfl, .nil⟩
  have c2' : Core W (upd F dx (.own x)) ([(x, cObj C [])] ++ cs1) (upd (upd H1 dx (.own x)) x (.ins C dx [])) :=
    ⟨c2.f0, c2.fh, c2.bh, c2.bf, by
      have := c2.nd
      rw [List.map_append] at this ⊢
      exact (List.perm_append_comm.nodup_iff).mp this, fun y hy => c2.cell y (by
        rcases List.mem_append.mp hy with z | z
        · exact List.mem_append_right _ z
        · exact List.mem_append_left _ z)⟩
  refine ⟨(x, i), b, Wd.sub (upd F dx (.own x)) _ [(x, cObj C [])], hm, c2'.sub, ?_, fun v H2 ⟨F2, c3, pv⟩ => ⟨pv, ?_⟩⟩
  · show Args (upd F dx (.own x)) (A x i) _
    rw [← e1 x]
    exact .cons rfl (ar.imp fun sl _ z => sl.mono sF z)
  · have sF2 : Same (upd F dx (.own x)) F2 := c3.f0
    have c4 := c2'.unsub c3
    obtain ⟨F3, dy, gs, h1, h2, s3, c5⟩ := c4.freezeO (j := 0) (p := x) (C := C) (l := fl b) rfl
    exact q _ _ k (.ref x) H2 ⟨F3, c5, sg.mono ((sF.trans sF2).trans s3), (tm.mono ((sF.trans sF2).trans s3)).cons ⟨x, dy, gs, rfl, h1, h2⟩⟩
theorem call_gives {ι β : Type} {A : ι → List Sl} {ci : ι → Cells} {m : ι → Option β} {res : ι → β → Sl} {co : ι → β → Cells} {E : XK} {i : ι} {b : β} {rest : Cells} {F H : Hp} {s : L2.St} {vs : List V} {Q : VK} (hm : m i = some b) (c : Core W F (ci i ++ rest) H) (sg : Slots F G s) (tm : Temps F T) (ar : Args F (A i) vs)
    (q : ∀ v H2, Sta W G ((v, res i b) :: T) (co i b ++ rest) s H2 → Q v H2) : spM A ci m res co vs H Q E :=
  ⟨i, b, Wd.sub F H (ci i), hm, c.sub, ar, fun v H2 ⟨F2, c2, pv⟩ => q v H2 ⟨F2, c.unsub c2, sg.mono (show Same F F2 from c2.f0), (tm.mono (show Same F F2 from c2.f0)).cons pv⟩⟩
theorem e_callOb {ι β α : Type} {C : Addr} {fl : α → List (Str × Sl)} {A : ι → List Sl} {ci : ι → Cells} {m : ι → Option β} {res : ι → β → Sl} {co : ι → β → Cells} {E : XK}
    (ha : Ev ta W G T cs fun sa cs1 => ∃ x, sa = (rRec C fl).at x ∧ ∀ va, EvA t W G ((va, sa) :: T) cs1 fun sls cs2 => ∃ (i : ι) (b : β) (rest : Cells), m i = some b ∧ sa :: sls = A i ∧ cs2 = ci i ++ rest ∧ K (res i b) (co i b ++ rest)) :
    Ev (tCallOb C (spM A ci m res co) [] E ta t) W G T cs K := fun s H st Q q => by
  refine ha s H st _ fun sa cs1 ⟨x, e, h1⟩ va H1 st1 => ?_
  obtain ⟨F1, c1, sg1, tm1⟩ := id st1
  obtain ⟨p, dx, fs, ev, hF, hf⟩ : (rRec C fl).p x F1 va := by
    have := tm1.head
    rw [e] at this
    exact this
  refine ⟨p, ev, ?_⟩
  refine h1 va s H1 st1 _ fun sls cs2 ⟨i, b, rest, hm, e1, e2, k⟩ vs H2 ⟨F, c, sg, tm, ar⟩ => ?_
  subst e2
  rw [List.append_nil]
  obtain ⟨p2, dx2, fs2, ev2, hF2, _⟩ : (rRec C fl).p x F va := by
    have := tm.head
    rw [e] at this
    exact this
  rw [ev] at ev2
  cases ev2
  exact ⟨⟨dx2, fs2, c.fh _ _ hF2⟩, call_gives hm c sg tm.tail (e1 ▸ .cons (ev ▸ tm.head) ar) fun v H3 st3 => q _ _ k v H3 st3⟩
end
end ML

namespace ML
open PySem Spec PyProof.Rows L2 StX
section
variable {nx bk ct : L2.St → Hp → Prop} {rt : VK}
variable {W : Wd} {G : Gam} {T : Tms} {cs : Cells} {K : Sl → Cells → Prop} {t : TA} {ta tb tc te to : TE} {KF : PySem.W.Frag} {α : Type}
def NN (r : R α) : Prop := ∀ x F u, r.p x F u → u ≠ .non
structure IsC (K : PySem.W.Frag) (C : Addr) : Prop where
  cl : Cls K C
  ha : PySem.W.findIn K (.ref C) "__class__" = some (some (.builtin "object.__class__"))
  hn : PySem.W.specialIn K (.builtin "object.__class__") "__get__" = some (some (.builtin "getset_descriptor.__get__"))
  ht : PySem.W.takesIn K (.builtin "object.__class__") = some true
  hm : PySem.W.mroIn K C (.type "object") = some true
end
end ML

namespace ML
open PySem Spec PyProof.Rows L2 StX
section
variable {prog : Program} {w : World} {A : Around} {E : Value → Shared → Prop} {s : Shared} {K : PySem.W.Frag} {x C f : Addr} {ox : Obj} {od : Option Obj} {b : Value}
end
structure NeC (K : PySem.W.Frag) (C : Addr) : Prop where
  ne : PySem.W.findIn K (.ref C) "__ne__" = some (some (.builtin "object.__ne__"))
  hm : PySem.W.mroIn K C (.type "object") = some true
section
variable {X : Cx} {CX : CXT} {k : Nat} {f C : Addr} {fd : FuncData} {ps : List Str} {sp : Sp} {dvs : List V} {ds : List Value} {E : XK}
end
section
variable {W : Wd} {G : Gam} {T : Tms} {cs : Cells} {K : Sl → Cells → Prop} {ta tb : TE}
end
end ML

namespace ML
open PySem Spec PyProof.Rows L2
section
variable {nx bk ct : L2.St → Hp → Prop} {rt : VK}
variable {W : Wd} {G : Gam} {T : Tms} {cs : Cells} {K : Sl → Cells → Prop} {t ta tb : TE} {KF : PySem.W.Frag}
def perm {α : Type} (π : List Nat) (l : List α) : List α := π.filterMap fun i => l[i]?
theorem perm_rel {π : List Nat} : ∀ {vs : List V} {us : List Value}, Vals vs us → Vals (perm π vs) (perm π us) := fun {vs us} r => by
  induction π with
  | nil => exact .nil
  | cons i π ih =>
    unfold perm at ih ⊢
    rw [List.filterMap_cons, List.filterMap_cons]
    cases e : vs[i]? with
    | none => rw [Vals.none_of r e]; exact ih
    | some v =>
      obtain ⟨u, h1, h2⟩ := Vals.get r e
      rw [h1]
      exact .cons h2 ih
theorem perm_args {F : Hp} {π : List Nat} : ∀ {sls : List Sl} {vs : List V}, Args F sls vs → Args F (perm π sls) (perm π vs) := fun {sls vs} r => by
  have ln : ∀ i, sls[i]? = none → vs[i]? = none := fun i e => by
    rw [List.getElem?_eq_none_iff] at e ⊢
    have := All2.length r
    omega
  induction π with
  | nil => exact .nil
  | cons i π ih =>
    unfold perm at ih ⊢
    rw [List.filterMap_cons, List.filterMap_cons]
    cases e : sls[i]? with
    | none => rw [ln i e]; exact ih
    | some v =>
      obtain ⟨u, h1, h2⟩ := All2.get r e
      rw [h1]
      exact .cons h2 ih
def NamesTo (KF : PySem.W.Frag) (fd : FuncData) (ps ks : List Str) (π : List Nat) : Prop :=
  ∀ (s : Shared) (us : List Value), us.length = ks.length → BindsTo s fd ⟨[], ks.zip us⟩ (ps.zip (perm π us))
def tNames (π : List Nat) (n : Nat) (t : TA) : TA := fun σ H Q => t σ H fun vs H1 => vs.length = n ∧ Q (perm π vs) H1
theorem ea_names {π : List Nat} {n : Nat} {t : TA} {K : List Sl → Cells → Prop} (h : EvA t W G T cs fun sls cs1 => sls.length = n ∧ K (perm π sls) cs1) : EvA (tNames π n t) W G T cs K := fun s H st Q q => by
  refine h s H st _ fun sls cs1 ⟨e, k⟩ vs H1 ⟨F, c, sg, tm, ar⟩ => ?_
  exact ⟨(All2.length ar).symm.trans e, q _ _ k _ _ ⟨F, c, sg, tm, perm_args ar⟩⟩
end
section
variable {X : Cx} {CX : CXT} {k : Nat} {f : Addr} {fd : FuncData} {ps ks : List Str} {sp : Sp} {E : XK} {x : Str} {p pos : Pos} {kws : List Keyword} {t : TA} {π : List Nat}
theorem names_mk {KF : PySem.W.Frag} {qual : Str} {st : Stmt} (F : Fun KF x qual st f fd)
    (h : ∀ (kV doc pm : Value) (an : Option Addr) (cdv ct : Value) (us : List Value), us.length = ks.length → bindArgs (PySem.W.fnOf x qual (defArgs st) (defBody st) (defScope st) .none kV doc pm an cdv ct) ⟨[], ks.zip us⟩ = pure (ps.zip (perm π us))) : NamesTo KF fd ps ks π := fun s us hl => by
  obtain ⟨oc, od, kV, doc, pm, an, cdv, ct, osl, rfl, lk, hcd⟩ := F.ex
  exact .of_eq (h kV doc pm an cdv ct us hl)
end
end ML

namespace ML
open PySem Spec PyProof.Rows L2
section
class Something (d : α → PyData) : Prop where
  no : ∀ x, PyData.eqv .none (d x) = false ∧ PyData.eqv (d x) .none = false
instance : Something eInt.d := ⟨fun x => by simp [eInt, PyData.eqv]⟩
instance {r : R α} {r' : R β} [DecidableEq α] [DecidableEq β] (e : REq r) (e' : REq r') : Something (ePair e e').d := ⟨fun x => by simp [ePair, PyData.eqv]⟩
instance {r : R α} [DecidableEq α] (e : REq r) : Something (eTup e).d := ⟨fun x => by simp [eTup, PyData.eqv]⟩
def dOpt (d : α → PyData) : Option α → PyData
  | none => .none
  | some x => d x
def eOpt {r : R α} [DecidableEq α] (e : REq r) [Something e.d] : REq (rOpt r) where
  d := dOpt e.d
  ok := fun {K F H a v} h s => by
    cases a with
    | none =>
      have e2 : v = .non := h
      subst e2
      exact Dp.non
    | some x => exact e.ok h s
  lay := fun x => by
    cases x with
    | none => simp [dOpt, PyData.canLay0]
    | some x => exact e.lay x
  n := e.n + 1
  dep := fun x => by
    cases x with
    | none => simp [dOpt, PyData.depth]
    | some x => exact Nat.le_succ_of_le (e.dep x)
  eqv := fun a b => by
    cases a with
    | none =>
      cases b with
      | none => simp [dOpt, PyData.eqv]
      | some y => simp [dOpt, (Something.no (d := e.d) y).1]
    | some x =>
      cases b with
      | none => simp [dOpt, (Something.no (d := e.d) x).2]
      | some y => simp [dOpt, e.eqv]
end
end ML

namespace ML
open PySem Spec PyProof.Rows L2 StX
section
variable {W : Wd} {G : Gam} {T : Tms} {cs : Cells} {t : TA} {KF : PySem.W.Frag}
end
end ML

namespace ML
open PySem Spec PyProof.Rows L2
section
open PySem.W
variable {prog : Program} {w : World} {A : Around} {E : Value → Shared → Prop} {s : Shared}
end
section
variable {W : Wd} {G : Gam} {T : Tms} {cs : Cells} {K : Sl → Cells → Prop} {KF : PySem.W.Frag} {t : TA}
def AlikeOk (ds : List PyData) : Bool := ds.all fun x => ds.all (fun y => PySem.W.alike x y) && (match x with | .none => false | _ => true)
theorem AlikeOk.all {ds : List PyData} (h : AlikeOk ds = true) : PySem.W.AlikeAll ds := by
  unfold AlikeOk at h
  rw [List.all_eq_true] at h
  refine ⟨fun x hx y hy => ?_, fun x hx e => ?_⟩
  · have := h x hx
    rw [Bool.and_eq_true, List.all_eq_true] at this
    exact this.1 y hy
  · have := h x hx
    subst e
    rw [Bool.and_eq_true] at this
    cases this.2
theorem REq.inj {r : R α} [DecidableEq α] (e : REq r) {a b : α} (h : e.d a = e.d b) : a = b := by
  have h1 := e.eqv a a
  rw [decide_eq_true rfl] at h1
  have h2 := e.eqv a b
  rw [← h, h1] at h2
  exact of_decide_eq_true h2.symm
theorem e_listV (h : EvA t W G T cs fun sls cs1 => ∃ (α : Type) (r : R α) (xs : List α), sls = [(rTup r).at xs] ∧ K ((rLst r).at xs) cs1) : Ev (tCB (rListOf KF) t) W G T cs K := fun s H st Q q => by
  refine h s H st _ fun sls cs1 ⟨α, r, xs, e, k⟩ vs H1 ⟨F, c, sg, tm, ar⟩ => ?_
  subst e
  obtain ⟨v, rfl, hz, a, us, rfl, hF, hA⟩ := args1 ar
  refine ⟨a, us, rfl, .inr (TupA.sq c.fh hF), fun l hl => ?_⟩
  have sF : Same F (upd F l (.lst us)) := same_upd (c.fh.free hl)
  exact q _ _ k _ _ ⟨_, c.new hl, sg.mono sF, (tm.mono sF).cons ⟨hz, l, us, rfl, upd_same, hA.imp fun _ _ z => r.mono sF z⟩⟩
end
end ML

namespace ML
open PySem Spec PyProof.Rows L2
def SortOk (ds : List PyData) : Bool := (ds.all fun x => ds.all fun y => PySem.W.alike x y) && ((ds.all fun x => match x with | .tuple (_ :: _) => true | _ => false) || (ds.all fun x => match x with | .none => false | .tuple _ => false | _ => true))
theorem SortOk.alike {ds : List PyData} (h : SortOk ds = true) : PySem.W.AllAlike ds := fun x hx y hy => by
  unfold SortOk at h
  rw [Bool.and_eq_true, List.all_eq_true] at h
  have := h.1 x hx
  rw [List.all_eq_true] at this
  exact this y hy
theorem DpAll.len {K : PySem.W.Frag} {H : Hp} : ∀ {us : List V} {ds : List PyData}, DpAll K H us ds → us.length = ds.length
  | _, _, .nil => rfl
  | _, _, .cons _ t => by rw [List.length_cons, List.length_cons, DpAll.len t]
section
variable {W : Wd} {G : Gam} {T : Tms} {cs : Cells} {K : Sl → Cells → Prop} {KF : PySem.W.Frag} {t : TA} {ta tb : TE}
end
end ML

namespace ML
open PySem Spec PyProof.Rows L2
abbrev anyTys : List String := ["int", "bool", "str", "NoneType", "list", "tuple", "dict"]
section
variable {W : Wd} {G : Gam} {T : Tms} {cs : Cells} {K : Sl → Cells → Prop} {KF : PySem.W.Frag} {t : TA} {ta tb tk tv : TE}
end
structure AnyC (K : PySem.W.Frag) (C : Addr) : Prop where
  nf : ∀ n ∈ anyTys, PySem.W.notFirst K C (.type n) = true
  ki : ∀ n ∈ anyTys, PySem.W.kitOne K (.type n) (.ref C) = some false
section
variable {X : Cx} {CX : CXT} {k : Nat} {C f : Addr} {fd : FuncData} {ps : List Str} {sp : Sp} {dvs : List V} {ds : List Value} {E : XK}
end
section
variable {W : Wd} {G : Gam} {T : Tms} {cs : Cells} {K : Sl → Cells → Prop} {KF : PySem.W.Frag} {t : TA} {ta tb : TE}
end
section
variable {X : Cx} {CX : CXT} {k : Nat} {C f : Addr} {fd : FuncData} {ps ks : List Str} {sp : Sp} {E : XK} {m : Str} {p pos apos : Pos} {o : Expr} {kws : List Keyword} {ta : TE} {t : TA} {π : List Nat}
def OwnNames (KF : PySem.W.Frag) (fd : FuncData) (ps ks : List Str) (π : List Nat) : Prop :=
  ∀ (s : Shared) (a : Value) (us : List Value), us.length = ks.length → BindsTo s fd ⟨[a], ks.zip us⟩ (ps.zip (a :: perm π us))
end
end ML

namespace ML
open PySem Spec PyProof.Rows L2
structure FunD (K : PySem.W.Frag) (x qual : Str) (st : Stmt) (T f : Addr) (fd : FuncData) : Prop where
  ex : ∃ (oc : Value) (od : Option Addr) (kV doc pm : Value) (an : Option Addr) (cdv ct : Value) (osl : Array (Option Value)),
    fd = PySem.W.fnOf x qual (defArgs st) (defBody st) (defScope st) (.ref T) kV doc pm an cdv ct ∧ K.lookup f = some ⟨oc, od, .func fd, osl⟩ ∧ PySem.W.codeIn K cdv qual = true
  kp : PySem.W.keepIn K (.ref f) = true
theorem FunD.binds {K : PySem.W.Frag} {x qual : Str} {st : Stmt} {T f : Addr} {fd : FuncData} {ps : List Str} {ds : List Value} {o : Obj} {items : Array Value} {n : Nat} (F : FunD K x qual st T f fd) (lk : K.lookup T = some o) (hs : o.data = .seq items n)
    (h : ∀ (kV doc pm : Value) (an : Option Addr) (cdv ct : Value) (us : List Value), (us ++ ds).length = ps.length → ∃ k : Option (Array Value) → Sem (List (Str × Value)),
      bindArgs (PySem.W.fnOf x qual (defArgs st) (defBody st) (defScope st) (.ref T) kV doc pm an cdv ct) ⟨us, []⟩ = (seqItems? (.ref T) >>= k) ∧ k (some items) = pure (ps.zip (us ++ ds))) : Binds K fd ps ds := fun s us X hl => by
  obtain ⟨oc, od, kV, doc, pm, an, cdv, ct, osl, rfl, lk2, hcd⟩ := F.ex
  obtain ⟨k, h1, h2⟩ := h kV doc pm an cdv ct us hl
  exact PySem.W.binds_K X rfl lk hs h1 h2
end ML

namespace ML
open PySem Spec PyProof.Rows L2
section
variable {α β γ : Type}
end
section
variable {nx bk ct : L2.St → Hp → Prop} {rt : VK}
variable {W : Wd} {G : Gam} {T : Tms} {cs : Cells} {K : Sl → Cells → Prop} {t : TA} {ta tb tc te to ti td tk : TE} {tt : TT} {KF : PySem.W.Frag}
end
end ML

namespace ML
open PySem Spec PyProof.Rows L2 StX
section
variable {nx bk ct : L2.St → Hp → Prop} {rt : VK}
variable {W : Wd} {G : Gam} {T : Tms} {cs : Cells} {K : Sl → Cells → Prop} {t : TA} {ta tb tc te to ti td tk : TE} {tt : TT} {KF : PySem.W.Frag}
theorem Core.perm {F H : Hp} {cs' : Cells} (c : Core W F cs H) (p : cs.Perm cs') : Core W F cs' H :=
  ⟨c.f0, c.fh, c.bh, c.bf, ((p.map _).nodup_iff).mp c.nd, fun x hx => c.cell x (p.mem_iff.mpr hx)⟩
theorem Sta.perm {s : L2.St} {H : Hp} {cs' : Cells} (h : Sta W G T cs s H) (p : cs.Perm cs') : Sta W G T cs' s H := let ⟨F, c, a, b⟩ := h; ⟨F, c.perm p, a, b⟩
theorem _root_.ML.RoomG.u1 {k : Nat} {A : Around} (r : RoomG k A) : A.units + 1 < cLine := by have := r.units; omega
end
end ML

namespace ML
open PySem Spec PyProof.Rows L2 StX
section
variable {prog : Program} {w : World} {A : Around} {E : Value → Shared → Prop} {s : Shared}
open PySem.W in
theorem star_items {l : Addr} {items : Array Value} {n i : Nat} {Q : List Value → Shared → Prop} (hl : s.heap.IsList l items) (hh : A.handled = none) (hi : i < n) (hn : n ≤ items.size + 1) (hz : items.size ≤ 16384)
    (h : ∀ (h2 : Heap) (tk : Nat), (∀ b o, s.heap.get? b = some o → h2.get? b = some o) → Q (items.toList.take i ++ [.ref h2.objs.size] ++ (items.toList.drop i).drop (items.size + 1 - n)) { s with heap := h2.push { cls := .type "list", data := .seq ((items.toList.drop i).take (items.size + 1 - n)).toArray }, toks := tk }) :
    wpAny (model prog w) A (unpackItems (.ref l) n (some i)) Q E s := by
  have hlt : l ≠ s.heap.objs.size := by obtain ⟨o, ho, _⟩ := hl; exact Nat.ne_of_lt (Heap.lt_size ho)
  unfold unpackItems
  refine wpAny_bind ?_
  unfold notIterableAtAll
  refine wpAny_bind (wpAny_specialOf hl.typeIs slot_list_iter.lookup ?_)
  refine wpAny_pure ?_
  simp only [Bool.false_eq_true, if_false]
  refine wpAny_bind (wpAny_holding (wpAny_pyIter_list hl ?_))
  refine wpAny_bind (wpAny_holding (kun_draw hlt i 0 _ _ ⟨_, Heap.get?_push_size _ rfl, rfl, rfl⟩ (hl.push _) (by omega) fun h₁ hit₁ hs₁ => ?_))
  have hl₁ : h₁.IsList l items := (hl.push _).extBut hs₁.extBut hlt
  rw [Nat.zero_add] at hit₁
  have hit₁' := hit₁
  obtain ⟨oi, hoi, _⟩ := hit₁'
  have hl₁' := hl₁
  obtain ⟨ol, hol, _⟩ := hl₁'
  rw [List.drop_zero]
  have hfl : (items.toList.take i).length = i := by rw [List.length_take, Array.length_toList]; omega
  rw [if_neg (show ¬ ((items.toList.take i).length < i) by rw [hfl]; omega)]
  refine wpAny_bind (wpAny_holding (kun_collect (s := { s with heap := h₁ }) (T := "list_iterator") (.inr (.inr (.inl rfl))) (Walks.list (A := A.in1) hh s.heap.objs.size l hlt items) (fun j u st => st.1.typeIs) (k := i) (by omega) ⟨hit₁, hl₁⟩ (Heap.lt_size hoi) (Heap.lt_size hol) (fun h₂ tk hk => ?_) (by rw [sizeLine_eq]; omega)))
  have hrl : (items.toList.drop i).length = items.size - i := by rw [List.length_drop, Array.length_toList]
  have hmid : (items.toList.drop i).length - (n - 1 - i) = items.size + 1 - n := by rw [hrl]; omega
  show wpAny _ _ (if (items.toList.drop i).length < n - 1 - i then _ else _) _ _ _
  rw [if_neg (by rw [hrl]; omega)]
  show wpAny _ _ (newList ((items.toList.drop i).take ((items.toList.drop i).length - (n - 1 - i))) >>= fun d => pure (items.toList.take i ++ [d] ++ (items.toList.drop i).drop ((items.toList.drop i).length - (n - 1 - i)))) _ _ _
  rw [hmid]
  refine wpAny_bind (wpAny_newList (s := { s with heap := h₂, toks := tk }) (wpAny_pure (h h₂ tk fun b o e => ?_)) (by rw [List.length_take, hrl, sizeLine_eq]; omega))
  have hb : b ≠ s.heap.objs.size := Nat.ne_of_lt (Heap.lt_size e)
  exact hk b o hb (hs₁.extBut b o hb (Heap.get?_push_of_some _ e))
end
section
variable {X : Cx} {pos : Pos}
end
section
variable {nx bk ct : L2.St → Hp → Prop} {rt : VK}
variable {W : Wd} {G : Gam} {T : Tms} {cs : Cells} {te : TE} {KF : PySem.W.Frag}
end
end ML

namespace ML
open PySem Spec PyProof.Rows L2 StX
section
variable {P : Program} {w : World} {A : Around} {E : Value → Shared → Prop} {s : Shared}
end
section
variable {X : Cx}
end
section
variable {nx bk ct : L2.St → Hp → Prop} {rt : VK}
variable {W : Wd} {G : Gam} {T : Tms} {cs : Cells} {K : Sl → Cells → Prop} {t : TA} {ta tb te : TE} {KF : PySem.W.Frag}
end
mutual
theorem plain_of_lay : ∀ d : PyData, d.canLay0 = true → d.plain = true
  | .none, _ => rfl
  | .bool _, _ => rfl
  | .int _, _ => rfl
  | .str _, _ => rfl
  | .list xs, h => by
    have h : PyData.canLayAll0 xs = true := by simpa [PyData.canLay0] using h
    show PyData.plainAll xs = true
    exact plainAll_of_lay xs h
  | .tuple xs, h => by
    have h : PyData.canLayAll0 xs = true := by simpa [PyData.canLay0] using h
    show PyData.plainAll xs = true
    exact plainAll_of_lay xs h
  | .dict _, h => by simp [PyData.canLay0] at h
theorem plainAll_of_lay : ∀ xs : List PyData, PyData.canLayAll0 xs = true → PyData.plainAll xs = true
  | [], _ => rfl
  | x :: xs, h => by
    have h : x.canLay0 = true ∧ PyData.canLayAll0 xs = true := by simpa [PyData.canLayAll0] using h
    show (x.plain && PyData.plainAll xs) = true
    rw [plain_of_lay x h.1, plainAll_of_lay xs h.2]
    rfl
end
section
variable {W : Wd} {G : Gam} {T : Tms} {cs : Cells} {K : Sl → Cells → Prop} {ta tb te : TE} {KF : PySem.W.Frag}
end
end ML

namespace ML
open PySem Spec PyProof.Rows L2 StX
section
variable {W : Wd} {G : Gam} {T : Tms} {cs : Cells} {K : Sl → Cells → Prop} {ta : TE} {KF : PySem.W.Frag}
end
end ML

namespace ML
open PySem Spec PyProof.Rows PySem.Calls PySem.W L2
section
variable {prog : Program} {w : World} {A : Around} {E : Value → Shared → Prop} {s : Shared} {β : Type} {vs : List Value} {bs : List β} {enc : β → PyData} {R : Value → β → Prop}
end
section
variable {P : Program} {w : World} {fs ex : List Addr} {H : Hp} {h h' : Heap} {a : Addr} {o : HO}
end
section
variable {W : Wd} {G : Gam} {T : Tms} {cs : Cells} {K : Sl → Cells → Prop} {KF : PySem.W.Frag} {t : TA} {ta : TE}
end
end ML

namespace ML
open PySem PySem.Spec PyProof.Rows L2
open Sem (wp)

def hush : GenState → GenState
  | .suspended _ l c p fs cl => .suspended (fun _ => .unsupported "asleep") l c p fs cl
  | x => x
abbrev noG (fs : List PySem.Frame) : Prop := splitAtGen fs = none
theorem noG_append : ∀ {a b : List PySem.Frame}, noG a → noG b → noG (a ++ b)
  | [], b, _, h => h
  | .gen .. :: _, _, h, _ => by cases h
  | .ret .. :: a, b, h, hb => by
    have ha : noG a := by
      show splitAtGen a = none
      have h' : (splitAtGen a).map _ = none := h
      simpa using h'
    have := noG_append ha hb
    show (splitAtGen (a ++ b)).map _ = none
    rw [show splitAtGen (a ++ b) = none from this]; rfl
theorem noG_tail {f : PySem.Frame} {a : List PySem.Frame} (h : noG (f :: a)) : noG a := by
  cases f with
  | gen => cases h
  | ret =>
    have h' : (splitAtGen a).map _ = none := h
    simpa using h'
abbrev Sleepers := Nat → Option GenState
def rouse (θ : Sleepers) (s : Shared) : Shared := { s with gens := s.gens.mapIdx fun i x => (θ i).getD x }
structure Hushed (θ : Sleepers) (s : Shared) : Prop where
  at' : ∀ i x, θ i = some x → s.gens[i]? = some (hush x)
  susp : ∀ i x, θ i = some x → x.status = .suspended
  fr : ∀ i k l c p fs cl, s.gens[i]? = some (.suspended k l c p fs cl) → θ i = none → noG fs
theorem rouse_get {θ : Sleepers} {s : Shared} {i : Nat} : (rouse θ s).gens[i]? = (s.gens[i]?).map fun x => (θ i).getD x := by
  show (s.gens.mapIdx _)[i]? = _
  rw [Array.getElem?_mapIdx]
theorem rouse_size {θ : Sleepers} {s : Shared} : (rouse θ s).gens.size = s.gens.size := by
  show (s.gens.mapIdx _).size = _
  rw [Array.size_mapIdx]
theorem hush_status (x : GenState) : (hush x).status = x.status := by cases x <;> rfl
theorem hush_seen (x : GenState) : (hush x).seen = x.seen := by cases x <;> rfl
theorem Hushed.none_of {θ : Sleepers} {s : Shared} (h : Hushed θ s) {i : Nat} {x : GenState} (e : s.gens[i]? = some x) (hx : x.status ≠ .suspended) : θ i = none := by
  cases q : θ i with
  | none => rfl
  | some y =>
    have := h.at' i y q
    rw [e] at this
    cases this
    exact absurd ((hush_status y).trans (h.susp i y q)) hx
theorem Hushed.out {θ : Sleepers} {s : Shared} (h : Hushed θ s) {i : Nat} (hi : s.gens.size ≤ i) : θ i = none := by
  cases q : θ i with
  | none => rfl
  | some y =>
    have := h.at' i y q
    rw [Array.getElem?_eq_none hi] at this
    cases this
theorem rouse_setGen {θ : Sleepers} {s : Shared} {g : Nat} {x : GenState} (hg : θ g = none) : rouse θ (s.setGen g x) = (rouse θ s).setGen g x := by
  unfold rouse Shared.setGen
  congr 1
  apply Array.ext_getElem?
  intro i
  rw [Array.getElem?_mapIdx, Array.getElem?_setIfInBounds, Array.getElem?_setIfInBounds, Array.getElem?_mapIdx, Array.size_mapIdx]
  by_cases e : g = i
  · subst e
    rw [if_pos rfl, if_pos rfl]
    split
    · simp [hg]
    · rfl
  · rw [if_neg e, if_neg e]
theorem Hushed.setGen {θ : Sleepers} {s : Shared} (h : Hushed θ s) {g : Nat} {x : GenState} (hg : θ g = none) (hx : ∀ k l c p fs cl, x = .suspended k l c p fs cl → noG fs) : Hushed θ (s.setGen g x) where
  at' i y e := by
    have ne : g ≠ i := fun z => by subst z; rw [hg] at e; cases e
    show (s.gens.setIfInBounds g x)[i]? = _
    rw [Array.getElem?_setIfInBounds_ne ne]
    exact h.at' i y e
  susp := h.susp
  fr i k l c p fs cl e n := by
    have e' : (s.gens.setIfInBounds g x)[i]? = some (.suspended k l c p fs cl) := e
    rw [Array.getElem?_setIfInBounds] at e'
    split at e'
    · split at e'
      · cases e'; exact hx _ _ _ _ _ _ rfl
      · cases e'
    · exact h.fr i k l c p fs cl e' n
theorem Hushed.push {θ : Sleepers} {s : Shared} (h : Hushed θ s) (c : Code) : Hushed θ { s with gens := s.gens.push (.fresh c) } where
  at' i y e := by
    have := h.at' i y e
    show (s.gens.push _)[i]? = _
    obtain ⟨hl, he⟩ := Array.getElem?_eq_some_iff.mp this
    rw [Array.getElem?_push_lt hl, he]
  susp := h.susp
  fr i k l c' p fs cl e n := by
    have e' : (s.gens.push (.fresh c))[i]? = some (.suspended k l c' p fs cl) := e
    rw [Array.getElem?_push] at e'
    split at e'
    · cases e'
    · exact h.fr i k l c' p fs cl e' n
theorem rouse_push {θ : Sleepers} {s : Shared} (h : Hushed θ s) (c : Code) : rouse θ { s with gens := s.gens.push (.fresh c) } = { rouse θ s with gens := (rouse θ s).gens.push (.fresh c) } := by
  unfold rouse
  congr 1
  show (s.gens.push (.fresh c)).mapIdx _ = (s.gens.mapIdx _).push _
  rw [Array.mapIdx_push, h.out (Nat.le_refl _)]
  rfl

theorem no_run {M : Model} {Γ : PySem.Ctx} {p : Pos} {t : Sem PySem.Fin} {fs : List PySem.Frame} {s s' : Shared} {e : PySem.End} (h : Runs M Γ p t fs s e s') : ∀ {w : String}, t = .unsupported w → False := by
  induction h <;> intro w q <;> (first | (cases q; done) | (exact ‹∀ {w : String}, _ = Sem.unsupported w → False› q))

def EndOk : PySem.End → Prop
  | .susp _ _ _ _ _ _ fs => noG fs
  | _ => True
theorem EndOk.gen {e : PySem.End} (h : EndOk e) : ∀ k l c p fs cl, e.genState = .suspended k l c p fs cl → noG fs := by
  intro k l c p fs cl q
  cases e with
  | ret r => cases q
  | susp v g l₀ k₀ c₀ p₀ fs₀ => cases q; exact h

theorem runs_rouse {M : Model} {θ : Sleepers} {Γ : PySem.Ctx} {p : Pos} {t : Sem PySem.Fin} {fs : List PySem.Frame} {s s' : Shared} {e : PySem.End} (h : Runs M Γ p t fs s e s') :
    Hushed θ s → noG fs → Hushed θ s' ∧ EndOk e ∧ Runs M Γ p t fs (rouse θ s) e (rouse θ s') := by
  induction h with
  | done => exact fun a _ => ⟨a, trivial, .done⟩
  | raise => exact fun a _ => ⟨a, trivial, .raise⟩
  | again q _ ih => exact fun a b => let ⟨x, y, z⟩ := ih a b; ⟨x, y, .again q z⟩
  | rule _ ih => exact fun a b => let ⟨x, y, z⟩ := ih a b; ⟨x, y, .rule z⟩
  | «at» _ ih => exact fun a b => let ⟨x, y, z⟩ := ih a b; ⟨x, y, .at z⟩
  | load q _ ih => exact fun a b => let ⟨x, y, z⟩ := ih a b; ⟨x, y, .load q z⟩
  | update q _ ih => exact fun a b => let ⟨x, y, z⟩ := ih ⟨a.at', a.susp, a.fr⟩ b; ⟨x, y, .update q z⟩
  | loadIfAlive _ ih => exact fun a b => let ⟨x, y, z⟩ := ih a b; ⟨x, y, .loadIfAlive z⟩
  | point _ ih => exact fun a b => let ⟨x, y, z⟩ := ih a b; ⟨x, y, .point z⟩
  | alloc _ ih => exact fun a b => let ⟨x, y, z⟩ := ih ⟨a.at', a.susp, a.fr⟩ b; ⟨x, y, .alloc z⟩
  | fresh _ ih => exact fun a b => let ⟨x, y, z⟩ := ih ⟨a.at', a.susp, a.fr⟩ b; ⟨x, y, .fresh z⟩
  | ask _ ih => exact fun a b => let ⟨x, y, z⟩ := ih a b; ⟨x, y, .ask z⟩
  | choose q _ ih => exact fun a b => let ⟨x, y, z⟩ := ih ⟨a.at', a.susp, a.fr⟩ b; ⟨x, y, .choose q z⟩
  | os _ ih => exact fun a b => let ⟨x, y, z⟩ := ih ⟨a.at', a.susp, a.fr⟩ b; ⟨x, y, .os z⟩
  | handled _ ih => exact fun a b => let ⟨x, y, z⟩ := ih a b; ⟨x, y, .handled z⟩
  | @genState g st Γ p k s e s' q _ ih =>
    intro a b
    obtain ⟨x, y, z⟩ := ih a b
    refine ⟨x, y, ?_⟩
    cases hq : θ g with
    | none => exact .genState (by rw [rouse_get, q]; simp [hq]) z
    | some u =>
      have h1 := a.at' g u hq
      rw [q] at h1
      cases h1
      rw [hush_seen] at z
      exact .genState (st := u) (by rw [rouse_get, q]; simp [hq]) z
  | stack _ ih => exact fun a b => let ⟨x, y, z⟩ := ih a b; ⟨x, y, .stack z⟩
  | thread _ ih => exact fun a b => let ⟨x, y, z⟩ := ih a b; ⟨x, y, .thread z⟩
  | newGen _ ih =>
    intro a b
    obtain ⟨x, y, z⟩ := ih (a.push _) b
    rw [rouse_push a] at z
    refine ⟨x, y, .newGen ?_⟩
    rw [rouse_size]
    exact z
  | call _ _ ih1 ih2 =>
    intro a b
    obtain ⟨x, y, z⟩ := ih1 a rfl
    obtain ⟨x2, y2, z2⟩ := ih2 x b
    exact ⟨x2, y2, .call z z2⟩
  | callSusp _ ih =>
    intro a b
    obtain ⟨x, y, z⟩ := ih a rfl
    exact ⟨x, noG_append y rfl, .callSusp z⟩
  | yield => exact fun a _ => ⟨a, rfl, .yield⟩
  | @resumeFresh Γ p g l k s c e₁ s₁ e s' q _ hq _ ih1 ih2 =>
    intro a b
    have hg := a.none_of q (by simp [GenState.status])
    obtain ⟨x, y, z⟩ := ih1 (a.setGen (x := .running) hg (fun _ _ _ _ _ _ w => by cases w)) rfl
    obtain ⟨x2, y2, z2⟩ := ih2 (x.setGen hg y.gen) b
    rw [rouse_setGen hg] at z z2
    exact ⟨x2, y2, .resumeFresh (by rw [rouse_get, q]; simp [hg]) z hq z2⟩
  | @resumeSuspended Γ p g r l k s k₀ l₀ c₀ p₀ fs cl e₁ s₁ e s' q hr hq _ ih1 ih2 =>
    intro a b
    cases hg : θ g with
    | none =>
      obtain ⟨x, y, z⟩ := ih1 (a.setGen (x := .running) hg (fun _ _ _ _ _ _ w => by cases w)) (a.fr _ _ _ _ _ _ _ q hg)
      obtain ⟨x2, y2, z2⟩ := ih2 (x.setGen hg y.gen) b
      rw [rouse_setGen hg] at z z2
      exact ⟨x2, y2, .resumeSuspended (by rw [rouse_get, q, hg]; rfl) z hq z2⟩
    | some u =>
      have h1 := a.at' g u hg
      have h2 := a.susp g u hg
      rw [q] at h1
      cases u with
      | suspended k l c p fs cl =>
        cases h1
        exact (no_run hr rfl).elim
      | fresh => cases h2
      | running => cases h2
      | finished => cases h2
  | resumeJustStarted q hv _ ih =>
    intro a b
    obtain ⟨x, y, z⟩ := ih a b
    exact ⟨x, y, .resumeJustStarted (by rw [rouse_get, q]; simp [a.none_of q (by simp [GenState.status])]; rfl) hv z⟩
  | resumeThrowFresh q _ ih =>
    intro a b
    have hg := a.none_of q (by simp [GenState.status])
    obtain ⟨x, y, z⟩ := ih (a.setGen (x := .finished) hg (fun _ _ _ _ _ _ w => by cases w)) b
    rw [rouse_setGen hg] at z
    exact ⟨x, y, .resumeThrowFresh (by rw [rouse_get, q]; simp [hg]; rfl) z⟩
  | resumeRunning q _ ih =>
    intro a b
    obtain ⟨x, y, z⟩ := ih a b
    exact ⟨x, y, .resumeRunning (by rw [rouse_get, q]; simp [a.none_of q (by simp [GenState.status])]) z⟩
  | resumeFinished q _ ih =>
    intro a b
    obtain ⟨x, y, z⟩ := ih a b
    exact ⟨x, y, .resumeFinished (by rw [rouse_get, q]; simp [a.none_of q (by simp [GenState.status])]) z⟩
  | segRet _ _ ih1 ih2 =>
    intro a b
    obtain ⟨x, y, z⟩ := ih1 a rfl
    obtain ⟨x2, y2, z2⟩ := ih2 x (noG_tail b)
    exact ⟨x2, y2, .segRet z z2⟩
  | segGen _ _ _ _ => exact fun _ b => by cases b
  | segSuspOut q _ ih =>
    intro a b
    obtain ⟨x, y, z⟩ := ih a rfl
    exact ⟨x, noG_append y q, .segSuspOut q z⟩
  | segSuspGen q _ _ _ _ _ => exact fun _ b => by rw [show splitAtGen _ = none from b] at q; cases q

theorem wakes_rouse {M : Model} {θ : Sleepers} {Γ : PySem.Ctx} {p : Pos} {g : Nat} {r : Resume} {s s' : Shared} {res : GenResult} (h : Wakes M Γ p g r s res s') (a : Hushed θ s) : Hushed θ s' ∧ Wakes M Γ p g r (rouse θ s) res (rouse θ s') := by
  unfold Wakes at h ⊢
  rw [rouse_get]
  cases q : s.gens[g]? with
  | none => rw [q] at h; exact h.elim
  | some st =>
    rw [q] at h
    cases st with
    | fresh c =>
      have hg := a.none_of q (by simp [GenState.status])
      simp only [Option.map_some, hg, Option.getD_none]
      simp only at h
      cases r with
      | throw x => obtain ⟨rfl, rfl⟩ := h; exact ⟨a.setGen hg (fun _ _ _ _ _ _ w => by cases w), rfl, rouse_setGen hg⟩
      | send v =>
        cases v with
        | none =>
          obtain ⟨e₁, s₁, hr, hq, rfl, rfl⟩ := h
          obtain ⟨x, y, z⟩ := runs_rouse hr (a.setGen (x := .running) hg (fun _ _ _ _ _ _ w => by cases w)) rfl
          rw [rouse_setGen hg] at z
          exact ⟨x.setGen hg y.gen, e₁, _, z, hq, rfl, rouse_setGen hg⟩
        | _ => obtain ⟨rfl, rfl⟩ := h; exact ⟨a, rfl, rfl⟩
    | suspended k₀ l₀ c₀ p₀ fs cl =>
      cases hg : θ g with
      | none =>
        simp only [Option.map_some, hg, Option.getD_none]
        simp only at h
        obtain ⟨e₁, s₁, hr, hq, rfl, rfl⟩ := h
        obtain ⟨x, y, z⟩ := runs_rouse hr (a.setGen (x := .running) hg (fun _ _ _ _ _ _ w => by cases w)) (a.fr _ _ _ _ _ _ _ q hg)
        rw [rouse_setGen hg] at z
        exact ⟨x.setGen hg y.gen, e₁, _, z, hq, rfl, rouse_setGen hg⟩
      | some u =>
        have h1 := a.at' g u hg
        have h2 := a.susp g u hg
        rw [q] at h1
        obtain ⟨e₁, s₁, hr, _⟩ := h
        cases u with
        | suspended k l c p fs cl => cases h1; exact (no_run hr rfl).elim
        | fresh => cases h2
        | running => cases h2
        | finished => cases h2
    | running =>
      have hg := a.none_of q (by simp [GenState.status])
      simp only [Option.map_some, hg, Option.getD_none]
      obtain ⟨rfl, rfl⟩ := h; exact ⟨a, rfl, rfl⟩
    | finished =>
      have hg := a.none_of q (by simp [GenState.status])
      simp only [Option.map_some, hg, Option.getD_none]
      obtain ⟨rfl, rfl⟩ := h; exact ⟨a, rfl, rfl⟩

theorem wp_rouse {α : Type} {M : Model} {Γ : PySem.Ctx} {θ : Sleepers} (t : Sem α) : ∀ (Q : α → Pos → Shared → Prop) (E : Value → Pos → Shared → Prop) (p : Pos) (s : Shared), Hushed θ s → wp M Γ t Q E p s →
    wp M Γ t (fun a p' s' => ∃ z, s' = rouse θ z ∧ Hushed θ z ∧ Q a p' z) (fun e p' s' => ∃ z, s' = rouse θ z ∧ Hushed θ z ∧ E e p' z) p (rouse θ s) := by
  induction t with
  | pure a => exact fun Q E p s n h => ⟨s, rfl, n, h⟩
  | raise e => exact fun Q E p s n h => ⟨s, rfl, n, h⟩
  | unsupported _ => exact fun Q E p s _ h => h
  | finish _ => exact fun Q E p s _ h => h
  | rule _ k ih => exact fun Q E p s n h => ih () Q E p s n h
  | «at» p' k ih => exact fun Q E p s n h => ih () Q E p' s n h
  | load a _ k ih => exact fun Q E p s n h => let ⟨o, ho, h⟩ := h; ⟨o, ho, ih o Q E p s n h⟩
  | update a _ f k ih => exact fun Q E p s n h => ⟨h.1, ih () Q E p { s with heap := s.heap.update a f } ⟨n.at', n.susp, n.fr⟩ h.2⟩
  | loadIfAlive a k ih => exact fun Q E p s n h => ih _ Q E p s n h
  | point _ k ih => exact fun Q E p s n h => ih () Q E p s n h
  | register _ _ => exact fun Q E p s _ h => h
  | alloc o k ih => exact fun Q E p s n h => ih _ Q E p { s with heap := s.heap.push o } ⟨n.at', n.susp, n.fr⟩ h
  | fresh k ih => exact fun Q E p s n h => ih _ Q E p { s with toks := s.toks + 1 } ⟨n.at', n.susp, n.fr⟩ h
  | ask k ih => exact fun Q E p s n h => ih _ Q E p s n h
  | choose src m k ih => exact fun Q E p s n h => ⟨h.1, ih _ Q E p { s with drawn := s.drawn.bump src } ⟨n.at', n.susp, n.fr⟩ h.2⟩
  | os q _ k ih => exact fun Q E p s n h => ih _ Q E p { s with os := (Os.step s.os q).1 } ⟨n.at', n.susp, n.fr⟩ h
  | call c hd _ _ k ih =>
    intro Q E p s n h
    obtain ⟨r, s', hr, h⟩ := h
    obtain ⟨a, _, b⟩ := runs_rouse hr n rfl
    exact ⟨r, rouse θ s', b, ih r Q E p s' a h⟩
  | handled own k ih => exact fun Q E p s n h => ih _ Q E p s n h
  | genState g k ih =>
    intro Q E p s n h
    obtain ⟨st, hs, h⟩ := h
    cases hg : θ g with
    | none => exact ⟨st, by rw [rouse_get, hs]; simp [hg], ih _ Q E p s n h⟩
    | some u =>
      have h1 := n.at' g u hg
      rw [hs] at h1
      cases h1
      rw [hush_seen] at h
      exact ⟨u, by rw [rouse_get, hs]; simp [hg], ih _ Q E p s n h⟩
  | newGen c k ih =>
    intro Q E p s n h
    have := ih s.gens.size Q E p { s with gens := s.gens.push (.fresh c) } (n.push c) h
    rw [rouse_push n] at this
    show wp M Γ (k (rouse θ s).gens.size) _ _ p _
    rw [rouse_size]
    exact this
  | resume g r _ k ih =>
    intro Q E p s n h
    obtain ⟨res, s', hw, h⟩ := h
    obtain ⟨a, b⟩ := wakes_rouse hw n
    exact ⟨res, rouse θ s', b, ih res Q E p s' a h⟩
  | yield _ _ _ _ => exact fun Q E p s _ h => h
  | stack k ih => exact fun Q E p s n h => ih _ Q E p s n h
  | fork _ _ => exact fun Q E p s _ h => h
  | thread k ih => exact fun Q E p s n h => ih _ Q E p s n h
  | await _ _ _ _ _ => exact fun Q E p s _ h => h

def asleep (s : Shared) : Sleepers := fun i => match s.gens[i]? with
  | some (.suspended k l c p fs cl) => some (.suspended k l c p fs cl)
  | _ => none
def hushed (s : Shared) : Shared := { s with gens := s.gens.map hush }
theorem asleep_at {s : Shared} {i : Nat} {x : GenState} : asleep s i = some x ↔ s.gens[i]? = some x ∧ x.status = .suspended := by
  unfold asleep
  cases q : s.gens[i]? with
  | none => simp
  | some y =>
    cases y with
    | suspended k l c p fs cl =>
      simp only [Option.some.injEq]
      exact ⟨fun e => ⟨e, by rw [← e]; rfl⟩, fun e => e.1⟩
    | _ =>
      simp only [Option.some.injEq, reduceCtorEq, false_iff, not_and]
      intro e
      subst e
      simp [GenState.status]
theorem hushed_ok (s : Shared) : Hushed (asleep s) (hushed s) where
  at' i x e := by
    show (s.gens.map hush)[i]? = _
    rw [Array.getElem?_map, (asleep_at.mp e).1]; rfl
  susp i x e := (asleep_at.mp e).2
  fr i k l c p fs cl e n := by
    have e' : (s.gens.map hush)[i]? = some (.suspended k l c p fs cl) := e
    rw [Array.getElem?_map] at e'
    cases q : s.gens[i]? with
    | none => rw [q] at e'; cases e'
    | some y =>
      cases y with
      | suspended k l c p fs cl =>
        have := (asleep_at (s := s) (i := i)).mpr ⟨q, rfl⟩
        rw [n] at this; cases this
      | fresh => rw [q] at e'; cases e'
      | running => rw [q] at e'; cases e'
      | finished => rw [q] at e'; cases e'
theorem rouse_hushed (s : Shared) : rouse (asleep s) (hushed s) = s := by
  obtain ⟨hp, g, d, t, o⟩ := s
  unfold rouse hushed
  congr 1
  apply Array.ext_getElem?
  intro i
  rw [Array.getElem?_mapIdx, Array.getElem?_map]
  cases q : g[i]? with
  | none => rfl
  | some y =>
    cases y with
    | suspended k l c p fs cl =>
      have := (asleep_at (s := ⟨hp, g, d, t, o⟩) (i := i)).mpr ⟨q, rfl⟩
      simp [this]
    | _ =>
      have : asleep ⟨hp, g, d, t, o⟩ i = none := by unfold asleep; simp only [q]
      simp [this, hush]
theorem any_asleep {α : Type} {M : Model} {A : Around} {s : Shared} {t : Sem α} {Q : α → Shared → Prop} {E : Value → Shared → Prop} (h : wpAny M A t Q E (hushed s)) :
    wpAny M A t (fun a s' => ∃ z, s' = rouse (asleep s) z ∧ Hushed (asleep s) z ∧ Q a z) (fun e s' => ∃ z, s' = rouse (asleep s) z ∧ Hushed (asleep s) z ∧ E e z) s := fun Γ p hΓ => by
  have := wp_rouse t _ _ p (hushed s) (hushed_ok s) (h Γ p hΓ)
  rw [rouse_hushed] at this
  exact this
theorem rouse_asleep {s z : Shared} (h : Hushed (asleep s) z) {i : Nat} {x : GenState} (e : s.gens[i]? = some x) (hx : x.status = .suspended) : (rouse (asleep s) z).gens[i]? = some x := by
  have q := asleep_at.mpr ⟨e, hx⟩
  rw [rouse_get, h.at' i x q]
  simp [q]
theorem allBare_hushed {s : Shared} (h : AllBare s.gens) : AllBare (hushed s).gens := fun y hy => by
  obtain ⟨i, hi⟩ := Array.mem_iff_getElem?.mp hy
  have e' : (s.gens.map hush)[i]? = some y := hi
  rw [Array.getElem?_map] at e'
  cases q : s.gens[i]? with
  | none => rw [q] at e'; cases e'
  | some x =>
    rw [q] at e'
    cases e'
    have := h x (Array.mem_of_getElem? q)
    cases x <;> exact this
theorem allBare_rouse {s z : Shared} (h : AllBare s.gens) (hz : AllBare z.gens) : AllBare (rouse (asleep s) z).gens := fun y hy => by
  obtain ⟨i, hi⟩ := Array.mem_iff_getElem?.mp hy
  rw [rouse_get] at hi
  cases q : z.gens[i]? with
  | none => rw [q] at hi; cases hi
  | some x =>
    rw [q] at hi
    cases r : asleep s i with
    | none => simp [r] at hi; rw [← hi]; exact hz x (Array.mem_of_getElem? q)
    | some u => simp [r] at hi; rw [← hi]; exact h u (Array.mem_of_getElem? (asleep_at.mp r).1)
end ML

namespace ML
open PySem PySem.Spec PyProof.Rows L2

section
variable {P : Program} {w : World} {H H' G : Hp} {h h' : Heap} {a : Addr} {o : HO}
theorem ObjOk.there (x : ObjOk P w H h a o) : ∃ ob, h.get? a = some ob := by
  cases o with
  | lst xs => obtain ⟨_, _, _, _, e⟩ := x; exact ⟨_, e⟩
  | tup xs => obtain ⟨_, _, _, ob, e, _⟩ := x; exact ⟨_, e⟩
  | dK kvs => obtain ⟨_, _, _, _, ob, _, _, e, _⟩ := x; exact ⟨_, e⟩
  | dT kvs => obtain ⟨_, _, _, _, ob, _, _, e, _⟩ := x; exact ⟨_, e⟩
  | set S n => obtain ⟨ob, _, _, _, e, _⟩ := x; exact ⟨_, e⟩
  | ins C dx fs => obtain ⟨_, _, _, e, _⟩ := x; exact ⟨_, e⟩
  | own y => exact x
  | xd fs => obtain ⟨_, ⟨ob, _, _, e, _⟩, _⟩ := x; exact ⟨_, e⟩
  | rng lo hi => obtain ⟨_, _, _, e⟩ := x; exact ⟨_, e⟩
  | frz ob u => obtain ⟨e, _⟩ := x; exact ⟨_, e⟩
  | tbl ps => exact ⟨_, (show h.get? a = some _ from x)⟩
  | met f y => exact ⟨_, (show h.get? a = some _ from x)⟩
  | ext φ => obtain ⟨_, q, _⟩ := x; exact q
theorem ObjOk.swap (x : ObjOk P w H h a o) (hi : ∀ C dx fs, o = .ins C dx fs → H' dx = some (.own a)) (nT : ∀ kvs, o ≠ .dT kvs) (nF : ∀ ob u, o = .frz ob u → ∃ xs, u = .tup xs) : ObjOk P w H' h a o := by
  cases o with
  | lst xs => obtain ⟨z, its, n, r, e⟩ := x; exact ⟨z, its, n, r, e⟩
  | tup xs => obtain ⟨z, its, r, q⟩ := x; exact ⟨z, its, r, q⟩
  | dK kvs => obtain ⟨z, y, vs, r, q⟩ := x; exact ⟨z, y, vs, r, q⟩
  | dT kvs => exact absurd rfl (nT kvs)
  | set S n => exact x
  | ins C dx fs => obtain ⟨_, z, ne, e, q⟩ := x; exact ⟨hi C dx fs rfl, z, ne, e, q⟩
  | own y => exact x
  | xd fs => exact x
  | rng lo hi => exact x
  | frz ob u =>
    obtain ⟨xs, rfl⟩ := nF ob u rfl
    obtain ⟨e, z, its, r, q⟩ := x
    exact ⟨e, z, its, r, q⟩
  | tbl ps => exact x
  | met f y => exact x
  | ext φ => exact x
theorem HOk.there (x : HOk P w H h) (e : H a = some o) : ∃ ob, h.get? a = some ob := ObjOk.there (x a o e)

structure Whole (G : Hp) : Prop where
  noT : ∀ b kvs, G b ≠ some (.dT kvs)
  noF : ∀ b ob u, G b = some (.frz ob u) → ∃ xs, u = .tup xs
  own : ∀ b a, G b = some (.own a) → ∃ C fs, G a = some (.ins C b fs)
  ins : ∀ a C dx fs, G a = some (.ins C dx fs) → G dx = some (.own a)
theorem Whole.hok (q : Whole G) (sm : Same G H) (x : HOk P w H h) : HOk P w G h := fun a o e =>
  ObjOk.swap (x a o (sm a o e)) (fun C dx fs z => q.ins a C dx fs (by rw [e, z])) (fun kvs z => q.noT a kvs (by rw [e, z])) fun ob u z => q.noF a ob u (by rw [e, z])
def lean (M : Hp) : Hp := fun b => match M b with
  | some (.dT _) => none
  | some (.frz ob (.tup xs)) => some (.frz ob (.tup xs))
  | some (.frz _ _) => none
  | some (.own a) => match M a with
    | some (.ins _ d _) => if d = b then some (.own a) else none
    | _ => none
  | o => o
theorem lean_sub {M : Hp} : Same (lean M) M := fun b x e => by
  unfold lean at e
  split at e
  · cases e
  · rename_i q; cases e; exact q
  · cases e
  · rename_i a q
    split at e
    · split at e
      · cases e; exact q
      · cases e
    · cases e
  · exact e
theorem lean_ins {M : Hp} {a C dx fs} (e : M a = some (.ins C dx fs)) : lean M a = some (.ins C dx fs) := by unfold lean; simp only [e]
theorem lean_tup {M : Hp} {a xs} (e : M a = some (.tup xs)) : lean M a = some (.tup xs) := by unfold lean; simp only [e]
theorem lean_tupA {M : Hp} {a xs} (e : TupA M a xs) : TupA (lean M) a xs := e.elim (fun e => .inl (lean_tup e)) fun ⟨o, e, d⟩ => .inr ⟨o, (by unfold lean; simp only [e]), d⟩
theorem lean_lst {M : Hp} {a xs} (e : M a = some (.lst xs)) : lean M a = some (.lst xs) := by unfold lean; simp only [e]
theorem lean_own {M : Hp} {a b C fs} (e : M b = some (.own a)) (e2 : M a = some (.ins C b fs)) : lean M b = some (.own a) := by unfold lean; simp only [e, e2, if_true]
theorem lean_whole {M : Hp} (h : ∀ a C dx fs, M a = some (.ins C dx fs) → M dx = some (.own a)) : Whole (lean M) where
  noT b kvs e := by
    have := lean_sub b _ e
    unfold lean at e
    simp only [this] at e
    cases e
  noF b ob u e := by
    have := lean_sub b _ e
    unfold lean at e
    simp only [this] at e
    cases u with
    | tup xs => exact ⟨xs, rfl⟩
    | _ => cases e
  own b a e := by
    have q := lean_sub b _ e
    unfold lean at e
    simp only [q] at e
    split at e
    · rename_i C d fs q2
      split at e
      · rename_i z; subst z; exact ⟨C, fs, lean_ins q2⟩
      · cases e
    · cases e
  ins a C dx fs e := by
    have q := lean_sub a _ e
    exact lean_own (h a C dx fs q) q
theorem Whole.lean_of (q : Whole G) {M : Hp} (sm : Same G M) : Same G (lean M) := fun b x e => by
  have e2 := sm b x e
  cases x with
  | dT kvs => exact absurd e (q.noT b kvs)
  | frz ob u =>
    obtain ⟨xs, rfl⟩ := q.noF b ob u e
    unfold lean
    simp only [e2]
  | own a => obtain ⟨C, fs, z⟩ := q.own b a e; exact lean_own e2 (sm a _ z)
  | _ => unfold lean; simp only [e2]
end
def LeanS (sl : Sl) : Prop := ∀ M v, sl.p M v → sl.p (lean M) v
def LeanR {α : Type} (r : R α) : Prop := ∀ x, LeanS (r.at x)
def LeanG (G : Gam) : Prop := ∀ (i : Nat) (sl : Sl), G[i]? = some (some sl) → LeanS sl

def cut (L : Nat) (s : Shared) : Shared := { s with heap := { s.heap with objs := s.heap.objs.extract 0 L } }
theorem cut_size {L : Nat} {s : Shared} (h : L ≤ s.heap.objs.size) : (cut L s).heap.objs.size = L := by
  show (s.heap.objs.extract 0 L).size = L
  rw [Array.size_extract]; omega
theorem cut_get {L b : Nat} {s : Shared} (h : b < L) : (cut L s).heap.get? b = s.heap.get? b := by
  show (match (s.heap.objs.extract 0 L)[b]? with | some ⟨_, _, .freed, _⟩ => none | o => o) = (match s.heap.objs[b]? with | some ⟨_, _, .freed, _⟩ => none | o => o)
  have e : (s.heap.objs.extract 0 L)[b]? = s.heap.objs[b]? := by
    by_cases hb : b < s.heap.objs.size
    · rw [Array.getElem?_extract, if_pos (show b < min L s.heap.objs.size - 0 from by omega), Nat.zero_add]
    · rw [Array.getElem?_eq_none (show s.heap.objs.size ≤ b from by omega), Array.getElem?_eq_none (by rw [Array.size_extract]; omega)]
  rw [e]
theorem cut_lt {L b : Nat} {s : Shared} {o : Obj} (e : (cut L s).heap.get? b = some o) : b < L ∧ s.heap.get? b = some o := by
  have h := Heap.lt_size e
  have h' : b < (s.heap.objs.extract 0 L).size := h
  rw [Array.size_extract, Nat.sub_zero] at h'
  have hb : b < L := Nat.lt_of_lt_of_le h' (Nat.min_le_left _ _)
  rw [cut_get hb] at e
  exact ⟨hb, e⟩
def froz (G : Hp) (L : Nat) (O : List Addr) (s : Shared) : Hp := fun b => if (G b).isSome = true ∨ b < L ∨ b ∈ O then none else (s.heap.get? b).map fun o => .frz o (.own b)
def both (G B : Hp) : Hp := fun b => match G b with | some o => some o | none => B b
theorem both_l {G B : Hp} : Same G (both G B) := fun b x e => by unfold both; rw [e]
theorem both_r {G L O s} : Same (froz G L O s) (both G (froz G L O s)) := fun b x e => by
  have hG : G b = none := by
    unfold froz at e
    split at e
    · cases e
    · rename_i h; cases q : G b with
      | none => rfl
      | some y => exact absurd (.inl (by rw [q]; rfl)) h
  unfold both; rw [hG]; exact e
theorem froz_some {G : Hp} {L : Nat} {O : List Addr} {s : Shared} {b : Addr} {o : Obj} (hG : G b = none) (hL : L ≤ b) (hO : b ∉ O) (e : s.heap.get? b = some o) : froz G L O s b = some (.frz o (.own b)) := by
  unfold froz
  rw [if_neg (by rw [hG]; simp; exact ⟨hL, hO⟩), e]; rfl
theorem froz_of {G : Hp} {L : Nat} {O : List Addr} {s : Shared} {b : Addr} {x : HO} (e : froz G L O s b = some x) : G b = none ∧ L ≤ b ∧ b ∉ O ∧ ∃ o, s.heap.get? b = some o ∧ x = .frz o (.own b) := by
  unfold froz at e
  split at e
  · cases e
  · rename_i h
    cases q : s.heap.get? b with
    | none => rw [q] at e; cases e
    | some o =>
      rw [q] at e
      cases e
      refine ⟨?_, Nat.le_of_not_lt fun z => h (.inr (.inl z)), fun z => h (.inr (.inr z)), o, rfl, rfl⟩
      cases r : G b with
      | none => rfl
      | some y => exact absurd (.inl (by rw [r]; rfl)) h
def gx (P : Program) (w : World) (K : PySem.W.Frag) (mg : Str → Option Value) (base : Heap) (N : List Str) (qual : Str) (scope : Scope) (f : Addr) (cd : Value) (A : Around) (outer : List Env) (L : Addr) (sc : Shared) (H : Hp) : Cx where
  prog := P
  w := w
  K := K
  mg := mg
  base := base
  A := A.deeper (envOfC qual scope L f cd)
  N := N
  s_0 := sc
  H_0 := H
  env := envOfC qual scope L f cd
  outer := outer
  stack := envOfC qual scope L f cd :: outer
  ex := []
  fn := fun _ => true
  calm := true
  pn := []
  xe := fun _ _ => False
structure PlainScope (N ps : List Str) (sc : Scope) : Prop where
  g : GScope N ps sc
  flat : ∀ y ∈ sc.names, y.2 ≠ .cell
theorem cells_nil : ∀ {l : List (Str × NameKind)} {n : Nat}, (∀ y ∈ l, y.2 ≠ .cell) → cellsFrom n l [] = []
  | [], _, _ => rfl
  | (x, k) :: r, n, h => by
    have hk : (k == NameKind.cell) = false := by
      have := h (x, k) List.mem_cons_self
      cases k <;> first | rfl | exact absurd rfl this
    show (if (k == NameKind.cell) = true then _ else _) = _
    rw [hk]
    exact cells_nil fun y hy => h y (List.mem_cons_of_mem _ hy)
theorem PlainScope.nocell {N ps sc} (S : PlainScope N ps sc) {qual L f cd x} : (envOfC qual sc L f cd).cells.lookup x = none := by
  show (cellsFrom (L + 1) sc.names []).lookup x = none
  rw [cells_nil S.flat]; rfl
theorem PlainScope.kinds {N ps sc} (S : PlainScope N ps sc) {qual L f cd x} : (envOfC qual sc L f cd).kindOf x ≠ some .cell ∧ (envOfC qual sc L f cd).kindOf x ≠ some .free := by
  refine ⟨fun h => ?_, fun h => ?_⟩
  · exact absurd rfl (S.flat _ (PySem.mem_of_lookup (show sc.names.lookup x = some .cell from h)))
  · exact absurd rfl (S.g.nofree _ (PySem.mem_of_lookup (show sc.names.lookup x = some .free from h)))
end ML

namespace ML
open PySem PySem.Spec PyProof.Rows L2

def mix (s : Shared) (A B : Hp) : Hp := fun b => if (s.heap.get? b).isSome = true then A b else B b
theorem mix_old {s : Shared} {A B : Hp} {b : Addr} {o : Obj} (e : s.heap.get? b = some o) : mix s A B b = A b := by unfold mix; rw [e]; rfl
theorem mix_new {s : Shared} {A B : Hp} {b : Addr} (e : s.heap.get? b = none) : mix s A B b = B b := by unfold mix; rw [e]; rfl
theorem none_sub {A B : Hp} (h : Same A B) {b : Addr} (e : B b = none) : A b = none := by
  cases q : A b with
  | none => rfl
  | some x => rw [h b x q] at e; cases e
def LocAt (N : List Str) (scope : Scope) (σ : L2.St) (o : Obj) : Prop :=
  ∃ es ep m, o.data = .dict es ep ∧ (∀ h : Heap, ∀ a, h.get? a = some o → h.Ns a m) ∧ ∀ (i : Nat) (x : Str) (v : V), N[i]? = some x → σ[i]? = some (some v) → Vis scope x → ∃ u, RelV v u ∧ m x = some u

structure Pact (X : Cx) (N ps : List Str) (scope : Scope) (A : Around) (L : Addr) : Prop where
  sc : PlainScope N ps scope
  hd : A.handled = none
  fr : A.frames = some X.stack
  old : L ∈ X.ex ∨ X.s_0.heap.objs.size ≤ L
  bl : X.base.objs.size ≤ L
  freed : ∀ b, L < b → X.s_0.heap.get? b = none → b ∈ X.ex ∨ X.s_0.heap.objs.size ≤ b
  low : ∀ b ∈ frs X.stack, b < L
structure Sleep (X : Cx) (pins : List (Addr × Obj)) (L : Addr) (G : Hp) (oL : Obj) (ip : List (Addr × Obj)) (σc : L2.St) (Hc : Hp) (s : Shared) : Prop where
  inv : Inv X (pins ++ (L, oL) :: ip) σc Hc s
  whole : Whole G
  sub : Same G Hc
  up : ∀ p ∈ ip, L < p.1
  late : ∀ p ∈ ip, p.1 ∈ X.ex ∨ X.s_0.heap.objs.size ≤ p.1
  apart : ∀ p ∈ (L, oL) :: ip, ∀ q ∈ X.pn ++ pins, q.1 ≠ p.1
abbrev ads (L : Addr) (ip : List (Addr × Obj)) : List Addr := L :: ip.map (·.1)
abbrev wakeH (L : Addr) (G : Hp) (ip : List (Addr × Obj)) (s : Shared) : Hp := both G (froz G L (ads L ip) s)
section
variable {X : Cx} {N ps : List Str} {scope : Scope} {A : Around} {L : Addr} {pins : List (Addr × Obj)} {G : Hp} {oL : Obj} {ip : List (Addr × Obj)} {σc σ : L2.St} {Hc : Hp} {s : Shared} {qual : Str} {f : Addr} {cd : Value}
theorem Sleep.own (S : Sleep X pins L G oL ip σc Hc s) {p : Addr × Obj} (hp : p ∈ (L, oL) :: ip) : s.heap.get? p.1 = some p.2 ∧ Hc p.1 = none ∧ p.1 ≠ X.env.locals ∧ p.1 ∉ X.fs ∧ ∀ v, p.2.data ≠ .cell v :=
  S.inv.pin p (List.mem_append_right _ (List.mem_append_right _ hp))
theorem Sleep.ownA (S : Sleep X pins L G oL ip σc Hc s) {b : Addr} (hb : b ∈ ads L ip) : ∃ o, (b, o) ∈ (L, oL) :: ip := by
  rcases List.mem_cons.mp hb with e | hb
  · exact ⟨oL, by rw [e]; exact List.mem_cons_self⟩
  · obtain ⟨p, hp, e⟩ := List.mem_map.mp hb
    exact ⟨p.2, List.mem_cons_of_mem _ (by rw [← e]; exact hp)⟩
theorem Sleep.lt (S : Sleep X pins L G oL ip σc Hc s) : L < s.heap.objs.size := Heap.lt_size (S.own List.mem_cons_self).1
theorem Sleep.nfs (S : Sleep X pins L G oL ip σc Hc s) {b : Addr} (hb : b ∈ ads L ip) : b ∉ frs X.stack := fun hm => by
  obtain ⟨o, ho⟩ := S.ownA hb
  obtain ⟨_, _, h3, h4, _⟩ := S.own ho
  rcases List.mem_cons.mp (S.inv.stkSub b hm) with e | hm
  · exact h3 e
  · exact h4 hm
theorem funs_cut {X : Cx} {s : Shared} {L : Addr} {base : Heap} : ∀ {l : List Env}, (∀ b ∈ frs l, b < L) → s.heap.FunFrames base l → (cut L s).heap.FunFrames base l
  | [], _, _ => trivial
  | env :: r, hl, ⟨hk, ⟨L', o, hf, hn, ho, hd⟩, hr⟩ => by
    have hL : L' ∈ frs (env :: r) := by unfold frs; rw [List.filterMap_cons, hf]; exact List.mem_cons_self
    refine ⟨hk, ⟨L', o, hf, hn, (cut_get (hl L' hL)).trans ho, hd⟩, funs_cut (X := X) (fun b hb => hl b ?_) hr⟩
    unfold frs
    rw [List.filterMap_cons, hf]
    exact List.mem_cons_of_mem _ hb
theorem Sleep.wake (S : Sleep X pins L G oL ip σc Hc s) (Z : Pact X N ps scope A L) (loc : LocAt N scope σ oL) (len : σ.length = N.length) :
    Inv (gx X.prog X.w X.K X.mg X.base N qual scope f cd A X.stack L (cut L s) (wakeH L G ip s)) ip σ (wakeH L G ip s) s := by
  have I := S.inv
  have hL := S.lt
  have bl : ∀ b o, X.base.get? b = some o → b < L := fun b o e => Nat.lt_of_lt_of_le (Heap.lt_size e) Z.bl
  have nG : ∀ {b}, Hc b = none → G b = none := fun e => none_sub S.sub e
  have nlow : ∀ {b}, b < L → Hc b = none → wakeH L G ip s b = none := fun {b} hb e => by
    show both G _ b = none
    unfold both froz
    rw [nG e]
    simp [hb]
  have nown : ∀ {b}, b ∈ ads L ip → wakeH L G ip s b = none := fun {b} hb => by
    obtain ⟨o, ho⟩ := S.ownA hb
    show both G _ b = none
    unfold both froz
    rw [nG (S.own ho).2.1]
    simp only [hb, or_true, if_true]
  have nc : ∀ (x : Str) (c : Addr), (envOfC qual scope L f cd).cells.lookup x = some c → False := fun x c e => by rw [Z.sc.nocell] at e; cases e
  refine ⟨⟨I.ok.mod, Z.sc.g.kind, rfl, rfl, Nat.le_of_eq (cut_size (Nat.le_of_lt hL)), fun _ _ _ e _ => (nc _ _ e).elim, fun x hx => ?_, fun _ _ _ e => (nc _ _ e).elim, fun _ => Z.hd, Around.frames_deeper Z.fr, .inr ⟨rfl, rfl⟩, fun b hb => absurd (show b ∈ ([] : List Addr) from hb) (by simp),
    fun b o e => ⟨(cut_get (bl b o e)).trans (I.bs b o e).1, nlow (bl b o e) (I.bs b o e).2⟩, ?_, fun b o _ hb => absurd (show b ∈ ([] : List Addr) from hb) (by simp), fun b hb => absurd (show b ∈ ([] : List Addr) from hb) (by simp), funs_cut (X := X) Z.low I.stack, fun b hb => nlow (Z.low b hb) (I.stkFree b hb)⟩,
    rfl, I.bare, Un.kept fun b u e => (cut_lt e).2, ?_, fun _ _ e => (nc _ _ e).elim, nown List.mem_cons_self, fun _ _ e => (nc _ _ e).elim, fun p hp => ?_, fun b x e => ?_, len⟩
  · rcases hx with hx | hx
    · exact absurd hx Z.sc.kinds.1
    · exact absurd hx Z.sc.kinds.2
  · show X.base.objs.size ≤ (cut L s).heap.objs.size
    rw [cut_size (Nat.le_of_lt hL)]
    exact Z.bl
  · obtain ⟨es, ep, m, hd, hm, hv⟩ := loc
    refine ⟨m, hm _ _ (S.own List.mem_cons_self).1, fun i x v h1 h2 h3 => ?_⟩
    obtain ⟨u, r, e⟩ := hv i x v h1 h2 h3
    refine ⟨u, r, .inl ⟨?_, e⟩⟩
    rcases h3 with h3 | h3 | h3
    · exact h3
    · exact absurd h3 (Z.sc.kinds (qual := qual) (L := L) (f := f) (cd := cd)).1
    · exact absurd h3 (Z.sc.kinds (qual := qual) (L := L) (f := f) (cd := cd)).2
  · have hp' : p ∈ ip := hp
    obtain ⟨h1, h2, h3, h4, h5⟩ := S.own (List.mem_cons_of_mem _ hp')
    have ha : p.1 ∈ ads L ip := List.mem_cons_of_mem _ (List.mem_map.mpr ⟨p, hp', rfl⟩)
    exact ⟨h1, nown ha, Nat.ne_of_gt (S.up p hp'), S.nfs ha, h5⟩
  · cases q : G b with
    | some y =>
      have e' : both G (froz G L (ads L ip) s) b = some x := e
      rw [both_l b y q] at e'
      cases e'
      exact ObjOk.swap (S.whole.hok S.sub I.hok b _ q) (fun C dx fs z => both_l dx _ (S.whole.ins b C dx fs (by rw [q, z]))) (fun kvs z => S.whole.noT b kvs (by rw [q, z])) fun ob u z => S.whole.noF b ob u (by rw [q, z])
    | none =>
      have e' : both G (froz G L (ads L ip) s) b = some x := e
      unfold both at e'
      rw [q] at e'
      obtain ⟨_, _, _, o, ho, rfl⟩ := froz_of e'
      exact ⟨ho, o, ho⟩

structure Back (X : Cx) (pins : List (Addr × Obj)) (L : Addr) (G : Hp) (ip : List (Addr × Obj)) (σc : L2.St) (Hc H' : Hp) (s s1 : Shared) : Prop where
  inv : Inv X pins σc (mix s Hc H') s1
  whole : Whole (lean (mix s G H'))
  more : Same G (lean (mix s G H'))
  sub : Same (lean (mix s G H')) (mix s Hc H')
  know : ∀ b o x, s.heap.get? b = some o → H' b = some x → G b = some x ∨ froz G L (ads L ip) s b = some x
theorem Sleep.back (S : Sleep X pins L G oL ip σc Hc s) (Z : Pact X N ps scope A L) {ip' : List (Addr × Obj)} {σ' : L2.St} {H' : Hp} {s1 : Shared}
    (J : Inv (gx X.prog X.w X.K X.mg X.base N qual scope f cd A X.stack L (cut L s) (wakeH L G ip s)) ip' σ' H' s1) (sG : Same G H') (sB : Same (froz G L (ads L ip) s) H') (hO : ∀ b ∈ ads L ip, H' b = none) :
    Back X pins L G ip σc Hc H' s s1 := by
  have I := S.inv
  have nG : ∀ {b}, Hc b = none → G b = none := fun e => none_sub S.sub e
  have noA : ∀ b : Addr, b ∉ (gx X.prog X.w X.K X.mg X.base N qual scope f cd A X.stack L (cut L s) (wakeH L G ip s)).ex := fun b z => absurd (show b ∈ ([] : List Addr) from z) (by simp)
  have wlow : ∀ {b}, b < L → G b = none → wakeH L G ip s b = none := fun {b} hb e => by
    show both G _ b = none
    unfold both froz
    rw [e]; simp [hb]
  have kept : ∀ b o, s.heap.get? b = some o → G b = none → b ∉ frs X.stack → b ∉ ads L ip → s1.heap.get? b = some o ∧ (H' b = none ∨ H' b = some (.frz o (.own b))) := fun b o e n hb hx => by
    by_cases hl : b < L
    · have e0 : (cut L s).heap.get? b = some o := (cut_get hl).trans e
      exact ⟨J.base.keep b o e0 (wlow hl n) hb (noA b), .inl (J.base.free b o e0 (wlow hl n) (noA b))⟩
    · have q := sB b _ (froz_some n (Nat.le_of_not_lt hl) hx e)
      exact ⟨(J.hok b _ q).1, .inr q⟩
  have frame : ∀ b o, s.heap.get? b = some o → b ∈ frs X.stack → (∃ sl, s1.heap.get? b = some { o with slots := sl }) ∧ H' b = none := fun b o e hb => by
    have hl := Z.low b hb
    have n := nG (I.stkFree b hb)
    have e0 : (cut L s).heap.get? b = some o := (cut_get hl).trans e
    exact ⟨J.base.slot b o e0 (wlow hl n) hb (noA b), J.base.free b o e0 (wlow hl n) (noA b)⟩
  have known : ∀ b o x, s.heap.get? b = some o → H' b = some x → (∀ ob u, x ≠ .frz ob u) → G b = some x := fun b o x e q nf => by
    cases r : G b with
    | some z => rw [sG b z r] at q; exact q
    | none =>
      by_cases h1 : b ∈ ads L ip
      · rw [hO b h1] at q; cases q
      · by_cases h2 : b ∈ frs X.stack
        · rw [(frame b o e h2).2] at q; cases q
        · rcases (kept b o e r h2 h1).2 with z | z
          · rw [z] at q; cases q
          · rw [z] at q; cases q; exact absurd rfl (nf _ _)
  have hcIn : ∀ b x, Hc b = some x → mix s Hc H' b = some x := fun b x e => by
    obtain ⟨ob, eo⟩ := HOk.there I.hok e
    rw [mix_old eo]; exact e
  have ownNo : ∀ b ∈ ads L ip, Hc b = none := fun b hb => let ⟨o, ho⟩ := S.ownA hb; (S.own ho).2.1
  have hok : HOk X.prog X.w (mix s Hc H') s1.heap := fun b x e => by
    cases eo : s.heap.get? b with
    | some o =>
      rw [mix_old eo] at e
      cases r : G b with
      | some z =>
        have ez := S.sub b z r
        rw [e] at ez
        cases ez
        exact ObjOk.swap (J.hok b x (sG b x r)) (fun C dx fs q => hcIn dx _ (S.sub dx _ (S.whole.ins b C dx fs (by rw [r, q])))) (fun kvs q => S.whole.noT b kvs (by rw [r, q])) fun ob u q => S.whole.noF b ob u (by rw [r, q])
      | none =>
        refine ObjOk.stay (I.hok b x e) (fun c u hc ec => ?_) (fun c q => hcIn c _ q) fun c xs q => hcIn c _ q
        rcases hc with rfl | hc
        · refine (kept c u ec r (fun hm => ?_) fun hm => ?_).1
          · rw [I.stkFree c hm] at e; cases e
          · rw [ownNo c hm] at e; cases e
        · refine (kept c u ec ?_ (fun hm => ?_) fun hm => ?_).1
          · cases rc : G c with
            | none => rfl
            | some z =>
              have ez := S.sub c z rc
              rw [hc] at ez
              cases ez
              obtain ⟨C, fs, ew⟩ := S.whole.own c b rc
              rw [r] at ew; cases ew
          · rw [I.stkFree c hm] at hc; cases hc
          · rw [ownNo c hm] at hc; cases hc
    | none =>
      rw [mix_new eo] at e
      refine ObjOk.stay (J.hok b x e) (fun c u hc ec => ec) (fun c q => ?_) fun c xs q => ?_
      · cases ec : s.heap.get? c with
        | none => rw [mix_new ec]; exact q
        | some oc =>
          have z := known c oc _ ec q fun _ _ z => by cases z
          obtain ⟨C, fs, ew⟩ := S.whole.own c b z
          obtain ⟨ob, eb⟩ := HOk.there (S.whole.hok S.sub I.hok) ew
          rw [eo] at eb; cases eb
      · cases ec : s.heap.get? c with
        | none => rw [mix_new ec]; exact q
        | some oc => exact hcIn c _ (S.sub c _ (known c oc _ ec q fun _ _ z => by cases z))
  have I0 : Inv X pins σc Hc s := I.pins_of fun p hp => I.pin p (List.mem_append_right _ (List.mem_append_left _ hp))
  have sGm : Same G (mix s G H') := fun b x e => by
    obtain ⟨ob, eo⟩ := HOk.there (S.whole.hok S.sub I.hok) e
    rw [mix_old eo]; exact e
  refine ⟨I0.call' (ch := ads L ip) (J.os) ⟨fun b o e n hb hx => (kept b o e (nG n) hb hx).1, fun b o e n hb hx => (frame b o e hb).1, fun b o e n hx => (mix_old e).trans n, fun b o e hx => ?_, fun b xs e => hcIn b _ e, fun b o u e => hcIn b _ e, fun b pt e => ⟨#[], by rw [hcIn b _ e]; simp⟩⟩ hok J.bare fun b hb => ?_,
    lean_whole fun a C dx fs e => ?_, S.whole.lean_of sGm, fun b x e => ?_, fun b o x e q => ?_⟩
  · cases r : G b with
    | some z => exact HOk.there J.hok (sG b z r)
    | none =>
      by_cases h2 : b ∈ frs X.stack
      · obtain ⟨sl, q⟩ := (frame b o e h2).1
        exact ⟨_, q⟩
      · exact ⟨o, (kept b o e r h2 hx).1⟩
  · obtain ⟨o, ho⟩ := S.ownA hb
    obtain ⟨h1, h2, h3, h4, h5⟩ := S.own ho
    refine ⟨?_, h3, fun x c e z => ?_, fun p hp => S.apart _ ho p hp⟩
    · rcases List.mem_cons.mp hb with e | hb
      · rw [e]; exact Z.old
      · obtain ⟨p, hp, e⟩ := List.mem_map.mp hb
        rw [← e]; exact S.late p hp
    · obtain ⟨v, oc, hoc, hd⟩ := I.cell x c e
      rw [z, h1] at hoc
      cases hoc
      exact h5 v hd
  · cases ea : s.heap.get? a with
    | some oa =>
      rw [mix_old ea] at e
      exact sGm dx _ (S.whole.ins a C dx fs e)
    | none =>
      rw [mix_new ea] at e
      obtain ⟨q, _⟩ := J.hok a _ e
      cases ed : s.heap.get? dx with
      | none => rw [mix_new ed]; exact q
      | some od => rw [mix_old ed]; exact known dx od _ ed q fun _ _ z => by cases z
  · have e2 := lean_sub b x e
    cases eb : s.heap.get? b with
    | none => rw [mix_new eb] at e2 ⊢; exact e2
    | some ob => rw [mix_old eb] at e2 ⊢; exact S.sub b x e2
  · cases r : G b with
    | some z => rw [sG b z r] at q; exact .inl q
    | none =>
      by_cases h1 : b ∈ ads L ip
      · rw [hO b h1] at q; cases q
      · by_cases h2 : b ∈ frs X.stack
        · rw [(frame b o e h2).2] at q; cases q
        · rcases (kept b o e r h2 h1).2 with z | z
          · rw [z] at q; cases q
          · rw [z] at q; cases q
            by_cases hl : b < L
            · have e0 : (cut L s).heap.get? b = some o := (cut_get hl).trans e
              rw [J.base.free b o e0 (wlow hl r) (noA b)] at z; cases z
            · exact .inr (froz_some r (Nat.le_of_not_lt hl) h1 e)
end
end ML

namespace ML
open PySem PySem.Spec PyProof.Rows L2 GenW

structure Grown (G Hc G' Hc' : Hp) : Prop where
  more : Same G G'
  ex : ∃ p : Addr → Bool, (∀ b, Hc b ≠ none → p b = true) ∧ (∀ b, p b = true → Hc' b = Hc b) ∧ (∀ b x, p b = false → G' b = some x → Hc' b = some x) ∧ ∀ b x, p b = true → G' b = some x → G b = some x
theorem Back.grown {X : Cx} {pins : List (Addr × Obj)} {L : Addr} {G : Hp} {ip : List (Addr × Obj)} {σc : L2.St} {Hc H' : Hp} {s s1 : Shared} (B : Back X pins L G ip σc Hc H' s s1) (hc : HOk X.prog X.w Hc s.heap) : Grown G Hc (lean (mix s G H')) (mix s Hc H') where
  more := B.more
  ex := ⟨fun b => (s.heap.get? b).isSome, fun b h => by
      cases q : Hc b with
      | none => exact absurd q h
      | some x => obtain ⟨o, e⟩ := HOk.there hc q; show (s.heap.get? b).isSome = true; rw [e]; rfl,
    fun b h => by unfold mix; rw [if_pos h], fun b x h e => B.sub b x e, fun b x h e => by
      have := lean_sub b x e
      unfold mix at this
      rwa [if_pos h] at this⟩

structure GK {α : Type} where
  X : Cx
  pins : List (Addr × Obj)
  L : Addr
  N : List Str
  ps : List Str
  scope : Scope
  qual : Str
  f : Addr
  cd : Value
  A : Around
  ys : List α
  r : R α
  Wt : Nat → Hp → L2.St → Hp → Prop
section
variable {α : Type} (g : GK (α := α))
abbrev GK.M : Model := model g.X.prog g.X.w
abbrev GK.env : Env := envOfC g.qual g.scope g.L g.f g.cd
abbrev GK.cx (sc : Shared) (H : Hp) : Cx := gx g.X.prog g.X.w g.X.K g.X.mg g.X.base g.N g.qual g.scope g.f g.cd g.A g.X.stack g.L sc H
def GK.Y : Protocol := fun m s₀ v s kap => ∃ k G oL ip σc Hc y vv G' oL' ip' Hc', m + k = g.ys.length ∧ Sleep g.X g.pins g.L G oL ip σc Hc s₀ ∧ g.Wt k G σc Hc ∧ g.ys[k]? = some y ∧ RelV vv v ∧ g.r.p y G' vv ∧
  Sleep g.X g.pins g.L G' oL' ip' σc Hc' s ∧ Grown G Hc G' Hc' ∧ ∀ s' σ' H', Sleep g.X g.pins g.L G' oL' ip' σ' H' s' → g.Wt (k + 1) G' σ' H' → kap (.send .none) s'
def GK.F : Nat → Shared → Shared → Prop := fun n s₀ s => ∃ G oL ip σc Hc G' Hc', Sleep g.X g.pins g.L G oL ip σc Hc s₀ ∧ g.Wt g.ys.length G σc Hc ∧ Inv g.X g.pins σc Hc' s ∧ Grown G Hc G' Hc'
def GK.R : GenEnd := fun n s₀ r s₁ => ((r = .ok (.ret .none) ∨ r = .ok .next) ∧ g.F n s₀ s₁) ∨ ∃ e, r = .error e ∧ False
structure Going (ex : List Addr) (k : Nat) (Gm : Gam) (T : Tms) (cs : Cells) (ip : List (Addr × Obj)) (s₀ s : Shared) (G : Hp) (oL : Obj) (ip0 : List (Addr × Obj)) (σc : L2.St) (Hc : Hp) (σ : L2.St) (H : Hp) : Prop where
  S : Sleep g.X g.pins g.L G oL ip0 σc Hc s₀
  wt : g.Wt k G σc Hc
  J : Inv (g.cx (cut g.L s₀) (wakeH g.L G ip0 s₀)) ip σ H s
  st : Sta ⟨G, froz G g.L (ads g.L ip0) s₀⟩ Gm T cs σ H
  sub : ∀ p ∈ ip0, p.1 ∈ ip.map (·.1) ∨ p.1 ∈ ex
  ex : ∀ b ∈ ex, H b = none
  up : ∀ p ∈ ip, g.L < p.1
def Gg (ex : List Addr) (k : Nat) (Gm : Gam) (T : Tms) (cs : Cells) (ip : List (Addr × Obj)) (c : Code) (t : Sem PySem.Fin) (fs : List PySem.Frame) : Prop :=
  ∀ n s₀ s G oL ip0 σc Hc σ H, n + k = g.ys.length + 1 → Going g ex k Gm T cs ip s₀ s G oL ip0 σc Hc σ H → Seg g.M g.A g.R g.Y n s₀ c t fs s
structure GC' (c : Code) (fs : List PySem.Frame) (gd : Bool → Bool) : Prop where
  over : g.A.over c fs = g.A.deeper g.env
  split : splitAtGen fs = none
  guard : fs.any Frame.guarded = false
  gd : gd false = false
end
section
variable {α : Type} {g : GK (α := α)} {k : Nat} {Gm Gm' : Gam} {T : Tms} {cs cs' : Cells} {ip : List (Addr × Obj)} {ex : List Addr} {c : Code} {fs : List PySem.Frame} {K : Flow → Sem PySem.Fin} {J : Value → Sem PySem.Fin} {gd : Bool → Bool} {lv : List Value → List Value} {st : Stmt} {rest body orelse : List Stmt} {pos : Pos}
theorem Going.back {s₀ s : Shared} {G : Hp} {oL : Obj} {ip0 : List (Addr × Obj)} {σc σ : L2.St} {Hc H : Hp} (h : Going g ex k Gm T cs ip s₀ s G oL ip0 σc Hc σ H) (Z : Pact g.X g.N g.ps g.scope g.A g.L) : Back g.X g.pins g.L G ip0 σc Hc H s₀ s := by
  obtain ⟨F, c, _, _⟩ := h.st
  refine h.S.back Z h.J (c.f0.trans c.fh) c.bh fun b hb => ?_
  rcases List.mem_cons.mp hb with e | hb
  · rw [e]; exact h.J.free
  · obtain ⟨p, hp, e⟩ := List.mem_map.mp hb
    rcases h.sub p hp with z | z
    · obtain ⟨q, hq, eq⟩ := List.mem_map.mp z
      rw [← e, ← eq]
      exact (h.J.pin q (List.mem_append_right _ hq)).2.1
    · rw [← e]; exact h.ex _ z
theorem gg_nil (h : Gg g ex k Gm T cs ip c (K .next) fs) : Gg g ex k Gm T cs ip c ((execs [] g.env).wrap K J gd lv) fs := fun n s₀ s G oL ip0 σc Hc σ H hn hg =>
  seg_execs_nil (h n s₀ s G oL ip0 σc Hc σ H hn hg)
theorem gg_cons (h : Gg g ex k Gm T cs ip c ((exec st g.env).wrap (fun f => match f with | .next => (execs rest g.env).wrap K J gd lv | f => K f) J gd lv) fs) : Gg g ex k Gm T cs ip c ((execs (st :: rest) g.env).wrap K J gd lv) fs := fun n s₀ s G oL ip0 σc Hc σ H hn hg =>
  seg_execs_cons (h n s₀ s G oL ip0 σc Hc σ H hn hg)
theorem gg_weak {t : Sem PySem.Fin} (w : Wkn Gm Gm') (h : Gg g ex k Gm' T cs ip c t fs) : Gg g ex k Gm T cs ip c t fs := fun n s₀ s G oL ip0 σc Hc σ H hn hg =>
  h n s₀ s G oL ip0 σc Hc σ H hn ⟨hg.S, hg.wt, hg.J, let ⟨F, a, b, c⟩ := hg.st; ⟨F, a, b.weak w, c⟩, hg.sub, hg.ex, hg.up⟩
theorem gg_plain {t : TS} (hc : GC' g c fs gd) (hP : ∀ sc H, sc.heap.objs.size = g.L → PS (g.cx sc H) st t)
    (hN : ∀ W, NxT (t ⟨fun σ H => Sta W Gm' T cs' σ H, fun _ _ => False, fun _ _ => False, fun _ _ => False⟩) W Gm T cs)
    (hk : Gg g [] k Gm' T cs' ip c (K .next) fs) : Gg g [] k Gm T cs ip c ((exec st g.env).wrap K J gd lv) fs := fun n s₀ s G oL ip0 σc Hc σ H hn hg => by
  refine seg_wrap ?_
  rw [hc.over]
  refine wpAny_mono ((hP _ _ (cut_size (Nat.le_of_lt hg.S.lt))).run ip s σ H _ hg.J (hN _ σ H hg.st)) (fun f s' q => ?_) fun e s' q => q.elim
  cases f with
  | next =>
    obtain ⟨σ', H', J', st'⟩ := q
    exact hk n s₀ s' G oL ip0 σc Hc σ' H' hn ⟨hg.S, hg.wt, J', st', hg.sub, fun b hb => by simp at hb, hg.up⟩
  | brk => obtain ⟨_, _, _, q⟩ := q; exact q.elim
  | cont => obtain ⟨_, _, _, q⟩ := q; exact q.elim
  | ret u => obtain ⟨_, _, _, _, _, q⟩ := q; exact q.elim
theorem gg_if {test : Expr} {tc : TT} {b0 : Bool} (hc : GC' g c fs gd) (hP : ∀ sc H, sc.heap.objs.size = g.L → PT (g.cx sc H) test tc)
    (hT : ∀ W, Et tc W Gm T cs fun b cs1 => b = b0 ∧ cs1 = cs') (h1 : b0 = true → Gg g [] k Gm T cs' ip c ((execs body g.env).wrap K J gd lv) fs) (h2 : b0 = false → Gg g [] k Gm T cs' ip c ((execs orelse g.env).wrap K J gd lv) fs) :
    Gg g [] k Gm T cs ip c ((exec (.If test body orelse pos) g.env).wrap K J gd lv) fs := fun n s₀ s G oL ip0 σc Hc σ H hn hg => by
  rw [arm_exec_If]
  refine seg_at ?_
  show Seg _ _ _ _ n s₀ c ((isTrue test g.env (eval test g.env) >>= fun b => if b = true then execs body g.env else execs orelse g.env).wrap K J gd lv) fs s
  refine seg_bind_wrap ?_
  rw [hc.over]
  refine wpAny_mono ((hP _ _ (cut_size (Nat.le_of_lt hg.S.lt))).run ip s σ H _ hg.J (hT _ σ H hg.st (fun b H1 => b = b0 ∧ Sta ⟨G, froz G g.L (ads g.L ip0) s₀⟩ Gm T cs' σ H1) fun b cs1 ⟨e1, e2⟩ H1 st1 => by subst e2; exact ⟨e1, st1⟩)) (fun b s' q => ?_) fun e s' q => q.elim
  obtain ⟨H1, J1, e1, st1⟩ := q
  subst e1
  have hg' : Going g [] k Gm T cs' ip s₀ s' G oL ip0 σc Hc σ H1 := ⟨hg.S, hg.wt, J1, st1, hg.sub, fun b hb => by simp at hb, hg.up⟩
  cases b with
  | true => rw [if_pos rfl]; exact h1 rfl n s₀ s' G oL ip0 σc Hc σ H1 hn hg'
  | false => rw [if_neg Bool.false_ne_true]; exact h2 rfl n s₀ s' G oL ip0 σc Hc σ H1 hn hg'
theorem loc_of {X : Cx} {pins : List (Addr × Obj)} {σ : L2.St} {H : Hp} {s : Shared} (J : Inv X pins σ H s) (hk : ∀ x, X.env.kindOf x ≠ some .cell ∧ X.env.kindOf x ≠ some .free) : ∃ o, s.heap.get? X.env.locals = some o ∧ LocAt X.N X.env.scope σ o := by
  obtain ⟨m, ⟨o, es, ep, ho, hd, hs, hf⟩, hl⟩ := J.loc
  refine ⟨o, ho, es, ep, m, hd, fun h a e => ⟨o, es, ep, e, hd, hs, hf⟩, fun i x v h1 h2 h3 => ?_⟩
  obtain ⟨u, r, l⟩ := hl i x v h1 h2 h3
  rcases l with ⟨_, e⟩ | ⟨z | z, _⟩
  · exact ⟨u, r, e⟩
  · exact absurd z (hk x).1
  · exact absurd z (hk x).2
theorem gg_yield {e : Expr} {yp : Pos} {te : TE} {y : α} (Z : Pact g.X g.N g.ps g.scope g.A g.L) (hc : GC' g c fs gd) (hP : ∀ sc H, sc.heap.objs.size = g.L → PE (g.cx sc H) e te)
    (hV : ∀ W, Ev te W Gm [] [] fun sl cs1 => sl = g.r.at y ∧ cs1 = []) (hy : g.ys[k]? = some y) (lr : LeanR g.r) (lg : LeanG Gm) (hk : Gg g [] (k + 1) Gm [] [] ip c (K .next) fs) :
    Gg g [] k Gm [] [] ip c ((exec (.Expr (.Yield (some e) yp) pos) g.env).wrap K J gd lv) fs := fun n s₀ s G oL ip0 σc Hc σ H hn hg => by
  have hkl : k < g.ys.length := (List.getElem?_eq_some_iff.mp hy).1
  obtain ⟨n, rfl⟩ : ∃ m, n = m + 1 := ⟨n - 1, by omega⟩
  refine seg_Expr_Yield hc.split hc.gd hc.guard ?_ Z.sc.g.co (by show (g.scope.kind == .module && _) = false; rw [Z.sc.g.kind]; rfl)
  rw [hc.over]
  refine wpAny_mono ((hP _ _ (cut_size (Nat.le_of_lt hg.S.lt))).run ip s σ H (fun v H1 => Sta ⟨G, froz G g.L (ads g.L ip0) s₀⟩ Gm [(v, g.r.at y)] [] σ H1) hg.J (hV _ σ H hg.st _ fun sl cs1 ⟨e1, e2⟩ v H1 st1 => by subst e1 e2; exact st1)) (fun u s' q => ?_) fun e s' q => q.elim
  obtain ⟨vv, H1, J1, rv, st1⟩ := q
  intro kap hkap
  have hg1 : Going g [] k Gm [(vv, g.r.at y)] [] ip s₀ s' G oL ip0 σc Hc σ H1 := ⟨hg.S, hg.wt, J1, st1, hg.sub, fun b hb => by simp at hb, hg.up⟩
  have B := hg1.back Z
  have S := hg.S
  obtain ⟨F, cr, sl, tm⟩ := st1
  have FM : Same F (mix s₀ G H1) := fun b x eb => by
    have e1 := cr.fh b x eb
    cases eo : s₀.heap.get? b with
    | none => rw [mix_new eo]; exact e1
    | some o =>
      rw [mix_old eo]
      rcases B.know b o x eo e1 with z | z
      · exact z
      · have := cr.bf b x z
        rw [eb] at this; cases this
  obtain ⟨oL', hoL, loc⟩ := loc_of J1 fun x => Z.sc.kinds
  have young : ∀ p ∈ ip, (s₀.heap.get? p.1 = none) ∨ p.1 ∈ ads g.L ip0 := fun p hp => by
    cases eo : s₀.heap.get? p.1 with
    | none => exact .inl rfl
    | some o =>
      right
      have hN := (J1.pin p (List.mem_append_right _ hp)).2.1
      cases r : G p.1 with
      | some z => rw [(cr.f0.trans cr.fh) p.1 z r] at hN; cases hN
      | none =>
        by_cases hin : p.1 ∈ ads g.L ip0
        · exact hin
        · rw [cr.bh p.1 _ (froz_some r (Nat.le_of_lt (hg.up p hp)) hin eo)] at hN; cases hN
  have S' : Sleep g.X g.pins g.L (lean (mix s₀ G H1)) oL' ip σc (mix s₀ Hc H1) s' := by
    refine ⟨B.inv.pins_of fun p hp => ?_, B.whole, B.sub, hg.up, fun p hp => ?_, fun p hp q hq => ?_⟩
    · rcases List.mem_append.mp hp with hp | hp
      · exact B.inv.pin p (List.mem_append_right _ hp)
      · have old : ∀ {b : Addr} {o : Obj}, (∀ v, o.data ≠ .cell v) → s'.heap.get? b = some o → b ∈ ads g.L ip0 → s'.heap.get? b = some o ∧ mix s₀ Hc H1 b = none ∧ b ≠ g.X.env.locals ∧ b ∉ g.X.fs ∧ ∀ v, o.data ≠ .cell v := fun {b o} hd eo hb => by
          obtain ⟨ob, hob⟩ := S.ownA hb
          obtain ⟨h1, h2, h3, h4, _⟩ := S.own hob
          exact ⟨eo, (mix_old h1).trans h2, h3, h4, hd⟩
        rcases List.mem_cons.mp hp with e | hp
        · subst e
          obtain ⟨es, ep, m, hd, _⟩ := loc
          exact old (fun v z => by rw [hd] at z; cases z) hoL List.mem_cons_self
        · obtain ⟨h1, h2, _, _, h5⟩ := J1.pin p (List.mem_append_right _ hp)
          rcases young p hp with z | z
          · refine ⟨h1, (mix_new z).trans h2, fun e => ?_, fun e => ?_, h5⟩
            · obtain ⟨m, ⟨o, _, _, ho, _⟩, _⟩ := S.inv.loc
              rw [← e, z] at ho; cases ho
            · obtain ⟨_, o, ho, _⟩ := S.inv.funs.mem e
              rw [z] at ho; cases ho
          · exact old h5 h1 z
    · rcases young p hp with z | z
      · cases e0 : g.X.s_0.heap.get? p.1 with
        | none => exact Z.freed p.1 (hg.up p hp) e0
        | some o =>
          by_cases hex : p.1 ∈ g.X.ex
          · exact .inl hex
          · obtain ⟨o', e1⟩ := S.inv.base.there p.1 o e0 hex
            rw [z] at e1; cases e1
      · rcases List.mem_cons.mp z with e | z
        · exact absurd e (Nat.ne_of_gt (hg.up p hp))
        · obtain ⟨q, hq, e⟩ := List.mem_map.mp z
          rw [← e]; exact S.late q hq
    · have oldA : p.1 ∈ ads g.L ip0 → q.1 ≠ p.1 := fun hb => by
        obtain ⟨ob, hob⟩ := S.ownA hb
        exact S.apart _ hob q hq
      rcases List.mem_cons.mp hp with e | hp
      · subst e; exact oldA List.mem_cons_self
      · rcases young p hp with z | z
        · intro e
          have := (S.inv.pin q (by rcases List.mem_append.mp hq with y | y; exact List.mem_append_left _ y; exact List.mem_append_right _ (List.mem_append_left _ y))).1
          rw [e, z] at this; cases this
        · exact oldA z
  refine ⟨k, G, oL, ip0, σc, Hc, y, vv, lean (mix s₀ G H1), oL', ip, mix s₀ Hc H1, by omega, S, hg.wt, hy, rv, lr y _ _ ((g.r.at y).mono FM (tm.head)), S', B.grown S.inv.hok, fun s'' σ'' H'' S'' W'' => hkap .none s'' ?_⟩
  refine hk n s'' s'' _ oL' ip σ'' H'' σ _ (by omega) ⟨S'', W'', S''.wake Z loc J1.len, ?_, fun p hp => .inl (List.mem_map.mpr ⟨p, hp, rfl⟩), fun b hb => by simp at hb, hg.up⟩
  refine ⟨lean (mix s₀ G H1), ⟨Same.refl _, both_l, both_r, fun b x e => (froz_of e).1, by simp, fun x hx => by simp at hx⟩, ?_, Temps.nil⟩
  refine ⟨sl.1, fun i s hi => ?_⟩
  obtain ⟨v, h1, h2⟩ := sl.2 i s hi
  exact ⟨v, h1, lg i s hi _ _ (s.mono FM h2)⟩
theorem gg_end (Z : Pact g.X g.N g.ps g.scope g.A g.L) (hk : k = g.ys.length) : Gg g ex k Gm T cs ip c (.pure (.done (.ret .none))) [] := fun n s₀ s G oL ip0 σc Hc σ H hn hg =>
  seg_end (.ok (.ret .none)) (.inl ⟨.inl rfl, G, oL, ip0, σc, Hc, _, _, hg.S, hk ▸ hg.wt, (hg.back Z).inv, (hg.back Z).grown hg.S.inv.hok⟩)
end
end ML

namespace ML
open PySem PySem.Spec PyProof.Rows L2 GenW
section
variable {α : Type} {g : GK (α := α)} {k : Nat} {Gm Gm' : Gam} {T : Tms} {cs cs' : Cells} {ip : List (Addr × Obj)} {ex : List Addr} {c : Code} {fs : List PySem.Frame} {K : Flow → Sem PySem.Fin} {J : Value → Sem PySem.Fin} {gd : Bool → Bool} {lv : List Value → List Value} {st : Stmt} {rest body orelse : List Stmt} {pos : Pos}
theorem gc_in {c' : Code} {kk : Result → Sem PySem.Fin} {l kp : List Value} {p : Pos} (hc : GC' g c fs gd) (hw : c'.weight = 0) (hu : c'.cUnits = 0) : GC' g c' (.ret kk none (gd false) l c p kp :: fs) id where
  over := (over_loop hw hu).trans hc.over
  split := by
    show (splitAtGen fs).map _ = none
    rw [hc.split]; rfl
  guard := by
    show (gd false || fs.any Frame.guarded) = false
    rw [hc.gd, hc.guard]; rfl
  gd := rfl
theorem gg_range {tg iter : Expr} {ta : TA} {i : Nat} {NN : Int} {kk : Nat → Nat} {GL : Gam} (Z : Pact g.X g.N g.ps g.scope g.A g.L) (hc : GC' g c fs gd)
    (hi : ∀ sc H, sc.heap.objs.size = g.L → PI (g.cx sc H) tg iter (iRng1 ta)) (hg : ∀ sc H, sc.heap.objs.size = g.L → PG (g.cx sc H) tg (gName i))
    (hn : ∀ W, EvA ta W Gm [] [] fun sls cs1 => sls = [rInt.at NN] ∧ cs1 = []) (hs : small62 NN) (h0 : kk 0 = k) (hw : Wkn Gm GL)
    (hb : ∀ (j : Nat) (ipb : List (Addr × Obj)) (c' : Code) (fs' : List PySem.Frame) (K' : Flow → Sem PySem.Fin) (J' : Value → Sem PySem.Fin), j < NN.toNat → GC' g c' fs' id →
      Gg g [] (kk (j + 1)) GL [] [] ipb c' (K' .next) fs' → Gg g [] (kk j) (GL.set i (some (rInt.at (j : Int)))) [] [] ipb c' ((execs body g.env).wrap K' J' id id) fs')
    (after : ∀ ex, Gg g ex (kk NN.toNat) GL [] [] ip c (K .next) fs) (hfs : ∀ x, foldedSetIterable iter g.env x = pure x := by intro _; rfl) :
    Gg g [] k Gm [] [] ip c ((exec (.For tg iter body [] pos) g.env).wrap K J gd lv) fs := fun n s₀ s G oL ip0 σc Hc σ H hnk hg0 => by
  subst h0
  rw [arm_exec_For]
  refine seg_at ?_
  show Seg _ _ _ _ n s₀ c ((eval iter g.env >>= fun v => foldedSetIterable iter g.env v >>= fun x => standAt iter.pos >>= fun _ => holding [x] (pyIter x) >>= fun it => runOwn (.forLoop tg it body [] g.env) g.env).wrap K J gd lv) fs s
  refine seg_bind_wrap ?_
  rw [hc.over]
  refine wpAny_mono ((hi _ _ (cut_size (Nat.le_of_lt hg0.S.lt))).run ip s σ H (fun J1 H1 => J1 = Itr 0 NN.toNat ∧ Sta ⟨G, froz G g.L (ads g.L ip0) s₀⟩ Gm [] [] σ H1) hg0.J ?_) (fun v s1 h1 => ?_) fun e s' q => q.elim
  · refine hn _ σ H hg0.st _ fun sls cs1 ⟨e1, e2⟩ vs H1 ⟨F, c1, sg, t1, ar⟩ => ?_
    subst e1 e2
    exact ⟨NN, args1i ar, hs.1, hs.2, rfl, F, c1, sg, t1⟩
  rw [hfs]
  show Seg _ _ _ _ n s₀ c ((standAt iter.pos >>= fun _ => holding [v] (pyIter v) >>= fun it => runOwn (.forLoop tg it body [] g.env) g.env).wrap K J gd lv) fs s1
  refine seg_at ?_
  show Seg _ _ _ _ n s₀ c ((holding [v] (pyIter v) >>= fun it => runOwn (.forLoop tg it body [] g.env) g.env).wrap K J gd lv) fs s1
  refine seg_bind_wrap (wpAny_holding ?_)
  rw [hc.over]
  refine wpAny_mono h1 (fun itv s2 h2 => ?_) fun e s' q => q.elim
  obtain ⟨it, fp, tn, J1, H2, rfl, I2, Tn, st2, f2, rfl, st20⟩ := h2
  refine seg_call fun p => ?_
  have stat : ∀ b ∈ fp, b ≠ g.L ∧ b ∉ frs g.X.stack ∧ g.L < b ∧ ∀ q ∈ ip, q.1 ≠ b := fun b hb => by
    obtain ⟨_, h2, h3, h4, _, h6⟩ := f2 b hb
    have h4' : g.L ≤ b := by
      rcases h4 with z | z
      · exact absurd (show b ∈ ([] : List Addr) from z) (by simp)
      · have z' : (cut g.L s₀).heap.objs.size ≤ b := z
        rwa [cut_size (Nat.le_of_lt hg0.S.lt)] at z'
    exact ⟨h2, h3, Nat.lt_of_le_of_ne h4' (Ne.symm h2), fun q hq => h6 q hq⟩
  have okf : ∀ {sc : Shared} {H0 H' : Hp} {b : Addr}, sc.heap.objs.size = g.L → b ∈ fp → H' b = none → FpOk (g.cx sc H0) ip H' b := fun {sc H0 H' b} hsz hb hn => by
    obtain ⟨h1, h2, h3, h4⟩ := stat b hb
    refine ⟨hn, h1, h2, .inr ?_, fun x c e => ?_, fun q hq => h4 q hq⟩
    · show sc.heap.objs.size ≤ b
      rw [hsz]; exact Nat.le_of_lt h3
    · have e' : (envOfC g.qual g.scope g.L g.f g.cd).cells.lookup x = some c := e
      rw [Z.sc.nocell] at e'; cases e'
  have gl := fun (kr : Result → Sem PySem.Fin) => gc_in (kk := kr) (c' := .forLoop tg (.ref it) body [] g.env) (l := lv []) (kp := []) (p := p) hc rfl rfl
  have loop : ∀ (m j n : Nat) (s₀ s : Shared) (G : Hp) (oL : Obj) (ip0 : List (Addr × Obj)) (σc : L2.St) (Hc : Hp) (σ : L2.St) (H : Hp), j + m = NN.toNat → n + kk j = g.ys.length + 1 → Going g fp (kk j) GL [] [] ip s₀ s G oL ip0 σc Hc σ H → tn j s.heap →
      Seg g.M g.A g.R g.Y n s₀ (.forLoop tg (.ref it) body [] g.env) (g.M.den (.forLoop tg (.ref it) body [] g.env))
        (.ret (fun r => ((match r with | .ok f => (.pure f : Sem Flow) | .error e => .raise e).onRaise (cameBack g.env)).wrap K J gd lv) none (gd false) (lv []) c p [] :: fs) s := by
    intro m
    induction m with
    | zero =>
      intro j n s₀ s G oL ip0 σc Hc σ H hj hnk hg1 ht
      have hsz := cut_size (Nat.le_of_lt hg1.S.lt)
      show Seg _ _ _ _ _ _ _ ((forTurn tg (.ref it) body [] g.env).onRaise (fun x => do noteFrame x g.env; theTreesLotGoes x)) _ s
      rw [Sem.onRaise_eq_wrap]
      unfold forTurn
      refine seg_bind_wrap (wpAny_standAt ?_)
      refine seg_bind_wrap (wpAny_onRaise ?_)
      rw [(gl _).over]
      refine wpAny_mono (Tn.done (g.cx (cut g.L s₀) (wakeH g.L G ip0 s₀)) rfl rfl rfl rfl j ip s σ H (fun _ _ => False) hg1.J (fun b hb => okf hsz hb (hg1.ex b hb)) ht (by show NN.toNat ≤ j; omega)) (fun r s3 ⟨er, I3⟩ => ?_) fun e s' q => q.elim
      subst er
      refine seg_again rfl ?_
      show Seg _ _ _ _ _ _ _ (leafOf (.ok .next)) _ s3
      refine seg_leaf (.ok .next) ?_
      have ej : j = NN.toNat := by omega
      subst ej
      exact after fp n s₀ s3 G oL ip0 σc Hc σ H hnk ⟨hg1.S, hg1.wt, I3, hg1.st, hg1.sub, hg1.ex, hg1.up⟩
    | succ m ih =>
      intro j n s₀ s G oL ip0 σc Hc σ H hj hnk hg1 ht
      have hsz := cut_size (Nat.le_of_lt hg1.S.lt)
      show Seg _ _ _ _ _ _ _ ((forTurn tg (.ref it) body [] g.env).onRaise (fun x => do noteFrame x g.env; theTreesLotGoes x)) _ s
      rw [Sem.onRaise_eq_wrap]
      unfold forTurn
      refine seg_bind_wrap (wpAny_standAt ?_)
      refine seg_bind_wrap (wpAny_onRaise ?_)
      rw [(gl _).over]
      refine wpAny_mono (Tn.item (g.cx (cut g.L s₀) (wakeH g.L G ip0 s₀)) rfl rfl rfl rfl j ip s σ H (fun _ _ => False) hg1.J (fun b hb => okf hsz hb (hg1.ex b hb)) ht (by show j < NN.toNat; omega)) (fun r s3 ⟨u, er, h3⟩ => ?_) fun e s' q => q.elim
      subst er
      refine seg_bind_wrap ?_
      rw [(gl _).over]
      refine wpAny_mono h3 (fun _ s4 h4 => ?_) fun e s' q => q.elim
      obtain ⟨x, H4, I4, rx, ⟨rfl, rfl⟩, st4, fr4⟩ := h4
      have I4' := I4.pinned (fun b hb => okf hsz hb (fr4 b hb)) (Tn.obj _ _ st4)
      refine seg_bind_wrap ?_
      rw [(gl _).over]
      refine wpAny_mono ((hg _ _ hsz).run _ s4 σ H4 _ u (fun σ' H' => σ' = σ.set i (some (.int (0 + j))) ∧ H' = H4) I4' rx ⟨rfl, rfl⟩) (fun _ s5 h5 => ?_) fun e s' q => q.elim
      obtain ⟨σ5, H5, I5, rfl, rfl⟩ := h5
      rw [Sem.bind_eq_wrap', Sem.wrap_wrap]
      have pin_fp : ∀ b ∈ fp, ∃ o, (b, o) ∈ ip ++ pinsAt fp s4.heap := fun b hb => by
        obtain ⟨o, e, _⟩ := Tn.obj _ _ st4 b hb
        exact ⟨o, List.mem_append_right _ (mem_pinsAt hb e)⟩
      refine hb j (ip ++ pinsAt fp s4.heap) _ _ _ _ (by omega) (gl _) (fun n' s₀' s' G' oL' ip0' σc' Hc' σ' H' hnk' hg' => ?_) n s₀ s5 G oL ip0 σc Hc _ H5 hnk ⟨hg1.S, hg1.wt, I5, ?_, fun q hq => ?_, fun b hb => by simp at hb, fun q hq => ?_⟩
      · refine seg_again rfl (ih (j + 1) n' s₀' s' G' oL' ip0' σc' Hc' σ' H' (by omega) hnk' ⟨hg'.S, hg'.wt, hg'.J.unpinned, hg'.st, fun q hq => ?_, fun b hb => ?_, fun q hq => hg'.up q (List.mem_append_left _ hq)⟩ ?_)
        · rcases hg'.sub q hq with z | z
          · obtain ⟨q', hq', e⟩ := List.mem_map.mp z
            rcases List.mem_append.mp hq' with y | y
            · exact .inl (List.mem_map.mpr ⟨q', y, e⟩)
            · exact .inr (by rw [← e]; exact (of_pinsAt y).1)
          · simp at z
        · obtain ⟨o, ho⟩ := pin_fp b hb
          exact (hg'.J.pin (b, o) (List.mem_append_right _ ho)).2.1
        · exact Tn.keep _ _ _ st4 fun b hb o e => (hg'.J.pin (b, o) (List.mem_append_right _ (List.mem_append_right _ (mem_pinsAt hb e)))).1
      · obtain ⟨F, c1, sg, t1⟩ := hg1.st
        refine ⟨F, c1, sg.set ?_, t1⟩
        show V.int (0 + (j : Int)) = V.int j
        rw [Int.zero_add]
      · rcases hg1.sub q hq with z | z
        · obtain ⟨q', hq', e⟩ := List.mem_map.mp z
          exact .inl (List.mem_map.mpr ⟨q', List.mem_append_left _ hq', e⟩)
        · obtain ⟨o, ho⟩ := pin_fp _ z
          exact .inl (List.mem_map.mpr ⟨_, ho, rfl⟩)
      · rcases List.mem_append.mp hq with y | y
        · exact hg1.up q y
        · exact (stat _ (of_pinsAt y).1).2.2.1
  exact loop NN.toNat 0 n s₀ s2 G oL ip0 σc Hc σ H2 (Nat.zero_add _) hnk ⟨hg0.S, hg0.wt, I2, (let ⟨F, a, b, c⟩ := st20; ⟨F, a, b.weak hw, c⟩), fun q hq => (hg0.sub q hq).elim .inl fun z => by simp at z, fun b hb => (f2 b hb).1, hg0.up⟩ st2
end
end ML

namespace ML
open PySem PySem.Spec PyProof.Rows L2 GenW
open Sem (wp)

section
variable {M : Model} {A : Around} {Re : GenEnd} {Yp : Protocol} {n : Nat} {E : Value → Shared → Prop} {s : Shared} {gi : Nat} {st : GenState}
theorem wakes_any {r : Resume} {l : List Value} {β : Type} {kk : GenResult → Sem β} {Q : β → Shared → Prop} (h0 : s.gens[gi]? = some st) (go : st.Goes M A Re Yp n r (s.setGen gi .running))
    (hr : ∀ x z, Re n (s.setGen gi .running) x z → wpAny M A (kk (End.ret x).result) Q E (z.setGen gi .finished))
    (hy : ∀ v z st', st'.bare = true → st'.status = .suspended → Yp (n - 1) (s.setGen gi .running) v z (fun r' z' => match n with | 0 => False | m + 1 => st'.Goes M A Re Yp m r' z') → wpAny M A (kk (.yielded v)) Q E (z.setGen gi st')) :
    wpAny M A (.resume gi r l kk) Q E s := fun Γ p hΓ => by
  rw [Sem.wp_resume]
  have seg : ∀ e z, SegEnd Re Yp n (Seg.next M A Re Yp n) (s.setGen gi .running) e z → e.quiet = true ∧ wp M Γ (kk e.result) (fun a _ z' => Q a z') (fun x _ z' => E x z') p (z.setGen gi e.genState) := fun e z h => by
    cases e with
    | ret x => exact ⟨rfl, hr x z h Γ p hΓ⟩
    | susp v q l1 k1 c1 p1 fs1 => exact ⟨h.1, hy v z (.suspended k1 l1 c1 p1 fs1 _) (End.bare_of_quiet h.1) rfl (by cases n with | zero => exact h.2 | succ m => exact h.2) Γ p hΓ⟩
  cases st with
  | fresh c =>
    obtain ⟨rfl, hs⟩ := go
    obtain ⟨e, z, run, h⟩ := seg_iff.mp hs (Γ.wake c p) p rfl (hΓ.wake c p)
    exact ⟨_, _, by unfold Wakes; rw [h0]; exact ⟨e, z, run, (seg e z h).1, rfl, rfl⟩, (seg e z h).2⟩
  | suspended k1 l1 c1 p1 fs1 cl =>
    obtain ⟨e, z, run, h⟩ := seg_iff.mp go (Γ.wake c1 p) p1 rfl (hΓ.wake c1 p)
    exact ⟨_, _, by unfold Wakes; rw [h0]; exact ⟨e, z, run, (seg e z h).1, rfl, rfl⟩, (seg e z h).2⟩
  | running => exact go.elim
  | finished => exact go.elim
end
section
variable {P : Program} {w : World} {A : Around} {E : Value → Shared → Prop} {s : Shared}
theorem nexts {a : Addr} {gi n : Nat} {st : GenState} {Fi : Nat → Shared → Shared → Prop} {Yp : Protocol} {Q : Option Value → Shared → Prop} (hh : A.handled = none) (hl : s.heap.NoLimit) (hd : A.depth < recursionLimit) (ha : s.heap.IsGen a gi) (h0 : s.gens[gi]? = some st)
    (go : st.Goes (model P w) A.in1 (fun n z r z' => ((r = .ok (.ret .none) ∨ r = .ok .next) ∧ Fi n z z') ∨ ∃ e, r = .error e ∧ False) Yp n (.send .none) (s.setGen gi .running))
    (hy : ∀ v z st', st'.bare = true → st'.status = .suspended → Yp (n - 1) (s.setGen gi .running) v z (fun r' z' => match n with | 0 => False | m + 1 => st'.Goes (model P w) A.in1 (fun n z r z' => ((r = .ok (.ret .none) ∨ r = .ok .next) ∧ Fi n z z') ∨ ∃ e, r = .error e ∧ False) Yp m r' z') → Q (some v) (z.setGen gi st'))
    (hf : ∀ z, Fi n (s.setGen gi .running) z → ∀ h', (∀ b o, z.heap.get? b = some o → h'.get? b = some o) → Q none { z.setGen gi .finished with heap := h' }) : wpAny (model P w) A (pyNext (.ref a)) Q E s := by
  unfold pyNext
  refine wpAny_bind (wpAny_attempt (wpAny_callSpecial?_slot (name := Str.ofString "__next__") ha.typeIs slot_gen_next (wpAny_call_entry slot_gen_next ha.typeIs entry_gen_next ?_ (args_gen_next _))))
  show wpAny (model P w) A.in1 (Builtin.Generator.genWake (.ref a) (.send .none)) _ _ s
  unfold Builtin.Generator.genWake
  refine wpAny_bind (wpAny_holding (wpAny_genNumber ha (wpAny_bind (wpAny_genState h0 ?_))))
  cases st with
  | running => exact go.elim
  | finished => exact go.elim
  | _ =>
    refine wpAny_bind (wpAny_roomToWake hl hd ?_)
    show wpAny (model P w) A.in1 (.resume gi (.send .none) [] _) _ _ s
    refine wakes_any h0 go (fun x z hx => ?_) fun v z st' hb hs hv => wpAny_pure ⟨v, rfl, wpAny_pure (hy v z st' hb hs hv)⟩
    rcases hx with ⟨hr, hp⟩ | ⟨e, _, z⟩
    · have res : End.result (.ret x) = .returned .none := by rcases hr with hr | hr <;> (rw [hr]; rfl)
      first | rw [res] | simp only [res]
      show wpAny (model P w) A.in1 (newExc (.type "StopIteration") [] >>= _) _ _ _
      refine wpAny_bind ?_
      simp only [newExc, newTuple]
      refine wpAny_bind (wpAny_newObj_type ?_ (by size_fits))
      refine wpAny_bind (m := firstArgMember _ _) (wpAny_of_eq (a := Value.none) (by first | exact rfl | (simp only [firstArgMember]; exact rfl)) ?_)
      refine wpAny_newObj_type ?_ (by size_fits)
      simp only [raiseNew]
      refine wpAny_bind (wpAny_bind (wpAny_handled ?_))
      first | rw [show A.in1.handled = none from hh] | rw [hh]
      refine wpAny_throw (wpAny_bind (wpAny_isInstance (T := "StopIteration") (b := true) ⟨_, Heap.get?_push_size _ rfl, rfl⟩ isSubtype_stop ?_))
      exact wpAny_pure (hf z hp _ fun b o hb => Heap.get?_push_of_some _ (Heap.get?_push_of_some _ hb))
    · exact z.elim
end

structure Made (N : List Str) (qual : Str) (scope : Scope) (f : Addr) (cd : Value) (body : List Stmt) (vs : List V) (s s' : Shared) (L a : Addr) (go oL : Obj) (gn : Nat) : Prop where
  low : s.heap.objs.size ≤ L
  lt : L < a
  at' : s'.heap.get? a = some go
  fr : s'.heap.get? L = some oL
  isg : ∀ h : Heap, h.get? a = some go → h.IsGen a gn
  flds : ∃ vs, go.cls = .type "generator" ∧ go.data = .fields vs
  gen : s'.gens[gn]? = some (.fresh (.func body (envOfC qual scope L f cd)))
  loc : LocAt N scope (L2.start N vs) oL
  len : (L2.start N vs).length = N.length
  os : s'.os = s.os
  bare : AllBare s'.gens
  keep : ∀ b o, s.heap.get? b = some o → s'.heap.get? b = some o
theorem made_by {P : Program} {w : World} {K : PySem.W.Frag} {mg : Str → Option Value} {base : Heap} {k : Nat} {f : Addr} {name qual : Str} {params : Arguments} {body : List Stmt} {scope : Scope} {dV kV doc pm cdv ct oc : Value} {an od : Option Addr}
    {osl : Array (Option Value)} {N ps : List Str} (lk : K.lookup f = some ⟨oc, od, .func (PySem.W.fnOf name qual params body scope dV kV doc pm an cdv ct), osl⟩) (hcd : PySem.W.codeIn K cdv qual = true) (S : PlainScope N ps scope)
    {A : Around} {ou : List Env} {s : Shared} {H : Hp} {ar : PySem.Args} {us : List Value} {vs : List V} (hr : RoomG (k + 1) A) (e0 : Env0 P w K mg base A ou s H) (hbd : BindsTo s (PySem.W.fnOf name qual params body scope dV kV doc pm an cdv ct) ar (ps.zip us)) (r : Vals vs us) (hl : vs.length = ps.length) :
    codeAny (model P w) A (.call (.ref f) ar) (fun r s' => match r with | .ok (.ret u) => ∃ L a go oL gn, u = .ref a ∧ Made N qual scope f cdv body vs s s' L a go oL gn | _ => False) s := by
  have old : ∀ b o, base.get? b = some o → s.heap.get? b = some o := fun b o e => (e0.bs b o e).1
  have KX : K.In s.heap := e0.mod.kin.keeps old
  have lim : s.heap.NoLimit := e0.mod.nolimit.keeps old
  have kinds : ∀ y ∈ ps.zip us, scope.names.lookup y.1 = some .local ∨ (scope.names.lookup y.1 = some .cell ∧ ((cellsFrom (s.heap.objs.size + 1) scope.names []).lookup y.1).isSome = true) := fun y hy =>
    (S.g.par y.1 (List.of_mem_zip hy).1).imp id fun q => ⟨q, PySem.W.cellsFrom_some _ _ _ (.inl q)⟩
  refine codeAny_call_generator hr.rm.depth (KX _ _ lk) rfl S.g.co S.g.gen rfl (PySem.W.codeRec_of KX hcd) (hbd _ _ _ _ ?_)
  refine wpAny_newFunctionEnv_cells S.g.kind kinds fun env he s1 x => ?_
  subst he
  refine ⟨lim.keeps x.toInCall.keep, ?_⟩
  have I1 := inv_startG (E := fun _ _ _ => False) S.g hr.rm.hd e0 hl r x
  obtain ⟨oL, hoL, loc⟩ := loc_of I1 fun x => S.kinds
  have hoL' : s1.heap.get? s.heap.objs.size = some oL := hoL
  obtain ⟨h1, tk, es1, hk1⟩ := x.done
  have eg : s1.gens = s.gens := by rw [es1]
  refine ⟨s.heap.objs.size, s1.heap.objs.size, _, oL, s1.gens.size, rfl, Nat.le_refl _, Heap.lt_size hoL', Heap.get?_push_size _ rfl, Heap.get?_push_of_some _ hoL', fun h e => ⟨_, _, _, e, rfl, rfl, rfl⟩, ⟨_, rfl, rfl⟩, Array.getElem?_push_size .., loc, I1.len, ?_, ?_, fun b o e => Heap.get?_push_of_some _ (x.toInCall.keep b o e)⟩
  · show s1.os = s.os
    rw [es1]
  · exact AllBare.push (by rw [eg]; exact e0.bare) rfl
end ML

namespace ML
open PySem PySem.Spec PyProof.Rows L2 GenW

theorem inv_gens {X : Cx} {pins : List (Addr × Obj)} {σ : L2.St} {H : Hp} {s : Shared} {g' : Array GenState} (I : Inv X pins σ H s) (hb : AllBare g') : Inv X pins σ H { s with gens := g' } :=
  I.call (g' := g') (t' := s.toks) (d' := s.drawn) (h' := s.heap) (ch := []) Un.refl I.hok hb fun b z => by simp at z
theorem Sleep.gens {X : Cx} {pins : List (Addr × Obj)} {L : Addr} {G : Hp} {oL : Obj} {ip : List (Addr × Obj)} {σ : L2.St} {H : Hp} {s : Shared} {g' : Array GenState} (S : Sleep X pins L G oL ip σ H s) (hb : AllBare g') : Sleep X pins L G oL ip σ H { s with gens := g' } :=
  ⟨inv_gens S.inv hb, S.whole, S.sub, S.up, S.late, S.apart⟩
structure GenFn (P : Program) (w : World) (K : PySem.W.Frag) (mg : Str → Option Value) (base : Heap) (k : Nat) (f : Addr) (fd : FuncData) (ps : List Str) {α : Type} (r : R α) (sp : List V → Hp → List α → Prop) : Prop where
  len : ∀ vs G ys, sp vs G ys → vs.length = ps.length
  go : ∃ (N : List Str) (qual : Str) (scope : Scope) (cd : Value) (body : List Stmt), PlainScope N ps scope ∧
    (∀ (A : Around) (ou : List Env) (s : Shared) (H : Hp) (ar : PySem.Args) (us : List Value) (vs : List V), RoomG (k + 1) A → Env0 P w K mg base A ou s H → BindsTo s fd ar (ps.zip us) → Vals vs us → vs.length = ps.length →
      codeAny (model P w) A (.call (.ref f) ar) (fun r s' => match r with | .ok (.ret u) => ∃ L a go oL gn, u = .ref a ∧ Made N qual scope f cd body vs s s' L a go oL gn | _ => False) s) ∧
    ∀ (X : Cx) (pins : List (Addr × Obj)) (L : Addr) (A : Around) (Wt : Nat → Hp → L2.St → Hp → Prop) (vs : List V) (G0 : Hp) (ys : List α), X.prog = P → X.w = w → X.K = K → X.mg = mg → X.base = base → sp vs G0 ys → RoomG (k + 1) A → Pact X N ps scope A L →
      ∃ Gm, Slots G0 Gm (L2.start N vs) ∧ Gg ⟨X, pins, L, N, ps, scope, qual, f, cd, A, ys, r, Wt⟩ [] 0 Gm [] [] [] (.func body (envOfC qual scope L f cd))
        ((execs body (envOfC qual scope L f cd)).wrap (fun f => .pure (.done (.ret (match f with | .ret v => v | _ => .none)))) (fun e => (leaving (envOfC qual scope L f cd) e).wrap (fun _ => .raise e) .raise id id) id id) []
def tForG {α : Type} (sp : List V → Hp → List α → Prop) (r : R α) (ta : TA) (tg : TG) (tb : TS) : TS := fun D σ H => ta σ H fun vs H1 => ∃ (ys : List α) (G0 : Hp), sp vs G0 ys ∧ Whole G0 ∧ Same G0 H1 ∧ ∃ Wt : Nat → Hp → L2.St → Hp → Prop, Wt 0 G0 σ H1 ∧
  (∀ G σ H G' H', Wt ys.length G σ H → Grown G H G' H' → D.nx σ H') ∧
  ∀ k y G σ H G' H' x, ys[k]? = some y → Wt k G σ H → Grown G H G' H' → r.p y G' x →
    tg x σ H' fun σ2 H2 => tb { D with nx := fun σ3 H3 => Same G' H3 ∧ Wt (k + 1) G' σ3 H3, ct := fun σ3 H3 => Same G' H3 ∧ Wt (k + 1) G' σ3 H3, bk := D.nx } σ2 H2
section
variable {X : Cx} {α : Type} {r : R α} {sp : List V → Hp → List α → Prop} {k : Nat} {f : Addr} {fd : FuncData} {ps : List Str} {x : Str} {p pos pos' : Pos} {e : Expr} {es : List Expr} {ta : TA} {tg : Expr} {tgt : TG} {body : List Stmt} {tb : TS}
theorem ps_forG (F : GenFn X.prog X.w X.K X.mg X.base k f fd ps r sp) (hr : RoomG (k + 2) X.A) (hx : ∀ e s, X.xe e s → False) (hc : X.calm = true) (hg : Gl X x) (hm : X.mg x = some (.ref f)) (hk : PySem.W.keepIn X.K (.ref f) = true) (hb : Binds X.K fd ps [])
    (ha : PA X (e :: es) ta) (ht : PG X tg tgt) (hbody : PSs X body tb) (h1 : (x == ("__debug__" : Str)) = false := by decide) (h2 : starEach (e :: es) X.env = (false, eval e X.env) :: starEach es X.env := by rfl) (h3 : (backTo pos' (starEach es X.env)).any (·.1) = false := by rfl)
    (hs : ∀ v, foldedSetIterable (.Call (.Name x p) (e :: es) [] pos') X.env v = pure v := by intro _; rfl) :
    PS X (.For tg (.Call (.Name x p) (e :: es) [] pos') body [] pos) (tForG sp r ta tgt tb) := by
  refine ⟨fun pins s σ H D I h => ?_⟩
  obtain ⟨N, qual, scope, cd, bG, Sc, mk, gbody⟩ := F.go
  refine wpAny_For ?_ hs
  refine wpAny_Call_Name_kw (ld_glob I hg hm (PySem.W.callWith_K (h₀ := X.base) I.ok.mod.kin hk (thn (ha.run pos' pins s σ H _ I h) fun us s1 h4 => ?_) h2 h3) h1)
  obtain ⟨vs, H1, I1, rv, ys, G0, hsp, wG, sG, Wt, w0, fin, turn⟩ := h4
  have hl := F.len vs G0 ys hsp
  have hbt : BindsTo s1 fd ⟨us, []⟩ (ps.zip us) := by
    have := hb s1 us I1.kIn (by rw [List.append_nil, ← rv.length]; exact hl)
    rwa [List.append_nil] at this
  refine ⟨I1.kIn, wpAny_call (codeAny_mono (mk X.A X.stack s1 H1 ⟨us, []⟩ us vs (hr.mono (by omega)) I1.env0 hbt rv hl) fun res s2 hq => ?_)⟩
  match res, hq with
  | .error e, hq => exact hq.elim
  | .ok .next, hq => exact False.elim hq
  | .ok .brk, hq => exact False.elim hq
  | .ok .cont, hq => exact False.elim hq
  | .ok (.ret u), hq =>
    obtain ⟨L, a, go, oL, gn, rfl, Mk⟩ := hq
    refine wpAny_pyIter_gen (Mk.isg _ Mk.at') ?_
    have hra : RoomG (k + 1) X.A.in1 := hr.in1
    have Z : Pact X N ps scope X.A.in1 L := ⟨Sc, I1.ok.hd hc, I1.ok.frames, .inr (Nat.le_trans I1.sz Mk.low), Nat.le_trans I1.ok.bsz (Nat.le_trans I1.sz Mk.low), fun b hb _ => .inr (Nat.le_trans (Nat.le_trans I1.sz Mk.low) (Nat.le_of_lt hb)), fun b hb => by
      obtain ⟨_, o, ho, _⟩ := I1.stack.mem hb
      exact Nat.lt_of_lt_of_le (Heap.lt_size ho) Mk.low⟩
    have I2 : Inv X pins σ H1 s2 := I1.call' (ch := []) Mk.os (Un.kept Mk.keep) (I1.hok.kept Mk.keep) Mk.bare fun b z => by simp at z
    have young : ∀ b, s1.heap.objs.size ≤ b → H1 b = none ∧ b ≠ X.env.locals ∧ b ∉ X.fs ∧ ∀ q ∈ X.pn ++ pins, q.1 ≠ b := fun b hb => ⟨I1.hok.fresh hb, Nat.ne_of_gt (Nat.lt_of_lt_of_le I1.lt hb), I1.nofs hb, fun q hq z => by
      have := Heap.lt_size (I1.pin q hq).1
      rw [z] at this
      exact absurd (Nat.lt_of_lt_of_le this hb) (Nat.lt_irrefl _)⟩
    obtain ⟨gfs, gcls, gdat⟩ := Mk.flds
    have hago : s1.heap.objs.size ≤ a := Nat.le_of_lt (Nat.lt_of_le_of_lt Mk.low Mk.lt)
    have S2 : Sleep X (pins ++ [(a, go)]) L G0 oL [] σ H1 s2 := by
      refine ⟨I2.pins_of fun q hq => ?_, wG, sG, fun q hq => (by simp at hq), fun q hq => (by simp at hq), fun q hq q' hq' => ?_⟩
      · rcases List.mem_append.mp hq with hq | hq
        · rcases List.mem_append.mp hq with hq | hq
          · exact I2.pin q (List.mem_append_right _ hq)
          · rw [List.mem_singleton.mp hq]
            obtain ⟨y1, y2, y3, _⟩ := young a hago
            exact ⟨Mk.at', y1, y2, y3, fun v z => by rw [gdat] at z; cases z⟩
        · rw [List.mem_singleton.mp hq]
          obtain ⟨y1, y2, y3, _⟩ := young L Mk.low
          obtain ⟨es1, ep1, m1, hd1, _⟩ := Mk.loc
          exact ⟨Mk.fr, y1, y2, y3, fun v z => by rw [hd1] at z; cases z⟩
      · rw [List.mem_singleton.mp hq]
        rw [← List.append_assoc] at hq'
        rcases List.mem_append.mp hq' with z | z
        · exact (young L Mk.low).2.2.2 q' z
        · rw [List.mem_singleton.mp z]
          exact Nat.ne_of_gt Mk.lt
    obtain ⟨Gm, slG, hgg⟩ := gbody X (pins ++ [(a, go)]) L X.A.in1 Wt vs G0 ys rfl rfl rfl rfl rfl hsp hra Z
    have gol : gn < s2.gens.size := (Array.getElem?_eq_some_iff.mp Mk.gen).1
    refine codeAny_forLoop_any (fun n s' => ∃ kk gs G oL ip σ' H', n + kk = ys.length + 1 ∧ Sleep X (pins ++ [(a, go)]) L G oL ip σ' H' s' ∧ Wt kk G σ' H' ∧ s'.gens[gn]? = some gs ∧
      gs.Goes (model X.prog X.w) X.A.in1 (GK.R ⟨X, pins ++ [(a, go)], L, N, ps, scope, qual, f, cd, X.A.in1, ys, r, Wt⟩) (GK.Y ⟨X, pins ++ [(a, go)], L, N, ps, scope, qual, f, cd, X.A.in1, ys, r, Wt⟩) n (.send .none) (s'.setGen gn .running)) ?_ (ys.length + 1)
      ⟨0, _, G0, oL, [], σ, H1, rfl, S2, w0, Mk.gen, rfl, seg_func ?_⟩
    · rintro n s3 ⟨kk, gs, G3, oL3, ip3, σ3, H3, hnk, S3, w3, hgs, hgo⟩
      have hgl := (Array.getElem?_eq_some_iff.mp hgs).1
      have ha3 : s3.heap.get? a = some go := (S3.inv.pin (a, go) (List.mem_append_right _ (List.mem_append_left _ (List.mem_append_right _ List.mem_cons_self)))).1
      refine wpAny_gsz (n := gn + 1) hgl (nexts (I1.ok.hd hc) S3.inv.nolimit hr.rm.depth (Mk.isg _ ha3) hgs hgo (fun v z st' hbare hsusp hY hsz => ?_) fun z hF h' hk' _ => ?_)
      · obtain ⟨k', G, oL4, ip4, σc, Hc, y, vv, G', oL', ip', Hc', hk', S0, wt0, hy', rvv, ry, S', gr, kap⟩ := hY
        have b5 : AllBare (z.setGen gn st').gens := allBare_setGen S'.inv.bare hbare
        have S5 : Sleep X (pins ++ [(a, go)]) L G' oL' ip' σc Hc' (z.setGen gn st') := S'.gens b5
        have hz : gn < z.gens.size := by
          have q : (z.setGen gn st').gens.size = z.gens.size := setGen_size _ _ _
          omega
        have at5 : (z.setGen gn st').gens[gn]? = some st' := setGen_at hz
        have ha5 : (z.setGen gn st').heap.get? a = some go := (S5.inv.pin (a, go) (List.mem_append_right _ (List.mem_append_left _ (List.mem_append_right _ List.mem_cons_self)))).1
        refine go_of ha5 gcls gdat (by decide) ?_
        refine wpAny_mono (any_asleep (ht.run _ (hushed (z.setGen gn st')) σc Hc' vv v _ (inv_gens S5.inv (allBare_hushed b5)) rvv (turn k' y G σc Hc G' Hc' vv hy' wt0 gr ry))) (fun _ s6 h6 => ?_) fun e s' ⟨_, _, _, q⟩ => (hx _ _ q).elim
        obtain ⟨z6, rfl, hu6, σ6, H6, I6, q6⟩ := h6
        have b6 : AllBare (rouse (asleep (z.setGen gn st')) z6).gens := allBare_rouse b5 I6.bare
        have at6 := rouse_asleep hu6 at5 hsusp
        generalize hs6 : rouse (asleep (z.setGen gn st')) z6 = s6 at b6 at6
        have I6' : Inv X ((pins ++ [(a, go)]) ++ (L, oL') :: ip') σ6 H6 s6 := by rw [← hs6]; exact inv_gens I6 (by rw [← hs6] at b6; exact b6)
        refine wpAny_mono (any_asleep (hbody.run _ (hushed s6) σ6 H6 _ (inv_gens I6' (allBare_hushed b6)) q6)) (fun fl s7 h7 => ?_) fun e s' ⟨_, _, _, q⟩ => (hx _ _ q).elim
        obtain ⟨z7, hs7, hu7, h7⟩ := h7
        have at7 : s7.gens[gn]? = some st' := by rw [hs7]; exact rouse_asleep hu7 at6 hsusp
        have toS : ∀ {σ7 : L2.St} {H7 : Hp}, Inv X ((pins ++ [(a, go)]) ++ (L, oL') :: ip') σ7 H7 z7 → Inv X ((pins ++ [(a, go)]) ++ (L, oL') :: ip') σ7 H7 s7 := fun {σ7 H7} I7 => by
          rw [hs7]; exact inv_gens I7 (allBare_rouse b6 I7.bare)
        have again : ∀ {σ7 : L2.St} {H7 : Hp}, Inv X ((pins ++ [(a, go)]) ++ (L, oL') :: ip') σ7 H7 z7 → (Same G' H7 ∧ Wt (k' + 1) G' σ7 H7) → ∃ m, m < n ∧ ∃ kk gs G oL ip σ' H', m + kk = ys.length + 1 ∧ Sleep X (pins ++ [(a, go)]) L G oL ip σ' H' s7 ∧ Wt kk G σ' H' ∧ s7.gens[gn]? = some gs ∧
            gs.Goes (model X.prog X.w) X.A.in1 (GK.R ⟨X, pins ++ [(a, go)], L, N, ps, scope, qual, f, cd, X.A.in1, ys, r, Wt⟩) (GK.Y ⟨X, pins ++ [(a, go)], L, N, ps, scope, qual, f, cd, X.A.in1, ys, r, Wt⟩) m (.send .none) (s7.setGen gn .running) := fun {σ7 H7} I7 ⟨w1, w2⟩ => by
          have S7 : Sleep X (pins ++ [(a, go)]) L G' oL' ip' σ7 H7 s7 := ⟨toS I7, S'.whole, w1, S'.up, S'.late, S'.apart⟩
          have q := kap (s7.setGen gn .running) σ7 H7 (S7.gens (allBare_setGen S7.inv.bare rfl)) w2
          cases n with
          | zero => exact q.elim
          | succ m => exact ⟨m, Nat.lt_succ_self _, k' + 1, st', G', oL', ip', σ7, H7, by have : m + k' = ys.length := hk'; omega, S7, w2, at7, q⟩
        cases fl with
        | next => obtain ⟨σ7, H7, I7, n7⟩ := h7; exact again I7 n7
        | cont => obtain ⟨σ7, H7, I7, n7⟩ := h7; exact again I7 n7
        | brk => obtain ⟨σ7, H7, I7, q7⟩ := h7; exact ⟨σ7, H7, (toS I7).unpinned.unpinned, q7⟩
        | ret v => obtain ⟨x7, σ7, H7, I7, r7, q7⟩ := h7; exact ⟨x7, σ7, H7, (toS I7).unpinned.unpinned, r7, q7⟩
      · obtain ⟨G, oL4, ip4, σc, Hc, G', Hc', S0, wt0, I4, gr⟩ := hF
        have I5 : Inv X (pins ++ [(a, go)]) σc Hc' (z.setGen gn .finished) := inv_gens I4 (allBare_setGen I4.bare rfl)
        exact wpAny_execs_nil ⟨σc, Hc', (I5.kept (t' := z.toks) hk').unpinned, fin G σc Hc G' Hc' wt0 gr⟩
    · have S2' := S2.gens (allBare_setGen (g := gn) (x := .running) S2.inv.bare rfl)
      refine hgg (ys.length + 1) _ _ G0 oL [] σ H1 _ _ rfl ⟨S2', w0, S2'.wake Z Mk.loc Mk.len, ?_, fun q hq => by simp at hq, fun b hb => by simp at hb, fun q hq => by simp at hq⟩
      exact ⟨G0, ⟨Same.refl _, both_l, both_r, fun b x e => (froz_of e).1, by simp, fun x hx => by simp at hx⟩, slG, Temps.nil⟩
end
end ML

namespace ML
open PySem PySem.Spec PyProof.Rows L2 GenW

def tups (F : Hp) : Hp := fun b => match F b with | some (.tup xs) => some (.tup xs) | some (.frz o (.tup xs)) => some (.frz o (.tup xs)) | _ => none
theorem tups_sub {F : Hp} : Same (tups F) F := fun b x e => by
  unfold tups at e
  split at e
  · rename_i q; cases e; exact q
  · rename_i q; cases e; exact q
  · cases e
theorem tups_is {F : Hp} {b : Addr} {x : HO} (e : tups F b = some x) : (∃ xs, x = .tup xs) ∨ ∃ o xs, x = .frz o (.tup xs) := by
  unfold tups at e
  split at e
  · cases e; exact .inl ⟨_, rfl⟩
  · cases e; exact .inr ⟨_, _, rfl⟩
  · cases e
theorem tups_tup {F : Hp} {b : Addr} {xs : List V} (e : F b = some (.tup xs)) : tups F b = some (.tup xs) := by unfold tups; rw [e]
theorem tups_tupA {F : Hp} {b : Addr} {xs : List V} (e : TupA F b xs) : TupA (tups F) b xs := e.elim (fun e => .inl (tups_tup e)) fun ⟨o, e, d⟩ => .inr ⟨o, (by unfold tups; rw [e]), d⟩
theorem tups_whole {F : Hp} : Whole (tups F) where
  noT b kvs e := by rcases tups_is e with ⟨xs, z⟩ | ⟨o, xs, z⟩ <;> cases z
  noF b ob u e := by
    rcases tups_is e with ⟨xs, z⟩ | ⟨o, xs, z⟩
    · cases z
    · cases z; exact ⟨_, rfl⟩
  own b a e := by rcases tups_is e with ⟨xs, z⟩ | ⟨o, xs, z⟩ <;> cases z
  ins a C dx fs e := by rcases tups_is e with ⟨xs, z⟩ | ⟨o, xs, z⟩ <;> cases z
def TupS (sl : Sl) : Prop := ∀ F v, sl.p F v → sl.p (tups F) v
theorem TupS.int {i : Int} : TupS (rInt.at i) := fun _ _ h => h
theorem TupS.bool {i : Bool} : TupS (rBool.at i) := fun _ _ h => h
theorem TupS.tup {α : Type} {r : R α} (h : ∀ x, TupS (r.at x)) {xs : List α} : TupS ((rTup r).at xs) := fun F v ⟨h0, a, vs, h1, h2, h3⟩ => ⟨h0, a, vs, h1, tups_tupA h2, h3.imp fun x u q => h x F u q⟩
theorem LeanS.int {i : Int} : LeanS (rInt.at i) := fun _ _ h => h
theorem LeanS.bool {i : Bool} : LeanS (rBool.at i) := fun _ _ h => h
theorem LeanS.tup {α : Type} {r : R α} (h : LeanR r) {xs : List α} : LeanS ((rTup r).at xs) := fun M v ⟨h0, a, vs, h1, h2, h3⟩ => ⟨h0, a, vs, h1, lean_tupA h2, h3.imp fun x u q => h x M u q⟩
theorem LeanG.nil : LeanG [] := fun i sl h => by simp at h
theorem LeanG.some {sl : Sl} {G : Gam} (h : LeanS sl) (t : LeanG G) : LeanG (some sl :: G) := fun i s e => by
  cases i with
  | zero => simp at e; rw [← e]; exact h
  | succ i => exact t i s (by simpa using e)
theorem LeanG.none {G : Gam} (t : LeanG G) : LeanG (none :: G) := fun i s e => by
  cases i with
  | zero => simp at e
  | succ i => exact t i s (by simpa using e)
def AllTup (sls : List Sl) : Prop := ∀ sl ∈ sls, TupS sl
theorem args_tups {F : Hp} : ∀ {sls : List Sl} {vs : List V}, (∀ sl ∈ sls, TupS sl) → Args F sls vs → Args (tups F) sls vs
  | _, _, _, .nil => .nil
  | _, _, h, .cons p q => .cons (h _ List.mem_cons_self _ _ p) (args_tups (fun sl hs => h sl (List.mem_cons_of_mem _ hs)) q)

def genO {α γ : Type} (f : α → Option (List γ)) : List α → Option (List γ)
  | [] => some []
  | x :: xs => match f x with
    | none => none
    | some zs => match genO f xs with
      | none => none
      | some ys => some (zs ++ ys)
theorem genO_cons {α γ : Type} {f : α → Option (List γ)} {x : α} {xs : List α} {out : List γ} (h : genO f (x :: xs) = some out) : ∃ zs ys, f x = some zs ∧ genO f xs = some ys ∧ out = zs ++ ys := by
  unfold genO at h
  cases e : f x with
  | none => rw [e] at h; cases h
  | some zs =>
    rw [e] at h
    cases e2 : genO f xs with
    | none => rw [e2] at h; cases h
    | some ys => rw [e2] at h; cases h; exact ⟨zs, ys, rfl, rfl, rfl⟩
theorem genO_parts {α γ : Type} {f : α → Option (List γ)} : ∀ {xs : List α} {out : List γ}, genO f xs = some out → ∃ kk : Nat → Nat, kk 0 = 0 ∧ kk xs.length = out.length ∧ ∀ (j : Nat) (x : α), xs[j]? = some x → ∃ zs, f x = some zs ∧ kk (j + 1) = kk j + zs.length ∧ ∀ i z, zs[i]? = some z → out[kk j + i]? = some z
  | [], out, h => by cases h; exact ⟨fun _ => 0, rfl, rfl, fun j x e => by simp at e⟩
  | x :: xs, out, h => by
    obtain ⟨zs, ys, h1, h2, rfl⟩ := genO_cons h
    obtain ⟨kk, k0, k1, k2⟩ := genO_parts h2
    refine ⟨fun j => match j with | 0 => 0 | j + 1 => zs.length + kk j, rfl, by show zs.length + kk xs.length = _; rw [k1, List.length_append], fun j y e => ?_⟩
    cases j with
    | zero =>
      have e' : x = y := by simpa using e
      subst e'
      refine ⟨zs, h1, by show zs.length + kk 0 = 0 + zs.length; rw [k0]; omega, fun i z q => ?_⟩
      show (zs ++ ys)[0 + i]? = _
      rw [Nat.zero_add, List.getElem?_append_left (List.getElem?_eq_some_iff.mp q).1]; exact q
    | succ j =>
      obtain ⟨us, q1, q2, q3⟩ := k2 j y (by simpa using e)
      refine ⟨us, q1, by show zs.length + kk (j + 1) = zs.length + kk j + us.length; rw [q2]; omega, fun i z q => ?_⟩
      show (zs ++ ys)[zs.length + kk j + i]? = _
      rw [List.getElem?_append_right (by omega), show zs.length + kk j + i - zs.length = kk j + i from by omega]
      exact q3 i z q
section
variable {α : Type} {g : GK (α := α)} {Gm : Gam} {ip : List (Addr × Obj)} {c : Code} {fs : List PySem.Frame} {K : Flow → Sem PySem.Fin} {J : Value → Sem PySem.Fin} {gd : Bool → Bool} {lv : List Value → List Value} {body : List Stmt} {pos : Pos}
theorem gg_rangeO {tg iter : Expr} {ta : TA} {i : Nat} {NN : Int} {xs : List Int} {f : Int → Option (List α)} {GL : Gam} (Z : Pact g.X g.N g.ps g.scope g.A g.L) (hc : GC' g c fs gd)
    (hi : ∀ sc H, PI (g.cx sc H) tg iter (iRng1 ta)) (hg : ∀ sc H, PG (g.cx sc H) tg (gName i))
    (hn : ∀ W, EvA ta W Gm [] [] fun sls cs1 => sls = [rInt.at NN] ∧ cs1 = []) (hx : oRange 0 NN = some xs) (hf : genO f xs = some g.ys) (hw : Wkn Gm GL)
    (hb : ∀ (x : Int) (zs : List α) (k : Nat), f x = some zs → (∀ i z, zs[i]? = some z → g.ys[k + i]? = some z) → ∀ (ipb : List (Addr × Obj)) (c' : Code) (fs' : List PySem.Frame) (K' : Flow → Sem PySem.Fin) (J' : Value → Sem PySem.Fin), GC' g c' fs' id →
      Gg g [] (k + zs.length) GL [] [] ipb c' (K' .next) fs' → Gg g [] k (GL.set i (some (rInt.at x))) [] [] ipb c' ((execs body g.env).wrap K' J' id id) fs')
    (after : ∀ ex, Gg g ex g.ys.length GL [] [] ip c (K .next) fs) (hfs : ∀ x, foldedSetIterable iter g.env x = pure x := by intro _; rfl) :
    Gg g [] 0 Gm [] [] ip c ((exec (.For tg iter body [] pos) g.env).wrap K J gd lv) fs := by
  obtain ⟨⟨_, hs, hz⟩, rfl⟩ := oRange_ok hx
  obtain ⟨kk, k0, k1, k2⟩ := genO_parts hf
  have hl : (rangeI 0 NN).length = NN.toNat := by rw [len_rangeI]; congr 1; omega
  refine gg_range (kk := kk) Z hc (fun sc H _ => hi sc H) (fun sc H _ => hg sc H) hn hs k0 hw (fun j ipb c' fs' K' J' hj hc' hk => ?_) (fun ex => by rw [← hl, k1]; exact after ex) hfs
  have hxj : (rangeI 0 NN)[j]? = some (j : Int) := by
    unfold rangeI
    rw [List.getElem?_map, List.getElem?_range (by omega)]
    simp
  obtain ⟨zs, q1, q2, q3⟩ := k2 j _ hxj
  rw [q2] at hk
  exact hb _ zs (kk j) q1 q3 ipb c' fs' K' J' hc' hk
end
theorem okGen {P : Program} {w : World} {K : PySem.W.Frag} {mg : Str → Option Value} {base : Heap} {x qual : Str} {st : Stmt} {f : Addr} {fd : FuncData} {N ps : List Str} {k : Nat} {α : Type} {r : R α} {sp : List V → Hp → List α → Prop} (F : Fun K x qual st f fd) (S : PlainScope N ps (defScope st)) (len : ∀ vs G ys, sp vs G ys → vs.length = ps.length)
    (hb : ∀ (X : Cx) (pins : List (Addr × Obj)) (L : Addr) (A : Around) (Wt : Nat → Hp → L2.St → Hp → Prop) (cdv : Value) (vs : List V) (G0 : Hp) (ys : List α), X.prog = P → X.w = w → X.K = K → X.mg = mg → X.base = base → sp vs G0 ys → RoomG k (A.deeper (envOfC qual (defScope st) L f cdv)) → Pact X N ps (defScope st) A L →
      ∃ Gm, Slots G0 Gm (L2.start N vs) ∧ ∀ (K' : Flow → Sem PySem.Fin) (J' : Value → Sem PySem.Fin) (c : Code), GC' (⟨X, pins, L, N, ps, defScope st, qual, f, cdv, A, ys, r, Wt⟩ : GK) c [] id → (∀ ex Gm' T cs ip, Gg (⟨X, pins, L, N, ps, defScope st, qual, f, cdv, A, ys, r, Wt⟩ : GK) ex ys.length Gm' T cs ip c (K' .next) []) →
        Gg (⟨X, pins, L, N, ps, defScope st, qual, f, cdv, A, ys, r, Wt⟩ : GK) [] 0 Gm [] [] [] c ((execs (defBody st) (envOfC qual (defScope st) L f cdv)).wrap K' J' id id) []) : GenFn P w K mg base k f fd ps r sp := by
  obtain ⟨oc, od, kV, doc, pm, an, cdv, ct, osl, rfl, lk, hcd⟩ := F.ex
  refine ⟨len, N, qual, defScope st, cdv, defBody st, S, fun A ou s H ar us vs hr e0 hbd rv hl => made_by lk hcd S hr e0 hbd rv hl, fun X pins L A Wt vs G0 ys e1 e2 e3 e4 e5 hsp hr Z => ?_⟩
  obtain ⟨Gm, h1, h2⟩ := hb X pins L A Wt cdv vs G0 ys e1 e2 e3 e4 e5 hsp (hr.deeper _) Z
  exact ⟨Gm, h1, h2 _ _ _ ⟨over_func, rfl, rfl, rfl⟩ fun ex Gm' T cs ip => gg_end Z rfl⟩
theorem slots_start {N : List Str} {sls : List Sl} {vs : List V} {G0 : Hp} (ar : Args G0 sls vs) (hn : sls.length ≤ N.length) : Slots G0 (sls.map some ++ List.replicate (N.length - sls.length) none) (L2.start N vs) := by
  have c : Core ⟨G0, fun _ => none⟩ G0 [] G0 := ⟨Same.refl _, Same.refl _, fun b x e => (nomatch e), fun b x e => (nomatch e), by simp, fun x hx => (by simp at hx)⟩
  obtain ⟨F, cc, sl, _⟩ := Sta.enter (F := G0) (N := N) c ar hn
  exact ⟨sl.1, fun i s hi => by
    obtain ⟨v, h1, h2⟩ := sl.2 i s hi
    exact ⟨v, h1, s.mono (show Same F G0 from fun b x e => cc.fh b x e) h2⟩⟩

def sSame (G : Hp) : Sl := ⟨fun F _ => Same G F, fun e h => h.trans e⟩
section
variable {W : Wd} {G : Gam} {T : Tms} {cs : Cells} {nx bk ct : L2.St → Hp → Prop} {rt : VK} {α : Type} {r : R α} {sp : List V → Hp → List α → Prop} {ta : TA} {tgt : TG} {tb : TS} {is : List Nat}
theorem core_grown {G0 G' F Hc Hc' : Hp} (c : Core W F cs Hc) (sG : Same G0 F) (gr : Grown G0 Hc G' Hc') : ∃ F', Core W F' cs Hc' ∧ Same F F' ∧ Same G' F' := by
  obtain ⟨p, h1, h2, h3, h4⟩ := gr.ex
  have pH : ∀ {b x}, Hc b = some x → p b = true := fun e => h1 _ (by rw [e]; simp)
  have sF : Same F (fun b => if p b = true then F b else G' b) := fun b x e => by
    show (if p b = true then F b else G' b) = some x
    rw [if_pos (pH (c.fh b x e))]; exact e
  refine ⟨fun b => if p b = true then F b else G' b, ⟨c.f0.trans sF, fun b x e => ?_, fun b x e => ?_, fun b x e => ?_, c.nd, fun y hy => ?_⟩, sF, fun b x e => ?_⟩
  · by_cases hp : p b = true
    · have e' : F b = some x := by simpa [hp] using e
      rw [h2 b hp]; exact c.fh b x e'
    · have hp' : p b = false := by simpa using hp
      have e' : G' b = some x := by simpa [hp'] using e
      exact h3 b x hp' e'
  · have e1 := c.bh b x e
    rw [h2 b (pH e1)]; exact e1
  · have e1 := c.bh b x e
    show (if p b = true then F b else G' b) = none
    rw [if_pos (pH e1)]; exact c.bf b x e
  · obtain ⟨q1, q2, o, q3, q4⟩ := c.cell y hy
    refine ⟨?_, q2, o, ?_, y.2.mono sF q4⟩
    · show (if p y.1 = true then F y.1 else G' y.1) = none
      rw [if_pos (pH q3)]; exact q1
    · rw [h2 _ (pH q3)]; exact q3
  · show (if p b = true then F b else G' b) = some x
    by_cases hp : p b = true
    · rw [if_pos hp]; exact sG b x (h4 b x hp e)
    · rw [if_neg hp]; exact e
theorem forG_sound (h : EvA ta W G T cs fun sls cs1 => ∃ (β ρ : Type) (ys : List α) (b0 : β) (f : β → α → Option (Fl ρ β)) (out : Lo ρ β) (Gb : β → Gam) (cb : β → Cells),
      (∀ F vs, Args F sls vs → sp vs (tups F) ys) ∧ loopO f ys b0 = some out ∧ Wkn G (Gb b0) ∧ cs1 = cb b0 ∧
      (∀ T' b x fl, f b x = some fl → ∀ N Bk : L2.St → Hp → Prop, (∀ b', fl = .go b' → NxT N W (Gb b') T' (cb b')) → (∀ b', fl = .brk b' → NxT Bk W (Gb b') T' (cb b')) → (∀ z, fl = .ret z → out = .ret z) →
        Tg tgt is W (Gb b) T' (cb b) (r.at x) fun G' => NxT (tb ⟨N, rt, Bk, N⟩) W G' T' (cb b)) ∧
      (∀ b', out = .go b' → NxT nx W (Gb b') T (cb b'))) : NxT (tForG sp r ta tgt tb ⟨nx, rt, bk, ct⟩) W G T cs := fun s H st => by
  refine h s H st _ fun sls cs1 ⟨β, ρ, ys, b0, f, out, Gb, cb, hsp, hlo, hw, e2, hbody, after⟩ vs H1 ⟨F, c, sg, t, ar⟩ => ?_
  subst e2
  refine ⟨ys, tups F, hsp F vs ar, tups_whole, tups_sub.trans c.fh, fun k G0 σ H => ∃ b F, loopO f (ys.drop k) b = some out ∧ Core W F (cb b) H ∧ Slots F (Gb b) σ ∧ Temps F T ∧ Same G0 F, ⟨b0, F, hlo, c, sg.weak hw, t, tups_sub⟩, ?_, ?_⟩
  · rintro G0 σ H G' H' ⟨b, F, hl, c, sg, t, sG⟩ gr
    obtain ⟨F', c', sF, _⟩ := core_grown c sG gr
    rw [List.drop_length] at hl
    exact after b (Option.some.inj hl).symm σ H' ⟨F', c', sg.mono sF, t.mono sF⟩
  · rintro k y G0 σ H G' H' x hy ⟨b, F, hl, c, sg, t, sG⟩ gr px
    obtain ⟨F', c', sF, sG'⟩ := core_grown c sG gr
    have hk := (List.getElem?_eq_some_iff.mp hy)
    have hd : ys.drop k = y :: ys.drop (k + 1) := by
      obtain ⟨hk1, hk2⟩ := hk
      rw [← hk2]; exact List.drop_eq_getElem_cons hk1
    rw [hd] at hl
    unfold loopO at hl
    cases ef : f b y with
    | none => rw [ef] at hl; cases hl
    | some fl =>
      rw [ef] at hl
      have hN : ∀ b', fl = .go b' → NxT (fun σ3 H3 => Same G' H3 ∧ ∃ b F, loopO f (ys.drop (k + 1)) b = some out ∧ Core W F (cb b) H3 ∧ Slots F (Gb b) σ3 ∧ Temps F T ∧ Same G' F) W (Gb b') ((.non, sSame G') :: T) (cb b') := by
        intro b' e s3 H3 st3
        obtain ⟨F3, c3, sg3, t3⟩ := st3
        subst e
        have z : Same G' F3 := t3.head
        exact ⟨z.trans c3.fh, b', F3, hl, c3, sg3, t3.tail, z⟩
      have hB : ∀ b', fl = .brk b' → NxT nx W (Gb b') ((.non, sSame G') :: T) (cb b') := by
        intro b' e s3 H3 st3
        obtain ⟨F3, c3, sg3, t3⟩ := st3
        subst e
        exact after b' (Option.some.inj hl).symm s3 H3 ⟨F3, c3, sg3, t3.tail⟩
      have hR : ∀ z, fl = .ret z → out = .ret z := by
        intro z e
        subst e
        exact (Option.some.inj hl).symm
      exact hbody ((.non, sSame G') :: T) b y fl ef _ nx hN hB hR x σ H' ⟨F', c', sg.mono sF, (Temps.cons (sl := sSame G') sG' (t.mono sF)).cons (r.mono sG' px)⟩ _ fun G'' k s' st' _ => k s' H' st'
end
end ML

namespace ML
open PySem PySem.Spec PyProof.Rows L2
theorem PlainScope.nd {N ps : List Str} {sc : Scope} (S : PlainScope N ps sc) : N.Nodup := S.g.nd
theorem allTup_nil : AllTup [] := fun _ h => by simp at h
theorem allTup_cons {sl : Sl} {l : List Sl} (h : TupS sl) (t : AllTup l) : AllTup (sl :: l) := fun s hs => by
  rcases List.mem_cons.mp hs with e | hs
  · rw [e]; exact h
  · exact t s hs
def LeanF (l : List (Str × Sl)) : Prop := ∀ x ∈ l, LeanS x.2
theorem leanF_nil : LeanF [] := fun _ h => by simp at h
theorem leanF_cons {n : Str} {sl : Sl} {l : List (Str × Sl)} (h : LeanS sl) (t : LeanF l) : LeanF ((n, sl) :: l) := fun x hx => by
  rcases List.mem_cons.mp hx with e | hx
  · rw [e]; exact h
  · exact t x hx
theorem fld_lean {M : Hp} : ∀ {l : List (Str × Sl)} {fs : List (Str × V)}, LeanF l → Fld M l fs → Fld (lean M) l fs
  | _, _, _, .nil => .nil
  | _, _, h, .cons q t => .cons ⟨q.1, h _ List.mem_cons_self _ _ q.2⟩ (fld_lean (fun x hx => h x (List.mem_cons_of_mem _ hx)) t)
theorem LeanR.own {α : Type} {C : Addr} {fl : α → List (Str × Sl)} (h : ∀ t, LeanF (fl t)) : LeanR (rRec C fl) := fun t M v ⟨p, dx, fs, h1, h2, h3⟩ => ⟨p, dx, fs, h1, lean_ins h2, fld_lean (h t) h3⟩
end ML

namespace ML
open PySem PySem.Spec PyProof.Rows L2
section
variable {W : Wd} {G : Gam} {T : Tms} {cs : Cells} {K : Sl → Cells → Prop} {ta tb : TE}
end
end ML

namespace ML
open PySem PySem.Spec PyProof.Rows L2 GenW

theorem run_asleep {α : Type} {M : Model} {A : Around} {s : Shared} {t : Sem α} {Q : α → Shared → Prop} {Q' : α → Shared → Prop} {E : Value → Shared → Prop} {gn : Nat} {st : GenState} (b : AllBare s.gens) (e : s.gens[gn]? = some st) (hs : st.status = .suspended)
    (h : wpAny M A t Q (fun _ _ => False) (hushed s)) (hb : ∀ a z, Q a z → AllBare z.gens) (hQ : ∀ a z g', AllBare g' → g'[gn]? = some st → Q a z → Q' a { z with gens := g' }) : wpAny M A t Q' E s :=
  wpAny_mono (any_asleep h) (fun a s' ⟨z, hz, hu, q⟩ => by
    subst hz
    exact hQ a z _ (allBare_rouse b (hb a z q)) (rouse_asleep hu e hs) q) fun e s' ⟨_, _, _, q⟩ => q.elim
def tLcG {α : Type} (sp : List V → Hp → List α → Prop) (r : R α) (ta : TA) (tg : TG) (tt : TT) (te : TE) (vs : List Nat) : TE := fun σ H Q => ta σ H fun us H1 => ∃ (ys : List α) (G0 : Hp), sp us G0 ys ∧ Whole G0 ∧ Same G0 H1 ∧ ∀ D, H1 D = none → ∃ Wt : Nat → Hp → Hp → Prop, Wt 0 G0 (upd H1 D (.lst [])) ∧
  (∀ G H G' H', Wt ys.length G H → Grown G H G' H' → Q (.ref D) H') ∧
  ∀ k y G H G' H' x, ys[k]? = some y → Wt k G H → Grown G H G' H' → r.p y G' x → tg x (wipe σ vs) H' fun σ2 H2 => wipe σ2 vs = wipe σ vs ∧ tt σ2 H2 fun b H3 =>
    if b = true then te σ2 H3 fun yv H4 => ∃ acc, H4 D = some (.lst acc) ∧ acc.length < sizeLine ∧ Same G' (upd H4 D (.lst (acc ++ [yv]))) ∧ Wt (k + 1) G' (upd H4 D (.lst (acc ++ [yv]))) else Same G' H3 ∧ Wt (k + 1) G' H3
section
variable {X : Cx} {α : Type} {r : R α} {sp : List V → Hp → List α → Prop} {k : Nat} {f : Addr} {fd : FuncData} {ps : List Str} {x : Str} {p pos pos' : Pos} {e : Expr} {es : List Expr} {ta : TA} {tg : Expr} {tgt : TG}
theorem pe_lcG {elt : Expr} {ifs : List Expr} {scope : Scope} {own : List (Str × Nat)} {tt : TT} {te : TE} (F : GenFn X.prog X.w X.K X.mg X.base k f fd ps r sp) (hr : RoomG (k + 2) X.A) (hc : X.calm = true) (hN : X.N.Nodup) (hg : Gl X x) (hm : X.mg x = some (.ref f)) (hk : PySem.W.keepIn X.K (.ref f) = true) (hb : Binds X.K fd ps [])
    (ha : PA X (e :: es) ta) (ok : BlkOk X.N X.env.scope scope own)
    (ht0 : ∀ (s : Shared) (H : Hp) (C : Addr) (cl : List (Str × Addr)) (fp : List Addr), PG (X.blk s H scope (compEnvC scope cl C X.env) fp) tg tgt) (ht1 : ∀ (s : Shared) (H : Hp) (C : Addr) (cl : List (Str × Addr)) (fp : List Addr), PTs (X.blk s H scope (compEnvC scope cl C X.env) fp) ifs tt)
    (he : ∀ (s : Shared) (H : Hp) (C : Addr) (cl : List (Str × Addr)) (fp : List Addr), PE (X.blk s H scope (compEnvC scope cl C X.env) fp) elt te)
    (h1 : (x == ("__debug__" : Str)) = false := by decide) (h2 : starEach (e :: es) X.env = (false, eval e X.env) :: starEach es X.env := by rfl) (h3 : (backTo pos' (starEach es X.env)).any (·.1) = false := by rfl)
    (hs : ∀ v, foldedSetIterable (.Call (.Name x p) (e :: es) [] pos') X.env v = pure v := by intro _; rfl) :
    PE X (.ListComp elt [⟨tg, .Call (.Name x p) (e :: es) [] pos', ifs, 0⟩] scope pos) (tLcG sp r ta tgt tt te (own.map (·.2))) := by
  refine ⟨fun pins s σ H Q I h => ?_⟩
  rw [eval_ListComp]
  obtain ⟨N, qual, scG, cd, bG, Sc, mk, gbody⟩ := F.go
  have hfree : ∀ y ∈ scope.names, y.2 = .free → ∃ c, X.env.cells.lookup y.1 = some c := fun y hy e => (ok.free y hy e).elim (fun z => I.ok.has _ (.inl z)) fun z => I.ok.has _ (.inr z)
  refine wpAny_comprehension_free (use := none) rfl hs (closure_ok hfree) ok.kind (fun y hy e => by rw [ok.uniq y hy, e]) ?_
  refine wpAny_Call_Name_kw (ld_glob I hg hm (PySem.W.callWith_K (h₀ := X.base) I.ok.mod.kin hk (thn (ha.run pos' pins s σ H _ I h) fun us s1 h4 => ?_) h2 h3) h1)
  obtain ⟨vs, H1, I1, rv, ys, G0, hsp, wG, sG, hW⟩ := h4
  have hl := F.len vs G0 ys hsp
  have hbt : BindsTo s1 fd ⟨us, []⟩ (ps.zip us) := by
    have := hb s1 us I1.kIn (by rw [List.append_nil, ← rv.length]; exact hl)
    rwa [List.append_nil] at this
  refine ⟨I1.kIn, wpAny_call (codeAny_mono (mk X.A X.stack s1 H1 ⟨us, []⟩ us vs (hr.mono (by omega)) I1.env0 hbt rv hl) fun res s2 hq => ?_)⟩
  match res, hq with
  | .error e, hq => exact hq.elim
  | .ok .next, hq => exact False.elim hq
  | .ok .brk, hq => exact False.elim hq
  | .ok .cont, hq => exact False.elim hq
  | .ok (.ret u), hq =>
    obtain ⟨L, a, go, oL, gn, rfl, Mk⟩ := hq
    refine wpAny_pyIter_gen (Mk.isg _ Mk.at') ?_
    have I2 : Inv X pins σ H1 s2 := I1.call' (ch := []) Mk.os (Un.kept Mk.keep) (I1.hok.kept Mk.keep) Mk.bare fun b z => by simp at z
    have young : ∀ b, s1.heap.objs.size ≤ b → H1 b = none ∧ b ≠ X.env.locals ∧ b ∉ X.fs ∧ (∀ y c, X.env.cells.lookup y = some c → c ≠ b) ∧ ∀ q ∈ X.pn ++ pins, q.1 ≠ b := fun b hb => ⟨I1.hok.fresh hb, Nat.ne_of_gt (Nat.lt_of_lt_of_le I1.lt hb), I1.nofs hb, fun y c e z => by
      obtain ⟨v, oc, ho, _⟩ := I1.cell y c e
      have := Heap.lt_size ho
      rw [z] at this
      exact absurd (Nat.lt_of_lt_of_le this hb) (Nat.lt_irrefl _), fun q hq z => by
      have := Heap.lt_size (I1.pin q hq).1
      rw [z] at this
      exact absurd (Nat.lt_of_lt_of_le this hb) (Nat.lt_irrefl _)⟩
    obtain ⟨gfs, gcls, gdat⟩ := Mk.flds
    have hago : s1.heap.objs.size ≤ a := Nat.le_of_lt (Nat.lt_of_le_of_lt Mk.low Mk.lt)
    have lL := Heap.lt_size Mk.fr
    have la := Heap.lt_size Mk.at'
    refine wpAny_newObj_type (newEnv_comp ?_) (by show 0 ≤ sizeLine; decide)
    generalize hD : s2.heap.objs.size = D at lL la
    have hDn : H1 D = none := I2.hok.fresh (Nat.le_of_eq hD)
    obtain ⟨Wt, w0, fin, turn⟩ := hW D hDn
    generalize hs3 : ({ s2 with heap := s2.heap.push { cls := .type "list", data := .seq ([] : List Value).toArray } } : Shared) = s3
    have I3 : Inv X pins σ (upd H1 D (.lst [])) s3 := by
      rw [← hs3]
      refine I2.laid (t' := s2.toks) (fun b o e => Heap.get?_push_of_some _ e) (Nat.le_of_eq hD) ⟨Nat.zero_le _, [], 0, .nil, ?_⟩
      rw [← hD]
      exact Heap.get?_push_size _ rfl
    have h3 : s3.heap = s2.heap.push { cls := .type "list", data := .seq ([] : List Value).toArray } := by rw [← hs3]
    have g3 : s3.gens = s2.gens := by rw [← hs3]
    have k3 : ∀ b o, s2.heap.get? b = some o → s3.heap.get? b = some o := fun b o e => by rw [h3]; exact Heap.get?_push_of_some _ e
    have sz3 : D < s3.heap.objs.size := by rw [h3, Heap.size_push, hD]; exact Nat.lt_succ_self _
    -- the generator's own places, and what lies empty behind its frame
    generalize hfp : (L :: (List.range s3.heap.objs.size).filter fun b => decide (L < b) && (s3.heap.get? b).isNone) = fp
    have inL : L ∈ fp := by rw [← hfp]; exact List.mem_cons_self
    have f3 : ∀ b ∈ fp, FpOk X pins (upd H1 D (.lst [])) b ∧ b < s3.heap.objs.size := fun b hb => by
      rw [← hfp] at hb
      rcases List.mem_cons.mp hb with e | hb
      · subst e
        obtain ⟨y1, y2, y3, y4, y5⟩ := young b Mk.low
        exact ⟨⟨by rw [upd_ne (Nat.ne_of_lt lL)]; exact y1, y2, y3, .inr (Nat.le_trans I1.sz Mk.low), y4, y5⟩, Nat.lt_trans lL sz3⟩
      · obtain ⟨q1, q2⟩ := List.mem_filter.mp hb
        rw [Bool.and_eq_true, decide_eq_true_eq] at q2
        obtain ⟨q2, q3⟩ := q2
        have en : s3.heap.get? b = none := by simpa using q3
        obtain ⟨_, y2, y3, y4, y5⟩ := young b (Nat.le_trans Mk.low (Nat.le_of_lt q2))
        refine ⟨⟨?_, y2, y3, .inr (Nat.le_trans (Nat.le_trans I1.sz Mk.low) (Nat.le_of_lt q2)), y4, y5⟩, List.mem_range.mp q1⟩
        cases q : upd H1 D (.lst []) b with
        | none => rfl
        | some z => obtain ⟨o, eo⟩ := HOk.there I3.hok q; rw [en] at eo; cases eo
    have I4 := block_start I3 ok hN f3
    have pg := ht0 s3 (upd H1 D (.lst [])) s3.heap.objs.size (cellsFrom (s3.heap.objs.size + 1) scope.names (cloFrom X.env.cells scope.names [])) fp
    have pt := ht1 s3 (upd H1 D (.lst [])) s3.heap.objs.size (cellsFrom (s3.heap.objs.size + 1) scope.names (cloFrom X.env.cells scope.names [])) fp
    have pe := he s3 (upd H1 D (.lst [])) s3.heap.objs.size (cellsFrom (s3.heap.objs.size + 1) scope.names (cloFrom X.env.cells scope.names [])) fp
    show codeAny _ _ (.compStart (.ListComp elt [⟨tg, .Call (.Name x p) (e :: es) [] pos', ifs, 0⟩] scope pos) 0 (.ref a) (.ref D) (compEnvC scope (cellsFrom (s3.heap.objs.size + 1) scope.names (cloFrom X.env.cells scope.names [])) s3.heap.objs.size X.env)) (compPost (model X.prog X.w) X.A X.xe none (EP X pins σ Q) (.ref D) s3.heap.objs.size) { s3 with heap := pushCells (s3.heap.push { cls := .type "dict", data := .dict #[] }) scope.names }
    generalize hce : compEnvC scope (cellsFrom (s3.heap.objs.size + 1) scope.names (cloFrom X.env.cells scope.names [])) s3.heap.objs.size X.env = ce at I4 pg pt pe ⊢
    have cL : ce.locals = s3.heap.objs.size := by subst hce; rfl
    have hG0D : G0 D = none := none_sub sG hDn
    have sG3 : Same G0 (upd H1 D (.lst [])) := fun b z ez => by
      rw [upd_ne (fun q => by rw [q, hG0D] at ez; cases ez)]
      exact sG b z ez
    have n3 : ∀ b, s1.heap.objs.size ≤ b → b < D → upd H1 D (.lst []) b = none := fun b hb hlt => by rw [upd_ne (Nat.ne_of_lt hlt)]; exact (young b hb).1
    generalize hH3 : upd H1 D (.lst []) = H3 at I3 I4 pg pt pe w0 f3 sG3 n3
    generalize hs4 : ({ s3 with heap := pushCells (s3.heap.push { cls := .type "dict", data := .dict #[] }) scope.names } : Shared) = s4 at I4 ⊢
    have g4 : s4.gens = s2.gens := by rw [← hs4]; exact g3
    have k4 : ∀ b o, s2.heap.get? b = some o → s4.heap.get? b = some o := fun b o e => by rw [← hs4]; exact pushCells_keeps _ _ _ _ (Heap.get?_push_of_some _ (k3 b o e))
    generalize hXb : X.blk s3 H3 scope ce fp = Xb at I4 pg pt pe
    have xb0 : Xb.s_0 = s3 := by rw [← hXb]
    have xbl : Xb.env.locals = s3.heap.objs.size := by rw [← hXb]; exact cL
    have xbf : Xb.fs = frs X.stack := by rw [← hXb]
    have xbx : Xb.ex = fp := by rw [← hXb]
    have xbp : Xb.pn = [] := by rw [← hXb]
    have xbA : Xb.A = X.A := by rw [← hXb]
    have xbs : Xb.stack = X.stack := by rw [← hXb]
    have xbb : Xb.base = X.base := by rw [← hXb]
    have xbP : Xb.prog = X.prog ∧ Xb.w = X.w ∧ Xb.K = X.K ∧ Xb.mg = X.mg := by rw [← hXb]; exact ⟨rfl, rfl, rfl, rfl⟩
    have low : ∀ b ∈ frs X.stack, b < L := fun b hb => by
      obtain ⟨_, o, ho, _⟩ := I1.stack.mem hb
      exact Nat.lt_of_lt_of_le (Heap.lt_size ho) Mk.low
    have Z : Pact Xb N ps scG X.A.in1 L := by
      refine ⟨Sc, I1.ok.hd hc, by rw [xbs]; exact I1.ok.frames, .inl (by rw [xbx]; exact inL), by rw [xbb]; exact Nat.le_trans I1.ok.bsz (Nat.le_trans I1.sz Mk.low), fun b hb en => ?_, fun b hb => low b (by rw [xbs] at hb; exact hb)⟩
      rw [xb0] at en ⊢
      rw [xbx]
      rcases Nat.lt_or_ge b s3.heap.objs.size with q | q
      · refine .inl ?_
        rw [← hfp]
        exact List.mem_cons_of_mem _ (List.mem_filter.mpr ⟨List.mem_range.mpr q, by rw [Bool.and_eq_true, decide_eq_true_eq, en]; exact ⟨hb, rfl⟩⟩)
      · exact .inr q
    have nstk : ∀ b, s1.heap.objs.size ≤ b → b ∉ Xb.fs := fun b hb hm => by
      rw [xbf] at hm
      rcases List.mem_cons.mp (I1.stkSub b hm) with z | z
      · exact (young b hb).2.1 z
      · exact (young b hb).2.2.1 z
    have S4 : Sleep Xb [(a, go)] L G0 oL [] (wipe σ (own.map (·.2))) H3 s4 := by
      refine ⟨I4.pins_of fun q hq => ?_, wG, sG3, fun q hq => (by simp at hq), fun q hq => (by simp at hq), fun q hq q' hq' => ?_⟩
      · rcases List.mem_append.mp hq with hq | hq
        · rw [List.mem_singleton.mp hq]
          exact ⟨k4 _ _ Mk.at', n3 a hago la, by rw [xbl]; exact Nat.ne_of_lt (Nat.lt_trans la sz3), nstk a hago, fun v z => by rw [gdat] at z; cases z⟩
        · rw [List.mem_singleton.mp hq]
          obtain ⟨es1, ep1, m1, hd1, _⟩ := Mk.loc
          exact ⟨k4 _ _ Mk.fr, n3 L Mk.low lL, by rw [xbl]; exact Nat.ne_of_lt (Nat.lt_trans lL sz3), nstk L Mk.low, fun v z => by rw [hd1] at z; cases z⟩
      · rw [List.mem_singleton.mp hq]
        rw [xbp, List.nil_append, List.mem_singleton] at hq'
        rw [hq']
        exact Nat.ne_of_gt Mk.lt
    have hra : RoomG (k + 1) X.A.in1 := hr.in1
    obtain ⟨Gm, slG, hgg⟩ := gbody Xb [(a, go)] L X.A.in1 (fun kk G σ' H' => σ' = wipe σ (own.map (·.2)) ∧ Wt kk G H') vs G0 ys xbP.1 xbP.2.1 xbP.2.2.1 xbP.2.2.2 xbb hsp hra Z
    have Mg : s4.gens[gn]? = some (.fresh (.func bG (envOfC qual scG L f cd))) := by rw [g4]; exact Mk.gen
    have gol : gn < s4.gens.size := (Array.getElem?_eq_some_iff.mp Mg).1
    have loop : codeAny (model X.prog X.w) X.A (.compLoop (.ListComp elt [⟨tg, .Call (.Name x p) (e :: es) [] pos', ifs, 0⟩] scope pos) 0 (.ref a) (.ref D) ce) (compPost (model X.prog X.w) X.A X.xe none (EP X pins σ Q) (.ref D) s3.heap.objs.size) s4 := by
      refine compLoop_any (fun n s' => ∃ kk gs G oL ip H', n + kk = ys.length + 1 ∧ Sleep Xb [(a, go)] L G oL ip (wipe σ (own.map (·.2))) H' s' ∧ Wt kk G H' ∧ s'.gens[gn]? = some gs ∧
        gs.Goes (model X.prog X.w) X.A.in1 (GK.R ⟨Xb, [(a, go)], L, N, ps, scG, qual, f, cd, X.A.in1, ys, r, fun kk G σ' H' => σ' = wipe σ (own.map (·.2)) ∧ Wt kk G H'⟩) (GK.Y ⟨Xb, [(a, go)], L, N, ps, scG, qual, f, cd, X.A.in1, ys, r, fun kk G σ' H' => σ' = wipe σ (own.map (·.2)) ∧ Wt kk G H'⟩) n (.send .none) (s'.setGen gn .running)) ?_ (ys.length + 1)
        ⟨0, _, G0, oL, [], H3, rfl, S4, w0, Mg, rfl, seg_func ?_⟩
      · rintro n s5 ⟨kk, gs, G3, oL3, ip3, H5, hnk, S5, w5, hgs, hgo⟩
        have hgl := (Array.getElem?_eq_some_iff.mp hgs).1
        have ha5 : s5.heap.get? a = some go := (S5.inv.pin (a, go) (List.mem_append_right _ (List.mem_append_left _ List.mem_cons_self))).1
        refine wpAny_gsz (n := gn + 1) hgl (nexts (I1.ok.hd hc) S5.inv.nolimit hr.rm.depth (Mk.isg _ ha5) hgs hgo (fun v z st' hbare hsusp hY hsz => ?_) fun z hF h' hk' _ => ?_)
        · obtain ⟨k', G, oL4, ip4, σc, Hc, y, vv, G', oL', ip', Hc', hk', S0, ⟨eσ, wt0⟩, hy', rvv, ry, S', gr, kap⟩ := hY
          subst eσ
          have b6 : AllBare (z.setGen gn st').gens := allBare_setGen S'.inv.bare hbare
          have S6 : Sleep Xb [(a, go)] L G' oL' ip' (wipe σ (own.map (·.2))) Hc' (z.setGen gn st') := S'.gens b6
          have hz : gn < z.gens.size := by
            have q : (z.setGen gn st').gens.size = z.gens.size := setGen_size _ _ _
            omega
          have at6 : (z.setGen gn st').gens[gn]? = some st' := setGen_at hz
          have ha6 : (z.setGen gn st').heap.get? a = some go := (S6.inv.pin (a, go) (List.mem_append_right _ (List.mem_append_left _ List.mem_cons_self))).1
          refine go_of ha6 gcls gdat (by decide) ?_
          have r7 := pg.run _ (hushed (z.setGen gn st')) _ Hc' vv v _ (inv_gens S6.inv (allBare_hushed b6)) rvv (turn k' y G Hc G' Hc' vv hy' wt0 gr ry)
          rw [← hXb] at r7
          refine run_asleep b6 at6 hsusp r7 (fun _ z ⟨_, _, I, _⟩ => I.bare) fun _ z7 g7 b7 at7 ⟨σ7, H7, I7, hw7, q7⟩ => ?_
          have I7' := inv_gens I7 b7
          have r8 := pt.run _ (hushed { z7 with gens := g7 }) σ7 H7 _ (by rw [← hXb]; exact inv_gens I7' (allBare_hushed b7)) q7
          rw [← hXb] at r8
          refine run_asleep b7 at7 hsusp r8 (fun _ z ⟨_, I, _⟩ => I.bare) fun bb z8 g8 b8 at8 ⟨H8, I8, q8⟩ => ?_
          have I8' := inv_gens I8 b8
          have fin8 : ∀ {s' : Shared} {H' : Hp}, AllBare s'.gens → s'.gens[gn]? = some st' → Inv (X.blk s3 H3 scope ce fp) ([(a, go)] ++ (L, oL') :: ip') σ7 H' s' → Same G' H' → Wt (k' + 1) G' H' → ∃ m, m < n ∧ ∃ kk gs G oL ip H', m + kk = ys.length + 1 ∧ Sleep Xb [(a, go)] L G oL ip (wipe σ (own.map (·.2))) H' s' ∧ Wt kk G H' ∧ s'.gens[gn]? = some gs ∧
              gs.Goes (model X.prog X.w) X.A.in1 (GK.R ⟨Xb, [(a, go)], L, N, ps, scG, qual, f, cd, X.A.in1, ys, r, fun kk G σ' H' => σ' = wipe σ (own.map (·.2)) ∧ Wt kk G H'⟩) (GK.Y ⟨Xb, [(a, go)], L, N, ps, scG, qual, f, cd, X.A.in1, ys, r, fun kk G σ' H' => σ' = wipe σ (own.map (·.2)) ∧ Wt kk G H'⟩) m (.send .none) (s'.setGen gn .running) := fun {s' H'} bs ats I' w1 w2 => by
            have hlen : (wipe σ (own.map (·.2))).length = σ7.length := by rw [← hw7, wipe_length]
            have Iw : Inv Xb ([(a, go)] ++ (L, oL') :: ip') (wipe σ (own.map (·.2))) H' s' := by
              rw [← hXb]
              refine I'.weak hlen fun j v e => ?_
              rw [← hw7] at e
              exact (wipe_some e).1
            have S7 : Sleep Xb [(a, go)] L G' oL' ip' (wipe σ (own.map (·.2))) H' s' := ⟨Iw, S'.whole, w1, S'.up, S'.late, S'.apart⟩
            have q := kap (s'.setGen gn .running) _ H' (S7.gens (allBare_setGen S7.inv.bare rfl)) ⟨rfl, w2⟩
            cases n with
            | zero => exact q.elim
            | succ m => exact ⟨m, Nat.lt_succ_self _, k' + 1, st', G', oL', ip', H', by have : m + k' = ys.length := hk'; omega, S7, w2, ats, q⟩
          cases bb with
          | false =>
            simp only [Bool.false_eq_true, if_false] at q8 ⊢
            exact fin8 b8 at8 I8' q8.1 q8.2
          | true =>
            simp only [if_true] at q8 ⊢
            have r9 := pe.run _ (hushed { z8 with gens := g8 }) σ7 H8 _ (by rw [← hXb]; exact inv_gens I8' (allBare_hushed b8)) q8
            rw [← hXb] at r9
            refine run_asleep b8 at8 hsusp r9 (fun _ z ⟨_, _, I, _⟩ => I.bare) fun vz z9 g9 b9 at9 ⟨yv, H9, I9, ry9, acc, hD9, hz9, w1, w2⟩ => ?_
            have I9' := inv_gens I9 b9
            refine run_asleep (Q := fun _ s' => Inv (X.blk s3 H3 scope ce fp) ([(a, go)] ++ (L, oL') :: ip') σ7 (upd H9 D (.lst (acc ++ [yv]))) s') b9 at9 hsusp (app_ok (X := X.blk s3 H3 scope ce fp) (inv_gens I9' (allBare_hushed b9)) hD9 hz9 ry9 fun s11 I11 => I11) (fun _ z I => I.bare) fun _ z10 g10 b10 at10 I10 => ?_
            exact fin8 b10 at10 (inv_gens I10 b10) w1 w2
        · obtain ⟨G, oL4, ip4, σc, Hc, G', Hc', S0, ⟨eσ, wt0⟩, I6, gr⟩ := hF
          have I7 : Inv Xb [(a, go)] σc Hc' { z.setGen gn .finished with heap := h' } := (inv_gens I6 (allBare_setGen I6.bare rfl)).kept (t' := z.toks) hk'
          rw [← hXb] at I7
          have I8 : Inv X pins σ Hc' { z.setGen gn .finished with heap := h' } := I3.call' (ch := fp) I7.os I7.base I7.hok I7.bare fun b hb => ⟨(f3 b hb).1.2.2.2.1, (f3 b hb).1.2.1, (f3 b hb).1.2.2.2.2.1, (f3 b hb).1.2.2.2.2.2⟩
          have nC : Hc' s3.heap.objs.size = none := by
            have q : Hc' ce.locals = none := I7.free
            rw [cL] at q
            exact q
          obtain ⟨m, hn, _⟩ := I7.loc
          have hn : ({ z.setGen gn .finished with heap := h' } : Shared).heap.Ns ce.locals m := hn
          rw [cL] at hn
          obtain ⟨f0, f1, f2, f4, f5, f6⟩ := I3.fpOk (Nat.le_refl _) nC
          refine ⟨m, hn, fun h'' sb => ?_⟩
          exact ⟨.ref D, Hc', I8.turned (t' := z.toks) (fun b o hb e => (sb.2 b hb).trans e) f0 f1 f4 f5 f6, rfl, fin G Hc G' Hc' wt0 gr⟩
      · have S4' := S4.gens (allBare_setGen (g := gn) (x := .running) S4.inv.bare rfl)
        have := hgg (ys.length + 1) (s4.setGen gn .running) (s4.setGen gn .running) G0 oL [] (wipe σ (own.map (·.2))) H3 _ _ rfl ⟨S4', ⟨rfl, w0⟩, S4'.wake Z Mk.loc Mk.len, ⟨G0, ⟨Same.refl _, both_l, both_r, fun b x e => (froz_of e).1, by simp, fun x hx => (by simp at hx)⟩, slG, Temps.nil⟩, fun q hq => (by simp at hq), fun b hb => (by simp at hb), fun q hq => (by simp at hq)⟩
        have e1 : (GK.M (α := α) ⟨Xb, [(a, go)], L, N, ps, scG, qual, f, cd, X.A.in1, ys, r, fun kk G σ' H' => σ' = wipe σ (own.map (·.2)) ∧ Wt kk G H'⟩) = model X.prog X.w := by
          show model Xb.prog Xb.w = _
          rw [xbP.1, xbP.2.1]
        rw [e1] at this
        exact this
    have ia4 : s4.heap.IsGen a gn := Mk.isg _ (k4 _ _ Mk.at')
    exact codeAny_compStart_list loop (wpAny_pyIter_gen ia4 loop)
end
end ML

namespace ML
open PySem PySem.Spec PyProof.Rows L2

def oLim {α : Type} (xs : List α) : Option (List α) := if xs.length ≤ sizeLine then some xs else none
theorem oLim_ok {α : Type} {xs ys : List α} (h : oLim xs = some ys) : xs.length ≤ sizeLine ∧ ys = xs := by
  obtain ⟨a, b⟩ := of_ite h
  exact ⟨a, b⟩
section
variable {W : Wd} {G : Gam} {T : Tms} {cs : Cells} {K : Sl → Cells → Prop} {α : Type} {r : R α} {sp : List V → Hp → List α → Prop} {ta : TA} {g : TG} {tt : TT} {te : TE} {vs is : List Nat}
theorem lcG_cell (hvs : ∀ i ∈ is, i ∈ vs) (h : EvA ta W G T cs fun sls cs1 => ∃ (β γ : Type) (xs xz : List α) (b0 : β) (f : β → α → Option (Option γ × β)) (ys : List γ) (b1 : β) (rr : R γ) (cb : β → Cells),
      (∀ F us, Args F sls us → sp us (tups F) xs) ∧ oLim xs = some xz ∧ lcO f xz b0 = some (ys, b1) ∧ cs1 = cb b0 ∧
      (∀ W' T' b x o b', f b x = some (o, b') →
        Tg g is W' (wipeG G vs) T' (cb b) (r.at x) fun G' => Et tt W' G' T' (cb b) fun c cs3 => (c = true → Ev te W' G' T' cs3 fun sl cs4 => ∃ y, o = some y ∧ sl = rr.at y ∧ cs4 = cb b') ∧ (c = false → o = none ∧ cs3 = cb b')) ∧
      ∀ p, K (sRef p) (cb b1 ++ [(p, cLst rr ys)])) : Ev (tLcG sp r ta g tt te vs) W G T cs K := fun s H st Q q => by
  refine h s H st _ fun sls cs1 ⟨β, γ, xs, xz, b0, f, ys, b1, rr, cb, hsp, hlim, hl, e2, hbody, k⟩ us H1 ⟨F1, c1, sg1, t1, ar⟩ => ?_
  obtain ⟨hsz, ez⟩ := oLim_ok hlim
  subst e2 ez
  refine ⟨xz, tups F1, hsp F1 us ar, tups_whole, tups_sub.trans c1.fh, fun Dp hD => ?_⟩
  have bD : W.B Dp = none := c1.bh.free hD
  refine ⟨fun i G0 H => ∃ (b : β) (acc : List γ) (zs : List γ) (F : Hp), lcO f (xz.drop i) b = some (zs, b1) ∧ ys = acc ++ zs ∧ acc.length ≤ i ∧ Core W F (cb b ++ [(Dp, cLst rr acc)]) H ∧ Slots F G s ∧ Temps F T ∧ Same G0 F, ⟨b0, [], ys, F1, hl, rfl, Nat.le_refl _, c1.newCell hD ⟨Nat.zero_le _, [], rfl, .nil⟩, sg1, t1, tups_sub⟩, ?_, ?_⟩
  · rintro G0 H G' H' ⟨b, acc, zs, F, hlo, ey, hacc, c, sg, t, sG⟩ gr
    obtain ⟨F', c', sF, _⟩ := core_grown c sG gr
    rw [List.drop_length] at hlo
    have e := Option.some.inj hlo
    have e1 : zs = [] := (Prod.mk.inj e).1.symm
    have e2 : b = b1 := (Prod.mk.inj e).2
    subst e1 e2
    rw [List.append_nil] at ey
    subst ey
    exact q _ _ (k Dp) _ H' ⟨F', c', sg.mono sF, (t.mono sF).cons rfl⟩
  · rintro i y G0 H G' H' x hy ⟨b, acc, zs, F, hlo, ey, hacc, c, sg, t, sG⟩ gr px
    obtain ⟨F', c', sF, sG'⟩ := core_grown c sG gr
    obtain ⟨hi, hy'⟩ := List.getElem?_eq_some_iff.mp hy
    have hd : xz.drop i = y :: xz.drop (i + 1) := by rw [← hy']; exact List.drop_eq_getElem_cons hi
    rw [hd] at hlo
    obtain ⟨o, b', zs', hf, hl', ez⟩ := lcO_cons hlo
    obtain ⟨d1, d2, od, d3, d4⟩ := c'.cell (Dp, cLst rr acc) (List.mem_append_right _ (by simp))
    have nb : ∀ x ∈ cb b, x.1 ≠ Dp := fun x hx e => by
      have nd := c'.nd
      rw [List.map_append, List.nodup_append] at nd
      exact nd.2.2 x.1 (List.mem_map_of_mem hx) Dp (by simp) e
    have cW : Core ⟨F', upd W.B Dp od⟩ F' (cb b) H' := by
      have z : Core ⟨W.F, upd W.B Dp od⟩ F' (cb b) H' := by
        refine (c'.drop (List.sublist_append_left _ _)).B (upd W.B Dp od) (fun a o e => ?_) (fun a o e => ?_) fun x hx => ?_
        · by_cases ha : a = Dp
          · subst ha; rw [upd_same] at e; cases e; exact d3
          · rw [upd_ne ha] at e; exact c'.bh a o e
        · by_cases ha : a = Dp
          · subst ha; exact d1
          · rw [upd_ne ha] at e; exact c'.bf a o e
        · rw [upd_ne (nb x hx)]; exact (c'.cell x (List.mem_append_left _ hx)).2.1
      exact ⟨Same.refl F', z.fh, z.bh, z.bf, z.nd, z.cell⟩
    have toW : ∀ {F2 : Hp} {cs2 : Cells} {H2 : Hp}, Core ⟨F', upd W.B Dp od⟩ F2 cs2 H2 → Core W F2 (cs2 ++ [(Dp, cLst rr acc)]) H2 := fun {F2 cs2 H2} c2 => by
      refine ⟨c'.f0.trans c2.f0, c2.fh, fun a o e => c2.bh a o ?_, fun a o e => c2.bf a o ?_, ?_, fun x hx => ?_⟩
      · show upd W.B Dp od a = some o
        rw [upd_ne (ne_of_none e bD)]; exact e
      · show upd W.B Dp od a = some o
        rw [upd_ne (ne_of_none e bD)]; exact e
      · rw [List.map_append, List.nodup_append]
        refine ⟨c2.nd, by simp, fun a ha b hb e => ?_⟩
        have eb : b = Dp := by simpa using hb
        obtain ⟨x, hx, ex⟩ := List.mem_map.mp ha
        have h0 : upd W.B Dp od x.1 = none := (c2.cell x hx).2.1
        rw [ex, e, eb, upd_same] at h0
        cases h0
      · rcases List.mem_append.mp hx with hx | hx
        · obtain ⟨a1, a2, a3⟩ := c2.cell x hx
          have a2' : upd W.B Dp od x.1 = none := a2
          by_cases hxd : x.1 = Dp
          · rw [hxd, upd_same] at a2'; cases a2'
          · rw [upd_ne hxd] at a2'; exact ⟨a1, a2', a3⟩
        · have e : x = (Dp, cLst rr acc) := by simpa using hx
          subst e
          exact ⟨c2.bf Dp od (show upd W.B Dp od Dp = some od from upd_same), bD, od, c2.bh Dp od (show upd W.B Dp od Dp = some od from upd_same), (cLst rr acc).mono c2.f0 d4⟩
    refine hbody ⟨F', upd W.B Dp od⟩ T b y o b' hf x (wipe s vs) H' ⟨F', cW, (sg.mono sF).wipe vs, (t.mono sF).cons (r.mono sG' px)⟩ _ fun G2 ht s2 st2 hw => ⟨by rw [hw vs hvs, wipe_wipe], ?_⟩
    refine ht s2 H' st2 _ fun cc cs3 ⟨k1, k2⟩ H3 st3 => ?_
    cases cc with
    | true =>
      rw [if_pos rfl]
      refine k1 rfl s2 H3 st3 _ fun sl cs4 ⟨y', eo, es, e4⟩ v4 H4 ⟨F4, c4, sg4, t4⟩ => ?_
      subst eo es e4
      have c5 := toW c4
      obtain ⟨_, _, o5, d5, ⟨hz5, ws, eo5, h5⟩⟩ := c5.cell (Dp, cLst rr acc) (List.mem_append_right _ (by simp))
      subst eo5
      have hlt : ws.length < sizeLine := by
        have := h5.length
        omega
      have hj : (cb b' ++ [(Dp, cLst rr acc)])[(cb b').length]? = some (Dp, cLst rr acc) := by simp
      have c6 := c5.write (c' := cLst rr (acc ++ [y'])) (o := .lst (ws ++ [v4])) hj ⟨by rw [List.length_append, List.length_singleton, h5.length]; exact hlt, _, rfl, h5.app (.cons t4.head .nil)⟩
      rw [show (cb b' ++ [(Dp, cLst rr acc)]).set (cb b').length (Dp, cLst rr (acc ++ [y'])) = cb b' ++ [(Dp, cLst rr (acc ++ [y']))] by simp [List.set_append]] at c6
      exact ⟨ws, d5, hlt, (sG'.trans c4.f0).trans c6.fh, b', acc ++ [y'], zs', F4, hl', by rw [ey, ez]; simp, by rw [List.length_append, List.length_singleton]; omega, c6, sg.mono (sF.trans c4.f0), t4.tail, sG'.trans c4.f0⟩
    | false =>
      rw [if_neg Bool.false_ne_true]
      obtain ⟨eo, e3⟩ := k2 rfl
      subst eo e3
      obtain ⟨F4, c4, sg4, t4⟩ := st3
      have c5 := toW c4
      exact ⟨(sG'.trans c4.f0).trans c5.fh, b', acc, zs', F4, hl', by rw [ey, ez], by omega, c5, sg.mono (sF.trans c4.f0), t4, sG'.trans c4.f0⟩
theorem lcG_sound (hvs : ∀ i ∈ is, i ∈ vs) (h : EvA ta W G T cs fun sls cs1 => ∃ (β γ : Type) (xs xz : List α) (b0 : β) (f : β → α → Option (Option γ × β)) (ys : List γ) (b1 : β) (rr : R γ) (cb : β → Cells),
      (∀ F us, Args F sls us → sp us (tups F) xs) ∧ oLim xs = some xz ∧ lcO f xz b0 = some (ys, b1) ∧ cs1 = cb b0 ∧
      (∀ W' T' b x o b', f b x = some (o, b') →
        Tg g is W' (wipeG G vs) T' (cb b) (r.at x) fun G' => Et tt W' G' T' (cb b) fun c cs3 => (c = true → Ev te W' G' T' cs3 fun sl cs4 => ∃ y, o = some y ∧ sl = rr.at y ∧ cs4 = cb b') ∧ (c = false → o = none ∧ cs3 = cb b')) ∧
      K ((rLst rr).at ys) (cb b1)) : Ev (tLcG sp r ta g tt te vs) W G T cs K := fun s H st Q q => by
  refine lcG_cell (K := fun sl cs' => ∃ (γ : Type) (rr : R γ) (ys : List γ) (c0 : Cells) (p : Addr), sl = sRef p ∧ cs' = c0 ++ [(p, cLst rr ys)] ∧ K ((rLst rr).at ys) c0) hvs ?_ s H st Q fun sl cs' ⟨γ, rr, ys, c0, p, e1, e2, k⟩ v H' ⟨F, c, sg, t⟩ => ?_
  · intro s H st R q
    exact h s H st R fun sls cs1 ⟨β, γ, xs, xz, b0, f, ys, b1, rr, cb, hsp, hlim, hl, e2, hbody, k⟩ us H1 st1 => q sls cs1 ⟨β, γ, xs, xz, b0, f, ys, b1, rr, cb, hsp, hlim, hl, e2, hbody, fun p => ⟨γ, rr, ys, cb b1, p, rfl, rfl, k⟩⟩ us H1 st1
  · subst e1 e2
    have hj : (c0 ++ [(p, cLst rr ys)])[c0.length]? = some (p, cLst rr ys) := by simp
    obtain ⟨o, F', h1, ⟨hz, ws, eo, h2⟩, h3, sF, c'⟩ := c.freeze hj
    subst eo
    have ee : (c0 ++ [(p, cLst rr ys)]).eraseIdx c0.length = c0 := by
      rw [List.eraseIdx_append_of_length_le (Nat.le_refl _)]; simp
    rw [ee] at c'
    have ev : v = .ref p := t.head
    exact q _ _ k v H' ⟨F', c', sg.mono sF, (t.tail.mono sF).cons ⟨hz, p, ws, ev, h3, h2⟩⟩
end
end ML

namespace ML
open PySem Spec PyProof.Rows L2
section
variable {W : Wd} {G : Gam} {T : Tms} {cs : Cells} {K : Sl → Cells → Prop} {te : TE} {KF : PySem.W.Frag}
variable {nx bk ct : L2.St → Hp → Prop} {rt : VK}
end
end ML

namespace ML
open PySem Spec PyProof.Rows L2
section
variable {nx bk ct : L2.St → Hp → Prop} {rt : VK}
variable {W : Wd} {G : Gam} {T : Tms} {cs : Cells} {K : Sl → Cells → Prop} {KF : PySem.W.Frag}
end
end ML

namespace ML
open PySem Spec PyProof.Rows L2
section
variable {nx bk ct : L2.St → Hp → Prop} {rt : VK}
variable {W : Wd} {G : Gam} {T : Tms} {cs : Cells} {K : Sl → Cells → Prop} {KF : PySem.W.Frag} {te ta tb : TE} {tt : TT}
end
end ML

namespace ML
open PySem Spec PyProof.Rows L2 StX
section
variable {P : Program} {w : World} {A : Around} {E : Value → Shared → Prop} {s : Shared}
end
section
variable {W : Wd} {G : Gam} {T : Tms} {cs : Cells} {K : Sl → Cells → Prop} {ta : TE} {KF : PySem.W.Frag}
end
end ML

namespace ML
open PySem Spec PyProof.Rows L2 StX
section
variable {X : Cx}
end
end ML

namespace ML
open PySem Spec PySem.Calls PyProof.Rows PyProof.V L2 StX
section
variable {W : Wd} {G : Gam} {T : Tms} {cs : Cells} {K : Sl → Cells → Prop} {KF : PySem.W.Frag}
end
end ML

namespace ML
open PySem PySem.Spec PyProof.Rows L2 GenW

section
variable {X : Cx} {α : Type} {r : R α} {sp : List V → Hp → List α → Prop} {k : Nat} {f : Addr} {fd : FuncData} {ps ks : List Str} {x : Str} {p pos pos' : Pos} {kws : List Keyword} {π : List Nat} {ta : TA} {tg : Expr} {tgt : TG}
theorem pe_lcGN {elt : Expr} {ifs : List Expr} {scope : Scope} {own : List (Str × Nat)} {tt : TT} {te : TE} (F : GenFn X.prog X.w X.K X.mg X.base k f fd ps r sp) (hr : RoomG (k + 2) X.A) (hc : X.calm = true) (hN : X.N.Nodup) (hg : Gl X x) (hm : X.mg x = some (.ref f)) (hk : PySem.W.keepIn X.K (.ref f) = true) (hb : NamesTo X.K fd ps ks π)
    (hkw : PK X kws ta) (ok : BlkOk X.N X.env.scope scope own)
    (ht0 : ∀ (s : Shared) (H : Hp) (C : Addr) (cl : List (Str × Addr)) (fp : List Addr), PG (X.blk s H scope (compEnvC scope cl C X.env) fp) tg tgt) (ht1 : ∀ (s : Shared) (H : Hp) (C : Addr) (cl : List (Str × Addr)) (fp : List Addr), PTs (X.blk s H scope (compEnvC scope cl C X.env) fp) ifs tt)
    (he : ∀ (s : Shared) (H : Hp) (C : Addr) (cl : List (Str × Addr)) (fp : List Addr), PE (X.blk s H scope (compEnvC scope cl C X.env) fp) elt te)
    (h1 : (x == ("__debug__" : Str)) = false := by decide) (hall : (backToKw pos' (keywordEach kws X.env)).all (·.1.isSome) = true := by rfl) (hks : (backToKw pos' (keywordEach kws X.env)).filterMap (·.1) = ks := by rfl)
    (hpl : ((backTo pos' (starEach [] X.env)).any (·.1) || (backToKw pos' (keywordEach kws X.env)).any (·.1.isNone)) = false := by rfl)
    (hs : ∀ v, foldedSetIterable (.Call (.Name x p) [] kws pos') X.env v = pure v := by intro _; rfl) :
    PE X (.ListComp elt [⟨tg, .Call (.Name x p) [] kws pos', ifs, 0⟩] scope pos) (tLcG sp r (tNames π ks.length ta) tgt tt te (own.map (·.2))) := by
  refine ⟨fun pins s σ H Q I h => ?_⟩
  rw [eval_ListComp]
  obtain ⟨N, qual, scG, cd, bG, Sc, mk, gbody⟩ := F.go
  have hfree : ∀ y ∈ scope.names, y.2 = .free → ∃ c, X.env.cells.lookup y.1 = some c := fun y hy e => (ok.free y hy e).elim (fun z => I.ok.has _ (.inl z)) fun z => I.ok.has _ (.inr z)
  refine wpAny_comprehension_free (use := none) rfl hs (closure_ok hfree) ok.kind (fun y hy e => by rw [ok.uniq y hy, e]) ?_
  refine wpAny_Call_Name_kw (ld_glob I hg hm (PySem.W.callWith_KW0 (h₀ := X.base) I.ok.mod.kin hk hall (thn (hkw.run pos' pins s σ H _ I h) fun us s1 h4 => ?_) hpl) h1)
  obtain ⟨vs0, H1, I1, rv0, e0, ys, G0, hsp, wG, sG, hW⟩ := h4
  have rv : Vals (perm π vs0) (perm π us) := perm_rel rv0
  generalize hvs : perm π vs0 = vs at hsp rv
  have hl := F.len vs G0 ys hsp
  have hbt : BindsTo s1 fd ⟨[], ks.zip us⟩ (ps.zip (perm π us)) := hb s1 us (rv0.length.symm.trans e0)
  rw [hks]
  refine ⟨I1.kIn, wpAny_call (codeAny_mono (mk X.A X.stack s1 H1 ⟨[], ks.zip us⟩ (perm π us) vs (hr.mono (by omega)) I1.env0 hbt rv hl) fun res s2 hq => ?_)⟩
  match res, hq with
  | .error e, hq => exact hq.elim
  | .ok .next, hq => exact False.elim hq
  | .ok .brk, hq => exact False.elim hq
  | .ok .cont, hq => exact False.elim hq
  | .ok (.ret u), hq =>
    obtain ⟨L, a, go, oL, gn, rfl, Mk⟩ := hq
    refine wpAny_pyIter_gen (Mk.isg _ Mk.at') ?_
    have I2 : Inv X pins σ H1 s2 := I1.call' (ch := []) Mk.os (Un.kept Mk.keep) (I1.hok.kept Mk.keep) Mk.bare fun b z => by simp at z
    have young : ∀ b, s1.heap.objs.size ≤ b → H1 b = none ∧ b ≠ X.env.locals ∧ b ∉ X.fs ∧ (∀ y c, X.env.cells.lookup y = some c → c ≠ b) ∧ ∀ q ∈ X.pn ++ pins, q.1 ≠ b := fun b hb => ⟨I1.hok.fresh hb, Nat.ne_of_gt (Nat.lt_of_lt_of_le I1.lt hb), I1.nofs hb, fun y c e z => by
      obtain ⟨v, oc, ho, _⟩ := I1.cell y c e
      have := Heap.lt_size ho
      rw [z] at this
      exact absurd (Nat.lt_of_lt_of_le this hb) (Nat.lt_irrefl _), fun q hq z => by
      have := Heap.lt_size (I1.pin q hq).1
      rw [z] at this
      exact absurd (Nat.lt_of_lt_of_le this hb) (Nat.lt_irrefl _)⟩
    obtain ⟨gfs, gcls, gdat⟩ := Mk.flds
    have hago : s1.heap.objs.size ≤ a := Nat.le_of_lt (Nat.lt_of_le_of_lt Mk.low Mk.lt)
    have lL := Heap.lt_size Mk.fr
    have la := Heap.lt_size Mk.at'
    refine wpAny_newObj_type (newEnv_comp ?_) (by show 0 ≤ sizeLine; decide)
    generalize hD : s2.heap.objs.size = D at lL la
    have hDn : H1 D = none := I2.hok.fresh (Nat.le_of_eq hD)
    obtain ⟨Wt, w0, fin, turn⟩ := hW D hDn
    generalize hs3 : ({ s2 with heap := s2.heap.push { cls := .type "list", data := .seq ([] : List Value).toArray } } : Shared) = s3
    have I3 : Inv X pins σ (upd H1 D (.lst [])) s3 := by
      rw [← hs3]
      refine I2.laid (t' := s2.toks) (fun b o e => Heap.get?_push_of_some _ e) (Nat.le_of_eq hD) ⟨Nat.zero_le _, [], 0, .nil, ?_⟩
      rw [← hD]
      exact Heap.get?_push_size _ rfl
    have h3 : s3.heap = s2.heap.push { cls := .type "list", data := .seq ([] : List Value).toArray } := by rw [← hs3]
    have g3 : s3.gens = s2.gens := by rw [← hs3]
    have k3 : ∀ b o, s2.heap.get? b = some o → s3.heap.get? b = some o := fun b o e => by rw [h3]; exact Heap.get?_push_of_some _ e
    have sz3 : D < s3.heap.objs.size := by rw [h3, Heap.size_push, hD]; exact Nat.lt_succ_self _
    -- the generator's own places, and what lies empty behind its frame
    generalize hfp : (L :: (List.range s3.heap.objs.size).filter fun b => decide (L < b) && (s3.heap.get? b).isNone) = fp
    have inL : L ∈ fp := by rw [← hfp]; exact List.mem_cons_self
    have f3 : ∀ b ∈ fp, FpOk X pins (upd H1 D (.lst [])) b ∧ b < s3.heap.objs.size := fun b hb => by
      rw [← hfp] at hb
      rcases List.mem_cons.mp hb with e | hb
      · subst e
        obtain ⟨y1, y2, y3, y4, y5⟩ := young b Mk.low
        exact ⟨⟨by rw [upd_ne (Nat.ne_of_lt lL)]; exact y1, y2, y3, .inr (Nat.le_trans I1.sz Mk.low), y4, y5⟩, Nat.lt_trans lL sz3⟩
      · obtain ⟨q1, q2⟩ := List.mem_filter.mp hb
        rw [Bool.and_eq_true, decide_eq_true_eq] at q2
        obtain ⟨q2, q3⟩ := q2
        have en : s3.heap.get? b = none := by simpa using q3
        obtain ⟨_, y2, y3, y4, y5⟩ := young b (Nat.le_trans Mk.low (Nat.le_of_lt q2))
        refine ⟨⟨?_, y2, y3, .inr (Nat.le_trans (Nat.le_trans I1.sz Mk.low) (Nat.le_of_lt q2)), y4, y5⟩, List.mem_range.mp q1⟩
        cases q : upd H1 D (.lst []) b with
        | none => rfl
        | some z => obtain ⟨o, eo⟩ := HOk.there I3.hok q; rw [en] at eo; cases eo
    have I4 := block_start I3 ok hN f3
    have pg := ht0 s3 (upd H1 D (.lst [])) s3.heap.objs.size (cellsFrom (s3.heap.objs.size + 1) scope.names (cloFrom X.env.cells scope.names [])) fp
    have pt := ht1 s3 (upd H1 D (.lst [])) s3.heap.objs.size (cellsFrom (s3.heap.objs.size + 1) scope.names (cloFrom X.env.cells scope.names [])) fp
    have pe := he s3 (upd H1 D (.lst [])) s3.heap.objs.size (cellsFrom (s3.heap.objs.size + 1) scope.names (cloFrom X.env.cells scope.names [])) fp
    show codeAny _ _ (.compStart (.ListComp elt [⟨tg, .Call (.Name x p) [] kws pos', ifs, 0⟩] scope pos) 0 (.ref a) (.ref D) (compEnvC scope (cellsFrom (s3.heap.objs.size + 1) scope.names (cloFrom X.env.cells scope.names [])) s3.heap.objs.size X.env)) (compPost (model X.prog X.w) X.A X.xe none (EP X pins σ Q) (.ref D) s3.heap.objs.size) { s3 with heap := pushCells (s3.heap.push { cls := .type "dict", data := .dict #[] }) scope.names }
    generalize hce : compEnvC scope (cellsFrom (s3.heap.objs.size + 1) scope.names (cloFrom X.env.cells scope.names [])) s3.heap.objs.size X.env = ce at I4 pg pt pe ⊢
    have cL : ce.locals = s3.heap.objs.size := by subst hce; rfl
    have hG0D : G0 D = none := none_sub sG hDn
    have sG3 : Same G0 (upd H1 D (.lst [])) := fun b z ez => by
      rw [upd_ne (fun q => by rw [q, hG0D] at ez; cases ez)]
      exact sG b z ez
    have n3 : ∀ b, s1.heap.objs.size ≤ b → b < D → upd H1 D (.lst []) b = none := fun b hb hlt => by rw [upd_ne (Nat.ne_of_lt hlt)]; exact (young b hb).1
    generalize hH3 : upd H1 D (.lst []) = H3 at I3 I4 pg pt pe w0 f3 sG3 n3
    generalize hs4 : ({ s3 with heap := pushCells (s3.heap.push { cls := .type "dict", data := .dict #[] }) scope.names } : Shared) = s4 at I4 ⊢
    have g4 : s4.gens = s2.gens := by rw [← hs4]; exact g3
    have k4 : ∀ b o, s2.heap.get? b = some o → s4.heap.get? b = some o := fun b o e => by rw [← hs4]; exact pushCells_keeps _ _ _ _ (Heap.get?_push_of_some _ (k3 b o e))
    generalize hXb : X.blk s3 H3 scope ce fp = Xb at I4 pg pt pe
    have xb0 : Xb.s_0 = s3 := by rw [← hXb]
    have xbl : Xb.env.locals = s3.heap.objs.size := by rw [← hXb]; exact cL
    have xbf : Xb.fs = frs X.stack := by rw [← hXb]
    have xbx : Xb.ex = fp := by rw [← hXb]
    have xbp : Xb.pn = [] := by rw [← hXb]
    have xbA : Xb.A = X.A := by rw [← hXb]
    have xbs : Xb.stack = X.stack := by rw [← hXb]
    have xbb : Xb.base = X.base := by rw [← hXb]
    have xbP : Xb.prog = X.prog ∧ Xb.w = X.w ∧ Xb.K = X.K ∧ Xb.mg = X.mg := by rw [← hXb]; exact ⟨rfl, rfl, rfl, rfl⟩
    have low : ∀ b ∈ frs X.stack, b < L := fun b hb => by
      obtain ⟨_, o, ho, _⟩ := I1.stack.mem hb
      exact Nat.lt_of_lt_of_le (Heap.lt_size ho) Mk.low
    have Z : Pact Xb N ps scG X.A.in1 L := by
      refine ⟨Sc, I1.ok.hd hc, by rw [xbs]; exact I1.ok.frames, .inl (by rw [xbx]; exact inL), by rw [xbb]; exact Nat.le_trans I1.ok.bsz (Nat.le_trans I1.sz Mk.low), fun b hb en => ?_, fun b hb => low b (by rw [xbs] at hb; exact hb)⟩
      rw [xb0] at en ⊢
      rw [xbx]
      rcases Nat.lt_or_ge b s3.heap.objs.size with q | q
      · refine .inl ?_
        rw [← hfp]
        exact List.mem_cons_of_mem _ (List.mem_filter.mpr ⟨List.mem_range.mpr q, by rw [Bool.and_eq_true, decide_eq_true_eq, en]; exact ⟨hb, rfl⟩⟩)
      · exact .inr q
    have nstk : ∀ b, s1.heap.objs.size ≤ b → b ∉ Xb.fs := fun b hb hm => by
      rw [xbf] at hm
      rcases List.mem_cons.mp (I1.stkSub b hm) with z | z
      · exact (young b hb).2.1 z
      · exact (young b hb).2.2.1 z
    have S4 : Sleep Xb [(a, go)] L G0 oL [] (wipe σ (own.map (·.2))) H3 s4 := by
      refine ⟨I4.pins_of fun q hq => ?_, wG, sG3, fun q hq => (by simp at hq), fun q hq => (by simp at hq), fun q hq q' hq' => ?_⟩
      · rcases List.mem_append.mp hq with hq | hq
        · rw [List.mem_singleton.mp hq]
          exact ⟨k4 _ _ Mk.at', n3 a hago la, by rw [xbl]; exact Nat.ne_of_lt (Nat.lt_trans la sz3), nstk a hago, fun v z => by rw [gdat] at z; cases z⟩
        · rw [List.mem_singleton.mp hq]
          obtain ⟨es1, ep1, m1, hd1, _⟩ := Mk.loc
          exact ⟨k4 _ _ Mk.fr, n3 L Mk.low lL, by rw [xbl]; exact Nat.ne_of_lt (Nat.lt_trans lL sz3), nstk L Mk.low, fun v z => by rw [hd1] at z; cases z⟩
      · rw [List.mem_singleton.mp hq]
        rw [xbp, List.nil_append, List.mem_singleton] at hq'
        rw [hq']
        exact Nat.ne_of_gt Mk.lt
    have hra : RoomG (k + 1) X.A.in1 := hr.in1
    obtain ⟨Gm, slG, hgg⟩ := gbody Xb [(a, go)] L X.A.in1 (fun kk G σ' H' => σ' = wipe σ (own.map (·.2)) ∧ Wt kk G H') vs G0 ys xbP.1 xbP.2.1 xbP.2.2.1 xbP.2.2.2 xbb hsp hra Z
    have Mg : s4.gens[gn]? = some (.fresh (.func bG (envOfC qual scG L f cd))) := by rw [g4]; exact Mk.gen
    have gol : gn < s4.gens.size := (Array.getElem?_eq_some_iff.mp Mg).1
    have loop : codeAny (model X.prog X.w) X.A (.compLoop (.ListComp elt [⟨tg, .Call (.Name x p) [] kws pos', ifs, 0⟩] scope pos) 0 (.ref a) (.ref D) ce) (compPost (model X.prog X.w) X.A X.xe none (EP X pins σ Q) (.ref D) s3.heap.objs.size) s4 := by
      refine compLoop_any (fun n s' => ∃ kk gs G oL ip H', n + kk = ys.length + 1 ∧ Sleep Xb [(a, go)] L G oL ip (wipe σ (own.map (·.2))) H' s' ∧ Wt kk G H' ∧ s'.gens[gn]? = some gs ∧
        gs.Goes (model X.prog X.w) X.A.in1 (GK.R ⟨Xb, [(a, go)], L, N, ps, scG, qual, f, cd, X.A.in1, ys, r, fun kk G σ' H' => σ' = wipe σ (own.map (·.2)) ∧ Wt kk G H'⟩) (GK.Y ⟨Xb, [(a, go)], L, N, ps, scG, qual, f, cd, X.A.in1, ys, r, fun kk G σ' H' => σ' = wipe σ (own.map (·.2)) ∧ Wt kk G H'⟩) n (.send .none) (s'.setGen gn .running)) ?_ (ys.length + 1)
        ⟨0, _, G0, oL, [], H3, rfl, S4, w0, Mg, rfl, seg_func ?_⟩
      · rintro n s5 ⟨kk, gs, G3, oL3, ip3, H5, hnk, S5, w5, hgs, hgo⟩
        have hgl := (Array.getElem?_eq_some_iff.mp hgs).1
        have ha5 : s5.heap.get? a = some go := (S5.inv.pin (a, go) (List.mem_append_right _ (List.mem_append_left _ List.mem_cons_self))).1
        refine wpAny_gsz (n := gn + 1) hgl (nexts (I1.ok.hd hc) S5.inv.nolimit hr.rm.depth (Mk.isg _ ha5) hgs hgo (fun v z st' hbare hsusp hY hsz => ?_) fun z hF h' hk' _ => ?_)
        · obtain ⟨k', G, oL4, ip4, σc, Hc, y, vv, G', oL', ip', Hc', hk', S0, ⟨eσ, wt0⟩, hy', rvv, ry, S', gr, kap⟩ := hY
          subst eσ
          have b6 : AllBare (z.setGen gn st').gens := allBare_setGen S'.inv.bare hbare
          have S6 : Sleep Xb [(a, go)] L G' oL' ip' (wipe σ (own.map (·.2))) Hc' (z.setGen gn st') := S'.gens b6
          have hz : gn < z.gens.size := by
            have q : (z.setGen gn st').gens.size = z.gens.size := setGen_size _ _ _
            omega
          have at6 : (z.setGen gn st').gens[gn]? = some st' := setGen_at hz
          have ha6 : (z.setGen gn st').heap.get? a = some go := (S6.inv.pin (a, go) (List.mem_append_right _ (List.mem_append_left _ List.mem_cons_self))).1
          refine go_of ha6 gcls gdat (by decide) ?_
          have r7 := pg.run _ (hushed (z.setGen gn st')) _ Hc' vv v _ (inv_gens S6.inv (allBare_hushed b6)) rvv (turn k' y G Hc G' Hc' vv hy' wt0 gr ry)
          rw [← hXb] at r7
          refine run_asleep b6 at6 hsusp r7 (fun _ z ⟨_, _, I, _⟩ => I.bare) fun _ z7 g7 b7 at7 ⟨σ7, H7, I7, hw7, q7⟩ => ?_
          have I7' := inv_gens I7 b7
          have r8 := pt.run _ (hushed { z7 with gens := g7 }) σ7 H7 _ (by rw [← hXb]; exact inv_gens I7' (allBare_hushed b7)) q7
          rw [← hXb] at r8
          refine run_asleep b7 at7 hsusp r8 (fun _ z ⟨_, I, _⟩ => I.bare) fun bb z8 g8 b8 at8 ⟨H8, I8, q8⟩ => ?_
          have I8' := inv_gens I8 b8
          have fin8 : ∀ {s' : Shared} {H' : Hp}, AllBare s'.gens → s'.gens[gn]? = some st' → Inv (X.blk s3 H3 scope ce fp) ([(a, go)] ++ (L, oL') :: ip') σ7 H' s' → Same G' H' → Wt (k' + 1) G' H' → ∃ m, m < n ∧ ∃ kk gs G oL ip H', m + kk = ys.length + 1 ∧ Sleep Xb [(a, go)] L G oL ip (wipe σ (own.map (·.2))) H' s' ∧ Wt kk G H' ∧ s'.gens[gn]? = some gs ∧
              gs.Goes (model X.prog X.w) X.A.in1 (GK.R ⟨Xb, [(a, go)], L, N, ps, scG, qual, f, cd, X.A.in1, ys, r, fun kk G σ' H' => σ' = wipe σ (own.map (·.2)) ∧ Wt kk G H'⟩) (GK.Y ⟨Xb, [(a, go)], L, N, ps, scG, qual, f, cd, X.A.in1, ys, r, fun kk G σ' H' => σ' = wipe σ (own.map (·.2)) ∧ Wt kk G H'⟩) m (.send .none) (s'.setGen gn .running) := fun {s' H'} bs ats I' w1 w2 => by
            have hlen : (wipe σ (own.map (·.2))).length = σ7.length := by rw [← hw7, wipe_length]
            have Iw : Inv Xb ([(a, go)] ++ (L, oL') :: ip') (wipe σ (own.map (·.2))) H' s' := by
              rw [← hXb]
              refine I'.weak hlen fun j v e => ?_
              rw [← hw7] at e
              exact (wipe_some e).1
            have S7 : Sleep Xb [(a, go)] L G' oL' ip' (wipe σ (own.map (·.2))) H' s' := ⟨Iw, S'.whole, w1, S'.up, S'.late, S'.apart⟩
            have q := kap (s'.setGen gn .running) _ H' (S7.gens (allBare_setGen S7.inv.bare rfl)) ⟨rfl, w2⟩
            cases n with
            | zero => exact q.elim
            | succ m => exact ⟨m, Nat.lt_succ_self _, k' + 1, st', G', oL', ip', H', by have : m + k' = ys.length := hk'; omega, S7, w2, ats, q⟩
          cases bb with
          | false =>
            simp only [Bool.false_eq_true, if_false] at q8 ⊢
            exact fin8 b8 at8 I8' q8.1 q8.2
          | true =>
            simp only [if_true] at q8 ⊢
            have r9 := pe.run _ (hushed { z8 with gens := g8 }) σ7 H8 _ (by rw [← hXb]; exact inv_gens I8' (allBare_hushed b8)) q8
            rw [← hXb] at r9
            refine run_asleep b8 at8 hsusp r9 (fun _ z ⟨_, _, I, _⟩ => I.bare) fun vz z9 g9 b9 at9 ⟨yv, H9, I9, ry9, acc, hD9, hz9, w1, w2⟩ => ?_
            have I9' := inv_gens I9 b9
            refine run_asleep (Q := fun _ s' => Inv (X.blk s3 H3 scope ce fp) ([(a, go)] ++ (L, oL') :: ip') σ7 (upd H9 D (.lst (acc ++ [yv]))) s') b9 at9 hsusp (app_ok (X := X.blk s3 H3 scope ce fp) (inv_gens I9' (allBare_hushed b9)) hD9 hz9 ry9 fun s11 I11 => I11) (fun _ z I => I.bare) fun _ z10 g10 b10 at10 I10 => ?_
            exact fin8 b10 at10 (inv_gens I10 b10) w1 w2
        · obtain ⟨G, oL4, ip4, σc, Hc, G', Hc', S0, ⟨eσ, wt0⟩, I6, gr⟩ := hF
          have I7 : Inv Xb [(a, go)] σc Hc' { z.setGen gn .finished with heap := h' } := (inv_gens I6 (allBare_setGen I6.bare rfl)).kept (t' := z.toks) hk'
          rw [← hXb] at I7
          have I8 : Inv X pins σ Hc' { z.setGen gn .finished with heap := h' } := I3.call' (ch := fp) I7.os I7.base I7.hok I7.bare fun b hb => ⟨(f3 b hb).1.2.2.2.1, (f3 b hb).1.2.1, (f3 b hb).1.2.2.2.2.1, (f3 b hb).1.2.2.2.2.2⟩
          have nC : Hc' s3.heap.objs.size = none := by
            have q : Hc' ce.locals = none := I7.free
            rw [cL] at q
            exact q
          obtain ⟨m, hn, _⟩ := I7.loc
          have hn : ({ z.setGen gn .finished with heap := h' } : Shared).heap.Ns ce.locals m := hn
          rw [cL] at hn
          obtain ⟨f0, f1, f2, f4, f5, f6⟩ := I3.fpOk (Nat.le_refl _) nC
          refine ⟨m, hn, fun h'' sb => ?_⟩
          exact ⟨.ref D, Hc', I8.turned (t' := z.toks) (fun b o hb e => (sb.2 b hb).trans e) f0 f1 f4 f5 f6, rfl, fin G Hc G' Hc' wt0 gr⟩
      · have S4' := S4.gens (allBare_setGen (g := gn) (x := .running) S4.inv.bare rfl)
        have := hgg (ys.length + 1) (s4.setGen gn .running) (s4.setGen gn .running) G0 oL [] (wipe σ (own.map (·.2))) H3 _ _ rfl ⟨S4', ⟨rfl, w0⟩, S4'.wake Z Mk.loc Mk.len, ⟨G0, ⟨Same.refl _, both_l, both_r, fun b x e => (froz_of e).1, by simp, fun x hx => (by simp at hx)⟩, slG, Temps.nil⟩, fun q hq => (by simp at hq), fun b hb => (by simp at hb), fun q hq => (by simp at hq)⟩
        have e1 : (GK.M (α := α) ⟨Xb, [(a, go)], L, N, ps, scG, qual, f, cd, X.A.in1, ys, r, fun kk G σ' H' => σ' = wipe σ (own.map (·.2)) ∧ Wt kk G H'⟩) = model X.prog X.w := by
          show model Xb.prog Xb.w = _
          rw [xbP.1, xbP.2.1]
        rw [e1] at this
        exact this
    have ia4 : s4.heap.IsGen a gn := Mk.isg _ (k4 _ _ Mk.at')
    exact codeAny_compStart_list loop (wpAny_pyIter_gen ia4 loop)
end
section
variable {W : Wd} {G : Gam} {T : Tms} {cs : Cells} {K : Sl → Cells → Prop} {te : TE} {KF : PySem.W.Frag}
end
section
variable {X : Cx} {CX : CXT} {k : Nat} {C f : Addr} {fd : FuncData} {ps ks : List Str} {sp : Sp} {E : XK} {x : Str} {p pos : Pos} {kws : List Keyword} {t : TA} {π : List Nat}
end
end ML

namespace ML
open PySem PySem.Spec PyProof.Rows L2

mutual
inductive NestH (H : Hp) : NestedKey → V → Prop
  | bl (b : Bool) : NestH H (.num (if b = true then 1 else 0)) (.bl b)
  | int (i : Int) : NestH H (.num i) (.int i)
  | tup {a : Addr} {us : List V} {ks : List NestedKey} : TupA H a us → NestHs H ks us → NestH H (.tup ks) (.ref a)
inductive NestHs (H : Hp) : List NestedKey → List V → Prop
  | nil : NestHs H [] []
  | cons {k : NestedKey} {v : V} {ks : List NestedKey} {vs : List V} : NestH H k v → NestHs H ks vs → NestHs H (k :: ks) (v :: vs)
end
mutual
theorem NestH.mono {F F' : Hp} (e : Same F F') : ∀ {k : NestedKey} {v : V}, NestH F k v → NestH F' k v
  | _, _, .bl b => .bl b
  | _, _, .int i => .int i
  | _, _, .tup h t => .tup (h.mono e) (NestHs.mono e t)
theorem NestHs.mono {F F' : Hp} (e : Same F F') : ∀ {ks : List NestedKey} {vs : List V}, NestHs F ks vs → NestHs F' ks vs
  | _, _, .nil => .nil
  | _, _, .cons h t => .cons (NestH.mono e h) (NestHs.mono e t)
end
mutual
theorem NestH.is {P : Program} {w : World} {H : Hp} {h : Heap} (ok : HOk P w H h) : ∀ {k : NestedKey} {v : V} {u : Value}, NestH H k v → RelV v u → NestedIs h k u
  | _, _, _, .bl b, r => by
    obtain rfl := (show _ = Value.bool b from r)
    exact .bool rfl
  | _, _, _, .int i, r => by
    obtain ⟨t, rfl⟩ := r
    exact .int i t
  | _, _, _, .tup (a := a) (us := us) e t, r => by
    obtain rfl := (show _ = Value.ref a from r)
    obtain ⟨_, its, rr, o, h1, h2, n, h3⟩ := (show ObjOk P w H h a (.tup us) from (e.rd fun _ _ e => e).ok ok)
    exact .tup h1 h2 h3 (by simpa using NestHs.is ok t rr)
theorem NestHs.is {P : Program} {w : World} {H : Hp} {h : Heap} (ok : HOk P w H h) : ∀ {ks : List NestedKey} {vs : List V} {us : List Value}, NestHs H ks vs → Vals vs us → NestedAll h ks us
  | _, _, _, .nil, .nil => .nil
  | _, _, _, .cons p q, .cons r t => .cons (NestH.is ok p r) (NestHs.is ok q t)
end
mutual
theorem NestH.hash {H : Hp} (w w' : World) : ∀ {k : NestedKey} {v : V}, NestH H k v → k.hash w = k.hash w'
  | _, _, .bl b => rfl
  | _, _, .int i => rfl
  | _, _, .tup h t => by rw [NestedKey.hash, NestedKey.hash, NestHs.hash w w' t]
theorem NestHs.hash {H : Hp} (w w' : World) : ∀ {ks : List NestedKey} {vs : List V}, NestHs H ks vs → NestedKey.hashes w ks = NestedKey.hashes w' ks
  | _, _, .nil => rfl
  | _, _, .cons h t => by rw [NestedKey.hashes, NestedKey.hashes, NestH.hash w w' h, NestHs.hash w w' t]
end
abbrev NE := List (NestedKey × Addr × V)
structure NKs (H : Hp) (xs : NE) : Prop where
  nd : (xs.map (·.1)).Nodup
  is : ∀ x ∈ xs, NestH H x.1 (.ref x.2.1) ∧ x.1.depth ≤ 8
theorem NKs.nil (H : Hp) : NKs H [] := ⟨List.nodup_nil, fun x h => nomatch h⟩
section
variable {P : Program} {w : World} {H : Hp} {h : Heap} {d : Addr} {xs : NE}
theorem NKs.mono {H' : Hp} {xs : NE} (e : Same H H') (h : NKs H xs) : NKs H' xs := ⟨h.nd, fun x hx => ⟨(h.is x hx).1.mono e, (h.is x hx).2⟩⟩
end
section
variable {X : Cx} {pins : List (Addr × Obj)} {σ : L2.St} {H : Hp} {s : Shared} {a : Addr} {y v : V} {u r : Value} {o : Option V} {A : Around} {E : Value → Shared → Prop}
end
section
variable {X : Cx} {o i e f : Expr} {pos apos cpos : Pos} {td ty tx : TE}
end
end ML

namespace ML
open PySem PySem.Spec PyProof.Rows L2

section
variable {P : Program} {w : World} {A : Around} {E : Value → Shared → Prop} {s : Shared}
end
section
variable {X : Cx}
end
end ML

namespace ML
open PySem PySem.Spec PyProof.Rows L2

section
variable {X : Cx} {pins : List (Addr × Obj)} {σ : L2.St} {H : Hp} {s : Shared} {d : Addr} {o : Obj} {xs : NE}
end
section
variable {P : Program} {w : World} {K : PySem.W.Frag} {tg : Expr} {d : Addr} {o : Obj} {es : Array DictEntry} {ep : Nat} {xs : NE}
end
section
variable {X : Cx} {tg e : Expr} {td : TE} {apos cpos : Pos}
end
end ML

namespace ML
open PySem PySem.Spec PyProof.Rows L2

structure KR {κ : Type} (r : R κ) where
  nk : κ → NestedKey
  inj : ∀ x y, nk x = nk y → x = y
  dep : Nat
  low : ∀ x, (nk x).depth ≤ dep
  is : ∀ {x : κ} {F : Hp} {v : V}, r.p x F v → NestH F (nk x) v
section
variable {κ α : Type} {rk : R κ}
variable [DecidableEq κ]
end
section
variable {nx bk ct : L2.St → Hp → Prop} {rt : VK}
variable {W : Wd} {G : Gam} {T : Tms} {cs : Cells} {K : Sl → Cells → Prop} {t : TA} {ta tb tc te to ti td tk : TE} {tt : TT} {KF : PySem.W.Frag}
theorem key_ref {F : Hp} {ks : List NestedKey} {v : V} (h : NestH F (.tup ks) v) : ∃ b, v = .ref b := by
  cases h
  exact ⟨_, rfl⟩
def KTup {κ : Type} {rk : R κ} (kr : KR rk) : Prop := ∀ x, ∃ ks, kr.nk x = .tup ks
theorem KTup.ref {κ : Type} {rk : R κ} {kr : KR rk} (h : KTup kr) {x : κ} {F : Hp} {v : V} (p : rk.p x F v) : ∃ b, v = .ref b := by
  obtain ⟨ks, e⟩ := h x
  have := kr.is p
  rw [e] at this
  exact key_ref this
end
end ML

namespace ML
open PySem PySem.Spec PyProof.Rows L2

mutual
def keyH : NestedKey → Int
  | .none => 0
  | .num i => hashInt i
  | .text _ => 0
  | .tup ks => reduceHash (Builtin.Tuple.tupleHashOf (keyHs ks))
def keyHs : List NestedKey → List Int
  | [] => []
  | k :: ks => keyH k :: keyHs ks
end
mutual
theorem NestH.keyH {H : Hp} (w : World) : ∀ {k : NestedKey} {v : V}, NestH H k v → k.hash w = ML.keyH k
  | _, _, .bl b => rfl
  | _, _, .int i => rfl
  | _, _, .tup h t => by rw [NestedKey.hash, ML.keyH, NestHs.keyHs w t]
theorem NestHs.keyHs {H : Hp} (w : World) : ∀ {ks : List NestedKey} {vs : List V}, NestHs H ks vs → NestedKey.hashes w ks = ML.keyHs ks
  | _, _, .nil => rfl
  | _, _, .cons h t => by rw [NestedKey.hashes, ML.keyHs, NestH.keyH w h, NestHs.keyHs w t]
end
section
variable {nx bk ct : L2.St → Hp → Prop} {rt : VK}
variable {W : Wd} {G : Gam} {T : Tms} {cs : Cells} {K : Sl → Cells → Prop} {t : TA} {ta tb tc te to ti td tk tv : TE} {tt : TT} {KF : PySem.W.Frag}
end
end ML

namespace ML
open PySem PySem.Spec PyProof.Rows L2
section
variable {X : Cx}
end
section
variable {nx bk ct : L2.St → Hp → Prop} {rt : VK}
variable {W : Wd} {G : Gam} {T : Tms} {cs : Cells} {K : Sl → Cells → Prop} {t : TA} {ta tb tc te to ti td tk tv : TE} {tt : TT} {KF : PySem.W.Frag}
end
end ML

namespace ML
open PySem PySem.Spec PyProof.Rows L2

section
variable {X : Cx} {o e : Expr} {apos cpos : Pos} {td te : TE}
end
section
variable {κ α : Type} [DecidableEq κ] {rk : R κ} {kr : KR rk} {r : R α} {F : Hp}
end
section
variable {nx bk ct : L2.St → Hp → Prop} {rt : VK}
variable {W : Wd} {G : Gam} {T : Tms} {cs : Cells} {K : Sl → Cells → Prop} {td te : TE} {t : TS}
end
end ML

namespace ML
open PySem PySem.Spec PyProof.Rows L2

section
variable {nx bk ct : L2.St → Hp → Prop} {rt : VK}
variable {W : Wd} {G : Gam} {T : Tms} {cs : Cells} {K : Sl → Cells → Prop} {t ta tb : TE}
variable {KF : PySem.W.Frag}
end
end ML

namespace ML
open PySem PySem.Spec PyProof.Rows L2

section
variable {nx bk ct : L2.St → Hp → Prop} {rt : VK}
variable {W : Wd} {G : Gam} {T : Tms} {cs : Cells} {K : Sl → Cells → Prop}
end
end ML

namespace ML
open PySem PySem.Spec PyProof.Rows L2

abbrev sEnv (qual : Str) (scope : Scope) (L f : Addr) (cda cc : Addr) : Env := PySem.W.ksEnv qual scope L f (.ref cda) cc
structure SScope (N : List Str) (sc : Scope) : Prop where
  kind : sc.kind = .function
  co : sc.isCoroutine = false
  gen : sc.isGenerator = false
  nd : N.Nodup
  par : ∀ x ∈ N, sc.names.lookup x = some .local
  cls : sc.names.lookup ("__class__" : Str) = some .free
  sup : sc.names.lookup ("super" : Str) = some .globalImplicit
  nocell : ∀ y ∈ sc.names, y.2 ≠ .cell
  onef : ∀ y ∈ sc.names, y.2 = .free → y.1 = ("__class__" : Str)
structure SupI (K : PySem.W.Frag) (P : Program) (C f cda cc : Addr) (qual : Str) (params : Arguments) (body : List Stmt) (scope : Scope) (fd : FuncData) : Prop where
  fn : ∃ (name : Str) (dV kV doc pm ct oc : Value) (an od : Option Addr) (osl : Array (Option Value)), fd = PySem.W.ksFn name qual params body scope dV kV doc pm an (.ref cda) ct cc ∧ K.lookup f = some ⟨oc, od, .func fd, osl⟩
  code : PySem.W.codeIn K (.ref cda) qual = true
  file : ∃ (ccl : Value) (cdd : Option Addr) (vs : Array Value) (ccs : Array (Option Value)) (file : Str) (tf : Tok), K.lookup cda = some ⟨ccl, cdd, .fields vs, ccs⟩ ∧ vs[2]? = some (.str file tf) ∧ ((P.main.file : Str) == file) = true
  cell : ∃ (cl : Value) (cld : Option Addr) (csl : Array (Option Value)), K.lookup cc = some ⟨cl, cld, .cell (some (.ref C)), csl⟩
  mro : PySem.W.ks_superIn K C C "__init__" = some (some (.builtin "ValueError.__init__"))
  self : PySem.W.mroIn K C (.ref C) = some true
  subV : PySem.W.subIn K (.ref C) (.type "ValueError") = some true
  stat : PySem.W.nsIn K cStatics "thirdparty.any" = some none
  top : (P.main.scope.names.lookup ("super" : Str)).isSome = false
section
variable {CX : CXT} {P : Program} {w : World} {K : PySem.W.Frag} {mg : Str → Option Value} {base : Heap}
end
section
variable {prog : Program} {w : World} {A : Around} {E : Value → Shared → Prop} {hp : Heap} {g : Array GenState} {d : Drawn} {t : Nat} {os : OsState}
variable {nm q : Str} {C N : Addr} {bs bm : List Value} {hdct : Bool} {sn : List Str} {sub : List Value} {ab : Bool} {col : Option Bool} {dd : Option Addr} {k0 k1 k2 k3 k5 : Option Value}
end
structure SupT (qual : Str) (scope : Scope) (f cda cc : Addr) (me x fl : Str) (p0 p1 p2 p3 p4 p5 p6 p7 p8 p9 : Pos) (pl : Addr → Sem Bool) : Prop where
  he : ∀ L : Addr, eval (.Call (.Attribute (.Call (.Name "super" p0) [] [] p1) "__init__" p2) [.Name x p3] [] p4) (sEnv qual scope L f cda cc) = (do
    let ov ← attributeBase (.Call (.Name "super" p0) [] [] p1) "__init__" (sEnv qual scope L f cda cc) (eval (.Call (.Name "super" p0) [] [] p1) (sEnv qual scope L f cda cc))
    standAt p2.atName
    let (fv, first) ← holding [ov] (getMethod ov "__init__" (pl L))
    callWith p4 fv first (backTo p4 (starEach [.Name x p3] (sEnv qual scope L f cda cc))) [])
  hi : ∀ L : Addr, interactive (sEnv qual scope L f cda cc) = false
  h1 : ∀ L : Addr, swapsWith (.Call (.Attribute (.Call (.Name "super" p0) [] [] p1) "__init__" p2) [.Name x p3] [] p4) none p5.line (sEnv qual scope L f cda cc) = pure false
  h2 : ∀ L : Addr, swapsWith (.Name x p8) (some (.Attribute (.Name me p6) fl p7)) p9.line (sEnv qual scope L f cda cc) = pure false
def RtE (E : XK) (W : Wd) (C : Addr) (fs : List (Str × V)) (cs : Cells) : Prop := ∀ d H, (∃ F, Core W F cs H ∧ F d = some (.xd fs)) → E (.ref C) (some d) H
section
variable {nx bk ct : L2.St → Hp → Prop} {rt : VK}
variable {W : Wd} {G : Gam} {T : Tms} {cs : Cells} {K : Sl → Cells → Prop}
end
end ML

namespace ML
open PySem PySem.Spec PyProof.Rows L2

inductive Rz (β : Type) where
  | val (b : β)
  | err (c : Nat) (i : Int)
abbrev XT := Nat → Addr × Str
section
variable {W : Wd} {G : Gam} {T : Tms} {cs : Cells} {K : Sl → Cells → Prop} {t : TA}
end
end ML

namespace ML
open PySem PySem.Spec PyProof.Rows L2

abbrev kp (X : L2.Cx) (q : Addr × Obj) : L2.Cx := { X with pn := q :: X.pn }
section
variable {X : L2.Cx} {pins : List (Addr × Obj)} {σ : L2.St} {H : Hp} {s : Shared}
end
def Ca (oe : Obj) (cls : Value) (d : Option Addr) : Prop := Zc cls d oe ∧ ∃ vs, oe.data = .fields vs
section
variable {X : L2.Cx} {x n : Str} {c : Value} {i : Nat} {body suite rest : List Stmt} {b₀ : Stmt} {np pos pos' : Pos} {tb : WX → TS} {ts : Addr → Value → Option Addr → TS} {Wout : WX}
end
end ML

namespace ML
open PySem PySem.Spec PyProof.Rows L2

structure ExcD (K : PySem.W.Frag) (D : Addr) : Prop where
  c : ExcC K D
  cl : (PySem.W.clsIn K D).isSome = true
section
variable {nx bk ct : L2.St → Hp → Prop} {rt : VK}
variable {W : Wd} {G : Gam} {T : Tms} {cs : Cells} {K : Sl → Cells → Prop} {t : TA} {te : TE}
variable {KF : PySem.W.Frag}
end
end ML

namespace ML
open PySem PySem.Spec PyProof.Rows L2

section
variable {X : L2.Cx} {k : Nat} {f : Addr} {fd : FuncData} {ps : List Str} {sp : Sp} {dvs : List V} {ds : List Value} {Wx : WX} {x : Str} {p pos : Pos} {e : Expr} {es : List Expr} {t : TA}
end
section
variable {nx bk ct : L2.St → Hp → Prop} {rt : VK}
variable {W : Wd} {G : Gam} {cs : Cells}
end
end ML

namespace ML
open PySem PySem.Spec PyProof.Rows L2

theorem RtE.more {E : XK} {W : Wd} {C : Addr} {fs : List (Str × V)} {cs cs' : Cells} (h : RtE E W C fs cs) (s : cs.Sublist cs') : RtE E W C fs cs' := fun d H ⟨F, c, hd⟩ => h d H ⟨F, c.drop s, hd⟩
section
variable {W : Wd} {G : Gam} {T : Tms} {cs : Cells} {K : Sl → Cells → Prop} {t : TA}
end
end ML

namespace ML
open PySem PySem.Spec PyProof.Rows L2

structure ErrK (K : PySem.W.Frag) (C M f cda cc : Addr) (qual : Str) (st : Stmt) (fd : FuncData) (fl file : Str) : Prop where
  oex : OexC K C
  fn : ∃ (name : Str) (kV doc pm ct oc : Value) (an od : Option Addr) (osl : Array (Option Value)), fd = PySem.W.ksFn name qual (defArgs st) (defBody st) (defScope st) .none kV doc pm an (.ref cda) ct cc ∧ K.lookup f = some ⟨oc, od, .func fd, osl⟩
  code : PySem.W.codeIn K (.ref cda) qual = true
  lcode : ∃ (ccl : Value) (cdd : Option Addr) (vs : Array Value) (ccs : Array (Option Value)) (tf : Tok), K.lookup cda = some ⟨ccl, cdd, .fields vs, ccs⟩ ∧ vs[2]? = some (.str file tf)
  cell : ∃ (cl : Value) (cld : Option Addr) (csl : Array (Option Value)), K.lookup cc = some ⟨cl, cld, .cell (some (.ref C)), csl⟩
  mro : PySem.W.ks_superIn K C C "__init__" = some (some (.builtin "ValueError.__init__"))
  self : PySem.W.mroIn K C (.ref C) = some true
  subV : PySem.W.subIn K (.ref C) (.type "ValueError") = some true
  stat : PySem.W.nsIn K cStatics "thirdparty.any" = some none
  no : PySem.W.findIn K (.ref C) fl = some none
  iC : PySem.W.findIn K (.ref C) "__init__" = some (some (.ref f))
  tI : PySem.W.typeIn K (.ref f) = some (.type "function")
  excD : ExcD K C
  xf : XfC K C
  exm : PySem.W.exmOne K (.ref C) (.ref M) = some true
section
variable {K : PySem.W.Frag} {C M f cda cc : Addr} {qual fl file : Str} {st : Stmt} {fd : FuncData}
theorem ErrK.sup (E : ErrK K C M f cda cc qual st fd fl file) {P : Program} (hf : ((P.main.file : Str) == file) = true) (ht : (P.main.scope.names.lookup ("super" : Str)).isSome = false) : SupI K P C f cda cc qual (defArgs st) (defBody st) (defScope st) fd := by
  obtain ⟨name, kV, doc, pm, ct, oc, an, od, osl, e, lk⟩ := E.fn
  obtain ⟨ccl, cdd, vs, ccs, tf, l1, l2⟩ := E.lcode
  exact ⟨⟨name, _, kV, doc, pm, ct, oc, an, od, osl, e, lk⟩, E.code, ⟨ccl, cdd, vs, ccs, file, tf, l1, l2, hf⟩, E.cell, E.mro, E.self, E.subV, E.stat, ht⟩
theorem ErrK.binds (E : ErrK K C M f cda cc qual st fd fl file) {ps : List Str} (h : ∀ (name : Str) (kV doc pm ct : Value) (an : Option Addr) (us : List Value), us.length = ps.length → bindArgs (PySem.W.ksFn name qual (defArgs st) (defBody st) (defScope st) .none kV doc pm an (.ref cda) ct cc) ⟨us, []⟩ = pure (ps.zip us)) : Binds K fd ps [] := by
  obtain ⟨name, kV, doc, pm, ct, oc, an, od, osl, e, lk⟩ := E.fn
  subst e
  exact Binds.all fun us hl => h name kV doc pm ct an us hl
end
end ML

namespace ML
open PySem PySem.Spec PyProof.Rows L2

structure LP (P : Program) (file : Str) : Prop where
  f : ((P.main.file : Str) == file) = true
  t : (P.main.scope.names.lookup ("super" : Str)).isSome = false
end ML

namespace ML
open PySem PySem.Spec PyProof.Rows L2

section
variable {W : Wd} {G : Gam} {T : Tms} {cs : Cells} {K : Sl → Cells → Prop} {t : TA}
variable {KF : PySem.W.Frag}
end
end ML

namespace ML
open PySem PySem.Spec PyProof.Rows L2
section
variable {W : Wd} {G : Gam} {T : Tms} {cs : Cells} {K : Sl → Cells → Prop} {ta tb : TE}
variable {KF : PySem.W.Frag} {t : TA}
end
end ML

namespace ML
open PySem PySem.Spec PyProof.Rows L2
end ML

namespace ML
open PySem PySem.Spec PyProof.Rows L2

def cTab (q : Str) : Cl := ⟨fun F o => ∃ ps : Array Value, o = .tbl ps ∧ TriplesOk ps.toList ∧ ∀ (at_ : Pos) (u : Value), codeAmong at_ ps.toList = some u → ∃ c, u = .ref c ∧ F c = some (LamX.CodeO c q),
  fun {_ _ _} e ⟨ps, h1, h2, h3⟩ => ⟨ps, h1, h2, fun at_ u hc => let ⟨c, a, b⟩ := h3 at_ u hc; ⟨c, a, e _ _ b⟩⟩⟩
def MkT (H : Hp) (P : Addr) (q : Str) (H1 : Hp) (d : Addr) : Prop :=
  (H1 = H ∧ ∃ (ps : Array Value) (at_ : Pos), H P = some (.tbl ps) ∧ codeAmong at_ ps.toList = some (.ref d)) ∨
  ∃ (ps : Array Value) (at_ : Pos), H P = some (.tbl ps) ∧ H d = none ∧ H1 = upd (upd H P (.tbl (ps ++ #[rawInt at_.line, rawInt at_.col, .ref d]))) d (LamX.CodeO d q)
section
variable {X : L2.Cx} {pins : List (Addr × Obj)} {σ : L2.St} {H : Hp} {s : Shared}
end
theorem Core.made {W : Wd} {F : Hp} {cs : Cells} {H H1 : Hp} {j : Nat} {P d : Addr} {q : Str} (c : Core W F cs H) (hj : cs[j]? = some (P, cTab q)) (mk : MkT H P q H1 d) : ∃ F1, Same F F1 ∧ F1 d = some (LamX.CodeO d q) ∧ Core W F1 cs H1 := by
  obtain ⟨h1, h2, o, h3, ps, rfl, h5, h6⟩ := c.cell (P, cTab q) (List.mem_of_getElem? hj)
  have h3 : H P = some (.tbl ps) := h3
  rcases mk with ⟨rfl, ps', at_, e1, e2⟩ | ⟨ps', at_, e1, e2, rfl⟩
  · rw [h3] at e1
    cases e1
    obtain ⟨c0, e3, e4⟩ := h6 at_ _ e2
    cases e3
    exact ⟨F, Same.refl F, e4, c⟩
  · rw [h3] at e1
    cases e1
    have nd : P ≠ d := ne_of_none h3 e2
    have c1 := c.new (o := LamX.CodeO d q) e2
    have sF : Same F (upd F d (LamX.CodeO d q)) := same_upd (c.fh.free e2)
    have c2 := c1.write (o := .tbl (ps ++ #[rawInt at_.line, rawInt at_.col, .ref d])) hj (c' := cTab q) ⟨_, rfl, by simpa using PySem.TriplesOk_snoc _ _ _ _ h5, fun p2 u hu => by
      rw [show (ps ++ #[rawInt at_.line, rawInt at_.col, .ref d]).toList = ps.toList ++ [rawInt at_.line, rawInt at_.col, .ref d] by simp] at hu
      rcases LamX.among_app _ h5 hu with z | z
      · obtain ⟨c0, a, b⟩ := h6 p2 u z
        exact ⟨c0, a, sF _ _ b⟩
      · exact ⟨d, z, upd_same⟩⟩
    have ec : cs.set j (P, cTab q) = cs := by
      apply List.ext_getElem?
      intro i
      rw [List.getElem?_set]
      by_cases e : j = i
      · subst e
        rw [if_pos rfl, if_pos (List.getElem?_eq_some_iff.mp hj).1, hj]
      · rw [if_neg e]
    rw [ec] at c2
    have eH : upd (upd H d (LamX.CodeO d q)) P (.tbl (ps ++ #[rawInt at_.line, rawInt at_.col, .ref d])) = upd (upd H P (.tbl (ps ++ #[rawInt at_.line, rawInt at_.col, .ref d]))) d (LamX.CodeO d q) := by
      funext b
      by_cases e : b = P
      · subst e; rw [upd_same, upd_ne nd, upd_same]
      · rw [upd_ne e]
        by_cases e' : b = d
        · subst e'; rw [upd_same, upd_same]
        · rw [upd_ne e', upd_ne e', upd_ne e]
    rw [eH] at c2
    exact ⟨_, sF, upd_same, c2⟩
section
variable {W : Wd} {G : Gam} {T : Tms} {cs : Cells} {K : Sl → Cells → Prop} {xt : XT} {z : Rz Unit}
end
section
variable {nx bk ct : L2.St → Hp → Prop} {rt : VK} {W : Wd} {G : Gam} {xt : XT} {z : Rz Unit}
end
end ML

namespace ML
open PySem PySem.Spec PyProof.Rows L2

structure FunC (K : PySem.W.Frag) (x qual : Str) (st : Stmt) (f : Addr) (fd : FuncData) (c : Addr) : Prop where
  ex : ∃ (oc : Value) (od : Option Addr) (kV doc pm : Value) (an : Option Addr) (ct : Value) (osl : Array (Option Value)),
    fd = PySem.W.fnOf x qual (defArgs st) (defBody st) (defScope st) .none kV doc pm an (.ref c) ct ∧ K.lookup f = some ⟨oc, od, .func fd, osl⟩ ∧ PySem.W.codeIn K (.ref c) qual = true
def OnlyT (H : Hp) (ts : List Addr) : Prop := ∀ P ∈ ts, H P = some (.tbl #[])
open Classical in
theorem only_coreT {H : Hp} {ns : List Int} {a : Addr} {KF : PySem.W.Frag} {ts : List (Addr × Str)} (nd : (ts.map (·.1)).Nodup) (hT : OnlyT H (ts.map (·.1))) (hS : SqL KF H a (ns.map V.int)) :
    ∃ W : Wd, Core W W.F (ts.map fun t => (t.1, cTab t.2)) H ∧ SqL KF W.F a (ns.map V.int) := by
  let F : Hp := fun b => if b ∈ ts.map (·.1) then none else H b
  have at_ : ∀ b, b ∉ ts.map (·.1) → F b = H b := fun b h => if_neg h
  have ne : ∀ b o, F b = some o → b ∉ ts.map (·.1) := fun b o e z => by
    have : F b = none := if_pos z
    rw [this] at e; cases e
  refine ⟨⟨F, fun _ => none⟩, ⟨Same.refl F, fun b o e => by rw [← at_ b (ne b o e)]; exact e, fun _ _ e => (by cases e), fun _ _ e => (by cases e), ?_, fun x hx => ?_⟩, ?_⟩
  · rw [List.map_map]; exact nd
  · obtain ⟨t, ht, rfl⟩ := List.mem_map.mp hx
    have hm : t.1 ∈ ts.map (·.1) := List.mem_map.mpr ⟨t, ht, rfl⟩
    exact ⟨if_pos hm, rfl, _, hT _ hm, #[], rfl, True.intro, fun p u hu => by simp [codeAmong] at hu⟩
  · have out : ∀ o, H a = some o → (∀ p, o ≠ .tbl p) → F a = some o := fun o e z => by
      rw [at_ a fun m => z #[] (Option.some.inj (e.symm.trans (hT a m)))]; exact e
    rcases hS with (h | ⟨o, h⟩) | h
    · exact .inl (.inl (out _ h fun p z => by cases z))
    · exact .inl (.inr ⟨o, out _ h fun p z => by cases z⟩)
    · exact .inr h
end ML

namespace ML
open PySem PySem.Spec PyProof.Rows L2
section
variable {W : Wd} {G : Gam} {T : Tms} {cs : Cells} {K : Sl → Cells → Prop} {to te : TE} {ta : TA} {KF : PySem.W.Frag}
end
section
variable {W : Wd} {G : Gam} {T : Tms} {cs : Cells} {K : Sl → Cells → Prop} {t : TA}
end
end ML

namespace ML
open PySem PySem.Spec PyProof.Rows L2
section
variable {W : Wd} {G : Gam} {T : Tms} {cs : Cells}
end
end ML

namespace ML
open PySem PySem.Spec PyProof.Rows L2
mutual
inductive Dq (H : Hp) : V → PyData → Prop
  | non : Dq H .non .none
  | bl (b : Bool) : Dq H (.bl b) (.bool b)
  | int (i : Int) : Dq H (.int i) (.int i)
  | str (x : Str) : Dq H (.str x) (.str x)
  | lst {a : Addr} {xs : List V} {ds : List PyData} : (a == sysModules) = false → xs.length ≤ sizeLine → H a = some (.lst xs) → DqAll H xs ds → Dq H (.ref a) (.list ds)
  | tup {a : Addr} {xs : List V} {ds : List PyData} : xs.length ≤ sizeLine → TupA H a xs → DqAll H xs ds → Dq H (.ref a) (.tuple ds)
  | dic0 {a : Addr} : H a = some (.dK []) → Dq H (.ref a) (.dict [])
  | dic1 {a : Addr} {x : Str} {v : V} {d : PyData} : H a = some (.dK [(.inr x, v)]) → Dq H v d → Dq H (.ref a) (.dict [(.str x, d)])
inductive DqAll (H : Hp) : List V → List PyData → Prop
  | nil : DqAll H [] []
  | cons {v : V} {vs : List V} {d : PyData} {ds : List PyData} : Dq H v d → DqAll H vs ds → DqAll H (v :: vs) (d :: ds)
end
mutual
theorem Dq.mono {H H' : Hp} (s : Same H H') : ∀ {d : PyData} {v : V}, Dq H v d → Dq H' v d
  | _, _, .non => .non
  | _, _, .bl b => .bl b
  | _, _, .int i => .int i
  | _, _, .str x => .str x
  | _, _, .lst n l e q => .lst n l (s _ _ e) (DqAll.mono s q)
  | _, _, .tup l e q => .tup l (e.mono s) (DqAll.mono s q)
  | _, _, .dic0 e => .dic0 (s _ _ e)
  | _, _, .dic1 e q => .dic1 (s _ _ e) (Dq.mono s q)
theorem DqAll.mono {H H' : Hp} (s : Same H H') : ∀ {ds : List PyData} {vs : List V}, DqAll H vs ds → DqAll H' vs ds
  | _, _, .nil => .nil
  | _, _, .cons a q => .cons (Dq.mono s a) (DqAll.mono s q)
end
theorem DqAll.of {H : Hp} : ∀ {ds : List PyData} {vs : List V}, All2 (fun d v => Dq H v d) ds vs → DqAll H vs ds
  | _, _, .nil => .nil
  | _, _, .cons a q => .cons a (DqAll.of q)
theorem DqAll.all2 {H : Hp} : ∀ {ds : List PyData} {vs : List V}, DqAll H vs ds → All2 (fun d v => Dq H v d) ds vs
  | _, _, .nil => .nil
  | _, _, .cons a q => .cons a q.all2
theorem DqAll.len {H : Hp} {ds : List PyData} {vs : List V} (h : DqAll H vs ds) : vs.length = ds.length := h.all2.length.symm
section
variable {X : L2.Cx} {pins : List (Addr × Obj)} {σ : L2.St} {H : Hp} {s : Shared}
mutual
theorem Dq.reads (I : Inv X pins σ H s) : ∀ (d : PyData) (v : V) (u : Value), Dq H v d → RelV v u → ∃ as, Reads s.heap u d as ∧ sysModules ∉ as
  | .none, _, _, h, r => by
    cases h
    cases r
    exact ⟨_, Reads.none, by simp⟩
  | .bool b, _, _, h, r => by
    cases h
    cases r
    exact ⟨_, Reads.bool b, by simp⟩
  | .int i, _, _, h, r => by
    cases h
    obtain ⟨t, rfl⟩ := r
    exact ⟨_, Reads.int i t, by simp⟩
  | .str x, _, _, h, r => by
    cases h
    obtain ⟨t, rfl⟩ := r
    exact ⟨_, Reads.str x t, by simp⟩
  | .list ds, _, _, h, r => by
    cases h with
    | lst hn hl hs ha =>
      cases r
      obtain ⟨its, rv, ⟨o, n, ho, hc, _, hd⟩, _⟩ := I.list (SqL.of hs)
      obtain ⟨as, hr, hm⟩ := Dq.readsAll I ds _ its ha rv
      refine ⟨_, Reads.list ho hc hd hr, fun m => ?_⟩
      rcases List.mem_cons.mp m with e | m
      · rw [← e] at hn; simp at hn
      · exact hm m
  | .tuple ds, _, _, h, r => by
    cases h with
    | tup hl hs ha =>
      cases r
      obtain ⟨its, rv, ⟨o, ho, hc, n, hd⟩, _⟩ := I.tuple (hs.sq fun _ _ e => e)
      obtain ⟨as, hr, hm⟩ := Dq.readsAll I ds _ its ha rv
      exact ⟨_, Reads.tuple ho hc hd hr, hm⟩
  | .dict kvs, _, _, h, r => by
    cases h with
    | dic0 e =>
      cases r
      rename_i a
      obtain ⟨z, hd, vs, rel, o, es, ep, ho, hx, hdd, hk, hp, _⟩ := dk_of I.hok e
      have ev : vs = [] := by cases rel; rfl
      subst ev
      have ee : es.toList = [] := by
        cases q : es.toList with
        | nil => rfl
        | cons a l => rw [q] at hp; cases hp
      refine ⟨_, Reads.dict (as := []) (bs := []) ho hx.1 hdd (by rw [ee]; exact ReadsAll.nil) (by rw [ee]; exact ReadsAll.nil), fun m => ?_⟩
      have m2 : sysModules = a := by simpa using m
      rw [← m2] at hd; simp at hd
    | dic1 e hv =>
      cases r
      rename_i a x v d
      obtain ⟨z, hd, vs, rel, o, es, ep, ho, hx, hdd, hk, hp, _⟩ := dk_of I.hok e
      cases rel with
      | cons r1 rr =>
        cases rr
        rename_i q _
        obtain ⟨q1, q2⟩ := q
        obtain ⟨k1, r2⟩ := r1
        dsimp only at k1 r2
        subst k1
        obtain ⟨en, ee⟩ : ∃ en, es.toList = [en] ∧ keyIs (.inr x) en.key = true ∧ en.val = q2 := by
          cases q : es.toList with
          | nil => rw [q] at hp; cases hp
          | cons en l =>
            rw [q] at hp
            cases hp with
            | cons h1 h2 h3 =>
              cases h3
              exact ⟨en, rfl, h1, h2⟩
        obtain ⟨ee, h1, h2⟩ := ee
        obtain ⟨t, ek⟩ : ∃ t, en.key = .str x t := by
          rcases keyIs_shape h1 with ⟨i, t, e1, e2⟩ | ⟨y, t, e1, e2⟩
          · exact nomatch e1
          · have e1 := Sum.inr.inj e1
            subst e1
            exact ⟨t, e2⟩
        obtain ⟨as, hr, hm⟩ := Dq.reads I d v q2 hv r2
        refine ⟨_, Reads.dict (as := []) (bs := as) ho hx.1 hdd ?_ ?_, fun m => ?_⟩
        · rw [ee]
          show ReadsAll s.heap [en.key] [.str x] []
          rw [ek]
          exact ReadsAll.cons (as := []) (bs := []) (Reads.str x t) ReadsAll.nil
        · rw [ee]
          show ReadsAll s.heap [en.val] [d] as
          rw [h2]
          have := ReadsAll.cons hr (ReadsAll.nil (h := s.heap))
          rw [List.append_nil] at this
          exact this
        · rcases List.mem_cons.mp (show sysModules ∈ a :: ([] ++ as) from m) with e | m
          · rw [← e] at hd; simp at hd
          · exact hm m
theorem Dq.readsAll (I : Inv X pins σ H s) : ∀ (ds : List PyData) (vs : List V) (us : List Value), DqAll H vs ds → Vals vs us → ∃ as, ReadsAll s.heap us ds as ∧ sysModules ∉ as
  | [], _, _, h, r => by
    cases h
    cases r
    exact ⟨_, ReadsAll.nil, by simp⟩
  | d :: ds, _, _, h, r => by
    cases h with
    | cons h1 h2 =>
      cases r with
      | cons r1 r2 =>
        obtain ⟨as, q1, m1⟩ := Dq.reads I d _ _ h1 r1
        obtain ⟨bs, q2, m2⟩ := Dq.readsAll I ds _ _ h2 r2
        exact ⟨_, ReadsAll.cons q1 q2, fun m => (List.mem_append.mp m).elim m1 m2⟩
end
end
end ML

namespace ML
open PySem PySem.Spec PyProof.Rows L2
structure VQ {α : Type} (r : R α) where
  d : α → PyData
  ok : ∀ {F : Hp} {a : α} {v : V}, r.p a F v → Dq F v (d a)
section
variable {W : Wd} {G : Gam} {T : Tms} {cs : Cells} {K : Sl → Cells → Prop} {KF : PySem.W.Frag} {t : TA} {te ta tb tk tv : TE}
end
end ML

namespace ML
open PySem PySem.Spec PyProof.Rows L2
section
variable {W : Wd} {G : Gam} {T : Tms} {cs : Cells} {K : Sl → Cells → Prop} {KF : PySem.W.Frag} {t : TA} {te : TE}
end
end ML

namespace ML
open PySem PySem.Spec PyProof.Rows L2
end ML

namespace ML
open PySem PySem.Spec PyProof.Rows L2
inductive IT where
  | i (n : Int)
  | t (xs : List Int)
instance : DecidableEq IT := fun a b => match a, b with
  | .i n, .i m => if h : n = m then isTrue (by rw [h]) else isFalse fun e => h (by cases e; rfl)
  | .t xs, .t ys => if h : xs = ys then isTrue (by rw [h]) else isFalse fun e => h (by cases e; rfl)
  | .i _, .t _ => isFalse fun e => by cases e
  | .t _, .i _ => isFalse fun e => by cases e
section
variable {W : Wd} {G : Gam} {T : Tms} {cs : Cells} {K : Sl → Cells → Prop} {te : TE}
end
section
variable {W : Wd} {G : Gam} {T : Tms} {cs : Cells} {K : Sl → Cells → Prop} {xt : XT} {γ : Type} {rg : R γ} {z : Rz γ}
end
section
variable {nx bk ct : L2.St → Hp → Prop} {rt : VK} {W : Wd} {G : Gam} {xt : XT} {γ : Type} {rg : R γ} {z : Rz γ}
end
end ML

namespace ML
open PySem PySem.Spec PyProof.Rows L2
inductive RzV (β : Type) where
  | val (b : β)
  | err (c : Nat) (d : PyData)
def RtEV (E : XK) (W : Wd) (C : Addr) (fl : Str) (d : PyData) (cs : Cells) : Prop := ∀ dd H v, (∃ F, Core W F cs H ∧ Dq F v d ∧ F dd = some (.xd [(fl, v)])) → E (.ref C) (some dd) H
theorem RtEV.more {E : XK} {W : Wd} {C : Addr} {fl : Str} {d : PyData} {cs cs' : Cells} (h : RtEV E W C fl d cs) (s : cs.Sublist cs') : RtEV E W C fl d cs' := fun dd H v ⟨F, c, pv, hd⟩ => h dd H v ⟨F, c.drop s, pv, hd⟩
section
variable {nx bk ct : L2.St → Hp → Prop} {rt : VK}
variable {W : Wd} {G : Gam} {T : Tms} {cs : Cells} {K : Sl → Cells → Prop}
end
section
variable {W : Wd} {G : Gam} {T : Tms} {cs : Cells} {K : Sl → Cells → Prop} {t : TA}
end
section
variable {W : Wd} {G : Gam} {T : Tms} {cs : Cells} {K : Sl → Cells → Prop} {t : TA} {te : TE}
variable {KF : PySem.W.Frag}
end
section
variable {W : Wd} {G : Gam} {T : Tms} {cs : Cells} {K : Sl → Cells → Prop} {xt : XT} {γ : Type} {rg : R γ} {z : RzV γ}
end
section
variable {nx bk ct : L2.St → Hp → Prop} {rt : VK} {W : Wd} {G : Gam} {xt : XT} {γ : Type} {rg : R γ} {z : RzV γ}
end
end ML

namespace ML
open PySem PySem.Spec PyProof.Rows L2 SX
def rTx : R (List Nat) := ⟨fun a _ v => v = .str (S a), fun _ h => h⟩
section
variable {W : Wd} {G : Gam} {T : Tms} {cs : Cells} {K : Sl → Cells → Prop} {ta tb te : TE} {t : TA} {KF : PySem.W.Frag}
end
end ML

namespace ML
open PySem PySem.Spec PyProof.Rows L2 SX
section
variable {W : Wd} {G : Gam} {T : Tms} {cs : Cells} {K : Sl → Cells → Prop} {ta tb te : TE} {t : TA} {KF : PySem.W.Frag}
end
end ML

namespace ML
open PySem PySem.Spec PyProof.Rows L2
structure SupT2 (qual : Str) (scope : Scope) (f cda cc : Addr) (me x y f1 f2 : Str) (p0 p1 p2 p3 p4 p5 p6 p7 p8 p9 q0 q1 q2 q3 q4 : Pos) (pl : Addr → Sem Bool) : Prop where
  he : ∀ L : Addr, eval (.Call (.Attribute (.Call (.Name "super" p0) [] [] p1) "__init__" p2) [.Name x p3, .Name y q0] [] p4) (sEnv qual scope L f cda cc) = (do
    let ov ← attributeBase (.Call (.Name "super" p0) [] [] p1) "__init__" (sEnv qual scope L f cda cc) (eval (.Call (.Name "super" p0) [] [] p1) (sEnv qual scope L f cda cc))
    standAt p2.atName
    let (fv, first) ← holding [ov] (getMethod ov "__init__" (pl L))
    callWith p4 fv first (backTo p4 (starEach [.Name x p3, .Name y q0] (sEnv qual scope L f cda cc))) [])
  hi : ∀ L : Addr, interactive (sEnv qual scope L f cda cc) = false
  h1 : ∀ L : Addr, swapsWith (.Call (.Attribute (.Call (.Name "super" p0) [] [] p1) "__init__" p2) [.Name x p3, .Name y q0] [] p4) none p5.line (sEnv qual scope L f cda cc) = pure false
  h2 : ∀ L : Addr, swapsWith (.Name x p8) (some (.Attribute (.Name me p6) f1 p7)) p9.line (sEnv qual scope L f cda cc) = pure false
  h3 : ∀ L : Addr, swapsWith (.Name y q3) (some (.Attribute (.Name me q1) f2 q2)) q4.line (sEnv qual scope L f cda cc) = pure false
end ML

namespace ML
open PySem PySem.Spec PyProof.Rows L2
abbrev XTL := Nat → Addr × List Str
def FldV (F : Hp) (fl : List Str) (d : PyData) (fs : List (Str × V)) : Prop := match fl with
  | [f] => ∃ v, Dq F v d ∧ fs = [(f, v)]
  | [f, g] => ∃ x y dx dy, d = .tuple [dx, dy] ∧ Dq F x dx ∧ Dq F y dy ∧ fs = [(g, y), (f, x)]
  | _ => False
theorem FldV.mono {F F' : Hp} {fl : List Str} {d : PyData} {fs : List (Str × V)} (e : Same F F') (h : FldV F fl d fs) : FldV F' fl d fs := by
  match fl, h with
  | [f], ⟨v, h1, h2⟩ => exact ⟨v, h1.mono e, h2⟩
  | [f, g], ⟨x, y, dx, dy, h1, h2, h3, h4⟩ => exact ⟨x, y, dx, dy, h1, h2.mono e, h3.mono e, h4⟩
def ErrD (F : Hp) (fl : List Str) (d : PyData) (od : Option Addr) : Prop := match fl with
  | [] => od = none
  | _ :: _ => ∃ dd fs, od = some dd ∧ FldV F fl d fs ∧ F dd = some (.xd fs)
theorem ErrD.mono {F F' : Hp} {fl : List Str} {d : PyData} {od : Option Addr} (e : Same F F') (h : ErrD F fl d od) : ErrD F' fl d od := by
  match fl, h with
  | [], h => exact h
  | _ :: _, ⟨dd, fs, h1, h2, h3⟩ => exact ⟨dd, fs, h1, h2.mono e, e _ _ h3⟩
def OdS (fl : List Str) (od : Option Addr) : Prop := match fl with
  | [] => od = none
  | _ :: _ => ∃ dd, od = some dd
def RtEL (E : XK) (W : Wd) (C : Addr) (fl : List Str) (d : PyData) (cs : Cells) : Prop := ∀ od H, (∃ F, Core W F cs H ∧ ErrD F fl d od) → E (.ref C) od H
theorem RtEL.more {E : XK} {W : Wd} {C : Addr} {fl : List Str} {d : PyData} {cs cs' : Cells} (h : RtEL E W C fl d cs) (s : cs.Sublist cs') : RtEL E W C fl d cs' := fun od H ⟨F, c, pv⟩ => h od H ⟨F, c.drop s, pv⟩
structure ErrK0 (K : PySem.W.Frag) (C M : Addr) : Prop where
  xi : PySem.W.excIn K C [.type "ValueError", .type "Exception", .type "BaseException", .type "object"] "ValueError.__new__" = true
  kc : PySem.W.keepIn K (.ref C) = true
  ex : PySem.W.subIn K (.ref C) (.type "BaseException") = some true
  ty : PySem.W.typeIn K (.ref C) = some (.type "type")
  excD : ExcD K C
  exm : PySem.W.exmOne K (.ref C) (.ref M) = some true
section
variable {nx bk ct : L2.St → Hp → Prop} {rt : VK}
variable {W : Wd} {G : Gam} {T : Tms} {cs : Cells} {K : Sl → Cells → Prop}
end
section
variable {W : Wd} {G : Gam} {T : Tms} {cs : Cells} {K : Sl → Cells → Prop} {t : TA}
end
section
variable {W : Wd} {G : Gam} {T : Tms} {cs : Cells} {K : Sl → Cells → Prop} {t : TA} {te : TE}
variable {KF : PySem.W.Frag}
end
section
variable {W : Wd} {G : Gam} {T : Tms} {cs : Cells} {K : Sl → Cells → Prop} {xt : XTL} {γ : Type} {rg : R γ} {z : RzV γ}
end
section
variable {nx bk ct : L2.St → Hp → Prop} {rt : VK} {W : Wd} {G : Gam} {xt : XTL} {γ : Type} {rg : R γ} {z : RzV γ}
end
end ML

namespace ML
open PySem PySem.Spec PyProof.Rows L2
section
variable {W : Wd} {G : Gam} {T : Tms} {cs : Cells} {K : Sl → Cells → Prop} {te ta tb : TE}
end
section
variable {nx bk ct : L2.St → Hp → Prop} {rt : VK} {W : Wd} {G : Gam} {xt : XTL} {γ : Type} {rg : R γ} {z : RzV γ}
end
section
variable {W : Wd} {G : Gam} {T : Tms} {cs : Cells} {K : Sl → Cells → Prop} {ta tb : TE}
end
end ML

namespace ML
open PySem PySem.Spec PyProof.Rows L2 L2H
section
variable {CX : CXT} {P : Program} {w : World} {K : PySem.W.Frag} {mg : Str → Option Value} {base : Heap}
end
section
variable {X : L2.Cx} {k : Nat} {C f : Addr} {fd : FuncData} {ps : List Str} {sp : Sp} {dvs : List V} {ds : List Value} {Wx : WX} {x : Str} {p pos : Pos} {e : Expr} {es : List Expr} {t : TA}
end
section
variable {nx bk ct : L2.St → Hp → Prop} {rt : VK}
variable {W : Wd} {G : Gam} {cs : Cells}
end
end ML

namespace ML
open PySem PySem.Spec PyProof.Rows L2 SX
section
variable {nx bk ct : L2.St → Hp → Prop} {rt : VK}
variable {W : Wd} {G : Gam} {T : Tms} {cs : Cells} {K : Sl → Cells → Prop} {ta tb te : TE}
end
section
variable {nx bk ct : L2.St → Hp → Prop} {rt : VK} {W : Wd} {G : Gam} {xt : XTL} {γ : Type} {rg : R γ} {z : RzV γ}
end
end ML

namespace ML
open PySem PySem.Spec PyProof.Rows L2 SX
section
variable {α : Type} {r : R α}
end
section
variable {W : Wd} {G : Gam} {T : Tms} {cs : Cells} {K : Sl → Cells → Prop} {to ta tb : TE} {t : TA} {KF : PySem.W.Frag}
end
end ML

namespace ML
open PySem PySem.Spec PyProof.Rows L2 SX
section
variable {P : Program} {M : Model} {w : World} {A : Around} {E : Value → Shared → Prop} {R : Result → Shared → Prop} {hp : Heap} {gs : Array GenState} {dr : Drawn} {tk : Nat} {os : OsState}
variable {nm q : Str} {C N : Addr} {bs bm bmB : List Value} {hdct : Bool} {sn : List Str} {sub : List Value} {ab : Bool} {col : Option Bool} {dd : Option Addr} {k0 k1 k2 k3 k5 : Option Value} {B newId initId : String}
end
section
variable {X : L2.Cx} {CX : CXT} {x : Str} {C fI : Addr} {k : Nat} {fd : FuncData} {ps ks : List Str} {sp : Sp} {e : Expr} {es : List Expr} {kws : List Keyword} {ta : TA} {p pos : Pos} {π : List Nat}
end
end ML

namespace ML
open PySem PySem.Spec PyProof.Rows L2 SX
abbrev XL := List (Addr × List Str)
section
variable {W : Wd} {G : Gam} {T : Tms} {cs : Cells} {K : Sl → Cells → Prop} {t : TA} {te : TE} {KF : PySem.W.Frag} {L : XL}
end
section
variable {W : Wd} {G : Gam} {T : Tms} {cs : Cells} {K : Sl → Cells → Prop} {t : TA} {te : TE} {KF : PySem.W.Frag} {L : XL}
end
section
variable {W : Wd} {G : Gam} {T : Tms} {cs : Cells} {K : Sl → Cells → Prop} {t : TA} {te : TE} {KF : PySem.W.Frag} {L : XL}
end
end ML

namespace ML
open PySem PySem.Spec PyProof.Rows L2 SX
section
variable {W : Wd} {G : Gam} {T : Tms} {cs : Cells} {K : Sl → Cells → Prop} {td tk tk1 tk2 tv1 tv2 te : TE}
end
section
variable {W : Wd} {G : Gam} {T : Tms} {cs : Cells} {α β γ : Type}
end
section
variable {K : PySem.W.Frag} {C M f cda cc : Addr} {qual fl file : Str} {st : Stmt} {fd : FuncData}
theorem ErrK.names (E : ErrK K C M f cda cc qual st fd fl file) {ps ks : List Str} {π : List Nat} (h : ∀ (name : Str) (kV doc pm ct : Value) (an : Option Addr) (a : Value) (us : List Value), us.length = ks.length → bindArgs (PySem.W.ksFn name qual (defArgs st) (defBody st) (defScope st) .none kV doc pm an (.ref cda) ct cc) ⟨[a], ks.zip us⟩ = pure (ps.zip (a :: perm π us))) : OwnNames K fd ps ks π := fun s a us hl => by
  obtain ⟨name, kV, doc, pm, ct, oc, an, od, osl, e, lk⟩ := E.fn
  subst e
  exact .of_eq (h name kV doc pm ct an a us hl)
end
structure KitAt (K : PySem.W.Frag) (L : XL) (cv : Value) (n : Nat) (f : Nat → Bool) : Prop where
  h : L.map (fun p => PySem.W.kitOne K (.ref p.1) cv) = (List.range n).map fun i => some (f i)
end ML

namespace ML
open PySem PySem.Spec PyProof.Rows L2 SX
section
variable {nx bk ct : L2.St → Hp → Prop} {rt : VK}
variable {W : Wd} {G : Gam} {T : Tms} {cs : Cells} {K : Sl → Cells → Prop} {t : TA} {to ta tb : TE} {KF : PySem.W.Frag}
end
section
variable {P : Program} {w : World} {A : Around} {E : Value → Shared → Prop} {s : Shared}
end
section
variable {nx bk ct : L2.St → Hp → Prop} {rt : VK}
variable {W : Wd} {G : Gam} {T : Tms} {cs : Cells} {K : Sl → Cells → Prop} {t : TA} {to ta tb : TE} {KF : PySem.W.Frag}
end
structure RDp {α : Type} (r : R α) where
  d : α → PyData
  ok : ∀ {K : PySem.W.Frag} {F H : Hp} {a : α} {v : V}, r.p a F v → Same F H → Dp K H v (d a)
  n : Nat
  dep : ∀ a, (d a).depth ≤ n
def REq.dp {α : Type} [DecidableEq α] {r : R α} (e : REq r) : RDp r := ⟨e.d, fun h s => e.ok h s, e.n, e.dep⟩
section
variable {W : Wd} {G : Gam} {T : Tms} {cs : Cells} {K : Sl → Cells → Prop} {t : TA} {ta tb : TE} {KF : PySem.W.Frag}
end
end ML

namespace ML
open PySem PySem.Spec PyProof.Rows L2 StX ClX
section
variable {X : L2.Cx} {CX : CXT} {k : Nat} {C p g f a dx : Addr} {mc : Value} {fs : List (Str × V)} {n m x : Str} {fd : FuncData} {ps ks : List Str} {π : List Nat} {sp : Sp} {dvs : List V} {ds : List Value} {E : XK} {e o fe : Expr} {es : List Expr} {kws : List Keyword} {pos apos q : Pos} {ta tf : TE} {t : TA} {pl : Sem Bool}
end
section
variable {W : Wd} {G : Gam} {T : Tms} {cs : Cells} {K : Sl → Cells → Prop} {t : TA} {ta te tf : TE} {KF : PySem.W.Frag}
end
end ML

namespace ML
open PySem PySem.Spec PyProof.Rows L2 GenW StX SX
theorem LeanS.tx {a : List Nat} : LeanS (rTx.at a) := fun _ _ h => h
theorem LeanS.lst {α : Type} {r : R α} (h : LeanR r) {xs : List α} : LeanS ((rLst r).at xs) := fun M v ⟨h0, a, vs, h1, h2, h3⟩ => ⟨h0, a, vs, h1, lean_lst h2, h3.imp fun x u q => h x M u q⟩
theorem LeanR.two {α β : Type} {r : R α} {q : R β} (hr : LeanR r) (hq : LeanR q) : LeanR (rPair r q) := fun x M v ⟨a, u, w, h1, h2, h3, h4⟩ => ⟨a, u, w, h1, lean_tupA h2, hr _ M u h3, hq _ M w h4⟩
section
variable {W : Wd} {F Hc Hd G0 G1 : Hp} {cs : Cells}
end
section
variable {X : L2.Cx} {α : Type} {r : R α} {sp : List V → Hp → List α → Prop} {k : Nat} {f C : Addr} {fd : FuncData} {ps : List Str} {x m : Str} {p pos pos' apos : Pos} {o : Expr} {ta : TE}
end
section
variable {W : Wd} {G : Gam} {T : Tms} {cs : Cells} {K : Sl → Cells → Prop} {ta : TE}
end
end ML

namespace ML
open PySem PySem.Spec PyProof.Rows L2 SX StX ClX
section
variable {W : Wd} {G : Gam} {T : Tms} {cs : Cells} {K : Sl → Cells → Prop} {xt : XTL} {γ : Type} {rg : R γ} {z : RzV γ}
end
section
variable {W : Wd} {G : Gam} {T : Tms} {cs : Cells} {K : Sl → Cells → Prop} {to ta tb : TE} {t : TA} {KF : PySem.W.Frag}
end
structure RE0 {α : Type} [DecidableEq α] (r : R α) where
  d : α → PyData
  ok : ∀ {K : PySem.W.Frag} {F H : Hp} {a : α} {v : V}, r.p a F v → Same F H → Dp K H v (d a)
  n : Nat
  dep : ∀ a, (d a).depth ≤ n
  eqv : ∀ a b, PyData.eqv (d a) (d b) = decide (a = b)
def e0 {α : Type} [DecidableEq α] {r : R α} (e : REq r) : RE0 r := ⟨e.d, fun h s => e.ok h s, e.n, e.dep, e.eqv⟩
section
variable {α β γ δ : Type} {r : R α} [DecidableEq α] [DecidableEq β] [DecidableEq γ] [DecidableEq δ]
end
section
variable {W : Wd} {G : Gam} {T : Tms} {cs : Cells} {K : Sl → Cells → Prop} {ta tb : TE} {KF : PySem.W.Frag}
end
end ML

namespace ML
open PySem PySem.Spec PyProof.Rows L2 SX
section
variable {W : Wd} {G : Gam} {T : Tms} {cs : Cells} {K : Sl → Cells → Prop} {ta tb : TE}
end
section
variable {W : Wd} {G : Gam} {T : Tms} {cs : Cells} {K : Sl → Cells → Prop} {te : TE} {KF : PySem.W.Frag}
end
section
variable {W : Wd} {G : Gam} {T : Tms} {cs : Cells} {K : Sl → Cells → Prop} {ta tb : TE}
end
section
variable {W : Wd} {G : Gam} {T : Tms} {cs : Cells} {K : Sl → Cells → Prop} {t : TA} {KF : PySem.W.Frag}
end
end ML

namespace ML
open PySem PySem.Spec PyProof.Rows L2 SX
section
variable {X : L2.Cx}
variable {es : List Expr} {pos : Pos}
variable {o e : Expr} {to : TE} {t : TA} {name : Str} {apos cpos : Pos} {id : String} {r : V → List V → Hp → VK → Prop}
end
section
variable {nx bk ct : L2.St → Hp → Prop} {rt : VK}
variable {W : Wd} {G : Gam} {T : Tms} {cs : Cells} {K : Sl → Cells → Prop} {t : TA} {te ta tb to : TE} {KF : PySem.W.Frag}
end
end ML

namespace ML
open PySem PySem.Spec PyProof.Rows L2 SX
section
variable {X : L2.Cx} {C f : Addr} {fd : FuncData} {ps : List Str} {sp : Sp} {k : Nat} {CX : L2.CXT} {ds : List Value} {dvs : List V} {E : XK} {a b : Expr} {ta tb : TE} {pos : Pos}
end
section
variable {nx bk ct : L2.St → Hp → Prop} {rt : VK}
variable {W : Wd} {G : Gam} {T : Tms} {cs : Cells} {K : Sl → Cells → Prop} {t : TA} {te ta tb to : TE} {KF : PySem.W.Frag}
end
end ML

namespace ML
open PySem PySem.Spec PyProof.Rows L2 SX
section
variable {X : L2.Cx} {k : Nat} {C f : Addr} {fd : FuncData} {ps : List Str} {sp : Sp} {dvs : List V} {ds : List Value} {Wx : WX} {m : Str} {apos pos : Pos} {o e : Expr} {es : List Expr} {ta : TE} {t : TA}
end
section
variable {nx bk ct : L2.St → Hp → Prop} {rt : VK}
variable {W : Wd} {G : Gam} {T : Tms} {cs : Cells} {K : Sl → Cells → Prop} {t : TA} {te ta tb to : TE} {KF : PySem.W.Frag}
end
end ML

namespace ML
open PySem PySem.Spec PyProof.Rows L2 SX
section
variable {W : Wd} {G : Gam} {T : Tms} {cs : Cells} {K : Sl → Cells → Prop} {t : TA} {te ta tb to tq : TE} {KF : PySem.W.Frag}
end
section
variable {nx bk ct : L2.St → Hp → Prop} {rt : VK}
variable {W : Wd} {G : Gam} {T : Tms} {cs : Cells}
end
end ML

namespace ML
open PySem PySem.Spec PyProof.Rows L2 SX StX ClX
section
variable {W : Wd} {G : Gam} {T : Tms} {cs cs1 : Cells} {K : Sl → Cells → Prop} {xt : XTL} {γ : Type} {rg : R γ} {z : RzV γ}
end
section
variable {nx bk ct : L2.St → Hp → Prop} {rt : VK} {W : Wd} {Aft : Wd → Prop} {G : Gam} {xt : XTL} {γ : Type} {rg : R γ} {z : RzV γ}
end
section
variable {X : L2.Cx} {C f : Addr} {fd : FuncData} {ps : List Str} {sp : Sp} {k : Nat} {CX : L2.CXT} {ds : List Value} {dvs : List V} {E : XK} {o i value : Expr} {to ti tv : TE} {pos pos' : Pos}
end
section
variable {nx bk ct : L2.St → Hp → Prop} {rt : VK} {W : Wd} {G : Gam} {cs : Cells} {to ti tv : TE}
end
end ML

namespace ML
open PySem PySem.Spec PyProof.Rows L2 SX StX ClX
structure PinA (outer : List Env) (H : Hp) (s : Shared) (a : Addr) (oe : Obj) : Prop where
  get : s.heap.get? a = some oe
  free : H a = none
  nofs : a ∉ frs outer
structure FnP (P : Program) (w : World) (K : PySem.W.Frag) (mg : Str → Option Value) (base : Heap) (k : Nat) (f : Addr) (fd : FuncData) (ps : List Str) (sp : Addr → Value → Option Addr → Sp) : Prop where
  len : ∀ a cls d vs H Q E, sp a cls d vs H Q E → vs.length = ps.length
  go : ∀ (a : Addr) (oe : Obj) (cls : Value) (d : Option Addr) (A : Around) (ou : List Env) (s : Shared) (H : Hp) (ar : PySem.Args) (us : List Value) (vs : List V) (Q : VK) (E : XK), Ca oe cls d → PinA ou H s a oe → RoomG k A → Env0 P w K mg base A ou s H → BindsTo s fd ar (ps.zip us) → Vals vs us → sp a cls d vs H Q E →
    codeAny (model P w) A (.call (.ref f) ar) (CR CX0 ou P w H s Q E) s
section
variable {X : Cx} {k : Nat} {f a : Addr} {oe : Obj} {cls : Value} {d : Option Addr} {fd : FuncData} {ps : List Str} {sp : Addr → Value → Option Addr → Sp} {E : XK} {x : Str} {p pos : Pos} {e : Expr} {es : List Expr} {t : TA}
end
section
variable {W : Wd} {G : Gam} {T : Tms} {cs : Cells} {K : Sl → Cells → Prop} {t : TA}
end
section
variable {W : Wd} {G : Gam} {T : Tms} {cs : Cells} {K : Sl → Cells → Prop} {t : TA} {to : TE} {KF : PySem.W.Frag}
end
section
variable {W : Wd} {G : Gam} {T : Tms} {cs : Cells} {K : Sl → Cells → Prop} {t : TA}
end
section
variable {W : Wd} {G : Gam} {T : Tms} {cs cs1 : Cells} {K : Sl → Cells → Prop} {xt : XTL} {γ : Type} {rg : R γ} {z : RzV γ} {te to ti : TE}
end
end ML

namespace ML
open PySem PySem.Spec PyProof.Rows L2 SX StX ClX
section
variable {X : Cx} {CX : CXT} {k : Nat} {C f : Addr} {fd : FuncData} {ps : List Str} {sp : Sp} {dvs : List V} {ds : List Value} {E : XK}
end
section
variable {W : Wd} {G : Gam} {T : Tms} {cs : Cells} {K : Sl → Cells → Prop} {KF : PySem.W.Frag} {ta tb : TE}
end
theorem NxT.noT {P : L2.St → Hp → Prop} {W : Wd} {G : Gam} {T : Tms} {cs : Cells} (h : NxT P W G [] cs) : NxT P W G T cs := fun s H ⟨F, c, sg, _⟩ => h s H ⟨F, c, sg, Temps.nil⟩
end ML

namespace ML
open PySem Spec PyProof.Rows L2
end ML

namespace ML
open PySem PySem.Spec PyProof.Rows L2
structure ErrG (K : PySem.W.Frag) (D M : Addr) (fl : List Str) : Prop where
  excD : ExcD K D
  exm : PySem.W.exmOne K (.ref D) (.ref M) = some true
  val : PySem.W.kitOne K (.ref D) (.type "ValueError") = some true
  xf : ∀ f, fl = [f] → XfC K D ∧ PySem.W.findIn K (.ref D) f = some none
structure KitA (K : PySem.W.Frag) (L : List Addr) (cv : Value) (f : Nat → Bool) : Prop where
  h : L.map (fun a => PySem.W.kitOne K (.ref a) cv) = (List.range L.length).map fun i => some (f i)
theorem KitA.at {K : PySem.W.Frag} {L : List Addr} {cv : Value} {f : Nat → Bool} (k : KitA K L cv f) {i : Nat} {a : Addr} {b : Bool} (ha : L[i]? = .some a) (hb : f i = b) : PySem.W.kitOne K (.ref a) cv = .some b := by
  have e := congrArg (fun z => z[i]?) k.h
  have hi : i < L.length := (List.getElem?_eq_some_iff.mp ha).1
  simp only [List.getElem?_map, ha, List.getElem?_range hi, Option.map_some] at e
  rw [Option.some.inj e, hb]
theorem OdS.some {fl : List Str} {od : Option Addr} (h : OdS fl od) (ne : fl ≠ []) : ∃ dd, od = .some dd := by
  match fl, h, ne with
  | [], _, ne => exact absurd rfl ne
  | _ :: _, h, _ => exact h
section
variable {W : Wd} {G : Gam} {T : Tms} {cs : Cells} {K : Sl → Cells → Prop} {t : TA} {te ta tb : TE} {KF : PySem.W.Frag}
end
end ML

namespace ML
open PySem PySem.Spec PyProof.Rows L2
section
variable {nx bk ct : L2.St → Hp → Prop} {rt : VK}
variable {W : Wd} {G : Gam} {T : Tms} {cs : Cells} {K : Sl → Cells → Prop} {t : TA} {te ta tb to : TE} {KF : PySem.W.Frag}
end
section
variable {W : Wd} {G : Gam} {T : Tms} {cs : Cells} {K : Sl → Cells → Prop} {ta tb te : TE} {KF : PySem.W.Frag}
end
theorem Rt.perm {W : Wd} {P : VK} {sl : Sl} {cs cs' : Cells} (p : cs'.Perm cs) (h : Rt P W sl cs) : Rt P W sl cs' := fun v H ⟨F, c, q⟩ => h v H ⟨F, c.perm p, q⟩
section
variable {nx bk ct : L2.St → Hp → Prop} {rt : VK} {W : Wd} {G : Gam} {T : Tms} {cs : Cells} {to ti tv : TE}
end
end ML

namespace ML
open PySem PySem.Spec PyProof.Rows L2 GenW
section
variable {α : Type} {g : GK (α := α)} {k : Nat} {Gm Gm' : Gam} {T : Tms} {cs cs' : Cells} {ip : List (Addr × Obj)} {ex : List Addr} {c : Code} {fs : List PySem.Frame} {K : Flow → Sem PySem.Fin} {J : Value → Sem PySem.Fin} {gd : Bool → Bool} {lv : List Value → List Value} {st : Stmt} {rest body orelse : List Stmt} {pos : Pos}
end
end ML

namespace ML
open PySem PySem.Spec PyProof.Rows L2 GenW
section
variable {X : Cx} {α : Type} {r : R α} {sp : List V → Hp → List α → Prop} {k : Nat} {f : Addr} {fd : FuncData} {ps : List Str} {m : Str} {C : Addr} {pos pos' apos : Pos} {o : Expr} {ta : TE} {tg : Expr} {tgt : TG}
end
end ML

namespace ML
open PySem PySem.Spec PyProof.Rows L2
section
variable {p dx d C : Addr} {fs : List (Str × V)} {us : List V} {H : Hp}
end
section
variable {W : Wd} {G : Gam} {T : Tms} {cs : Cells} {K : Sl → Cells → Prop} {α : Type} {r : R α} {sp : List V → Hp → List α → Prop} {ta : TE} {g : TG} {tt : TT} {te : TE} {vs is : List Nat} {C : Addr} {mn : Str}
end
end ML

namespace ML
open PySem PySem.Spec PyProof.Rows L2 GenW StX SX
theorem TupS.tx {a : List Nat} : TupS (rTx.at a) := fun _ _ h => h
section
variable {α β γ δ : Type} {r : R α} {q : R β} {o : R γ} {z : R δ}
end
section
variable {α : Type} {g : GK (α := α)} {Gm : Gam} {ip : List (Addr × Obj)} {c : Code} {fs : List PySem.Frame} {K : Flow → Sem PySem.Fin} {J : Value → Sem PySem.Fin} {gd : Bool → Bool} {lv : List Value → List Value} {body : List Stmt} {pos : Pos}
end
section
variable {W : Wd} {G : Gam} {T : Tms} {cs : Cells} {K : Sl → Cells → Prop} {α : Type} {r : R α} {sp : List V → Hp → List α → Prop} {ta : TE} {g : TG} {tt : TT} {te : TE} {vs is : List Nat} {C : Addr} {mn : Str}
end
end ML

namespace ML
open PySem PySem.Spec PyProof.Rows L2
section
variable {nx bk ct : L2.St → Hp → Prop} {rt : VK} {W : Wd} {G : Gam} {T : Tms} {cs : Cells}
end
end ML

namespace ML
open PySem PySem.Spec PyProof.Rows L2
section
variable {W : Wd} {G : Gam} {T : Tms} {cs : Cells} {K : Sl → Cells → Prop} {ta : TE} {KF : PySem.W.Frag}
end
end ML

namespace ML
open PySem PySem.Spec PyProof.Rows L2 SX
section
variable {α : Type}
variable {r : R α} {F F' : Hp}
end
section
variable {nx bk ct : L2.St → Hp → Prop} {rt : VK}
variable {W : Wd} {G : Gam} {T : Tms} {cs : Cells} {K : Sl → Cells → Prop} {t : TA} {ta tb tc te to ti td tk : TE} {tt : TT} {KF : PySem.W.Frag}
end
end ML

namespace ML
open PySem PySem.Spec PyProof.Rows L2 SX
section
variable {X : Cx} {e : Expr} {te : TE} {np atp cp lp : Pos}
end
section
variable {nx bk ct : L2.St → Hp → Prop} {rt : VK}
variable {W : Wd} {G : Gam} {T : Tms} {cs : Cells} {K : Sl → Cells → Prop} {t : TA} {ta tb tc te to ti td tk tv1 tv2 tv3 tv4 tv5 : TE} {tt : TT} {KF : PySem.W.Frag}
end
end ML

namespace ML
open PySem PySem.Spec PyProof.Rows L2
section
variable {nx bk ct : L2.St → Hp → Prop} {rt : VK}
variable {W : Wd} {G : Gam} {T : Tms} {cs : Cells} {K : Sl → Cells → Prop} {t : TA}
end
end ML

namespace ZL
open PySem PySem.W PySem.Calls PyProof.Rows PyProof.V PySem.Spec L2
section
variable {prog : Program} {w : World} {A : Around} {E : Value → Shared → Prop} {s : Shared} {z TI TO i1 i2 l1 l2 S : Addr} {xs ys : Array Value}
def ZS (h : Heap) (z TI TO i1 i2 l1 l2 S : Addr) (xs ys : Array Value) (i : Nat) : Prop :=
  ((IsZip h z TI TO .none ∧ ∃ a b, IsPair h TO a b) ∨ ∃ T f oT, IsZipHeld h z TI TO T f ∧ h.get? T = some oT ∧ T ≠ z ∧ T ≠ i1 ∧ T ≠ i2 ∧ T ≠ S) ∧
  IsPair h TI (.ref i1) (.ref i2) ∧ h.IsListIter i1 l1 i ∧ h.IsListIter i2 l2 i ∧ h.IsList l1 xs ∧ h.IsList l2 ys
structure Low (z TI TO i1 i2 l1 l2 S : Addr) : Prop where
  z : z < S
  TI : TI < S
  TO : TO < S
  i1 : i1 < S
  i2 : i2 < S
  l1 : l1 < S
  l2 : l2 < S
theorem ZS.keep {h h' : Heap} {i : Nat} (L : Low z TI TO i1 i2 l1 l2 S) (st : ZS h z TI TO i1 i2 l1 l2 S xs ys i) (k : ∀ b o, b ≠ S → h.get? b = some o → h'.get? b = some o) : ZS h' z TI TO i1 i2 l1 l2 S xs ys i := by
  obtain ⟨hz, hTI, h1, h2, p1, p2⟩ := st
  refine ⟨?_, k _ _ (Nat.ne_of_lt L.TI) hTI, h1.at fun o e => k _ o (Nat.ne_of_lt L.i1) e, h2.at fun o e => k _ o (Nat.ne_of_lt L.i2) e, p1.at fun o e => k _ o (Nat.ne_of_lt L.l1) e, p2.at fun o e => k _ o (Nat.ne_of_lt L.l2) e⟩
  rcases hz with ⟨q, a, b, q2⟩ | ⟨T, f, oT, q, q2, n1, n2, n3, n4⟩
  · exact .inl ⟨k _ _ (Nat.ne_of_lt L.z) q, a, b, k _ _ (Nat.ne_of_lt L.TO) q2⟩
  · exact .inr ⟨T, f, oT, k _ _ (Nat.ne_of_lt L.z) q, k _ _ n4 q2, n1, n2, n3, n4⟩
theorem ZS.all {h h' : Heap} {i : Nat} (st : ZS h z TI TO i1 i2 l1 l2 S xs ys i) (k : ∀ b o, h.get? b = some o → h'.get? b = some o) : ZS h' z TI TO i1 i2 l1 l2 S xs ys i := by
  obtain ⟨q, hTI, h1, h2, p1, p2⟩ := st
  refine ⟨?_, k _ _ hTI, h1.at fun o e => k _ o e, h2.at fun o e => k _ o e, p1.at fun o e => k _ o e, p2.at fun o e => k _ o e⟩
  rcases q with ⟨q, a, b, q2⟩ | ⟨T, f, oT, q, q2, n1, n2, n3, n4⟩
  · exact .inl ⟨k _ _ q, a, b, k _ _ q2⟩
  · exact .inr ⟨T, f, oT, k _ _ q, k _ _ q2, n1, n2, n3, n4⟩
structure ZG (xs ys : Array Value) (lo : Addr) (h : Heap) (as : List Addr) : Prop where
  rise : as.Pairwise (· < ·)
  above : ∀ a ∈ as, lo < a
  pairs : ∀ (j : Nat) (a : Addr), as[j]? = some a → ∃ x y, xs[j]? = some x ∧ ys[j]? = some y ∧ IsPair h a x y
theorem ZG.there {lo : Addr} {h : Heap} {as : List Addr} (g : ZG xs ys lo h as) {a : Addr} (ha : a ∈ as) : a < h.objs.size := by
  obtain ⟨j, hj⟩ := List.mem_iff_getElem?.mp ha
  obtain ⟨_, _, _, _, e⟩ := g.pairs j a hj
  exact Heap.lt_size e
end
section
variable {prog : Program} {w : World} {A : Around} {s : Shared} {z TI TO i1 i2 l1 l2 S : Addr} {xs ys : Array Value} {R : Result → Shared → Prop}
end
section
variable {X : Cx}
end
end ZL
namespace ML
open PySem PySem.Spec PyProof.Rows L2
section
variable {W : Wd} {G : Gam} {T : Tms} {cs : Cells} {K : Sl → Cells → Prop} {t : TA} {KF : PySem.W.Frag}
end
end ML

namespace ML
open PySem PySem.Spec PyProof.Rows L2
end ML

namespace ML
open PySem PySem.Spec PyProof.Rows L2
section
variable {W : Wd} {G : Gam} {T : Tms} {cs : Cells} {K : Sl → Cells → Prop} {t : TA}
end
section
variable {W : Wd} {G : Gam} {T : Tms} {cs : Cells} {K : Sl → Cells → Prop} {ta : TE} {KF : PySem.W.Frag}
end
end ML

namespace ML
open PySem PySem.Spec PyProof.Rows L2 SX
section
variable {W : Wd} {G : Gam} {T : Tms} {cs : Cells} {K : Sl → Cells → Prop} {t : TA}
end
end ML

namespace ML
open PySem PySem.Spec PyProof.Rows L2 SX
mutual
def noD : PyData → Bool
  | .none => true
  | .bool _ => true
  | .int _ => true
  | .str _ => true
  | .list ds => noDs ds
  | .tuple ds => noDs ds
  | _ => false
def noDs : List PyData → Bool
  | [] => true
  | d :: ds => noD d && noDs ds
end
mutual
theorem dp_of {K : PySem.W.Frag} {F H : Hp} (s : Same F H) : ∀ {d : PyData} {v : V}, noD d = true → Dq F v d → Dp K H v d
  | .none, _, _, h => by cases h; exact .non
  | .bool b, _, _, h => by cases h; exact .bl b
  | .int i, _, _, h => by cases h; exact .int i
  | .str x, _, _, h => by cases h; exact .str x
  | .list ds, _, n, h => by
    cases h with
    | lst _ _ e q => exact .lst (SqL.of (s _ _ e)) (dps_of s n q)
  | .tuple ds, _, n, h => by
    cases h with
    | tup _ e q => exact .tup (TupA.sq s e) (dps_of s n q)
  | .dict _, _, n, _ => by cases n
theorem dps_of {K : PySem.W.Frag} {F H : Hp} (s : Same F H) : ∀ {ds : List PyData} {vs : List V}, noDs ds = true → DqAll F vs ds → DpAll K H vs ds
  | [], _, _, h => by cases h; exact .nil
  | d :: ds, _, n, h => by
    have n : (noD d && noDs ds) = true := n
    rw [Bool.and_eq_true] at n
    cases h with
    | cons a q => exact .cons (dp_of s n.1 a) (dps_of s n.2 q)
end
section
variable {W : Wd} {G : Gam} {T : Tms} {cs : Cells} {K : Sl → Cells → Prop} {t : TA} {ta tb : TE} {KF : PySem.W.Frag}
end
end ML

namespace ML
open PySem PySem.Spec PyProof.Rows L2 SX StX
def keyV (v : Value) : Str := match v with | .str k _ => k | _ => ⟨#[]⟩
def keyX (e : Int × Value) : Str := keyV e.2
def GoodX (P : Program) (w : World) (e : Int × Value) : Prop := ∃ k tk, e.2 = Value.str k tk ∧ e.1 = (PySem.strKind P w).hash k
def SetX (P : Program) (w : World) (h : Heap) (a : Addr) (S : Str → Prop) (n : Nat) : Prop :=
  ∃ o es ep t, h.get? a = some o ∧ o.ExactSet ∧ o.data = .set es ep t ∧ (∀ e ∈ es.toList, GoodX P w e) ∧ (es.toList.map keyX).Nodup ∧ (∀ k, S k ↔ k ∈ es.toList.map keyX) ∧
    es.size < scanBound ∧ t.fits es.size = true ∧ es.size = n ∧ Ris t.place.toList ∧ (w.params.followText "set-order" = true ∨ t.led = true)
section
variable {P : Program} {w : World} {A : Around} {E : Value → Shared → Prop} {s : Shared} {a : Addr} {S : Str → Prop} {n : Nat} {h h' : Heap}
theorem SetX.at (R : SetX P w h a S n) (k : ∀ o, h.get? a = some o → h'.get? a = some o) : SetX P w h' a S n := by
  obtain ⟨o, es, ep, t, ho, r⟩ := R
  exact ⟨o, es, ep, t, k o ho, r⟩
theorem SetX.congr {S' : Str → Prop} (R : SetX P w h a S n) (e : ∀ k, S' k ↔ S k) : SetX P w h a S' n := by
  have q : S' = S := funext fun k => propext (e k)
  rw [q]; exact R
end
section
variable {P : Program} {w : World} {A : Around} {E : Value → Shared → Prop} {s : Shared}
end
section
variable {W : Wd} {G : Gam} {T : Tms} {cs : Cells} {K : Sl → Cells → Prop} {ta : TE} {KF : PySem.W.Frag}
end
end ML

namespace ML
open PySem PySem.Spec PyProof.Rows L2 StX
section
variable {X : L2.Cx}
structure PBs (X : L2.Cx) (ns : List Str) (t : TGs) : Prop where
  run : ∀ (pins : List (Addr × Obj)) (s : Shared) (σ : L2.St) (H : Hp) (vs : List V) (us : List Value) (Q : L2.St → Hp → Prop), Inv X pins σ H s → Vals vs us → t vs σ H Q →
    wpAny (model X.prog X.w) X.A (assignInOrder (ns.map fun n => bindName X.env n) us) (fun _ s' => ∃ σ' H', Inv X pins σ' H' s' ∧ Q σ' H') X.xe s
structure PM (X : L2.Cx) (cs : List MatchCase) (t : Str → List V → TS) : Prop where
  run : ∀ (first : Bool) (pins : List (Addr × Obj)) (s : Shared) (σ : L2.St) (H : Hp) (D : Ends) (a y : Addr) (w : Str) (xs : List V), Inv X pins σ H s → SqT X.K H a [.str w, .ref y] → SqL X.K H y xs → xs.length ≤ 16384 → t w xs D σ H →
    wpAny (model X.prog X.w) X.A (matchCases cs X.env (.ref a) first) (SP X pins D) X.xe s
end
end ML

namespace ML
open PySem PySem.Spec PyProof.Rows L2 StX SX
section
variable {W : Wd} {G : Gam} {T : Tms} {cs : Cells} {te : TE} {KF : PySem.W.Frag} {β : Type} {r : R β} {w : List Nat} {ys : List β} {D : Ends} {c : Str} {c' : List Nat} {tb : TS} {t : Str → List V → TS}
end
end ML

namespace ML
open PySem PySem.Spec PyProof.Rows L2 StX SX
end ML

namespace ML
open PySem PySem.Spec PyProof.Rows L2 StX SX
def KSq (K : PySem.W.Frag) (a : Addr) (vs : List V) : Prop := ∃ (o : Obj) (its : Array Value) (n : Nat), K.lookup a = some o ∧ o.cls = .type "tuple" ∧ o.data = .seq its n ∧ its.size ≤ sizeLine ∧ Vals vs its.toList
theorem KSq.sq {K : PySem.W.Frag} {F H : Hp} {a : Addr} {vs : List V} (e : Same F H) (h : TupA F a vs ∨ KSq K a vs) : SqT K H a vs := h.elim (fun h => TupA.sq e h) .inr
section
variable {α β : Type} {W : Wd} {G : Gam} {T : Tms} {cs : Cells} {K : Sl → Cells → Prop} {t : TA} {te to : TE} {KF : PySem.W.Frag}
end
structure WDict (K : PySem.W.Frag) (w : World) (p : Addr) (tb : List (List Nat × List (List Nat))) : Prop where
  low : (p == sysModules) = false
  es : ∃ es n, K.lookup p = some ⟨.type "dict", none, .dict es n, #[]⟩ ∧ PySem.W.KeysLit w.params es.toList
  hit : ∀ a xs, tb.lookup a = some xs → ∃ q, PySem.W.nsIn K p (S a) = some (some (.ref q)) ∧ KSq K q (xs.map fun t => .str (S t))
  miss : ∀ a, tb.lookup a = none → PySem.W.nsIn K p (S a) = some none
section
variable {W : Wd} {G : Gam} {T : Tms} {cs : Cells} {K : Sl → Cells → Prop} {te to : TE} {KF : PySem.W.Frag} {w : World} {tb : List (List Nat × List (List Nat))}
end
end ML

namespace ML
open PySem PySem.Spec PyProof.Rows L2 StX SX
section
variable {W : Wd} {G : Gam} {T : Tms} {cs : Cells} {K : Sl → Cells → Prop} {t : TA}
end
end ML

namespace ML
open PySem PySem.Spec PyProof.Rows L2 StX SX
section
variable {W : Wd} {G : Gam} {T : Tms} {cs : Cells} {β : Type} {r : R β} {w : List Nat} {ys : List β} {D : Ends} {c : Str} {c' : List Nat} {tb : TS} {t : Str → List V → TS}
end
end ML

namespace ML
open PySem PySem.Spec PyProof.Rows L2 StX SX
section
variable {W : Wd} {G : Gam} {T : Tms} {cs : Cells} {K : Sl → Cells → Prop} {ta tb : TE} {KF : PySem.W.Frag}
end
end ML

namespace ML
open PySem PySem.Spec PyProof.Rows L2 SX
section
variable {nx bk ct : L2.St → Hp → Prop} {rt : VK}
variable {W : Wd} {G : Gam} {T : Tms} {cs : Cells} {to : TE} {KF : PySem.W.Frag}
end
end ML

namespace ML
open PySem PySem.Spec PyProof.Rows L2 SX
instance : Something eBool.d := ⟨fun x => by simp [eBool, PyData.eqv]⟩
section
variable {W : Wd} {G : Gam} {T : Tms} {cs : Cells} {K : Sl → Cells → Prop} {ta tb : TE}
end
end ML

namespace ML
open PySem Spec PyProof.Rows L2 SX
end ML

namespace ML
open PySem Spec PyProof.Rows L2 StX SX
section
variable {W : Wd} {G : Gam} {T : Tms} {cs : Cells} {K : Sl → Cells → Prop} {KJ : List Nat → Cells → Prop} {t : TE} {ts : List TE} {acc : List Nat}
end
end ML

namespace ML
open PySem Spec PyProof.Rows L2 StX SX
section
variable {α : Type} {r : R α} {KF : PySem.W.Frag}
end
end ML

namespace ML
open PySem PySem.Spec PyProof.Rows L2 StX SX
inductive TxI where
  | t (a : List Nat)
  | i (n : Int)
instance : DecidableEq TxI := fun a b => match a, b with
  | .i n, .i m => if h : n = m then isTrue (by rw [h]) else isFalse fun e => h (by cases e; rfl)
  | .t u, .t v => if h : u = v then isTrue (by rw [h]) else isFalse fun e => h (by cases e; rfl)
  | .i _, .t _ => isFalse fun e => by cases e
  | .t _, .i _ => isFalse fun e => by cases e
section
variable {W : Wd} {G : Gam} {T : Tms} {cs : Cells} {K : Sl → Cells → Prop} {ta tb : TE} {KF : PySem.W.Frag}
end
section
variable {W : Wd} {G : Gam} {T : Tms} {cs : Cells} {β : Type} {r : R β} {w : List Nat} {ys : List β} {D : Ends} {c : Str} {c' : List Nat} {tb : TS} {t : Str → List V → TS}
end
end ML

namespace ML
open PySem PySem.Spec PyProof.Rows L2 SX
section
variable {X : L2.Cx} {x : Str} {c : Value} {body suite : List Stmt} {b₀ : Stmt} {np pos pos' : Pos} {tb : WX → TS} {ts : Addr → Value → Option Addr → TS} {Wout : WX}
end
section
variable {nx bk ct : L2.St → Hp → Prop} {rt : VK}
variable {W : Wd} {G : Gam} {T : Tms} {cs : Cells} {to : TE} {KF : PySem.W.Frag}
theorem RtEL.perm {E : XK} {W : Wd} {C : Addr} {fl : List Str} {d : PyData} {cs cs' : Cells} (h : RtEL E W C fl d cs) (p : cs'.Perm cs) : RtEL E W C fl d cs' := fun od H ⟨F, c, pv⟩ => h od H ⟨F, c.perm p, pv⟩
end
end ML

namespace ML
open PySem PySem.Spec PyProof.Rows L2 SX
section
variable {X : L2.Cx} {k : Nat} {C f : Addr} {fd : FuncData} {ps : List Str} {sp : Sp} {dvs : List V} {ds : List Value} {Wx : WX} {x : Str} {p pos : Pos} {e : Expr} {es : List Expr} {t : TA}
end
section
variable {nx bk ct : L2.St → Hp → Prop} {rt : VK}
variable {W : Wd} {G : Gam} {cs : Cells} {KF : PySem.W.Frag}
end
section
variable {W : Wd} {G : Gam} {T : Tms} {cs : Cells} {K : Sl → Cells → Prop} {tt : TT} {t1 t2 : TE}
end
section
variable {nx bk ct : L2.St → Hp → Prop} {rt : VK} {W : Wd} {Aft : Wd → Prop} {G : Gam} {xt : XTL} {γ : Type} {rg : R γ} {z : RzV γ}
end
section
variable {W : Wd} {G : Gam} {T : Tms} {cs : Cells} {K : Sl → Cells → Prop} {t : TA} {KF : PySem.W.Frag}
end
theorem RtEL.same {E : XK} {W : Wd} {C : Addr} {fl : List Str} {d : PyData} {cs cs' : Cells} (h : RtEL E W C fl d cs) (e : cs = cs') : RtEL E W C fl d cs' := e ▸ h
end ML

namespace ML
open PySem PySem.Spec PyProof.Rows L2 SX
section
variable {W : Wd} {G : Gam} {T : Tms} {cs : Cells} {K : Sl → Cells → Prop} {te : TE}
end
section
variable {W : Wd} {G : Gam} {T : Tms} {cs : Cells} {K : Sl → Cells → Prop} {t : TA}
end
end ML

namespace ML
open PySem PySem.Spec PyProof.Rows L2 GenW SX
section
variable {W : Wd} {G : Gam} {T : Tms} {cs : Cells} {K : Sl → Cells → Prop} {te td tk : TE}
end
section
variable {X : Cx} {α : Type} {r : R α} {sp : List V → Hp → List α → Prop} {k : Nat} {f : Addr} {fd : FuncData} {ps : List Str} {m : Str} {C : Addr} {pos pos' apos : Pos} {o : Expr} {ta : TE} {tg : Expr} {tgt : TG} {body : List Stmt} {tb : TS}
end
section
variable {W : Wd} {G : Gam} {T : Tms} {cs : Cells} {K : Sl → Cells → Prop} {ta tb : TE}
end
def TupG (G : Gam) : Prop := ∀ (i : Nat) (s : Sl), G[i]? = some (some s) → TupS s
theorem TupG.nil : TupG [] := fun i sl h => by simp at h
theorem TupG.some {sl : Sl} {G : Gam} (h : TupS sl) (t : TupG G) : TupG (some sl :: G) := fun i s e => by
  cases i with
  | zero => have e : Option.some sl = Option.some s := Option.some.inj e; cases e; exact h
  | succ i => exact t i s e
theorem TupG.none {G : Gam} (t : TupG G) : TupG (none :: G) := fun i s e => by
  cases i with
  | zero => cases e
  | succ i => exact t i s e
theorem TupS.ref {p : Addr} : TupS (sRef p) := fun _ _ h => h
section
variable {W : Wd} {G : Gam} {T : Tms} {cs : Cells} {nx bk ct : L2.St → Hp → Prop} {rt : VK} {α : Type} {r : R α} {sp : List V → Hp → List α → Prop} {ta : TE} {tgt : TG} {tb : TS} {is : List Nat} {C : Addr} {mn : Str}
end
end ML

namespace ML.TK
open PySem Spec PyProof.Rows L2 StX

def KG (a b : Shared) : Prop := ∀ (i : Nat) (x : GenState), a.gens[i]? = some x → b.gens[i]? = some x
theorem KG.self {a : Shared} : KG a a := fun _ _ e => e
theorem KG.trans {a b c : Shared} (x : KG a b) (y : KG b c) : KG a c := fun i g e => y i g (x i g e)
theorem KG.same {a b c : Shared} (x : KG a b) (e : c.gens = b.gens) : KG a c := fun i g q => by rw [e]; exact x i g q

abbrev Pins := List (Addr × Obj)
structure Iv (X : Cx) (ip : Pins) (σ : L2.St) (H : Hp) (s : Shared) : Prop where
  i : Inv X ip σ H s
  g : KG X.s_0 s
theorem Iv.go {X : Cx} {ip ip' : Pins} {σ σ' : L2.St} {H H' : Hp} {s s' : Shared} (J : Iv X ip σ H s) (i : Inv X ip' σ' H' s') (e : s'.gens = s.gens := by rfl) : Iv X ip' σ' H' s' := ⟨i, J.g.same e⟩

def EP (X : Cx) (ip : Pins) (σ : L2.St) (Q : VK) (u : Value) (s' : Shared) : Prop := ∃ v H', Iv X ip σ H' s' ∧ RelV v u ∧ Q v H'
def TP (X : Cx) (ip : Pins) (σ : L2.St) (Q : Bool → Hp → Prop) (b : Bool) (s' : Shared) : Prop := ∃ H', Iv X ip σ H' s' ∧ Q b H'
def AP (X : Cx) (ip : Pins) (σ : L2.St) (Q : List V → Hp → Prop) (us : List Value) (s' : Shared) : Prop := ∃ vs H', Iv X ip σ H' s' ∧ Vals vs us ∧ Q vs H'
def SP (X : Cx) (ip : Pins) (D : Ends) (f : Flow) (s' : Shared) : Prop :=
  match f with
  | .next => ∃ σ' H', Iv X ip σ' H' s' ∧ D.nx σ' H'
  | .brk => ∃ σ' H', Iv X ip σ' H' s' ∧ D.bk σ' H'
  | .cont => ∃ σ' H', Iv X ip σ' H' s' ∧ D.ct σ' H'
  | .ret u => ∃ v σ' H', Iv X ip σ' H' s' ∧ RelV v u ∧ D.rt v H'
abbrev MX (X : Cx) : Model := model X.prog X.w
structure PE (X : Cx) (e : Expr) (t : TE) : Prop where
  run : ∀ (ip : Pins) (s : Shared) (σ : L2.St) (H : Hp) (Q : VK), Iv X ip σ H s → t σ H Q → wpAny (MX X) X.A (eval e X.env) (EP X ip σ Q) X.xe s
structure PT (X : Cx) (e : Expr) (t : TT) : Prop where
  run : ∀ (ip : Pins) (s : Shared) (σ : L2.St) (H : Hp) (Q : Bool → Hp → Prop), Iv X ip σ H s → t σ H Q → wpAny (MX X) X.A (isTrue e X.env (eval e X.env)) (TP X ip σ Q) X.xe s
structure PW (X : Cx) (e : Expr) (t : TT) : Prop where
  run : ∀ (whole : Sem Value) (ip : Pins) (s : Shared) (σ : L2.St) (H : Hp) (Q : Bool → Hp → Prop), Iv X ip σ H s → t σ H Q → wpAny (MX X) X.A (isTrue e X.env whole) (TP X ip σ Q) X.xe s
theorem PW.pt {X : Cx} {e : Expr} {t : TT} (h : PW X e t) : PT X e t := ⟨h.run _⟩
structure PA (X : Cx) (es : List Expr) (t : TA) : Prop where
  run : ∀ (pos : Pos) (ip : Pins) (s : Shared) (σ : L2.St) (H : Hp) (Q : List V → Hp → Prop), Iv X ip σ H s → t σ H Q → wpAny (MX X) X.A (spliced (backTo pos (starEach es X.env))) (AP X ip σ Q) X.xe s
structure PS (X : Cx) (st : Stmt) (t : TS) : Prop where
  run : ∀ (ip : Pins) (s : Shared) (σ : L2.St) (H : Hp) (D : Ends), Iv X ip σ H s → t D σ H → wpAny (MX X) X.A (exec st X.env) (SP X ip D) X.xe s
structure PSs (X : Cx) (st : List Stmt) (t : TS) : Prop where
  run : ∀ (ip : Pins) (s : Shared) (σ : L2.St) (H : Hp) (D : Ends), Iv X ip σ H s → t D σ H → wpAny (MX X) X.A (execs st X.env) (SP X ip D) X.xe s
structure PG (X : Cx) (tgt : Expr) (t : TG) : Prop where
  run : ∀ (ip : Pins) (s : Shared) (σ : L2.St) (H : Hp) (v : V) (u : Value) (Q : L2.St → Hp → Prop), Iv X ip σ H s → RelV v u → t v σ H Q →
    wpAny (MX X) X.A (assign tgt X.env u) (fun _ s' => ∃ σ' H', Iv X ip σ' H' s' ∧ Q σ' H') X.xe s
structure PGs (X : Cx) (ts : List Expr) (t : TGs) : Prop where
  run : ∀ (ip : Pins) (s : Shared) (σ : L2.St) (H : Hp) (vs : List V) (us : List Value) (Q : L2.St → Hp → Prop), Iv X ip σ H s → Vals vs us → t vs σ H Q →
    wpAny (MX X) X.A (assignInOrder ((assignEach ts X.env).map (·.2)) us) (fun _ s' => ∃ σ' H', Iv X ip σ' H' s' ∧ Q σ' H') X.xe s
structure PTs (X : Cx) (ifs : List Expr) (t : TT) : Prop where
  run : ∀ (ip : Pins) (s : Shared) (σ : L2.St) (H : Hp) (Q : Bool → Hp → Prop), Iv X ip σ H s → t σ H Q →
    wpAny (MX X) X.A (forIn ifs true fun c r => if r = true then do let ok ← isTrue c X.env (eval c X.env); pure (ForInStep.yield ok) else pure (ForInStep.yield r)) (TP X ip σ Q) X.xe s
def OpR (X : Cx) (f : Value → Value → Sem Value) (r : R2) : Prop :=
  ∀ (ip : Pins) (s : Shared) (σ : L2.St) (H : Hp) (x y : V) (v u : Value) (Q : VK), Iv X ip σ H s → RelV x v → RelV y u → r x y H Q → wpAny (MX X) X.A (f v u) (EP X ip σ Q) X.xe s
def UnR (X : Cx) (f : Value → Sem Value) (r : V → Hp → VK → Prop) : Prop :=
  ∀ (ip : Pins) (s : Shared) (σ : L2.St) (H : Hp) (x : V) (v : Value) (Q : VK), Iv X ip σ H s → RelV x v → r x H Q → wpAny (MX X) X.A (f v) (EP X ip σ Q) X.xe s
def CallR (X : Cx) (f : Value) (r : List V → Hp → VK → Prop) : Prop :=
  ∀ (ip : Pins) (s : Shared) (σ : L2.St) (H : Hp) (xs : List V) (us : List Value) (Q : VK), Iv X ip σ H s → Vals xs us → r xs H Q → wpAny (MX X) X.A (call f us) (EP X ip σ Q) X.xe s
def IxR (X : Cx) (r : R2) : Prop :=
  ∀ (value slice : Expr) (ip : Pins) (s : Shared) (σ : L2.St) (H : Hp) (x y : V) (v u : Value) (Q : VK), Iv X ip σ H s → RelV x v → RelV y u → r x y H Q →
    subscripted slice false v u = operate [v, u] (getItem v u) → wpAny (MX X) X.A (subscriptTail value slice v u) (EP X ip σ Q) X.xe s
def PIp (X : Cx) (op : Operator) (t : TIp) : Prop := OpR X (inplaceOp op) t

section
variable {X : Cx} {a b e : Expr} {es rest : List Expr} {ta tb te : TE} {pos : Pos}
theorem pe_var {i : Nat} {x : Str} {pos : Pos} (hN : X.N[i]? = some x) (hv : Vis X.env.scope x) (hd : (x == ("__debug__" : Str)) = false := by decide) (hcd : (x == ("__classdict__" : Str)) = false := by decide) : PE X (.Name x pos) (tVar i) := by
  refine ⟨fun ip s σ H Q J ⟨v, e, z⟩ => ?_⟩
  obtain ⟨m, hn, hl⟩ := J.i.loc
  obtain ⟨u, r, l⟩ := hl i x v hN e hv
  have en : EP X ip σ Q u s := ⟨v, H, J, r, z⟩
  rcases l with ⟨k, hm⟩ | ⟨k | k, c, hc, cell⟩
  · exact wpAny_Name (wpAny_loadName_local J.i.ok.kind k hn hm en) hd
  · exact wpAny_Name (wpAny_loadName_cell J.i.ok.kind k hc cell en) hd
  · exact wpAny_Name (wpAny_loadName_free J.i.ok.kind k hc cell en hcd) hd
theorem pv (i : Nat) {x : Str} {pos : Pos} (hN : X.N[i]? = some x := by rfl) (hv : Vis X.env.scope x := by first | exact Or.inl rfl | exact Or.inr (Or.inl rfl) | exact Or.inr (Or.inr rfl)) (hd : (x == ("__debug__" : Str)) = false := by decide)
    (hcd : (x == ("__classdict__" : Str)) = false := by decide) : PE X (.Name x pos) (tVar i) := pe_var hN hv hd hcd
theorem pe_int {i j pos} : PE X (.Constant (.int i) j pos) (tC (.int i)) := ⟨fun _ _ _ H _ J z => wpAny_Constant_int ⟨.int i, H, J.go (J.i.tok _), ⟨_, rfl⟩, z⟩⟩
theorem pe_bltn {x : Str} {v : V} {u : Value} {pos : Pos} (hg : Gl X x) (hm : X.mg x = none) (hv : bootBuiltins x = some u) (r : RelV v u) (hn : x ≠ "__name__" := by decide) (hd : (x == ("__debug__" : Str)) = false := by decide) : PE X (.Name x pos) (tC v) :=
  ⟨fun _ _ _ H _ J z => ld_blt J.i hg hm hv ⟨v, H, J, r, z⟩ hn hd⟩
theorem two (ha : PE X a ta) (hb : PE X b tb) {ip : Pins} {s : Shared} {σ : L2.St} {H : Hp} {R : V → V → Hp → Prop} (J : Iv X ip σ H s) (z : ta σ H fun x H1 => tb σ H1 fun y H2 => R x y H2)
    {α : Type} {Q : α → Shared → Prop} {f : Value → Value → Sem α} (hf : ∀ v u s2 x y H2, Iv X ip σ H2 s2 → RelV x v → RelV y u → R x y H2 → wpAny (MX X) X.A (f v u) Q X.xe s2) :
    wpAny (MX X) X.A (eval a X.env) (fun v s₁ => wpAny (MX X) X.A (eval b X.env) (fun u s₂ => wpAny (MX X) X.A (f v u) Q X.xe s₂) X.xe s₁) X.xe s :=
  thn (ha.run ip s σ H _ J z) fun v s1 ⟨x, H1, J1, r1, q1⟩ => thn (hb.run ip s1 σ H1 _ J1 q1) fun u s2 ⟨y, H2, J2, r2, q2⟩ => hf v u s2 x y H2 J2 r1 r2 q2
theorem pe_op {op : Operator} {r : R2} (ho : OpR X (binaryOp op) r) (ha : PE X a ta) (hb : PE X b tb) : PE X (.BinOp a op b pos) (tOp r ta tb) :=
  ⟨fun ip s σ H Q J z => wpAny_BinOp (two ha hb J z fun v u s2 x y H2 J2 rx ry q => ho ip s2 σ H2 x y v u Q J2 rx ry q)⟩
theorem pe_un {op : UnaryOp} {r : V → Hp → VK → Prop} (ho : UnR X (unaryOp op) r) (ha : PE X a ta) : PE X (.UnaryOp op a pos) (tUn r ta) :=
  ⟨fun ip s σ H Q J z => UnaryOp_ (thn (ha.run ip s σ H _ J z) fun v s1 ⟨x, H1, J1, r1, q1⟩ => ho ip s1 σ H1 x v Q J1 r1 q1)⟩
theorem opI {f : Value → Value → Sem Value} {C : Int → Int → Prop} {g : Int → Int → Int}
    (rl : ∀ (i j : Int) (t u : Tok) (s : Shared) (Q : Value → Shared → Prop) (E : Value → Shared → Prop), C i j → Q (.int (g i j) s.toks) { s with toks := s.toks + 1 } → wpAny (MX X) X.A (f (.int i t) (.int j u)) Q E s) :
    OpR X f (rI C fun i j => .int (g i j)) := fun ip s σ H x y v u Q J rx ry ⟨i, j, e1, e2, hc, q⟩ => by
  subst e1 e2
  obtain ⟨⟨t, rfl⟩, ⟨t', rfl⟩⟩ := And.intro rx ry
  exact rl i j t t' s _ _ hc ⟨V.int (g i j), H, J.go (J.i.tok _), ⟨_, rfl⟩, q⟩
theorem opI0 {f : Value → Value → Sem Value} {g : Int → Int → Int}
    (rl : ∀ (i j : Int) (t u : Tok) (s : Shared) (Q : Value → Shared → Prop) (E : Value → Shared → Prop), Q (.int (g i j) s.toks) { s with toks := s.toks + 1 } → wpAny (MX X) X.A (f (.int i t) (.int j u)) Q E s) :
    OpR X f (rI0 fun i j => .int (g i j)) := fun ip s σ H x y v u Q J rx ry ⟨i, j, e1, e2, q⟩ => by
  subst e1 e2
  obtain ⟨⟨t, rfl⟩, ⟨t', rfl⟩⟩ := And.intro rx ry
  exact rl i j t t' s _ _ ⟨V.int (g i j), H, J.go (J.i.tok _), ⟨_, rfl⟩, q⟩
theorem opB0 {f : Value → Value → Sem Value} {g : Int → Int → Bool}
    (rl : ∀ (i j : Int) (t u : Tok) (s : Shared) (Q : Value → Shared → Prop) (E : Value → Shared → Prop), Q (.bool (g i j)) s → wpAny (MX X) X.A (f (.int i t) (.int j u)) Q E s) :
    OpR X f (rI0 fun i j => .bl (g i j)) := fun ip s σ H x y v u Q J rx ry ⟨i, j, e1, e2, q⟩ => by
  subst e1 e2
  obtain ⟨⟨t, rfl⟩, ⟨t', rfl⟩⟩ := And.intro rx ry
  exact rl i j t t' s _ _ ⟨V.bl (g i j), H, J, rfl, q⟩
theorem unI {f : Value → Sem Value} {g : Int → Int}
    (rl : ∀ (i : Int) (t : Tok) (s : Shared) (Q : Value → Shared → Prop) (E : Value → Shared → Prop), Q (.int (g i) s.toks) { s with toks := s.toks + 1 } → wpAny (MX X) X.A (f (.int i t)) Q E s) :
    UnR X f (rU fun i => .int (g i)) := fun ip s σ H x v Q J rx ⟨i, e1, q⟩ => by
  subst e1
  obtain ⟨t, rfl⟩ := rx
  exact rl i t s _ _ ⟨V.int (g i), H, J.go (J.i.tok _), ⟨_, rfl⟩, q⟩
theorem op_add : OpR X (binaryOp .Add) (rI0 fun i j => .int (i + j)) := opI0 fun _ _ _ _ _ _ _ z => add_int z
theorem op_sub : OpR X (binaryOp .Sub) (rI0 fun i j => .int (i - j)) := opI0 fun _ _ _ _ _ _ _ z => sub_int z
theorem op_and : OpR X (binaryOp .BitAnd) (rI0 fun i j => .int (Builtin.bitAnd i j)) := opI0 fun _ _ _ _ _ _ _ z => and_int z
theorem op_xor : OpR X (binaryOp .BitXor) (rI0 fun i j => .int (Builtin.bitXor i j)) := opI0 fun _ _ _ _ _ _ _ z => xor_int z
theorem op_shlW : OpR X (binaryOp .LShift) (rI CShl fun i j => .int (i * 2 ^ j.toNat)) := opI fun _ _ _ _ _ _ _ hc z => lshift_int hc.1 hc.2 z
theorem iop_and : OpR X (inplaceOp .BitAnd) (rI0 fun i j => .int (Builtin.bitAnd i j)) := opI0 fun _ _ _ _ _ _ _ z => iand_int z
theorem un_inv : UnR X (unaryOp .Invert) (rU fun i => .int (Builtin.bitNot i)) := unI fun _ _ _ _ _ z => invert_int z
theorem op_ge : OpR X (compareOp .GtE) (rI0 fun i j => .bl (decide (j ≤ i))) := opB0 fun _ _ _ _ _ _ _ z => ge_int z
theorem op_lt : OpR X (compareOp .Lt) (rI0 fun i j => .bl (decide (i < j))) := opB0 fun _ _ _ _ _ _ _ z => lt_int z
theorem put_bl {ip : Pins} {σ : L2.St} {H : Hp} {s : Shared} {Q : VK} {k k' : Bool} (J : Iv X ip σ H s) (q : Q (.bl k) H) (e : k = k') : EP X ip σ Q (.bool k') s := ⟨.bl k, H, J, e ▸ rfl, q⟩
theorem scal_no {x y : V} {P : Prop} (h : scal x y = true) (n : scal x y = false) : P := by rw [n] at h; cases h
theorem op_eq : OpR X (compareOp .Eq) rEq := fun ip s σ H x y v u Q J rx ry ⟨hs, q⟩ => by
  cases x with
  | non =>
    cases rx
    cases y with
    | non => cases ry; exact EqNone.eq_none_none (put_bl J q (by simp))
    | bl j => cases ry; exact EqNone.eq_none_bool (put_bl J q (by simp))
    | int j => obtain ⟨_, rfl⟩ := ry; exact EqNone.eq_none_int (put_bl J q (by simp))
    | str j => obtain ⟨_, rfl⟩ := ry; exact EqNone.eq_none_str (put_bl J q (by simp))
    | _ => exact scal_no hs rfl
  | bl i =>
    cases rx
    cases y with
    | non => cases ry; exact EqNone.eq_bool_none (put_bl J q (by simp))
    | bl j => cases ry; exact eq_bool (put_bl J q dec_bl)
    | str j => obtain ⟨_, rfl⟩ := ry; exact EqMixed.eq_bool_str (put_bl J q (by simp))
    | _ => exact scal_no hs rfl
  | int i =>
    obtain ⟨_, rfl⟩ := rx
    cases y with
    | non => cases ry; exact EqNone.eq_int_none (put_bl J q (by simp))
    | int j => obtain ⟨_, rfl⟩ := ry; exact eq_int (put_bl J q dec_int)
    | str j => obtain ⟨_, rfl⟩ := ry; exact EqMixed.eq_int_str (put_bl J q (by simp))
    | _ => exact scal_no hs rfl
  | str i =>
    obtain ⟨_, rfl⟩ := rx
    cases y with
    | non => cases ry; exact EqNone.eq_str_none (put_bl J q (by simp))
    | bl j => cases ry; exact EqMixed.eq_str_bool (put_bl J q (by simp))
    | int j => obtain ⟨_, rfl⟩ := ry; exact EqMixed.eq_str_int (put_bl J q (by simp))
    | str j => obtain ⟨_, rfl⟩ := ry; exact eq_str (put_bl J q dec_str)
    | _ => exact scal_no hs rfl
  | byt i =>
    obtain ⟨_, rfl⟩ := rx
    cases y with
    | byt j => obtain ⟨_, rfl⟩ := ry; exact PySem.W.eq_bytes (put_bl J q dec_byt)
    | _ => exact scal_no hs rfl
  | _ => cases y <;> exact scal_no hs rfl
theorem op_ne : OpR X (compareOp .NotEq) rNe := fun ip s σ H x y v u Q J rx ry ⟨hs, q⟩ => by
  cases x with
  | non =>
    cases rx
    cases y with
    | non => cases ry; exact EqNone.ne_none_none (put_bl J q (by simp))
    | bl j => cases ry; exact EqNone.ne_none_bool (put_bl J q (by simp))
    | int j => obtain ⟨_, rfl⟩ := ry; exact EqNone.ne_none_int (put_bl J q (by simp))
    | str j => obtain ⟨_, rfl⟩ := ry; exact EqNone.ne_none_str (put_bl J q (by simp))
    | _ => exact scal_no hs rfl
  | bl i =>
    cases rx
    cases y with
    | non => cases ry; exact EqNone.ne_bool_none (put_bl J q (by simp))
    | bl j => cases ry; exact ne_bool (put_bl J q (congrArg not dec_bl))
    | str j => obtain ⟨_, rfl⟩ := ry; exact EqMixed.ne_bool_str (put_bl J q (by simp))
    | _ => exact scal_no hs rfl
  | int i =>
    obtain ⟨_, rfl⟩ := rx
    cases y with
    | non => cases ry; exact EqNone.ne_int_none (put_bl J q (by simp))
    | int j => obtain ⟨_, rfl⟩ := ry; exact ne_int (put_bl J q (congrArg not dec_int))
    | str j => obtain ⟨_, rfl⟩ := ry; exact EqMixed.ne_int_str (put_bl J q (by simp))
    | _ => exact scal_no hs rfl
  | str i =>
    obtain ⟨_, rfl⟩ := rx
    cases y with
    | non => cases ry; exact EqNone.ne_str_none (put_bl J q (by simp))
    | bl j => cases ry; exact EqMixed.ne_str_bool (put_bl J q (by simp))
    | int j => obtain ⟨_, rfl⟩ := ry; exact EqMixed.ne_str_int (put_bl J q (by simp))
    | str j => obtain ⟨_, rfl⟩ := ry; exact ne_str (put_bl J q (congrArg not dec_str))
    | _ => exact scal_no hs rfl
  | byt i =>
    obtain ⟨_, rfl⟩ := rx
    cases y with
    | byt j => obtain ⟨_, rfl⟩ := ry; exact PySem.W.ne_bytes (put_bl J q (congrArg not dec_byt))
    | _ => exact scal_no hs rfl
  | _ => cases y <;> exact scal_no hs rfl
theorem pe_cmpR {op : CmpOp} {r : R2} (ho : OpR X (compareOp op) r) (ha : PE X a ta) (hb : PE X b tb) (hm : behindInMarks op b = false) : PE X (.Compare a [op] [b] pos) (tOp r ta tb) :=
  ⟨fun ip s σ H Q J z => wpAny_Compare1 (two ha hb J z fun v u s2 x y H2 J2 rx ry q => ho ip s2 σ H2 x y v u Q J2 rx ry q) hm⟩
theorem pt_cmpR {op : CmpOp} {r : R2} (ho : OpR X (compareOp op) r) (ha : PE X a ta) (hb : PE X b tb) (hm : behindInMarks op b = false) : PT X (.Compare a [op] [b] pos) (tTest (tOp r ta tb)) := by
  refine ⟨fun ip s σ H Q J z => wpAny_isTrue_Compare1 (two ha hb J z fun v u s2 x y H2 J2 rx ry q => thn (ho ip s2 σ H2 x y v u _ J2 rx ry q) fun c s3 ⟨d, H3, J3, r3, k, e3, q3⟩ => ?_) hm⟩
  subst e3
  cases r3
  exact wpAny_truthy_bool ⟨H3, J3, q3⟩
theorem op_in_seq : OpR X (compareOp .In) (rIn X.K false) := fun ip s σ H x y v u Q J rx ry ⟨p, xs, ey, hq, fx, fs, q⟩ => by
  subst ey
  cases ry
  rcases hq with hq | hq
  · obtain ⟨us, r, pl, _⟩ := J.i.list hq
    refine SeqAt.in_listAt (eqU x) pl.isList (fun w hw => mem_eqAt rx fx r fs w (by simpa using hw)) ⟨.bl _, H, J, rfl, ?_⟩
    rw [show us.toArray.any (eqU x) = us.any (eqU x) by simp, any_eqU r fs]
    exact q
  · obtain ⟨us, r, pl, _⟩ := J.i.tuple hq
    refine SeqAt.in_tupleAt (eqU x) pl (fun w hw => mem_eqAt rx fx r fs w (by simpa using hw)) ⟨.bl _, H, J, rfl, ?_⟩
    rw [show us.toArray.any (eqU x) = us.any (eqU x) by simp, any_eqU r fs]
    exact q
theorem pe_ix {r : R2} (hr : IxR X r) (ha : PE X a ta) (hb : PE X b tb) (hs : PlainIx b) : PE X (.Subscript a b pos) (tOp r ta tb) :=
  ⟨fun ip s σ H Q J z => Subscript_ (two ha hb J z fun v u s2 x y H2 J2 rx ry q => hr a b ip s2 σ H2 x y v u Q J2 rx ry q (hs _ _))⟩
theorem ix_tup : IxR X (rIxT X.K) := fun value slice ip s σ H x y v u Q J rx ry ⟨p, xs, i, z, ex, ey, hq, he, q⟩ hs => by
  subst ex ey
  cases rx
  obtain ⟨t, rfl⟩ := ry
  obtain ⟨us, r, pl, hz⟩ := J.i.tuple hq
  obtain ⟨j, h1, h2, h3, h4, h5⟩ := atI_get he
  obtain ⟨w, ew, rw'⟩ := r.get h2
  have ll := r.length
  have big := line63
  have en : EP X ip σ Q w s := ⟨z, H, J, rw', q⟩
  exact subscriptTail_builtinR (x := w) pl.typeIs slot_tuple_getitem.lookup
    (getItem_tuple (j := j) (Q := fun r s' => r = w ∧ EP X ip σ Q r s') pl (by omega) (by omega) (by rw [List.size_toArray, ← ll]; exact h1) (by simpa using ew) ⟨rfl, en⟩) hs
theorem pt_val {t : TE} (h : PE X e t) (he : ∀ whole, isTrue e X.env whole = (do let v ← whole; standAt e.pos; holding [v] (truthy v)) := by intro _; rfl) : PT X e (tB t) := by
  refine ⟨fun ip s σ H Q J z => isTrue_plain (thn (h.run ip s σ H _ J z) fun v s1 ⟨x, H1, J1, r1, d, ed, q⟩ => ?_) (he _)⟩
  subst ed
  cases r1
  exact wpAny_truthy_bool ⟨H1, J1, q⟩
variable {tA tB' : TT}
theorem pw_or1 (ha : PT X a tA) : PW X (.BoolOp .Or [a] pos) tA := by
  refine ⟨fun wh ip s σ H Q J z => isTrue_or (thn (ha.run ip s σ H Q J z) fun c s1 k => ?_)⟩
  cases c with
  | true => exact k
  | false => exact isTrue_or_nil k
theorem pw_and1 (ha : PT X a tA) : PW X (.BoolOp .And [a] pos) tA := by
  refine ⟨fun wh ip s σ H Q J z => isTrue_and (thn (ha.run ip s σ H Q J z) fun c s1 k => ?_)⟩
  cases c with
  | false => exact k
  | true => exact isTrue_and_nil k
theorem pw_or (ha : PT X a tA) (hb : PW X (.BoolOp .Or (b :: rest) pos) tB') : PW X (.BoolOp .Or (a :: b :: rest) pos) (tOr tA tB') := by
  refine ⟨fun wh ip s σ H Q J z => isTrue_or (thn (ha.run ip s σ H _ J z) fun c s1 ⟨H1, J1, q1⟩ => ?_)⟩
  cases c with
  | false => exact hb.run wh ip s1 σ H1 Q J1 q1
  | true => exact ⟨H1, J1, q1⟩
theorem pw_and (ha : PT X a tA) (hb : PW X (.BoolOp .And (b :: rest) pos) tB') : PW X (.BoolOp .And (a :: b :: rest) pos) (tAnd tA tB') := by
  refine ⟨fun wh ip s σ H Q J z => isTrue_and (thn (ha.run ip s σ H _ J z) fun c s1 ⟨H1, J1, q1⟩ => ?_)⟩
  cases c with
  | false => exact ⟨H1, J1, q1⟩
  | true => exact hb.run wh ip s1 σ H1 Q J1 q1
theorem pt_not (ha : PT X a tA) : PT X (.UnaryOp .Not a pos) (tNot tA) := ⟨fun ip s σ H Q J z => isTrue_not (ha.run ip s σ H (fun c H1 => Q (!c) H1) J z)⟩
theorem pe_one {op} {t : TE} (h : PE X a t) : PE X (.BoolOp op [a] pos) t := ⟨fun ip s σ H Q J z => BoolOp_one (h.run ip s σ H Q J z)⟩
theorem pe_and (ha : PE X a ta) (hb : PE X (.BoolOp .And (b :: rest) pos) tb) : PE X (.BoolOp .And (a :: b :: rest) pos) (tAndV ta tb) := by
  refine ⟨fun ip s σ H Q J z => BoolOp_and (thn (ha.run ip s σ H _ J z) fun v s1 ⟨x, H1, J1, r1, c, ec, q⟩ => ?_)⟩
  subst ec
  cases r1
  refine wpAny_truthy_bool ?_
  cases c with
  | false => exact ⟨.bl false, H1, J1, rfl, q⟩
  | true => exact hb.run ip s1 σ H1 Q J1 q
theorem pe_not (ha : PE X a ta) : PE X (.UnaryOp .Not a pos) (tNotV ta) := by
  refine ⟨fun ip s σ H Q J z => UnaryOp_ (thn (ha.run ip s σ H _ J z) fun v s1 ⟨x, H1, J1, r1, c, ec, q⟩ => ?_)⟩
  subst ec
  cases r1
  exact not_of (wpAny_truthy_bool ⟨.bl (!c), H1, J1, rfl, q⟩)
variable {t : TA} {x : Str} {p : Pos} {id T : String} {r : List V → Hp → VK → Prop}
theorem pa_nil : PA X [] tNil := ⟨fun _ _ _ _ H Q J z => Calls.spliced_nil ⟨[], H, J, .nil, z⟩⟩
theorem pa_cons (ha : PE X e te) (hr : PA X es t) (hs : starEach (e :: es) X.env = (false, eval e X.env) :: starEach es X.env := by rfl) : PA X (e :: es) (tCons te t) := by
  refine ⟨fun pos ip s σ H Q J z => ?_⟩
  rw [hs]
  exact Calls.spliced_cons (thn (ha.run ip s σ H _ J z) fun u s1 ⟨x, H1, J1, r1, q1⟩ => thn (hr.run pos ip s1 σ H1 _ J1 q1) fun us s2 ⟨xs, H2, J2, r2, q2⟩ => ⟨x :: xs, H2, J2, .cons r1 r2, q2⟩)
theorem pe_callB (hc : CallR X (.builtin id) r) (hg : Gl X x) (hm : X.mg x = none) (hv : bootBuiltins x = some (.builtin id)) (ha : PA X (e :: es) t) (hn : x ≠ "__name__" := by decide) (hdb : (x == ("__debug__" : Str)) = false := by decide)
    (he : starEach (e :: es) X.env = (false, eval e X.env) :: starEach es X.env := by rfl) (hpl : (backTo pos (starEach es X.env)).any (·.1) = false := by rfl) : PE X (.Call (.Name x p) (e :: es) [] pos) (tCB r t) :=
  ⟨fun ip s σ H Q J z => wpAny_Call_Name_kw (ld_blt J.i hg hm hv (callWith_builtin1 (thn (ha.run pos ip s σ H _ J z) fun us s1 ⟨vs, H1, J1, r1, q1⟩ => hc ip s1 σ H1 vs us Q J1 r1 q1) he hpl) hn hdb)⟩
theorem pe_callTy (hc : CallR X (.type T) r) (hg : Gl X x) (hm : X.mg x = none) (hv : bootBuiltins x = some (.type T)) (ha : PA X (e :: es) t) (hn : x ≠ "__name__" := by decide) (hdb : (x == ("__debug__" : Str)) = false := by decide)
    (he : starEach (e :: es) X.env = (false, eval e X.env) :: starEach es X.env := by rfl) (hpl : (backTo pos (starEach es X.env)).any (·.1) = false := by rfl) : PE X (.Call (.Name x p) (e :: es) [] pos) (tCB r t) :=
  ⟨fun ip s σ H Q J z => wpAny_Call_Name_kw (ld_blt J.i hg hm hv (callWith_type1 (thn (ha.run pos ip s σ H _ J z) fun us s1 ⟨vs, H1, J1, r1, q1⟩ => hc ip s1 σ H1 vs us Q J1 r1 q1) he hpl) hn hdb)⟩
theorem call_isi : CallR X (.builtin "isinstance") (rIsi X.K) := fun ip s σ H xs us Q J r ⟨x, c, t, u, b, ex, k, ty, e, q⟩ => by
  subst ex
  obtain ⟨u1, u2, rfl, r1, r2⟩ := vals2 r
  have e2 := k.eq r2
  subst e2
  obtain ⟨P, Z, p, hx⟩ := kit_of J.i r1 ty
  exact PySem.W.kia_one Z J.i.kIn p e hx fun tk => ⟨.bl b, H, J.go (J.i.tok tk), rfl, q⟩
theorem cr_all (hc : X.calm = true) : CallR X (.builtin "all") (rAll X.K) := fun ip s σ H vs us Q J r ⟨a, bs, ev, hs, q⟩ => by
  subst ev
  obtain ⟨its, rv, hl, _⟩ := J.i.list hs
  have hb := rv.bls
  rw [Vals.ref1 r]
  refine call_all_walk (iter_any hl.isList fun s₂ e2 st hne => ?_)
  subst e2
  refine ⟨_, _, _, _, _, _, _, rfl, Walks.list (A := X.A.in1) (J.i.ok.hd hc) _ a hne its.toArray, st, truth_bools hb, fun h' tk hk => ?_⟩
  refine ⟨.bl _, H, J.go (J.i.kept fun b o eo => hk b o (fun hm => ?_) (Heap.get?_push_of_some _ eo)), ?_, q⟩
  · rcases List.mem_cons.mp hm with e1 | hm
    · exact absurd (e1 ▸ Heap.lt_size eo) (Nat.lt_irrefl _)
    · cases hm
  · show Value.bool _ = Value.bool _
    rw [← L2.all_range, hb, List.size_toArray, List.length_map]
end
end ML.TK

namespace ML.TK
open PySem Spec PyProof.Rows L2 StX
open Sem (wp)
theorem runs_det {M : Model} {Γ : PySem.Ctx} {p : Pos} {t : Sem PySem.Fin} {fs : List PySem.Frame} {s s' : Shared} {e : PySem.End} (h : Runs M Γ p t fs s e s') :
    ∀ {e₂ : PySem.End} {s₂ : Shared}, Runs M Γ p t fs s e₂ s₂ → e₂ = e ∧ s₂ = s' := by
  induction h with
  | done => intro _ _ k; cases k; exact ⟨rfl, rfl⟩
  | raise => intro _ _ k; cases k; exact ⟨rfl, rfl⟩
  | again _ _ ih => intro _ _ k; cases k with | again _ k => exact ih k
  | rule _ ih => intro _ _ k; cases k with | rule k => exact ih k
  | «at» _ ih => intro _ _ k; cases k with | «at» k => exact ih k
  | load q _ ih => intro _ _ k; cases k with | load q2 k => rw [q] at q2; cases q2; exact ih k
  | update q _ ih => intro _ _ k; cases k with | update _ k => exact ih k
  | loadIfAlive _ ih => intro _ _ k; cases k with | loadIfAlive k => exact ih k
  | point _ ih => intro _ _ k; cases k with | point k => exact ih k
  | alloc _ ih => intro _ _ k; cases k with | alloc k => exact ih k
  | fresh _ ih => intro _ _ k; cases k with | fresh k => exact ih k
  | ask _ ih => intro _ _ k; cases k with | ask k => exact ih k
  | choose q _ ih => intro _ _ k; cases k with | choose _ k => exact ih k
  | os _ ih => intro _ _ k; cases k with | os k => exact ih k
  | handled _ ih => intro _ _ k; cases k with | handled k => exact ih k
  | genState q _ ih => intro _ _ k; cases k with | genState q2 k => rw [q] at q2; cases q2; exact ih k
  | stack _ ih => intro _ _ k; cases k with | stack k => exact ih k
  | thread _ ih => intro _ _ k; cases k with | thread k => exact ih k
  | newGen _ ih => intro _ _ k; cases k with | newGen k => exact ih k
  | call _ _ ih1 ih2 =>
    intro _ _ k
    cases k with
    | call a b =>
      obtain ⟨e1, e2⟩ := ih1 a
      cases e1
      subst e2
      exact ih2 b
    | callSusp a => obtain ⟨e1, _⟩ := ih1 a; cases e1
  | callSusp _ ih =>
    intro _ _ k
    cases k with
    | call a b => obtain ⟨e1, _⟩ := ih a; cases e1
    | callSusp a =>
      obtain ⟨e1, e2⟩ := ih a
      cases e1
      exact ⟨rfl, e2⟩
  | yield => intro _ _ k; cases k; exact ⟨rfl, rfl⟩
  | resumeFresh q _ _ _ ih1 ih2 =>
    intro _ _ k
    cases k with
    | resumeFresh q2 a _ b =>
      rw [q] at q2; cases q2
      obtain ⟨e1, e2⟩ := ih1 a
      subst e1 e2
      exact ih2 b
    | resumeSuspended q2 => rw [q] at q2; cases q2
    | resumeJustStarted q2 n => exact absurd rfl n
    | resumeRunning q2 => rw [q] at q2; cases q2
    | resumeFinished q2 => rw [q] at q2; cases q2
  | resumeSuspended q _ _ _ ih1 ih2 =>
    intro _ _ k
    cases k with
    | resumeFresh q2 => rw [q] at q2; cases q2
    | resumeSuspended q2 a _ b =>
      rw [q] at q2; cases q2
      obtain ⟨e1, e2⟩ := ih1 a
      subst e1 e2
      exact ih2 b
    | resumeJustStarted q2 n => rw [q] at q2; cases q2
    | resumeThrowFresh q2 => rw [q] at q2; cases q2
    | resumeRunning q2 => rw [q] at q2; cases q2
    | resumeFinished q2 => rw [q] at q2; cases q2
  | resumeJustStarted q n _ ih =>
    intro _ _ k
    cases k with
    | resumeFresh q2 => exact absurd rfl n
    | resumeSuspended q2 => rw [q] at q2; cases q2
    | resumeJustStarted _ _ b => exact ih b
    | resumeRunning q2 => rw [q] at q2; cases q2
    | resumeFinished q2 => rw [q] at q2; cases q2
  | resumeThrowFresh q _ ih =>
    intro _ _ k
    cases k with
    | resumeSuspended q2 => rw [q] at q2; cases q2
    | resumeThrowFresh _ b => exact ih b
    | resumeRunning q2 => rw [q] at q2; cases q2
    | resumeFinished q2 => rw [q] at q2; cases q2
  | resumeRunning q _ ih =>
    intro _ _ k
    cases k with
    | resumeFresh q2 => rw [q] at q2; cases q2
    | resumeSuspended q2 => rw [q] at q2; cases q2
    | resumeJustStarted q2 => rw [q] at q2; cases q2
    | resumeThrowFresh q2 => rw [q] at q2; cases q2
    | resumeRunning _ b => exact ih b
    | resumeFinished q2 => rw [q] at q2; cases q2
  | resumeFinished q _ ih =>
    intro _ _ k
    cases k with
    | resumeFresh q2 => rw [q] at q2; cases q2
    | resumeSuspended q2 => rw [q] at q2; cases q2
    | resumeJustStarted q2 => rw [q] at q2; cases q2
    | resumeThrowFresh q2 => rw [q] at q2; cases q2
    | resumeRunning q2 => rw [q] at q2; cases q2
    | resumeFinished _ b => exact ih b
  | segRet _ _ ih1 ih2 =>
    intro _ _ k
    cases k with
    | segRet a b =>
      obtain ⟨e1, e2⟩ := ih1 a
      cases e1
      subst e2
      exact ih2 b
    | segSuspOut _ a => obtain ⟨e1, _⟩ := ih1 a; cases e1
    | segSuspGen _ a => obtain ⟨e1, _⟩ := ih1 a; cases e1
  | segGen _ _ ih1 ih2 =>
    intro _ _ k
    cases k with
    | segGen a b =>
      obtain ⟨e1, e2⟩ := ih1 a
      cases e1
      subst e2
      exact ih2 b
    | segSuspOut _ a => obtain ⟨e1, _⟩ := ih1 a; cases e1
    | segSuspGen _ a => obtain ⟨e1, _⟩ := ih1 a; cases e1
  | segSuspOut q _ ih =>
    intro _ _ k
    cases k with
    | segRet a b => obtain ⟨e1, _⟩ := ih a; cases e1
    | segGen a b => obtain ⟨e1, _⟩ := ih a; cases e1
    | segSuspOut _ a =>
      obtain ⟨e1, e2⟩ := ih a
      cases e1
      exact ⟨rfl, e2⟩
    | segSuspGen q2 _ => rw [q] at q2; cases q2
  | segSuspGen q _ _ _ ih1 ih2 =>
    intro _ _ k
    cases k with
    | segRet a b => obtain ⟨e1, _⟩ := ih1 a; cases e1
    | segGen a b => obtain ⟨e1, _⟩ := ih1 a; cases e1
    | segSuspOut q2 a => rw [q] at q2; cases q2
    | segSuspGen q2 a _ b =>
      rw [q] at q2; cases q2
      obtain ⟨e1, e2⟩ := ih1 a
      cases e1
      subst e2
      exact ih2 b

theorem wakes_det {M : Model} {Γ : PySem.Ctx} {p : Pos} {g : Nat} {r : Resume} {s s₁ s₂ : Shared} {x₁ x₂ : GenResult} (h : Wakes M Γ p g r s x₁ s₁) (k : Wakes M Γ p g r s x₂ s₂) : x₂ = x₁ ∧ s₂ = s₁ := by
  unfold Wakes at h k
  cases q : s.gens[g]? with
  | none => rw [q] at h; exact h.elim
  | some st =>
    rw [q] at h k
    cases st with
    | fresh c =>
      cases r with
      | throw x => exact ⟨k.1.trans h.1.symm, k.2.trans h.2.symm⟩
      | send v =>
        cases v with
        | none =>
          obtain ⟨e, t, hr, _, h1, h2⟩ := h
          obtain ⟨e', t', kr, _, k1, k2⟩ := k
          obtain ⟨e1, e2⟩ := runs_det hr kr
          subst e1 e2
          exact ⟨k1.trans h1.symm, k2.trans h2.symm⟩
        | _ => exact ⟨k.1.trans h.1.symm, k.2.trans h.2.symm⟩
    | suspended k₀ l₀ c₀ p₀ fs cl =>
      obtain ⟨e, t, hr, _, h1, h2⟩ := h
      obtain ⟨e', t', kr, _, k1, k2⟩ := k
      obtain ⟨e1, e2⟩ := runs_det hr kr
      subst e1 e2
      exact ⟨k1.trans h1.symm, k2.trans h2.symm⟩
    | running => exact ⟨k.1.trans h.1.symm, k.2.trans h.2.symm⟩
    | finished => exact ⟨k.1.trans h.1.symm, k.2.trans h.2.symm⟩

theorem wp_both {α : Type} {M : Model} {Γ : PySem.Ctx} (t : Sem α) : ∀ {Q Q' : α → Pos → Shared → Prop} {E E' : Value → Pos → Shared → Prop} {p : Pos} {s : Shared}, wp M Γ t Q E p s → wp M Γ t Q' E' p s →
    wp M Γ t (fun a p' s' => Q a p' s' ∧ Q' a p' s') (fun e p' s' => E e p' s' ∧ E' e p' s') p s := by
  induction t with
  | pure a => exact fun h k => ⟨h, k⟩
  | raise e => exact fun h k => ⟨h, k⟩
  | unsupported _ => exact fun h _ => h
  | finish _ => exact fun h _ => h
  | rule _ _ ih => exact fun h k => ih () h k
  | «at» _ _ ih => exact fun h k => ih () h k
  | load a _ k ih => exact fun ⟨o, e, h⟩ ⟨o', e', h'⟩ => by rw [e] at e'; cases e'; exact ⟨o, e, ih o h h'⟩
  | update a _ f k ih => exact fun h h' => ⟨h.1, ih () h.2 h'.2⟩
  | loadIfAlive a k ih => exact fun h h' => ih _ h h'
  | point _ k ih => exact fun h h' => ih () h h'
  | register _ _ => exact fun h _ => h
  | alloc o k ih => exact fun h h' => ih _ h h'
  | fresh k ih => exact fun h h' => ih _ h h'
  | ask k ih => exact fun h h' => ih _ h h'
  | choose src m k ih => exact fun h h' => ⟨h.1, ih _ h.2 h'.2⟩
  | os q _ k ih => exact fun h h' => ih _ h h'
  | call c hd _ _ k ih =>
    intro Q Q' E E' p s ⟨r, t, hr, h⟩ ⟨r', t', hr', h'⟩
    obtain ⟨e1, e2⟩ := runs_det hr hr'
    cases e1
    subst e2
    exact ⟨r, _, hr, ih r h h'⟩
  | handled own k ih => exact fun h h' => ih _ h h'
  | genState g k ih => exact fun ⟨o, e, h⟩ ⟨o', e', h'⟩ => by rw [e] at e'; cases e'; exact ⟨o, e, ih _ h h'⟩
  | newGen c k ih => exact fun h h' => ih _ h h'
  | resume g r _ k ih =>
    intro Q Q' E E' p s ⟨x, t, hw, h⟩ ⟨x', t', hw', h'⟩
    obtain ⟨e1, e2⟩ := wakes_det hw hw'
    subst e1 e2
    exact ⟨_, _, hw, ih _ h h'⟩
  | yield _ _ _ _ => exact fun h _ => h
  | stack k ih => exact fun h h' => ih _ h h'
  | fork _ _ => exact fun h _ => h
  | thread k ih => exact fun h h' => ih _ h h'
  | await _ _ _ _ _ => exact fun h _ => h
section
variable {α : Type} {M : Model} {A : Around} {s : Shared} {t : Sem α}
theorem any_both {Q Q' : α → Shared → Prop} {E E' : Value → Shared → Prop} (h : wpAny M A t Q E s) (k : wpAny M A t Q' E' s) :
    wpAny M A t (fun a s' => Q a s' ∧ Q' a s') (fun e s' => E e s' ∧ E' e s') s := fun Γ p hΓ => wp_both t (h Γ p hΓ) (k Γ p hΓ)
def Still (M : Model) (A : Around) (t : Sem α) (s : Shared) : Prop := wpAny M A t (fun _ s' => s'.gens = s.gens) (fun _ _ => True) s
theorem with_still {Q : α → Shared → Prop} {E : Value → Shared → Prop} (k : Still M A t s) (h : wpAny M A t Q E s) : wpAny M A t (fun a s' => Q a s' ∧ s'.gens = s.gens) E s :=
  wpAny_mono (any_both h k) (fun _ _ q => q) fun _ _ q => q.1
end
end ML.TK

namespace ML.TK
open PySem Spec PyProof.Rows L2 StX
section
variable {X : Cx} {ip : Pins} {σ : L2.St} {H : Hp} {s : Shared}
theorem still_store {x : Str} {u : Value} {A : Around} (J : Inv X ip σ H s) (hx : Loc X.env.scope x) : Still (MX X) A (storeName X.env x u) s := by
  obtain ⟨m, hn, _⟩ := J.loc
  rcases hx with k | k
  · exact wpAny_storeName_local k hn (fun _ _ _ => rfl) (by rw [J.ok.kind]; rfl)
  · obtain ⟨c, hc⟩ := J.ok.has x (.inl k)
    obtain ⟨_, z⟩ := J.cell x c hc
    exact wpAny_storeName_cell J.ok.kind k hc z fun _ _ _ => rfl
theorem store {i : Nat} {x : Str} {v : V} {u : Value} {Q : Unit → Shared → Prop} (J : Iv X ip σ H s) (hN : X.N.Nodup) (hi : X.N[i]? = some x) (hx : Loc X.env.scope x) (r : RelV v u)
    (h : ∀ s', Iv X ip (σ.set i (some v)) H s' → Q () s') (hf : X.fn x = true ∨ X.env.scope.names.lookup x = some .local) : wpAny (MX X) X.A (storeName X.env x u) Q X.xe s :=
  thn (with_still (still_store J.i hx) (store_ok (Q := fun _ s' => Inv X ip (σ.set i (some v)) H s') J.i hN hi hx r (fun _ z => z) hf)) fun _ s' q => h s' ⟨q.1, J.g.same q.2⟩
end
section
variable {X : Cx} {st : Stmt} {rest : List Stmt} {t u : TS} {e : Expr} {es : List Expr} {te ta tv tf : TE} {pos : Pos}
theorem pss_nil : PSs X [] tNext := ⟨fun _ _ σ H _ J z => wpAny_execs_nil ⟨σ, H, J, z⟩⟩
theorem pss_cons (h1 : PS X st t) (h2 : PSs X rest u) : PSs X (st :: rest) (tSeq t u) := by
  refine ⟨fun ip s σ H D J z => wpAny_execs_cons (thn (h1.run ip s σ H { D with nx := u D } J z) fun f s1 q => ?_)⟩
  cases f with
  | next => obtain ⟨σ', H', J', q⟩ := q; exact h2.run ip s1 σ' H' D J' q
  | _ => exact q
theorem pss_one (h1 : PS X st t) : PSs X [st] t := by
  refine ⟨fun ip s σ H D J z => wpAny_execs_cons (thn (h1.run ip s σ H D J z) fun f s1 q => ?_)⟩
  cases f with
  | next => exact wpAny_execs_nil q
  | _ => exact q
theorem ps_no : PS X st tNo := ⟨fun _ _ _ _ _ _ z => z.elim⟩
theorem ps_ret (he : PE X e te) : PS X (.Return (some e) pos) (tRet te) := ⟨fun ip s σ H D J z => wpAny_Return_some (thn (he.run ip s σ H _ J z) fun v s1 ⟨x, H1, J1, r1, q1⟩ => ⟨x, σ, H1, J1, r1, q1⟩)⟩
theorem ps_if {c : Expr} {a b : List Stmt} {tc : TT} (hc : PT X c tc) (ha : PSs X a t) (hb : PSs X b u) : PS X (.If c a b pos) (tIfS tc t u) := by
  refine ⟨fun ip s σ H D J z => wpAny_If (thn (hc.run ip s σ H _ J z) fun d s1 ⟨H1, J1, q1⟩ => ?_)⟩
  cases d with
  | false => exact hb.run ip s1 σ H1 D J1 q1
  | true => exact ha.run ip s1 σ H1 D J1 q1
theorem ps_set {i : Nat} {x : Str} {pos' : Pos} (hN : X.N.Nodup) (hi : X.N[i]? = some x) (hx : Loc X.env.scope x) (he : PE X e te) (hs : swapsWith e (some (.Name x pos')) pos.line X.env = pure false := by rfl) (hf : X.fn x = true ∨ X.env.scope.names.lookup x = some .local := by first | exact .inl rfl | exact .inr rfl | assumption) :
    PS X (.Assign [.Name x pos'] e pos) (tAsg te (gName i)) :=
  ⟨fun ip s σ H D J z => wpAny_Assign_Name (thn (he.run ip s σ H _ J z) fun v s1 ⟨y, H1, J1, r1, q1⟩ => store J1 hN hi hx r1 (fun s2 J2 => ⟨_, H1, J2, q1⟩) hf) hs⟩
theorem ps_aug {i : Nat} {x : Str} {op : Operator} {ti : TIp} {pos' : Pos} (hN : X.N.Nodup) (hi : X.N[i]? = some x) (hx : Loc X.env.scope x) (he : PE X e te) (ho : PIp X op ti) (hf : X.fn x = true ∨ X.env.scope.names.lookup x = some .local := by first | exact .inl rfl | exact .inr rfl | assumption) :
    PS X (.AugAssign (.Name x pos') op e pos) (tAug i te ti) := by
  refine ⟨fun ip s σ H D J ⟨v, e1, z⟩ => ?_⟩
  obtain ⟨m, hn, hl⟩ := J.i.loc
  have vis : Vis X.env.scope x := hx.elim .inl fun k => .inr (.inl k)
  obtain ⟨u, r, l⟩ := hl i x v hi e1 vis
  refine wpAny_AugAssign_Name ?_
  have go : wpAny (MX X) X.A (eval e X.env) (fun w s₂ => wpAny (MX X) X.A (inplaceOp op u w) (fun r s₃ => wpAny (MX X) X.A (storeName X.env x r) (fun _ => SP X ip D .next) X.xe s₃) X.xe s₂) X.xe s :=
    thn (he.run ip s σ H _ J z) fun w s1 ⟨y, H1, J1, r1, q1⟩ => thn (ho ip s1 σ H1 v y u w _ J1 r r1 q1) fun y2 s2 ⟨zv, H2, J2, r2, q2⟩ => store J2 hN hi hx r2 (fun s3 J3 => ⟨_, H2, J3, q2⟩) hf
  rcases l with ⟨k, hm⟩ | ⟨k | k, c, hc, cell⟩
  · exact wpAny_loadName_local J.i.ok.kind k hn hm go
  · exact wpAny_loadName_cell J.i.ok.kind k hc cell go
  · have k' : X.env.scope.names.lookup x = some .free := k
    rcases hx with q | q <;> rw [k'] at q <;> cases q
theorem pg_name {i : Nat} {x : Str} (hN : X.N.Nodup) (hi : X.N[i]? = some x) (hx : Loc X.env.scope x) (hf : X.fn x = true ∨ X.env.scope.names.lookup x = some .local := by first | exact .inl rfl | exact .inr rfl | assumption) : PG X (.Name x pos) (gName i) :=
  ⟨fun ip s σ H v u Q J r z => wpAny_assign_Name (store J hN hi hx r (fun s' J' => ⟨_, H, J', z⟩) hf)⟩
theorem pgs_nil : PGs X [] gNil := ⟨fun ip s σ H vs us Q J r ⟨e, z⟩ => by
  subst e
  cases r
  exact assignInOrder_nil ⟨σ, H, J, z⟩⟩
theorem pgs_cons {t : TG} {u : TGs} (h1 : PG X e t) (h2 : PGs X es u) (hs : (assignEach (e :: es) X.env).map (·.2) = assign e X.env :: (assignEach es X.env).map (·.2) := by rfl) : PGs X (e :: es) (gCons t u) := ⟨fun ip s σ H vs us Q J r ⟨v, vr, e1, z⟩ => by
  subst e1
  cases r with
  | cons r rr =>
    rw [hs]
    exact assignInOrder_cons (thn (h1.run ip s σ H _ _ _ J r z) fun _ s1 ⟨σ1, H1, J1, q1⟩ => h2.run ip s1 σ1 H1 _ _ Q J1 rr q1)⟩
theorem pg_tup {k : Nat} {t : TGs} {n : Nat} (hc : X.calm = true) (h : PGs X es t) (hn : (assignEach es X.env).length = n := by rfl) (hst : (assignEach es X.env).findIdx? (·.1) = none := by rfl) : PG X (.Tuple es k pos) (gTup X.K n t) :=
  ⟨fun ip s σ H v u Q J r ⟨a, xs, e1, hq, hl, z⟩ => by
    subst e1
    cases r
    obtain ⟨its, rv, ht, _⟩ := J.i.tuple hq
    refine assign_Tuple_tuple (J.i.ok.hd hc) ht (by simp [hn, ← hl, rv.length]) hst fun h' hx => ?_
    exact h.run ip _ σ H xs _ Q (J.go (J.i.kept (h' := h') (t' := s.toks) fun b o e => hx b o (Nat.ne_of_lt (Heap.lt_size e)) e)) (by simpa using rv) z⟩
theorem pe_fld {f : Str} (he : PE X e ta) (hb : attributeBase e f X.env (eval e X.env) = eval e X.env) : PE X (.Attribute e f pos) (tFld X.K ta f) := by
  refine ⟨fun ip s σ H Q J z => attr_of hb (thn (he.run ip s σ H _ J z) fun u s1 ⟨x, H1, J1, rx, a, C, dx, fs, v, ex, ea, c, n, l, q⟩ => ?_)⟩
  subst ex
  obtain rfl : u = Value.ref a := rx
  obtain ⟨mA, O, r, _, _, _⟩ := ins_get J1.i.hok ea
  obtain ⟨w, hw, rw'⟩ := RelO.some_of (v := v) (o := mA f) (by rw [← l]; exact r f)
  exact get_map J1.i.kIn O (c.get f) c.hd n hw (handed_of rw') ⟨v, H1, J1.go (J1.i.tok _), rw', q⟩
theorem still_setattr {ip : Pins} {σ : L2.St} {H : Hp} {s : Shared} {a C dx : Addr} {fs : List (Str × V)} {f : Str} {u : Value} {A : Around} (I : Inv X ip σ H s) (ea : H a = some (.ins C dx fs)) (c : Cls X.K C) (n : NoAttr X.K C f) (hl : fs.length < 1000) :
    Still (MX X) A (setAttr (.ref a) f u) s := by
  obtain ⟨mA, O, r, wi, _, _⟩ := ins_get I.hok ea
  exact set_map I.kIn O c.sa c.po n.taker c.hd wi (by rw [List.length_map, sizeLine_eq]; omega) fun _ _ _ => rfl
theorem ps_fld {o value : Expr} {f : Str} {pos' : Pos} (ha : PE X o ta) (hv : PE X value tv) (hs : swapsWith value (some (.Attribute o f pos')) pos.line X.env = pure false) : PS X (.Assign [.Attribute o f pos'] value pos) (sFld X.K ta tv f) := by
  refine ⟨fun ip s σ H D J z => plainObj_wpAny_Assign_Attribute (thn (hv.run ip s σ H _ J z) fun u s1 ⟨y, H1, J1, ry, q⟩ => thn (ha.run ip s1 σ H1 _ J1 q) fun ov s2 ⟨x, H2, J2, rx, a, C, dx, fs, ex, ea, c, n, l, q2⟩ => ?_) hs⟩
  subst ex
  obtain rfl : ov = Value.ref a := rx
  exact thn (with_still (still_setattr J2.i ea c n l) (setattr_ok (Q := fun _ s' => Inv X ip σ (upd H2 a (.ins C dx (putF f y fs))) s') J2.i ea c n l ry fun s3 I3 => I3)) fun _ s3 k => ⟨σ, _, ⟨k.1, J2.g.same k.2⟩, q2⟩
theorem call_tuple_of : CallR X (.type "tuple") (fun xs H Q => ∃ p ys, xs = [.ref p] ∧ ((SqL X.K H p ys ∧ ∀ l, H l = none → Q (.ref l) (upd H l (.tup ys))) ∨ (SqT X.K H p ys ∧ Q (.ref p) H))) := fun ip s σ H xs us Q J r z => by
  have sq : Still (MX X) X.A (call (.type "tuple") us) s := by
    obtain ⟨p, ys, rfl, z⟩ := z
    obtain ⟨u, rfl, rx⟩ := vals1 r
    cases rx
    rcases z with ⟨hq, _⟩ | ⟨hq, _⟩
    · obtain ⟨its, r', pl, _⟩ := J.i.list hq
      have ll := r'.length
      exact call_tuple_list pl.isList (fun _ _ => rfl) (by simp only [List.size_toArray] <;> omega)
    · obtain ⟨its, _, pl, _⟩ := J.i.tuple hq
      exact call_tuple_same pl rfl
  exact thn (with_still sq (L2.call_tuple_of ip s σ H xs us Q J.i r z)) fun _ s' ⟨⟨v, H', I', r', q⟩, k⟩ => ⟨v, H', ⟨I', J.g.same k⟩, r', q⟩
structure FnG (P : Program) (w : World) (K : PySem.W.Frag) (mg : Str → Option Value) (base : Heap) (CX : CXT) (k : Nat) (f : Addr) (fd : FuncData) (ps : List Str) (sp : Sp) : Prop where
  len : ∀ vs H Q E, sp vs H Q E → vs.length = ps.length
  go : ∀ (A : Around) (ou : List Env) (s : Shared) (H : Hp) (ar : PySem.Args) (us : List Value) (vs : List V) (Q : VK) (E : XK), RoomG k A → Env0 P w K mg base A ou s H → BindsTo s fd ar (ps.zip us) → Vals vs us → sp vs H Q E →
    codeAny (model P w) A (.call (.ref f) ar) (fun r s' => CR CX ou P w H s Q E r s' ∧ ∀ z, r = .ok z → KG s s') s
variable {CX : CXT} {k : Nat} {f C : Addr} {fd : FuncData} {ps : List Str} {sp : Sp} {dvs : List V} {ds : List Value} {E : XK} {x : Str} {p : Pos} {tA : TA}
theorem Iv.call {ip : Pins} {σ : L2.St} {H : Hp} {s s' : Shared} {Q : VK} {u : Value} (J : Iv X ip σ H s) (h : CE X.stack X.prog X.w H s Q u s') (g : KG s s') : EP X ip σ Q u s' :=
  let ⟨v, H', I', r, q⟩ := J.i.after h
  ⟨v, H', ⟨I', J.g.trans g⟩, r, q⟩
theorem run_fnG {ip : Pins} {σ : L2.St} {H : Hp} {s : Shared} {Q : VK} {us : List Value} {vs : List V} (F : FnG X.prog X.w X.K X.mg X.base CX k f fd ps sp) (hr : RoomG k X.A) (hb : Binds X.K fd ps ds) (hd : Vals dvs ds) (hx : Passes CX X E)
    (J : Iv X ip σ H s) (r : Vals vs us) (h : sp (vs ++ dvs) H Q E) : wpAny (MX X) X.A (call (.ref f) us) (EP X ip σ Q) X.xe s := by
  have r2 := r.append hd
  have hl : (us ++ ds).length = ps.length := r2.length.symm.trans (F.len _ _ _ _ h)
  refine wpAny_call (codeAny_mono (F.go X.A X.stack s H ⟨us, []⟩ _ _ Q E hr J.i.env0 (hb s us J.i.kIn hl) r2 h) fun r s' ⟨hq, g⟩ => ?_)
  match r, hq, g with
  | .error e, hq, _ => exact hx ip σ H s e s' J.i hq
  | .ok (.ret u), hq, g => exact J.call hq (g _ rfl)
  | .ok .next, hq, _ => exact False.elim hq
  | .ok .brk, hq, _ => exact False.elim hq
  | .ok .cont, hq, _ => exact False.elim hq
theorem pe_callG (F : FnG X.prog X.w X.K X.mg X.base CX k f fd ps sp) (hr : RoomG k X.A) (hg : Gl X x) (hm : X.mg x = some (.ref f)) (hk : PySem.W.keepIn X.K (.ref f) = true) (hb : Binds X.K fd ps ds) (hd : Vals dvs ds) (hx : Passes CX X E)
    (ha : PA X (e :: es) tA) (h1 : (x == ("__debug__" : Str)) = false := by decide) (h2 : starEach (e :: es) X.env = (false, eval e X.env) :: starEach es X.env := by rfl) (h3 : (backTo pos (starEach es X.env)).any (·.1) = false := by rfl) :
    PE X (.Call (.Name x p) (e :: es) [] pos) (tCall sp dvs E tA) := ⟨fun ip s σ H Q J z =>
  wpAny_Call_Name_kw (ld_glob J.i hg hm (PySem.W.callWith_K (h₀ := X.base) J.i.ok.mod.kin hk (thn (ha.run pos ip s σ H _ J z) fun us s1 ⟨vs, H1, J1, r, q⟩ => ⟨J1.i.kIn, run_fnG F hr hb hd hx J1 r q⟩) h2 h3) h1)⟩
theorem run_makeG {ip : Pins} {σ : L2.St} {H : Hp} {s : Shared} {Q : VK} {us : List Value} {vs : List V} (M : Mk X.K C f) (F : FnG X.prog X.w X.K X.mg X.base CX k f fd ps sp) (hr : RoomG (k + 1) X.A) (hb : Binds X.K fd ps ds) (hd : Vals dvs ds)
    (hx : Passes CX X E) (J : Iv X ip σ H s) (r : Vals vs us)
    (h : ∀ x dx, H x = none → H dx = none → dx ≠ x → sp (.ref x :: (vs ++ dvs)) (upd (upd H dx (.own x)) x (.ins C dx [])) (fun v H2 => v = .non ∧ Q (.ref x) H2) E) :
    wpAny (MX X) X.A (call (.ref C) us) (EP X ip σ Q) X.xe s := by
  have wish := h (s.heap.objs.size + 1) s.heap.objs.size (J.i.hok.fresh (Nat.le_succ _)) (J.i.hok.fresh (Nat.le_refl _)) (Nat.ne_of_lt (Nat.lt_succ_self _))
  have J1 := J.go (Inv.made (C := C) J.i)
  have r2 : Vals (V.ref (s.heap.objs.size + 1) :: (vs ++ dvs)) (Value.ref (s.heap.objs.size + 1) :: (us ++ ds)) := .cons rfl (r.append hd)
  have hl : (Value.ref (s.heap.objs.size + 1) :: us ++ ds).length = ps.length := r2.length.symm.trans (F.len _ _ _ _ wish)
  refine wpAny_call (make_map (f := f) J.i.kIn M.makes M.init (beq_iff_eq.mp M.fn) (codeAny_mono (F.go _ X.stack _ _ ⟨Value.ref (s.heap.objs.size + 1) :: us, []⟩ _ _ _ E (hr.make C us []) (J1.i.env0.make C us []) (hb _ (Value.ref (s.heap.objs.size + 1) :: us) J1.i.kIn hl) r2 wish) fun r s' ⟨hq, g⟩ => ?_))
  match r, hq, g with
  | .error e, hq, _ => exact hx ip σ _ _ e s' J1.i hq
  | .ok (.ret u), hq, g =>
    obtain ⟨v, H', J3, rv, ev, q3⟩ := J1.call hq (g _ rfl)
    subst ev
    exact ⟨rv, V.ref (s.heap.objs.size + 1), H', J3, rfl, q3⟩
  | .ok .next, hq, _ => exact False.elim hq
  | .ok .brk, hq, _ => exact False.elim hq
  | .ok .cont, hq, _ => exact False.elim hq
theorem pe_makeG (M : Mk X.K C f) (F : FnG X.prog X.w X.K X.mg X.base CX k f fd ps sp) (hr : RoomG (k + 1) X.A) (hg : Gl X x) (hm : X.mg x = some (.ref C)) (hb : Binds X.K fd ps ds) (hd : Vals dvs ds) (hx : Passes CX X E)
    (ha : PA X (e :: es) tA) (h1 : (x == ("__debug__" : Str)) = false := by decide) (h2 : starEach (e :: es) X.env = (false, eval e X.env) :: starEach es X.env := by rfl) (h3 : (backTo pos (starEach es X.env)).any (·.1) = false := by rfl) :
    PE X (.Call (.Name x p) (e :: es) [] pos) (tMake C sp dvs E tA) := ⟨fun ip s σ H Q J z =>
  wpAny_Call_Name_kw (ld_glob J.i hg hm (PySem.W.callWith_K (h₀ := X.base) J.i.ok.mod.kin M.kp (thn (ha.run pos ip s σ H _ J z) fun us s1 ⟨vs, H1, J1, r, q⟩ => ⟨J1.i.kIn, run_makeG M F hr hb hd hx J1 r q⟩) h2 h3) h1)⟩
theorem pe_callOG {fe : Expr} (hf : PE X fe tf) (c : CallO X.K C f) (F : FnG X.prog X.w X.K X.mg X.base CX k f fd ps sp) (hr : RoomG k X.A) (hb : Binds X.K fd ps ds) (hd : Vals dvs ds) (hx : Passes CX X E) (ha : PA X (e :: es) tA)
    (h1 : eval (.Call fe (e :: es) [] pos) X.env = (do callWith pos (← eval fe X.env) [] (backTo pos (starEach (e :: es) X.env)) (backToKw pos (keywordEach [] X.env))) := by rfl)
    (h2 : starEach (e :: es) X.env = (false, eval e X.env) :: starEach es X.env := by rfl) (h3 : (backTo pos (starEach es X.env)).any (·.1) = false := by rfl) : PE X (.Call fe (e :: es) [] pos) (tCallOb C sp dvs E tf tA) := by
  refine ⟨fun ip s σ H Q J z => Call_ (thn (hf.run ip s σ H _ J z) fun u s1 ⟨y, H1, J1, ry, a, ey, q⟩ => ?_) h1⟩
  subst ey
  cases ry
  refine callO_with (thn (ha.run pos ip s1 σ H1 _ J1 q) fun us s2 ⟨vs, H2, J2, r, ⟨dx, fs, hi⟩, q2⟩ => ?_) h2 h3
  obtain ⟨ox, od, IA, hd0⟩ := insC_at (X := X) (C := C) J2.i (.inr ⟨dx, fs, hi⟩)
  have r2 : Vals (V.ref a :: (vs ++ dvs)) (Value.ref a :: us ++ ds) := .cons rfl (r.append hd)
  have hl : (Value.ref a :: us ++ ds).length = ps.length := r2.length.symm.trans (F.len _ _ _ _ q2)
  refine ⟨⟨C, ox, od, IA, hd0⟩, wpAny_call (PySem.W.kco_code J2.i.kIn IA hd0 c.at_ c.fn c.fi (codeAny_mono (F.go X.A X.stack s2 H2 ⟨Value.ref a :: us, []⟩ _ _ Q E hr J2.i.env0 (hb s2 (Value.ref a :: us) J2.i.kIn hl) r2 q2) fun r s' ⟨hq, g⟩ => ?_))⟩
  match r, hq, g with
  | .error e, hq, _ => exact hx ip σ H2 s2 e s' J2.i hq
  | .ok (.ret u), hq, g => exact J2.call hq (g _ rfl)
  | .ok .next, hq, _ => exact False.elim hq
  | .ok .brk, hq, _ => exact False.elim hq
  | .ok .cont, hq, _ => exact False.elim hq
end
theorem Iv.unwish {X : Cx} {E : Value → Shared → Prop} {ip : Pins} {σ : L2.St} {H : Hp} {s : Shared} (J : Iv (X.wish E) ip σ H s) : Iv X ip σ H s := ⟨J.i.unwish, J.g⟩
theorem PSs.nox {X : Cx} {st : List Stmt} {t : TS} (h : PSs X.nox st t) : PSs X st t := ⟨fun ip s σ H D J z =>
  wpAny_mono (h.run ip s σ H D ⟨J.i.wish _, J.g⟩ z) (fun f _ q => by
    cases f with
    | ret u => obtain ⟨v, σ', H', J', r, q⟩ := q; exact ⟨v, σ', H', J'.unwish, r, q⟩
    | next => obtain ⟨σ', H', J', q⟩ := q; exact ⟨σ', H', J'.unwish, q⟩
    | brk => obtain ⟨σ', H', J', q⟩ := q; exact ⟨σ', H', J'.unwish, q⟩
    | cont => obtain ⟨σ', H', J', q⟩ := q; exact ⟨σ', H', J'.unwish, q⟩) fun _ _ z => False.elim z⟩
theorem okG {P : Program} {w : World} {K : PySem.W.Frag} {mg : Str → Option Value} {base : Heap} {x qual : Str} {st : Stmt} {f : Addr} {fd : FuncData} {N ps : List Str} {k : Nat} {sp : Sp} (F : Fun K x qual st f fd) (S : FnScope N ps (defScope st)) (len : ∀ vs H Q E, sp vs H Q E → vs.length = ps.length)
    (hb : ∀ (cdv : Value) (A : Around) (ou : List Env) (s : Shared) (H : Hp) (vs : List V) (Q : VK) (E : XK), RoomG k (A.deeper (envOfC qual (defScope st) s.heap.objs.size f cdv)) → sp vs H Q E →
      ∃ t, PSs (cxOf CX0 P w K mg base N qual (defScope st) f cdv A ou s H E).nox (defBody st) t ∧ t { nx := fun _ H' => Q .non H', rt := Q } (L2.start N vs) H) : FnG P w K mg base CX0 (k + 1) f fd ps sp := by
  obtain ⟨oc, od, kV, doc, pm, an, cdv, ct, osl, rfl, lk, hcd⟩ := F.ex
  refine ⟨len, fun A ou s H ar us vs Q E hr e0 hbd r hsp => ?_⟩
  have hl := len _ _ _ _ hsp
  have old : ∀ b o, base.get? b = some o → s.heap.get? b = some o := fun b o e => (e0.bs b o e).1
  have KX : K.In s.heap := e0.mod.kin.keeps old
  have kinds : ∀ y ∈ ps.zip us, (defScope st).names.lookup y.1 = some .local ∨ ((defScope st).names.lookup y.1 = some .cell ∧ ((cellsFrom (s.heap.objs.size + 1) (defScope st).names []).lookup y.1).isSome = true) := fun y hy =>
    (S.par y.1 (List.of_mem_zip hy).1).imp id fun q => ⟨q, PySem.W.cellsFrom_some _ _ _ (.inl q)⟩
  refine codeAny_call_function hr.rm.depth (KX _ _ lk) rfl S.co S.gen rfl (PySem.W.codeRec_of KX hcd) (hbd _ _ _ _ ?_)
  refine wpAny_newFunctionEnv_cells S.kind kinds fun env he s1 x => ?_
  subst he
  refine ⟨(e0.mod.nolimit.keeps old).keeps x.toInCall.keep, codeAny_func ?_⟩
  obtain ⟨t, ht, hq⟩ := hb cdv A ou s H vs Q E (hr.deeper _) hsp
  have J1 := inv_start (CX := CX0) (E := E) S hr.rm.hd e0 hl r x
  obtain ⟨h1, tk, es1, _⟩ := x.done
  have g1 : KG s s1 := fun _ _ z => by rw [es1]; exact z
  refine wpAny_mono (ht.nox.run [] s1 (L2.start N vs) H _ ⟨J1, g1⟩ hq) (fun fl s' hs => ?_) fun e s' hs => ?_
  · match fl, hs with
    | .ret u, ⟨v, _, H', J, rv, q⟩ => exact ⟨⟨v, H', J.i.os, J.i.bare, J.i.base, J.i.hok, rv, q⟩, fun _ _ => J.g⟩
    | .next, ⟨_, H', J, q⟩ => exact ⟨⟨V.non, H', J.i.os, J.i.bare, J.i.base, J.i.hok, rfl, q⟩, fun _ _ => J.g⟩
    | .brk, ⟨_, _, _, q⟩ => exact False.elim q
    | .cont, ⟨_, _, _, q⟩ => exact False.elim q
  · exact wpAny_mono hs (fun _ s2 q => ⟨q, fun _ z => nomatch z⟩) fun _ s2 q => ⟨q, fun _ z => nomatch z⟩
end ML.TK

namespace ML.TK
open PySem Spec PyProof.Rows L2 StX
structure Turn (P : Program) (w : World) (K : PySem.W.Frag) (tg : Expr) (C : It) (fp : List Addr) (it : Addr) (tn : Nat → Heap → Prop) : Prop where
  base : L2.Turn P w K tg C fp it tn
  item : ∀ (X : Cx), X.prog = P → X.w = w → X.K = K → X.calm = true → ∀ (i : Nat) (ip : Pins) (s : Shared) (σ : L2.St) (H : Hp) (E : Value → Shared → Prop), Iv X ip σ H s → (∀ b ∈ fp, FpOk X ip H b) → tn i s.heap → C.go i H →
    wpAny (model P w) X.A (pyNext (.ref it)) (fun r s1 => ∃ u, r = some u ∧
      wpAny (model P w) X.A (letOwnedTupleGo tg (.ref it) u) (fun _ s2 => ∃ x H', Iv X ip σ H' s2 ∧ RelV x u ∧ C.yld i H x H' ∧ tn (i + 1) s2.heap ∧ ∀ b ∈ fp, H' b = none) E s1) E s
  done : ∀ (X : Cx), X.prog = P → X.w = w → X.K = K → X.calm = true → ∀ (i : Nat) (ip : Pins) (s : Shared) (σ : L2.St) (H : Hp) (E : Value → Shared → Prop), Iv X ip σ H s → (∀ b ∈ fp, FpOk X ip H b) → tn i s.heap → C.stop i H →
    wpAny (model P w) X.A (pyNext (.ref it)) (fun r s1 => r = none ∧ Iv X ip σ H s1) E s
def PIE (X : Cx) (ip : Pins) (σ : L2.St) (tg : Expr) (R : It → Hp → Prop) (itv : Value) (s2 : Shared) : Prop :=
  ∃ (it : Addr) (fp : List Addr) (tn : Nat → Heap → Prop) (C : It) (H' : Hp), itv = .ref it ∧ Iv X ip σ H' s2 ∧ Turn X.prog X.w X.K tg C fp it tn ∧ tn 0 s2.heap ∧ (∀ b ∈ fp, FpOk X ip H' b) ∧ R C H'
structure PI (X : Cx) (tg iter : Expr) (wi : TI) : Prop where
  run : ∀ (ip : Pins) (s : Shared) (σ : L2.St) (H : Hp) (R : It → Hp → Prop), Iv X ip σ H s → wi σ H R →
    wpAny (MX X) X.A (eval iter X.env) (fun v s1 => wpAny (MX X) X.A (pyIter v) (PIE X ip σ tg R) X.xe s1) X.xe s
theorem Iv.pinned {X : Cx} {ip : Pins} {σ : L2.St} {H : Hp} {s : Shared} {fp : List Addr} (J : Iv X ip σ H s) (hf : ∀ b ∈ fp, FpOk X ip H b) (ho : ∀ b ∈ fp, ∃ o, s.heap.get? b = some o ∧ ∀ v, o.data ≠ .cell v) : Iv X (ip ++ pinsAt fp s.heap) σ H s := J.go (J.i.pinned hf ho)
theorem Iv.unpinned {X : Cx} {ip pl : Pins} {σ : L2.St} {H : Hp} {s : Shared} (J : Iv X (ip ++ pl) σ H s) : Iv X ip σ H s := J.go J.i.unpinned
section
variable {P : Program} {w : World} {K : PySem.W.Frag} {tg : Expr}
theorem turn_tuple (a it : Addr) : Turn P w K tg (Itt K a) [it] it (fun i h => h.IsTupleIter it a i) where
  base := L2.turn_tuple a it
  item := fun X hP hw hK hc i ip s σ H E J hf st ⟨xs, x, hq, hx⟩ => by
    subst hP hw hK
    obtain ⟨its, rv, pl, _⟩ := J.i.tuple hq
    obtain ⟨u, hu, ru⟩ := rv.get hx
    obtain ⟨f0, f1, f2, f3, f4, f5⟩ := hf it (by simp)
    refine wpAny_pyNext_tuple_item st (show s.heap.IsTuple a its.toArray from pl) (x := u) (by simpa using hu) fun h' st' sb => ?_
    have J1 := J.go (J.i.turned (h' := h') (t' := s.toks) (fun b o hb e => (sb.2 b hb).trans e) f0 f1 f3 f4 f5)
    obtain ⟨o, e, c, d⟩ := id st'
    exact ⟨u, rfl, go_of (s := { s with heap := h' }) e c d (by decide) ⟨x, H, J1, ru, ⟨rfl, fun ys hy => by rw [J.i.tuple_inj hy hq]; exact hx⟩, st', fun b hb => (hf b hb).1⟩⟩
  done := fun X hP hw hK hc i ip s σ H E J hf st ⟨xs, hq, hx⟩ => by
    subst hP hw hK
    obtain ⟨its, rv, pl, _⟩ := J.i.tuple hq
    obtain ⟨f0, f1, f2, f3, f4, f5⟩ := hf it (by simp)
    have ll := rv.length
    exact wpAny_pyNext_tuple_end (J.i.ok.hd hc) st (show s.heap.IsTuple a its.toArray from pl) (by simp; omega) fun h' eb => ⟨rfl, J.go (J.i.turned (t' := s.toks) (fun b o hb e => eb b o hb e) f0 f1 f3 f4 f5)⟩
theorem turn_list (a it : Addr) : Turn P w K tg (Itl K a) [it] it (fun i h => h.IsListIter it a i) where
  base := L2.turn_list a it
  item := fun X hP hw hK hc i ip s σ H E J hf st ⟨xs, x, hq, hx⟩ => by
    subst hP hw hK
    obtain ⟨its, rv, pl, _⟩ := J.i.list hq
    obtain ⟨u, hu, ru⟩ := rv.get hx
    obtain ⟨f0, f1, f2, f3, f4, f5⟩ := hf it (by simp)
    refine wpAny_pyNext_list_item st pl.isList (x := u) (by simpa using hu) fun h' st' sb => ?_
    have J1 := J.go (J.i.turned (h' := h') (t' := s.toks) (fun b o hb e => (sb.2 b hb).trans e) f0 f1 f3 f4 f5)
    obtain ⟨o, e, c, d⟩ := id st'
    exact ⟨u, rfl, go_of (s := { s with heap := h' }) e c d (by decide) ⟨x, H, J1, ru, ⟨rfl, fun ys hy => by rw [J.i.list_inj hy hq]; exact hx⟩, st', fun b hb => (hf b hb).1⟩⟩
  done := fun X hP hw hK hc i ip s σ H E J hf st ⟨xs, hq, hx⟩ => by
    subst hP hw hK
    obtain ⟨its, rv, pl, _⟩ := J.i.list hq
    obtain ⟨f0, f1, f2, f3, f4, f5⟩ := hf it (by simp)
    have ll := rv.length
    exact wpAny_pyNext_list_end (J.i.ok.hd hc) st pl.isList (by simp; omega) fun h' eb => ⟨rfl, J.go (J.i.turned (t' := s.toks) (fun b o hb e => eb b o hb e) f0 f1 f3 f4 f5)⟩
theorem turn_range (it : Addr) (lo : Int) (n : Nat) : Turn P w K tg (Itr lo n) [it] it (fun i h => IsRangeIter h it (lo + (i : Nat) * 1) ((n : Int) - (i : Nat)) 1) where
  base := L2.turn_range it lo n
  item := fun X hP hw hK hc i ip s σ H E J hf st hg => by
    subst hP hw hK
    obtain ⟨f0, f1, f2, f3, f4, f5⟩ := hf it (by simp)
    refine (Walks.range (prog := X.prog) (w := X.w) (J.i.ok.hd hc) it lo 1 n).item i s _ _ hg st fun v h' tk hv st' kk => ?_
    obtain ⟨t, rfl⟩ := hv
    have J1 := J.go (J.i.turned (h' := h') (t' := tk) (fun b o hb e => kk b o (by simpa using hb) e) f0 f1 f3 f4 f5)
    refine ⟨_, rfl, go_of (s := { s with heap := h', toks := tk }) (n := "range_iterator") st' rfl rfl (by decide) ⟨.int (lo + i), H, J1, ⟨t, ?_⟩, ⟨rfl, rfl⟩, st', fun b hb => (hf b hb).1⟩⟩
    rw [Int.mul_one]
  done := fun X hP hw hK hc i ip s σ H E J hf st hg => by
    subst hP hw hK
    obtain ⟨f0, f1, f2, f3, f4, f5⟩ := hf it (by simp)
    exact wpAny_pyNext_range_end (J.i.ok.hd hc) st (by have : n ≤ i := hg; omega) fun h' eb => ⟨rfl, J.go (J.i.turned (t' := s.toks) (fun b o hb e => eb b o hb e) f0 f1 f3 f4 f5)⟩
theorem turn_enumT {es : List Expr} {n0 : Nat} {ps : Pos} (a e it : Addr) (ha : a ≠ it) (hae : a ≠ e) (hne : e ≠ it) :
    Turn P w K (.Tuple es n0 ps) (IteT K a) [e, it] e (fun i h => (∃ old, IsEnum h e it (0 + ((i : Nat) : Int)) old) ∧ h.IsTupleIter it a i) where
  base := ML.turn_enumT a e it ha hae hne
  item := fun X hP hw hK hc i ip s σ H E J hf st hg => by
    subst hP hw hK
    have I := J.i
    obtain ⟨⟨old, he⟩, h1⟩ := st
    obtain ⟨xs, x, hq, hx⟩ := hg
    obtain ⟨its, rv, pl, _⟩ := I.tuple hq
    obtain ⟨u, hu, ru⟩ := rv.get hx
    have lt_e : e < s.heap.objs.size := Heap.lt_size he
    have lt_i : it < s.heap.objs.size := by obtain ⟨_, q, _⟩ := h1; exact Heap.lt_size q
    have hl : i < its.toArray.size := by simpa using (List.getElem?_eq_some_iff.mp hu).1
    have D : Draws X.prog X.w X.A.in1 it [it, a] its.toArray.size (fun i v => its.toArray[i]? = some v) (fun i h => h.IsTupleIter it a i ∧ h.IsTuple a its.toArray) := Draws.tuple (A := X.A.in1) (I.ok.hd hc) it a ha its.toArray
    have nin : e ∉ [it, a] := fun hm => by
      have : e = it ∨ e = a := by simpa using hm
      exact this.elim hne fun z => hae z.symm
    refine wpAny_pyNext_enum_itemC D he ⟨h1, pl⟩ hl hne nin fun y h' tk hy ho hs hT hsz hk => ?_
    have ey : y = u := by
      have hy' : its[i]? = some y := by simpa using hy
      rw [hu] at hy'
      exact (Option.some.inj hy').symm
    subst ey
    refine ⟨_, rfl, wpAny_letOwnedTupleGo_enum (s := { s with heap := h', toks := tk + 1 }) ho fun h'' he2 sb => ?_⟩
    have hT2 := (sb.2 _ (Nat.ne_of_gt lt_e)).trans hT
    have new : ObjOk X.prog X.w (upd H s.heap.objs.size (.tup [.int (i : Nat), x])) h'' s.heap.objs.size (.tup [.int (i : Nat), x]) :=
      ⟨by show 2 ≤ sizeLine; decide, [.int (0 + (i : Int)) tk, y], .cons ⟨tk, by rw [Int.zero_add]⟩ (.cons ru .nil), ⟨_, hT2, rfl, _, rfl⟩⟩
    have I1 : Inv X ip σ (upd H s.heap.objs.size (.tup [.int (i : Nat), x])) { s with heap := h'', toks := tk + 1 } :=
      I.turnedNew (ch := [e, it]) (fun b ob hb q => (sb.2 b (fun z => hb (by simp [z]))).trans (hk b ob (fun z => hb (by simp [z])) (fun z => hb (by simp [z])) q)) hf (Nat.le_refl _) new
    refine ⟨.ref s.heap.objs.size, _, J.go I1, rfl, ⟨_, x, rfl, I.hok.fresh (Nat.le_refl _), rfl, fun ys hys => by rw [I.tuple_inj hys hq]; exact hx⟩, ⟨⟨y, ?_⟩, hs.1.at fun o q => (sb.2 it (Ne.symm hne)).trans q⟩, fun b hb => ?_⟩
    · rw [show ((i + 1 : Nat) : Int) = (i : Int) + 1 from by omega, ← Int.add_assoc]; exact he2
    · have hlt : b < s.heap.objs.size := by
        have hb' : b = e ∨ b = it := by simpa using hb
        rcases hb' with z | z <;> rw [z] <;> assumption
      rw [upd_ne (Nat.ne_of_lt hlt)]
      exact (hf b hb).1
  done := fun X hP hw hK hc i ip s σ H E J hf ⟨⟨old, he⟩, h1⟩ ⟨xs, hq, hx⟩ => by
    subst hP hw hK
    obtain ⟨its, rv, pl, _⟩ := J.i.tuple hq
    have ll := rv.length
    obtain ⟨f0, f1, f2, f3, f4, f5⟩ := hf it (by simp)
    exact enum_tup_end (J.i.ok.hd hc) he h1 pl (by simp; omega) fun hp eb => ⟨rfl, J.go (J.i.turned (t' := s.toks) (fun b o hb q => eb b o hb q) f0 f1 f3 f4 f5)⟩
end
section
variable {X : Cx} {tg : Expr} {tl : TE} {ta : TA} {p pos tpos : Pos} {e : Expr} {es : List Expr} {n0 : Nat}
theorem pi_tup {l : Expr} (hl : PE X l tl) : PI X tg l (iTup X.K tl) := by
  refine ⟨fun ip s σ H R J z => thn (hl.run ip s σ H _ J z) fun v s1 ⟨x, H1, J1, r1, a, e, ⟨xs, hq⟩, q⟩ => ?_⟩
  subst e
  cases r1
  obtain ⟨its, rv, pl, _⟩ := J1.i.tuple hq
  refine wpAny_pyIter_tuple (show s1.heap.IsTuple a its.toArray from pl) ⟨s1.heap.objs.size, [s1.heap.objs.size], _, _, H1, rfl, J1.go (J1.i.kept (t' := s1.toks) fun b o e => Heap.get?_push_of_some _ e), turn_tuple a _, ⟨_, Heap.get?_push_size _ rfl, rfl, rfl⟩, fun b hb => ?_, q⟩
  rw [show b = s1.heap.objs.size from by simpa using hb]
  exact J1.i.fpOk (Nat.le_refl _) (J1.i.hok.fresh (Nat.le_refl _))
theorem pi_list {l : Expr} (hl : PE X l tl) : PI X tg l (iList X.K tl) := by
  refine ⟨fun ip s σ H R J z => thn (hl.run ip s σ H _ J z) fun v s1 ⟨x, H1, J1, r1, a, e, ⟨xs, hq⟩, q⟩ => ?_⟩
  subst e
  cases r1
  obtain ⟨its, rv, pl, _⟩ := J1.i.list hq
  refine wpAny_pyIter_list pl.isList ⟨s1.heap.objs.size, [s1.heap.objs.size], _, _, H1, rfl, J1.go (J1.i.kept (t' := s1.toks) fun b o e => Heap.get?_push_of_some _ e), turn_list a _, ⟨_, Heap.get?_push_size _ rfl, rfl, rfl⟩, fun b hb => ?_, q⟩
  rw [show b = s1.heap.objs.size from by simpa using hb]
  exact J1.i.fpOk (Nat.le_refl _) (J1.i.hok.fresh (Nat.le_refl _))
theorem range_it {ip : Pins} {σ : L2.St} {H : Hp} {s : Shared} {R : It → Hp → Prop} {E : Value → Shared → Prop} {lo hi : Int} {t u v : Tok} {tk : Nat} (J : Iv X ip σ H s) (h1 : -(2 ^ 62) ≤ lo) (h2 : lo < 2 ^ 62) (h3 : -(2 ^ 62) ≤ hi) (h4 : hi < 2 ^ 62)
    (q : R (Itr lo (hi - lo).toNat) H) : wpAny (MX X) X.A (pyIter (.ref s.heap.objs.size)) (PIE X ip σ tg R) E { s with heap := s.heap.push { cls := .type "range", data := .fields #[.int lo t, .int hi u, .int 1 v] }, toks := tk } := by
  generalize hob : ({ cls := .type "range", data := .fields #[.int lo t, .int hi u, .int 1 v] } : Obj) = ob
  have fr : ob.isFreed = false := by subst hob; rfl
  refine wpAny_pyIter_range (by subst hob; exact IsRange.new ..) (small_one h1 h2 h3 h4) ?_
  have J1 := J.go (J.i.kept (h' := s.heap.push ob) (t' := tk) fun b o e => Heap.get?_push_of_some _ e)
  refine ⟨(s.heap.push ob).objs.size, [(s.heap.push ob).objs.size], _, _, H, rfl, J1.go (J1.i.kept (t' := tk) fun b o e => Heap.get?_push_of_some _ e), turn_range _ lo (hi - lo).toNat, ?_, fun b hb => ?_, q⟩
  · have e1 : lo + ((0 : Nat) : Int) * 1 = lo := by simp
    have e2 : (((hi - lo).toNat : Nat) : Int) - ((0 : Nat) : Int) = Builtin.Range.rangeSize lo hi 1 := by rw [rangeSize_one]; split <;> omega
    show IsRangeIter _ _ (lo + ((0 : Nat) : Int) * 1) ((((hi - lo).toNat : Nat) : Int) - ((0 : Nat) : Int)) 1
    rw [e1, e2]
    exact Heap.get?_push_size _ rfl
  · rw [show b = (s.heap.push ob).objs.size from by simpa using hb]
    exact J1.i.fpOk (Nat.le_refl _) (J1.i.hok.fresh (Nat.le_refl _))
theorem pi_range1 (hg : Gl X "range") (hm : X.mg "range" = none) (ha : PA X [e] ta) (hs : starEach [e] X.env = [(false, eval e X.env)] := by rfl) : PI X tg (.Call (.Name "range" p) [e] [] pos) (iRng1 ta) := by
  refine ⟨fun ip s σ H R J z => Call_ (ld_blt J.i hg hm boot_range (callWith_type1 (thn (ha.run pos ip s σ H _ J z) fun us s1 ⟨vs, H1, J1, r1, j, e, q1, q2, q⟩ => ?_) hs rfl))⟩
  subst e
  obtain ⟨u, rfl, t, rfl⟩ := vals1 r1
  exact call_range_1 (range_it J1 (by omega) (by omega) q1 q2 (by simpa using q))
theorem pi_enumT (hg : Gl X "enumerate") (hm : X.mg "enumerate" = none) (ha : PA X [e] ta) (hs : starEach [e] X.env = [(false, eval e X.env)] := by rfl) :
    PI X (.Tuple es n0 tpos) (.Call (.Name "enumerate" p) [e] [] pos) (iEnumT X.K ta) := by
  refine ⟨fun ip s σ H R J z => Call_ (ld_blt J.i hg hm boot_enumerate (callWith_type1 (thn (ha.run pos ip s σ H _ J z) fun us s1 ⟨vs, H1, J1, r1, a, xs, ex, hq, q⟩ => ?_) hs rfl))⟩
  subst ex
  obtain ⟨u, rfl, ru⟩ := vals1 r1
  cases ru
  obtain ⟨its, rv, pl, _⟩ := J1.i.tuple hq
  have lt_a : a < s1.heap.objs.size := by obtain ⟨_, q, _⟩ := pl; exact Heap.lt_size q
  refine call_enum_tup pl fun hp he hit kp => wpAny_pyIter_enum he ?_
  refine ⟨s1.heap.objs.size + 1, [s1.heap.objs.size + 1, s1.heap.objs.size], _, _, H1, rfl, J1.go (J1.i.kept (t' := s1.toks) kp), turn_enumT a (s1.heap.objs.size + 1) s1.heap.objs.size (Nat.ne_of_lt lt_a) (Nat.ne_of_lt (Nat.lt_succ_of_lt lt_a)) (Nat.succ_ne_self _), ⟨⟨.none, he⟩, hit⟩, fun b hb => ?_, q⟩
  have le : s1.heap.objs.size ≤ b := by
    have hb' : b = s1.heap.objs.size + 1 ∨ b = s1.heap.objs.size := by simpa using hb
    rcases hb' with z | z <;> rw [z]
    · exact Nat.le_succ _
    · exact Nat.le_refl _
  exact J1.i.fpOk le (J1.i.hok.fresh le)
theorem ps_for {iter : Expr} {body : List Stmt} {wi : TI} {g : TG} {tb : TS} (hp : PassesOwn (model X.prog X.w) X.A X.env X.xe) (hc : X.calm = true) (hi : PI X tg iter wi) (hg : PG X tg g) (hb : PSs X body tb)
    (hs : ∀ x, foldedSetIterable iter X.env x = pure x := by intro _; rfl) : PS X (.For tg iter body [] pos) (tFor wi g tb) := by
  refine ⟨fun ip s σ H D J z => wpAny_For (thn (hi.run ip s σ H _ J z) fun v s1 h1 => thn h1 fun itv s2 h2 => ?_) hs⟩
  obtain ⟨it, fp, tn, C, H2, e, J2, T, st2, f2, W, ⟨m0, w0⟩, step⟩ := h2
  subst e
  have stat : ∀ {H' : Hp}, (∀ b ∈ fp, H' b = none) → ∀ b ∈ fp, FpOk X ip H' b := fun hn b hb => ⟨hn b hb, (f2 b hb).2⟩
  refine codeAny_forLoop_any (fun n s' => ∃ i σ' H', Iv X ip σ' H' s' ∧ tn i s'.heap ∧ (∀ b ∈ fp, H' b = none) ∧ W i n σ' H') ?_ m0 ⟨0, σ, H2, J2, st2, fun b hb => (f2 b hb).1, w0⟩
  rintro n s3 ⟨i, σ3, H3, J3, st3, fr3, w3⟩
  rcases step i n σ3 H3 w3 with ⟨stop, qn⟩ | ⟨go, N, hN, turn⟩
  · refine wpAny_passesOwn hp (thn (T.done X rfl rfl rfl hc i ip s3 σ3 H3 X.xe J3 (stat fr3) st3 stop) fun r s4 ⟨hr, J4⟩ => ?_)
    subst hr
    exact wpAny_execs_nil ⟨σ3, H3, J4, qn⟩
  · refine wpAny_passesOwn hp (thn (T.item X rfl rfl rfl hc i ip s3 σ3 H3 X.xe J3 (stat fr3) st3 go) fun r s4 ⟨u, hr, h4⟩ => ?_)
    subst hr
    refine wpAny_passesOwn hp (thn h4 fun _ s5 ⟨x, H5, J5, r5, y5, st5, fr5⟩ => ?_)
    have J5' := J5.pinned (stat fr5) (T.base.obj _ _ st5)
    refine wpAny_passesOwn hp (thn (hg.run _ s5 σ3 H5 x u _ J5' r5 (turn x H5 y5)) fun _ s6 ⟨σ6, H6, J6, q6⟩ => ?_)
    refine wpAny_passesOwn hp (thn (hb.run _ s6 σ6 H6 _ J6 q6) fun f s7 q7 => ?_)
    have again : ∀ {σ7 : L2.St} {H7 : Hp}, Iv X (ip ++ pinsAt fp s5.heap) σ7 H7 s7 → N σ7 H7 → ∃ m, m < n ∧ ∃ i σ' H', Iv X ip σ' H' s7 ∧ tn i s7.heap ∧ (∀ b ∈ fp, H' b = none) ∧ W i m σ' H' := fun {σ7 H7} J7 n7 => by
      obtain ⟨m', hm, w7⟩ := hN σ7 H7 n7
      have at7 : ∀ b ∈ fp, ∀ o, s5.heap.get? b = some o → _ := fun b hb o e => J7.i.pin (b, o) (List.mem_append_right _ (List.mem_append_right _ (mem_pinsAt hb e)))
      refine ⟨m', hm, i + 1, σ7, H7, J7.unpinned, T.base.keep _ _ _ st5 fun b hb o e => (at7 b hb o e).1, fun b hb => ?_, w7⟩
      obtain ⟨o, e, _⟩ := T.base.obj _ _ st5 b hb
      exact (at7 b hb o e).2.1
    cases f with
    | next => obtain ⟨σ7, H7, J7, n7⟩ := q7; exact again J7 n7
    | cont => obtain ⟨σ7, H7, J7, n7⟩ := q7; exact again J7 n7
    | brk => obtain ⟨σ7, H7, J7, q7⟩ := q7; exact ⟨σ7, H7, J7.unpinned, q7⟩
    | ret v => obtain ⟨x7, σ7, H7, J7, r7, q7⟩ := q7; exact ⟨x7, σ7, H7, J7.unpinned, r7, q7⟩
end
end ML.TK

namespace ML.TK
open PySem Spec PyProof.Rows L2 StX
section
variable {X : Cx}
theorem pts_nil : PTs X [] tYes := ⟨fun _ _ _ H _ J z => wpAny_tests_nil ⟨H, J, z⟩⟩
theorem pts_one {c : Expr} {t : TT} (h : PT X c t) : PTs X [c] t := ⟨fun ip s σ H Q J z => wpAny_tests_one (h.run ip s σ H Q J z)⟩
theorem append_still {ip : Pins} {σ : L2.St} {H : Hp} {s : Shared} {D : Addr} {xs : List V} {v : Value} {A : Around} (I : Inv X ip σ H s) (hD : H D = some (.lst xs)) (hz : xs.length < sizeLine) : Still (MX X) A (call (.builtin "list.append") [.ref D, v]) s := by
  obtain ⟨_, its, n, ri, e⟩ := I.hok D _ hD
  have ll := ri.length
  exact append_at (hsz := by rw [List.size_toArray]; omega) e fun _ _ _ => rfl
theorem append_ok {ip : Pins} {σ : L2.St} {H : Hp} {s : Shared} {D : Addr} {xs : List V} {y : V} {v : Value} {E : Value → Shared → Prop} {Q : Value → Shared → Prop} (J : Iv X ip σ H s) (hD : H D = some (.lst xs)) (hz : xs.length < sizeLine) (r : RelV y v)
    (h : ∀ s', Iv X ip σ (upd H D (.lst (xs ++ [y]))) s' → Q .none s') : wpAny (MX X) X.A (call (.builtin "list.append") [.ref D, v]) Q E s :=
  thn (with_still (append_still J.i hD hz) (app_ok (E := E) (Q := fun u s' => u = .none ∧ Inv X ip σ (upd H D (.lst (xs ++ [y]))) s') J.i hD hz r fun _ z => ⟨rfl, z⟩)) fun u s' ⟨⟨e, I'⟩, k⟩ => e ▸ h s' ⟨I', J.g.same k⟩
theorem pe_lc {elt tg iter : Expr} {ifs : List Expr} {scope : Scope} {own : List (Str × Nat)} {pos : Pos} {wi : TI} {g : TG} {tt : TT} {te : TE} (hc : X.calm = true) (hN : X.N.Nodup) (hi : PI X tg iter wi) (ok : BlkOk X.N X.env.scope scope own)
    (hg : ∀ (s : Shared) (H : Hp) (C : Addr) (cl : List (Str × Addr)) (fp : List Addr), PG (X.blk s H scope (compEnvC scope cl C X.env) fp) tg g) (ht : ∀ (s : Shared) (H : Hp) (C : Addr) (cl : List (Str × Addr)) (fp : List Addr), PTs (X.blk s H scope (compEnvC scope cl C X.env) fp) ifs tt)
    (he : ∀ (s : Shared) (H : Hp) (C : Addr) (cl : List (Str × Addr)) (fp : List Addr), PE (X.blk s H scope (compEnvC scope cl C X.env) fp) elt te) (hs : ∀ x, foldedSetIterable iter X.env x = pure x := by intro _; rfl) :
    PE X (.ListComp elt [⟨tg, iter, ifs, 0⟩] scope pos) (tLc wi g tt te (own.map (·.2))) := by
  refine ⟨fun ip s σ H Q J h => ?_⟩
  have free : ∀ y ∈ scope.names, y.2 = .free → ∃ c, X.env.cells.lookup y.1 = some c := fun y hy e => (ok.free y hy e).elim (fun k => J.i.ok.has _ (.inl k)) fun k => J.i.ok.has _ (.inr k)
  rw [eval_ListComp]
  refine wpAny_comprehension_free (use := none) rfl hs (closure_ok free) ok.kind (fun y hy e => by rw [ok.uniq y hy, e])
    (thn (hi.run ip s σ H _ J h) fun xv s1 hx => thn hx fun itv s2 h2 => ?_)
  obtain ⟨it, fp, tn, C, H2, e, J2, T, st2, f2, q⟩ := h2
  subst e
  refine wpAny_newObj_type (newEnv_comp ?_) (by show 0 ≤ sizeLine; decide)
  generalize hD : s2.heap.objs.size = D
  have hDn : H2 D = none := J2.i.hok.fresh (Nat.le_of_eq hD)
  obtain ⟨W, ⟨m0, w0⟩, step⟩ := q D hDn
  generalize hs3 : ({ s2 with heap := s2.heap.push { cls := .type "list", data := .seq ([] : List Value).toArray } } : Shared) = s3
  have h3 : s3.heap = s2.heap.push { cls := .type "list", data := .seq ([] : List Value).toArray } := by rw [← hs3]
  have J3 : Iv X ip σ (upd H2 D (.lst [])) s3 := by
    rw [← hs3]
    refine J2.go (J2.i.laid (t' := s2.toks) (fun b o e => Heap.get?_push_of_some _ e) (Nat.le_of_eq hD) ⟨Nat.zero_le _, [], 0, .nil, ?_⟩)
    rw [← hD]
    exact Heap.get?_push_size _ rfl
  have f3 : ∀ b ∈ fp, FpOk X ip (upd H2 D (.lst [])) b ∧ b < s3.heap.objs.size := fun b hb => by
    obtain ⟨o, e, _⟩ := T.base.obj _ _ st2 b hb
    have lt := Heap.lt_size e
    refine ⟨⟨?_, (f2 b hb).2⟩, by rw [h3, Heap.size_push]; exact Nat.lt_succ_of_lt lt⟩
    rw [upd_ne (by rw [← hD]; exact Nat.ne_of_lt lt)]
    exact (f2 b hb).1
  have st3 : tn 0 s3.heap := T.base.keep _ _ _ st2 fun b _ o e => by rw [h3]; exact Heap.get?_push_of_some _ e
  have I4 := block_start J3.i ok hN f3
  have pg := hg s3 (upd H2 D (.lst [])) s3.heap.objs.size (cellsFrom (s3.heap.objs.size + 1) scope.names (cloFrom X.env.cells scope.names [])) fp
  have pt := ht s3 (upd H2 D (.lst [])) s3.heap.objs.size (cellsFrom (s3.heap.objs.size + 1) scope.names (cloFrom X.env.cells scope.names [])) fp
  have pe := he s3 (upd H2 D (.lst [])) s3.heap.objs.size (cellsFrom (s3.heap.objs.size + 1) scope.names (cloFrom X.env.cells scope.names [])) fp
  show codeAny _ _ (.compStart (.ListComp elt [⟨tg, iter, ifs, 0⟩] scope pos) 0 (.ref it) (.ref D) (compEnvC scope (cellsFrom (s3.heap.objs.size + 1) scope.names (cloFrom X.env.cells scope.names [])) s3.heap.objs.size X.env)) (compPost (model X.prog X.w) X.A X.xe none (EP X ip σ Q) (.ref D) s3.heap.objs.size) { s3 with heap := pushCells (s3.heap.push { cls := .type "dict", data := .dict #[] }) scope.names }
  have nfp : ∀ b ∈ fp, (upd H2 D (.lst [])) b = none := fun b hb => (f3 b hb).1.1
  generalize hce : compEnvC scope (cellsFrom (s3.heap.objs.size + 1) scope.names (cloFrom X.env.cells scope.names [])) s3.heap.objs.size X.env = ce at I4 pg pt pe ⊢
  have cL : ce.locals = s3.heap.objs.size := by subst hce; rfl
  generalize hH3 : upd H2 D (.lst []) = H3 at J3 I4 pg pt pe w0 nfp f3
  generalize hs4 : ({ s3 with heap := pushCells (s3.heap.push { cls := .type "dict", data := .dict #[] }) scope.names } : Shared) = s4 at I4 ⊢
  have J4 : Iv (X.blk s3 H3 scope ce fp) [] (wipe σ (own.map (·.2))) H3 s4 := ⟨I4, by rw [← hs4]; exact KG.self⟩
  have st4 : tn 0 s4.heap := T.base.keep _ _ _ st3 fun b _ o e => by rw [← hs4]; exact pushCells_keeps _ _ _ _ (Heap.get?_push_of_some _ e)
  have stat : ∀ {σ' : L2.St} {H' : Hp} {s' : Shared}, Inv (X.blk s3 H3 scope ce fp) [] σ' H' s' → (∀ b ∈ fp, H' b = none) → ∀ b ∈ fp, FpOk (X.blk s3 H3 scope ce fp) [] H' b := fun {σ' H' s'} I' hn b hb =>
    ⟨hn b hb, (I'.ok.exf b hb).1, I'.ok.exfs b hb, .inl hb, fun x c e => (I'.ok.exf b hb).2 x c e, fun p hp => absurd (show p ∈ ([] : Pins) ++ [] from hp) (by simp)⟩
  have loop : codeAny (model X.prog X.w) X.A (.compLoop (.ListComp elt [⟨tg, iter, ifs, 0⟩] scope pos) 0 (.ref it) (.ref D) ce) (compPost (model X.prog X.w) X.A X.xe none (EP X ip σ Q) (.ref D) s3.heap.objs.size) s4 := by
    refine compLoop_any (fun n s' => ∃ i H', Iv (X.blk s3 H3 scope ce fp) [] (wipe σ (own.map (·.2))) H' s' ∧ tn i s'.heap ∧ (∀ b ∈ fp, H' b = none) ∧ W i n H') ?_ m0 ⟨0, H3, J4, st4, nfp, w0⟩
    rintro n s5 ⟨i, H5, J5, st5, n5, w5⟩
    rcases step i n H5 w5 with ⟨stop, qq⟩ | ⟨go, Nx, hNx, turn⟩
    · refine thnF (T.done (X.blk s3 H3 scope ce fp) rfl rfl rfl hc i [] s5 _ H5 (fun _ _ => False) J5 (stat J5.i n5) st5 stop) fun r s6 ⟨hr, J6⟩ => ?_
      subst hr
      have I6 := J6.i
      have J7 : Iv X ip σ H5 s6 := ⟨J3.i.call' (ch := fp) I6.os I6.base I6.hok I6.bare fun b hb => ⟨(f3 b hb).1.2.2.2.1, (f3 b hb).1.2.1, (f3 b hb).1.2.2.2.2.1, (f3 b hb).1.2.2.2.2.2⟩, J3.g.trans J6.g⟩
      have nC : H5 s3.heap.objs.size = none := by
        have z : H5 ce.locals = none := I6.free
        rwa [cL] at z
      obtain ⟨m, hn, _⟩ := I6.loc
      have hn : s6.heap.Ns ce.locals m := hn
      rw [cL] at hn
      obtain ⟨f0, f1, f2', f4, f5, f6⟩ := J3.i.fpOk (Nat.le_refl _) nC
      exact ⟨m, hn, fun h'' sb => ⟨.ref D, H5, J7.go (J7.i.turned (t' := s6.toks) (fun b o hb e => (sb.2 b hb).trans e) f0 f1 f4 f5 f6), rfl, qq⟩⟩
    · refine thnF (T.item (X.blk s3 H3 scope ce fp) rfl rfl rfl hc i [] s5 _ H5 (fun _ _ => False) J5 (stat J5.i n5) st5 go) fun r s6 ⟨u, hr, h6⟩ => ?_
      subst hr
      refine thnF h6 fun _ s7 ⟨x, H7, J7, r7, y7, st7, n7⟩ => ?_
      refine thnF (pg.run _ s7 _ H7 x u _ (J7.pinned (stat J7.i n7) (T.base.obj _ _ st7)) r7 (turn x H7 y7)) fun _ s8 ⟨σ8, H8, J8, hw8, q8⟩ => ?_
      refine thnF (pt.run _ s8 σ8 H8 _ J8 q8) fun b s9 ⟨H9, J9, q9⟩ => ?_
      have fin : ∀ {s' : Shared} {H' : Hp}, Iv (X.blk s3 H3 scope ce fp) ([] ++ pinsAt fp s7.heap) σ8 H' s' → Nx H' → ∃ m, m < n ∧ ∃ i H', Iv (X.blk s3 H3 scope ce fp) [] (wipe σ (own.map (·.2))) H' s' ∧ tn i s'.heap ∧ (∀ b ∈ fp, H' b = none) ∧ W i m H' := fun {s' H'} J' nx => by
        obtain ⟨m', hm, w'⟩ := hNx H' nx
        have at' : ∀ b ∈ fp, ∀ o, s7.heap.get? b = some o → s'.heap.get? b = some o ∧ H' b = none := fun b hb o e =>
          let z := J'.i.pin (b, o) (List.mem_append_right _ (List.mem_append_right _ (mem_pinsAt hb e)))
          ⟨z.1, z.2.1⟩
        refine ⟨m', hm, i + 1, H', J'.go ((J'.i.unpinned (pins := [])).weak (by rw [← hw8, wipe_length]) fun j v e => ?_), T.base.keep _ _ _ st7 fun b hb o e => (at' b hb o e).1, fun b hb => ?_, w'⟩
        · rw [← hw8] at e
          exact (wipe_some e).1
        · obtain ⟨o, e, _⟩ := T.base.obj _ _ st7 b hb
          exact (at' b hb o e).2
      cases b with
      | false =>
        simp only [Bool.false_eq_true, if_false] at q9 ⊢
        exact fin J9 q9
      | true =>
        simp only [if_true] at q9 ⊢
        exact thnF (pe.run _ s9 σ8 H9 _ J9 q9) fun z s10 ⟨yv, H10, J10, r10, acc, hD10, hz10, nx⟩ => append_ok (X := X.blk s3 H3 scope ce fp) J10 hD10 hz10 r10 fun s11 J11 => fin J11 nx
  exact codeAny_compStart_list loop (T.base.self X.A 0 _ _ _ st4 loop)
end
end ML.TK

namespace ML.TK
open PySem PySem.Spec PyProof.Rows L2 GenW
open Sem (wp)

section
variable {γ : Type} (M : Model) (A : Around) (st : γ → Shared) (F : γ → Result → Shared → Prop) (Y : γ → Value → Shared → (γ → Prop) → Prop)
def TEnd (d : γ) (go : γ → Code → Sem PySem.Fin → List PySem.Frame → Prop) (e : PySem.End) (s' : Shared) : Prop :=
  match e with
  | .ret r => F d r s'
  | .susp v g l k c p fs => (PySem.End.susp v g l k c p fs).quiet = true ∧ Y d v s' fun d' => go d' c (k (.send .none)) fs
def TSeg : Nat → γ → Code → Sem PySem.Fin → List PySem.Frame → Shared → Prop
  | 0 => fun d c t fs s => ∀ (Γ : PySem.Ctx) (p : Pos), Γ.code = c → Γ.Woken A → ∃ e s', Runs M Γ p t fs s e s' ∧ TEnd F Y d (fun _ _ _ _ => False) e s'
  | n + 1 => fun d c t fs s => ∀ (Γ : PySem.Ctx) (p : Pos), Γ.code = c → Γ.Woken A → ∃ e s', Runs M Γ p t fs s e s' ∧ TEnd F Y d (fun d' c' t' fs' => TSeg n d' c' t' fs' (st d')) e s'
def TSeg.nxt : Nat → γ → Code → Sem PySem.Fin → List PySem.Frame → Prop
  | 0 => fun _ _ _ _ => False
  | n + 1 => fun d c t fs => TSeg M A st F Y n d c t fs (st d)
end
section
variable {γ : Type} {M : Model} {A : Around} {st : γ → Shared} {F : γ → Result → Shared → Prop} {Y : γ → Value → Shared → (γ → Prop) → Prop} {n : Nat} {d : γ} {c : Code} {fs : List PySem.Frame} {s : Shared}
theorem tseg_iff {t : Sem PySem.Fin} : TSeg M A st F Y n d c t fs s ↔ ∀ (Γ : PySem.Ctx) (p : Pos), Γ.code = c → Γ.Woken A → ∃ e s', Runs M Γ p t fs s e s' ∧ TEnd F Y d (TSeg.nxt M A st F Y n) e s' := by
  cases n <;> exact Iff.rfl
theorem tseg_wrap {α : Type} {m : Sem α} {K : α → Sem PySem.Fin} {H : Value → Sem PySem.Fin} {gd : Bool → Bool} {lv : List Value → List Value}
    (h : wpAny M (A.over c fs) m (fun a s' => TSeg M A st F Y n d c (K a) fs s') (fun x s' => TSeg M A st F Y n d c (H x) fs s') s) : TSeg M A st F Y n d c (m.wrap K H gd lv) fs s := by
  rw [tseg_iff]
  rintro Γ p rfl w
  exact runs_wrap_of_wp K H gd lv m (h (Γ.over fs) p (w.over fs)) (fun a p' s' q => tseg_iff.mp q Γ p' rfl w) fun x p' s' q => tseg_iff.mp q Γ p' rfl w
theorem tseg_bind_wrap {α β : Type} {m : Sem α} {K : α → Sem β} {K' : β → Sem PySem.Fin} {H' : Value → Sem PySem.Fin} {gd : Bool → Bool} {lv : List Value → List Value}
    (h : wpAny M (A.over c fs) m (fun a s' => TSeg M A st F Y n d c ((K a).wrap K' H' gd lv) fs s') (fun x s' => TSeg M A st F Y n d c (H' x) fs s') s) : TSeg M A st F Y n d c ((m >>= K).wrap K' H' gd lv) fs s := by
  rw [Sem.bind_eq_wrap', Sem.wrap_wrap]
  exact tseg_wrap h
theorem tseg_at {p' : Pos} {k : Unit → Sem PySem.Fin} (h : TSeg M A st F Y n d c (k ()) fs s) : TSeg M A st F Y n d c (.at p' k) fs s :=
  tseg_wrap (m := standAt p') (K := k) (H := .raise) (gd := id) (lv := id) (wpAny_standAt h)
theorem tseg_point {l : List Value} {k : Unit → Sem PySem.Fin} (h : TSeg M A st F Y n d c (k ()) fs s) : TSeg M A st F Y n d c (.point l k) fs s :=
  tseg_wrap (m := point) (K := k) (H := .raise) (gd := id) (lv := fun _ => l) (wpAny_point h)
theorem tseg_call {c' : Code} {h : Option Value} {g : Bool} {l : List Value} {k : Result → Sem PySem.Fin} (hc : ∀ p, TSeg M A st F Y n d c' (M.den c') (.ret k h g l c p [] :: fs) s) : TSeg M A st F Y n d c (.call c' h g l k) fs s := by
  rw [tseg_iff]
  rintro Γ p rfl w
  obtain ⟨e, s', hr, he⟩ := tseg_iff.mp (hc p) (Γ.goto c') p rfl (w.goto c')
  exact ⟨e, s', runs_call_seg hr, he⟩
theorem tseg_leaf {k : Result → Sem PySem.Fin} {h : Option Value} {g : Bool} {l kp : List Value} {c₁ : Code} {p₁ : Pos} (r : Result) (hk : TSeg M A st F Y n d c₁ (k r) fs s) : TSeg M A st F Y n d c (leafOf r) (.ret k h g l c₁ p₁ kp :: fs) s := by
  rw [tseg_iff]
  rintro Γ p rfl w
  obtain ⟨e, s', hr, he⟩ := tseg_iff.mp hk (Γ.goto c₁) p₁ rfl (w.goto c₁)
  exact ⟨e, s', Runs.pop r hr, he⟩
theorem tseg_again {c' : Code} (hq : c'.quiet = true) (hc : TSeg M A st F Y n d c' (M.den c') fs s) : TSeg M A st F Y n d c (.pure (.again c')) fs s := by
  rw [tseg_iff]
  rintro Γ p rfl w
  obtain ⟨e, s', hr, he⟩ := tseg_iff.mp hc (Γ.goto c') p rfl (w.goto c')
  exact ⟨e, s', Runs.head (c₁ := c') (fun _ _ x => .again hq x) hr, he⟩
theorem tseg_end (r : Result) (h : F d r s) : TSeg M A st F Y n d c (leafOf r) [] s := by
  rw [tseg_iff]
  rintro Γ p rfl _
  exact ⟨.ret r, s, Runs.leaf r, h⟩
theorem tseg_yield {v : Value} {g : Bool} {l : List Value} {k : Resume → Sem PySem.Fin} (hfs : splitAtGen fs = none) (hg : g = false) (hfg : fs.any Frame.guarded = false)
    (h : Y d v s fun d' => TSeg M A st F Y n d' c (k (.send .none)) fs (st d')) : TSeg M A st F Y (n + 1) d c (.yield v g l k) fs s := by
  rintro Γ p rfl _
  exact ⟨_, s, Runs.yield' fs hfs, And.intro (by simp [End.quiet, hg, hfg]) h⟩
variable {env : Env} {K : Flow → Sem PySem.Fin} {H : Value → Sem PySem.Fin} {gd : Bool → Bool} {lv : List Value → List Value}
theorem tseg_execs_nil (h : TSeg M A st F Y n d c (K .next) fs s) : TSeg M A st F Y n d c ((execs [] env).wrap K H gd lv) fs s := h
theorem tseg_execs_cons {x : Stmt} {rest : List Stmt} (h : TSeg M A st F Y n d c ((exec x env).wrap (fun f => match f with | .next => (execs rest env).wrap K H gd lv | f => K f) H gd lv) fs s) :
    TSeg M A st F Y n d c ((execs (x :: rest) env).wrap K H gd lv) fs s := by rw [execs_cons_wrap]; exact h
theorem tseg_Expr_Yield {e : Expr} {yp pos : Pos} (hfs : splitAtGen fs = none) (hgd : gd false = false) (hfg : fs.any Frame.guarded = false)
    (h : wpAny M (A.over c fs) (eval e env) (fun v s' => ∀ kap : γ → Prop, (∀ d', TSeg M A st F Y n d' c (K .next) fs (st d') → kap d') → Y d v s' kap) (fun x s' => TSeg M A st F Y (n + 1) d c (H x) fs s') s)
    (hco : env.scope.isCoroutine = false := by rfl) (hi : interactive env = false := by rfl) : TSeg M A st F Y (n + 1) d c ((exec (.Expr (.Yield (some e) yp) pos) env).wrap K H gd lv) fs s := by
  rw [exec_Expr env _ pos hi rfl]
  show TSeg M A st F Y (n + 1) d c (.at pos fun _ => ((eval e env >>= fun v => (standAt yp >>= fun _ => yieldOut env v)) >>= fun x => dropValue (.Yield (some e) yp) pos x).wrap K H gd lv) fs s
  have hy : ∀ v, yieldOut env v = yieldValue v := fun v => by simp only [yieldOut, hco, Bool.false_eq_true, if_false]
  simp only [hy]
  refine tseg_at ?_
  rw [Sem.bind_eq_wrap', Sem.bind_eq_wrap', Sem.wrap_wrap, Sem.wrap_wrap]
  refine tseg_wrap (wpAny_mono h (fun v s' q => ?_) fun _ _ x => x)
  exact tseg_at (tseg_yield hfs hgd hfg (q _ fun d' z => z))
end
theorem tseg_func {γ : Type} {P : Program} {w : World} {A : Around} {st : γ → Shared} {F : γ → Result → Shared → Prop} {Y : γ → Value → Shared → (γ → Prop) → Prop} {n : Nat} {d : γ} {fs : List PySem.Frame} {s : Shared} {env : Env} {body : List Stmt}
    (h : TSeg (model P w) A st F Y n d (.func body env) ((execs body env).wrap (fun f => .pure (.done (.ret (match f with | .ret v => v | _ => .none)))) (fun e => (leaving env e).wrap (fun _ => .raise e) .raise id id) id id) fs s) :
    TSeg (model P w) A st F Y n d (.func body env) ((model P w).den (.func body env)) fs s := by
  show TSeg _ A st F Y n d _ (.point [] fun _ => ((execs body env).onRaise (leaving env)) >>= _) fs s
  refine tseg_point ?_
  rw [Sem.onRaise_eq_wrap, Sem.bind_eq_wrap', Sem.wrap_wrap]
  rw [Sem.wrap_congr (execs body env) _ _ (K' := fun f => .pure (.done (.ret (match f with | .ret v => v | _ => .none)))) (H' := fun e => (leaving env e).wrap (fun _ => .raise e) .raise id id) (fun f => by cases f <;> rfl)
    (fun e => by rw [Sem.bind_eq_wrap, Sem.wrap_wrap]; rfl)]
  exact h

def Goes {γ : Type} (M : Model) (A : Around) (st : γ → Shared) (F : γ → Result → Shared → Prop) (Y : γ → Value → Shared → (γ → Prop) → Prop) (n : Nat) (gs : GenState) (d : γ) : Prop :=
  match gs with
  | .fresh c => TSeg M A st F Y n d c (M.den c) [] (st d)
  | .suspended k _ c _ fs _ => TSeg M A st F Y n d c (k (.send .none)) fs (st d)
  | _ => False
section
variable {γ : Type} {M : Model} {A : Around} {st : γ → Shared} {F : γ → Result → Shared → Prop} {Y : γ → Value → Shared → (γ → Prop) → Prop} {n : Nat} {d : γ} {E : Value → Shared → Prop} {s : Shared} {gi : Nat} {gs : GenState}
theorem wakes {l : List Value} {β : Type} {kk : GenResult → Sem β} {Q : β → Shared → Prop} (h0 : s.gens[gi]? = some gs) (hd : st d = s.setGen gi .running) (go : Goes M A st F Y n gs d)
    (hr : ∀ x z, F d x z → wpAny M A (kk (End.ret x).result) Q E (z.setGen gi .finished))
    (hy : ∀ v z gs', gs'.bare = true → gs'.status = .suspended → Y d v z (fun d' => match n with | 0 => False | m + 1 => Goes M A st F Y m gs' d') → wpAny M A (kk (.yielded v)) Q E (z.setGen gi gs')) :
    wpAny M A (.resume gi (.send .none) l kk) Q E s := fun Γ p hΓ => by
  rw [Sem.wp_resume]
  have seg : ∀ e z, TEnd F Y d (TSeg.nxt M A st F Y n) e z → e.quiet = true ∧ wp M Γ (kk e.result) (fun a _ z' => Q a z') (fun x _ z' => E x z') p (z.setGen gi e.genState) := fun e z h => by
    cases e with
    | ret x => exact ⟨rfl, hr x z h Γ p hΓ⟩
    | susp v q l1 k1 c1 p1 fs1 => exact ⟨h.1, hy v z (.suspended k1 l1 c1 p1 fs1 _) (End.bare_of_quiet h.1) rfl (by cases n with | zero => exact h.2 | succ m => exact h.2) Γ p hΓ⟩
  cases gs with
  | fresh c =>
    have go : TSeg M A st F Y n d c (M.den c) [] (st d) := go
    rw [hd] at go
    obtain ⟨e, z, run, h⟩ := tseg_iff.mp go (Γ.wake c p) p rfl (hΓ.wake c p)
    exact ⟨_, _, by unfold Wakes; rw [h0]; exact ⟨e, z, run, (seg e z h).1, rfl, rfl⟩, (seg e z h).2⟩
  | suspended k1 l1 c1 p1 fs1 cl =>
    have go : TSeg M A st F Y n d c1 (k1 (.send .none)) fs1 (st d) := go
    rw [hd] at go
    obtain ⟨e, z, run, h⟩ := tseg_iff.mp go (Γ.wake c1 p) p1 rfl (hΓ.wake c1 p)
    exact ⟨_, _, by unfold Wakes; rw [h0]; exact ⟨e, z, run, (seg e z h).1, rfl, rfl⟩, (seg e z h).2⟩
  | running => exact go.elim
  | finished => exact go.elim
end
end ML.TK

namespace ML.TK
open PySem PySem.Spec PyProof.Rows L2 GenW

structure Dg where
  pins : Pins
  k : Nat
  G : Hp
  oL : Obj
  ip : Pins
  σ : L2.St
  H : Hp
  s : Shared
structure GK {α : Type} where
  X : Cx
  L : Addr
  N : List Str
  ps : List Str
  scope : Scope
  qual : Str
  f : Addr
  cd : Value
  A : Around
  ys : List α
  r : R α
section
variable {α : Type} (g : GK (α := α))
abbrev GK.M : Model := model g.X.prog g.X.w
abbrev GK.env : Env := envOfC g.qual g.scope g.L g.f g.cd
abbrev GK.cx (sc : Shared) (H : Hp) : Cx := gx g.X.prog g.X.w g.X.K g.X.mg g.X.base g.N g.qual g.scope g.f g.cd g.A g.X.stack g.L sc H
abbrev Slp (d : Dg) : Prop := Sleep g.X d.pins g.L d.G d.oL d.ip d.σ d.H d.s
def GK.Y (d : Dg) (v : Value) (s : Shared) (kap : Dg → Prop) : Prop := ∃ y vv G' oL' ip' H', g.ys[d.k]? = some y ∧ RelV vv v ∧ g.r.p y G' vv ∧
  Sleep g.X d.pins g.L G' oL' ip' d.σ H' s ∧ Grown d.G d.H G' H' ∧ KG d.s s ∧ ∀ d' : Dg, d'.k = d.k + 1 → d'.G = G' → d'.oL = oL' → d'.ip = ip' → Slp g d' → kap d'
def GK.F (d : Dg) (r : Result) (s : Shared) : Prop := (r = .ok (.ret .none) ∨ r = .ok .next) ∧ d.k = g.ys.length ∧ ∃ G' H', Inv g.X d.pins d.σ H' s ∧ Grown d.G d.H G' H' ∧ KG d.s s
abbrev GK.seg : Nat → Dg → Code → Sem PySem.Fin → List PySem.Frame → Shared → Prop := TSeg g.M g.A Dg.s g.F g.Y
structure Going (ex : List Addr) (k : Nat) (Gm : Gam) (T : Tms) (cs : Cells) (ip : Pins) (d : Dg) (s : Shared) (σ : L2.St) (H : Hp) : Prop where
  S : Slp g d
  kk : d.k = k
  J : Iv (g.cx (cut g.L d.s) (wakeH g.L d.G d.ip d.s)) ip σ H s
  st : Sta ⟨d.G, froz d.G g.L (ads g.L d.ip) d.s⟩ Gm T cs σ H
  sub : ∀ p ∈ d.ip, p.1 ∈ ip.map (·.1) ∨ p.1 ∈ ex
  ex : ∀ b ∈ ex, H b = none
  up : ∀ p ∈ ip, g.L < p.1
def Gg (ex : List Addr) (k : Nat) (Gm : Gam) (T : Tms) (cs : Cells) (ip : Pins) (c : Code) (t : Sem PySem.Fin) (fs : List PySem.Frame) : Prop :=
  ∀ n d s σ H, n + k = g.ys.length + 1 → Going g ex k Gm T cs ip d s σ H → g.seg n d c t fs s
structure GC' (c : Code) (fs : List PySem.Frame) (gd : Bool → Bool) : Prop where
  over : g.A.over c fs = g.A.deeper g.env
  split : splitAtGen fs = none
  guard : fs.any Frame.guarded = false
  gd : gd false = false
end
section
variable {α : Type} {g : GK (α := α)} {k : Nat} {Gm Gm' : Gam} {T : Tms} {cs cs' : Cells} {ip : Pins} {ex : List Addr} {c : Code} {fs : List PySem.Frame} {K : Flow → Sem PySem.Fin} {J : Value → Sem PySem.Fin} {gd : Bool → Bool} {lv : List Value → List Value} {st : Stmt} {rest body orelse : List Stmt} {pos : Pos}
theorem Going.back {d : Dg} {s : Shared} {σ : L2.St} {H : Hp} (h : Going g ex k Gm T cs ip d s σ H) (Z : Pact g.X g.N g.ps g.scope g.A g.L) : Back g.X d.pins g.L d.G d.ip d.σ d.H H d.s s := by
  obtain ⟨F, c, _, _⟩ := h.st
  refine h.S.back Z h.J.i (c.f0.trans c.fh) c.bh fun b hb => ?_
  rcases List.mem_cons.mp hb with e | hb
  · rw [e]; exact h.J.i.free
  · obtain ⟨p, hp, e⟩ := List.mem_map.mp hb
    rcases h.sub p hp with z | z
    · obtain ⟨q, hq, eq⟩ := List.mem_map.mp z
      rw [← e, ← eq]
      exact (h.J.i.pin q (List.mem_append_right _ hq)).2.1
    · rw [← e]; exact h.ex _ z
theorem Going.kg {d : Dg} {s : Shared} {σ : L2.St} {H : Hp} (h : Going g ex k Gm T cs ip d s σ H) : KG d.s s := h.J.g
theorem gg_nil (h : Gg g ex k Gm T cs ip c (K .next) fs) : Gg g ex k Gm T cs ip c ((execs [] g.env).wrap K J gd lv) fs := fun n d s σ H hn hg => tseg_execs_nil (h n d s σ H hn hg)
theorem gg_cons (h : Gg g ex k Gm T cs ip c ((exec st g.env).wrap (fun f => match f with | .next => (execs rest g.env).wrap K J gd lv | f => K f) J gd lv) fs) : Gg g ex k Gm T cs ip c ((execs (st :: rest) g.env).wrap K J gd lv) fs := fun n d s σ H hn hg =>
  tseg_execs_cons (h n d s σ H hn hg)
theorem gg_weak {t : Sem PySem.Fin} (w : Wkn Gm Gm') (h : Gg g ex k Gm' T cs ip c t fs) : Gg g ex k Gm T cs ip c t fs := fun n d s σ H hn hg =>
  h n d s σ H hn ⟨hg.S, hg.kk, hg.J, let ⟨F, a, b, c⟩ := hg.st; ⟨F, a, b.weak w, c⟩, hg.sub, hg.ex, hg.up⟩
theorem gg_plain {t : TS} (hc : GC' g c fs gd) (hP : ∀ sc H, sc.heap.objs.size = g.L → PS (g.cx sc H) st t)
    (hN : ∀ W, NxT (t ⟨fun σ H => Sta W Gm' T cs' σ H, fun _ _ => False, fun _ _ => False, fun _ _ => False⟩) W Gm T cs)
    (hk : Gg g [] k Gm' T cs' ip c (K .next) fs) : Gg g [] k Gm T cs ip c ((exec st g.env).wrap K J gd lv) fs := fun n d s σ H hn hg => by
  refine tseg_wrap ?_
  rw [hc.over]
  refine wpAny_mono ((hP _ _ (cut_size (Nat.le_of_lt hg.S.lt))).run ip s σ H _ hg.J (hN _ σ H hg.st)) (fun f s' q => ?_) fun e s' q => q.elim
  cases f with
  | next =>
    obtain ⟨σ', H', J', st'⟩ := q
    exact hk n d s' σ' H' hn ⟨hg.S, hg.kk, J', st', hg.sub, fun b hb => by simp at hb, hg.up⟩
  | brk => obtain ⟨_, _, _, q⟩ := q; exact q.elim
  | cont => obtain ⟨_, _, _, q⟩ := q; exact q.elim
  | ret u => obtain ⟨_, _, _, _, _, q⟩ := q; exact q.elim
theorem gg_if {test : Expr} {tc : TT} {b0 : Bool} (hc : GC' g c fs gd) (hP : ∀ sc H, sc.heap.objs.size = g.L → PT (g.cx sc H) test tc)
    (hT : ∀ W, Et tc W Gm T cs fun b cs1 => b = b0 ∧ cs1 = cs') (h1 : b0 = true → Gg g [] k Gm T cs' ip c ((execs body g.env).wrap K J gd lv) fs) (h2 : b0 = false → Gg g [] k Gm T cs' ip c ((execs orelse g.env).wrap K J gd lv) fs) :
    Gg g [] k Gm T cs ip c ((exec (.If test body orelse pos) g.env).wrap K J gd lv) fs := fun n d s σ H hn hg => by
  rw [arm_exec_If]
  refine tseg_at ?_
  show g.seg n d c ((isTrue test g.env (eval test g.env) >>= fun b => if b = true then execs body g.env else execs orelse g.env).wrap K J gd lv) fs s
  refine tseg_bind_wrap ?_
  rw [hc.over]
  refine wpAny_mono ((hP _ _ (cut_size (Nat.le_of_lt hg.S.lt))).run ip s σ H _ hg.J (hT _ σ H hg.st (fun b H1 => b = b0 ∧ Sta ⟨d.G, froz d.G g.L (ads g.L d.ip) d.s⟩ Gm T cs' σ H1) fun b cs1 ⟨e1, e2⟩ H1 st1 => by subst e2; exact ⟨e1, st1⟩)) (fun b s' q => ?_) fun e s' q => q.elim
  obtain ⟨H1, J1, e1, st1⟩ := q
  subst e1
  have hg' : Going g [] k Gm T cs' ip d s' σ H1 := ⟨hg.S, hg.kk, J1, st1, hg.sub, fun b hb => by simp at hb, hg.up⟩
  cases b with
  | true => rw [if_pos rfl]; exact h1 rfl n d s' σ H1 hn hg'
  | false => rw [if_neg Bool.false_ne_true]; exact h2 rfl n d s' σ H1 hn hg'
theorem gg_yield {e : Expr} {yp : Pos} {te : TE} {y : α} (Z : Pact g.X g.N g.ps g.scope g.A g.L) (hc : GC' g c fs gd) (hP : ∀ sc H, sc.heap.objs.size = g.L → PE (g.cx sc H) e te)
    (hV : ∀ W, Ev te W Gm [] [] fun sl cs1 => sl = g.r.at y ∧ cs1 = []) (hy : g.ys[k]? = some y) (lr : LeanR g.r) (lg : LeanG Gm) (hk : Gg g [] (k + 1) Gm [] [] ip c (K .next) fs) :
    Gg g [] k Gm [] [] ip c ((exec (.Expr (.Yield (some e) yp) pos) g.env).wrap K J gd lv) fs := fun n d s σ H hn hg => by
  have hkl : k < g.ys.length := (List.getElem?_eq_some_iff.mp hy).1
  obtain ⟨n, rfl⟩ : ∃ m, n = m + 1 := ⟨n - 1, by omega⟩
  refine tseg_Expr_Yield hc.split hc.gd hc.guard ?_ Z.sc.g.co (by show (g.scope.kind == .module && _) = false; rw [Z.sc.g.kind]; rfl)
  rw [hc.over]
  refine wpAny_mono ((hP _ _ (cut_size (Nat.le_of_lt hg.S.lt))).run ip s σ H (fun v H1 => Sta ⟨d.G, froz d.G g.L (ads g.L d.ip) d.s⟩ Gm [(v, g.r.at y)] [] σ H1) hg.J (hV _ σ H hg.st _ fun sl cs1 ⟨e1, e2⟩ v H1 st1 => by subst e1 e2; exact st1)) (fun u s' q => ?_) fun e s' q => q.elim
  obtain ⟨vv, H1, J1, rv, st1⟩ := q
  intro kap hkap
  have hg1 : Going g [] k Gm [(vv, g.r.at y)] [] ip d s' σ H1 := ⟨hg.S, hg.kk, J1, st1, hg.sub, fun b hb => by simp at hb, hg.up⟩
  have B := hg1.back Z
  have S := hg.S
  have I1 := J1.i
  obtain ⟨F, cr, sl, tm⟩ := st1
  have FM : Same F (mix d.s d.G H1) := fun b x eb => by
    have e1 := cr.fh b x eb
    cases eo : d.s.heap.get? b with
    | none => rw [mix_new eo]; exact e1
    | some o =>
      rw [mix_old eo]
      rcases B.know b o x eo e1 with z | z
      · exact z
      · have := cr.bf b x z
        rw [eb] at this; cases this
  obtain ⟨oL', hoL, loc⟩ := loc_of I1 fun x => Z.sc.kinds
  have young : ∀ p ∈ ip, (d.s.heap.get? p.1 = none) ∨ p.1 ∈ ads g.L d.ip := fun p hp => by
    cases eo : d.s.heap.get? p.1 with
    | none => exact .inl rfl
    | some o =>
      right
      have hN := (I1.pin p (List.mem_append_right _ hp)).2.1
      cases r : d.G p.1 with
      | some z => rw [(cr.f0.trans cr.fh) p.1 z r] at hN; cases hN
      | none =>
        by_cases hin : p.1 ∈ ads g.L d.ip
        · exact hin
        · rw [cr.bh p.1 _ (froz_some r (Nat.le_of_lt (hg.up p hp)) hin eo)] at hN; cases hN
  have S' : Sleep g.X d.pins g.L (lean (mix d.s d.G H1)) oL' ip d.σ (mix d.s d.H H1) s' := by
    refine ⟨B.inv.pins_of fun p hp => ?_, B.whole, B.sub, hg.up, fun p hp => ?_, fun p hp q hq => ?_⟩
    · rcases List.mem_append.mp hp with hp | hp
      · exact B.inv.pin p (List.mem_append_right _ hp)
      · have old : ∀ {b : Addr} {o : Obj}, (∀ v, o.data ≠ .cell v) → s'.heap.get? b = some o → b ∈ ads g.L d.ip → s'.heap.get? b = some o ∧ mix d.s d.H H1 b = none ∧ b ≠ g.X.env.locals ∧ b ∉ g.X.fs ∧ ∀ v, o.data ≠ .cell v := fun {b o} hd eo hb => by
          obtain ⟨ob, hob⟩ := S.ownA hb
          obtain ⟨h1, h2, h3, h4, _⟩ := S.own hob
          exact ⟨eo, (mix_old h1).trans h2, h3, h4, hd⟩
        rcases List.mem_cons.mp hp with e | hp
        · subst e
          obtain ⟨es, ep, m, hd, _⟩ := loc
          exact old (fun v z => by rw [hd] at z; cases z) hoL List.mem_cons_self
        · obtain ⟨h1, h2, _, _, h5⟩ := I1.pin p (List.mem_append_right _ hp)
          rcases young p hp with z | z
          · refine ⟨h1, (mix_new z).trans h2, fun e => ?_, fun e => ?_, h5⟩
            · obtain ⟨m, ⟨o, _, _, ho, _⟩, _⟩ := S.inv.loc
              rw [← e, z] at ho; cases ho
            · obtain ⟨_, o, ho, _⟩ := S.inv.funs.mem e
              rw [z] at ho; cases ho
          · exact old h5 h1 z
    · rcases young p hp with z | z
      · cases e0 : g.X.s_0.heap.get? p.1 with
        | none => exact Z.freed p.1 (hg.up p hp) e0
        | some o =>
          by_cases hex : p.1 ∈ g.X.ex
          · exact .inl hex
          · obtain ⟨o', e1⟩ := S.inv.base.there p.1 o e0 hex
            rw [z] at e1; cases e1
      · rcases List.mem_cons.mp z with e | z
        · exact absurd e (Nat.ne_of_gt (hg.up p hp))
        · obtain ⟨q, hq, e⟩ := List.mem_map.mp z
          rw [← e]; exact S.late q hq
    · have oldA : p.1 ∈ ads g.L d.ip → q.1 ≠ p.1 := fun hb => by
        obtain ⟨ob, hob⟩ := S.ownA hb
        exact S.apart _ hob q hq
      rcases List.mem_cons.mp hp with e | hp
      · subst e; exact oldA List.mem_cons_self
      · rcases young p hp with z | z
        · intro e
          have := (S.inv.pin q (by rcases List.mem_append.mp hq with y | y; exact List.mem_append_left _ y; exact List.mem_append_right _ (List.mem_append_left _ y))).1
          rw [e, z] at this; cases this
        · exact oldA z
  refine ⟨y, vv, lean (mix d.s d.G H1), oL', ip, mix d.s d.H H1, by rw [hg.kk]; exact hy, rv, lr y _ _ ((g.r.at y).mono FM (tm.head)), S', B.grown S.inv.hok, J1.g, fun d' e1 e2 e3 e4 S'' => hkap d' ?_⟩
  obtain ⟨pins2, k2, G2, oL2, ip2, σ2, H2, s2⟩ := d'
  have e1 : k2 = d.k + 1 := e1
  have e2 : G2 = _ := e2
  have e3 : oL2 = _ := e3
  have e4 : ip2 = _ := e4
  subst e1 e2 e3 e4
  refine hk n _ s2 σ _ (by omega) ⟨S'', by show d.k + 1 = k + 1; rw [hg.kk], ⟨S''.wake Z loc I1.len, KG.self⟩, ?_, fun p hp => .inl (List.mem_map.mpr ⟨p, hp, rfl⟩), fun b hb => by simp at hb, hg.up⟩
  refine ⟨_, ⟨Same.refl _, both_l, both_r, fun b x e => (froz_of e).1, by simp, fun x hx => by simp at hx⟩, ?_, Temps.nil⟩
  refine ⟨sl.1, fun i s hi => ?_⟩
  obtain ⟨v, h1, h2⟩ := sl.2 i s hi
  exact ⟨v, h1, lg i s hi _ _ (s.mono FM h2)⟩
theorem gg_end (Z : Pact g.X g.N g.ps g.scope g.A g.L) (hk : k = g.ys.length) : Gg g ex k Gm T cs ip c (.pure (.done (.ret .none))) [] := fun n d s σ H hn hg =>
  tseg_end (.ok (.ret .none)) ⟨.inl rfl, hg.kk.trans hk, _, _, (hg.back Z).inv, (hg.back Z).grown hg.S.inv.hok, hg.kg⟩
theorem gc_in {c' : Code} {kk : Result → Sem PySem.Fin} {l kp : List Value} {p : Pos} (hc : GC' g c fs gd) (hw : c'.weight = 0) (hu : c'.cUnits = 0) : GC' g c' (.ret kk none (gd false) l c p kp :: fs) id where
  over := (over_loop hw hu).trans hc.over
  split := by
    show (splitAtGen fs).map _ = none
    rw [hc.split]; rfl
  guard := by
    show (gd false || fs.any Frame.guarded) = false
    rw [hc.gd, hc.guard]; rfl
  gd := rfl
theorem gg_range {tg iter : Expr} {ta : TA} {i : Nat} {NN : Int} {kk : Nat → Nat} {GL : Gam} (Z : Pact g.X g.N g.ps g.scope g.A g.L) (hc : GC' g c fs gd)
    (hi : ∀ sc H, sc.heap.objs.size = g.L → PI (g.cx sc H) tg iter (iRng1 ta)) (hg : ∀ sc H, sc.heap.objs.size = g.L → PG (g.cx sc H) tg (gName i))
    (hn : ∀ W, EvA ta W Gm [] [] fun sls cs1 => sls = [rInt.at NN] ∧ cs1 = []) (hs : small62 NN) (h0 : kk 0 = k) (hw : Wkn Gm GL)
    (hb : ∀ (j : Nat) (ipb : Pins) (c' : Code) (fs' : List PySem.Frame) (K' : Flow → Sem PySem.Fin) (J' : Value → Sem PySem.Fin), j < NN.toNat → GC' g c' fs' id →
      Gg g [] (kk (j + 1)) GL [] [] ipb c' (K' .next) fs' → Gg g [] (kk j) (GL.set i (some (rInt.at (j : Int)))) [] [] ipb c' ((execs body g.env).wrap K' J' id id) fs')
    (after : ∀ ex, Gg g ex (kk NN.toNat) GL [] [] ip c (K .next) fs) (hfs : ∀ x, foldedSetIterable iter g.env x = pure x := by intro _; rfl) :
    Gg g [] k Gm [] [] ip c ((exec (.For tg iter body [] pos) g.env).wrap K J gd lv) fs := fun n d s σ H hnk hg0 => by
  subst h0
  rw [arm_exec_For]
  refine tseg_at ?_
  show g.seg n d c ((eval iter g.env >>= fun v => foldedSetIterable iter g.env v >>= fun x => standAt iter.pos >>= fun _ => holding [x] (pyIter x) >>= fun it => runOwn (.forLoop tg it body [] g.env) g.env).wrap K J gd lv) fs s
  refine tseg_bind_wrap ?_
  rw [hc.over]
  refine wpAny_mono ((hi _ _ (cut_size (Nat.le_of_lt hg0.S.lt))).run ip s σ H (fun J1 H1 => J1 = Itr 0 NN.toNat ∧ Sta ⟨d.G, froz d.G g.L (ads g.L d.ip) d.s⟩ Gm [] [] σ H1) hg0.J ?_) (fun v s1 h1 => ?_) fun e s' q => q.elim
  · refine hn _ σ H hg0.st _ fun sls cs1 ⟨e1, e2⟩ vs H1 ⟨F, c1, sg, t1, ar⟩ => ?_
    subst e1 e2
    exact ⟨NN, args1i ar, hs.1, hs.2, rfl, F, c1, sg, t1⟩
  rw [hfs]
  show g.seg n d c ((standAt iter.pos >>= fun _ => holding [v] (pyIter v) >>= fun it => runOwn (.forLoop tg it body [] g.env) g.env).wrap K J gd lv) fs s1
  refine tseg_at ?_
  show g.seg n d c ((holding [v] (pyIter v) >>= fun it => runOwn (.forLoop tg it body [] g.env) g.env).wrap K J gd lv) fs s1
  refine tseg_bind_wrap (wpAny_holding ?_)
  rw [hc.over]
  refine wpAny_mono h1 (fun itv s2 h2 => ?_) fun e s' q => q.elim
  obtain ⟨it, fp, tn, J1, H2, rfl, I2, Tn, st2, f2, rfl, st20⟩ := h2
  refine tseg_call fun p => ?_
  have stat : ∀ b ∈ fp, b ≠ g.L ∧ b ∉ frs g.X.stack ∧ g.L < b ∧ ∀ q ∈ ip, q.1 ≠ b := fun b hb => by
    obtain ⟨_, h2, h3, h4, _, h6⟩ := f2 b hb
    have h4' : g.L ≤ b := by
      rcases h4 with z | z
      · exact absurd (show b ∈ ([] : List Addr) from z) (by simp)
      · have z' : (cut g.L d.s).heap.objs.size ≤ b := z
        rwa [cut_size (Nat.le_of_lt hg0.S.lt)] at z'
    exact ⟨h2, h3, Nat.lt_of_le_of_ne h4' (Ne.symm h2), fun q hq => h6 q hq⟩
  have okf : ∀ {sc : Shared} {H0 H' : Hp} {b : Addr}, sc.heap.objs.size = g.L → b ∈ fp → H' b = none → FpOk (g.cx sc H0) ip H' b := fun {sc H0 H' b} hsz hb hn => by
    obtain ⟨h1, h2, h3, h4⟩ := stat b hb
    refine ⟨hn, h1, h2, .inr ?_, fun x c e => ?_, fun q hq => h4 q hq⟩
    · show sc.heap.objs.size ≤ b
      rw [hsz]; exact Nat.le_of_lt h3
    · have e' : (envOfC g.qual g.scope g.L g.f g.cd).cells.lookup x = some c := e
      rw [Z.sc.nocell] at e'; cases e'
  have gl := fun (kr : Result → Sem PySem.Fin) => gc_in (kk := kr) (c' := .forLoop tg (.ref it) body [] g.env) (l := lv []) (kp := []) (p := p) hc rfl rfl
  have loop : ∀ (m j n : Nat) (d : Dg) (s : Shared) (σ : L2.St) (H : Hp), j + m = NN.toNat → n + kk j = g.ys.length + 1 → Going g fp (kk j) GL [] [] ip d s σ H → tn j s.heap →
      g.seg n d (.forLoop tg (.ref it) body [] g.env) (g.M.den (.forLoop tg (.ref it) body [] g.env))
        (.ret (fun r => ((match r with | .ok f => (.pure f : Sem Flow) | .error e => .raise e).onRaise (cameBack g.env)).wrap K J gd lv) none (gd false) (lv []) c p [] :: fs) s := by
    intro m
    induction m with
    | zero =>
      intro j n d s σ H hj hnk hg1 ht
      have hsz := cut_size (Nat.le_of_lt hg1.S.lt)
      show g.seg _ _ _ ((forTurn tg (.ref it) body [] g.env).onRaise (fun x => do noteFrame x g.env; theTreesLotGoes x)) _ s
      rw [Sem.onRaise_eq_wrap]
      unfold forTurn
      refine tseg_bind_wrap (wpAny_standAt ?_)
      refine tseg_bind_wrap (wpAny_onRaise ?_)
      rw [(gl _).over]
      refine wpAny_mono (Tn.done (g.cx (cut g.L d.s) (wakeH g.L d.G d.ip d.s)) rfl rfl rfl rfl j ip s σ H (fun _ _ => False) hg1.J (fun b hb => okf hsz hb (hg1.ex b hb)) ht (by show NN.toNat ≤ j; omega)) (fun r s3 ⟨er, I3⟩ => ?_) fun e s' q => q.elim
      subst er
      refine tseg_again rfl ?_
      show g.seg _ _ _ (leafOf (.ok .next)) _ s3
      refine tseg_leaf (.ok .next) ?_
      have ej : j = NN.toNat := by omega
      subst ej
      exact after fp n d s3 σ H hnk ⟨hg1.S, hg1.kk, I3, hg1.st, hg1.sub, hg1.ex, hg1.up⟩
    | succ m ih =>
      intro j n d s σ H hj hnk hg1 ht
      have hsz := cut_size (Nat.le_of_lt hg1.S.lt)
      show g.seg _ _ _ ((forTurn tg (.ref it) body [] g.env).onRaise (fun x => do noteFrame x g.env; theTreesLotGoes x)) _ s
      rw [Sem.onRaise_eq_wrap]
      unfold forTurn
      refine tseg_bind_wrap (wpAny_standAt ?_)
      refine tseg_bind_wrap (wpAny_onRaise ?_)
      rw [(gl _).over]
      refine wpAny_mono (Tn.item (g.cx (cut g.L d.s) (wakeH g.L d.G d.ip d.s)) rfl rfl rfl rfl j ip s σ H (fun _ _ => False) hg1.J (fun b hb => okf hsz hb (hg1.ex b hb)) ht (by show j < NN.toNat; omega)) (fun r s3 ⟨u, er, h3⟩ => ?_) fun e s' q => q.elim
      subst er
      refine tseg_bind_wrap ?_
      rw [(gl _).over]
      refine wpAny_mono h3 (fun _ s4 h4 => ?_) fun e s' q => q.elim
      obtain ⟨x, H4, I4, rx, ⟨rfl, rfl⟩, st4, fr4⟩ := h4
      have I4' := I4.pinned (fun b hb => okf hsz hb (fr4 b hb)) (Tn.base.obj _ _ st4)
      refine tseg_bind_wrap ?_
      rw [(gl _).over]
      refine wpAny_mono ((hg _ _ hsz).run _ s4 σ H4 _ u (fun σ' H' => σ' = σ.set i (some (.int (0 + j))) ∧ H' = H4) I4' rx ⟨rfl, rfl⟩) (fun _ s5 h5 => ?_) fun e s' q => q.elim
      obtain ⟨σ5, H5, I5, rfl, rfl⟩ := h5
      rw [Sem.bind_eq_wrap', Sem.wrap_wrap]
      have pin_fp : ∀ b ∈ fp, ∃ o, (b, o) ∈ ip ++ pinsAt fp s4.heap := fun b hb => by
        obtain ⟨o, e, _⟩ := Tn.base.obj _ _ st4 b hb
        exact ⟨o, List.mem_append_right _ (mem_pinsAt hb e)⟩
      refine hb j (ip ++ pinsAt fp s4.heap) _ _ _ _ (by omega) (gl _) (fun n' d' s' σ' H' hnk' hg' => ?_) n d s5 _ H5 hnk ⟨hg1.S, hg1.kk, I5, ?_, fun q hq => ?_, fun b hb => by simp at hb, fun q hq => ?_⟩
      · refine tseg_again rfl (ih (j + 1) n' d' s' σ' H' (by omega) hnk' ⟨hg'.S, hg'.kk, hg'.J.unpinned, hg'.st, fun q hq => ?_, fun b hb => ?_, fun q hq => hg'.up q (List.mem_append_left _ hq)⟩ ?_)
        · rcases hg'.sub q hq with z | z
          · obtain ⟨q', hq', e⟩ := List.mem_map.mp z
            rcases List.mem_append.mp hq' with y | y
            · exact .inl (List.mem_map.mpr ⟨q', y, e⟩)
            · exact .inr (by rw [← e]; exact (of_pinsAt y).1)
          · simp at z
        · obtain ⟨o, ho⟩ := pin_fp b hb
          exact (hg'.J.i.pin (b, o) (List.mem_append_right _ ho)).2.1
        · exact Tn.base.keep _ _ _ st4 fun b hb o e => (hg'.J.i.pin (b, o) (List.mem_append_right _ (List.mem_append_right _ (mem_pinsAt hb e)))).1
      · obtain ⟨F, c1, sg, t1⟩ := hg1.st
        refine ⟨F, c1, sg.set ?_, t1⟩
        show V.int (0 + (j : Int)) = V.int j
        rw [Int.zero_add]
      · rcases hg1.sub q hq with z | z
        · obtain ⟨q', hq', e⟩ := List.mem_map.mp z
          exact .inl (List.mem_map.mpr ⟨q', List.mem_append_left _ hq', e⟩)
        · obtain ⟨o, ho⟩ := pin_fp _ z
          exact .inl (List.mem_map.mpr ⟨_, ho, rfl⟩)
      · rcases List.mem_append.mp hq with y | y
        · exact hg1.up q y
        · exact (stat _ (of_pinsAt y).1).2.2.1
  exact loop NN.toNat 0 n d s2 σ H2 (Nat.zero_add _) hnk ⟨hg0.S, hg0.kk, I2, (let ⟨F, a, b, c⟩ := st20; ⟨F, a, b.weak hw, c⟩), fun q hq => (hg0.sub q hq).elim .inl fun z => by simp at z, fun b hb => (f2 b hb).1, hg0.up⟩ st2
theorem gg_rangeO {tg iter : Expr} {ta : TA} {i : Nat} {NN : Int} {xs : List Int} {f : Int → Option (List α)} {GL : Gam} (Z : Pact g.X g.N g.ps g.scope g.A g.L) (hc : GC' g c fs gd)
    (hi : ∀ sc H, PI (g.cx sc H) tg iter (iRng1 ta)) (hg : ∀ sc H, PG (g.cx sc H) tg (gName i))
    (hn : ∀ W, EvA ta W Gm [] [] fun sls cs1 => sls = [rInt.at NN] ∧ cs1 = []) (hx : oRange 0 NN = some xs) (hf : genO f xs = some g.ys) (hw : Wkn Gm GL)
    (hb : ∀ (x : Int) (zs : List α) (k : Nat), f x = some zs → (∀ i z, zs[i]? = some z → g.ys[k + i]? = some z) → ∀ (ipb : Pins) (c' : Code) (fs' : List PySem.Frame) (K' : Flow → Sem PySem.Fin) (J' : Value → Sem PySem.Fin), GC' g c' fs' id →
      Gg g [] (k + zs.length) GL [] [] ipb c' (K' .next) fs' → Gg g [] k (GL.set i (some (rInt.at x))) [] [] ipb c' ((execs body g.env).wrap K' J' id id) fs')
    (after : ∀ ex, Gg g ex g.ys.length GL [] [] ip c (K .next) fs) (hfs : ∀ x, foldedSetIterable iter g.env x = pure x := by intro _; rfl) :
    Gg g [] 0 Gm [] [] ip c ((exec (.For tg iter body [] pos) g.env).wrap K J gd lv) fs := by
  obtain ⟨⟨_, hs, hz⟩, rfl⟩ := oRange_ok hx
  obtain ⟨kk, k0, k1, k2⟩ := genO_parts hf
  have hl : (rangeI 0 NN).length = NN.toNat := by rw [len_rangeI]; congr 1; omega
  refine gg_range (kk := kk) Z hc (fun sc H _ => hi sc H) (fun sc H _ => hg sc H) hn hs k0 hw (fun j ipb c' fs' K' J' hj hc' hk => ?_) (fun ex => by rw [← hl, k1]; exact after ex) hfs
  have hxj : (rangeI 0 NN)[j]? = some (j : Int) := by
    unfold rangeI
    rw [List.getElem?_map, List.getElem?_range (by omega)]
    simp
  obtain ⟨zs, q1, q2, q3⟩ := k2 j _ hxj
  rw [q2] at hk
  exact hb _ zs (kk j) q1 q3 ipb c' fs' K' J' hc' hk
end
structure GenFn (P : Program) (w : World) (K : PySem.W.Frag) (mg : Str → Option Value) (base : Heap) (k : Nat) (f : Addr) (fd : FuncData) (ps : List Str) {α : Type} (r : R α) (sp : List V → Hp → List α → Prop) : Prop where
  len : ∀ vs G ys, sp vs G ys → vs.length = ps.length
  go : ∃ (N : List Str) (qual : Str) (scope : Scope) (cd : Value) (body : List Stmt), PlainScope N ps scope ∧
    (∀ (A : Around) (ou : List Env) (s : Shared) (H : Hp) (ar : PySem.Args) (us : List Value) (vs : List V), RoomG (k + 1) A → Env0 P w K mg base A ou s H → BindsTo s fd ar (ps.zip us) → Vals vs us → vs.length = ps.length →
      codeAny (model P w) A (.call (.ref f) ar) (fun r s' => match r with | .ok (.ret u) => ∃ L a go oL gn, u = .ref a ∧ Made N qual scope f cd body vs s s' L a go oL gn ∧ gn = s.gens.size ∧ KG s s' | _ => False) s) ∧
    ∀ (X : Cx) (L : Addr) (A : Around) (vs : List V) (G0 : Hp) (ys : List α), X.prog = P → X.w = w → X.K = K → X.mg = mg → X.base = base → sp vs G0 ys → RoomG (k + 1) A → Pact X N ps scope A L →
      ∃ Gm, Slots G0 Gm (L2.start N vs) ∧ Gg ⟨X, L, N, ps, scope, qual, f, cd, A, ys, r⟩ [] 0 Gm [] [] [] (.func body (envOfC qual scope L f cd))
        ((execs body (envOfC qual scope L f cd)).wrap (fun f => .pure (.done (.ret (match f with | .ret v => v | _ => .none)))) (fun e => (leaving (envOfC qual scope L f cd) e).wrap (fun _ => .raise e) .raise id id) id id) []
theorem made_new {P : Program} {w : World} {K : PySem.W.Frag} {mg : Str → Option Value} {base : Heap} {k : Nat} {f : Addr} {name qual : Str} {params : Arguments} {body : List Stmt} {scope : Scope} {dV kV doc pm cdv ct oc : Value} {an od : Option Addr}
    {osl : Array (Option Value)} {N ps : List Str} (lk : K.lookup f = some ⟨oc, od, .func (PySem.W.fnOf name qual params body scope dV kV doc pm an cdv ct), osl⟩) (hcd : PySem.W.codeIn K cdv qual = true) (S : PlainScope N ps scope)
    {A : Around} {ou : List Env} {s : Shared} {H : Hp} {ar : PySem.Args} {us : List Value} {vs : List V} (hr : RoomG (k + 1) A) (e0 : Env0 P w K mg base A ou s H) (hbd : BindsTo s (PySem.W.fnOf name qual params body scope dV kV doc pm an cdv ct) ar (ps.zip us)) (r : Vals vs us) (hl : vs.length = ps.length) :
    codeAny (model P w) A (.call (.ref f) ar) (fun r s' => match r with | .ok (.ret u) => ∃ L a go oL gn, u = .ref a ∧ Made N qual scope f cdv body vs s s' L a go oL gn ∧ gn = s.gens.size ∧ KG s s' | _ => False) s := by
  have old : ∀ b o, base.get? b = some o → s.heap.get? b = some o := fun b o e => (e0.bs b o e).1
  have KX : K.In s.heap := e0.mod.kin.keeps old
  have kinds : ∀ y ∈ ps.zip us, scope.names.lookup y.1 = some .local ∨ (scope.names.lookup y.1 = some .cell ∧ ((cellsFrom (s.heap.objs.size + 1) scope.names []).lookup y.1).isSome = true) := fun y hy =>
    (S.g.par y.1 (List.of_mem_zip hy).1).imp id fun q => ⟨q, PySem.W.cellsFrom_some _ _ _ (.inl q)⟩
  refine codeAny_call_generator hr.rm.depth (KX _ _ lk) rfl S.g.co S.g.gen rfl (PySem.W.codeRec_of KX hcd) (hbd _ _ _ _ ?_)
  refine wpAny_newFunctionEnv_cells S.g.kind kinds fun env he s1 x => ?_
  subst he
  refine ⟨(e0.mod.nolimit.keeps old).keeps x.toInCall.keep, ?_⟩
  have I1 := inv_startG (E := fun _ _ _ => False) S.g hr.rm.hd e0 hl r x
  obtain ⟨oL, hoL, loc⟩ := loc_of I1 fun x => S.kinds
  have hoL' : s1.heap.get? s.heap.objs.size = some oL := hoL
  obtain ⟨h1, tk, es1, hk1⟩ := x.done
  have eg : s1.gens = s.gens := by rw [es1]
  refine ⟨s.heap.objs.size, s1.heap.objs.size, _, oL, s1.gens.size, rfl, ⟨Nat.le_refl _, Heap.lt_size hoL', Heap.get?_push_size _ rfl, Heap.get?_push_of_some _ hoL', fun h e => ⟨_, _, _, e, rfl, rfl, rfl⟩, ⟨_, rfl, rfl⟩, Array.getElem?_push_size .., loc, I1.len, ?_, ?_, fun b o e => Heap.get?_push_of_some _ (x.toInCall.keep b o e)⟩, by rw [eg], fun i y hy => ?_⟩
  · show s1.os = s.os
    rw [es1]
  · exact AllBare.push (by rw [eg]; exact e0.bare) rfl
  · show (s1.gens.push _)[i]? = some y
    have hi := (Array.getElem?_eq_some_iff.mp hy).1
    rw [eg, Array.getElem?_push_lt hi]
    exact (Array.getElem?_eq_getElem hi).symm.trans hy
theorem okGen {P : Program} {w : World} {K : PySem.W.Frag} {mg : Str → Option Value} {base : Heap} {x qual : Str} {st : Stmt} {f : Addr} {fd : FuncData} {N ps : List Str} {k : Nat} {α : Type} {r : R α} {sp : List V → Hp → List α → Prop} (F : Fun K x qual st f fd) (S : PlainScope N ps (defScope st)) (len : ∀ vs G ys, sp vs G ys → vs.length = ps.length)
    (hb : ∀ (X : Cx) (L : Addr) (A : Around) (cdv : Value) (vs : List V) (G0 : Hp) (ys : List α), X.prog = P → X.w = w → X.K = K → X.mg = mg → X.base = base → sp vs G0 ys → RoomG k (A.deeper (envOfC qual (defScope st) L f cdv)) → Pact X N ps (defScope st) A L →
      ∃ Gm, Slots G0 Gm (L2.start N vs) ∧ ∀ (K' : Flow → Sem PySem.Fin) (J' : Value → Sem PySem.Fin) (c : Code), GC' (⟨X, L, N, ps, defScope st, qual, f, cdv, A, ys, r⟩ : GK) c [] id → (∀ ex Gm' T cs ip, Gg (⟨X, L, N, ps, defScope st, qual, f, cdv, A, ys, r⟩ : GK) ex ys.length Gm' T cs ip c (K' .next) []) →
        Gg (⟨X, L, N, ps, defScope st, qual, f, cdv, A, ys, r⟩ : GK) [] 0 Gm [] [] [] c ((execs (defBody st) (envOfC qual (defScope st) L f cdv)).wrap K' J' id id) []) : GenFn P w K mg base k f fd ps r sp := by
  obtain ⟨oc, od, kV, doc, pm, an, cdv, ct, osl, rfl, lk, hcd⟩ := F.ex
  refine ⟨len, N, qual, defScope st, cdv, defBody st, S, fun A ou s H ar us vs hr e0 hbd rv hl => made_new lk hcd S hr e0 hbd rv hl, fun X L A vs G0 ys e1 e2 e3 e4 e5 hsp hr Z => ?_⟩
  obtain ⟨Gm, h1, h2⟩ := hb X L A cdv vs G0 ys e1 e2 e3 e4 e5 hsp (hr.deeper _) Z
  exact ⟨Gm, h1, h2 _ _ _ ⟨over_func, rfl, rfl, rfl⟩ fun ex Gm' T cs ip => gg_end Z rfl⟩
end ML.TK

namespace ML.TK
open PySem PySem.Spec PyProof.Rows L2 GenW
section
variable {P : Program} {w : World} {A : Around} {E : Value → Shared → Prop} {s : Shared}
def Stops (h : Heap) (e : Addr) : Prop := ∃ o, h.get? e = some o ∧ o.cls = .type "StopIteration"
theorem next_of {γ : Type} {a : Addr} {gi n : Nat} {gs : GenState} {st : γ → Shared} {F : γ → Result → Shared → Prop} {Y : γ → Value → Shared → (γ → Prop) → Prop} {d : γ} {Q : Value → Shared → Prop} (hh : A.handled = none) (hl : s.heap.NoLimit) (hd : A.depth < recursionLimit) (ha : s.heap.IsGen a gi) (h0 : s.gens[gi]? = some gs)
    (hst : st d = s.setGen gi .running) (go : Goes (model P w) A.in1 st F Y n gs d) (hF : ∀ r z, F d r z → r = .ok (.ret .none) ∨ r = .ok .next)
    (hy : ∀ v z gs', gs'.bare = true → gs'.status = .suspended → Y d v z (fun d' => match n with | 0 => False | m + 1 => Goes (model P w) A.in1 st F Y m gs' d') → Q v (z.setGen gi gs'))
    (hf : ∀ r z, F d r z → ∀ h' e, (∀ b o, z.heap.get? b = some o → h'.get? b = some o) → Stops h' e → E (.ref e) { z.setGen gi .finished with heap := h' }) : wpAny (model P w) A (Builtin.SmallTypes.nextOf (.ref a)) Q E s := by
  unfold Builtin.SmallTypes.nextOf
  refine wpAny_bind (wpAny_callSpecial?_slot (name := Str.ofString "__next__") ha.typeIs slot_gen_next (wpAny_call_entry slot_gen_next ha.typeIs entry_gen_next ?_ (args_gen_next _)))
  show wpAny (model P w) A.in1 (Builtin.Generator.genWake (.ref a) (.send .none)) _ _ s
  unfold Builtin.Generator.genWake
  refine wpAny_bind (wpAny_holding (wpAny_genNumber ha (wpAny_bind (wpAny_genState h0 ?_))))
  cases gs with
  | running => exact go.elim
  | finished => exact go.elim
  | _ =>
    refine wpAny_bind (wpAny_roomToWake hl hd ?_)
    show wpAny (model P w) A.in1 (.resume gi (.send .none) [] _) _ _ s
    refine wakes h0 hst go (fun x z hx => ?_) fun v z st' hb hs hv => wpAny_pure ⟨v, rfl, wpAny_pure (hy v z st' hb hs hv)⟩
    have res : End.result (.ret x) = .returned .none := by rcases hF x z hx with hr | hr <;> (rw [hr]; rfl)
    first | rw [res] | simp only [res]
    show wpAny (model P w) A.in1 (newExc (.type "StopIteration") [] >>= _) _ _ _
    refine wpAny_bind ?_
    simp only [newExc, newTuple]
    refine wpAny_bind (wpAny_newObj_type ?_ (by size_fits))
    refine wpAny_bind (m := firstArgMember _ _) (wpAny_of_eq (a := Value.none) (by first | exact rfl | (simp only [firstArgMember]; exact rfl)) ?_)
    refine wpAny_newObj_type ?_ (by size_fits)
    simp only [raiseNew]
    refine wpAny_bind (wpAny_bind (wpAny_handled ?_))
    first | rw [show A.in1.handled = none from hh] | rw [hh]
    exact wpAny_throw (hf x z hx _ _ (fun b o hb => Heap.get?_push_of_some _ (Heap.get?_push_of_some _ hb)) ⟨_, Heap.get?_push_size _ rfl, rfl⟩)

variable {z TI TO i1 i2 : Addr} {a1 a2 : Value}
def ZEnd (z TI TO : Addr) (Q : Option Value → Shared → Prop) (e : Value) (s2 : Shared) : Prop := ∃ b, e = .ref b ∧ Stops s2.heap b ∧ IsZip s2.heap z TI TO .ellipsis ∧ ∀ h', IsZip h' z TI TO .none → Heap.SameBut z s2.heap h' → Q none { s2 with heap := h' }
theorem zip_turn {Q : Option Value → Shared → Prop} (TOz : TO ≠ z) (hz : IsZip s.heap z TI TO .none) (hTI : IsTupOf2 s.heap TI (.ref i1) (.ref i2)) (hTO : IsTupOf2 s.heap TO a1 a2)
    (h : ∀ g0, IsZip g0 z TI TO .ellipsis → Heap.SameBut z s.heap g0 → wpAny (model P w) A.in1 (Builtin.SmallTypes.nextOf (.ref i1)) (fun x1 s1 => IsZip s1.heap z TI TO .ellipsis ∧ IsTupOf2 s1.heap TO a1 a2 ∧
      ∀ g1, IsTupOf2 g1 TO x1 a2 → Heap.SameBut TO s1.heap g1 → wpAny (model P w) A.in1 (Builtin.SmallTypes.nextOf (.ref i2)) (fun x2 s2 => IsZip s2.heap z TI TO .ellipsis ∧ IsTupOf2 s2.heap TO x1 a2 ∧
        ∀ h', IsZip h' z TI TO (rawInt s2.heap.objs.size) → IsTupOf2 h' TO x1 x2 → IsTupOf2 h' s2.heap.objs.size x1 x2 → (∀ c o, c ≠ z → c ≠ TO → s2.heap.get? c = some o → h'.get? c = some o) → Q (some (.ref s2.heap.objs.size)) { s2 with heap := h' })
        (ZEnd z TI TO Q) { s1 with heap := g1 }) (ZEnd z TI TO Q) { s with heap := g0 }) : wpAny (model P w) A (pyNext (.ref z)) Q E s := by
  have hT : s.TypeIs (.ref z) "zip" := ⟨_, hz, rfl⟩
  have out : ∀ (e : Value) (s2 : Shared), ZEnd z TI TO Q e s2 → wpAny (model P w) A.in1 (setField (.ref z) 0 .none) (fun _ s3 => wpAny (model P w) A (isInstance e (.type "StopIteration")) (fun b s4 => b = true ∧ Q none s4) E s3) (fun _ _ => False) s2 := fun e s2 ⟨b, eb, hs, hz2, q⟩ => by
    subst eb
    refine wpAny_setField_rec hz2 (by simp) fun h' hz' sb => ?_
    obtain ⟨o, ho, hc⟩ := hs
    have hb : b ≠ z := fun x => by subst x; rw [hz2] at ho; cases ho; simp at hc
    exact wpAny_isInstance (T := "StopIteration") (b := true) ⟨o, sb.extBut _ _ hb ho, hc⟩ isSubtype_stop ⟨rfl, q h' hz' sb⟩
  unfold pyNext
  refine wpAny_bind (wpAny_attempt (wpAny_callSpecial?_slot (name := Str.ofString "__next__") hT F.slot_zip_next (wpAny_call_entry F.slot_zip_next hT F.entry_zip_next ?_ (F.args_zip_next_1 _))))
  show wpAny _ A.in1 (field (.ref z) 2 >>= _) _ _ _
  refine wpAny_bind (wpAny_field hz rfl (x := .bool false) rfl ?_)
  show wpAny _ _ (field (.ref z) 3 >>= _) _ _ _
  refine wpAny_bind (wpAny_field hz rfl (x := .ref TI) rfl ?_)
  refine wpAny_bind (wpAny_seqItems hTI rfl ?_)
  show wpAny _ _ (Builtin.SmallTypes.ownedTupleIsFree (.ref z) >>= _) _ _ _
  refine wpAny_bind ?_
  unfold Builtin.SmallTypes.ownedTupleIsFree
  refine wpAny_bind (wpAny_field hz rfl (x := .none) rfl (wpAny_pure ?_))
  simp only [if_true]
  refine wpAny_bind (wpAny_rule ?_)
  refine wpAny_bind (wpAny_field hz rfl (x := .ref TO) rfl ?_)
  refine wpAny_bind (wpAny_setField_rec hz (by simp) fun g0 hz0 hs0 => ?_)
  replace hz0 : IsZip g0 z TI TO .ellipsis := hz0
  refine wpAny_bind ?_
  simp only [List.zipIdx_cons, List.zipIdx_nil, List.forIn_cons, List.forIn_nil]
  refine wpAny_bind (wpAny_bind (wpAny_onRaise ?_))
  show wpAny _ _ (Builtin.SmallTypes.nextOf (.ref i1) >>= _) _ _ _
  refine wpAny_bind (wpAny_mono (h g0 hz0 hs0) (fun x1 s1 ⟨hz1, hT1, k1⟩ => wpAny_pure ?_) fun e s2 q => ?_)
  · refine wpAny_bind (wpAny_seqItems hT1 rfl ?_)
    refine wpAny_bind (updateSeq_IsTupOf2 hT1 fun g1 hTg hs1 => ?_)
    replace hTg : IsTupOf2 g1 TO x1 a2 := hTg
    refine wpAny_bind (wpAny_letGo (wpAny_pure ?_))
    refine wpAny_bind (wpAny_bind (wpAny_onRaise ?_))
    show wpAny _ _ (Builtin.SmallTypes.nextOf (.ref i2) >>= _) _ _ _
    refine wpAny_bind (wpAny_mono (k1 g1 hTg hs1) (fun x2 s2 ⟨hz2, hT2, k2⟩ => wpAny_pure ?_) fun e s2 q => ?_)
    · refine wpAny_bind (wpAny_seqItems hT2 rfl ?_)
      refine wpAny_bind (updateSeq_IsTupOf2 hT2 fun g2 hTh hs2 => ?_)
      replace hTh : IsTupOf2 g2 TO x1 x2 := hTh
      refine wpAny_bind (wpAny_letGo (wpAny_pure (wpAny_pure ?_)))
      refine wpAny_bind (wpAny_seqItems hTh rfl ?_)
      refine wpAny_bind (wpAny_newTuple ?_)
      have hzz : IsZip g2 z TI TO .ellipsis := hs2.extBut _ _ TOz.symm hz2
      have hzlt : z < g2.objs.size := Heap.lt_size hzz
      have hsz : g2.objs.size = s2.heap.objs.size := hs2.1
      show wpAny _ _ (Builtin.SmallTypes.ownedTupleHandOut (.ref z) (.ref g2.objs.size) >>= _) _ _ _
      refine wpAny_bind ?_
      unfold Builtin.SmallTypes.ownedTupleHandOut
      have hz6 : IsZip (g2.push { cls := .type "tuple", data := .seq #[x1, x2] }) z TI TO .ellipsis := Heap.get?_push_of_some _ hzz
      refine wpAny_bind (wpAny_setField_rec hz6 (by simp) fun h7 hz7 hs7 => ?_)
      replace hz7 : IsZip h7 z TI TO (rawInt g2.objs.size) := hz7
      refine wpAny_setField_rec hz7 (by simp) fun h8 hz8 hs8 => ?_
      replace hz8 : IsZip h8 z TI TO (rawInt g2.objs.size) := hz8
      have up : ∀ c o, c ≠ z → g2.get? c = some o → h8.get? c = some o := fun c o c1 e => hs8.extBut _ _ c1 (hs7.extBut _ _ c1 (Heap.get?_push_of_some _ e))
      have hT8 : IsTupOf2 h8 g2.objs.size x1 x2 := hs8.extBut _ _ (Nat.ne_of_gt hzlt) (hs7.extBut _ _ (Nat.ne_of_gt hzlt) (Heap.get?_push_size _ rfl))
      rw [hsz] at hz8 hT8
      refine wpAny_pure ⟨_, rfl, wpAny_pure ?_⟩
      show Q (some (.ref g2.objs.size)) _
      rw [hsz]
      exact k2 h8 hz8 (up _ _ TOz hTh) hT8 fun c o cz cT e => up c o cz (hs2.extBut _ _ cT e)
    · exact wpAny_mono (out e s2 q) (fun _ s3 k => wpAny_bind (wpAny_mono k (fun b s4 ⟨eb, k4⟩ => by subst eb; exact wpAny_pure k4) fun _ _ x => x)) fun _ _ x => x.elim
  · exact wpAny_mono (out e s2 q) (fun _ s3 k => wpAny_bind (wpAny_mono k (fun b s4 ⟨eb, k4⟩ => by subst eb; exact wpAny_pure k4) fun _ _ x => x)) fun _ _ x => x.elim
theorem zip_new_gens (a b n1 n2 : Nat) : Meets (Builtin.«zip.__new__» ⟨[.type "zip", .ref a, .ref b], []⟩) (fun _ R s => s.heap.IsGen a n1 ∧ s.heap.IsGen b n2 ∧
      R (.ok (.ret (.ref ((s.heap.push { cls := .type "tuple", data := .seq #[.ref a, .ref b] }).push { cls := .type "tuple", data := .seq #[.none, .none] }).objs.size)))
        { s with heap := ((s.heap.push { cls := .type "tuple", data := .seq #[.ref a, .ref b] }).push { cls := .type "tuple", data := .seq #[.none, .none] }).push { cls := .type "zip", data := .fields #[.none, .bool false, .bool false, .ref s.heap.objs.size, .ref (s.heap.push { cls := .type "tuple", data := .seq #[.ref a, .ref b] }).objs.size] } }) :=
  .of_wp fun prog w A R s h => by
    obtain ⟨hp, g, d, tk, os⟩ := s; obtain ⟨h1, h2, h⟩ := h
    have hsub := sub_zip
    have g1 : Heap.IsGen (Shared.heap ⟨hp, g, d, tk, os⟩) a n1 := h1
    have g2 : Heap.IsGen (Shared.heap ⟨hp, g, d, tk, os⟩) b n2 := h2
    wp_walk using wpAny_pyIter_gen g1, wpAny_pyIter_gen g2
    exact ⟨_, rfl, h⟩
theorem call_zip_gens {a b : Addr} {n1 n2 : Nat} {Q : Value → Shared → Prop} (h1 : s.heap.IsGen a n1) (h2 : s.heap.IsGen b n2)
    (h : ∀ h', IsZip h' (s.heap.objs.size + 2) s.heap.objs.size (s.heap.objs.size + 1) .none → IsTupOf2 h' s.heap.objs.size (.ref a) (.ref b) → IsTupOf2 h' (s.heap.objs.size + 1) .none .none →
      (∀ c o, s.heap.get? c = some o → h'.get? c = some o) → Q (.ref (s.heap.objs.size + 2)) { s with heap := h' }) : wpAny (model P w) A (call (.type "zip") [.ref a, .ref b]) Q E s := by
  refine callType_new F.called_zip (by decide) (F.typeCall_zip_2 _ _) (F.newCall_zip_2 _ _) (fun obj => F.args_object_init_3 obj _ _) F.entry_zip_new (zip_new_gens a b n1 n2) ⟨h1, h2, ?_⟩
  generalize ho1 : ({ cls := .type "tuple", data := .seq #[.ref a, .ref b] } : Obj) = o1
  have f1 : o1.isFreed = false := by subst ho1; rfl
  have z1 : (s.heap.push o1).objs.size = s.heap.objs.size + 1 := Heap.size_push ..
  generalize ho2 : ({ cls := .type "tuple", data := .seq #[.none, .none] } : Obj) = o2
  have f2 : o2.isFreed = false := by subst ho2; rfl
  have z2 : ((s.heap.push o1).push o2).objs.size = s.heap.objs.size + 2 := by rw [Heap.size_push, z1]
  rw [z1]
  generalize ho3 : ({ cls := .type "zip", data := .fields #[.none, .bool false, .bool false, .ref s.heap.objs.size, .ref (s.heap.objs.size + 1)] } : Obj) = o3
  have f3 : o3.isFreed = false := by subst ho3; rfl
  have g3 : (((s.heap.push o1).push o2).push o3).get? ((s.heap.push o1).push o2).objs.size = some o3 := Heap.get?_push_size _ f3
  have g2 : (((s.heap.push o1).push o2).push o3).get? (s.heap.push o1).objs.size = some o2 := Heap.get?_push_of_some _ (Heap.get?_push_size _ f2)
  have g1 : (((s.heap.push o1).push o2).push o3).get? s.heap.objs.size = some o1 := Heap.get?_push_of_some _ (Heap.get?_push_of_some _ (Heap.get?_push_size _ f1))
  rw [z2] at g3
  rw [z1] at g2
  show _ ∧ _
  rw [z2]
  exact ⟨⟨_, g3, by rw [← ho3]⟩, h _ (by rw [← ho3] at g3 ⊢; exact g3) (by rw [← ho1] at g1 ⊢; exact g1) (by rw [← ho2] at g2 ⊢; exact g2) fun c o x => Heap.get?_push_of_some _ (Heap.get?_push_of_some _ (Heap.get?_push_of_some _ x))⟩
end
end ML.TK

namespace ML.TK
open PySem PySem.Spec PyProof.Rows L2 GenW
theorem Grown.same {G H G' H' : Hp} (g : Grown G H G' H') : Same H H' := fun b x e => by
  obtain ⟨p, h1, h2, _⟩ := g.ex
  rw [h2 b (h1 b (by rw [e]; simp))]; exact e
section
variable {X : Cx} {σ : L2.St} {H H' : Hp} {s s' : Shared}
theorem Inv.repin {P P' : Pins} {b : Addr} {o o' : Obj} {h' : Heap} {t' : Nat} (I : Inv X P σ H s) (hb : (b, o) ∈ P) (old : b ∈ X.ex ∨ X.s_0.heap.objs.size ≤ b) (k : ∀ c u, c ≠ b → s.heap.get? c = some u → h'.get? c = some u) (e' : h'.get? b = some o') (nc : ∀ v, o'.data ≠ .cell v)
    (hP : ∀ p ∈ P', p = (b, o') ∨ (p ∈ P ∧ p.1 ≠ b)) (hn : ∀ p ∈ X.pn, p.1 ≠ b) : Inv X P' σ H { s with heap := h', toks := t' } := by
  obtain ⟨q1, q2, q3, q4, q5⟩ := I.pin (b, o) (List.mem_append_right _ hb)
  have I0 : Inv X (P.filter fun p => decide (p.1 ≠ b)) σ H s := I.pins_of fun p hp => I.pin p (List.mem_append_right _ (List.mem_filter.mp hp).1)
  have J : Inv X (P.filter fun p => decide (p.1 ≠ b)) σ H { s with heap := h', toks := t' } := I0.turned k q2 q3 old (fun x c e z => by
    obtain ⟨v, oc, ho, hd⟩ := I.cell x c e
    rw [z] at ho
    rw [ho] at q1
    cases q1
    exact q5 v hd) fun p hp z => by
    rcases List.mem_append.mp hp with hp | hp
    · exact hn p hp z
    · exact (of_decide_eq_true (List.mem_filter.mp hp).2) z
  refine J.pins_of fun p hp => ?_
  rcases hP p hp with e | ⟨hp, ne⟩
  · subst e
    exact ⟨e', q2, q3, q4, nc⟩
  · exact J.pin p (List.mem_append_right _ (List.mem_filter.mpr ⟨hp, decide_eq_true ne⟩))
end
structure Mine where
  L : Addr
  G : Hp
  oL : Obj
  ip : Pins
abbrev Mine.own (m : Mine) : Pins := (m.L, m.oL) :: m.ip
structure Mine.Ok (X : Cx) (m : Mine) (H : Hp) : Prop where
  whole : Whole m.G
  sub : Same m.G H
  up : ∀ p ∈ m.ip, m.L < p.1
  late : ∀ p ∈ m.ip, p.1 ∈ X.ex ∨ X.s_0.heap.objs.size ≤ p.1
theorem Mine.Ok.to {X : Cx} {m : Mine} {H H' : Hp} (o : m.Ok X H) (e : Same H H') : m.Ok X H' := ⟨o.whole, o.sub.trans e, o.up, o.late⟩
theorem Mine.Ok.lean' {X : Cx} {m : Mine} {H H' : Hp} (o : m.Ok X H) (e : Same m.G H') : m.Ok X H' := ⟨o.whole, e, o.up, o.late⟩
structure Duo (X : Cx) (P : Pins) (a b : Mine) (σ : L2.St) (H : Hp) (s : Shared) : Prop where
  inv : Inv X (P ++ (a.own ++ b.own)) σ H s
  oa : a.Ok X H
  ob : b.Ok X H
  pa : ∀ p ∈ a.own, ∀ q ∈ X.pn ++ P, q.1 ≠ p.1
  pb : ∀ p ∈ b.own, ∀ q ∈ X.pn ++ P, q.1 ≠ p.1
  ab : ∀ p ∈ a.own, ∀ q ∈ b.own, q.1 ≠ p.1
section
variable {X : Cx} {P : Pins} {a b : Mine} {σ : L2.St} {H H' : Hp} {s s' : Shared}
theorem Duo.swap (D : Duo X P a b σ H s) : Duo X P b a σ H s :=
  ⟨D.inv.pins_of fun p hp => D.inv.pin p (List.mem_append_right _ (by
    rcases List.mem_append.mp hp with h | h
    · exact List.mem_append_left _ h
    · exact List.mem_append_right _ ((List.mem_append.mp h).elim (List.mem_append_right _) (List.mem_append_left _)))), D.ob, D.oa, D.pb, D.pa, fun p hp q hq e => D.ab q hq p hp e.symm⟩
theorem Duo.first (D : Duo X P a b σ H s) : Sleep X (P ++ b.own) a.L a.G a.oL a.ip σ H s where
  inv := D.inv.pins_of fun p hp => D.inv.pin p (List.mem_append_right _ (by
    rcases List.mem_append.mp hp with h | h
    · rcases List.mem_append.mp h with h | h
      · exact List.mem_append_left _ h
      · exact List.mem_append_right _ (List.mem_append_right _ h)
    · exact List.mem_append_right _ (List.mem_append_left _ h)))
  whole := D.oa.whole
  sub := D.oa.sub
  up := D.oa.up
  late := D.oa.late
  apart := fun p hp q hq => by
    rw [← List.append_assoc] at hq
    rcases List.mem_append.mp hq with h | h
    · exact D.pa p hp q h
    · exact D.ab p hp q h
theorem Duo.after (D : Duo X P a b σ H s) {G' : Hp} {oL' : Obj} {ip' : Pins} (S : Sleep X (P ++ b.own) a.L G' oL' ip' σ H' s') (e : Same H H') : Duo X P ⟨a.L, G', oL', ip'⟩ b σ H' s' where
  inv := S.inv.pins_of fun p hp => S.inv.pin p (List.mem_append_right _ (by
    rcases List.mem_append.mp hp with h | h
    · exact List.mem_append_left _ (List.mem_append_left _ h)
    · rcases List.mem_append.mp h with h | h
      · exact List.mem_append_right _ h
      · exact List.mem_append_left _ (List.mem_append_right _ h)))
  oa := ⟨S.whole, S.sub, S.up, S.late⟩
  ob := D.ob.to e
  pa := fun p hp q hq => S.apart p hp q (by rw [← List.append_assoc]; exact List.mem_append_left _ hq)
  pb := D.pb
  ab := fun p hp q hq => S.apart p hp q (by rw [← List.append_assoc]; exact List.mem_append_right _ hq)
theorem Duo.gens {g' : Array GenState} (D : Duo X P a b σ H s) (hb : AllBare g') : Duo X P a b σ H { s with gens := g' } := ⟨inv_gens D.inv hb, D.oa, D.ob, D.pa, D.pb, D.ab⟩
theorem Duo.to {P' : Pins} {σ' : L2.St} (D : Duo X P a b σ H s) (I : Inv X (P' ++ (a.own ++ b.own)) σ' H' s') (ea : Same a.G H') (eb : Same b.G H') (hp : ∀ q ∈ X.pn ++ P', ∃ q' ∈ X.pn ++ P, q'.1 = q.1) : Duo X P' a b σ' H' s' :=
  ⟨I, D.oa.lean' ea, D.ob.lean' eb, fun p h q hq => by obtain ⟨q', h1, h2⟩ := hp q hq; rw [← h2]; exact D.pa p h q' h1, fun p h q hq => by obtain ⟨q', h1, h2⟩ := hp q hq; rw [← h2]; exact D.pb p h q' h1, D.ab⟩
theorem Duo.lt (D : Duo X P a b σ H s) {p : Addr × Obj} (h : p ∈ P ++ (a.own ++ b.own)) : s.heap.get? p.1 = some p.2 := (D.inv.pin p (List.mem_append_right _ h)).1
theorem Duo.turn {P' : Pins} {c : Addr} {o o' : Obj} {h' : Heap} (D : Duo X P a b σ H s) (hc : (c, o) ∈ P) (old : c ∈ X.ex ∨ X.s_0.heap.objs.size ≤ c) (hn : ∀ p ∈ X.pn, p.1 ≠ c) (sb : Heap.SameBut c s.heap h') (e' : h'.get? c = some o') (nc : ∀ v, o'.data ≠ .cell v)
    (hP : ∀ p ∈ P', p = (c, o') ∨ (p ∈ P ∧ p.1 ≠ c)) : Duo X P' a b σ H { s with heap := h' } := by
  have I : Inv X (P' ++ (a.own ++ b.own)) σ H { s with heap := h' } := Inv.repin (t' := s.toks) D.inv (List.mem_append_left _ hc) old (fun d u hd e => sb.extBut _ _ hd e) e' nc (fun p hp => by
    rcases List.mem_append.mp hp with h | h
    · rcases hP p h with e | ⟨h1, h2⟩
      · exact .inl e
      · exact .inr ⟨List.mem_append_left _ h1, h2⟩
    · refine .inr ⟨List.mem_append_right _ h, fun e => ?_⟩
      rcases List.mem_append.mp h with h | h
      · exact D.pa p h (c, o) (List.mem_append_right _ hc) e.symm
      · exact D.pb p h (c, o) (List.mem_append_right _ hc) e.symm) hn
  refine D.to I D.oa.sub D.ob.sub fun q hq => ?_
  rcases List.mem_append.mp hq with h | h
  · exact ⟨q, List.mem_append_left _ h, rfl⟩
  · rcases hP q h with e | ⟨h1, _⟩
    · exact ⟨(c, o), List.mem_append_right _ hc, by rw [e]⟩
    · exact ⟨q, List.mem_append_right _ h1, rfl⟩
end
end ML.TK

namespace ML.TK
open PySem PySem.Spec PyProof.Rows L2 GenW
structure SE (X : Cx) (e : Expr) (t : TE) : Prop where
  run : ∀ (P : Pins) (s : Shared) (σ : L2.St) (H : Hp) (Q : VK), Inv X P σ H s → t σ H Q → wpAny (MX X) X.A (eval e X.env) (fun u s' => s' = s ∧ ∃ v, RelV v u ∧ Q v H) (fun _ _ => False) s
structure SA (X : Cx) (es : List Expr) (t : TA) : Prop where
  run : ∀ (pos : Pos) (P : Pins) (s : Shared) (σ : L2.St) (H : Hp) (Q : List V → Hp → Prop), Inv X P σ H s → t σ H Q → wpAny (MX X) X.A (spliced (backTo pos (starEach es X.env))) (fun us s' => s' = s ∧ ∃ vs, Vals vs us ∧ Q vs H) (fun _ _ => False) s
section
variable {X : Cx} {e : Expr} {es : List Expr} {te : TE} {t : TA}
theorem sv (i : Nat) {x : Str} {pos : Pos} (hN : X.N[i]? = some x := by rfl) (hv : Vis X.env.scope x := by first | exact Or.inl rfl | exact Or.inr (Or.inl rfl) | exact Or.inr (Or.inr rfl)) (hd : (x == ("__debug__" : Str)) = false := by decide) (hcd : (x == ("__classdict__" : Str)) = false := by decide) : SE X (.Name x pos) (tVar i) := by
  refine ⟨fun P s σ H Q I ⟨v, e, z⟩ => ?_⟩
  obtain ⟨m, hn, hl⟩ := I.loc
  obtain ⟨u, r, l⟩ := hl i x v hN e hv
  rcases l with ⟨k, hm⟩ | ⟨k | k, c, hc, cell⟩
  · exact wpAny_Name (wpAny_loadName_local I.ok.kind k hn hm ⟨rfl, v, r, z⟩) hd
  · exact wpAny_Name (wpAny_loadName_cell I.ok.kind k hc cell ⟨rfl, v, r, z⟩) hd
  · exact wpAny_Name (wpAny_loadName_free I.ok.kind k hc cell ⟨rfl, v, r, z⟩ hcd) hd
theorem sa_nil : SA X [] tNil := ⟨fun _ _ _ _ _ _ _ z => Calls.spliced_nil ⟨rfl, [], .nil, z⟩⟩
theorem sa_cons (ha : SE X e te) (hr : SA X es t) (hs : starEach (e :: es) X.env = (false, eval e X.env) :: starEach es X.env := by rfl) : SA X (e :: es) (tCons te t) := by
  refine ⟨fun pos P s σ H Q I z => ?_⟩
  rw [hs]
  refine Calls.spliced_cons (thn (ha.run P s σ H _ I z) fun u s1 ⟨e1, x, r1, q1⟩ => ?_)
  subst e1
  exact thn (hr.run pos P s1 σ H _ I q1) fun us s2 ⟨e2, xs, r2, q2⟩ => ⟨e2, x :: xs, .cons r1 r2, q2⟩
end
def tForZ {α β : Type} (np : Nat) (sp : List V → Hp → List α → Prop) (r : R α) (sp' : List V → Hp → List β → Prop) (r' : R β) (ta ta' : TA) (tg : TG) (tb : TS) : TS := fun D σ H => ta σ H fun vs H1 => vs.length = np ∧ ta' σ H1 fun vs' H2 => ∃ (ys : List α) (ys' : List β) (G0 G0' : Hp),
  sp vs G0 ys ∧ sp' vs' G0' ys' ∧ Whole G0 ∧ Whole G0' ∧ Same G0 H2 ∧ Same G0' H2 ∧ ∃ W : Nat → Hp → Hp → L2.St → Hp → Prop, W 0 G0 G0' σ H2 ∧
  (∀ k G J σ H G' H', W k G J σ H → k = ys.length → Grown G H G' H' → D.nx σ H') ∧
  (∀ k G J σ H y G' H' x J' H'', W k G J σ H → ys[k]? = some y → Grown G H G' H' → r.p y G' x → k = ys'.length → Grown J H' J' H'' → D.nx σ H'') ∧
  ∀ k G J σ H y y' G' H' x J' H'' x' T, W k G J σ H → ys[k]? = some y → Grown G H G' H' → r.p y G' x → ys'[k]? = some y' → Grown J H' J' H'' → r'.p y' J' x' → H'' T = none →
    tg (.ref T) σ (upd H'' T (.tup [x, x'])) fun σ2 H3 => tb { D with nx := fun σ3 H4 => Same G' H4 ∧ Same J' H4 ∧ W (k + 1) G' J' σ3 H4, ct := fun σ3 H4 => Same G' H4 ∧ Same J' H4 ∧ W (k + 1) G' J' σ3 H4, bk := D.nx } σ2 H3
theorem Inv.zipped {X : Cx} {P P' : Pins} {σ : L2.St} {H : Hp} {s : Shared} {b c T : Addr} {ob oc ob' oc' : Obj} {o : HO} {h' : Heap} {t' : Nat} (I : Inv X P σ H s) (hb : (b, ob) ∈ P) (hc : (c, oc) ∈ P) (lb : b ∈ X.ex ∨ X.s_0.heap.objs.size ≤ b) (lc : c ∈ X.ex ∨ X.s_0.heap.objs.size ≤ c)
    (k : ∀ d u, d ≠ b → d ≠ c → s.heap.get? d = some u → h'.get? d = some u) (eb : h'.get? b = some ob') (ec : h'.get? c = some oc') (nb : ∀ v, ob'.data ≠ .cell v) (nc : ∀ v, oc'.data ≠ .cell v) (hT : s.heap.objs.size ≤ T) (new : ObjOk X.prog X.w (upd H T o) h' T o)
    (hP : ∀ p ∈ P', p = (b, ob') ∨ p = (c, oc') ∨ (p ∈ P ∧ p.1 ≠ b ∧ p.1 ≠ c)) (hn : ∀ p ∈ X.pn, p.1 ≠ b ∧ p.1 ≠ c) : Inv X P' σ (upd H T o) { s with heap := h', toks := t' } := by
  have I0 : Inv X (P.filter fun p => decide (p.1 ≠ b ∧ p.1 ≠ c)) σ H s := I.pins_of fun p hp => I.pin p (List.mem_append_right _ (List.mem_filter.mp hp).1)
  have qb := I.pin (b, ob) (List.mem_append_right _ hb)
  have qc := I.pin (c, oc) (List.mem_append_right _ hc)
  have nocell : ∀ {d : Addr} {od : Obj}, s.heap.get? d = some od → (∀ v, od.data ≠ .cell v) → ∀ x e, X.env.cells.lookup x = some e → e ≠ d := fun {d od} q n x e he z => by
    obtain ⟨v, oe, ho, hd⟩ := I.cell x e he
    rw [z, q] at ho
    cases ho
    exact n v hd
  have ap : ∀ p ∈ X.pn ++ P.filter (fun p => decide (p.1 ≠ b ∧ p.1 ≠ c)), p.1 ≠ b ∧ p.1 ≠ c := fun p hp => (List.mem_append.mp hp).elim (hn p) fun h => of_decide_eq_true (List.mem_filter.mp h).2
  have J : Inv X (P.filter fun p => decide (p.1 ≠ b ∧ p.1 ≠ c)) σ (upd H T o) { s with heap := h', toks := t' } := I0.turnedNew (ch := [b, c]) (fun d u hd e => k d u (fun z => hd (by simp [z])) (fun z => hd (by simp [z])) e) (fun d hd => by
    have : d = b ∨ d = c := by simpa using hd
    rcases this with z | z
    · rw [z]; exact ⟨qb.2.1, qb.2.2.1, qb.2.2.2.1, lb, nocell qb.1 qb.2.2.2.2, fun p hp => (ap p hp).1⟩
    · rw [z]; exact ⟨qc.2.1, qc.2.2.1, qc.2.2.2.1, lc, nocell qc.1 qc.2.2.2.2, fun p hp => (ap p hp).2⟩) hT new
  have up : ∀ {d : Addr} {u : Obj}, s.heap.get? d = some u → H d = none → (upd H T o) d = none := fun {d u} q n => by rw [upd_ne (Nat.ne_of_lt (Nat.lt_of_lt_of_le (Heap.lt_size q) hT))]; exact n
  refine J.pins_of fun p hp => ?_
  rcases hP p hp with e | e | ⟨h1, h2, h3⟩
  · subst e; exact ⟨eb, up qb.1 qb.2.1, qb.2.2.1, qb.2.2.2.1, nb⟩
  · subst e; exact ⟨ec, up qc.1 qc.2.1, qc.2.2.1, qc.2.2.2.1, nc⟩
  · exact J.pin p (List.mem_append_right _ (List.mem_filter.mpr ⟨h1, decide_eq_true ⟨h2, h3⟩⟩))
theorem setGen_ne {s : Shared} {i j : Nat} {x : GenState} (h : i ≠ j) : (s.setGen i x).gens[j]? = s.gens[j]? := Array.getElem?_setIfInBounds_ne h
def Ready {α : Type} (g : GK (α := α)) (A : Around) (n k : Nat) (m : Mine) (gs : GenState) : Prop := ∀ d : Dg, d.k = k → d.G = m.G → d.oL = m.oL → d.ip = m.ip → Slp g d → Goes g.M A Dg.s g.F g.Y n gs d
theorem ready_new {α : Type} {X : Cx} {L : Addr} {N ps : List Str} {scope : Scope} {qual : Str} {f : Addr} {cd : Value} {A : Around} {ys : List α} {r : R α} {body : List Stmt} {Gm : Gam} {G0 : Hp} {vs : List V} {oL : Obj} (Z : Pact X N ps scope A L) (slG : Slots G0 Gm (L2.start N vs)) (loc : LocAt N scope (L2.start N vs) oL) (len : (L2.start N vs).length = N.length)
    (hgg : Gg ⟨X, L, N, ps, scope, qual, f, cd, A, ys, r⟩ [] 0 Gm [] [] [] (.func body (envOfC qual scope L f cd))
        ((execs body (envOfC qual scope L f cd)).wrap (fun f => .pure (.done (.ret (match f with | .ret v => v | _ => .none)))) (fun e => (leaving (envOfC qual scope L f cd) e).wrap (fun _ => .raise e) .raise id id) id id) []) :
    Ready (⟨X, L, N, ps, scope, qual, f, cd, A, ys, r⟩ : GK) A (ys.length + 1) 0 ⟨L, G0, oL, []⟩ (.fresh (.func body (envOfC qual scope L f cd))) := by
  rintro ⟨pins, k, G, o, ip, σ, H, s⟩ e1 e2 e3 e4 S
  replace e1 : k = 0 := e1
  replace e2 : G0 = G := Eq.symm e2
  replace e3 : oL = o := Eq.symm e3
  replace e4 : ip = [] := e4
  subst e1 e2 e3 e4
  refine tseg_func (hgg (ys.length + 1) _ s (L2.start N vs) _ rfl ⟨S, rfl, ⟨S.wake Z loc len, KG.self⟩, ?_, fun q hq => by simp at hq, fun b hb => by simp at hb, fun q hq => by simp at hq⟩)
  exact ⟨_, ⟨Same.refl _, both_l, both_r, fun b x e => (froz_of e).1, by simp, fun x hx => by simp at hx⟩, slG, Temps.nil⟩
end ML.TK

namespace ML.TK
open PySem PySem.Spec PyProof.Rows L2 GenW
theorem turn_of {α : Type} {X : Cx} {P : Pins} {m m' : Mine} {σ : L2.St} {H : Hp} {s : Shared} {A : Around} {E : Value → Shared → Prop} {Q : Value → Shared → Prop} {L : Addr} {N ps : List Str} {scope : Scope} {qual : Str} {f : Addr} {cd : Value} {ys : List α} {r : R α} {a : Addr} {gn gn' n kk : Nat} {gs gs' : GenState}
    (hh : A.handled = none) (hd : A.depth < recursionLimit) (D : Duo X P m m' σ H s) (mL : m.L = L) (rd : Ready (⟨X, L, N, ps, scope, qual, f, cd, A.in1, ys, r⟩ : GK) A.in1 n kk m gs) (isg : s.heap.IsGen a gn) (h0 : s.gens[gn]? = some gs) (h0' : s.gens[gn']? = some gs') (ne : gn ≠ gn')
    (hy : ∀ y x u m2 H2 z gs2, m2.L = L → ys[kk]? = some y → Grown m.G H m2.G H2 → r.p y m2.G x → RelV x u → Duo X P m2 m' σ H2 z → z.gens[gn]? = some gs2 → z.gens[gn']? = some gs' → gs2.status = .suspended →
      (∃ j, n = j + 1 ∧ Ready (⟨X, L, N, ps, scope, qual, f, cd, A.in1, ys, r⟩ : GK) A.in1 j (kk + 1) m2 gs2) → Q u z)
    (hf : ∀ z e G2 H2, kk = ys.length → Grown m.G H G2 H2 → Inv X (P ++ m'.own) σ H2 z → Stops z.heap e → E (.ref e) z) : wpAny (model X.prog X.w) A (Builtin.SmallTypes.nextOf (.ref a)) Q E s := by
  subst mL
  have S : Slp (⟨X, m.L, N, ps, scope, qual, f, cd, A.in1, ys, r⟩ : GK) ⟨P ++ m'.own, kk, m.G, m.oL, m.ip, σ, H, s.setGen gn .running⟩ := D.first.gens (allBare_setGen D.inv.bare rfl)
  have lt := (Array.getElem?_eq_some_iff.mp h0).1
  refine next_of (st := Dg.s) (d := ⟨P ++ m'.own, kk, m.G, m.oL, m.ip, σ, H, s.setGen gn .running⟩) hh D.inv.nolimit hd isg h0 rfl (rd _ rfl rfl rfl rfl S) (fun r z q => q.1) (fun v z gs2 hb hs hY => ?_) fun r z q h' e kp st => ?_
  · obtain ⟨y, vv, G', oL', ip', H', hy', rv, ry, S', gr, kg, kap⟩ := hY
    have z0 := kg gn _ (setGen_at lt)
    have zlt := (Array.getElem?_eq_some_iff.mp z0).1
    have z1 := kg gn' _ ((setGen_ne ne).trans h0')
    refine hy y vv v ⟨m.L, G', oL', ip'⟩ H' _ gs2 rfl hy' gr ry rv ((D.after S' (Grown.same gr)).gens (allBare_setGen S'.inv.bare hb)) (setGen_at zlt) ((setGen_ne ne).trans z1) hs ?_
    cases n with
    | zero => exact (kap ⟨_, kk + 1, G', oL', ip', σ, H', z⟩ rfl rfl rfl rfl S').elim
    | succ j => exact ⟨j, rfl, fun d' e1 e2 e3 e4 S'' => kap d' e1 e2 e3 e4 S''⟩
  · obtain ⟨_, hk, G2, H2, I2, gr, _⟩ := q
    exact hf _ e G2 H2 hk gr ((inv_gens I2 (allBare_setGen (x := .finished) I2.bare rfl)).kept (t' := z.toks) kp) st
def tupO (x y : Value) : Obj := { cls := .type "tuple", data := .seq #[x, y] }
def zipO (TI TO : Addr) (v : Value) : Obj := { cls := .type "zip", dict := none, data := .fields #[v, .bool false, .bool false, .ref TI, .ref TO], slots := #[] }
section
variable {X : Cx} {α β : Type} {r : R α} {r' : R β} {sp : List V → Hp → List α → Prop} {sp' : List V → Hp → List β → Prop} {k k' : Nat} {f f' : Addr} {fd fd' : FuncData} {ps ps' : List Str} {x x' : Str} {pz p1 p2 pos1 pos2 pos' pos tpos : Pos} {e e' : Expr} {es es' elts : List Expr} {n0 : Nat} {ta ta' : TA} {tgt : TG} {body : List Stmt} {tb : TS}
theorem ps_forZ (F : GenFn X.prog X.w X.K X.mg X.base k f fd ps r sp) (F' : GenFn X.prog X.w X.K X.mg X.base k' f' fd' ps' r' sp') (hr : RoomG (k + 4) X.A) (hr' : RoomG (k' + 4) X.A) (hx : ∀ e s, X.xe e s → False) (hc : X.calm = true) (gz : Gl X "zip") (mz : X.mg "zip" = none)
    (hg : Gl X x) (hm : X.mg x = some (.ref f)) (hk : PySem.W.keepIn X.K (.ref f) = true) (hb : Binds X.K fd ps []) (hg' : Gl X x') (hm' : X.mg x' = some (.ref f')) (hk' : PySem.W.keepIn X.K (.ref f') = true) (hb' : Binds X.K fd' ps' [])
    (ha : L2.PA X (e :: es) ta) (ha' : SA X (e' :: es') ta') (ht : L2.PG X (.Tuple elts n0 tpos) tgt) (hbody : L2.PSs X body tb) (hd1 : (x == ("__debug__" : Str)) = false := by decide) (hd2 : (x' == ("__debug__" : Str)) = false := by decide)
    (h2 : starEach (e :: es) X.env = (false, eval e X.env) :: starEach es X.env := by rfl) (h3 : (backTo pos1 (starEach es X.env)).any (·.1) = false := by rfl) (h2' : starEach (e' :: es') X.env = (false, eval e' X.env) :: starEach es' X.env := by rfl) (h3' : (backTo pos2 (starEach es' X.env)).any (·.1) = false := by rfl)
    (h4 : starEach [.Call (.Name x p1) (e :: es) [] pos1, .Call (.Name x' p2) (e' :: es') [] pos2] X.env = (false, eval (.Call (.Name x p1) (e :: es) [] pos1) X.env) :: starEach [.Call (.Name x' p2) (e' :: es') [] pos2] X.env := by rfl)
    (h5 : starEach [.Call (.Name x' p2) (e' :: es') [] pos2] X.env = [(false, eval (.Call (.Name x' p2) (e' :: es') [] pos2) X.env)] := by rfl)
    (hs : ∀ v, foldedSetIterable (.Call (.Name "zip" pz) [.Call (.Name x p1) (e :: es) [] pos1, .Call (.Name x' p2) (e' :: es') [] pos2] [] pos') X.env v = pure v := by intro _; rfl) :
    L2.PS X (.For (.Tuple elts n0 tpos) (.Call (.Name "zip" pz) [.Call (.Name x p1) (e :: es) [] pos1, .Call (.Name x' p2) (e' :: es') [] pos2] [] pos') body [] pos) (tForZ ps.length sp r sp' r' ta ta' tgt tb) := by
  refine ⟨fun pins s σ H D I h => ?_⟩
  obtain ⟨N, qual, scope, cd, bG, Sc, mk, gbody⟩ := F.go
  obtain ⟨N', qual', scope', cd', bG', Sc', mk', gbody'⟩ := F'.go
  refine wpAny_For ?_ hs
  refine Call_ (ld_blt I gz mz PyProof.Rows.boot_zip (callWith_type1 ?_ h4 (by rw [h5]; rfl)))
  rw [h4]
  refine Calls.spliced_cons ?_
  refine wpAny_Call_Name_kw (ld_glob I hg hm (PySem.W.callWith_K (h₀ := X.base) I.ok.mod.kin hk (thn (ha.run pos1 pins s σ H _ I h) fun us s1 q1 => ?_) h2 h3) hd1)
  obtain ⟨vs, H1, I1, rv, hl, hta⟩ := q1
  have hbt : BindsTo s1 fd ⟨us, []⟩ (ps.zip us) := by
    have := hb s1 us I1.kIn (by rw [List.append_nil, ← rv.length]; exact hl)
    rwa [List.append_nil] at this
  refine ⟨I1.kIn, wpAny_call (codeAny_mono (mk X.A X.stack s1 H1 ⟨us, []⟩ us vs (hr.mono (by omega)) I1.env0 hbt rv hl) fun res s2 hq => ?_)⟩
  match res, hq with
  | .error e, hq => exact hq.elim
  | .ok .next, hq => exact False.elim hq
  | .ok .brk, hq => exact False.elim hq
  | .ok .cont, hq => exact False.elim hq
  | .ok (.ret u), hq =>
    obtain ⟨L, a, go, oL, gn, rfl, Mk, egn, _⟩ := hq
    have I2 : Inv X pins σ H1 s2 := I1.call' (ch := []) Mk.os (Un.kept Mk.keep) (I1.hok.kept Mk.keep) Mk.bare fun b z => by simp at z
    rw [h5]
    refine Calls.spliced_cons ?_
    refine wpAny_Call_Name_kw (ld_glob I2 hg' hm' (PySem.W.callWith_K (h₀ := X.base) I2.ok.mod.kin hk' (wpAny_mono (ha'.run pos2 pins s2 σ H1 _ I2 hta) (fun us' s2' q2 => ?_) fun _ _ q => q.elim) h2' h3') hd2)
    obtain ⟨e2, vs', rv', ys, ys', G0, G0', hsp, hsp', wG, wG', sG, sG', W, w0, fin1, fin2, step⟩ := q2
    subst e2
    have hl' := F'.len vs' G0' ys' hsp'
    have hbt' : BindsTo s2' fd' ⟨us', []⟩ (ps'.zip us') := by
      have := hb' s2' us' I2.kIn (by rw [List.append_nil, ← rv'.length]; exact hl')
      rwa [List.append_nil] at this
    refine ⟨I2.kIn, wpAny_call (codeAny_mono (mk' X.A X.stack s2' H1 ⟨us', []⟩ us' vs' (hr'.mono (by omega)) I2.env0 hbt' rv' hl') fun res s3 hq => ?_)⟩
    match res, hq with
    | .error e, hq => exact hq.elim
    | .ok .next, hq => exact False.elim hq
    | .ok .brk, hq => exact False.elim hq
    | .ok .cont, hq => exact False.elim hq
    | .ok (.ret u), hq =>
      obtain ⟨L', a', go', oL', gn', rfl, Mk', egn', kg2⟩ := hq
      have I3 : Inv X pins σ H1 s3 := I2.call' (ch := []) Mk'.os (Un.kept Mk'.keep) (I2.hok.kept Mk'.keep) Mk'.bare fun b z => by simp at z
      refine Calls.spliced_nil ?_
      refine call_zip_gens (Mk.isg _ (Mk'.keep _ _ Mk.at')) (Mk'.isg _ Mk'.at') fun h4 hz hTI hTO kp => ?_
      refine wpAny_pyIter_zip hz ?_
      -- where everything stands
      have lt2 : @LT.lt Nat _ a s2'.heap.objs.size := Heap.lt_size Mk.at'
      have lt3 : @LT.lt Nat _ a' s3.heap.objs.size := Heap.lt_size Mk'.at'
      have o1 := Mk.low
      have o2 : @LT.lt Nat _ L a := Mk.lt
      have o3 := Mk'.low
      have o4 : @LT.lt Nat _ L' a' := Mk'.lt
      generalize hTIe : s3.heap.objs.size = TI at hz hTI hTO ⊢
      generalize hTOe : TI + 1 = TO at hz hTO ⊢
      generalize hze : TI + 2 = z at hz ⊢
      rw [hTIe] at lt3
      have TOz : TO ≠ z := by omega
      have TIz : TI ≠ z := by omega
      have TITO : TI ≠ TO := by omega
      have I4 : Inv X pins σ H1 { s3 with heap := h4 } := I3.kept (t' := s3.toks) kp
      have young : ∀ b, s1.heap.objs.size ≤ b → H1 b = none ∧ b ≠ X.env.locals ∧ b ∉ X.fs ∧ (∀ q ∈ X.pn ++ pins, q.1 ≠ b) ∧ (b ∈ X.ex ∨ X.s_0.heap.objs.size ≤ b) := fun b hb => ⟨I1.hok.fresh hb, Nat.ne_of_gt (Nat.lt_of_lt_of_le I1.lt hb), I1.nofs hb, fun q hq z => by
        have := Heap.lt_size (I1.pin q hq).1
        rw [z] at this
        exact absurd (Nat.lt_of_lt_of_le this hb) (Nat.lt_irrefl _), .inr (Nat.le_trans I1.sz hb)⟩
      have hg1 : gn < s2'.gens.size := (Array.getElem?_eq_some_iff.mp Mk.gen).1
      have gne : gn ≠ gn' := by rw [egn']; exact Nat.ne_of_lt hg1
      obtain ⟨gfs, gcls, gdat⟩ := Mk.flds
      obtain ⟨gfs', gcls', gdat'⟩ := Mk'.flds
      have hin : RoomG (k + 1) X.A.in1.in1 := (hr.mono (show k + 3 ≤ k + 4 by omega)).in1.in1
      have hin' : RoomG (k' + 1) X.A.in1.in1 := (hr'.mono (show k' + 3 ≤ k' + 4 by omega)).in1.in1
      have Zp : Pact X N ps scope X.A.in1.in1 L := ⟨Sc, I1.ok.hd hc, I1.ok.frames, (young L o1).2.2.2.2, Nat.le_trans I1.ok.bsz (Nat.le_trans I1.sz o1), fun b hb _ => (young b (Nat.le_trans o1 (Nat.le_of_lt hb))).2.2.2.2, fun b hb => by
        obtain ⟨_, o, ho, _⟩ := I1.stack.mem hb
        exact Nat.lt_of_lt_of_le (Heap.lt_size ho) o1⟩
      have Zp' : Pact X N' ps' scope' X.A.in1.in1 L' := ⟨Sc', I1.ok.hd hc, I1.ok.frames, (young L' (by omega)).2.2.2.2, Nat.le_trans I1.ok.bsz (Nat.le_trans I1.sz (by omega)), fun b hb _ => (young b (Nat.le_trans (show s1.heap.objs.size ≤ L' by omega) (Nat.le_of_lt hb))).2.2.2.2, fun b hb => by
        obtain ⟨_, o, ho, _⟩ := I1.stack.mem hb
        exact Nat.lt_of_lt_of_le (Heap.lt_size ho) (by omega)⟩
      obtain ⟨Gm, slG, hgg⟩ := gbody X L X.A.in1.in1 vs G0 ys rfl rfl rfl rfl rfl hsp hin Zp
      obtain ⟨Gm', slG', hgg'⟩ := gbody' X L' X.A.in1.in1 vs' G0' ys' rfl rfl rfl rfl rfl hsp' hin' Zp'
      obtain ⟨es1, ep1, m1, hd1, _⟩ := Mk.loc
      obtain ⟨es2, ep2, m2, hd2, _⟩ := Mk'.loc
      have zP : ∀ p ∈ X.pn, p.1 ≠ z ∧ p.1 ≠ TO := fun p hp => ⟨(young z (by omega)).2.2.2.1 p (List.mem_append_left _ hp), (young TO (by omega)).2.2.2.1 p (List.mem_append_left _ hp)⟩
      have oldz := (young z (by omega)).2.2.2.2
      have oldT := (young TO (by omega)).2.2.2.2
      -- the pins
      generalize hPP : (fun (oz oT : Obj) => pins ++ [(a, go), (a', go'), (TI, tupO (.ref a) (.ref a')), (z, oz), (TO, oT)]) = PP
      have PPm : ∀ oz oT, PP oz oT = pins ++ [(a, go), (a', go'), (TI, tupO (.ref a) (.ref a')), (z, oz), (TO, oT)] := fun oz oT => by rw [← hPP]
      have mz : ∀ oz oT, (z, oz) ∈ PP oz oT := fun oz oT => by rw [PPm]; simp
      have mT : ∀ oz oT, (TO, oT) ∈ PP oz oT := fun oz oT => by rw [PPm]; simp
      have mI : ∀ oz oT, (TI, tupO (.ref a) (.ref a')) ∈ PP oz oT := fun oz oT => by rw [PPm]; simp
      have ma : ∀ oz oT, (a, go) ∈ PP oz oT := fun oz oT => by rw [PPm]; simp
      have ma' : ∀ oz oT, (a', go') ∈ PP oz oT := fun oz oT => by rw [PPm]; simp
      have pne : ∀ p ∈ pins, p.1 ≠ z ∧ p.1 ≠ TO := fun p hp => ⟨(young z (by omega)).2.2.2.1 p (List.mem_append_right _ hp), (young TO (by omega)).2.2.2.1 p (List.mem_append_right _ hp)⟩
      have Pz : ∀ oz oz' oT, ∀ p ∈ PP oz' oT, p = (z, oz') ∨ (p ∈ PP oz oT ∧ p.1 ≠ z) := fun oz oz' oT p hp => by
        rw [PPm] at hp ⊢
        rcases List.mem_append.mp hp with h | h
        · exact .inr ⟨List.mem_append_left _ h, (pne p h).1⟩
        · have h' : p = (a, go) ∨ p = (a', go') ∨ p = (TI, tupO (.ref a) (.ref a')) ∨ p = (z, oz') ∨ p = (TO, oT) := by simpa using h
          rcases h' with q | q | q | q | q
          · subst q; exact .inr ⟨by simp, show @Ne Nat a z by omega⟩
          · subst q; exact .inr ⟨by simp, show @Ne Nat a' z by omega⟩
          · subst q; exact .inr ⟨by simp, TIz⟩
          · exact .inl q
          · subst q; exact .inr ⟨by simp, TOz⟩
      have PT : ∀ oz oT oT', ∀ p ∈ PP oz oT', p = (TO, oT') ∨ (p ∈ PP oz oT ∧ p.1 ≠ TO) := fun oz oT oT' p hp => by
        rw [PPm] at hp ⊢
        rcases List.mem_append.mp hp with h | h
        · exact .inr ⟨List.mem_append_left _ h, (pne p h).2⟩
        · have h' : p = (a, go) ∨ p = (a', go') ∨ p = (TI, tupO (.ref a) (.ref a')) ∨ p = (z, oz) ∨ p = (TO, oT') := by simpa using h
          rcases h' with q | q | q | q | q
          · subst q; exact .inr ⟨by simp, show @Ne Nat a TO by omega⟩
          · subst q; exact .inr ⟨by simp, show @Ne Nat a' TO by omega⟩
          · subst q; exact .inr ⟨by simp, TITO⟩
          · subst q; exact .inr ⟨by simp, TOz.symm⟩
          · exact .inl q
      have start : Duo X (PP (zipO TI TO .none) (tupO .none .none)) ⟨L, G0, oL, []⟩ ⟨L', G0', oL', []⟩ σ H1 { s3 with heap := h4 } := by
        have nce : ∀ {o : Obj} {b : Addr}, s1.heap.objs.size ≤ b → h4.get? b = some o → (∀ v, o.data ≠ .cell v) → h4.get? b = some o ∧ H1 b = none ∧ b ≠ X.env.locals ∧ b ∉ X.fs ∧ ∀ v, o.data ≠ .cell v := fun {o b} hb q n => ⟨q, (young b hb).1, (young b hb).2.1, (young b hb).2.2.1, n⟩
        refine ⟨I4.pins_of fun p hp => ?_, ⟨wG, sG, fun p hp => by simp at hp, fun p hp => by simp at hp⟩, ⟨wG', sG', fun p hp => by simp at hp, fun p hp => by simp at hp⟩, fun p hp q hq => ?_, fun p hp q hq => ?_, fun p hp q hq => ?_⟩
        · rw [PPm] at hp
          have hp' : p ∈ pins ∨ p = (a, go) ∨ p = (a', go') ∨ p = (TI, tupO (.ref a) (.ref a')) ∨ p = (z, zipO TI TO .none) ∨ p = (TO, tupO .none .none) ∨ p = (L, oL) ∨ p = (L', oL') := by
            rcases List.mem_append.mp hp with h | h
            · rcases List.mem_append.mp h with h | h
              · exact .inl h
              · right
                have h' : p = (a, go) ∨ p = (a', go') ∨ p = (TI, tupO (.ref a) (.ref a')) ∨ p = (z, zipO TI TO .none) ∨ p = (TO, tupO .none .none) := by simpa using h
                rcases h' with q | q | q | q | q <;> simp [q]
            · have h' : p = (L, oL) ∨ p = (L', oL') := by simpa using h
              rcases h' with q | q <;> simp [q]
          rcases hp' with q | q | q | q | q | q | q | q
          · exact I4.pin p (List.mem_append_right _ q)
          · subst q; exact nce (by show s1.heap.objs.size ≤ a; omega) (kp _ _ (Mk'.keep _ _ Mk.at')) fun v z => by rw [gdat] at z; cases z
          · subst q; exact nce (by show s1.heap.objs.size ≤ a'; omega) (kp _ _ Mk'.at') fun v z => by rw [gdat'] at z; cases z
          · subst q; exact nce (by show s1.heap.objs.size ≤ TI; omega) hTI fun v z => nomatch z
          · subst q; exact nce (by show s1.heap.objs.size ≤ z; omega) hz fun v z => nomatch z
          · subst q; exact nce (by show s1.heap.objs.size ≤ TO; omega) hTO fun v z => nomatch z
          · subst q; exact nce (by show s1.heap.objs.size ≤ L; omega) (kp _ _ (Mk'.keep _ _ Mk.fr)) fun v z => by rw [hd1] at z; cases z
          · subst q; exact nce (by show s1.heap.objs.size ≤ L'; omega) (kp _ _ Mk'.fr) fun v z => by rw [hd2] at z; cases z
        · have hp : p = (L, oL) := by simpa using hp
          subst hp
          rw [PPm, ← List.append_assoc] at hq
          rcases List.mem_append.mp hq with h | h
          · exact (young L o1).2.2.2.1 q h
          · have h' : q = (a, go) ∨ q = (a', go') ∨ q = (TI, tupO (.ref a) (.ref a')) ∨ q = (z, zipO TI TO .none) ∨ q = (TO, tupO .none .none) := by simpa using h
            rcases h' with q | q | q | q | q <;> subst q <;> exact (show @Ne Nat _ _ by dsimp only; omega)
        · have hp : p = (L', oL') := by simpa using hp
          subst hp
          rw [PPm, ← List.append_assoc] at hq
          rcases List.mem_append.mp hq with h | h
          · exact (young L' (by omega)).2.2.2.1 q h
          · have h' : q = (a, go) ∨ q = (a', go') ∨ q = (TI, tupO (.ref a) (.ref a')) ∨ q = (z, zipO TI TO .none) ∨ q = (TO, tupO .none .none) := by simpa using h
            rcases h' with q | q | q | q | q <;> subst q <;> exact (show @Ne Nat _ _ by dsimp only; omega)
        · have hp : p = (L, oL) := by simpa using hp
          have hq : q = (L', oL') := by simpa using hq
          subst hp hq
          exact (show @Ne Nat L' L by omega)
      refine codeAny_forLoop_any (fun n s' => ∃ (n' kk : Nat) (m m' : Mine) (gs gs' : GenState) (σ' : L2.St) (H' : Hp) (v w : Value), n + kk = ys.length + 1 ∧ n' + kk = ys'.length + 1 ∧ m.L = L ∧ m'.L = L' ∧ Duo X (PP (zipO TI TO .none) (tupO v w)) m m' σ' H' s' ∧ W kk m.G m'.G σ' H' ∧ s'.gens[gn]? = some gs ∧ s'.gens[gn']? = some gs' ∧
          Ready (⟨X, L, N, ps, scope, qual, f, cd, X.A.in1.in1, ys, r⟩ : GK) X.A.in1.in1 n kk m gs ∧ Ready (⟨X, L', N', ps', scope', qual', f', cd', X.A.in1.in1, ys', r'⟩ : GK) X.A.in1.in1 n' kk m' gs') ?_ (ys.length + 1)
        ⟨ys'.length + 1, 0, _, _, _, _, σ, H1, .none, .none, rfl, rfl, rfl, rfl, start, w0, kg2 _ _ Mk.gen, Mk'.gen, ready_new Zp slG Mk.loc Mk.len hgg, ready_new Zp' slG' Mk'.loc Mk'.len hgg'⟩
      rintro n s5 ⟨n', kk, m, m', gs, gs', σ5, H5, v5, w5, hn, hn', mL, mL', D5, W5, g5, g5', R5, R5'⟩
      have at5 := fun {p : Addr × Obj} (h : p ∈ PP (zipO TI TO .none) (tupO v5 w5)) => D5.lt (List.mem_append_left _ h)
      refine zip_turn TOz (at5 (mz _ _)) (at5 (mI _ _)) (at5 (mT _ _)) fun g0 hz0 hs0 => ?_
      have D6 : Duo X (PP (zipO TI TO .ellipsis) (tupO v5 w5)) m m' σ5 H5 { s5 with heap := g0 } := D5.turn (mz _ _) oldz (fun p hp => (zP p hp).1) hs0 hz0 (fun v q => nomatch q) (Pz _ _ _)
      have at6 := fun {p : Addr × Obj} (h : p ∈ PP (zipO TI TO .ellipsis) (tupO v5 w5)) => D6.lt (List.mem_append_left _ h)
      have hd2 : X.A.in1.depth < recursionLimit := hr.mono (show k + 3 ≤ k + 4 by omega) |>.in1.rm.depth
      -- the end
      have over : ∀ {oT : Obj} {σ : L2.St} {H : Hp} {z' : Shared} {Pl : Pins} {b : Addr} {h' : Heap}, Inv X (PP (zipO TI TO .ellipsis) oT ++ Pl) σ H z' → IsZip h' z TI TO .none → Heap.SameBut z z'.heap h' → Inv X pins σ H { z' with heap := h' } := fun {oT σ H z' Pl b h'} I7 hz' sb =>
        Inv.repin (t' := z'.toks) I7 (List.mem_append_left _ (mz _ _)) oldz (fun c u hd e => sb.extBut _ _ hd e) hz' (fun v q => nomatch q) (fun p hp => .inr ⟨List.mem_append_left _ (by rw [PPm]; exact List.mem_append_left _ hp), (pne p hp).1⟩) fun p hp => (zP p hp).1
      refine turn_of (I1.ok.hd hc) hd2 D6 mL R5 (Mk.isg _ (at6 (ma _ _))) g5 g5' gne (fun y x1 u m2 H7 s7 gs2 mL2 hy1 gr1 ry1 rx1 D7 g7 g7' sus7 rd7 => ?_) fun s7 e7 G7 H7 hk7 gr7 I7 st7 => ?_
      · have at7 := fun {p : Addr × Obj} (h : p ∈ PP (zipO TI TO .ellipsis) (tupO v5 w5)) => D7.lt (List.mem_append_left _ h)
        refine ⟨at7 (mz _ _), at7 (mT _ _), fun g1 hT1 hs1 => ?_⟩
        have D8 : Duo X (PP (zipO TI TO .ellipsis) (tupO u w5)) m2 m' σ5 H7 { s7 with heap := g1 } := D7.turn (mT _ _) oldT (fun p hp => (zP p hp).2) hs1 hT1 (fun v q => nomatch q) (PT _ _ _)
        have at8 := fun {p : Addr × Obj} (h : p ∈ PP (zipO TI TO .ellipsis) (tupO u w5)) => D8.lt (List.mem_append_left _ h)
        refine turn_of (I1.ok.hd hc) hd2 D8.swap mL' R5' (Mk'.isg _ (at8 (ma' _ _))) g7' g7 gne.symm (fun y' x2 u' m3 H9 s9 gs3 mL3 hy2 gr2 ry2 rx2 D9' g9' g9 sus9 rd9 => ?_) fun s9 e9 G9 H9 hk9 gr9 I9 st9 => ?_
        · have D9 := D9'.swap
          have at9 := fun {p : Addr × Obj} (h : p ∈ PP (zipO TI TO .ellipsis) (tupO u w5)) => D9.lt (List.mem_append_left _ h)
          refine ⟨at9 (mz _ _), at9 (mT _ _), fun h10 hz10 hT10 hT10' kp10 => ?_⟩
          refine wpAny_letOwnedTupleGo_zip (s := { s9 with heap := h10 }) hz10 fun h11 hz11 hs11 => ?_
          have fr9 : H9 s9.heap.objs.size = none := D9.inv.hok.fresh (Nat.le_refl _)
          have zlt : z < s9.heap.objs.size := Heap.lt_size (at9 (mz _ _))
          have hTn : h11.get? s9.heap.objs.size = some (tupO u u') := hs11.extBut _ _ (Nat.ne_of_gt zlt) hT10'
          have new : ObjOk X.prog X.w (upd H9 s9.heap.objs.size (.tup [x1, x2])) h11 s9.heap.objs.size (.tup [x1, x2]) := ⟨by show 2 ≤ sizeLine; decide, [u, u'], .cons rx1 (.cons rx2 .nil), ⟨_, hTn, rfl, _, rfl⟩⟩
          have I11 : Inv X (PP (zipO TI TO .none) (tupO u u') ++ (m2.own ++ m3.own)) σ5 (upd H9 s9.heap.objs.size (.tup [x1, x2])) { s9 with heap := h11 } :=
            Inv.zipped (t' := s9.toks) D9.inv (List.mem_append_left _ (mz _ _)) (List.mem_append_left _ (mT _ _)) oldz oldT (fun d o hd hd' e => hs11.extBut _ _ hd (kp10 d o hd hd' e)) hz11 (hs11.extBut _ _ TOz hT10) (fun v q => nomatch q) (fun v q => nomatch q) (Nat.le_refl _) new
              (fun p hp => by
                rcases List.mem_append.mp hp with h | h
                · rcases Pz (zipO TI TO .ellipsis) _ _ p h with q | ⟨q, q1⟩
                  · exact .inl q
                  · rcases PT _ (tupO u w5) _ p q with q | ⟨q, q2⟩
                    · exact .inr (.inl q)
                    · exact .inr (.inr ⟨List.mem_append_left _ q, q1, q2⟩)
                · refine .inr (.inr ⟨List.mem_append_right _ h, ?_⟩)
                  rcases List.mem_append.mp h with h | h
                  · exact ⟨fun q => D9.pa p h _ (List.mem_append_right _ (mz _ _)) q.symm, fun q => D9.pa p h _ (List.mem_append_right _ (mT _ _)) q.symm⟩
                  · exact ⟨fun q => D9.pb p h _ (List.mem_append_right _ (mz _ _)) q.symm, fun q => D9.pb p h _ (List.mem_append_right _ (mT _ _)) q.symm⟩) fun p hp => zP p hp
          have D11 : Duo X (PP (zipO TI TO .none) (tupO u u')) m2 m3 σ5 (upd H9 s9.heap.objs.size (.tup [x1, x2])) { s9 with heap := h11 } := D9.to I11 (D9.oa.sub.trans (same_upd fr9)) (D9.ob.sub.trans (same_upd fr9)) fun q hq => by
            rcases List.mem_append.mp hq with h | h
            · exact ⟨q, List.mem_append_left _ h, rfl⟩
            · rcases Pz (zipO TI TO .ellipsis) _ _ q h with e | ⟨e, _⟩
              · exact ⟨_, List.mem_append_right _ (mz _ (tupO u w5)), by rw [e]⟩
              · rcases PT _ (tupO u w5) _ q e with e | ⟨e, _⟩
                · exact ⟨_, List.mem_append_right _ (mT (zipO TI TO .ellipsis) (tupO u w5)), by rw [e]⟩
                · exact ⟨q, List.mem_append_right _ e, rfl⟩
          have q11 := step kk m.G m'.G σ5 H5 y y' m2.G H7 x1 m3.G H9 x2 s9.heap.objs.size W5 hy1 gr1 ry1 hy2 gr2 ry2 fr9
          generalize hs9 : ({ s9 with heap := h11 } : Shared) = s11 at D11
          have g11 : s11.gens[gn]? = some gs2 := by rw [← hs9]; exact g9
          have g11' : s11.gens[gn']? = some gs3 := by rw [← hs9]; exact g9'
          refine wpAny_mono (any_asleep (ht.run _ (hushed s11) σ5 _ (V.ref s9.heap.objs.size) _ _ (inv_gens D11.inv (allBare_hushed D11.inv.bare)) rfl q11)) (fun _ s12 h12 => ?_) fun e s' ⟨_, _, _, q⟩ => (hx _ _ q).elim
          obtain ⟨z12, hz12, hu12, σ12, H12, I12, q12⟩ := h12
          have b12 : AllBare (rouse (asleep s11) z12).gens := allBare_rouse D11.inv.bare I12.bare
          have I12' : Inv X (PP (zipO TI TO .none) (tupO u u') ++ (m2.own ++ m3.own)) σ12 H12 s12 := by rw [hz12]; exact inv_gens I12 b12
          have g12 : s12.gens[gn]? = some gs2 := by rw [hz12]; exact rouse_asleep hu12 g11 sus7
          have g12' : s12.gens[gn']? = some gs3 := by rw [hz12]; exact rouse_asleep hu12 g11' sus9
          refine wpAny_mono (any_asleep (hbody.run _ (hushed s12) σ12 H12 _ (inv_gens I12' (allBare_hushed I12'.bare)) q12)) (fun fl s13 h13 => ?_) fun e s' ⟨_, _, _, q⟩ => (hx _ _ q).elim
          obtain ⟨z13, hz13, hu13, h13⟩ := h13
          have toS : ∀ {σ7 : L2.St} {H7 : Hp}, Inv X (PP (zipO TI TO .none) (tupO u u') ++ (m2.own ++ m3.own)) σ7 H7 z13 → Inv X (PP (zipO TI TO .none) (tupO u u') ++ (m2.own ++ m3.own)) σ7 H7 s13 := fun {σ7 H7} I7 => by
            rw [hz13]; exact inv_gens I7 (allBare_rouse I12'.bare I7.bare)
          have low : ∀ {σ7 : L2.St} {H7 : Hp}, Inv X (PP (zipO TI TO .none) (tupO u u') ++ (m2.own ++ m3.own)) σ7 H7 z13 → Inv X pins σ7 H7 s13 := fun {σ7 H7} I7 => (toS I7).pins_of fun p hp => (toS I7).pin p (List.mem_append_right _ (List.mem_append_left _ (by rw [PPm]; exact List.mem_append_left _ hp)))
          obtain ⟨j, hj, rj⟩ := rd7
          obtain ⟨j', hj', rj'⟩ := rd9
          have again : ∀ {σ7 : L2.St} {H7 : Hp}, Inv X (PP (zipO TI TO .none) (tupO u u') ++ (m2.own ++ m3.own)) σ7 H7 z13 → (Same m2.G H7 ∧ Same m3.G H7 ∧ W (kk + 1) m2.G m3.G σ7 H7) → _ := fun {σ7 H7} I7 ⟨e1, e2, w7⟩ =>
            (⟨j, by omega, j', kk + 1, m2, m3, gs2, gs3, σ7, H7, u, u', by omega, by omega, mL2, mL3, D11.to (toS I7) e1 e2 fun q hq => ⟨q, hq, rfl⟩, w7, by rw [hz13]; exact rouse_asleep hu13 g12 sus7, by rw [hz13]; exact rouse_asleep hu13 g12' sus9, rj, rj'⟩ :
              ∃ mm, mm < n ∧ ∃ (n' kk : Nat) (m m' : Mine) (gs gs' : GenState) (σ' : L2.St) (H' : Hp) (v w : Value), mm + kk = ys.length + 1 ∧ n' + kk = ys'.length + 1 ∧ m.L = L ∧ m'.L = L' ∧ Duo X (PP (zipO TI TO .none) (tupO v w)) m m' σ' H' s13 ∧ W kk m.G m'.G σ' H' ∧ s13.gens[gn]? = some gs ∧ s13.gens[gn']? = some gs' ∧
                Ready (⟨X, L, N, ps, scope, qual, f, cd, X.A.in1.in1, ys, r⟩ : GK) X.A.in1.in1 mm kk m gs ∧ Ready (⟨X, L', N', ps', scope', qual', f', cd', X.A.in1.in1, ys', r'⟩ : GK) X.A.in1.in1 n' kk m' gs')
          cases fl with
          | next => obtain ⟨σ7, H7, I7, n7⟩ := h13; exact again I7 n7
          | cont => obtain ⟨σ7, H7, I7, n7⟩ := h13; exact again I7 n7
          | brk => obtain ⟨σ7, H7, I7, q7⟩ := h13; exact ⟨σ7, H7, low I7, q7⟩
          | ret v => obtain ⟨x7, σ7, H7, I7, r7, q7⟩ := h13; exact ⟨x7, σ7, H7, low I7, r7, q7⟩
        · exact ⟨e9, rfl, st9, (I9.pin _ (List.mem_append_right _ (List.mem_append_left _ (mz _ (tupO u w5))))).1, fun h' hz' sb => wpAny_execs_nil ⟨σ5, H9, over (b := z) I9 hz' sb, fin2 kk m.G m'.G σ5 H5 y m2.G H7 x1 G9 H9 W5 hy1 gr1 ry1 hk9 gr9⟩⟩
      · exact ⟨e7, rfl, st7, (I7.pin _ (List.mem_append_right _ (List.mem_append_left _ (mz _ (tupO v5 w5))))).1, fun h' hz' sb => wpAny_execs_nil ⟨σ5, H7, over (b := z) I7 hz' sb, fin1 kk m.G m'.G σ5 H5 G7 H7 W5 hk7 gr7⟩⟩
end
end ML.TK

namespace ML
open PySem PySem.Spec PyProof.Rows L2 GenW
section
variable {W : Wd} {G : Gam} {T : Tms} {cs : Cells} {nx bk ct : L2.St → Hp → Prop} {rt : VK} {α γ : Type} {r : R α} {r' : R γ} {sp : List V → Hp → List α → Prop} {sp' : List V → Hp → List γ → Prop} {ta ta' : TA} {tgt : TG} {tb : TS} {is : List Nat} {np : Nat}
theorem args_zip {F : Hp} : ∀ {sls : List Sl} {vs : List V}, Args F sls vs → ∀ x ∈ vs.zip sls, x.2.p F x.1
  | _, _, .nil => fun x hx => by simp at hx
  | _, _, .cons p q => fun x hx => by
    rcases List.mem_cons.mp hx with e | h
    · rw [e]; exact p
    · exact args_zip q x h
theorem args_of {F : Hp} : ∀ {sls : List Sl} {vs : List V}, vs.length = sls.length → (∀ x ∈ vs.zip sls, x.2.p F x.1) → Args F sls vs
  | [], [], _, _ => .nil
  | _ :: _, [], h, _ => by cases h
  | [], _ :: _, h, _ => by cases h
  | sl :: sls, v :: vs, h, k => .cons (k (v, sl) List.mem_cons_self) (args_of (Nat.succ.inj h) fun x hx => k x (List.mem_cons_of_mem _ hx))
theorem zip_drop {ys : List α} {zs : List γ} {k : Nat} {y : α} {z : γ} (h1 : ys[k]? = some y) (h2 : zs[k]? = some z) : (ys.zip zs).drop k = (y, z) :: (ys.zip zs).drop (k + 1) := by
  have e : (ys.zip zs)[k]? = some (y, z) := by rw [List.getElem?_zip_eq_some]; exact ⟨h1, h2⟩
  obtain ⟨hk, he⟩ := List.getElem?_eq_some_iff.mp e
  rw [← he]; exact List.drop_eq_getElem_cons hk
theorem forZ_sound (h : EvA ta W G T cs fun sls cs1 => sls.length = np ∧ ∀ us : List V, EvA ta' W G ((us.zip sls) ++ T) cs1 fun sls2 cs2 => ∃ (β ρ : Type) (ys : List α) (zs : List γ) (b0 : β) (f : β → α × γ → Option (Fl ρ β)) (out : Lo ρ β) (Gb : β → Gam) (cb : β → Cells),
      (∀ F vs, Args F sls vs → sp vs (tups F) ys) ∧ (∀ F vs, Args F sls2 vs → sp' vs (tups F) zs) ∧ loopO f (ys.zip zs) b0 = some out ∧ Wkn G (Gb b0) ∧ cs2 = cb b0 ∧
      (∀ T' b x fl, f b x = some fl → ∀ N Bk : L2.St → Hp → Prop, (∀ b', fl = .go b' → NxT N W (Gb b') T' (cb b')) → (∀ b', fl = .brk b' → NxT Bk W (Gb b') T' (cb b')) → (∀ z, fl = .ret z → out = .ret z) →
        Tg tgt is W (Gb b) T' (cb b) ((rPair r r').at x) fun G' => NxT (tb ⟨N, rt, Bk, N⟩) W G' T' (cb b)) ∧
      (∀ b', out = .go b' → NxT nx W (Gb b') T (cb b'))) : NxT (TK.tForZ np sp r sp' r' ta ta' tgt tb ⟨nx, rt, bk, ct⟩) W G T cs := fun s H st => by
  refine h s H st _ fun sls cs1 ⟨hnp, h2⟩ vs H1 ⟨F1, c1, sg1, t1, ar1⟩ => ?_
  have hlen : vs.length = sls.length := ar1.length.symm
  refine ⟨hlen.trans hnp, ?_⟩
  have tz : Temps F1 (vs.zip sls ++ T) := fun x hx => (List.mem_append.mp hx).elim (fun z => args_zip ar1 x z) (t1 x)
  refine h2 vs s H1 ⟨F1, c1, sg1, tz⟩ _ fun sls2 cs2 ⟨β, ρ, ys, zs, b0, f, out, Gb, cb, hsp, hsp', hlo, hw, e3, hbody, after⟩ vs' H2 ⟨F, c, sg, t, ar2⟩ => ?_
  subst e3
  have ar : Args F sls vs := args_of hlen fun x hx => t x (List.mem_append_left _ hx)
  have t : Temps F T := fun x hx => t x (List.mem_append_right _ hx)
  refine ⟨ys, zs, tups F, tups F, hsp F vs ar, hsp' F vs' ar2, tups_whole, tups_whole, tups_sub.trans c.fh, tups_sub.trans c.fh, fun k G0 J0 σ H => ∃ b F, loopO f ((ys.zip zs).drop k) b = some out ∧ Core W F (cb b) H ∧ Slots F (Gb b) σ ∧ Temps F T ∧ Same G0 F ∧ Same J0 F, ⟨b0, F, hlo, c, sg.weak hw, t, tups_sub, tups_sub⟩, ?_, ?_, ?_⟩
  · rintro k G0 J0 σ H G' H' ⟨b, F, hl, c, sg, t, sG, _⟩ hk gr
    obtain ⟨F', c', sF, _⟩ := core_grown c sG gr
    rw [List.drop_eq_nil_of_le (by rw [List.length_zip]; omega)] at hl
    exact after b (Option.some.inj hl).symm σ H' ⟨F', c', sg.mono sF, t.mono sF⟩
  · rintro k G0 J0 σ H y G' H' x J' H'' ⟨b, F, hl, c, sg, t, sG, sJ⟩ hy gr px hk gr2
    obtain ⟨F', c', sF, _⟩ := core_grown c sG gr
    obtain ⟨F'', c'', sF2, _⟩ := core_grown c' (sJ.trans sF) gr2
    rw [List.drop_eq_nil_of_le (by rw [List.length_zip]; omega)] at hl
    exact after b (Option.some.inj hl).symm σ H'' ⟨F'', c'', (sg.mono sF).mono sF2, (t.mono sF).mono sF2⟩
  · rintro k G0 J0 σ H y y' G' H' x J' H'' x' Tp ⟨b, F, hl, c, sg, t, sG, sJ⟩ hy gr px hy' gr2 px' hT
    obtain ⟨F', c', sF, sG'⟩ := core_grown c sG gr
    obtain ⟨F2, c2, sF2, sJ'⟩ := core_grown c' (sJ.trans sF) gr2
    have c3 := c2.new (p := Tp) (o := .tup [x, x']) hT
    have sF3 : Same F2 (upd F2 Tp (.tup [x, x'])) := same_upd (c2.fh.free hT)
    rw [zip_drop hy hy'] at hl
    unfold loopO at hl
    cases ef : f b (y, y') with
    | none => rw [ef] at hl; cases hl
    | some fl =>
      rw [ef] at hl
      have hN : ∀ b', fl = .go b' → NxT (fun σ3 H3 => Same G' H3 ∧ Same J' H3 ∧ ∃ b F, loopO f ((ys.zip zs).drop (k + 1)) b = some out ∧ Core W F (cb b) H3 ∧ Slots F (Gb b) σ3 ∧ Temps F T ∧ Same G' F ∧ Same J' F) W (Gb b') ((.non, sSame G') :: (.non, sSame J') :: T) (cb b') := by
        intro b' e s3 H3 st3
        obtain ⟨F3, c3, sg3, t3⟩ := st3
        subst e
        have z : Same G' F3 := t3.head
        have z' : Same J' F3 := t3.tail.head
        exact ⟨z.trans c3.fh, z'.trans c3.fh, b', F3, hl, c3, sg3, t3.tail.tail, z, z'⟩
      have hB : ∀ b', fl = .brk b' → NxT nx W (Gb b') ((.non, sSame G') :: (.non, sSame J') :: T) (cb b') := by
        intro b' e s3 H3 st3
        obtain ⟨F3, c3, sg3, t3⟩ := st3
        subst e
        exact after b' (Option.some.inj hl).symm s3 H3 ⟨F3, c3, sg3, t3.tail.tail⟩
      have hR : ∀ z, fl = .ret z → out = .ret z := by
        intro z e
        subst e
        exact (Option.some.inj hl).symm
      refine hbody ((.non, sSame G') :: (.non, sSame J') :: T) b (y, y') fl ef _ nx hN hB hR (.ref Tp) σ _ ⟨_, c3, ((sg.mono sF).mono sF2).mono sF3, ((Temps.cons (sl := sSame G') ((sG'.trans sF2).trans sF3) (Temps.cons (sl := sSame J') (sJ'.trans sF3) (((t.mono sF).mono sF2).mono sF3)))).cons ?_⟩ _ fun G'' k s' st' _ => k s' _ st'
      exact ⟨Tp, x, x', rfl, .inl upd_same, r.mono ((sG'.trans sF2).trans sF3) px, r'.mono (sJ'.trans sF3) px'⟩
theorem foldZ_sound (h : EvA ta W G T cs fun sls cs1 => sls.length = np ∧ ∀ us : List V, EvA ta' W G ((us.zip sls) ++ T) cs1 fun sls2 cs2 => ∃ (β : Type) (ys : List α) (zs : List γ) (b0 : β) (f : β → α × γ → Option β) (out : β) (Gb : β → Gam) (cb : β → Cells),
      (∀ F vs, Args F sls vs → sp vs (tups F) ys) ∧ (∀ F vs, Args F sls2 vs → sp' vs (tups F) zs) ∧ foldO f (ys.zip zs) b0 = some out ∧ Wkn G (Gb b0) ∧ cs2 = cb b0 ∧
      (∀ T' b x b', f b x = some b' → ∀ N Bk : L2.St → Hp → Prop, NxT N W (Gb b') T' (cb b') → Tg tgt is W (Gb b) T' (cb b) ((rPair r r').at x) fun G' => NxT (tb ⟨N, rt, Bk, N⟩) W G' T' (cb b)) ∧
      NxT nx W (Gb out) T (cb out)) : NxT (TK.tForZ np sp r sp' r' ta ta' tgt tb ⟨nx, rt, bk, ct⟩) W G T cs := by
  refine forZ_sound (is := is) ?_
  intro s H st Q q
  refine h s H st Q fun sls cs1 ⟨hnp, h2⟩ vs H' st' => q sls cs1 ⟨hnp, fun us => ?_⟩ vs H' st'
  refine fun s H st Q q => h2 us s H st Q fun sls2 cs2 ⟨β, ys, zs, b0, f, out, Gb, cb, hsp, hsp', hl, hw, e2, hbody, after⟩ vs H' st' => q sls2 cs2 ⟨β, Empty, ys, zs, b0, _, .go out, Gb, cb, hsp, hsp', foldO_loop f (ys.zip zs) b0 out hl, hw, e2, fun T' b x fl hf N Bk hN _ _ => ?_, fun b' e => ?_⟩ vs H' st'
  · cases ef : f b x with
    | none => rw [ef] at hf; cases hf
    | some b' =>
      rw [ef] at hf
      cases hf
      exact hbody T' b x b' ef N Bk (hN b' rfl)
  · cases e; exact after
end
end ML

namespace LW
open PySem Spec PyProof.Rows L2 ML
def top (i : Nat) : Stmt := PySem.Challenge.pw_maskgroups_k09_all_tests_of_a_group.main.body.getD i (.Pass ⟨0, 0, 0, 0⟩)
abbrev s_is_natural : Stmt := top 5
abbrev s_Test_init : Stmt := inClass (top 6) 0
abbrev s_Test_call : Stmt := inClass (top 6) 1
abbrev s_least_test : Stmt := top 7
abbrev s_numbers_of : Stmt := top 9
abbrev s_tells_by : Stmt := top 10
abbrev s_all_tests : Stmt := top 11
abbrev s_l_cup : Stmt := top 13
abbrev s_l_dip : Stmt := top 14
abbrev s_l_group : Stmt := top 15
abbrev s_l_numbers : Stmt := top 16
abbrev s_l_test_of : Stmt := top 17
abbrev s_l_first : Stmt := top 18
abbrev s_l_right : Stmt := top 19
abbrev s_law : Stmt := top 20
structure Ads where
  C_Test : Addr
abbrev fl_Test (Z : Ads) : (Int × Int) → List (Str × Sl) := fun t => [("mask", rInt.at t.1), ("value", rInt.at t.2)]
abbrev rT_Test (Z : Ads) : R (Int × Int) := rRec Z.C_Test (fl_Test Z)
theorem nd_Test (Z : Ads) : ∀ t, ((fl_Test Z t).map (·.1)).Nodup := fun _ => (by decide +kernel : (["mask", "value"] : List Str).Nodup)
theorem lr_Test (Z : Ads) : LeanR (rT_Test Z) := LeanR.own fun t => (leanF_cons ((fun _ => LeanS.int) _) (leanF_cons ((fun _ => LeanS.int) _) leanF_nil))
theorem nn_Test (Z : Ads) (m : Str) (h : m ∉ (["mask", "value"] : List Str)) : ∀ t, m ∉ (fl_Test Z t).map (·.1) := fun _ => h
structure Tx (K : PySem.W.Frag) (mg : Str → Option Value) (Z : Ads) where
  f_is_natural : Addr
  d_is_natural : FuncData
  F_is_natural : Fun K "is_natural" "is_natural" s_is_natural f_is_natural d_is_natural
  g_is_natural : mg "is_natural" = some (.ref f_is_natural)
  b_is_natural : Binds K d_is_natural ["value"] []
  f_Test_init : Addr
  d_Test_init : FuncData
  F_Test_init : Fun K "__init__" "Test.__init__" s_Test_init f_Test_init d_Test_init
  b_Test_init : Binds K d_Test_init ["self", "mask", "value"] []
  mk_Test : Mk K Z.C_Test f_Test_init
  f_Test_call : Addr
  d_Test_call : FuncData
  F_Test_call : Fun K "__call__" "Test.__call__" s_Test_call f_Test_call d_Test_call
  b_Test_call : Binds K d_Test_call ["self", "number"] []
  dm_Test_call : StX.CallO K Z.C_Test f_Test_call
  f_least_test : Addr
  d_least_test : FuncData
  F_least_test : Fun K "least_test" "least_test" s_least_test f_least_test d_least_test
  g_least_test : mg "least_test" = some (.ref f_least_test)
  b_least_test : Binds K d_least_test ["numbers", "bits"] []
  f_numbers_of : Addr
  d_numbers_of : FuncData
  F_numbers_of : Fun K "numbers_of" "numbers_of" s_numbers_of f_numbers_of d_numbers_of
  g_numbers_of : mg "numbers_of" = some (.ref f_numbers_of)
  b_numbers_of : Binds K d_numbers_of ["code", "group"] []
  f_tells_by : Addr
  d_tells_by : FuncData
  F_tells_by : Fun K "tells_by" "tells_by" s_tells_by f_tells_by d_tells_by
  g_tells_by : mg "tells_by" = some (.ref f_tells_by)
  b_tells_by : Binds K d_tells_by ["code", "group", "test"] []
  f_all_tests : Addr
  d_all_tests : FuncData
  F_all_tests : Fun K "all_tests" "all_tests" s_all_tests f_all_tests d_all_tests
  g_all_tests : mg "all_tests" = some (.ref f_all_tests)
  b_all_tests : Binds K d_all_tests ["code", "bits", "group"] []
  f_l_cup : Addr
  d_l_cup : FuncData
  F_l_cup : Fun K "_law_cup" "_law_cup" s_l_cup f_l_cup d_l_cup
  g_l_cup : mg "_law_cup" = some (.ref f_l_cup)
  b_l_cup : Binds K d_l_cup ["_law_script", "_law_k"] []
  f_l_dip : Addr
  d_l_dip : FuncData
  F_l_dip : Fun K "_law_dip" "_law_dip" s_l_dip f_l_dip d_l_dip
  g_l_dip : mg "_law_dip" = some (.ref f_l_dip)
  b_l_dip : Binds K d_l_dip ["_law_cup_here", "_law_many"] []
  f_l_group : Addr
  d_l_group : FuncData
  F_l_group : Fun K "_law_group" "_law_group" s_l_group f_l_group d_l_group
  g_l_group : mg "_law_group" = some (.ref f_l_group)
  b_l_group : Binds K d_l_group ["_law_cup_here", "_law_count"] []
  f_l_numbers : Addr
  d_l_numbers : FuncData
  F_l_numbers : Fun K "_law_numbers" "_law_numbers" s_l_numbers f_l_numbers d_l_numbers
  g_l_numbers : mg "_law_numbers" = some (.ref f_l_numbers)
  b_l_numbers : Binds K d_l_numbers ["_law_cup_here", "_law_count", "_law_width"] []
  f_l_test_of : Addr
  d_l_test_of : FuncData
  F_l_test_of : Fun K "_law_test_of" "_law_test_of" s_l_test_of f_l_test_of d_l_test_of
  g_l_test_of : mg "_law_test_of" = some (.ref f_l_test_of)
  b_l_test_of : Binds K d_l_test_of ["_law_row", "_law_width", "_law_gang"] []
  f_l_first : Addr
  d_l_first : FuncData
  F_l_first : Fun K "_law_first" "_law_first" s_l_first f_l_first d_l_first
  g_l_first : mg "_law_first" = some (.ref f_l_first)
  b_l_first : Binds K d_l_first ["_law_row", "_law_width", "_law_gang"] []
  f_l_right : Addr
  d_l_right : FuncData
  F_l_right : Fun K "_law_right" "_law_right" s_l_right f_l_right d_l_right
  g_l_right : mg "_law_right" = some (.ref f_l_right)
  b_l_right : Binds K d_l_right ["_law_cup_here"] []
  f_law : Addr
  d_law : FuncData
  F_law : Fun K "law" "law" s_law f_law d_law
  g_law : mg "law" = some (.ref f_law)
  b_law : Binds K d_law ["_law_script"] []
  cl_Test : Cls K Z.C_Test
  gc_Test : mg "Test" = some (.ref Z.C_Test)
  na_Test_mask : NoAttr K Z.C_Test "mask"
  na_Test_value : NoAttr K Z.C_Test "value"
  n0_all_tests : NamesTo K d_all_tests ["code", "bits", "group"] ["group", "bits", "code"] [2, 1, 0]
  z_abs : mg "abs" = none
  z_all : mg "all" = none
  z_bool : mg "bool" = none
  z_enumerate : mg "enumerate" = none
  z_int : mg "int" = none
  z_isinstance : mg "isinstance" = none
  z_len : mg "len" = none
  z_list : mg "list" = none
  z_max : mg "max" = none
  z_min : mg "min" = none
  z_range : mg "range" = none
  z_repr : mg "repr" = none
  z_tuple : mg "tuple" = none
  z_zip : mg "zip" = none
def m_is_natural (v_value : Int) : Option Bool :=
  pure (true && ((!false) && (decide ((0 : Int) ≤ v_value))))
abbrev sp_is_natural (K : PySem.W.Frag) (Z : Ads) : Sp := spM (ι := Int) (β := Bool) (fun i => [rInt.at i]) (fun i => []) (fun i => m_is_natural i) (fun i b => rBool.at b) (fun i b => [])
abbrev N_is_natural : List Str := ["value"]
theorem sc_is_natural : FnScope N_is_natural ["value"] (defScope s_is_natural) := ⟨rfl, rfl, rfl, by decide +kernel, rfl, by decide +kernel, by decide +kernel⟩
theorem ok_is_natural {P : Program} {w : World} {K : PySem.W.Frag} {Z : Ads} {mg : Str → Option Value} {base : Heap} (X : Tx K mg Z) : FnG P w K mg base CX0 1 X.f_is_natural X.d_is_natural ["value"] (sp_is_natural K Z) := by
  refine okG X.F_is_natural sc_is_natural (fun vs H Q E h => spM_len h fun _ => rfl) (fun cdv A outer s H vs Q E hr h => ?_)
  refine ⟨(tRet (tAndV (tCB (rIsi K) (tCons (tVar 0) (tCons (tC (.ty "int")) tNil))) (tAndV (tNotV (tCB (rIsi K) (tCons (tVar 0) (tCons (tC (.ty "bool")) tNil)))) (tOp rdGe (tVar 0) (tC (.int 0)))))), (pss_one (ps_ret (pe_and (pe_callB call_isi (by rfl) X.z_isinstance bt_isinstance (pa_cons (pv 0) (pa_cons (pe_bltn (by rfl) X.z_int bt_int rfl) pa_nil))) (pe_and (pe_not (pe_callB call_isi (by rfl) X.z_isinstance bt_isinstance (pa_cons (pv 0) (pa_cons (pe_bltn (by rfl) X.z_bool bt_bool rfl) pa_nil)))) (pe_one (pe_cmpR op_ge (pv 0) pe_int (nomark _))))))), ?_⟩
  obtain ⟨v_value, r, W, h, hcore, har, hrt⟩ := h
  refine body hcore har (Nat.le_of_ble_eq_true rfl) ?_
  clear hcore har
  change m_is_natural v_value = some r at h
  unfold m_is_natural at h
  change NxT _ _ [some (rInt.at v_value)] _ []
  replace h := pureE h
  subst h
  refine s_ret (e_and (c := true) (d := (true && ((!false) && (decide ((0 : Int) ≤ v_value))))) (e_isi (n := "int") (c := "int") (b := true) (ea_cons (e_var (sl := (rInt.at v_value)) rfl fun _ => (ea_cons (e_cls (fun _ => (ea_nil ⟨_, _, _, tyInt, rfl, by first | rfl | decide +kernel, ⟨rfl, fun hc => (e_and (c := (!false)) (d := ((!false) && (decide ((0 : Int) ≤ v_value)))) (e_not (e_isi (n := "int") (c := "bool") (b := false) (ea_cons (e_var (sl := (rInt.at v_value)) rfl fun _ => (ea_cons (e_cls (fun _ => (ea_nil ⟨_, _, _, tyInt, rfl, by first | rfl | decide +kernel, ⟨_, rfl, ⟨rfl, fun hc => (e_opB0 (g := fun i j => decide (j ≤ i)) (e_var (sl := (rInt.at v_value)) rfl ⟨_, rfl, (e_int ⟨_, rfl, ⟨congrArg rBool.at (andT hc).symm, rfl⟩⟩)⟩)), fun hc => ⟨andF hc, rfl⟩⟩⟩⟩)))))))) ⟨congrArg rBool.at (andT hc).symm, rfl⟩), fun hc => ⟨andF hc, rfl⟩⟩⟩))))))) ?_)
  exact Rt.drop hrt .slnil
def m_Test_init (v_mask : Int) (v_value : Int) : Option (Int × Int) :=
  bind (m_is_natural v_mask) fun r1 =>
  bind (((bif (!r1) then (pure true) else ((bind (m_is_natural v_value) fun r2 => pure ((!r2) || (!decide ((Builtin.bitAnd v_value v_mask) = v_value)))))) : Option Bool)) fun t3 =>
  (bif t3 then (none) else (pure (v_mask, v_value)))
abbrev sp_Test_init (K : PySem.W.Frag) (Z : Ads) : Sp := spM (ι := Addr × Int × Int) (β := (Int × Int)) (fun i => [sRef i.1, rInt.at i.2.1, rInt.at i.2.2]) (fun i => [(i.1, cObj Z.C_Test [])]) (fun i => m_Test_init i.2.1 i.2.2) (fun i b => rNon.at ()) (fun i b => [(i.1, cObj Z.C_Test (fl_Test Z b))])
abbrev N_Test_init : List Str := ["self", "mask", "value"]
theorem sc_Test_init : FnScope N_Test_init ["self", "mask", "value"] (defScope s_Test_init) := ⟨rfl, rfl, rfl, by decide +kernel, rfl, by decide +kernel, by decide +kernel⟩
theorem ok_Test_init {P : Program} {w : World} {K : PySem.W.Frag} {Z : Ads} {mg : Str → Option Value} {base : Heap} (X : Tx K mg Z) (G_is_natural : FnG P w K mg base CX0 1 X.f_is_natural X.d_is_natural ["value"] (sp_is_natural K Z)) : FnG P w K mg base CX0 2 X.f_Test_init X.d_Test_init ["self", "mask", "value"] (sp_Test_init K Z) := by
  refine okG X.F_Test_init sc_Test_init (fun vs H Q E h => spM_len h fun _ => rfl) (fun cdv A outer s H vs Q E hr h => ?_)
  refine ⟨(tSeq (tIfS (tOr (tNot (tB (tCall (sp_is_natural K Z) [] E0 (tCons (tVar 1) tNil)))) (tOr (tNot (tB (tCall (sp_is_natural K Z) [] E0 (tCons (tVar 2) tNil)))) (tTest (tOp rNe (tOp rdAnd (tVar 2) (tVar 1)) (tVar 2))))) tNo tNext) (tSeq (sFld K (tVar 0) (tVar 1) "mask") (sFld K (tVar 0) (tVar 2) "value"))), (pss_cons (ps_if (PW.pt (pw_or (pt_not (pt_val (pe_callG (G_is_natural) (hr.mono (by decide)) (by rfl) X.g_is_natural X.F_is_natural.kp X.b_is_natural .nil pass0 (pa_cons (pv 1) pa_nil)))) (pw_or (pt_not (pt_val (pe_callG (G_is_natural) (hr.mono (by decide)) (by rfl) X.g_is_natural X.F_is_natural.kp X.b_is_natural .nil pass0 (pa_cons (pv 2) pa_nil)))) (pw_or1 (pt_cmpR op_ne (pe_op op_and (pv 2) (pv 1)) (pv 2) (nomark _)))))) (pss_one ps_no) pss_nil) (pss_cons (ps_fld (pv 0) (pv 1) rfl) (pss_one (ps_fld (pv 0) (pv 2) rfl)))), ?_⟩
  obtain ⟨⟨c, v_mask, v_value⟩, r, W, h, hcore, har, hrt⟩ := h
  refine body hcore har (Nat.le_of_ble_eq_true rfl) ?_
  clear hcore har
  change m_Test_init v_mask v_value = some r at h
  unfold m_Test_init at h
  change NxT _ _ [some (sRef c), some (rInt.at v_mask), some (rInt.at v_value)] _ [(c, cObj Z.C_Test [])]
  replace h := bindE h
  obtain ⟨r1, hr1, h⟩ := h
  replace h := bindE h
  obtain ⟨t3, ht3, h⟩ := h
  refine s_seq (s_if (t_or (c := (!r1)) (d := t3) (t_not (t_val (e_call (ea_cons (e_var (sl := (rInt.at v_mask)) rfl fun _ => (ea_nil ⟨v_mask, r1, [(c, cObj Z.C_Test [])], hr1, rfl, rfl, ⟨_, rfl, ⟨rfl, ?b4, fun hc => ⟨pureE' (condT hc ht3), rfl⟩⟩⟩⟩)))))) ⟨fun hc => ?_, fun hc => ?_⟩))
  case b4 =>
    intro hc
    have h := condF hc ht3
    replace h := bindE h
    obtain ⟨r2, hr2, h⟩ := h
    replace h := pureE h
    subst h
    refine (t_or (c := (!r2)) (d := ((!r2) || (!decide ((Builtin.bitAnd v_value v_mask) = v_value)))) (t_not (t_val (e_call (ea_cons (e_var (sl := (rInt.at v_value)) rfl fun _ => (ea_nil ⟨v_value, r2, [(c, cObj Z.C_Test [])], hr2, rfl, rfl, ⟨_, rfl, ⟨rfl, fun hc => (t_test (e_neI (e_opI0 (g := Builtin.bitAnd) (e_var (sl := (rInt.at v_value)) rfl ⟨_, rfl, (e_var (sl := (rInt.at v_mask)) rfl ⟨_, rfl, ⟨_, rfl, (e_var (sl := (rInt.at v_value)) rfl ⟨_, rfl, ⟨_, rfl, ⟨(orF hc).symm, rfl⟩⟩⟩)⟩⟩)⟩)))), fun hc => ⟨orT hc, rfl⟩⟩⟩⟩)))))) ⟨rfl, rfl⟩)
  · replace h := condT hc h
    cases h
  · replace h := condF hc h
    refine s_next ?_
    refine s_seq (s_fld 0 X.cl_Test X.na_Test_mask (e_var (sl := (rInt.at v_mask)) rfl fun _ => (e_var (sl := (sRef c)) rfl ⟨_, _, _, rfl, rfl, (show (0 : Nat) < 1000 by decide), .nil, ?_⟩)))
    change NxT _ _ [some (sRef c), some (rInt.at v_mask), some (rInt.at v_value)] _ [(c, cObj Z.C_Test [("mask", (rInt.at v_mask))])]
    refine (s_fld 0 X.cl_Test X.na_Test_value (e_var (sl := (rInt.at v_value)) rfl fun _ => (e_var (sl := (sRef c)) rfl ⟨_, _, _, rfl, rfl, (show (1 : Nat) < 1000 by decide), (.next (by decide +kernel) .nil), ?_⟩)))
    change NxT _ _ [some (sRef c), some (rInt.at v_mask), some (rInt.at v_value)] _ [(c, cObj Z.C_Test [("mask", (rInt.at v_mask)), ("value", (rInt.at v_value))])]
    replace h := pureE h
    subst h
    refine s_fallN (Rt.drop hrt (.cons₂ _ .slnil))
def m_Test_call (v_self : (Int × Int)) (v_number : Int) : Option Bool :=
  pure (decide ((Builtin.bitAnd v_number v_self.1) = v_self.2))
abbrev sp_Test_call (K : PySem.W.Frag) (Z : Ads) : Sp := spM (ι := (Int × Int) × Int) (β := Bool) (fun i => [(rT_Test Z).at i.1, rInt.at i.2]) (fun i => []) (fun i => m_Test_call i.1 i.2) (fun i b => rBool.at b) (fun i b => [])
abbrev N_Test_call : List Str := ["self", "number"]
theorem sc_Test_call : FnScope N_Test_call ["self", "number"] (defScope s_Test_call) := ⟨rfl, rfl, rfl, by decide +kernel, rfl, by decide +kernel, by decide +kernel⟩
theorem ok_Test_call {P : Program} {w : World} {K : PySem.W.Frag} {Z : Ads} {mg : Str → Option Value} {base : Heap} (X : Tx K mg Z) : FnG P w K mg base CX0 1 X.f_Test_call X.d_Test_call ["self", "number"] (sp_Test_call K Z) := by
  refine okG X.F_Test_call sc_Test_call (fun vs H Q E h => spM_len h fun _ => rfl) (fun cdv A outer s H vs Q E hr h => ?_)
  refine ⟨(tRet (tOp rEq (tOp rdAnd (tVar 1) (tFld K (tVar 0) "mask")) (tFld K (tVar 0) "value"))), (pss_one (ps_ret (pe_cmpR op_eq (pe_op op_and (pv 1) (pe_fld (pv 0) rfl)) (pe_fld (pv 0) rfl) (nomark _)))), ?_⟩
  obtain ⟨⟨v_self, v_number⟩, r, W, h, hcore, har, hrt⟩ := h
  refine body hcore har (Nat.le_of_ble_eq_true rfl) ?_
  clear hcore har
  change m_Test_call v_self v_number = some r at h
  unfold m_Test_call at h
  change NxT _ _ [some ((rT_Test Z).at v_self), some (rInt.at v_number)] _ []
  replace h := pureE h
  subst h
  refine s_ret (e_eqI (e_opI0 (g := Builtin.bitAnd) (e_var (sl := (rInt.at v_number)) rfl ⟨_, rfl, (e_fld (fl := fl_Test Z) 0 X.cl_Test X.na_Test_mask (nd_Test Z) (e_var (sl := ((rT_Test Z).at v_self)) rfl ⟨_, _, rfl, rfl, ⟨_, rfl, ⟨_, rfl, (e_fld (fl := fl_Test Z) 1 X.cl_Test X.na_Test_value (nd_Test Z) (e_var (sl := ((rT_Test Z).at v_self)) rfl ⟨_, _, rfl, rfl, ⟨_, rfl, ?_⟩⟩))⟩⟩⟩))⟩)))
  exact Rt.drop hrt .slnil
def m_least_test (v_numbers : (List Int)) (v_bits : Int) : Option (Int × Int) :=
  bind (oShl (1 : Int) v_bits) fun t1 =>
  bind (foldO (fun (b3 : (Int)) (x2 : Int) => (((bind (atI v_numbers (0 : Int)) fun t4 => pure ((Builtin.bitAnd b3 (Builtin.bitNot (Builtin.bitXor x2 t4)))))) : Option (Int))) v_numbers ((t1 - (1 : Int)))) fun o5 =>
  bind (atI v_numbers (0 : Int)) fun t7 =>
  bind (m_Test_init o5 (Builtin.bitAnd t7 o5)) fun r8 =>
  pure r8
abbrev sp_least_test (K : PySem.W.Frag) (Z : Ads) : Sp := spM (ι := (List Int) × Int) (β := (Int × Int)) (fun i => [(rTup rInt).at i.1, rInt.at i.2]) (fun i => []) (fun i => m_least_test i.1 i.2) (fun i b => (rT_Test Z).at b) (fun i b => [])
abbrev N_least_test : List Str := ["numbers", "bits", "mask", "number"]
theorem sc_least_test : FnScope N_least_test ["numbers", "bits"] (defScope s_least_test) := ⟨rfl, rfl, rfl, by decide +kernel, rfl, by decide +kernel, by decide +kernel⟩
theorem ok_least_test {P : Program} {w : World} {K : PySem.W.Frag} {Z : Ads} {mg : Str → Option Value} {base : Heap} (X : Tx K mg Z) (G_Test_init : FnG P w K mg base CX0 2 X.f_Test_init X.d_Test_init ["self", "mask", "value"] (sp_Test_init K Z)) : FnG P w K mg base CX0 4 X.f_least_test X.d_least_test ["numbers", "bits"] (sp_least_test K Z) := by
  refine okG X.F_least_test sc_least_test (fun vs H Q E h => spM_len h fun _ => rfl) (fun cdv A outer s H vs Q E hr h => ?_)
  refine ⟨(tSeq (tAsg (tOp rdSub (tOp rdShl (tC (.int 1)) (tVar 1)) (tC (.int 1))) (gName 2)) (tSeq (tFor (iTup K (tVar 0)) (gName 3) (tAug 2 (tUn rdInv (tOp rdXor (tVar 3) (tOp (rIxT K) (tVar 0) (tC (.int 0))))) rdAnd)) (tRet (tMake Z.C_Test (sp_Test_init K Z) [] E0 (tCons (tVar 2) (tCons (tOp rdAnd (tOp (rIxT K) (tVar 0) (tC (.int 0))) (tVar 2)) tNil)))))), (pss_cons (ps_set (i := 2) sc_least_test.nd rfl (Or.inl rfl) (pe_op op_sub (pe_op op_shlW pe_int (pv 1)) pe_int)) (pss_cons (ps_for PassesOwn.never rfl (pi_tup (pv 0)) (pg_name (i := 3) sc_least_test.nd rfl (Or.inl rfl)) (pss_one (ps_aug (i := 2) sc_least_test.nd rfl (Or.inl rfl) (pe_un un_inv (pe_op op_xor (pv 3) (pe_ix ix_tup (pv 0) pe_int (fun _ _ => rfl)))) iop_and))) (pss_one (ps_ret (pe_makeG X.mk_Test G_Test_init (hr.mono (by decide)) (by rfl) X.gc_Test X.b_Test_init .nil pass0 (pa_cons (pv 2) (pa_cons (pe_op op_and (pe_ix ix_tup (pv 0) pe_int (fun _ _ => rfl)) (pv 2)) pa_nil))))))), ?_⟩
  obtain ⟨⟨v_numbers, v_bits⟩, r, W, h, hcore, har, hrt⟩ := h
  refine body hcore har (Nat.le_of_ble_eq_true rfl) ?_
  clear hcore har
  change m_least_test v_numbers v_bits = some r at h
  unfold m_least_test at h
  change NxT _ _ [some ((rTup rInt).at v_numbers), some (rInt.at v_bits), none, none] _ []
  replace h := bindE h
  obtain ⟨t1, ht1, h⟩ := h
  refine s_seq (s_set (e_opI0 (g := fun i j => i - j) (e_opO oShl_ok (e_int ⟨_, rfl, (e_var (sl := (rInt.at v_bits)) rfl ⟨_, _, rfl, ht1, ⟨_, rfl, (e_int ⟨_, rfl, ?_⟩)⟩⟩)⟩))))
  change NxT _ _ [some ((rTup rInt).at v_numbers), some (rInt.at v_bits), some (rInt.at (t1 - (1 : Int))), none] _ []
  replace h := bindE h
  obtain ⟨o5, ho5, h⟩ := h
  refine s_seq (fold_sound (is := [3]) (i_tup (e_var (sl := ((rTup rInt).at v_numbers)) rfl ⟨_, rInt, _, rfl, ⟨_, _, rInt, v_numbers, ((t1 - (1 : Int))), _, o5, fun (b3 : (Int)) => [some ((rTup rInt).at v_numbers), some (rInt.at v_bits), some (rInt.at b3), none], fun (b3 : (Int)) => [], rfl, ho5, (by exact (And.intro rfl (And.intro rfl (And.intro rfl True.intro)))), rfl, ?b6, ?_⟩⟩)))
  case b6 =>
    clear h
    intro T1 b3 x2 b1 h N Bk hN
    refine g_name ?_
    change NxT _ _ [some ((rTup rInt).at v_numbers), some (rInt.at v_bits), some (rInt.at b3), some (rInt.at x2)] _ []
    replace h := bindE h
    obtain ⟨t4, ht4, h⟩ := h
    refine (s_augI0 (g := Builtin.bitAnd) rfl (e_un (g := Builtin.bitNot) (e_opI0 (g := Builtin.bitXor) (e_var (sl := (rInt.at x2)) rfl ⟨_, rfl, (e_ixT (e_var (sl := ((rTup rInt).at v_numbers)) rfl fun _ => (e_int ⟨_, rInt, _, _, _, rfl, rfl, ht4, ⟨_, rfl, ⟨_, rfl, ⟨_, rfl, ?_⟩⟩⟩⟩)))⟩))))
    change NxT _ _ [some ((rTup rInt).at v_numbers), some (rInt.at v_bits), some (rInt.at (Builtin.bitAnd b3 (Builtin.bitNot (Builtin.bitXor x2 t4)))), some (rInt.at x2)] _ []
    replace h := pureE h
    subst h
    exact s_weak (by exact (And.intro rfl (And.intro rfl (And.intro rfl True.intro)))) .slnil hN
  change NxT _ _ [some ((rTup rInt).at v_numbers), some (rInt.at v_bits), some (rInt.at o5), none] _ []
  replace h := bindE h
  obtain ⟨t7, ht7, h⟩ := h
  replace h := bindE h
  obtain ⟨r8, hr8, h⟩ := h
  replace h := pureE h
  subst h
  refine s_ret (e_makeF (ι := (Int × Int)) (β := (Int × Int)) (C := Z.C_Test) (E := E0) (fl := fl_Test Z) (A := fun p i => [sRef p, rInt.at i.1, rInt.at i.2]) (m := fun i => m_Test_init i.1 i.2) (ea_cons (e_var (sl := (rInt.at o5)) rfl fun _ => (ea_cons (e_opI0 (g := Builtin.bitAnd) (e_ixT (e_var (sl := ((rTup rInt).at v_numbers)) rfl fun _ => (e_int ⟨_, rInt, _, _, _, rfl, rfl, ht7, ⟨_, rfl, (e_var (sl := (rInt.at o5)) rfl ⟨_, rfl, fun _ => (ea_nil ⟨(o5, (Builtin.bitAnd t7 o5)), _, hr8, fun _ => rfl, ?_⟩)⟩)⟩⟩))))))))
  exact Rt.drop hrt .slnil
def m_numbers_of (v_code : (List Int)) (v_group : (List Int)) : Option (List Int) :=
  bind (mapO (fun (x1 : Int) => (((bind (atI v_code x1) fun t3 => pure (some t3))) : Option (Option Int))) v_group) fun t5 =>
  pure t5
abbrev sp_numbers_of (K : PySem.W.Frag) (Z : Ads) : Sp := spM (ι := (List Int) × (List Int)) (β := (List Int)) (fun i => [(rTup rInt).at i.1, (rTup rInt).at i.2]) (fun i => []) (fun i => m_numbers_of i.1 i.2) (fun i b => (rTup rInt).at b) (fun i b => [])
abbrev N_numbers_of : List Str := ["code", "group", "kind"]
theorem sc_numbers_of : FnScope N_numbers_of ["code", "group"] (defScope s_numbers_of) := ⟨rfl, rfl, rfl, by decide +kernel, rfl, by decide +kernel, by decide +kernel⟩
theorem ok_numbers_of {P : Program} {w : World} {K : PySem.W.Frag} {Z : Ads} {mg : Str → Option Value} {base : Heap} (X : Tx K mg Z) : FnG P w K mg base CX0 1 X.f_numbers_of X.d_numbers_of ["code", "group"] (sp_numbers_of K Z) := by
  refine okG X.F_numbers_of sc_numbers_of (fun vs H Q E h => spM_len h fun _ => rfl) (fun cdv A outer s H vs Q E hr h => ?_)
  refine ⟨(tRet (tCB (rdTupleOf K) (tCons (tLc (iTup K (tVar 1)) (gName 2) tYes (tOp (rIxT K) (tVar 0) (tVar 2)) [2]) tNil))), (pss_one (ps_ret (pe_callTy call_tuple_of (by rfl) X.z_tuple bt_tuple (pa_cons (pe_lc (own := [("kind", 2)]) (g := (gName 2)) (tt := tYes) (te := (tOp (rIxT K) (tVar 0) (tVar 2))) rfl sc_numbers_of.nd (pi_tup (pv 1)) (blkOk_by (N := N_numbers_of) (sc := (defScope s_numbers_of)) (by decide +kernel)) (fun _ _ _ _ _ => (pg_name (i := 2) sc_numbers_of.nd rfl (Or.inl rfl))) (fun _ _ _ _ _ => pts_nil) (fun _ _ _ _ _ => (pe_ix ix_tup (pv 0) (pv 2) (fun _ _ => rfl)))) pa_nil)))), ?_⟩
  obtain ⟨⟨v_code, v_group⟩, r, W, h, hcore, har, hrt⟩ := h
  refine body hcore har (Nat.le_of_ble_eq_true rfl) ?_
  clear hcore har
  change m_numbers_of v_code v_group = some r at h
  unfold m_numbers_of at h
  change NxT _ _ [some ((rTup rInt).at v_code), some ((rTup rInt).at v_group), none] _ []
  replace h := bindE h
  obtain ⟨t5, ht5, h⟩ := h
  replace h := pureE h
  subst h
  refine s_ret (e_tupL (ea_cons (lc_sound (is := [2]) (by decide) (i_tup (e_var (sl := ((rTup rInt).at v_group)) rfl ⟨_, rInt, _, rfl, ⟨_, _, _, rInt, v_group, (), _, t5, (), rInt, fun _ => [], rfl, lcO_mapO _ _ _ ht5, rfl, ?b4, fun _ => (ea_nil ⟨_, rInt, _, rfl, ?_⟩)⟩⟩)))))
  case b4 =>
    intro W1 T1 k2 x1 o u1 h
    obtain ⟨h, _⟩ := mapU h
    refine g_name ?_
    replace h := bindE h
    obtain ⟨t3, ht3, h⟩ := h
    replace h := pureE h
    subst h
    refine t_yes ⟨fun _ => ?_, fun z => nomatch z⟩
    refine (e_ixT (e_var (sl := ((rTup rInt).at v_code)) rfl fun _ => (e_var (sl := (rInt.at x1)) rfl ⟨_, rInt, _, _, _, rfl, rfl, ht3, ⟨_, rfl, rfl, rfl⟩⟩)))
  exact Rt.drop hrt .slnil
def m_tells_by (v_code : (List Int)) (v_group : (List Int)) (v_test : (Int × Int)) : Option Bool :=
  bind (mapO (fun (x1 : (Int × Int)) => (((bind (m_Test_call v_test x1.2) fun r3 => pure (some (decide (r3 = (decide (x1.1 ∈ v_group))))))) : Option (Option Bool))) (enumI v_code)) fun t5 =>
  pure (t5.all id)
abbrev sp_tells_by (K : PySem.W.Frag) (Z : Ads) : Sp := spM (ι := (List Int) × (List Int) × (Int × Int)) (β := Bool) (fun i => [(rTup rInt).at i.1, (rTup rInt).at i.2.1, (rT_Test Z).at i.2.2]) (fun i => []) (fun i => m_tells_by i.1 i.2.1 i.2.2) (fun i b => rBool.at b) (fun i b => [])
abbrev N_tells_by : List Str := ["code", "group", "test", "kind", "number"]
theorem sc_tells_by : FnScope N_tells_by ["code", "group", "test"] (defScope s_tells_by) := ⟨rfl, rfl, rfl, by decide +kernel, rfl, by decide +kernel, by decide +kernel⟩
theorem ok_tells_by {P : Program} {w : World} {K : PySem.W.Frag} {Z : Ads} {mg : Str → Option Value} {base : Heap} (X : Tx K mg Z) (G_Test_call : FnG P w K mg base CX0 1 X.f_Test_call X.d_Test_call ["self", "number"] (sp_Test_call K Z)) : FnG P w K mg base CX0 2 X.f_tells_by X.d_tells_by ["code", "group", "test"] (sp_tells_by K Z) := by
  refine okG X.F_tells_by sc_tells_by (fun vs H Q E h => spM_len h fun _ => rfl) (fun cdv A outer s H vs Q E hr h => ?_)
  refine ⟨(tRet (tCB (rAll K) (tCons (tLc (iEnumT K (tCons (tVar 0) tNil)) (gTup K 2 (gCons (gName 3) (gCons (gName 4) gNil))) tYes (tOp rEq (tCallOb Z.C_Test (sp_Test_call K Z) [] E0 (tVar 2) (tCons (tVar 4) tNil)) (tOp (rIn K false) (tVar 3) (tVar 1))) [3, 4]) tNil))), (pss_one (ps_ret (pe_callB (cr_all rfl) (by rfl) X.z_all bt_all (pa_cons (pe_lc (own := [("kind", 3), ("number", 4)]) (g := (gTup K 2 (gCons (gName 3) (gCons (gName 4) gNil)))) (tt := tYes) (te := (tOp rEq (tCallOb Z.C_Test (sp_Test_call K Z) [] E0 (tVar 2) (tCons (tVar 4) tNil)) (tOp (rIn K false) (tVar 3) (tVar 1)))) rfl sc_tells_by.nd (pi_enumT (by rfl) X.z_enumerate (pa_cons (pv 0) pa_nil)) (blkOk_by (N := N_tells_by) (sc := (defScope s_tells_by)) (by decide +kernel)) (fun _ _ _ _ _ => (pg_tup rfl (pgs_cons (pg_name (i := 3) sc_tells_by.nd rfl (Or.inl rfl)) (pgs_cons (pg_name (i := 4) sc_tells_by.nd rfl (Or.inl rfl)) pgs_nil)))) (fun _ _ _ _ _ => pts_nil) (fun _ _ _ _ _ => (pe_cmpR op_eq (pe_callOG (pv 2) X.dm_Test_call G_Test_call (hr.mono (by decide)) X.b_Test_call .nil pass0 (pa_cons (pv 4) pa_nil)) (pe_cmpR op_in_seq (pv 3) (pv 1) (by with_unfolding_all rfl)) (nomark _)))) pa_nil)))), ?_⟩
  obtain ⟨⟨v_code, v_group, v_test⟩, r, W, h, hcore, har, hrt⟩ := h
  refine body hcore har (Nat.le_of_ble_eq_true rfl) ?_
  clear hcore har
  change m_tells_by v_code v_group v_test = some r at h
  unfold m_tells_by at h
  change NxT _ _ [some ((rTup rInt).at v_code), some ((rTup rInt).at v_group), some ((rT_Test Z).at v_test), none, none] _ []
  replace h := bindE h
  obtain ⟨t5, ht5, h⟩ := h
  replace h := pureE h
  subst h
  refine s_ret (e_all (ea_cons (lc_sound (is := [3, 4]) (by decide) (i_enumT (ea_cons (e_var (sl := ((rTup rInt).at v_code)) rfl fun _ => (ea_nil ⟨_, rInt, _, rfl, ⟨_, _, _, (rPair rInt rInt), (enumI v_code), (), _, t5, (), rBool, fun _ => [], rfl, lcO_mapO _ _ _ ht5, rfl, ?b4, fun _ => (ea_nil ⟨_, rfl, ?_⟩)⟩⟩)))))))
  case b4 =>
    intro W1 T1 k2 x1 o u1 h
    obtain ⟨h, _⟩ := mapU h
    refine g_pair ?_
    replace h := bindE h
    obtain ⟨r3, hr3, h⟩ := h
    replace h := pureE h
    subst h
    refine t_yes ⟨fun _ => ?_, fun z => nomatch z⟩
    refine (e_eqB (e_callOb (ι := ((Int × Int) × Int)) (β := Bool) (α := (Int × Int)) (C := Z.C_Test) (E := E0) (fl := fl_Test Z) (A := fun i => [(rT_Test Z).at i.1, rInt.at i.2]) (ci := fun _ => []) (m := fun i => m_Test_call i.1 i.2) (res := fun _ b => rBool.at b) (co := fun _ _ => []) (e_var (sl := ((rT_Test Z).at v_test)) rfl ⟨_, rfl, fun _ => (ea_cons (e_var (sl := (rInt.at x1.2)) rfl fun _ => (ea_nil ⟨(v_test, x1.2), _, _, hr3, rfl, rfl, ⟨_, rfl, fun _ => (e_inT false (e_var (sl := (rInt.at x1.1)) rfl ⟨_, rfl, fun _ => (e_var (sl := ((rTup rInt).at v_group)) rfl ⟨_, rfl, ⟨_, rfl, ⟨_, rfl, rfl, rfl⟩⟩⟩)⟩))⟩⟩)))⟩)))
  exact Rt.drop hrt .slnil
def m_all_tests (v_code : (List Int)) (v_bits : Int) (v_group : (List Int)) : Option (List (Int × Int)) :=
  bind (m_numbers_of v_code v_group) fun r1 =>
  bind (m_least_test r1 v_bits) fun r2 =>
  bind (oShl (1 : Int) v_bits) fun t3 =>
  bind (oRange 0 t3) fun t4 =>
  genO (fun (x5 : Int) => (((bif (decide ((Builtin.bitAnd x5 r2.1) = x5)) then ((bind (m_Test_init x5 (Builtin.bitAnd r2.2 x5)) fun r6 => (bind (m_tells_by v_code v_group r6) fun r7 => (bif r7 then (pure [r6]) else (pure ([] : List (Int × Int))))))) else (pure ([] : List (Int × Int))))) : Option (List (Int × Int)))) t4
abbrev sp_all_tests (K : PySem.W.Frag) (Z : Ads) : List V → Hp → List (Int × Int) → Prop := fun vs G ys => ∃ i : (List Int) × Int × (List Int), Args G [(rTup rInt).at i.1, rInt.at i.2.1, (rTup rInt).at i.2.2] vs ∧ m_all_tests i.1 i.2.1 i.2.2 = some ys
abbrev N_all_tests : List Str := ["code", "bits", "group", "widest", "mask", "test"]
theorem sc_all_tests : PlainScope N_all_tests ["code", "bits", "group"] (defScope s_all_tests) := ⟨⟨rfl, rfl, rfl, by decide +kernel, rfl, by decide +kernel, by decide +kernel⟩, by decide +kernel⟩
theorem ok_all_tests {P : Program} {w : World} {K : PySem.W.Frag} {Z : Ads} {mg : Str → Option Value} {base : Heap} (X : Tx K mg Z) (G_Test_init : FnG P w K mg base CX0 2 X.f_Test_init X.d_Test_init ["self", "mask", "value"] (sp_Test_init K Z)) (G_least_test : FnG P w K mg base CX0 4 X.f_least_test X.d_least_test ["numbers", "bits"] (sp_least_test K Z)) (G_numbers_of : FnG P w K mg base CX0 1 X.f_numbers_of X.d_numbers_of ["code", "group"] (sp_numbers_of K Z)) (G_tells_by : FnG P w K mg base CX0 2 X.f_tells_by X.d_tells_by ["code", "group", "test"] (sp_tells_by K Z)) : GenFn P w K mg base 4 X.f_all_tests X.d_all_tests ["code", "bits", "group"] (rT_Test Z) (sp_all_tests K Z) := by
  refine okGen X.F_all_tests sc_all_tests (fun vs G ys ⟨i, ar, _⟩ => ar.length.symm) (fun Xc pins L A Wt cdv vs G0 ys e1 e2 e3 e4 e5 hsp hr Zp => ?_)
  subst e1 e2 e3 e4 e5
  obtain ⟨⟨v_code, v_bits, v_group⟩, ar, h⟩ := hsp
  refine ⟨_, slots_start ar (Nat.le_of_ble_eq_true rfl), fun K1 J1 c1 hgc hk => ?_⟩
  change m_all_tests v_code v_bits v_group = some ys at h
  unfold m_all_tests at h
  clear ar
  change Gg _ _ _ [some ((rTup rInt).at v_code), some (rInt.at v_bits), some ((rTup rInt).at v_group), none, none, none] _ _ _ _ _ _
  replace h := bindE h
  obtain ⟨r1, hr1, h⟩ := h
  replace h := bindE h
  obtain ⟨r2, hr2, h⟩ := h
  refine gg_cons (gg_plain (t := (tAsg (tCall (sp_least_test Xc.K Z) [] E0 (tCons (tCall (sp_numbers_of Xc.K Z) [] E0 (tCons (tVar 0) (tCons (tVar 2) tNil))) (tCons (tVar 1) tNil))) (gName 3))) (Gm' := [some ((rTup rInt).at v_code), some (rInt.at v_bits), some ((rTup rInt).at v_group), some ((rT_Test Z).at r2), none, none]) (cs' := []) hgc (fun _ _ _ => (ps_set (i := 3) sc_all_tests.nd rfl (Or.inl rfl) (pe_callG (G_least_test) (hr.mono (by decide)) (by rfl) X.g_least_test X.F_least_test.kp X.b_least_test .nil pass0 (pa_cons (pe_callG (G_numbers_of) (hr.mono (by decide)) (by rfl) X.g_numbers_of X.F_numbers_of.kp X.b_numbers_of .nil pass0 (pa_cons (pv 0) (pa_cons (pv 2) pa_nil))) (pa_cons (pv 1) pa_nil))))) (fun W => ?_) ?_)
  · refine (s_set (e_call (ea_cons (e_call (ea_cons (e_var (sl := ((rTup rInt).at v_code)) rfl fun _ => (ea_cons (e_var (sl := ((rTup rInt).at v_group)) rfl fun _ => (ea_nil ⟨(v_code, v_group), r1, [], hr1, rfl, rfl, fun _ => (ea_cons (e_var (sl := (rInt.at v_bits)) rfl fun _ => (ea_nil ⟨(r1, v_bits), r2, [], hr2, rfl, rfl, ?_⟩)))⟩)))))))))
    change NxT _ _ [some ((rTup rInt).at v_code), some (rInt.at v_bits), some ((rTup rInt).at v_group), some ((rT_Test Z).at r2), none, none] _ []
    exact fun _ _ z => z
  replace h := bindE h
  obtain ⟨t3, ht3, h⟩ := h
  replace h := bindE h
  obtain ⟨t4, ht4, h⟩ := h
  refine gg_cons (gg_rangeO (ta := (tCons (tOp rdShl (tC (.int 1)) (tVar 1)) tNil)) (i := 4) (NN := t3) (xs := t4) (f := (fun (x5 : Int) => (((bif (decide ((Builtin.bitAnd x5 r2.1) = x5)) then ((bind (m_Test_init x5 (Builtin.bitAnd r2.2 x5)) fun r6 => (bind (m_tells_by v_code v_group r6) fun r7 => (bif r7 then (pure [r6]) else (pure ([] : List (Int × Int))))))) else (pure ([] : List (Int × Int))))) : Option (List (Int × Int))))) (GL := [some ((rTup rInt).at v_code), some (rInt.at v_bits), some ((rTup rInt).at v_group), some ((rT_Test Z).at r2), none, none]) Zp hgc (fun _ _ => (pi_range1 (by rfl) X.z_range (pa_cons (pe_op op_shlW pe_int (pv 1)) pa_nil))) (fun _ _ => (pg_name (i := 4) sc_all_tests.nd rfl (Or.inl rfl))) (fun W => (ea_cons (e_opO oShl_ok (e_int ⟨_, rfl, (e_var (sl := (rInt.at v_bits)) rfl ⟨_, _, rfl, ht3, fun _ => (ea_nil ⟨rfl, rfl⟩)⟩)⟩)))) ht4 h (by exact (And.intro rfl (And.intro rfl (And.intro rfl (And.intro rfl True.intro))))) ?_ ?_)
  · clear h hk
    intro x5 zs k h hzs ipb c1 fs1 K1 J1 hgc hk1
    change Gg _ _ _ [some ((rTup rInt).at v_code), some (rInt.at v_bits), some ((rTup rInt).at v_group), some ((rT_Test Z).at r2), some (rInt.at x5), none] _ _ _ _ _ _
    refine gg_cons (gg_if (tc := (tTest (tOp rEq (tOp rdAnd (tVar 4) (tFld Xc.K (tVar 3) "mask")) (tVar 4)))) (b0 := (decide ((Builtin.bitAnd x5 r2.1) = x5))) (cs' := []) hgc (fun _ _ _ => (pt_cmpR op_eq (pe_op op_and (pv 4) (pe_fld (pv 3) rfl)) (pv 4) (nomark _))) (fun W => (t_test (e_eqI (e_opI0 (g := Builtin.bitAnd) (e_var (sl := (rInt.at x5)) rfl ⟨_, rfl, (e_fld (fl := fl_Test Z) 0 X.cl_Test X.na_Test_mask (nd_Test Z) (e_var (sl := ((rT_Test Z).at r2)) rfl ⟨_, _, rfl, rfl, ⟨_, rfl, ⟨_, rfl, (e_var (sl := (rInt.at x5)) rfl ⟨_, rfl, ⟨_, rfl, ⟨rfl, rfl⟩⟩⟩)⟩⟩⟩))⟩))))) (fun hc => ?_) (fun hc => ?_))
    · replace h := condT hc h
      replace h := bindE h
      obtain ⟨r6, hr6, h⟩ := h
      refine gg_cons (gg_plain (t := (tAsg (tMake Z.C_Test (sp_Test_init Xc.K Z) [] E0 (tCons (tVar 4) (tCons (tOp rdAnd (tFld Xc.K (tVar 3) "value") (tVar 4)) tNil))) (gName 5))) (Gm' := [some ((rTup rInt).at v_code), some (rInt.at v_bits), some ((rTup rInt).at v_group), some ((rT_Test Z).at r2), some (rInt.at x5), some ((rT_Test Z).at r6)]) (cs' := []) hgc (fun _ _ _ => (ps_set (i := 5) sc_all_tests.nd rfl (Or.inl rfl) (pe_makeG X.mk_Test G_Test_init (hr.mono (by decide)) (by rfl) X.gc_Test X.b_Test_init .nil pass0 (pa_cons (pv 4) (pa_cons (pe_op op_and (pe_fld (pv 3) rfl) (pv 4)) pa_nil))))) (fun W => ?_) ?_)
      · refine (s_set (e_makeF (ι := (Int × Int)) (β := (Int × Int)) (C := Z.C_Test) (E := E0) (fl := fl_Test Z) (A := fun p i => [sRef p, rInt.at i.1, rInt.at i.2]) (m := fun i => m_Test_init i.1 i.2) (ea_cons (e_var (sl := (rInt.at x5)) rfl fun _ => (ea_cons (e_opI0 (g := Builtin.bitAnd) (e_fld (fl := fl_Test Z) 1 X.cl_Test X.na_Test_value (nd_Test Z) (e_var (sl := ((rT_Test Z).at r2)) rfl ⟨_, _, rfl, rfl, ⟨_, rfl, (e_var (sl := (rInt.at x5)) rfl ⟨_, rfl, fun _ => (ea_nil ⟨(x5, (Builtin.bitAnd r2.2 x5)), _, hr6, fun _ => rfl, ?_⟩)⟩)⟩⟩))))))))
        change NxT _ _ [some ((rTup rInt).at v_code), some (rInt.at v_bits), some ((rTup rInt).at v_group), some ((rT_Test Z).at r2), some (rInt.at x5), some ((rT_Test Z).at r6)] _ []
        exact fun _ _ z => z
      replace h := bindE h
      obtain ⟨r7, hr7, h⟩ := h
      refine gg_cons (gg_if (tc := (tB (tCall (sp_tells_by Xc.K Z) [] E0 (tCons (tVar 0) (tCons (tVar 2) (tCons (tVar 5) tNil)))))) (b0 := r7) (cs' := []) hgc (fun _ _ _ => (pt_val (pe_callG (G_tells_by) (hr.mono (by decide)) (by rfl) X.g_tells_by X.F_tells_by.kp X.b_tells_by .nil pass0 (pa_cons (pv 0) (pa_cons (pv 2) (pa_cons (pv 5) pa_nil)))))) (fun W => (t_val (e_call (ea_cons (e_var (sl := ((rTup rInt).at v_code)) rfl fun _ => (ea_cons (e_var (sl := ((rTup rInt).at v_group)) rfl fun _ => (ea_cons (e_var (sl := ((rT_Test Z).at r6)) rfl fun _ => (ea_nil ⟨(v_code, v_group, r6), r7, [], hr7, rfl, rfl, ⟨_, rfl, ⟨rfl, rfl⟩⟩⟩)))))))))) (fun hc => ?_) (fun hc => ?_))
      · replace h := condT hc h
        replace h := pureE h
        subst h
        refine gg_cons (gg_yield (te := (tVar 5)) (y := r6) Zp hgc (fun _ _ _ => (pv 5)) (fun W => (e_var (sl := ((rT_Test Z).at r6)) rfl ⟨rfl, rfl⟩)) (hzs 0 _ rfl) (lr_Test Z) (LeanG.some (LeanS.tup fun _ => LeanS.int) (LeanG.some LeanS.int (LeanG.some (LeanS.tup fun _ => LeanS.int) (LeanG.some (lr_Test Z _) (LeanG.some LeanS.int (LeanG.some (lr_Test Z _) LeanG.nil)))))) ?_)
        repeat refine gg_nil ?_
        exact gg_weak (by exact (And.intro rfl (And.intro rfl (And.intro rfl (And.intro rfl True.intro))))) hk1
      · replace h := condF hc h
        replace h := pureE h
        subst h
        repeat refine gg_nil ?_
        exact gg_weak (by exact (And.intro rfl (And.intro rfl (And.intro rfl (And.intro rfl True.intro))))) hk1
    · replace h := condF hc h
      replace h := pureE h
      subst h
      repeat refine gg_nil ?_
      exact gg_weak (by exact (And.intro rfl (And.intro rfl (And.intro rfl (And.intro rfl True.intro))))) hk1
  · intro ex
    refine gg_nil ?_
    exact hk _ _ _ _ _
def m_l_cup (v_script : (List Int)) (v_k : Int) : Option Cup :=
  bind (((bif (decide (v_k < (v_script.length : Int))) then ((bind (atI v_script v_k) fun t1 => pure t1)) else ((bind (oMul (41 : Int) v_k) fun t2 => pure (t2 + (12 : Int))))) : Option Int)) fun t3 =>
  bind (oPow (10 : Int) (60 : Int)) fun t6 =>
  bind (oPow t6 (4 : Int)) fun t7 =>
  bind (oMod (t3.natAbs : Int) t7) fun t8 =>
  bind (oPow (10 : Int) (18 : Int)) fun t9 =>
  bind (oMul t8 (if (decide (t9 ≤ (t3.natAbs : Int))) then (1 : Int) else 0)) fun t10 =>
  bind (oMod t3 (2305843009213693951 : Int)) fun t11 =>
  bind (oMul t11 (59333 : Int)) fun t12 =>
  bind (oMul (6689 : Int) v_k) fun t13 =>
  bind (oMul t13 v_k) fun t14 =>
  bind (oMod ((t12 + t14) + (61 : Int)) (2305843009213693921 : Int)) fun t15 =>
  pure (t10, t15, (0 : Int))
abbrev sp_l_cup (K : PySem.W.Frag) (Z : Ads) : Sp := spC (ι := (List Int) × Int) (β := Cup) (fun i => [(rScr K).at i.1, rInt.at i.2]) (fun i => []) (fun i => m_l_cup i.1 i.2) (fun b => cCup b) (fun i b => [])
abbrev N_l_cup : List Str := ["_law_script", "_law_k", "_law_cell", "_law_own"]
theorem sc_l_cup : FnScope N_l_cup ["_law_script", "_law_k"] (defScope s_l_cup) := ⟨rfl, rfl, rfl, by decide +kernel, rfl, by decide +kernel, by decide +kernel⟩
theorem ok_l_cup {P : Program} {w : World} {K : PySem.W.Frag} {Z : Ads} {mg : Str → Option Value} {base : Heap} (X : Tx K mg Z) : FnG P w K mg base CX0 1 X.f_l_cup X.d_l_cup ["_law_script", "_law_k"] (sp_l_cup K Z) := by
  refine okG X.F_l_cup sc_l_cup (fun vs H Q E h => spC_len h fun _ => rfl) (fun cdv A outer s H vs Q E hr h => ?_)
  refine ⟨(tSeq (tAsg (tIf (tTest (tOp rdLt (tVar 1) (tCB (rdLen K) (tCons (tVar 0) tNil)))) (tOp (rIxL K) (tVar 0) (tVar 1)) (tOp rdAdd (tOp rdMul (tC (.int 41)) (tVar 1)) (tC (.int 12)))) (gName 2)) (tSeq (tAsg (tOp rdMul (tOp rdMod (tCB rdAbs (tCons (tVar 2) tNil)) (tOp rdPow (tOp rdPow (tC (.int 10)) (tC (.int 60))) (tC (.int 4)))) (tCB rdInt1 (tCons (tOp rdGe (tCB rdAbs (tCons (tVar 2) tNil)) (tOp rdPow (tC (.int 10)) (tC (.int 18)))) tNil))) (gName 3)) (tRet (tLst (tCons (tVar 3) (tCons (tOp rdMod (tOp rdAdd (tOp rdAdd (tOp rdMul (tOp rdMod (tVar 2) (tC (.int 2305843009213693951))) (tC (.int 59333))) (tOp rdMul (tOp rdMul (tC (.int 6689)) (tVar 1)) (tVar 1))) (tC (.int 61))) (tC (.int 2305843009213693921))) (tCons (tC (.int 0)) tNil))))))), (pss_cons (ps_set (i := 2) sc_l_cup.nd rfl (Or.inl rfl) (pe_ifExp (pt_cmpR op_lt (pv 1) (pe_callB call_len_seq (by rfl) X.z_len bt_len (pa_cons (pv 0) pa_nil)) (nomark _)) (pe_ix ix_list (pv 0) (pv 1) (fun _ _ => rfl)) (pe_op op_add (pe_op op_mulX pe_int (pv 1)) pe_int))) (pss_cons (ps_set (i := 3) sc_l_cup.nd rfl (Or.inl rfl) (pe_op op_mulX (pe_op op_mod (pe_callB call_abs (by rfl) X.z_abs bt_abs (pa_cons (pv 2) pa_nil)) (pe_op op_powW (pe_op op_powW pe_int pe_int) pe_int)) (pe_callTy call_int1 (by rfl) X.z_int bt_int (pa_cons (pe_cmpR op_ge (pe_callB call_abs (by rfl) X.z_abs bt_abs (pa_cons (pv 2) pa_nil)) (pe_op op_powW pe_int pe_int) (nomark _)) pa_nil)))) (pss_one (ps_ret (pe_lst (pa_cons (pv 3) (pa_cons (pe_op op_mod (pe_op op_add (pe_op op_add (pe_op op_mulX (pe_op op_mod (pv 2) pe_int) pe_int) (pe_op op_mulX (pe_op op_mulX pe_int (pv 1)) (pv 1))) pe_int) pe_int) (pa_cons pe_int pa_nil)))))))), ?_⟩
  obtain ⟨⟨v_script, v_k⟩, r, W, h, hcore, har, hrt⟩ := h
  refine body hcore har (Nat.le_of_ble_eq_true rfl) ?_
  clear hcore har
  change m_l_cup v_script v_k = some r at h
  unfold m_l_cup at h
  change NxT _ _ [some ((rScr K).at v_script), some (rInt.at v_k), none, none] _ []
  replace h := bindE h
  obtain ⟨t3, ht3, h⟩ := h
  refine s_seq (s_set (e_if (c := (decide (v_k < (v_script.length : Int)))) (sl := rInt.at t3) (cs' := []) (t_test (e_opB0 (g := fun i j => decide (i < j)) (e_var (sl := (rInt.at v_k)) rfl ⟨_, rfl, (e_lenS (ea_cons (e_var (sl := ((rScr K).at v_script)) rfl fun _ => (ea_nil ⟨_, rfl, ⟨_, rfl, ⟨_, rfl, ⟨rfl, ?b4, ?b5⟩⟩⟩⟩))))⟩))) ?_))
  case b4 =>
    intro hc
    have h := condT hc ht3
    replace h := bindE h
    obtain ⟨t1, ht1, h⟩ := h
    replace h := pureE h
    subst h
    refine (e_ixS (e_var (sl := ((rScr K).at v_script)) rfl fun _ => (e_var (sl := (rInt.at v_k)) rfl ⟨_, _, _, rfl, rfl, ht1, ⟨rfl, rfl⟩⟩)))
  case b5 =>
    intro hc
    have h := condF hc ht3
    replace h := bindE h
    obtain ⟨t2, ht2, h⟩ := h
    replace h := pureE h
    subst h
    refine (e_opI0 (g := fun i j => i + j) (e_opO oMul_ok (e_int ⟨_, rfl, (e_var (sl := (rInt.at v_k)) rfl ⟨_, _, rfl, ht2, ⟨_, rfl, (e_int ⟨_, rfl, ⟨rfl, rfl⟩⟩)⟩⟩)⟩)))
  change NxT _ _ [some ((rScr K).at v_script), some (rInt.at v_k), some (rInt.at t3), none] _ []
  replace h := bindE h
  obtain ⟨t6, ht6, h⟩ := h
  replace h := bindE h
  obtain ⟨t7, ht7, h⟩ := h
  replace h := bindE h
  obtain ⟨t8, ht8, h⟩ := h
  replace h := bindE h
  obtain ⟨t9, ht9, h⟩ := h
  replace h := bindE h
  obtain ⟨t10, ht10, h⟩ := h
  refine s_seq (s_set (e_opO oMul_ok (e_opO oMod_ok (e_abs (ea_cons (e_var (sl := (rInt.at t3)) rfl fun _ => (ea_nil ⟨_, rfl, ⟨_, rfl, (e_opO oPow_ok (e_opO oPow_ok (e_int ⟨_, rfl, (e_int ⟨_, _, rfl, ht6, ⟨_, rfl, (e_int ⟨_, _, rfl, ht7, ⟨_, _, rfl, ht8, ⟨_, rfl, (e_intB (ea_cons (e_opB0 (g := fun i j => decide (j ≤ i)) (e_abs (ea_cons (e_var (sl := (rInt.at t3)) rfl fun _ => (ea_nil ⟨_, rfl, ⟨_, rfl, (e_opO oPow_ok (e_int ⟨_, rfl, (e_int ⟨_, _, rfl, ht9, ⟨_, rfl, fun _ => (ea_nil ⟨_, rfl, ⟨_, _, rfl, ht10, ?_⟩⟩)⟩⟩)⟩))⟩⟩)))))))⟩⟩⟩)⟩⟩)⟩)))⟩⟩)))))))
  change NxT _ _ [some ((rScr K).at v_script), some (rInt.at v_k), some (rInt.at t3), some (rInt.at t10)] _ []
  replace h := bindE h
  obtain ⟨t11, ht11, h⟩ := h
  replace h := bindE h
  obtain ⟨t12, ht12, h⟩ := h
  replace h := bindE h
  obtain ⟨t13, ht13, h⟩ := h
  replace h := bindE h
  obtain ⟨t14, ht14, h⟩ := h
  replace h := bindE h
  obtain ⟨t15, ht15, h⟩ := h
  replace h := pureE h
  subst h
  refine s_ret (e_lstC (ea_cons (e_var (sl := (rInt.at t10)) rfl fun _ => (ea_cons (e_opO oMod_ok (e_opI0 (g := fun i j => i + j) (e_opI0 (g := fun i j => i + j) (e_opO oMul_ok (e_opO oMod_ok (e_var (sl := (rInt.at t3)) rfl ⟨_, rfl, (e_int ⟨_, _, rfl, ht11, ⟨_, rfl, (e_int ⟨_, _, rfl, ht12, ⟨_, rfl, (e_opO oMul_ok (e_opO oMul_ok (e_int ⟨_, rfl, (e_var (sl := (rInt.at v_k)) rfl ⟨_, _, rfl, ht13, ⟨_, rfl, (e_var (sl := (rInt.at v_k)) rfl ⟨_, _, rfl, ht14, ⟨_, rfl, ⟨_, rfl, (e_int ⟨_, rfl, ⟨_, rfl, (e_int ⟨_, _, rfl, ht15, fun _ => (ea_cons (e_int fun _ => (ea_nil ⟨_, rInt, ([t10, t15, (0 : Int)] : List Int), rfl, Nat.le_of_ble_eq_true rfl, fun pr => ?_⟩)))⟩)⟩⟩)⟩⟩⟩)⟩⟩)⟩)))⟩⟩)⟩⟩)⟩))))))))))
  exact hrt pr
def m_l_dip (k : Cup) (v_many : Int) : Option (Int × Cup) :=
  bind (atI [k.1, k.2.1, k.2.2] (0 : Int)) fun t1 =>
  (bif (decide ((0 : Int) < t1)) then ((bind (atI [k.1, k.2.1, k.2.2] (0 : Int)) fun t2 => (bind (oMod t2 v_many) fun t3 => (bind (atI [k.1, k.2.1, k.2.2] (0 : Int)) fun t4 => (bind (oDiv t4 v_many) fun t5 => pure (t3, (t5, k.2.1, k.2.2))))))) else ((bind (atI [k.1, k.2.1, k.2.2] (2 : Int)) fun t6 => (bind (atI [(k.1, k.2.1, (t6 + (1 : Int))).1, (k.1, k.2.1, (t6 + (1 : Int))).2.1, (k.1, k.2.1, (t6 + (1 : Int))).2.2] (2 : Int)) fun t7 => (bind (oMod t7 (5 : Int)) fun t8 => (bind (atI ([(2147483647 : Int), (2147483629 : Int), (2147483587 : Int), (2147483579 : Int), (2147483563 : Int)] : List Int) t8) fun t9 => (bind (atI [(k.1, k.2.1, (t6 + (1 : Int))).1, (k.1, k.2.1, (t6 + (1 : Int))).2.1, (k.1, k.2.1, (t6 + (1 : Int))).2.2] (1 : Int)) fun t10 => (bind (atI [(k.1, k.2.1, (t6 + (1 : Int))).1, (k.1, k.2.1, (t6 + (1 : Int))).2.1, (k.1, k.2.1, (t6 + (1 : Int))).2.2] (2 : Int)) fun t11 => (bind (oMul (77003 : Int) t11) fun t12 => (bind (atI [(k.1, k.2.1, (t6 + (1 : Int))).1, (k.1, k.2.1, (t6 + (1 : Int))).2.1, (k.1, k.2.1, (t6 + (1 : Int))).2.2] (2 : Int)) fun t13 => (bind (oMul t12 t13) fun t14 => (bind (oPow ((t10 + t14) + (47 : Int)) (3 : Int)) fun t15 => (bind (oMod t15 t9) fun t16 => (bind (oMod t16 (10037 : Int)) fun t17 => (bind (atI [(k.1, k.2.1, (t6 + (1 : Int))).1, (k.1, k.2.1, (t6 + (1 : Int))).2.1, (k.1, k.2.1, (t6 + (1 : Int))).2.2] (2 : Int)) fun t18 => (bind (oMul (71 : Int) t18) fun t19 => (bind (oMul t16 (t17 + t19)) fun t20 => (bind (oMod t20 (2305843009213693907 : Int)) fun t21 => (bind (oDiv t21 (101 : Int)) fun t22 => (bind (oMod t22 v_many) fun t23 => pure (t23, (k.1, k.2.1, (t6 + (1 : Int))))))))))))))))))))))))
abbrev sp_l_dip (K : PySem.W.Frag) (Z : Ads) : Sp := spM (ι := Addr × Cup × Int) (β := (Int × Cup)) (fun i => [sRef i.1, rInt.at i.2.2]) (fun i => [(i.1, cCup i.2.1)]) (fun i => m_l_dip i.2.1 i.2.2) (fun i b => rInt.at b.1) (fun i b => [(i.1, cCup b.2)])
abbrev N_l_dip : List Str := ["_law_cup_here", "_law_many", "_law_digit", "_law_prime", "_law_mixed"]
theorem sc_l_dip : FnScope N_l_dip ["_law_cup_here", "_law_many"] (defScope s_l_dip) := ⟨rfl, rfl, rfl, by decide +kernel, rfl, by decide +kernel, by decide +kernel⟩
theorem ok_l_dip {P : Program} {w : World} {K : PySem.W.Frag} {Z : Ads} {mg : Str → Option Value} {base : Heap} (X : Tx K mg Z) : FnG P w K mg base CX0 1 X.f_l_dip X.d_l_dip ["_law_cup_here", "_law_many"] (sp_l_dip K Z) := by
  refine okG X.F_l_dip sc_l_dip (fun vs H Q E h => spM_len h fun _ => rfl) (fun cdv A outer s H vs Q E hr h => ?_)
  refine ⟨(tSeq (tIfS (tTest (tOp rdGt (tOp (rIxL K) (tVar 0) (tC (.int 0))) (tC (.int 0)))) (tSeq (tAsg (tOp rdMod (tOp (rIxL K) (tVar 0) (tC (.int 0))) (tVar 1)) (gName 2)) (tSeq (tAsg (tOp rdDiv (tOp (rIxL K) (tVar 0) (tC (.int 0))) (tVar 1)) (gSub (tVar 0) (tC (.int 0)) rSetL)) (tRet (tVar 2)))) tNext) (tSeq (tAsg (tOp rdAdd (tOp (rIxL K) (tVar 0) (tC (.int 2))) (tC (.int 1))) (gSub (tVar 0) (tC (.int 2)) rSetL)) (tSeq (tAsg (tOp (rIxL K) (tLst (tCons (tC (.int 2147483647)) (tCons (tC (.int 2147483629)) (tCons (tC (.int 2147483587)) (tCons (tC (.int 2147483579)) (tCons (tC (.int 2147483563)) tNil)))))) (tOp rdMod (tOp (rIxL K) (tVar 0) (tC (.int 2))) (tC (.int 5)))) (gName 3)) (tSeq (tAsg (tOp rdMod (tOp rdPow (tOp rdAdd (tOp rdAdd (tOp (rIxL K) (tVar 0) (tC (.int 1))) (tOp rdMul (tOp rdMul (tC (.int 77003)) (tOp (rIxL K) (tVar 0) (tC (.int 2)))) (tOp (rIxL K) (tVar 0) (tC (.int 2))))) (tC (.int 47))) (tC (.int 3))) (tVar 3)) (gName 4)) (tRet (tOp rdMod (tOp rdDiv (tOp rdMod (tOp rdMul (tVar 4) (tOp rdAdd (tOp rdMod (tVar 4) (tC (.int 10037))) (tOp rdMul (tC (.int 71)) (tOp (rIxL K) (tVar 0) (tC (.int 2)))))) (tC (.int 2305843009213693907))) (tC (.int 101))) (tVar 1))))))), (pss_cons (ps_if (pt_cmpR op_gt (pe_ix ix_list (pv 0) pe_int (fun _ _ => rfl)) pe_int (nomark _)) (pss_cons (ps_set (i := 2) sc_l_dip.nd rfl (Or.inl rfl) (pe_op op_mod (pe_ix ix_list (pv 0) pe_int (fun _ _ => rfl)) (pv 1))) (pss_cons (ps_asg (pe_op op_fdivW (pe_ix ix_list (pv 0) pe_int (fun _ _ => rfl)) (pv 1)) (pg_sub (pv 0) pe_int set_list)) (pss_one (ps_ret (pv 2))))) pss_nil) (pss_cons (ps_asg (pe_op op_add (pe_ix ix_list (pv 0) pe_int (fun _ _ => rfl)) pe_int) (pg_sub (pv 0) pe_int set_list)) (pss_cons (ps_set (i := 3) sc_l_dip.nd rfl (Or.inl rfl) (pe_ix ix_list (pe_lst (pa_cons pe_int (pa_cons pe_int (pa_cons pe_int (pa_cons pe_int (pa_cons pe_int pa_nil)))))) (pe_op op_mod (pe_ix ix_list (pv 0) pe_int (fun _ _ => rfl)) pe_int) (fun _ _ => rfl))) (pss_cons (ps_set (i := 4) sc_l_dip.nd rfl (Or.inl rfl) (pe_op op_mod (pe_op op_powW (pe_op op_add (pe_op op_add (pe_ix ix_list (pv 0) pe_int (fun _ _ => rfl)) (pe_op op_mulX (pe_op op_mulX pe_int (pe_ix ix_list (pv 0) pe_int (fun _ _ => rfl))) (pe_ix ix_list (pv 0) pe_int (fun _ _ => rfl)))) pe_int) pe_int) (pv 3))) (pss_one (ps_ret (pe_op op_mod (pe_op op_fdivW (pe_op op_mod (pe_op op_mulX (pv 4) (pe_op op_add (pe_op op_mod (pv 4) pe_int) (pe_op op_mulX pe_int (pe_ix ix_list (pv 0) pe_int (fun _ _ => rfl))))) pe_int) pe_int) (pv 1)))))))), ?_⟩
  obtain ⟨⟨c, k, v_many⟩, r, W, h, hcore, har, hrt⟩ := h
  refine body hcore har (Nat.le_of_ble_eq_true rfl) ?_
  clear hcore har
  change m_l_dip k v_many = some r at h
  unfold m_l_dip at h
  change NxT _ _ [some (sRef c), some (rInt.at v_many), none, none, none] _ [(c, cCup k)]
  replace h := bindE h
  obtain ⟨t1, ht1, h⟩ := h
  refine s_seq (s_if (t_test (e_opB0 (g := fun i j => decide (j < i)) (e_ixC 0 (e_var (sl := (sRef c)) rfl fun _ => (e_int ⟨_, _, rInt, _, _, _, rfl, rfl, rfl, ht1, ⟨_, rfl, (e_int ⟨_, rfl, ⟨_, rfl, ⟨fun hc => ?_, fun hc => ?_⟩⟩⟩)⟩⟩))))))
  · replace h := condT hc h
    replace h := bindE h
    obtain ⟨t2, ht2, h⟩ := h
    replace h := bindE h
    obtain ⟨t3, ht3, h⟩ := h
    refine s_seq (s_set (e_opO oMod_ok (e_ixC 0 (e_var (sl := (sRef c)) rfl fun _ => (e_int ⟨_, _, rInt, _, _, _, rfl, rfl, rfl, ht2, ⟨_, rfl, (e_var (sl := (rInt.at v_many)) rfl ⟨_, _, rfl, ht3, ?_⟩)⟩⟩)))))
    change NxT _ _ [some (sRef c), some (rInt.at v_many), some (rInt.at t3), none, none] _ [(c, cCup k)]
    replace h := bindE h
    obtain ⟨t4, ht4, h⟩ := h
    replace h := bindE h
    obtain ⟨t5, ht5, h⟩ := h
    refine s_seq (s_setitem 0 (e_opO oDiv_ok (e_ixC 0 (e_var (sl := (sRef c)) rfl fun _ => (e_int ⟨_, _, rInt, _, _, _, rfl, rfl, rfl, ht4, ⟨_, rfl, (e_var (sl := (rInt.at v_many)) rfl ⟨_, _, rfl, ht5, fun _ => (e_var (sl := (sRef c)) rfl fun _ => (e_int ⟨_, _, rInt, _, _, _, _, rfl, rfl, rfl, rfl, rfl, ?_⟩))⟩)⟩⟩)))))
    change NxT _ _ [some (sRef c), some (rInt.at v_many), some (rInt.at t3), none, none] _ [(c, cCup (t5, k.2.1, k.2.2))]
    replace h := pureE h
    subst h
    refine s_ret (e_var (sl := (rInt.at t3)) rfl ?_)
    exact Rt.drop hrt (.cons₂ _ .slnil)
  · replace h := condF hc h
    refine s_next ?_
    replace h := bindE h
    obtain ⟨t6, ht6, h⟩ := h
    refine s_seq (s_setitem 0 (e_opI0 (g := fun i j => i + j) (e_ixC 0 (e_var (sl := (sRef c)) rfl fun _ => (e_int ⟨_, _, rInt, _, _, _, rfl, rfl, rfl, ht6, ⟨_, rfl, (e_int ⟨_, rfl, fun _ => (e_var (sl := (sRef c)) rfl fun _ => (e_int ⟨_, _, rInt, _, _, _, _, rfl, rfl, rfl, rfl, rfl, ?_⟩))⟩)⟩⟩)))))
    change NxT _ _ [some (sRef c), some (rInt.at v_many), none, none, none] _ [(c, cCup (k.1, k.2.1, (t6 + (1 : Int))))]
    replace h := bindE h
    obtain ⟨t7, ht7, h⟩ := h
    replace h := bindE h
    obtain ⟨t8, ht8, h⟩ := h
    replace h := bindE h
    obtain ⟨t9, ht9, h⟩ := h
    refine s_seq (s_set (e_ixL (e_lst (ea_cons (e_int fun _ => (ea_cons (e_int fun _ => (ea_cons (e_int fun _ => (ea_cons (e_int fun _ => (ea_cons (e_int fun _ => (ea_nil ⟨_, rInt, ([(2147483647 : Int), (2147483629 : Int), (2147483587 : Int), (2147483579 : Int), (2147483563 : Int)] : List Int), rfl, Nat.le_of_ble_eq_true rfl, fun _ => (e_opO oMod_ok (e_ixC 0 (e_var (sl := (sRef c)) rfl fun _ => (e_int ⟨_, _, rInt, _, _, _, rfl, rfl, rfl, ht7, ⟨_, rfl, (e_int ⟨_, _, rfl, ht8, ⟨_, rInt, _, _, _, rfl, rfl, ht9, ?_⟩⟩)⟩⟩))))⟩))))))))))))))
    change NxT _ _ [some (sRef c), some (rInt.at v_many), none, some (rInt.at t9), none] _ [(c, cCup (k.1, k.2.1, (t6 + (1 : Int))))]
    replace h := bindE h
    obtain ⟨t10, ht10, h⟩ := h
    replace h := bindE h
    obtain ⟨t11, ht11, h⟩ := h
    replace h := bindE h
    obtain ⟨t12, ht12, h⟩ := h
    replace h := bindE h
    obtain ⟨t13, ht13, h⟩ := h
    replace h := bindE h
    obtain ⟨t14, ht14, h⟩ := h
    replace h := bindE h
    obtain ⟨t15, ht15, h⟩ := h
    replace h := bindE h
    obtain ⟨t16, ht16, h⟩ := h
    refine s_seq (s_set (e_opO oMod_ok (e_opO oPow_ok (e_opI0 (g := fun i j => i + j) (e_opI0 (g := fun i j => i + j) (e_ixC 0 (e_var (sl := (sRef c)) rfl fun _ => (e_int ⟨_, _, rInt, _, _, _, rfl, rfl, rfl, ht10, ⟨_, rfl, (e_opO oMul_ok (e_opO oMul_ok (e_int ⟨_, rfl, (e_ixC 0 (e_var (sl := (sRef c)) rfl fun _ => (e_int ⟨_, _, rInt, _, _, _, rfl, rfl, rfl, ht11, ⟨_, _, rfl, ht12, ⟨_, rfl, (e_ixC 0 (e_var (sl := (sRef c)) rfl fun _ => (e_int ⟨_, _, rInt, _, _, _, rfl, rfl, rfl, ht13, ⟨_, _, rfl, ht14, ⟨_, rfl, ⟨_, rfl, (e_int ⟨_, rfl, ⟨_, rfl, (e_int ⟨_, _, rfl, ht15, ⟨_, rfl, (e_var (sl := (rInt.at t9)) rfl ⟨_, _, rfl, ht16, ?_⟩)⟩⟩)⟩⟩)⟩⟩⟩⟩)))⟩⟩⟩)))⟩)))⟩⟩))))))))
    change NxT _ _ [some (sRef c), some (rInt.at v_many), none, some (rInt.at t9), some (rInt.at t16)] _ [(c, cCup (k.1, k.2.1, (t6 + (1 : Int))))]
    replace h := bindE h
    obtain ⟨t17, ht17, h⟩ := h
    replace h := bindE h
    obtain ⟨t18, ht18, h⟩ := h
    replace h := bindE h
    obtain ⟨t19, ht19, h⟩ := h
    replace h := bindE h
    obtain ⟨t20, ht20, h⟩ := h
    replace h := bindE h
    obtain ⟨t21, ht21, h⟩ := h
    replace h := bindE h
    obtain ⟨t22, ht22, h⟩ := h
    replace h := bindE h
    obtain ⟨t23, ht23, h⟩ := h
    replace h := pureE h
    subst h
    refine s_ret (e_opO oMod_ok (e_opO oDiv_ok (e_opO oMod_ok (e_opO oMul_ok (e_var (sl := (rInt.at t16)) rfl ⟨_, rfl, (e_opI0 (g := fun i j => i + j) (e_opO oMod_ok (e_var (sl := (rInt.at t16)) rfl ⟨_, rfl, (e_int ⟨_, _, rfl, ht17, ⟨_, rfl, (e_opO oMul_ok (e_int ⟨_, rfl, (e_ixC 0 (e_var (sl := (sRef c)) rfl fun _ => (e_int ⟨_, _, rInt, _, _, _, rfl, rfl, rfl, ht18, ⟨_, _, rfl, ht19, ⟨_, rfl, ⟨_, _, rfl, ht20, ⟨_, rfl, (e_int ⟨_, _, rfl, ht21, ⟨_, rfl, (e_int ⟨_, _, rfl, ht22, ⟨_, rfl, (e_var (sl := (rInt.at v_many)) rfl ⟨_, _, rfl, ht23, ?_⟩)⟩⟩)⟩⟩)⟩⟩⟩⟩⟩)))⟩))⟩⟩)⟩)))⟩)))))
    exact Rt.drop hrt (.cons₂ _ .slnil)
def m_l_group (k : Cup) (v_count : Int) : Option ((List Int) × Cup) :=
  bind (oRange 0 v_count) fun t1 =>
  bind (lcO (fun (k3 : Cup) (x2 : Int) => (((bind (m_l_dip k3 (2 : Int)) fun r5 => (bif (decide (r5.1 = (0 : Int))) then (pure (some x2, r5.2)) else pure (none, r5.2)))) : Option (Option Int × Cup))) t1 k) fun t7 =>
  bind (((bif (!(decide (t7.1 = ([] : List Int)))) then (pure (t7.1, t7.2)) else ((bind (m_l_dip t7.2 v_count) fun r8 => pure (([r8.1] : List Int), r8.2)))) : Option ((List Int) × Cup))) fun t9 =>
  pure (t9.1, t9.2)
abbrev sp_l_group (K : PySem.W.Frag) (Z : Ads) : Sp := spM (ι := Addr × Cup × Int) (β := ((List Int) × Cup)) (fun i => [sRef i.1, rInt.at i.2.2]) (fun i => [(i.1, cCup i.2.1)]) (fun i => m_l_group i.2.1 i.2.2) (fun i b => (rTup rInt).at b.1) (fun i b => [(i.1, cCup b.2)])
abbrev N_l_group : List Str := ["_law_cup_here", "_law_count", "_law_found", "_law_kind"]
theorem sc_l_group : FnScope N_l_group ["_law_cup_here", "_law_count"] (defScope s_l_group) := ⟨rfl, rfl, rfl, by decide +kernel, rfl, by decide +kernel, by decide +kernel⟩
theorem ok_l_group {P : Program} {w : World} {K : PySem.W.Frag} {Z : Ads} {mg : Str → Option Value} {base : Heap} (X : Tx K mg Z) (G_l_dip : FnG P w K mg base CX0 1 X.f_l_dip X.d_l_dip ["_law_cup_here", "_law_many"] (sp_l_dip K Z)) : FnG P w K mg base CX0 2 X.f_l_group X.d_l_group ["_law_cup_here", "_law_count"] (sp_l_group K Z) := by
  refine okG X.F_l_group sc_l_group (fun vs H Q E h => spM_len h fun _ => rfl) (fun cdv A outer s H vs Q E hr h => ?_)
  refine ⟨(tSeq (tAsg (tLc (iRng1 (tCons (tVar 1) tNil)) (gName 3) (tTest (tOp rEq (tCall (sp_l_dip K Z) [] E0 (tCons (tVar 0) (tCons (tC (.int 2)) tNil))) (tC (.int 0)))) (tVar 3) [3]) (gName 2)) (tRet (tIf (tTest (tOp (rNeD K) (tVar 2) (tLst tNil))) (tCB (rdTupleOf K) (tCons (tVar 2) tNil)) (tTup (tCons (tCall (sp_l_dip K Z) [] E0 (tCons (tVar 0) (tCons (tVar 1) tNil))) tNil))))), (pss_cons (ps_setLc (i := 2) (own := [("_law_kind", 3)]) (g := (gName 3)) (tt := (tTest (tOp rEq (tCall (sp_l_dip K Z) [] E0 (tCons (tVar 0) (tCons (tC (.int 2)) tNil))) (tC (.int 0))))) (te := (tVar 3)) rfl sc_l_group.nd rfl rfl (sw_true rfl rfl rfl (by decide +kernel)) (pi_range1 (by rfl) X.z_range (pa_cons (pv 1) pa_nil)) (blkOk_by (N := N_l_group) (sc := (defScope s_l_group)) (by decide +kernel)) (fun _ _ _ _ _ => (pg_name (i := 3) sc_l_group.nd rfl (Or.inl rfl))) (fun _ _ _ _ _ => (pts_one (pt_cmpR op_eq (pe_callG (G_l_dip) (hr.mono (by decide)) (by rfl) X.g_l_dip X.F_l_dip.kp X.b_l_dip .nil pass0 (pa_cons (pv 0) (pa_cons pe_int pa_nil))) pe_int (nomark _)))) (fun _ _ _ _ _ => (pv 3))) (pss_one (ps_ret (pe_ifExp (pt_cmpR (op_neD hr.units) (pv 2) (pe_lst pa_nil) (nomark _)) (pe_callTy call_tuple_of (by rfl) X.z_tuple bt_tuple (pa_cons (pv 2) pa_nil)) (pe_tup (pa_cons (pe_callG (G_l_dip) (hr.mono (by decide)) (by rfl) X.g_l_dip X.F_l_dip.kp X.b_l_dip .nil pass0 (pa_cons (pv 0) (pa_cons (pv 1) pa_nil))) pa_nil)))))), ?_⟩
  obtain ⟨⟨c, k, v_count⟩, r, W, h, hcore, har, hrt⟩ := h
  refine body hcore har (Nat.le_of_ble_eq_true rfl) ?_
  clear hcore har
  change m_l_group k v_count = some r at h
  unfold m_l_group at h
  change NxT _ _ [some (sRef c), some (rInt.at v_count), none, none] _ [(c, cCup k)]
  replace h := bindE h
  obtain ⟨t1, ht1, h⟩ := h
  replace h := bindE h
  obtain ⟨t7, ht7, h⟩ := h
  refine s_seq (s_set (lc_sound (is := [3]) (by decide) (i_range1 (ea_cons (e_var (sl := (rInt.at v_count)) rfl fun _ => (ea_nil ⟨_, _, rfl, ht1, ⟨_, _, _, rInt, t1, k, _, t7.1, t7.2, rInt, fun k => [(c, cCup k)], rfl, ht7, rfl, ?b6, ?_⟩⟩))))))
  case b6 =>
    intro W1 T1 k3 x2 o u1 h
    refine g_name ?_
    replace h := bindE h
    obtain ⟨r5, hr5, h⟩ := h
    refine (t_test (e_eqI (e_call (ea_cons (e_var (sl := (sRef c)) rfl fun _ => (ea_cons (e_int fun _ => (ea_nil ⟨(c, k3, (2 : Int)), r5, [], hr5, rfl, rfl, ⟨_, rfl, (e_int ⟨_, rfl, ⟨_, rfl, ⟨fun hc => ?_, fun hc => ?_⟩⟩⟩)⟩⟩))))))))
    · replace h := condT hc h
      replace h := pureE h
      cases h
      refine (e_var (sl := (rInt.at x2)) rfl ⟨_, rfl, rfl, rfl⟩)
    · replace h := condF hc h
      replace h := pureE h
      cases h
      exact ⟨rfl, rfl⟩
  change NxT _ _ [some (sRef c), some (rInt.at v_count), some ((rLst rInt).at t7.1), none] _ [(c, cCup t7.2)]
  replace h := bindE h
  obtain ⟨t9, ht9, h⟩ := h
  replace h := pureE h
  subst h
  refine s_ret (e_if (c := (!(decide (t7.1 = ([] : List Int))))) (sl := (rTup rInt).at t9.1) (cs' := [(c, cCup t9.2)]) (t_test (e_neD (e_var (sl := ((rLst rInt).at t7.1)) rfl fun _ => (e_lst (ea_nil ⟨_, rInt, ([] : List Int), rfl, Nat.le_of_ble_eq_true rfl, ⟨_, inferInstance, _, (eLst eInt), _, _, by decide, rfl, rfl, ⟨_, rfl, ⟨rfl, ?b10, ?b11⟩⟩⟩⟩))))) ?_)
  case b10 =>
    intro hc
    have h := condT hc ht9
    replace h := pureE h
    subst h
    refine (e_tupL (ea_cons (e_var (sl := ((rLst rInt).at t7.1)) rfl fun _ => (ea_nil ⟨_, rInt, _, rfl, ⟨rfl, rfl⟩⟩))))
  case b11 =>
    intro hc
    have h := condF hc ht9
    replace h := bindE h
    obtain ⟨r8, hr8, h⟩ := h
    replace h := pureE h
    subst h
    refine (e_tup (ea_cons (e_call (ea_cons (e_var (sl := (sRef c)) rfl fun _ => (ea_cons (e_var (sl := (rInt.at v_count)) rfl fun _ => (ea_nil ⟨(c, t7.2, v_count), r8, [], hr8, rfl, rfl, fun _ => (ea_nil ⟨_, rInt, ([r8.1] : List Int), rfl, Nat.le_of_ble_eq_true rfl, ⟨rfl, rfl⟩⟩)⟩))))))))
  exact Rt.drop hrt (.cons₂ _ .slnil)
def m_l_numbers (k : Cup) (v_count : Int) (v_width : Int) : Option ((List Int) × Cup) :=
  bind (m_l_dip k (4 : Int)) fun r1 =>
  bind (oRange 0 v_count) fun t2 =>
  bind (foldO (fun (b4 : (Cup × (List Int))) (x3 : Int) => (((bind (oShl (1 : Int) v_width) fun t5 => (bind (m_l_dip b4.1 t5) fun r6 => (bind (((bif (decide (r1.1 = (0 : Int))) then ((bind (oShl (1 : Int) v_width) fun t10 => (bind (oMod x3 t10) fun t11 => pure (t11)))) else (pure (r6.1))) : Option (Int))) fun j9 => (bind (((bif ((decide (r1.1 = (1 : Int))) && (!(decide (b4.2 = ([] : List Int))))) then ((bind (atI b4.2 (-(1 : Int))) fun t18 => (bind (m_l_dip r6.2 (max (1 : Int) v_width)) fun r19 => (bind (oShl (1 : Int) r19.1) fun t20 => (bind (oShl (1 : Int) v_width) fun t21 => (bind (oMod (Builtin.bitXor t18 t20) t21) fun t22 => pure (t22, r19.2))))))) else (pure (j9, r6.2))) : Option (Int × Cup))) fun j17 => (bind (oApp b4.2 j17.1) fun l23 => pure (j17.2, l23))))))) : Option (Cup × (List Int)))) t2 (r1.2, ([] : List Int))) fun o24 =>
  pure (o24.2, o24.1)
abbrev sp_l_numbers (K : PySem.W.Frag) (Z : Ads) : Sp := spM (ι := Addr × Cup × Int × Int) (β := ((List Int) × Cup)) (fun i => [sRef i.1, rInt.at i.2.2.1, rInt.at i.2.2.2]) (fun i => [(i.1, cCup i.2.1)]) (fun i => m_l_numbers i.2.1 i.2.2.1 i.2.2.2) (fun i b => (rTup rInt).at b.1) (fun i b => [(i.1, cCup b.2)])
abbrev N_l_numbers : List Str := ["_law_cup_here", "_law_count", "_law_width", "_law_way", "_law_found", "_law_kind", "_law_number"]
theorem sc_l_numbers : FnScope N_l_numbers ["_law_cup_here", "_law_count", "_law_width"] (defScope s_l_numbers) := ⟨rfl, rfl, rfl, by decide +kernel, rfl, by decide +kernel, by decide +kernel⟩
theorem ok_l_numbers {P : Program} {w : World} {K : PySem.W.Frag} {Z : Ads} {mg : Str → Option Value} {base : Heap} (X : Tx K mg Z) (G_l_dip : FnG P w K mg base CX0 1 X.f_l_dip X.d_l_dip ["_law_cup_here", "_law_many"] (sp_l_dip K Z)) : FnG P w K mg base CX0 2 X.f_l_numbers X.d_l_numbers ["_law_cup_here", "_law_count", "_law_width"] (sp_l_numbers K Z) := by
  refine okG X.F_l_numbers sc_l_numbers (fun vs H Q E h => spM_len h fun _ => rfl) (fun cdv A outer s H vs Q E hr h => ?_)
  refine ⟨(tSeq (tPar 3 4 (tCons (tCall (sp_l_dip K Z) [] E0 (tCons (tVar 0) (tCons (tC (.int 4)) tNil))) (tCons (tLst tNil) tNil))) (tSeq (tFor (iRng1 (tCons (tVar 1) tNil)) (gName 5) (tSeq (tAsg (tCall (sp_l_dip K Z) [] E0 (tCons (tVar 0) (tCons (tOp rdShl (tC (.int 1)) (tVar 2)) tNil))) (gName 6)) (tSeq (tIfS (tTest (tOp rEq (tVar 3) (tC (.int 0)))) (tAsg (tOp rdMod (tVar 5) (tOp rdShl (tC (.int 1)) (tVar 2))) (gName 6)) tNext) (tSeq (tIfS (tAnd (tTest (tOp rEq (tVar 3) (tC (.int 1)))) (tTest (tOp (rNeD K) (tVar 4) (tLst tNil)))) (tAsg (tOp rdMod (tOp rdXor (tOp (rIxL K) (tVar 4) (tUn rdNeg (tC (.int 1)))) (tOp rdShl (tC (.int 1)) (tCall (sp_l_dip K Z) [] E0 (tCons (tVar 0) (tCons (tCB rdMax2 (tCons (tC (.int 1)) (tCons (tVar 2) tNil))) tNil))))) (tOp rdShl (tC (.int 1)) (tVar 2))) (gName 6)) tNext) (tDrop (tBM K "list" rAppend (tVar 4) (tCons (tVar 6) tNil))))))) (tRet (tCB (rdTupleOf K) (tCons (tVar 4) tNil))))), (pss_cons (ps_par rfl sc_l_numbers.nd rfl rfl (by decide) rfl rfl (pa_cons (pe_callG (G_l_dip) (hr.mono (by decide)) (by rfl) X.g_l_dip X.F_l_dip.kp X.b_l_dip .nil pass0 (pa_cons (pv 0) (pa_cons pe_int pa_nil))) (pa_cons (pe_lst pa_nil) pa_nil)) (by rfl)) (pss_cons (ps_for PassesOwn.never rfl (pi_range1 (by rfl) X.z_range (pa_cons (pv 1) pa_nil)) (pg_name (i := 5) sc_l_numbers.nd rfl (Or.inl rfl)) (pss_cons (ps_set (i := 6) sc_l_numbers.nd rfl (Or.inl rfl) (pe_callG (G_l_dip) (hr.mono (by decide)) (by rfl) X.g_l_dip X.F_l_dip.kp X.b_l_dip .nil pass0 (pa_cons (pv 0) (pa_cons (pe_op op_shlW pe_int (pv 2)) pa_nil)))) (pss_cons (ps_if (pt_cmpR op_eq (pv 3) pe_int (nomark _)) (pss_one (ps_set (i := 6) sc_l_numbers.nd rfl (Or.inl rfl) (pe_op op_mod (pv 5) (pe_op op_shlW pe_int (pv 2))))) pss_nil) (pss_cons (ps_if (PW.pt (pw_and (pt_cmpR op_eq (pv 3) pe_int (nomark _)) (pw_and1 (pt_cmpR (op_neD hr.units) (pv 4) (pe_lst pa_nil) (nomark _))))) (pss_one (ps_set (i := 6) sc_l_numbers.nd rfl (Or.inl rfl) (pe_op op_mod (pe_op op_xor (pe_ix ix_list (pv 4) (pe_un un_neg pe_int) (fun _ _ => rfl)) (pe_op op_shlW pe_int (pe_callG (G_l_dip) (hr.mono (by decide)) (by rfl) X.g_l_dip X.F_l_dip.kp X.b_l_dip .nil pass0 (pa_cons (pv 0) (pa_cons (pe_callB (call_max2 rfl) (by rfl) X.z_max bt_max (pa_cons pe_int (pa_cons (pv 2) pa_nil))) pa_nil))))) (pe_op op_shlW pe_int (pv 2))))) pss_nil) (pss_one (ps_expr (pe_bm PySem.F.plainAttrs_list PySem.F.slot_list_append PySem.F.type_list_append mt_append (pv 4) (pa_cons (pv 6) pa_nil)))))))) (pss_one (ps_ret (pe_callTy call_tuple_of (by rfl) X.z_tuple bt_tuple (pa_cons (pv 4) pa_nil)))))), ?_⟩
  obtain ⟨⟨c, k, v_count, v_width⟩, r, W, h, hcore, har, hrt⟩ := h
  refine body hcore har (Nat.le_of_ble_eq_true rfl) ?_
  clear hcore har
  change m_l_numbers k v_count v_width = some r at h
  unfold m_l_numbers at h
  change NxT _ _ [some (sRef c), some (rInt.at v_count), some (rInt.at v_width), none, none, none, none] _ [(c, cCup k)]
  replace h := bindE h
  obtain ⟨r1, hr1, h⟩ := h
  refine s_seq (s_par (ea_cons (e_call (ea_cons (e_var (sl := (sRef c)) rfl fun _ => (ea_cons (e_int fun _ => (ea_nil ⟨(c, k, (4 : Int)), r1, [], hr1, rfl, rfl, fun _ => (ea_cons (e_lstC (ea_nil ⟨_, rInt, ([] : List Int), rfl, Nat.le_of_ble_eq_true rfl, fun p__law_found => fun _ => (ea_nil ⟨_, _, rfl, ?_⟩)⟩)))⟩))))))))
  change NxT _ _ [some (sRef c), some (rInt.at v_count), some (rInt.at v_width), some (rInt.at r1.1), some (sRef p__law_found), none, none] _ [(c, cCup r1.2), (p__law_found, cLst rInt ([] : List Int))]
  replace h := bindE h
  obtain ⟨t2, ht2, h⟩ := h
  replace h := bindE h
  obtain ⟨o24, ho24, h⟩ := h
  refine s_seq (fold_sound (is := [5]) (i_range1 (ea_cons (e_var (sl := (rInt.at v_count)) rfl fun _ => (ea_nil ⟨_, _, rfl, ht2, ⟨_, _, rInt, t2, (r1.2, ([] : List Int)), _, o24, fun (b4 : (Cup × (List Int))) => [some (sRef c), some (rInt.at v_count), some (rInt.at v_width), some (rInt.at r1.1), some (sRef p__law_found), none, none], fun (b4 : (Cup × (List Int))) => [(c, cCup b4.1), (p__law_found, cLst rInt b4.2)], rfl, ho24, (by exact (And.intro rfl (And.intro rfl (And.intro rfl (And.intro rfl (And.intro rfl True.intro)))))), rfl, ?b25, ?_⟩⟩)))))
  case b25 =>
    clear h
    intro T1 b4 x3 b1 h N Bk hN
    refine g_name ?_
    change NxT _ _ [some (sRef c), some (rInt.at v_count), some (rInt.at v_width), some (rInt.at r1.1), some (sRef p__law_found), some (rInt.at x3), none] _ [(c, cCup b4.1), (p__law_found, cLst rInt b4.2)]
    replace h := bindE h
    obtain ⟨t5, ht5, h⟩ := h
    replace h := bindE h
    obtain ⟨r6, hr6, h⟩ := h
    refine s_seq (s_set (e_call (ea_cons (e_var (sl := (sRef c)) rfl fun _ => (ea_cons (e_opO oShl_ok (e_int ⟨_, rfl, (e_var (sl := (rInt.at v_width)) rfl ⟨_, _, rfl, ht5, fun _ => (ea_nil ⟨(c, b4.1, t5), r6, [(p__law_found, cLst rInt b4.2)], hr6, rfl, rfl, ?_⟩)⟩)⟩)))))))
    change NxT _ _ [some (sRef c), some (rInt.at v_count), some (rInt.at v_width), some (rInt.at r1.1), some (sRef p__law_found), some (rInt.at x3), some (rInt.at r6.1)] _ [(c, cCup r6.2), (p__law_found, cLst rInt b4.2)]
    replace h := bindE h
    obtain ⟨j9, hj9, h⟩ := h
    refine s_seq (s_ifJ [some (sRef c), some (rInt.at v_count), some (rInt.at v_width), some (rInt.at r1.1), some (sRef p__law_found), some (rInt.at x3), some (rInt.at j9)] [(c, cCup r6.2), (p__law_found, cLst rInt b4.2)] (t_test (e_eqI (e_var (sl := (rInt.at r1.1)) rfl ⟨_, rfl, (e_int ⟨_, rfl, ⟨_, rfl, ⟨fun hc N hN => ?_, fun hc N hN => ?_⟩⟩⟩)⟩))) ?_)
    · clear h
      have h := condT hc hj9
      replace h := bindE h
      obtain ⟨t10, ht10, h⟩ := h
      replace h := bindE h
      obtain ⟨t11, ht11, h⟩ := h
      refine (s_set (e_opO oMod_ok (e_var (sl := (rInt.at x3)) rfl ⟨_, rfl, (e_opO oShl_ok (e_int ⟨_, rfl, (e_var (sl := (rInt.at v_width)) rfl ⟨_, _, rfl, ht10, ⟨_, _, rfl, ht11, ?_⟩⟩)⟩))⟩)))
      change NxT _ _ [some (sRef c), some (rInt.at v_count), some (rInt.at v_width), some (rInt.at r1.1), some (sRef p__law_found), some (rInt.at x3), some (rInt.at t11)] _ [(c, cCup r6.2), (p__law_found, cLst rInt b4.2)]
      replace h := pureE h
      subst h
      exact s_weak (by exact (And.intro rfl (And.intro rfl (And.intro rfl (And.intro rfl (And.intro rfl (And.intro rfl (And.intro rfl True.intro)))))))) (.cons₂ _ (.cons₂ _ .slnil)) hN
    · clear h
      have h := condF hc hj9
      refine s_next ?_
      replace h := pureE h
      subst h
      exact s_weak (by exact (And.intro rfl (And.intro rfl (And.intro rfl (And.intro rfl (And.intro rfl (And.intro rfl (And.intro rfl True.intro)))))))) (.cons₂ _ (.cons₂ _ .slnil)) hN
    change NxT _ _ [some (sRef c), some (rInt.at v_count), some (rInt.at v_width), some (rInt.at r1.1), some (sRef p__law_found), some (rInt.at x3), some (rInt.at j9)] _ [(c, cCup r6.2), (p__law_found, cLst rInt b4.2)]
    replace h := bindE h
    obtain ⟨j17, hj17, h⟩ := h
    refine s_seq (s_ifJ [some (sRef c), some (rInt.at v_count), some (rInt.at v_width), some (rInt.at r1.1), some (sRef p__law_found), some (rInt.at x3), some (rInt.at j17.1)] [(c, cCup j17.2), (p__law_found, cLst rInt b4.2)] (t_and (c := (decide (r1.1 = (1 : Int)))) (d := ((decide (r1.1 = (1 : Int))) && (!(decide (b4.2 = ([] : List Int)))))) (t_test (e_eqI (e_var (sl := (rInt.at r1.1)) rfl ⟨_, rfl, (e_int ⟨_, rfl, ⟨_, rfl, ⟨rfl, fun hc => (t_test (e_neC 1 (e_var (sl := (sRef p__law_found)) rfl fun _ => (e_lst (ea_nil ⟨_, rInt, ([] : List Int), rfl, Nat.le_of_ble_eq_true rfl, ⟨_, inferInstance, _, eInt, _, _, _, by decide, rfl, rfl, rfl, ⟨_, rfl, ⟨(andT hc).symm, rfl⟩⟩⟩⟩))))), fun hc => ⟨andF hc, rfl⟩⟩⟩⟩)⟩))) ⟨fun hc N hN => ?_, fun hc N hN => ?_⟩) ?_)
    · clear h
      have h := condT hc hj17
      replace h := bindE h
      obtain ⟨t18, ht18, h⟩ := h
      replace h := bindE h
      obtain ⟨r19, hr19, h⟩ := h
      replace h := bindE h
      obtain ⟨t20, ht20, h⟩ := h
      replace h := bindE h
      obtain ⟨t21, ht21, h⟩ := h
      replace h := bindE h
      obtain ⟨t22, ht22, h⟩ := h
      refine (s_set (e_opO oMod_ok (e_opI0 (g := Builtin.bitXor) (e_ixC 1 (e_var (sl := (sRef p__law_found)) rfl fun _ => (e_un (g := fun i => -i) (e_int ⟨_, rfl, ⟨_, _, rInt, _, _, _, rfl, rfl, rfl, ht18, ⟨_, rfl, (e_opO oShl_ok (e_int ⟨_, rfl, (e_call (ea_cons (e_var (sl := (sRef c)) rfl fun _ => (ea_cons (e_max2 (ea_cons (e_int fun _ => (ea_cons (e_var (sl := (rInt.at v_width)) rfl fun _ => (ea_nil ⟨_, _, rfl, fun _ => (ea_nil ⟨(c, r6.2, (max (1 : Int) v_width)), r19, [(p__law_found, cLst rInt b4.2)], hr19, rfl, rfl, ⟨_, _, rfl, ht20, ⟨_, rfl, ⟨_, rfl, (e_opO oShl_ok (e_int ⟨_, rfl, (e_var (sl := (rInt.at v_width)) rfl ⟨_, _, rfl, ht21, ⟨_, _, rfl, ht22, ?_⟩⟩)⟩))⟩⟩⟩⟩)⟩))))))))))⟩))⟩⟩⟩)))))))
      change NxT _ _ [some (sRef c), some (rInt.at v_count), some (rInt.at v_width), some (rInt.at r1.1), some (sRef p__law_found), some (rInt.at x3), some (rInt.at t22)] _ [(c, cCup r19.2), (p__law_found, cLst rInt b4.2)]
      replace h := pureE h
      subst h
      exact s_weak (by exact (And.intro rfl (And.intro rfl (And.intro rfl (And.intro rfl (And.intro rfl (And.intro rfl (And.intro rfl True.intro)))))))) (.cons₂ _ (.cons₂ _ .slnil)) hN
    · clear h
      have h := condF hc hj17
      refine s_next ?_
      replace h := pureE h
      subst h
      exact s_weak (by exact (And.intro rfl (And.intro rfl (And.intro rfl (And.intro rfl (And.intro rfl (And.intro rfl (And.intro rfl True.intro)))))))) (.cons₂ _ (.cons₂ _ .slnil)) hN
    change NxT _ _ [some (sRef c), some (rInt.at v_count), some (rInt.at v_width), some (rInt.at r1.1), some (sRef p__law_found), some (rInt.at x3), some (rInt.at j17.1)] _ [(c, cCup j17.2), (p__law_found, cLst rInt b4.2)]
    replace h := bindE h
    obtain ⟨l23, hl23, h⟩ := h
    refine (s_drop (e_append 1 (e_var (sl := (sRef p__law_found)) rfl ⟨_, _, rInt, _, rfl, rfl, fun _ => (ea_cons (e_var (sl := (rInt.at j17.1)) rfl fun _ => (ea_nil ⟨_, _, _, rfl, rfl, hl23, ?_⟩)))⟩)))
    change NxT _ _ [some (sRef c), some (rInt.at v_count), some (rInt.at v_width), some (rInt.at r1.1), some (sRef p__law_found), some (rInt.at x3), some (rInt.at j17.1)] _ [(c, cCup j17.2), (p__law_found, cLst rInt l23)]
    replace h := pureE h
    subst h
    exact s_weak (by exact (And.intro rfl (And.intro rfl (And.intro rfl (And.intro rfl (And.intro rfl True.intro)))))) (.cons₂ _ (.cons₂ _ .slnil)) hN
  change NxT _ _ [some (sRef c), some (rInt.at v_count), some (rInt.at v_width), some (rInt.at r1.1), some (sRef p__law_found), none, none] _ [(c, cCup o24.1), (p__law_found, cLst rInt o24.2)]
  replace h := pureE h
  subst h
  refine s_ret (e_tupC 1 (ea_cons (e_var (sl := (sRef p__law_found)) rfl fun _ => (ea_nil ⟨_, _, rInt, _, rfl, rfl, ?_⟩))))
  exact Rt.drop hrt (.cons₂ _ (.cons _ .slnil))
def m_l_test_of (v_row : (List Int)) (v_width : Int) (v_gang : (List Int)) : Option (List (Int × Int)) :=
  bind (oShl (1 : Int) v_width) fun t1 =>
  bind (oRange 0 t1) fun t2 =>
  bind (foldO (fun (b4 : ((List (Int × Int)))) (x3 : Int) => (((bind (atI v_gang (0 : Int)) fun t5 => (bind (atI v_row t5) fun t6 => (bif (decide ((((enumI v_row).filter fun (x7 : (Int × Int)) => (decide ((Builtin.bitAnd x7.2 x3) = (Builtin.bitAnd t6 x3)))).map fun (x7 : (Int × Int)) => x7.1) = v_gang)) then ((bind (oApp b4 (x3, (Builtin.bitAnd t6 x3))) fun l10 => pure (l10))) else (pure (b4)))))) : Option ((List (Int × Int))))) t2 (([] : List (Int × Int)))) fun o11 =>
  pure o11
abbrev sp_l_test_of (K : PySem.W.Frag) (Z : Ads) : Sp := spM (ι := (List Int) × Int × (List Int)) (β := (List (Int × Int))) (fun i => [(rTup rInt).at i.1, rInt.at i.2.1, (rTup rInt).at i.2.2]) (fun i => []) (fun i => m_l_test_of i.1 i.2.1 i.2.2) (fun i b => (rLst (rPair rInt rInt)).at b) (fun i b => [])
abbrev N_l_test_of : List Str := ["_law_row", "_law_width", "_law_gang", "_law_found", "_law_mask", "_law_value", "_law_kind", "_law_number"]
theorem sc_l_test_of : FnScope N_l_test_of ["_law_row", "_law_width", "_law_gang"] (defScope s_l_test_of) := ⟨rfl, rfl, rfl, by decide +kernel, rfl, by decide +kernel, by decide +kernel⟩
theorem ok_l_test_of {P : Program} {w : World} {K : PySem.W.Frag} {Z : Ads} {mg : Str → Option Value} {base : Heap} (X : Tx K mg Z) : FnG P w K mg base CX0 1 X.f_l_test_of X.d_l_test_of ["_law_row", "_law_width", "_law_gang"] (sp_l_test_of K Z) := by
  refine okG X.F_l_test_of sc_l_test_of (fun vs H Q E h => spM_len h fun _ => rfl) (fun cdv A outer s H vs Q E hr h => ?_)
  refine ⟨(tSeq (tAsg (tLst tNil) (gName 3)) (tSeq (tFor (iRng1 (tCons (tOp rdShl (tC (.int 1)) (tVar 1)) tNil)) (gName 4) (tSeq (tAsg (tOp rdAnd (tOp (rIxT K) (tVar 0) (tOp (rIxT K) (tVar 2) (tC (.int 0)))) (tVar 4)) (gName 5)) (tIfS (tTest (tOp (rEqD K) (tLc (iEnumT K (tCons (tVar 0) tNil)) (gTup K 2 (gCons (gName 6) (gCons (gName 7) gNil))) (tTest (tOp rEq (tOp rdAnd (tVar 7) (tVar 4)) (tVar 5))) (tVar 6) [6, 7]) (tCB (rListOf K) (tCons (tVar 2) tNil)))) (tDrop (tBM K "list" rAppend (tVar 3) (tCons (tTup (tCons (tVar 4) (tCons (tVar 5) tNil))) tNil))) tNext))) (tRet (tVar 3)))), (pss_cons (ps_set (i := 3) sc_l_test_of.nd rfl (Or.inl rfl) (pe_lst pa_nil)) (pss_cons (ps_for PassesOwn.never rfl (pi_range1 (by rfl) X.z_range (pa_cons (pe_op op_shlW pe_int (pv 1)) pa_nil)) (pg_name (i := 4) sc_l_test_of.nd rfl (Or.inr rfl)) (pss_cons (ps_set (i := 5) sc_l_test_of.nd rfl (Or.inr rfl) (pe_op op_and (pe_ix ix_tup (pv 0) (pe_ix ix_tup (pv 2) pe_int (fun _ _ => rfl)) (fun _ _ => rfl)) (pv 4))) (pss_one (ps_if (pt_cmpR (op_eqD hr.units) (pe_lc (own := [("_law_kind", 6), ("_law_number", 7)]) (g := (gTup K 2 (gCons (gName 6) (gCons (gName 7) gNil)))) (tt := (tTest (tOp rEq (tOp rdAnd (tVar 7) (tVar 4)) (tVar 5)))) (te := (tVar 6)) rfl sc_l_test_of.nd (pi_enumT (by rfl) X.z_enumerate (pa_cons (pv 0) pa_nil)) (blkOk_by (N := N_l_test_of) (sc := (defScope s_l_test_of)) (by decide +kernel)) (fun _ _ _ _ _ => (pg_tup rfl (pgs_cons (pg_name (i := 6) sc_l_test_of.nd rfl (Or.inl rfl)) (pgs_cons (pg_name (i := 7) sc_l_test_of.nd rfl (Or.inl rfl)) pgs_nil)))) (fun _ _ _ _ _ => (pts_one (pt_cmpR op_eq (pe_op op_and (pv 7) (pv 4)) (pv 5) (nomark _)))) (fun _ _ _ _ _ => (pv 6))) (pe_callTy call_list_of (by rfl) X.z_list bt_list (pa_cons (pv 2) pa_nil)) (nomark _)) (pss_one (ps_expr (pe_bm PySem.F.plainAttrs_list PySem.F.slot_list_append PySem.F.type_list_append mt_append (pv 3) (pa_cons (pe_tup (pa_cons (pv 4) (pa_cons (pv 5) pa_nil))) pa_nil)))) pss_nil)))) (pss_one (ps_ret (pv 3))))), ?_⟩
  obtain ⟨⟨v_row, v_width, v_gang⟩, r, W, h, hcore, har, hrt⟩ := h
  refine body hcore har (Nat.le_of_ble_eq_true rfl) ?_
  clear hcore har
  change m_l_test_of v_row v_width v_gang = some r at h
  unfold m_l_test_of at h
  change NxT _ _ [some ((rTup rInt).at v_row), some (rInt.at v_width), some ((rTup rInt).at v_gang), none, none, none, none, none] _ []
  refine s_seq (s_set (e_lstC (ea_nil ⟨_, (rPair rInt rInt), ([] : List (Int × Int)), rfl, Nat.le_of_ble_eq_true rfl, fun p__law_found => ?_⟩)))
  change NxT _ _ [some ((rTup rInt).at v_row), some (rInt.at v_width), some ((rTup rInt).at v_gang), some (sRef p__law_found), none, none, none, none] _ [(p__law_found, cLst (rPair rInt rInt) ([] : List (Int × Int)))]
  replace h := bindE h
  obtain ⟨t1, ht1, h⟩ := h
  replace h := bindE h
  obtain ⟨t2, ht2, h⟩ := h
  replace h := bindE h
  obtain ⟨o11, ho11, h⟩ := h
  refine s_seq (fold_sound (is := [4]) (i_range1 (ea_cons (e_opO oShl_ok (e_int ⟨_, rfl, (e_var (sl := (rInt.at v_width)) rfl ⟨_, _, rfl, ht1, fun _ => (ea_nil ⟨_, _, rfl, ht2, ⟨_, _, rInt, t2, (([] : List (Int × Int))), _, o11, fun (b4 : ((List (Int × Int)))) => [some ((rTup rInt).at v_row), some (rInt.at v_width), some ((rTup rInt).at v_gang), some (sRef p__law_found), none, none, none, none], fun (b4 : ((List (Int × Int)))) => [(p__law_found, cLst (rPair rInt rInt) b4)], rfl, ho11, (by exact (And.intro rfl (And.intro rfl (And.intro rfl (And.intro rfl True.intro))))), rfl, ?b12, ?_⟩⟩)⟩)⟩)))))
  case b12 =>
    clear h
    intro T1 b4 x3 b1 h N Bk hN
    refine g_name ?_
    change NxT _ _ [some ((rTup rInt).at v_row), some (rInt.at v_width), some ((rTup rInt).at v_gang), some (sRef p__law_found), some (rInt.at x3), none, none, none] _ [(p__law_found, cLst (rPair rInt rInt) b4)]
    replace h := bindE h
    obtain ⟨t5, ht5, h⟩ := h
    replace h := bindE h
    obtain ⟨t6, ht6, h⟩ := h
    refine s_seq (s_set (e_opI0 (g := Builtin.bitAnd) (e_ixT (e_var (sl := ((rTup rInt).at v_row)) rfl fun _ => (e_ixT (e_var (sl := ((rTup rInt).at v_gang)) rfl fun _ => (e_int ⟨_, rInt, _, _, _, rfl, rfl, ht5, ⟨_, rInt, _, _, _, rfl, rfl, ht6, ⟨_, rfl, (e_var (sl := (rInt.at x3)) rfl ⟨_, rfl, ?_⟩)⟩⟩⟩)))))))
    change NxT _ _ [some ((rTup rInt).at v_row), some (rInt.at v_width), some ((rTup rInt).at v_gang), some (sRef p__law_found), some (rInt.at x3), some (rInt.at (Builtin.bitAnd t6 x3)), none, none] _ [(p__law_found, cLst (rPair rInt rInt) b4)]
    refine (s_if (t_test (e_eqD (lc_sound (is := [6, 7]) (by decide) (i_enumT (ea_cons (e_var (sl := ((rTup rInt).at v_row)) rfl fun _ => (ea_nil ⟨_, rInt, _, rfl, ⟨_, _, _, (rPair rInt rInt), (enumI v_row), (), fun (u : Unit) (x7 : (Int × Int)) => bif (decide ((Builtin.bitAnd x7.2 x3) = (Builtin.bitAnd t6 x3))) then some (some x7.1, u) else some (none, u), (((enumI v_row).filter fun (x7 : (Int × Int)) => (decide ((Builtin.bitAnd x7.2 x3) = (Builtin.bitAnd t6 x3)))).map fun (x7 : (Int × Int)) => x7.1), (), rInt, fun _ => [(p__law_found, cLst (rPair rInt rInt) b4)], rfl, lcO_filter _ _ _, rfl, ?b9, fun _ => (e_listV (ea_cons (e_var (sl := ((rTup rInt).at v_gang)) rfl fun _ => (ea_nil ⟨_, rInt, _, rfl, ⟨_, inferInstance, _, (eLst eInt), _, _, by decide, rfl, rfl, ⟨_, rfl, ⟨fun hc => ?_, fun hc => ?_⟩⟩⟩⟩))))⟩⟩))))))))
    case b9 =>
      intro W1 T1 k8 x7 o u1 h
      refine g_pair ?_
      refine (t_test (e_eqI (e_opI0 (g := Builtin.bitAnd) (e_var (sl := (rInt.at x7.2)) rfl ⟨_, rfl, (e_var (sl := (rInt.at x3)) rfl ⟨_, rfl, ⟨_, rfl, (e_var (sl := (rInt.at (Builtin.bitAnd t6 x3))) rfl ⟨_, rfl, ⟨_, rfl, ⟨fun hc => ?_, fun hc => ?_⟩⟩⟩)⟩⟩)⟩))))
      · replace h := condT hc h
        cases h
        refine (e_var (sl := (rInt.at x7.1)) rfl ⟨_, rfl, rfl, rfl⟩)
      · replace h := condF hc h
        cases h
        exact ⟨rfl, rfl⟩
    · replace h := condT hc h
      replace h := bindE h
      obtain ⟨l10, hl10, h⟩ := h
      refine (s_drop (e_append 0 (e_var (sl := (sRef p__law_found)) rfl ⟨_, _, (rPair rInt rInt), _, rfl, rfl, fun _ => (ea_cons (e_pair (ea_cons (e_var (sl := (rInt.at x3)) rfl fun _ => (ea_cons (e_var (sl := (rInt.at (Builtin.bitAnd t6 x3))) rfl fun _ => (ea_nil ⟨_, _, rInt, rInt, _, _, rfl, fun _ => (ea_nil ⟨_, _, _, rfl, rfl, hl10, ?_⟩)⟩)))))))⟩)))
      change NxT _ _ [some ((rTup rInt).at v_row), some (rInt.at v_width), some ((rTup rInt).at v_gang), some (sRef p__law_found), some (rInt.at x3), some (rInt.at (Builtin.bitAnd t6 x3)), none, none] _ [(p__law_found, cLst (rPair rInt rInt) l10)]
      replace h := pureE h
      subst h
      exact s_weak (by exact (And.intro rfl (And.intro rfl (And.intro rfl (And.intro rfl True.intro))))) (.cons₂ _ .slnil) hN
    · replace h := condF hc h
      refine s_next ?_
      replace h := pureE h
      subst h
      exact s_weak (by exact (And.intro rfl (And.intro rfl (And.intro rfl (And.intro rfl True.intro))))) (.cons₂ _ .slnil) hN
  change NxT _ _ [some ((rTup rInt).at v_row), some (rInt.at v_width), some ((rTup rInt).at v_gang), some (sRef p__law_found), none, none, none, none] _ [(p__law_found, cLst (rPair rInt rInt) o11)]
  refine s_freeze 3 0 rfl rfl ?_
  change NxT _ _ [some ((rTup rInt).at v_row), some (rInt.at v_width), some ((rTup rInt).at v_gang), some ((rLst (rPair rInt rInt)).at o11), none, none, none, none] _ []
  replace h := pureE h
  subst h
  refine s_ret (e_var (sl := ((rLst (rPair rInt rInt)).at o11)) rfl ?_)
  exact Rt.drop hrt .slnil
def m_l_first (v_row : (List Int)) (v_width : Int) (v_gang : (List Int)) : Option (Option (Int × Int)) :=
  bind (m_all_tests v_row v_width v_gang) fun r1 =>
  bind (loopO (fun (b3 : Unit) (x2 : (Int × Int)) => ((pure (Fl.ret (some (x2.1, x2.2)))) : Option (Fl (Option (Int × Int)) Unit))) r1 ()) fun o4 =>
  (match o4 with | .ret z => (pure z) | .go g6 => (pure (none : Option (Int × Int))))
abbrev sp_l_first (K : PySem.W.Frag) (Z : Ads) : Sp := spM (ι := (List Int) × Int × (List Int)) (β := (Option (Int × Int))) (fun i => [(rTup rInt).at i.1, rInt.at i.2.1, (rTup rInt).at i.2.2]) (fun i => []) (fun i => m_l_first i.1 i.2.1 i.2.2) (fun i b => (rOpt (rPair rInt rInt)).at b) (fun i b => [])
abbrev N_l_first : List Str := ["_law_row", "_law_width", "_law_gang", "_law_test"]
theorem sc_l_first : FnScope N_l_first ["_law_row", "_law_width", "_law_gang"] (defScope s_l_first) := ⟨rfl, rfl, rfl, by decide +kernel, rfl, by decide +kernel, by decide +kernel⟩
theorem ok_l_first {P : Program} {w : World} {K : PySem.W.Frag} {Z : Ads} {mg : Str → Option Value} {base : Heap} (X : Tx K mg Z) (G_all_tests : GenFn P w K mg base 4 X.f_all_tests X.d_all_tests ["code", "bits", "group"] (rT_Test Z) (sp_all_tests K Z)) : FnG P w K mg base CX0 7 X.f_l_first X.d_l_first ["_law_row", "_law_width", "_law_gang"] (sp_l_first K Z) := by
  refine okG X.F_l_first sc_l_first (fun vs H Q E h => spM_len h fun _ => rfl) (fun cdv A outer s H vs Q E hr h => ?_)
  refine ⟨(tSeq (tForG (sp_all_tests K Z) (rT_Test Z) (tCons (tVar 0) (tCons (tVar 1) (tCons (tVar 2) tNil))) (gName 3) (tRet (tTup (tCons (tFld K (tVar 3) "mask") (tCons (tFld K (tVar 3) "value") tNil))))) (tRet (tC .non))), (pss_cons (ps_forG G_all_tests (hr.mono (by decide)) (fun _ _ z => z) rfl (by rfl) X.g_all_tests X.F_all_tests.kp X.b_all_tests (pa_cons (pv 0) (pa_cons (pv 1) (pa_cons (pv 2) pa_nil))) (pg_name (i := 3) sc_l_first.nd rfl (Or.inl rfl)) (pss_one (ps_ret (pe_tup (pa_cons (pe_fld (pv 3) rfl) (pa_cons (pe_fld (pv 3) rfl) pa_nil)))))) (pss_one (ps_ret pe_non))), ?_⟩
  obtain ⟨⟨v_row, v_width, v_gang⟩, r, W, h, hcore, har, hrt⟩ := h
  refine body hcore har (Nat.le_of_ble_eq_true rfl) ?_
  clear hcore har
  change m_l_first v_row v_width v_gang = some r at h
  unfold m_l_first at h
  change NxT _ _ [some ((rTup rInt).at v_row), some (rInt.at v_width), some ((rTup rInt).at v_gang), none] _ []
  replace h := bindE h
  obtain ⟨r1, hr1, h⟩ := h
  replace h := bindE h
  obtain ⟨o4, ho4, h⟩ := h
  refine s_seq (forG_sound (is := [3]) (ea_cons (e_var (sl := ((rTup rInt).at v_row)) rfl fun _ => (ea_cons (e_var (sl := (rInt.at v_width)) rfl fun _ => (ea_cons (e_var (sl := ((rTup rInt).at v_gang)) rfl fun _ => (ea_nil ⟨_, _, r1, (), _, o4, fun (b3 : Unit) => [some ((rTup rInt).at v_row), some (rInt.at v_width), some ((rTup rInt).at v_gang), none], fun (b3 : Unit) => [], (fun _ _ ar => ⟨(v_row, v_width, v_gang), args_tups (allTup_cons (TupS.tup fun _ => TupS.int) (allTup_cons TupS.int (allTup_cons (TupS.tup fun _ => TupS.int) allTup_nil))) ar, hr1⟩), ho4, (by exact (And.intro rfl (And.intro rfl (And.intro rfl True.intro)))), rfl, ?b5, ?_⟩))))))))
  case b5 =>
    have hR : ∀ z, o4 = .ret z → Rt Q W ((fun z => (rOpt (rPair rInt rInt)).at z) z) ((fun z => []) z) := fun z ez => by subst ez; have h := pureE h; subst h; exact hrt
    clear h
    intro T1 b3 x2 fl h N Bk hN hBk hz
    refine g_name ?_
    change NxT _ _ [some ((rTup rInt).at v_row), some (rInt.at v_width), some ((rTup rInt).at v_gang), some ((rT_Test Z).at x2)] _ []
    replace h := pureE h
    subst h
    refine s_ret (e_pair (ea_cons (e_fld (fl := fl_Test Z) 0 X.cl_Test X.na_Test_mask (nd_Test Z) (e_var (sl := ((rT_Test Z).at x2)) rfl ⟨_, _, rfl, rfl, fun _ => (ea_cons (e_fld (fl := fl_Test Z) 1 X.cl_Test X.na_Test_value (nd_Test Z) (e_var (sl := ((rT_Test Z).at x2)) rfl ⟨_, _, rfl, rfl, fun _ => (ea_nil ⟨_, _, rInt, rInt, _, _, rfl, ?_⟩)⟩)))⟩))))
    exact Rt.drop (hR _ (hz _ rfl)) .slnil
  intro g6 eg6
  subst eg6
  try dsimp only at h
  change NxT _ _ [some ((rTup rInt).at v_row), some (rInt.at v_width), some ((rTup rInt).at v_gang), none] _ []
  replace h := pureE h
  subst h
  refine s_ret (e_non ?_)
  exact Rt.drop hrt .slnil
def m_l_right (k : Cup) : Option (Bool × Cup) :=
  bind (m_l_dip k (7 : Int)) fun r1 =>
  bind (m_l_dip r1.2 (8 : Int)) fun r2 =>
  bind (m_l_numbers r2.2 ((1 : Int) + r1.1) r2.1) fun r3 =>
  bind (m_l_group r3.2 ((1 : Int) + r1.1)) fun r4 =>
  bind (m_l_group r4.2 ((1 : Int) + r1.1)) fun r5 =>
  bind (oRange 0 ((1 : Int) + r1.1)) fun t6 =>
  bind (loopO (fun (b8 : Unit) (x7 : (List Int)) => (((bind (m_l_test_of r3.1 r2.1 x7) fun r9 => (bind (oRepr ((ePair (eTup eInt) (eTup eInt)).d (r3.1, x7))) fun t10 => (bind (m_all_tests r3.1 r2.1 x7) fun r11 => (bind (oLim r11) fun t12 => (bif (!(decide ((t12.map fun (x13 : (Int × Int)) => (x13.1, x13.2)) = r9))) then (pure (Fl.ret (false, r5.2))) else ((bind (m_l_first r3.1 r2.1 x7) fun r16 => (bind (((bif (!(decide (r9 = ([] : List (Int × Int))))) then ((bind (atI r9 (0 : Int)) fun t18 => pure (some t18))) else (pure (none : Option (Int × Int)))) : Option (Option (Int × Int)))) fun t19 => (bif (!(decide (r16 = t19))) then (pure (Fl.ret (false, r5.2))) else ((bind (m_all_tests r3.1 r2.1 x7) fun r22 => (bind (m_all_tests r3.1 r2.1 x7) fun r23 => (bind (foldO (fun (b25 : ((List (Int × Int)))) (x24 : ((Int × Int) × (Int × Int))) => (((bind (oApp b25 (x24.1.1, x24.2.1)) fun l26 => pure (l26))) : Option ((List (Int × Int))))) (r22.zip r23) (([] : List (Int × Int)))) fun o27 => (bif (!(decide (o27 = (r9.map fun (x29 : (Int × Int)) => (x29.1, x29.1))))) then (pure (Fl.ret (false, r5.2))) else ((bind (m_all_tests r3.1 r2.1 x7) fun r32 => (bind (oLim r32) fun t33 => (bif (!(decide ((t33.map fun (x34 : (Int × Int)) => x34.2) = (r9.map fun (x37 : (Int × Int)) => x37.2)))) then (pure (Fl.ret (false, r5.2))) else ((bind (oRepr ((ePair (eTup eInt) (eTup eInt)).d (r3.1, x7))) fun t40 => (bif (!(decide (t40 = t10))) then (pure (Fl.ret (false, r5.2))) else (pure (Fl.go ())))))))))))))))))))))))) : Option (Fl (Bool × Cup) Unit))) ([r4.1, r5.1, t6, ([(0 : Int)] : List Int)] : List (List Int)) ()) fun o41 =>
  (match o41 with | .ret z => (pure z) | .go g43 => (pure (true, r5.2)))
abbrev sp_l_right (K : PySem.W.Frag) (Z : Ads) : Sp := spM (ι := Addr × Cup) (β := (Bool × Cup)) (fun i => [sRef i.1]) (fun i => [(i.1, cCup i.2)]) (fun i => m_l_right i.2) (fun i b => rBool.at b.1) (fun i b => [(i.1, cCup b.2)])
abbrev N_l_right : List Str := ["_law_cup_here", "_law_count", "_law_width", "_law_row", "_law_gang", "_law_due", "_law_kept", "_law_walk", "_law_one", "_law_other", "_law_test", "_law_mask", "_law_value"]
theorem sc_l_right : FnScope N_l_right ["_law_cup_here"] (defScope s_l_right) := ⟨rfl, rfl, rfl, by decide +kernel, rfl, by decide +kernel, by decide +kernel⟩
theorem ok_l_right {P : Program} {w : World} {K : PySem.W.Frag} {Z : Ads} {mg : Str → Option Value} {base : Heap} (X : Tx K mg Z) (G_l_dip : FnG P w K mg base CX0 1 X.f_l_dip X.d_l_dip ["_law_cup_here", "_law_many"] (sp_l_dip K Z)) (G_l_first : FnG P w K mg base CX0 7 X.f_l_first X.d_l_first ["_law_row", "_law_width", "_law_gang"] (sp_l_first K Z)) (G_l_group : FnG P w K mg base CX0 2 X.f_l_group X.d_l_group ["_law_cup_here", "_law_count"] (sp_l_group K Z)) (G_l_numbers : FnG P w K mg base CX0 2 X.f_l_numbers X.d_l_numbers ["_law_cup_here", "_law_count", "_law_width"] (sp_l_numbers K Z)) (G_l_test_of : FnG P w K mg base CX0 1 X.f_l_test_of X.d_l_test_of ["_law_row", "_law_width", "_law_gang"] (sp_l_test_of K Z)) (G_all_tests : GenFn P w K mg base 4 X.f_all_tests X.d_all_tests ["code", "bits", "group"] (rT_Test Z) (sp_all_tests K Z)) (K_all_tests : TK.GenFn P w K mg base 4 X.f_all_tests X.d_all_tests ["code", "bits", "group"] (rT_Test Z) (sp_all_tests K Z)) : FnG P w K mg base CX0 9 X.f_l_right X.d_l_right ["_law_cup_here"] (sp_l_right K Z) := by
  refine okG X.F_l_right sc_l_right (fun vs H Q E h => spM_len h fun _ => rfl) (fun cdv A outer s H vs Q E hr h => ?_)
  refine ⟨(tSeq (tPar 1 2 (tCons (tOp rdAdd (tC (.int 1)) (tCall (sp_l_dip K Z) [] E0 (tCons (tVar 0) (tCons (tC (.int 7)) tNil)))) (tCons (tCall (sp_l_dip K Z) [] E0 (tCons (tVar 0) (tCons (tC (.int 8)) tNil))) tNil))) (tSeq (tAsg (tCall (sp_l_numbers K Z) [] E0 (tCons (tVar 0) (tCons (tVar 1) (tCons (tVar 2) tNil)))) (gName 3)) (tSeq (tFor (iTup K (tTup (tCons (tCall (sp_l_group K Z) [] E0 (tCons (tVar 0) (tCons (tVar 1) tNil))) (tCons (tCall (sp_l_group K Z) [] E0 (tCons (tVar 0) (tCons (tVar 1) tNil))) (tCons (tTupRg (tRg1 (tVar 1))) (tCons (tTup (tCons (tC (.int 0)) tNil)) tNil)))))) (gName 4) (tSeq (tPar 5 6 (tCons (tCall (sp_l_test_of K Z) [] E0 (tCons (tVar 3) (tCons (tVar 2) (tCons (tVar 4) tNil)))) (tCons (tCB (rRepr K) (tCons (tTup (tCons (tVar 3) (tCons (tVar 4) tNil))) tNil)) tNil))) (tSeq (tIfS (tTest (tOp (rNeD K) (tLcG (sp_all_tests K Z) (rT_Test Z) (tCons (tVar 3) (tCons (tVar 2) (tCons (tVar 4) tNil))) (gName 10) tYes (tTup (tCons (tFld K (tVar 10) "mask") (tCons (tFld K (tVar 10) "value") tNil))) [10]) (tVar 5))) (tRet (tC (.bl false))) tNext) (tSeq (tIfS (tTest (tOp (rNeD K) (tCall (sp_l_first K Z) [] E0 (tCons (tVar 3) (tCons (tVar 2) (tCons (tVar 4) tNil)))) (tIf (tTest (tOp (rNeD K) (tVar 5) (tLst tNil))) (tOp (rIxL K) (tVar 5) (tC (.int 0))) (tC .non)))) (tRet (tC (.bl false))) tNext) (tSeq (tAsg (tLst tNil) (gName 7)) (tSeq (TK.tForZ 3 (sp_all_tests K Z) (rT_Test Z) (sp_all_tests K Z) (rT_Test Z) (tCons (tVar 3) (tCons (tVar 2) (tCons (tVar 4) tNil))) (tCons (tVar 3) (tCons (tVar 2) (tCons (tVar 4) tNil))) (gTup K 2 (gCons (gName 8) (gCons (gName 9) gNil))) (tDrop (tBM K "list" rAppend (tVar 7) (tCons (tTup (tCons (tFld K (tVar 8) "mask") (tCons (tFld K (tVar 9) "mask") tNil))) tNil)))) (tSeq (tIfS (tTest (tOp (rNeD K) (tVar 7) (tLc (iList K (tVar 5)) (gTup K 2 (gCons (gName 11) (gCons (gName 12) gNil))) tYes (tTup (tCons (tVar 11) (tCons (tVar 11) tNil))) [11, 12]))) (tRet (tC (.bl false))) tNext) (tSeq (tIfS (tTest (tOp (rNeD K) (tLcG (sp_all_tests K Z) (rT_Test Z) (tNames [2, 1, 0] 3 (tCons (tVar 4) (tCons (tVar 2) (tCons (tVar 3) tNil)))) (gName 10) tYes (tFld K (tVar 10) "value") [10]) (tLc (iList K (tVar 5)) (gTup K 2 (gCons (gName 11) (gCons (gName 12) gNil))) tYes (tVar 12) [11, 12]))) (tRet (tC (.bl false))) tNext) (tIfS (tTest (tOp rNe (tCB (rRepr K) (tCons (tTup (tCons (tVar 3) (tCons (tVar 4) tNil))) tNil)) (tVar 6))) (tRet (tC (.bl false))) tNext))))))))) (tRet (tC (.bl true)))))), (pss_cons (ps_par rfl sc_l_right.nd rfl rfl (by decide) rfl rfl (pa_cons (pe_op op_add pe_int (pe_callG (G_l_dip) (hr.mono (by decide)) (by rfl) X.g_l_dip X.F_l_dip.kp X.b_l_dip .nil pass0 (pa_cons (pv 0) (pa_cons pe_int pa_nil)))) (pa_cons (pe_callG (G_l_dip) (hr.mono (by decide)) (by rfl) X.g_l_dip X.F_l_dip.kp X.b_l_dip .nil pass0 (pa_cons (pv 0) (pa_cons pe_int pa_nil))) pa_nil)) (by rfl)) (pss_cons (ps_set (i := 3) sc_l_right.nd rfl (Or.inl rfl) (pe_callG (G_l_numbers) (hr.mono (by decide)) (by rfl) X.g_l_numbers X.F_l_numbers.kp X.b_l_numbers .nil pass0 (pa_cons (pv 0) (pa_cons (pv 1) (pa_cons (pv 2) pa_nil))))) (pss_cons (ps_for PassesOwn.never rfl (pi_tup (pe_tup (pa_cons (pe_callG (G_l_group) (hr.mono (by decide)) (by rfl) X.g_l_group X.F_l_group.kp X.b_l_group .nil pass0 (pa_cons (pv 0) (pa_cons (pv 1) pa_nil))) (pa_cons (pe_callG (G_l_group) (hr.mono (by decide)) (by rfl) X.g_l_group X.F_l_group.kp X.b_l_group .nil pass0 (pa_cons (pv 0) (pa_cons (pv 1) pa_nil))) (pa_cons (pe_tupRg rfl (by rfl) X.z_tuple (prg_1 (by rfl) X.z_range (pv 1))) (pa_cons (pe_tup (pa_cons pe_int pa_nil)) pa_nil)))))) (pg_name (i := 4) sc_l_right.nd rfl (Or.inl rfl)) (pss_cons (ps_par rfl sc_l_right.nd rfl rfl (by decide) rfl rfl (pa_cons (pe_callG (G_l_test_of) (hr.mono (by decide)) (by rfl) X.g_l_test_of X.F_l_test_of.kp X.b_l_test_of .nil pass0 (pa_cons (pv 3) (pa_cons (pv 2) (pa_cons (pv 4) pa_nil)))) (pa_cons (pe_callB (cr_repr hr) (by rfl) X.z_repr bt_repr (pa_cons (pe_tup (pa_cons (pv 3) (pa_cons (pv 4) pa_nil))) pa_nil)) pa_nil)) (by rfl)) (pss_cons (ps_if (pt_cmpR (op_neD hr.units) (pe_lcG (own := [("_law_test", 10)]) (tgt := (gName 10)) (tt := tYes) (te := (tTup (tCons (tFld K (tVar 10) "mask") (tCons (tFld K (tVar 10) "value") tNil)))) G_all_tests (hr.mono (by decide)) rfl sc_l_right.nd (by rfl) X.g_all_tests X.F_all_tests.kp X.b_all_tests (pa_cons (pv 3) (pa_cons (pv 2) (pa_cons (pv 4) pa_nil))) (blkOk_by (N := N_l_right) (sc := (defScope s_l_right)) (by decide +kernel)) (fun _ _ _ _ _ => (pg_name (i := 10) sc_l_right.nd rfl (Or.inl rfl))) (fun _ _ _ _ _ => pts_nil) (fun _ _ _ _ _ => (pe_tup (pa_cons (pe_fld (pv 10) rfl) (pa_cons (pe_fld (pv 10) rfl) pa_nil))))) (pv 5) (nomark _)) (pss_one (ps_ret pe_bl)) pss_nil) (pss_cons (ps_if (pt_cmpR (op_neD hr.units) (pe_callG (G_l_first) (hr.mono (by decide)) (by rfl) X.g_l_first X.F_l_first.kp X.b_l_first .nil pass0 (pa_cons (pv 3) (pa_cons (pv 2) (pa_cons (pv 4) pa_nil)))) (pe_ifExp (pt_cmpR (op_neD hr.units) (pv 5) (pe_lst pa_nil) (nomark _)) (pe_ix ix_list (pv 5) pe_int (fun _ _ => rfl)) pe_non) (nomark _)) (pss_one (ps_ret pe_bl)) pss_nil) (pss_cons (ps_set (i := 7) sc_l_right.nd rfl (Or.inl rfl) (pe_lst pa_nil)) (pss_cons (TK.ps_forZ (ps := ["code", "bits", "group"]) K_all_tests K_all_tests (hr.mono (by decide)) (hr.mono (by decide)) (fun _ _ z => z) rfl (by rfl) X.z_zip (by rfl) X.g_all_tests X.F_all_tests.kp X.b_all_tests (by rfl) X.g_all_tests X.F_all_tests.kp X.b_all_tests (pa_cons (pv 3) (pa_cons (pv 2) (pa_cons (pv 4) pa_nil))) (TK.sa_cons (TK.sv 3) (TK.sa_cons (TK.sv 2) (TK.sa_cons (TK.sv 4) TK.sa_nil))) (pg_tup rfl (pgs_cons (pg_name (i := 8) sc_l_right.nd rfl (Or.inl rfl)) (pgs_cons (pg_name (i := 9) sc_l_right.nd rfl (Or.inl rfl)) pgs_nil))) (pss_one (ps_expr (pe_bm PySem.F.plainAttrs_list PySem.F.slot_list_append PySem.F.type_list_append mt_append (pv 7) (pa_cons (pe_tup (pa_cons (pe_fld (pv 8) rfl) (pa_cons (pe_fld (pv 9) rfl) pa_nil))) pa_nil))))) (pss_cons (ps_if (pt_cmpR (op_neD hr.units) (pv 7) (pe_lc (own := [("_law_mask", 11), ("_law_value", 12)]) (g := (gTup K 2 (gCons (gName 11) (gCons (gName 12) gNil)))) (tt := tYes) (te := (tTup (tCons (tVar 11) (tCons (tVar 11) tNil)))) rfl sc_l_right.nd (pi_list (pv 5)) (blkOk_by (N := N_l_right) (sc := (defScope s_l_right)) (by decide +kernel)) (fun _ _ _ _ _ => (pg_tup rfl (pgs_cons (pg_name (i := 11) sc_l_right.nd rfl (Or.inl rfl)) (pgs_cons (pg_name (i := 12) sc_l_right.nd rfl (Or.inl rfl)) pgs_nil)))) (fun _ _ _ _ _ => pts_nil) (fun _ _ _ _ _ => (pe_tup (pa_cons (pv 11) (pa_cons (pv 11) pa_nil))))) (nomark _)) (pss_one (ps_ret pe_bl)) pss_nil) (pss_cons (ps_if (pt_cmpR (op_neD hr.units) (pe_lcGN (own := [("_law_test", 10)]) (tgt := (gName 10)) (tt := tYes) (te := (tFld K (tVar 10) "value")) G_all_tests (hr.mono (by decide)) rfl sc_l_right.nd (by rfl) X.g_all_tests X.F_all_tests.kp X.n0_all_tests (pk_cons (pv 4) (pk_cons (pv 2) (pk_cons (pv 3) pk_nil))) (blkOk_by (N := N_l_right) (sc := (defScope s_l_right)) (by decide +kernel)) (fun _ _ _ _ _ => (pg_name (i := 10) sc_l_right.nd rfl (Or.inl rfl))) (fun _ _ _ _ _ => pts_nil) (fun _ _ _ _ _ => (pe_fld (pv 10) rfl))) (pe_lc (own := [("_law_mask", 11), ("_law_value", 12)]) (g := (gTup K 2 (gCons (gName 11) (gCons (gName 12) gNil)))) (tt := tYes) (te := (tVar 12)) rfl sc_l_right.nd (pi_list (pv 5)) (blkOk_by (N := N_l_right) (sc := (defScope s_l_right)) (by decide +kernel)) (fun _ _ _ _ _ => (pg_tup rfl (pgs_cons (pg_name (i := 11) sc_l_right.nd rfl (Or.inl rfl)) (pgs_cons (pg_name (i := 12) sc_l_right.nd rfl (Or.inl rfl)) pgs_nil)))) (fun _ _ _ _ _ => pts_nil) (fun _ _ _ _ _ => (pv 12))) (nomark _)) (pss_one (ps_ret pe_bl)) pss_nil) (pss_one (ps_if (pt_cmpR op_ne (pe_callB (cr_repr hr) (by rfl) X.z_repr bt_repr (pa_cons (pe_tup (pa_cons (pv 3) (pa_cons (pv 4) pa_nil))) pa_nil)) (pv 6) (nomark _)) (pss_one (ps_ret pe_bl)) pss_nil)))))))))) (pss_one (ps_ret pe_bl))))), ?_⟩
  obtain ⟨⟨c, k⟩, r, W, h, hcore, har, hrt⟩ := h
  refine body hcore har (Nat.le_of_ble_eq_true rfl) ?_
  clear hcore har
  change m_l_right k = some r at h
  unfold m_l_right at h
  change NxT _ _ [some (sRef c), none, none, none, none, none, none, none, none, none, none, none, none] _ [(c, cCup k)]
  replace h := bindE h
  obtain ⟨r1, hr1, h⟩ := h
  replace h := bindE h
  obtain ⟨r2, hr2, h⟩ := h
  refine s_seq (s_par (ea_cons (e_opI0 (g := fun i j => i + j) (e_int ⟨_, rfl, (e_call (ea_cons (e_var (sl := (sRef c)) rfl fun _ => (ea_cons (e_int fun _ => (ea_nil ⟨(c, k, (7 : Int)), r1, [], hr1, rfl, rfl, ⟨_, rfl, fun _ => (ea_cons (e_call (ea_cons (e_var (sl := (sRef c)) rfl fun _ => (ea_cons (e_int fun _ => (ea_nil ⟨(c, r1.2, (8 : Int)), r2, [], hr2, rfl, rfl, fun _ => (ea_nil ⟨_, _, rfl, ?_⟩)⟩)))))))⟩⟩))))))⟩))))
  change NxT _ _ [some (sRef c), some (rInt.at ((1 : Int) + r1.1)), some (rInt.at r2.1), none, none, none, none, none, none, none, none, none, none] _ [(c, cCup r2.2)]
  replace h := bindE h
  obtain ⟨r3, hr3, h⟩ := h
  refine s_seq (s_set (e_call (ea_cons (e_var (sl := (sRef c)) rfl fun _ => (ea_cons (e_var (sl := (rInt.at ((1 : Int) + r1.1))) rfl fun _ => (ea_cons (e_var (sl := (rInt.at r2.1)) rfl fun _ => (ea_nil ⟨(c, r2.2, ((1 : Int) + r1.1), r2.1), r3, [], hr3, rfl, rfl, ?_⟩)))))))))
  change NxT _ _ [some (sRef c), some (rInt.at ((1 : Int) + r1.1)), some (rInt.at r2.1), some ((rTup rInt).at r3.1), none, none, none, none, none, none, none, none, none] _ [(c, cCup r3.2)]
  replace h := bindE h
  obtain ⟨r4, hr4, h⟩ := h
  replace h := bindE h
  obtain ⟨r5, hr5, h⟩ := h
  replace h := bindE h
  obtain ⟨t6, ht6, h⟩ := h
  replace h := bindE h
  obtain ⟨o41, ho41, h⟩ := h
  refine s_seq (for_sound (is := [4]) (i_tup (e_tup (ea_cons (e_call (ea_cons (e_var (sl := (sRef c)) rfl fun _ => (ea_cons (e_var (sl := (rInt.at ((1 : Int) + r1.1))) rfl fun _ => (ea_nil ⟨(c, r3.2, ((1 : Int) + r1.1)), r4, [], hr4, rfl, rfl, fun _ => (ea_cons (e_call (ea_cons (e_var (sl := (sRef c)) rfl fun _ => (ea_cons (e_var (sl := (rInt.at ((1 : Int) + r1.1))) rfl fun _ => (ea_nil ⟨(c, r4.2, ((1 : Int) + r1.1)), r5, [], hr5, rfl, rfl, fun _ => (ea_cons (e_tupRg (er_1 (e_var (sl := (rInt.at ((1 : Int) + r1.1))) rfl ⟨_, rfl, ⟨_, ht6, fun _ => (ea_cons (e_tup (ea_cons (e_int fun _ => (ea_nil ⟨_, rInt, ([(0 : Int)] : List Int), rfl, Nat.le_of_ble_eq_true rfl, fun _ => (ea_nil ⟨_, (rTup rInt), ([r4.1, r5.1, t6, ([(0 : Int)] : List Int)] : List (List Int)), rfl, Nat.le_of_ble_eq_true rfl, ⟨_, (rTup rInt), _, rfl, ⟨_, _, _, (rTup rInt), ([r4.1, r5.1, t6, ([(0 : Int)] : List Int)] : List (List Int)), (), _, o41, fun (b8 : Unit) => [some (sRef c), some (rInt.at ((1 : Int) + r1.1)), some (rInt.at r2.1), some ((rTup rInt).at r3.1), none, none, none, none, none, none, none, none, none], fun (b8 : Unit) => [(c, cCup r5.2)], rfl, ho41, (by exact (And.intro rfl (And.intro rfl (And.intro rfl (And.intro rfl True.intro))))), rfl, ?b42, ?_⟩⟩⟩)⟩)))))⟩⟩))))⟩)))))))⟩))))))))))
  case b42 =>
    have hR : ∀ z, o41 = .ret z → Rt Q W ((fun z => rBool.at z.1) z) ((fun z => [(c, cCup z.2)]) z) := fun z ez => by subst ez; have h := pureE h; subst h; exact hrt
    clear h
    intro T1 b8 x7 fl h N Bk hN hBk hz
    refine g_name ?_
    change NxT _ _ [some (sRef c), some (rInt.at ((1 : Int) + r1.1)), some (rInt.at r2.1), some ((rTup rInt).at r3.1), some ((rTup rInt).at x7), none, none, none, none, none, none, none, none] _ [(c, cCup r5.2)]
    replace h := bindE h
    obtain ⟨r9, hr9, h⟩ := h
    replace h := bindE h
    obtain ⟨t10, ht10, h⟩ := h
    refine s_seq (s_par (ea_cons (e_call (ea_cons (e_var (sl := ((rTup rInt).at r3.1)) rfl fun _ => (ea_cons (e_var (sl := (rInt.at r2.1)) rfl fun _ => (ea_cons (e_var (sl := ((rTup rInt).at x7)) rfl fun _ => (ea_nil ⟨(r3.1, r2.1, x7), r9, [(c, cCup r5.2)], hr9, rfl, rfl, fun _ => (ea_cons (e_repr (ea_cons (e_pair (ea_cons (e_var (sl := ((rTup rInt).at r3.1)) rfl fun _ => (ea_cons (e_var (sl := ((rTup rInt).at x7)) rfl fun _ => (ea_nil ⟨_, _, (rTup rInt), (rTup rInt), _, _, rfl, fun _ => (ea_nil ⟨_, inferInstance, _, (ePair (eTup eInt) (eTup eInt)), _, _, rfl, by decide, ht10, fun _ => (ea_nil ⟨_, _, rfl, ?_⟩)⟩)⟩)))))))))⟩))))))))))
    change NxT _ _ [some (sRef c), some (rInt.at ((1 : Int) + r1.1)), some (rInt.at r2.1), some ((rTup rInt).at r3.1), some ((rTup rInt).at x7), some ((rLst (rPair rInt rInt)).at r9), some (rStr.at t10), none, none, none, none, none, none] _ [(c, cCup r5.2)]
    replace h := bindE h
    obtain ⟨r11, hr11, h⟩ := h
    replace h := bindE h
    obtain ⟨t12, ht12, h⟩ := h
    refine s_seq (s_if (t_test (e_neD (lcG_sound (is := [10]) (by decide) (ea_cons (e_var (sl := ((rTup rInt).at r3.1)) rfl fun _ => (ea_cons (e_var (sl := (rInt.at r2.1)) rfl fun _ => (ea_cons (e_var (sl := ((rTup rInt).at x7)) rfl fun _ => (ea_nil ⟨_, _, r11, t12, (), fun (u : Unit) (x13 : (Int × Int)) => some (some (x13.1, x13.2), u), (t12.map fun (x13 : (Int × Int)) => (x13.1, x13.2)), (), (rPair rInt rInt), fun _ => [(c, cCup r5.2)], (fun _ _ ar => ⟨(r3.1, r2.1, x7), args_tups (allTup_cons (TupS.tup fun _ => TupS.int) (allTup_cons TupS.int (allTup_cons (TupS.tup fun _ => TupS.int) allTup_nil))) ar, hr11⟩), ht12, lcO_map _ _, rfl, ?b15, fun _ => (e_var (sl := ((rLst (rPair rInt rInt)).at r9)) rfl ⟨_, inferInstance, _, (eLst (ePair eInt eInt)), _, _, by decide, rfl, rfl, ⟨_, rfl, ⟨fun hc => ?_, fun hc => ?_⟩⟩⟩)⟩)))))))))))
    case b15 =>
      intro W1 T1 k14 x13 o u1 h
      refine g_name ?_
      cases h
      refine t_yes ⟨fun _ => ?_, fun z => nomatch z⟩
      refine (e_pair (ea_cons (e_fld (fl := fl_Test Z) 0 X.cl_Test X.na_Test_mask (nd_Test Z) (e_var (sl := ((rT_Test Z).at x13)) rfl ⟨_, _, rfl, rfl, fun _ => (ea_cons (e_fld (fl := fl_Test Z) 1 X.cl_Test X.na_Test_value (nd_Test Z) (e_var (sl := ((rT_Test Z).at x13)) rfl ⟨_, _, rfl, rfl, fun _ => (ea_nil ⟨_, _, rInt, rInt, _, _, rfl, ⟨_, rfl, rfl, rfl⟩⟩)⟩)))⟩))))
    · replace h := condT hc h
      replace h := pureE h
      subst h
      refine s_ret (e_bl ?_)
      exact Rt.drop (hR _ (hz _ rfl)) (.cons₂ _ .slnil)
    · replace h := condF hc h
      refine s_next ?_
      replace h := bindE h
      obtain ⟨r16, hr16, h⟩ := h
      replace h := bindE h
      obtain ⟨t19, ht19, h⟩ := h
      refine s_seq (s_if (t_test (e_neD (e_call (ea_cons (e_var (sl := ((rTup rInt).at r3.1)) rfl fun _ => (ea_cons (e_var (sl := (rInt.at r2.1)) rfl fun _ => (ea_cons (e_var (sl := ((rTup rInt).at x7)) rfl fun _ => (ea_nil ⟨(r3.1, r2.1, x7), r16, [(c, cCup r5.2)], hr16, rfl, rfl, fun _ => (e_if (c := (!(decide (r9 = ([] : List (Int × Int)))))) (sl := (rOpt (rPair rInt rInt)).at t19) (cs' := [(c, cCup r5.2)]) (t_test (e_neD (e_var (sl := ((rLst (rPair rInt rInt)).at r9)) rfl fun _ => (e_lst (ea_nil ⟨_, (rPair rInt rInt), ([] : List (Int × Int)), rfl, Nat.le_of_ble_eq_true rfl, ⟨_, inferInstance, _, (eLst (ePair eInt eInt)), _, _, by decide, rfl, rfl, ⟨_, rfl, ⟨rfl, ?b20, ?b21⟩⟩⟩⟩))))) ⟨_, inferInstance, _, (eOpt (ePair eInt eInt)), _, _, by decide, rfl, rfl, ⟨_, rfl, ⟨fun hc => ?_, fun hc => ?_⟩⟩⟩)⟩)))))))))))
      case b20 =>
        intro hc
        have h := condT hc ht19
        replace h := bindE h
        obtain ⟨t18, ht18, h⟩ := h
        replace h := pureE h
        subst h
        refine (e_ixL (e_var (sl := ((rLst (rPair rInt rInt)).at r9)) rfl fun _ => (e_int ⟨_, (rPair rInt rInt), _, _, _, rfl, rfl, ht18, ⟨rfl, rfl⟩⟩)))
      case b21 =>
        intro hc
        have h := condF hc ht19
        replace h := pureE h
        subst h
        refine (e_non ⟨rfl, rfl⟩)
      · replace h := condT hc h
        replace h := pureE h
        subst h
        refine s_ret (e_bl ?_)
        exact Rt.drop (hR _ (hz _ rfl)) (.cons₂ _ .slnil)
      · replace h := condF hc h
        refine s_next ?_
        refine s_seq (s_set (e_lstC (ea_nil ⟨_, (rPair rInt rInt), ([] : List (Int × Int)), rfl, Nat.le_of_ble_eq_true rfl, fun p__law_walk => ?_⟩)))
        change NxT _ _ [some (sRef c), some (rInt.at ((1 : Int) + r1.1)), some (rInt.at r2.1), some ((rTup rInt).at r3.1), some ((rTup rInt).at x7), some ((rLst (rPair rInt rInt)).at r9), some (rStr.at t10), some (sRef p__law_walk), none, none, none, none, none] _ [(c, cCup r5.2), (p__law_walk, cLst (rPair rInt rInt) ([] : List (Int × Int)))]
        replace h := bindE h
        obtain ⟨r22, hr22, h⟩ := h
        replace h := bindE h
        obtain ⟨r23, hr23, h⟩ := h
        replace h := bindE h
        obtain ⟨o27, ho27, h⟩ := h
        refine s_seq (foldZ_sound (is := [8, 9]) (ea_cons (e_var (sl := ((rTup rInt).at r3.1)) rfl fun _ => (ea_cons (e_var (sl := (rInt.at r2.1)) rfl fun _ => (ea_cons (e_var (sl := ((rTup rInt).at x7)) rfl fun _ => (ea_nil ⟨rfl, fun us => (ea_cons (e_var (sl := ((rTup rInt).at r3.1)) rfl fun _ => (ea_cons (e_var (sl := (rInt.at r2.1)) rfl fun _ => (ea_cons (e_var (sl := ((rTup rInt).at x7)) rfl fun _ => (ea_nil ⟨_, r22, r23, (([] : List (Int × Int))), (fun (b25 : ((List (Int × Int)))) (x24 : ((Int × Int) × (Int × Int))) => (((bind (oApp b25 (x24.1.1, x24.2.1)) fun l26 => pure (l26))) : Option ((List (Int × Int))))), o27, fun (b25 : ((List (Int × Int)))) => [some (sRef c), some (rInt.at ((1 : Int) + r1.1)), some (rInt.at r2.1), some ((rTup rInt).at r3.1), some ((rTup rInt).at x7), some ((rLst (rPair rInt rInt)).at r9), some (rStr.at t10), some (sRef p__law_walk), none, none, none, none, none], fun (b25 : ((List (Int × Int)))) => [(c, cCup r5.2), (p__law_walk, cLst (rPair rInt rInt) b25)], (fun _ _ ar => ⟨(r3.1, r2.1, x7), args_tups (allTup_cons (TupS.tup fun _ => TupS.int) (allTup_cons TupS.int (allTup_cons (TupS.tup fun _ => TupS.int) allTup_nil))) ar, hr22⟩), (fun _ _ ar => ⟨(r3.1, r2.1, x7), args_tups (allTup_cons (TupS.tup fun _ => TupS.int) (allTup_cons TupS.int (allTup_cons (TupS.tup fun _ => TupS.int) allTup_nil))) ar, hr23⟩), ho27, (by exact (And.intro rfl (And.intro rfl (And.intro rfl (And.intro rfl (And.intro rfl (And.intro rfl (And.intro rfl (And.intro rfl True.intro))))))))), rfl, ?b28, ?_⟩)))))))⟩))))))))
        case b28 =>
          clear h
          intro T1 b25 x24 b1 h N Bk hN
          refine g_pair ?_
          change NxT _ _ [some (sRef c), some (rInt.at ((1 : Int) + r1.1)), some (rInt.at r2.1), some ((rTup rInt).at r3.1), some ((rTup rInt).at x7), some ((rLst (rPair rInt rInt)).at r9), some (rStr.at t10), some (sRef p__law_walk), some ((rT_Test Z).at x24.1), some ((rT_Test Z).at x24.2), none, none, none] _ [(c, cCup r5.2), (p__law_walk, cLst (rPair rInt rInt) b25)]
          replace h := bindE h
          obtain ⟨l26, hl26, h⟩ := h
          refine (s_drop (e_append 1 (e_var (sl := (sRef p__law_walk)) rfl ⟨_, _, (rPair rInt rInt), _, rfl, rfl, fun _ => (ea_cons (e_pair (ea_cons (e_fld (fl := fl_Test Z) 0 X.cl_Test X.na_Test_mask (nd_Test Z) (e_var (sl := ((rT_Test Z).at x24.1)) rfl ⟨_, _, rfl, rfl, fun _ => (ea_cons (e_fld (fl := fl_Test Z) 0 X.cl_Test X.na_Test_mask (nd_Test Z) (e_var (sl := ((rT_Test Z).at x24.2)) rfl ⟨_, _, rfl, rfl, fun _ => (ea_nil ⟨_, _, rInt, rInt, _, _, rfl, fun _ => (ea_nil ⟨_, _, _, rfl, rfl, hl26, ?_⟩)⟩)⟩)))⟩)))))⟩)))
          change NxT _ _ [some (sRef c), some (rInt.at ((1 : Int) + r1.1)), some (rInt.at r2.1), some ((rTup rInt).at r3.1), some ((rTup rInt).at x7), some ((rLst (rPair rInt rInt)).at r9), some (rStr.at t10), some (sRef p__law_walk), some ((rT_Test Z).at x24.1), some ((rT_Test Z).at x24.2), none, none, none] _ [(c, cCup r5.2), (p__law_walk, cLst (rPair rInt rInt) l26)]
          replace h := pureE h
          subst h
          exact s_weak (by exact (And.intro rfl (And.intro rfl (And.intro rfl (And.intro rfl (And.intro rfl (And.intro rfl (And.intro rfl (And.intro rfl True.intro))))))))) (.cons₂ _ (.cons₂ _ .slnil)) hN
        change NxT _ _ [some (sRef c), some (rInt.at ((1 : Int) + r1.1)), some (rInt.at r2.1), some ((rTup rInt).at r3.1), some ((rTup rInt).at x7), some ((rLst (rPair rInt rInt)).at r9), some (rStr.at t10), some (sRef p__law_walk), none, none, none, none, none] _ [(c, cCup r5.2), (p__law_walk, cLst (rPair rInt rInt) o27)]
        refine s_seq (s_if (t_test (e_neC 1 (e_var (sl := (sRef p__law_walk)) rfl fun _ => (lc_sound (is := [11, 12]) (by decide) (i_lst (e_var (sl := ((rLst (rPair rInt rInt)).at r9)) rfl ⟨_, (rPair rInt rInt), _, rfl, ⟨_, _, _, (rPair rInt rInt), r9, (), fun (u : Unit) (x29 : (Int × Int)) => some (some (x29.1, x29.1), u), (r9.map fun (x29 : (Int × Int)) => (x29.1, x29.1)), (), (rPair rInt rInt), fun _ => [(c, cCup r5.2), (p__law_walk, cLst (rPair rInt rInt) o27)], rfl, lcO_map _ _, rfl, ?b31, ⟨_, inferInstance, _, (ePair eInt eInt), _, _, _, by decide, rfl, rfl, rfl, ⟨_, rfl, ⟨fun hc => ?_, fun hc => ?_⟩⟩⟩⟩⟩)))))))
        case b31 =>
          intro W1 T1 k30 x29 o u1 h
          refine g_pair ?_
          cases h
          refine t_yes ⟨fun _ => ?_, fun z => nomatch z⟩
          refine (e_pair (ea_cons (e_var (sl := (rInt.at x29.1)) rfl fun _ => (ea_cons (e_var (sl := (rInt.at x29.1)) rfl fun _ => (ea_nil ⟨_, _, rInt, rInt, _, _, rfl, ⟨_, rfl, rfl, rfl⟩⟩))))))
        · replace h := condT hc h
          replace h := pureE h
          subst h
          refine s_ret (e_bl ?_)
          exact Rt.drop (hR _ (hz _ rfl)) (.cons₂ _ (.cons _ .slnil))
        · replace h := condF hc h
          refine s_next ?_
          replace h := bindE h
          obtain ⟨r32, hr32, h⟩ := h
          replace h := bindE h
          obtain ⟨t33, ht33, h⟩ := h
          refine s_seq (s_if (t_test (e_neD (lcG_sound (is := [10]) (by decide) (ea_names (ea_cons (e_var (sl := ((rTup rInt).at x7)) rfl fun _ => (ea_cons (e_var (sl := (rInt.at r2.1)) rfl fun _ => (ea_cons (e_var (sl := ((rTup rInt).at r3.1)) rfl fun _ => (ea_nil ⟨rfl, ⟨_, _, r32, t33, (), fun (u : Unit) (x34 : (Int × Int)) => some (some x34.2, u), (t33.map fun (x34 : (Int × Int)) => x34.2), (), rInt, fun _ => [(c, cCup r5.2), (p__law_walk, cLst (rPair rInt rInt) o27)], (fun _ _ ar => ⟨(r3.1, r2.1, x7), args_tups (allTup_cons (TupS.tup fun _ => TupS.int) (allTup_cons TupS.int (allTup_cons (TupS.tup fun _ => TupS.int) allTup_nil))) ar, hr32⟩), ht33, lcO_map _ _, rfl, ?b36, fun _ => (lc_sound (is := [11, 12]) (by decide) (i_lst (e_var (sl := ((rLst (rPair rInt rInt)).at r9)) rfl ⟨_, (rPair rInt rInt), _, rfl, ⟨_, _, _, (rPair rInt rInt), r9, (), fun (u : Unit) (x37 : (Int × Int)) => some (some x37.2, u), (r9.map fun (x37 : (Int × Int)) => x37.2), (), rInt, fun _ => [(c, cCup r5.2), (p__law_walk, cLst (rPair rInt rInt) o27)], rfl, lcO_map _ _, rfl, ?b39, ⟨_, inferInstance, _, (eLst eInt), _, _, by decide, rfl, rfl, ⟨_, rfl, ⟨fun hc => ?_, fun hc => ?_⟩⟩⟩⟩⟩)))⟩⟩))))))))))))
          case b36 =>
            intro W1 T1 k35 x34 o u1 h
            refine g_name ?_
            cases h
            refine t_yes ⟨fun _ => ?_, fun z => nomatch z⟩
            refine (e_fld (fl := fl_Test Z) 1 X.cl_Test X.na_Test_value (nd_Test Z) (e_var (sl := ((rT_Test Z).at x34)) rfl ⟨_, _, rfl, rfl, ⟨_, rfl, rfl, rfl⟩⟩))
          case b39 =>
            intro W1 T1 k38 x37 o u1 h
            refine g_pair ?_
            cases h
            refine t_yes ⟨fun _ => ?_, fun z => nomatch z⟩
            refine (e_var (sl := (rInt.at x37.2)) rfl ⟨_, rfl, rfl, rfl⟩)
          · replace h := condT hc h
            replace h := pureE h
            subst h
            refine s_ret (e_bl ?_)
            exact Rt.drop (hR _ (hz _ rfl)) (.cons₂ _ (.cons _ .slnil))
          · replace h := condF hc h
            refine s_next ?_
            replace h := bindE h
            obtain ⟨t40, ht40, h⟩ := h
            refine (s_if (t_test (e_neS (e_repr (ea_cons (e_pair (ea_cons (e_var (sl := ((rTup rInt).at r3.1)) rfl fun _ => (ea_cons (e_var (sl := ((rTup rInt).at x7)) rfl fun _ => (ea_nil ⟨_, _, (rTup rInt), (rTup rInt), _, _, rfl, fun _ => (ea_nil ⟨_, inferInstance, _, (ePair (eTup eInt) (eTup eInt)), _, _, rfl, by decide, ht40, ⟨_, rfl, fun _ => (e_var (sl := (rStr.at t10)) rfl ⟨_, rfl, ⟨_, rfl, ⟨fun hc => ?_, fun hc => ?_⟩⟩⟩)⟩⟩)⟩)))))))))))
            · replace h := condT hc h
              replace h := pureE h
              subst h
              refine s_ret (e_bl ?_)
              exact Rt.drop (hR _ (hz _ rfl)) (.cons₂ _ (.cons _ .slnil))
            · replace h := condF hc h
              refine s_next ?_
              replace h := pureE h
              subst h
              exact s_weak (by exact (And.intro rfl (And.intro rfl (And.intro rfl (And.intro rfl True.intro))))) (.cons₂ _ (.cons _ .slnil)) (hN () rfl)
  intro g43 eg43
  subst eg43
  try dsimp only at h
  change NxT _ _ [some (sRef c), some (rInt.at ((1 : Int) + r1.1)), some (rInt.at r2.1), some ((rTup rInt).at r3.1), none, none, none, none, none, none, none, none, none] _ [(c, cCup r5.2)]
  replace h := pureE h
  subst h
  refine s_ret (e_bl ?_)
  exact Rt.drop hrt (.cons₂ _ .slnil)
def m_law (v_script : (List Int)) : Option Bool :=
  bind (oRange 0 (max (1 : Int) (min (3 : Int) (v_script.length : Int)))) fun t1 =>
  bind (loopO (fun (b3 : Unit) (x2 : Int) => (((bind (m_l_cup v_script x2) fun r4 => (bind (oRange 0 (5 : Int)) fun t6 => (bind (lcO (fun (k8 : Cup) (x7 : Int) => (((bind (m_l_right k8) fun r10 => pure (some r10.1, r10.2))) : Option (Option Bool × Cup))) t6 r4) fun t12 => (bif (!(t12.1.all id)) then (pure (Fl.ret false)) else (pure (Fl.go ()))))))) : Option (Fl Bool Unit))) t1 ()) fun o13 =>
  (match o13 with | .ret z => (pure z) | .go g15 => (pure true))
abbrev sp_law (K : PySem.W.Frag) : Sp := spM (ι := (List Int)) (β := Bool) (fun i => [(rScr K).at i]) (fun i => []) (fun i => m_law i) (fun i b => rBool.at b) (fun i b => [])
abbrev N_law : List Str := ["_law_script", "_law_k", "_law_cup_here", "_law_turn"]
theorem sc_law : FnScope N_law ["_law_script"] (defScope s_law) := ⟨rfl, rfl, rfl, by decide +kernel, rfl, by decide +kernel, by decide +kernel⟩
theorem ok_law {P : Program} {w : World} {K : PySem.W.Frag} {Z : Ads} {mg : Str → Option Value} {base : Heap} (X : Tx K mg Z) (G_l_cup : FnG P w K mg base CX0 1 X.f_l_cup X.d_l_cup ["_law_script", "_law_k"] (sp_l_cup K Z)) (G_l_right : FnG P w K mg base CX0 9 X.f_l_right X.d_l_right ["_law_cup_here"] (sp_l_right K Z)) : FnG P w K mg base CX0 10 X.f_law X.d_law ["_law_script"] (sp_law K) := by
  refine okG X.F_law sc_law (fun vs H Q E h => spM_len h fun _ => rfl) (fun cdv A outer s H vs Q E hr h => ?_)
  refine ⟨(tSeq (tFor (iRng1 (tCons (tCB rdMax2 (tCons (tC (.int 1)) (tCons (tCB rdMin2 (tCons (tC (.int 3)) (tCons (tCB (rdLen K) (tCons (tVar 0) tNil)) tNil))) tNil))) tNil)) (gName 1) (tSeq (tAsg (tCall (sp_l_cup K Z) [] E0 (tCons (tVar 0) (tCons (tVar 1) tNil))) (gName 2)) (tIfS (tNot (tB (tCB (rAll K) (tCons (tLc (iRng1 (tCons (tC (.int 5)) tNil)) (gName 3) tYes (tCall (sp_l_right K Z) [] E0 (tCons (tVar 2) tNil)) [3]) tNil)))) (tRet (tC (.bl false))) tNext))) (tRet (tC (.bl true)))), (pss_cons (ps_for PassesOwn.never rfl (pi_range1 (by rfl) X.z_range (pa_cons (pe_callB (call_max2 rfl) (by rfl) X.z_max bt_max (pa_cons pe_int (pa_cons (pe_callB (call_min2 rfl) (by rfl) X.z_min bt_min (pa_cons pe_int (pa_cons (pe_callB call_len_seq (by rfl) X.z_len bt_len (pa_cons (pv 0) pa_nil)) pa_nil))) pa_nil))) pa_nil)) (pg_name (i := 1) sc_law.nd rfl (Or.inl rfl)) (pss_cons (ps_set (i := 2) sc_law.nd rfl (Or.inr rfl) (pe_callG (G_l_cup) (hr.mono (by decide)) (by rfl) X.g_l_cup X.F_l_cup.kp X.b_l_cup .nil pass0 (pa_cons (pv 0) (pa_cons (pv 1) pa_nil)))) (pss_one (ps_if (pt_not (pt_val (pe_callB (cr_all rfl) (by rfl) X.z_all bt_all (pa_cons (pe_lc (own := [("_law_turn", 3)]) (g := (gName 3)) (tt := tYes) (te := (tCall (sp_l_right K Z) [] E0 (tCons (tVar 2) tNil))) rfl sc_law.nd (pi_range1 (by rfl) X.z_range (pa_cons pe_int pa_nil)) (blkOk_by (N := N_law) (sc := (defScope s_law)) (by decide +kernel)) (fun _ _ _ _ _ => (pg_name (i := 3) sc_law.nd rfl (Or.inl rfl))) (fun _ _ _ _ _ => pts_nil) (fun _ _ _ _ _ => (pe_callG (G_l_right) (hr.mono (by decide)) (by rfl) X.g_l_right X.F_l_right.kp X.b_l_right .nil pass0 (pa_cons (pv 2) pa_nil)))) pa_nil)))) (pss_one (ps_ret pe_bl)) pss_nil)))) (pss_one (ps_ret pe_bl))), ?_⟩
  obtain ⟨v_script, r, W, h, hcore, har, hrt⟩ := h
  refine body hcore har (Nat.le_of_ble_eq_true rfl) ?_
  clear hcore har
  change m_law v_script = some r at h
  unfold m_law at h
  change NxT _ _ [some ((rScr K).at v_script), none, none, none] _ []
  replace h := bindE h
  obtain ⟨t1, ht1, h⟩ := h
  replace h := bindE h
  obtain ⟨o13, ho13, h⟩ := h
  refine s_seq (for_sound (is := [1]) (i_range1 (ea_cons (e_max2 (ea_cons (e_int fun _ => (ea_cons (e_min2 (ea_cons (e_int fun _ => (ea_cons (e_lenS (ea_cons (e_var (sl := ((rScr K).at v_script)) rfl fun _ => (ea_nil ⟨_, rfl, fun _ => (ea_nil ⟨_, _, rfl, fun _ => (ea_nil ⟨_, _, rfl, fun _ => (ea_nil ⟨_, _, rfl, ht1, ⟨_, _, _, rInt, t1, (), _, o13, fun (b3 : Unit) => [some ((rScr K).at v_script), none, none, none], fun (b3 : Unit) => [], rfl, ho13, (by exact (And.intro rfl True.intro)), rfl, ?b14, ?_⟩⟩)⟩)⟩)⟩)))))))))))))))
  case b14 =>
    have hR : ∀ z, o13 = .ret z → Rt Q W ((fun z => rBool.at z) z) ((fun z => []) z) := fun z ez => by subst ez; have h := pureE h; subst h; exact hrt
    clear h
    intro T1 b3 x2 fl h N Bk hN hBk hz
    refine g_name ?_
    change NxT _ _ [some ((rScr K).at v_script), some (rInt.at x2), none, none] _ []
    replace h := bindE h
    obtain ⟨r4, hr4, h⟩ := h
    refine s_seq (s_set (e_callC (ea_cons (e_var (sl := ((rScr K).at v_script)) rfl fun _ => (ea_cons (e_var (sl := (rInt.at x2)) rfl fun _ => (ea_nil ⟨(v_script, x2), r4, [], hr4, rfl, rfl, fun p5 => ?_⟩)))))))
    change NxT _ _ [some ((rScr K).at v_script), some (rInt.at x2), some (sRef p5), none] _ [(p5, cCup r4)]
    replace h := bindE h
    obtain ⟨t6, ht6, h⟩ := h
    replace h := bindE h
    obtain ⟨t12, ht12, h⟩ := h
    refine (s_if (t_not (t_val (e_all (ea_cons (lc_sound (is := [3]) (by decide) (i_range1 (ea_cons (e_int fun _ => (ea_nil ⟨_, _, rfl, ht6, ⟨_, _, _, rInt, t6, r4, _, t12.1, t12.2, rBool, fun k => [(p5, cCup k)], rfl, ht12, rfl, ?b11, fun _ => (ea_nil ⟨_, rfl, ⟨_, rfl, ⟨fun hc => ?_, fun hc => ?_⟩⟩⟩)⟩⟩))))))))))
    case b11 =>
      intro W1 T1 k8 x7 o u1 h
      refine g_name ?_
      replace h := bindE h
      obtain ⟨r10, hr10, h⟩ := h
      replace h := pureE h
      cases h
      refine t_yes ⟨fun _ => ?_, fun z => nomatch z⟩
      refine (e_call (ea_cons (e_var (sl := (sRef p5)) rfl fun _ => (ea_nil ⟨(p5, k8), r10, [], hr10, rfl, rfl, ⟨_, rfl, rfl, rfl⟩⟩))))
    · replace h := condT hc h
      replace h := pureE h
      subst h
      refine s_ret (e_bl ?_)
      exact Rt.drop (hR _ (hz _ rfl)) (.cons _ .slnil)
    · replace h := condF hc h
      refine s_next ?_
      replace h := pureE h
      subst h
      exact s_weak (by exact (And.intro rfl True.intro)) (.cons _ .slnil) (hN () rfl)
  intro g15 eg15
  subst eg15
  try dsimp only at h
  change NxT _ _ [some ((rScr K).at v_script), none, none, none] _ []
  replace h := pureE h
  subst h
  refine s_ret (e_bl ?_)
  exact Rt.drop hrt .slnil
theorem tk_is_natural {P : Program} {w : World} {K : PySem.W.Frag} {Z : Ads} {mg : Str → Option Value} {base : Heap} (X : Tx K mg Z) : TK.FnG P w K mg base CX0 1 X.f_is_natural X.d_is_natural ["value"] (sp_is_natural K Z) := by
  refine TK.okG X.F_is_natural sc_is_natural (fun vs H Q E h => spM_len h fun _ => rfl) (fun cdv A outer s H vs Q E hr h => ?_)
  refine ⟨(tRet (tAndV (tCB (rIsi K) (tCons (tVar 0) (tCons (tC (.ty "int")) tNil))) (tAndV (tNotV (tCB (rIsi K) (tCons (tVar 0) (tCons (tC (.ty "bool")) tNil)))) (tOp rdGe (tVar 0) (tC (.int 0)))))), (TK.pss_one (TK.ps_ret (TK.pe_and (TK.pe_callB TK.call_isi (by rfl) X.z_isinstance bt_isinstance (TK.pa_cons (TK.pv 0) (TK.pa_cons (TK.pe_bltn (by rfl) X.z_int bt_int rfl) TK.pa_nil))) (TK.pe_and (TK.pe_not (TK.pe_callB TK.call_isi (by rfl) X.z_isinstance bt_isinstance (TK.pa_cons (TK.pv 0) (TK.pa_cons (TK.pe_bltn (by rfl) X.z_bool bt_bool rfl) TK.pa_nil)))) (TK.pe_one (TK.pe_cmpR TK.op_ge (TK.pv 0) TK.pe_int (nomark _))))))), ?_⟩
  obtain ⟨v_value, r, W, h, hcore, har, hrt⟩ := h
  refine body hcore har (Nat.le_of_ble_eq_true rfl) ?_
  clear hcore har
  change m_is_natural v_value = some r at h
  unfold m_is_natural at h
  change NxT _ _ [some (rInt.at v_value)] _ []
  replace h := pureE h
  subst h
  refine s_ret (e_and (c := true) (d := (true && ((!false) && (decide ((0 : Int) ≤ v_value))))) (e_isi (n := "int") (c := "int") (b := true) (ea_cons (e_var (sl := (rInt.at v_value)) rfl fun _ => (ea_cons (e_cls (fun _ => (ea_nil ⟨_, _, _, tyInt, rfl, by first | rfl | decide +kernel, ⟨rfl, fun hc => (e_and (c := (!false)) (d := ((!false) && (decide ((0 : Int) ≤ v_value)))) (e_not (e_isi (n := "int") (c := "bool") (b := false) (ea_cons (e_var (sl := (rInt.at v_value)) rfl fun _ => (ea_cons (e_cls (fun _ => (ea_nil ⟨_, _, _, tyInt, rfl, by first | rfl | decide +kernel, ⟨_, rfl, ⟨rfl, fun hc => (e_opB0 (g := fun i j => decide (j ≤ i)) (e_var (sl := (rInt.at v_value)) rfl ⟨_, rfl, (e_int ⟨_, rfl, ⟨congrArg rBool.at (andT hc).symm, rfl⟩⟩)⟩)), fun hc => ⟨andF hc, rfl⟩⟩⟩⟩)))))))) ⟨congrArg rBool.at (andT hc).symm, rfl⟩), fun hc => ⟨andF hc, rfl⟩⟩⟩))))))) ?_)
  exact Rt.drop hrt .slnil
theorem tk_Test_init {P : Program} {w : World} {K : PySem.W.Frag} {Z : Ads} {mg : Str → Option Value} {base : Heap} (X : Tx K mg Z) (K_is_natural : TK.FnG P w K mg base CX0 1 X.f_is_natural X.d_is_natural ["value"] (sp_is_natural K Z)) : TK.FnG P w K mg base CX0 2 X.f_Test_init X.d_Test_init ["self", "mask", "value"] (sp_Test_init K Z) := by
  refine TK.okG X.F_Test_init sc_Test_init (fun vs H Q E h => spM_len h fun _ => rfl) (fun cdv A outer s H vs Q E hr h => ?_)
  refine ⟨(tSeq (tIfS (tOr (tNot (tB (tCall (sp_is_natural K Z) [] E0 (tCons (tVar 1) tNil)))) (tOr (tNot (tB (tCall (sp_is_natural K Z) [] E0 (tCons (tVar 2) tNil)))) (tTest (tOp rNe (tOp rdAnd (tVar 2) (tVar 1)) (tVar 2))))) tNo tNext) (tSeq (sFld K (tVar 0) (tVar 1) "mask") (sFld K (tVar 0) (tVar 2) "value"))), (TK.pss_cons (TK.ps_if (TK.PW.pt (TK.pw_or (TK.pt_not (TK.pt_val (TK.pe_callG (K_is_natural) (hr.mono (by decide)) (by rfl) X.g_is_natural X.F_is_natural.kp X.b_is_natural .nil pass0 (TK.pa_cons (TK.pv 1) TK.pa_nil)))) (TK.pw_or (TK.pt_not (TK.pt_val (TK.pe_callG (K_is_natural) (hr.mono (by decide)) (by rfl) X.g_is_natural X.F_is_natural.kp X.b_is_natural .nil pass0 (TK.pa_cons (TK.pv 2) TK.pa_nil)))) (TK.pw_or1 (TK.pt_cmpR TK.op_ne (TK.pe_op TK.op_and (TK.pv 2) (TK.pv 1)) (TK.pv 2) (nomark _)))))) (TK.pss_one TK.ps_no) TK.pss_nil) (TK.pss_cons (TK.ps_fld (TK.pv 0) (TK.pv 1) rfl) (TK.pss_one (TK.ps_fld (TK.pv 0) (TK.pv 2) rfl)))), ?_⟩
  obtain ⟨⟨c, v_mask, v_value⟩, r, W, h, hcore, har, hrt⟩ := h
  refine body hcore har (Nat.le_of_ble_eq_true rfl) ?_
  clear hcore har
  change m_Test_init v_mask v_value = some r at h
  unfold m_Test_init at h
  change NxT _ _ [some (sRef c), some (rInt.at v_mask), some (rInt.at v_value)] _ [(c, cObj Z.C_Test [])]
  replace h := bindE h
  obtain ⟨r1, hr1, h⟩ := h
  replace h := bindE h
  obtain ⟨t3, ht3, h⟩ := h
  refine s_seq (s_if (t_or (c := (!r1)) (d := t3) (t_not (t_val (e_call (ea_cons (e_var (sl := (rInt.at v_mask)) rfl fun _ => (ea_nil ⟨v_mask, r1, [(c, cObj Z.C_Test [])], hr1, rfl, rfl, ⟨_, rfl, ⟨rfl, ?b4, fun hc => ⟨pureE' (condT hc ht3), rfl⟩⟩⟩⟩)))))) ⟨fun hc => ?_, fun hc => ?_⟩))
  case b4 =>
    intro hc
    have h := condF hc ht3
    replace h := bindE h
    obtain ⟨r2, hr2, h⟩ := h
    replace h := pureE h
    subst h
    refine (t_or (c := (!r2)) (d := ((!r2) || (!decide ((Builtin.bitAnd v_value v_mask) = v_value)))) (t_not (t_val (e_call (ea_cons (e_var (sl := (rInt.at v_value)) rfl fun _ => (ea_nil ⟨v_value, r2, [(c, cObj Z.C_Test [])], hr2, rfl, rfl, ⟨_, rfl, ⟨rfl, fun hc => (t_test (e_neI (e_opI0 (g := Builtin.bitAnd) (e_var (sl := (rInt.at v_value)) rfl ⟨_, rfl, (e_var (sl := (rInt.at v_mask)) rfl ⟨_, rfl, ⟨_, rfl, (e_var (sl := (rInt.at v_value)) rfl ⟨_, rfl, ⟨_, rfl, ⟨(orF hc).symm, rfl⟩⟩⟩)⟩⟩)⟩)))), fun hc => ⟨orT hc, rfl⟩⟩⟩⟩)))))) ⟨rfl, rfl⟩)
  · replace h := condT hc h
    cases h
  · replace h := condF hc h
    refine s_next ?_
    refine s_seq (s_fld 0 X.cl_Test X.na_Test_mask (e_var (sl := (rInt.at v_mask)) rfl fun _ => (e_var (sl := (sRef c)) rfl ⟨_, _, _, rfl, rfl, (show (0 : Nat) < 1000 by decide), .nil, ?_⟩)))
    change NxT _ _ [some (sRef c), some (rInt.at v_mask), some (rInt.at v_value)] _ [(c, cObj Z.C_Test [("mask", (rInt.at v_mask))])]
    refine (s_fld 0 X.cl_Test X.na_Test_value (e_var (sl := (rInt.at v_value)) rfl fun _ => (e_var (sl := (sRef c)) rfl ⟨_, _, _, rfl, rfl, (show (1 : Nat) < 1000 by decide), (.next (by decide +kernel) .nil), ?_⟩)))
    change NxT _ _ [some (sRef c), some (rInt.at v_mask), some (rInt.at v_value)] _ [(c, cObj Z.C_Test [("mask", (rInt.at v_mask)), ("value", (rInt.at v_value))])]
    replace h := pureE h
    subst h
    refine s_fallN (Rt.drop hrt (.cons₂ _ .slnil))
theorem tk_Test_call {P : Program} {w : World} {K : PySem.W.Frag} {Z : Ads} {mg : Str → Option Value} {base : Heap} (X : Tx K mg Z) : TK.FnG P w K mg base CX0 1 X.f_Test_call X.d_Test_call ["self", "number"] (sp_Test_call K Z) := by
  refine TK.okG X.F_Test_call sc_Test_call (fun vs H Q E h => spM_len h fun _ => rfl) (fun cdv A outer s H vs Q E hr h => ?_)
  refine ⟨(tRet (tOp rEq (tOp rdAnd (tVar 1) (tFld K (tVar 0) "mask")) (tFld K (tVar 0) "value"))), (TK.pss_one (TK.ps_ret (TK.pe_cmpR TK.op_eq (TK.pe_op TK.op_and (TK.pv 1) (TK.pe_fld (TK.pv 0) rfl)) (TK.pe_fld (TK.pv 0) rfl) (nomark _)))), ?_⟩
  obtain ⟨⟨v_self, v_number⟩, r, W, h, hcore, har, hrt⟩ := h
  refine body hcore har (Nat.le_of_ble_eq_true rfl) ?_
  clear hcore har
  change m_Test_call v_self v_number = some r at h
  unfold m_Test_call at h
  change NxT _ _ [some ((rT_Test Z).at v_self), some (rInt.at v_number)] _ []
  replace h := pureE h
  subst h
  refine s_ret (e_eqI (e_opI0 (g := Builtin.bitAnd) (e_var (sl := (rInt.at v_number)) rfl ⟨_, rfl, (e_fld (fl := fl_Test Z) 0 X.cl_Test X.na_Test_mask (nd_Test Z) (e_var (sl := ((rT_Test Z).at v_self)) rfl ⟨_, _, rfl, rfl, ⟨_, rfl, ⟨_, rfl, (e_fld (fl := fl_Test Z) 1 X.cl_Test X.na_Test_value (nd_Test Z) (e_var (sl := ((rT_Test Z).at v_self)) rfl ⟨_, _, rfl, rfl, ⟨_, rfl, ?_⟩⟩))⟩⟩⟩))⟩)))
  exact Rt.drop hrt .slnil
theorem tk_least_test {P : Program} {w : World} {K : PySem.W.Frag} {Z : Ads} {mg : Str → Option Value} {base : Heap} (X : Tx K mg Z) (K_Test_init : TK.FnG P w K mg base CX0 2 X.f_Test_init X.d_Test_init ["self", "mask", "value"] (sp_Test_init K Z)) : TK.FnG P w K mg base CX0 4 X.f_least_test X.d_least_test ["numbers", "bits"] (sp_least_test K Z) := by
  refine TK.okG X.F_least_test sc_least_test (fun vs H Q E h => spM_len h fun _ => rfl) (fun cdv A outer s H vs Q E hr h => ?_)
  refine ⟨(tSeq (tAsg (tOp rdSub (tOp rdShl (tC (.int 1)) (tVar 1)) (tC (.int 1))) (gName 2)) (tSeq (tFor (iTup K (tVar 0)) (gName 3) (tAug 2 (tUn rdInv (tOp rdXor (tVar 3) (tOp (rIxT K) (tVar 0) (tC (.int 0))))) rdAnd)) (tRet (tMake Z.C_Test (sp_Test_init K Z) [] E0 (tCons (tVar 2) (tCons (tOp rdAnd (tOp (rIxT K) (tVar 0) (tC (.int 0))) (tVar 2)) tNil)))))), (TK.pss_cons (TK.ps_set (i := 2) sc_least_test.nd rfl (Or.inl rfl) (TK.pe_op TK.op_sub (TK.pe_op TK.op_shlW TK.pe_int (TK.pv 1)) TK.pe_int)) (TK.pss_cons (TK.ps_for PassesOwn.never rfl (TK.pi_tup (TK.pv 0)) (TK.pg_name (i := 3) sc_least_test.nd rfl (Or.inl rfl)) (TK.pss_one (TK.ps_aug (i := 2) sc_least_test.nd rfl (Or.inl rfl) (TK.pe_un TK.un_inv (TK.pe_op TK.op_xor (TK.pv 3) (TK.pe_ix TK.ix_tup (TK.pv 0) TK.pe_int (fun _ _ => rfl)))) TK.iop_and))) (TK.pss_one (TK.ps_ret (TK.pe_makeG X.mk_Test K_Test_init (hr.mono (by decide)) (by rfl) X.gc_Test X.b_Test_init .nil pass0 (TK.pa_cons (TK.pv 2) (TK.pa_cons (TK.pe_op TK.op_and (TK.pe_ix TK.ix_tup (TK.pv 0) TK.pe_int (fun _ _ => rfl)) (TK.pv 2)) TK.pa_nil))))))), ?_⟩
  obtain ⟨⟨v_numbers, v_bits⟩, r, W, h, hcore, har, hrt⟩ := h
  refine body hcore har (Nat.le_of_ble_eq_true rfl) ?_
  clear hcore har
  change m_least_test v_numbers v_bits = some r at h
  unfold m_least_test at h
  change NxT _ _ [some ((rTup rInt).at v_numbers), some (rInt.at v_bits), none, none] _ []
  replace h := bindE h
  obtain ⟨t1, ht1, h⟩ := h
  refine s_seq (s_set (e_opI0 (g := fun i j => i - j) (e_opO oShl_ok (e_int ⟨_, rfl, (e_var (sl := (rInt.at v_bits)) rfl ⟨_, _, rfl, ht1, ⟨_, rfl, (e_int ⟨_, rfl, ?_⟩)⟩⟩)⟩))))
  change NxT _ _ [some ((rTup rInt).at v_numbers), some (rInt.at v_bits), some (rInt.at (t1 - (1 : Int))), none] _ []
  replace h := bindE h
  obtain ⟨o5, ho5, h⟩ := h
  refine s_seq (fold_sound (is := [3]) (i_tup (e_var (sl := ((rTup rInt).at v_numbers)) rfl ⟨_, rInt, _, rfl, ⟨_, _, rInt, v_numbers, ((t1 - (1 : Int))), _, o5, fun (b3 : (Int)) => [some ((rTup rInt).at v_numbers), some (rInt.at v_bits), some (rInt.at b3), none], fun (b3 : (Int)) => [], rfl, ho5, (by exact (And.intro rfl (And.intro rfl (And.intro rfl True.intro)))), rfl, ?b6, ?_⟩⟩)))
  case b6 =>
    clear h
    intro T1 b3 x2 b1 h N Bk hN
    refine g_name ?_
    change NxT _ _ [some ((rTup rInt).at v_numbers), some (rInt.at v_bits), some (rInt.at b3), some (rInt.at x2)] _ []
    replace h := bindE h
    obtain ⟨t4, ht4, h⟩ := h
    refine (s_augI0 (g := Builtin.bitAnd) rfl (e_un (g := Builtin.bitNot) (e_opI0 (g := Builtin.bitXor) (e_var (sl := (rInt.at x2)) rfl ⟨_, rfl, (e_ixT (e_var (sl := ((rTup rInt).at v_numbers)) rfl fun _ => (e_int ⟨_, rInt, _, _, _, rfl, rfl, ht4, ⟨_, rfl, ⟨_, rfl, ⟨_, rfl, ?_⟩⟩⟩⟩)))⟩))))
    change NxT _ _ [some ((rTup rInt).at v_numbers), some (rInt.at v_bits), some (rInt.at (Builtin.bitAnd b3 (Builtin.bitNot (Builtin.bitXor x2 t4)))), some (rInt.at x2)] _ []
    replace h := pureE h
    subst h
    exact s_weak (by exact (And.intro rfl (And.intro rfl (And.intro rfl True.intro)))) .slnil hN
  change NxT _ _ [some ((rTup rInt).at v_numbers), some (rInt.at v_bits), some (rInt.at o5), none] _ []
  replace h := bindE h
  obtain ⟨t7, ht7, h⟩ := h
  replace h := bindE h
  obtain ⟨r8, hr8, h⟩ := h
  replace h := pureE h
  subst h
  refine s_ret (e_makeF (ι := (Int × Int)) (β := (Int × Int)) (C := Z.C_Test) (E := E0) (fl := fl_Test Z) (A := fun p i => [sRef p, rInt.at i.1, rInt.at i.2]) (m := fun i => m_Test_init i.1 i.2) (ea_cons (e_var (sl := (rInt.at o5)) rfl fun _ => (ea_cons (e_opI0 (g := Builtin.bitAnd) (e_ixT (e_var (sl := ((rTup rInt).at v_numbers)) rfl fun _ => (e_int ⟨_, rInt, _, _, _, rfl, rfl, ht7, ⟨_, rfl, (e_var (sl := (rInt.at o5)) rfl ⟨_, rfl, fun _ => (ea_nil ⟨(o5, (Builtin.bitAnd t7 o5)), _, hr8, fun _ => rfl, ?_⟩)⟩)⟩⟩))))))))
  exact Rt.drop hrt .slnil
theorem tk_numbers_of {P : Program} {w : World} {K : PySem.W.Frag} {Z : Ads} {mg : Str → Option Value} {base : Heap} (X : Tx K mg Z) : TK.FnG P w K mg base CX0 1 X.f_numbers_of X.d_numbers_of ["code", "group"] (sp_numbers_of K Z) := by
  refine TK.okG X.F_numbers_of sc_numbers_of (fun vs H Q E h => spM_len h fun _ => rfl) (fun cdv A outer s H vs Q E hr h => ?_)
  refine ⟨(tRet (tCB (rdTupleOf K) (tCons (tLc (iTup K (tVar 1)) (gName 2) tYes (tOp (rIxT K) (tVar 0) (tVar 2)) [2]) tNil))), (TK.pss_one (TK.ps_ret (TK.pe_callTy TK.call_tuple_of (by rfl) X.z_tuple bt_tuple (TK.pa_cons (TK.pe_lc (own := [("kind", 2)]) (g := (gName 2)) (tt := tYes) (te := (tOp (rIxT K) (tVar 0) (tVar 2))) rfl sc_numbers_of.nd (TK.pi_tup (TK.pv 1)) (blkOk_by (N := N_numbers_of) (sc := (defScope s_numbers_of)) (by decide +kernel)) (fun _ _ _ _ _ => (TK.pg_name (i := 2) sc_numbers_of.nd rfl (Or.inl rfl))) (fun _ _ _ _ _ => TK.pts_nil) (fun _ _ _ _ _ => (TK.pe_ix TK.ix_tup (TK.pv 0) (TK.pv 2) (fun _ _ => rfl)))) TK.pa_nil)))), ?_⟩
  obtain ⟨⟨v_code, v_group⟩, r, W, h, hcore, har, hrt⟩ := h
  refine body hcore har (Nat.le_of_ble_eq_true rfl) ?_
  clear hcore har
  change m_numbers_of v_code v_group = some r at h
  unfold m_numbers_of at h
  change NxT _ _ [some ((rTup rInt).at v_code), some ((rTup rInt).at v_group), none] _ []
  replace h := bindE h
  obtain ⟨t5, ht5, h⟩ := h
  replace h := pureE h
  subst h
  refine s_ret (e_tupL (ea_cons (lc_sound (is := [2]) (by decide) (i_tup (e_var (sl := ((rTup rInt).at v_group)) rfl ⟨_, rInt, _, rfl, ⟨_, _, _, rInt, v_group, (), _, t5, (), rInt, fun _ => [], rfl, lcO_mapO _ _ _ ht5, rfl, ?b4, fun _ => (ea_nil ⟨_, rInt, _, rfl, ?_⟩)⟩⟩)))))
  case b4 =>
    intro W1 T1 k2 x1 o u1 h
    obtain ⟨h, _⟩ := mapU h
    refine g_name ?_
    replace h := bindE h
    obtain ⟨t3, ht3, h⟩ := h
    replace h := pureE h
    subst h
    refine t_yes ⟨fun _ => ?_, fun z => nomatch z⟩
    refine (e_ixT (e_var (sl := ((rTup rInt).at v_code)) rfl fun _ => (e_var (sl := (rInt.at x1)) rfl ⟨_, rInt, _, _, _, rfl, rfl, ht3, ⟨_, rfl, rfl, rfl⟩⟩)))
  exact Rt.drop hrt .slnil
theorem tk_tells_by {P : Program} {w : World} {K : PySem.W.Frag} {Z : Ads} {mg : Str → Option Value} {base : Heap} (X : Tx K mg Z) (K_Test_call : TK.FnG P w K mg base CX0 1 X.f_Test_call X.d_Test_call ["self", "number"] (sp_Test_call K Z)) : TK.FnG P w K mg base CX0 2 X.f_tells_by X.d_tells_by ["code", "group", "test"] (sp_tells_by K Z) := by
  refine TK.okG X.F_tells_by sc_tells_by (fun vs H Q E h => spM_len h fun _ => rfl) (fun cdv A outer s H vs Q E hr h => ?_)
  refine ⟨(tRet (tCB (rAll K) (tCons (tLc (iEnumT K (tCons (tVar 0) tNil)) (gTup K 2 (gCons (gName 3) (gCons (gName 4) gNil))) tYes (tOp rEq (tCallOb Z.C_Test (sp_Test_call K Z) [] E0 (tVar 2) (tCons (tVar 4) tNil)) (tOp (rIn K false) (tVar 3) (tVar 1))) [3, 4]) tNil))), (TK.pss_one (TK.ps_ret (TK.pe_callB (TK.cr_all rfl) (by rfl) X.z_all bt_all (TK.pa_cons (TK.pe_lc (own := [("kind", 3), ("number", 4)]) (g := (gTup K 2 (gCons (gName 3) (gCons (gName 4) gNil)))) (tt := tYes) (te := (tOp rEq (tCallOb Z.C_Test (sp_Test_call K Z) [] E0 (tVar 2) (tCons (tVar 4) tNil)) (tOp (rIn K false) (tVar 3) (tVar 1)))) rfl sc_tells_by.nd (TK.pi_enumT (by rfl) X.z_enumerate (TK.pa_cons (TK.pv 0) TK.pa_nil)) (blkOk_by (N := N_tells_by) (sc := (defScope s_tells_by)) (by decide +kernel)) (fun _ _ _ _ _ => (TK.pg_tup rfl (TK.pgs_cons (TK.pg_name (i := 3) sc_tells_by.nd rfl (Or.inl rfl)) (TK.pgs_cons (TK.pg_name (i := 4) sc_tells_by.nd rfl (Or.inl rfl)) TK.pgs_nil)))) (fun _ _ _ _ _ => TK.pts_nil) (fun _ _ _ _ _ => (TK.pe_cmpR TK.op_eq (TK.pe_callOG (TK.pv 2) X.dm_Test_call K_Test_call (hr.mono (by decide)) X.b_Test_call .nil pass0 (TK.pa_cons (TK.pv 4) TK.pa_nil)) (TK.pe_cmpR TK.op_in_seq (TK.pv 3) (TK.pv 1) (by with_unfolding_all rfl)) (nomark _)))) TK.pa_nil)))), ?_⟩
  obtain ⟨⟨v_code, v_group, v_test⟩, r, W, h, hcore, har, hrt⟩ := h
  refine body hcore har (Nat.le_of_ble_eq_true rfl) ?_
  clear hcore har
  change m_tells_by v_code v_group v_test = some r at h
  unfold m_tells_by at h
  change NxT _ _ [some ((rTup rInt).at v_code), some ((rTup rInt).at v_group), some ((rT_Test Z).at v_test), none, none] _ []
  replace h := bindE h
  obtain ⟨t5, ht5, h⟩ := h
  replace h := pureE h
  subst h
  refine s_ret (e_all (ea_cons (lc_sound (is := [3, 4]) (by decide) (i_enumT (ea_cons (e_var (sl := ((rTup rInt).at v_code)) rfl fun _ => (ea_nil ⟨_, rInt, _, rfl, ⟨_, _, _, (rPair rInt rInt), (enumI v_code), (), _, t5, (), rBool, fun _ => [], rfl, lcO_mapO _ _ _ ht5, rfl, ?b4, fun _ => (ea_nil ⟨_, rfl, ?_⟩)⟩⟩)))))))
  case b4 =>
    intro W1 T1 k2 x1 o u1 h
    obtain ⟨h, _⟩ := mapU h
    refine g_pair ?_
    replace h := bindE h
    obtain ⟨r3, hr3, h⟩ := h
    replace h := pureE h
    subst h
    refine t_yes ⟨fun _ => ?_, fun z => nomatch z⟩
    refine (e_eqB (e_callOb (ι := ((Int × Int) × Int)) (β := Bool) (α := (Int × Int)) (C := Z.C_Test) (E := E0) (fl := fl_Test Z) (A := fun i => [(rT_Test Z).at i.1, rInt.at i.2]) (ci := fun _ => []) (m := fun i => m_Test_call i.1 i.2) (res := fun _ b => rBool.at b) (co := fun _ _ => []) (e_var (sl := ((rT_Test Z).at v_test)) rfl ⟨_, rfl, fun _ => (ea_cons (e_var (sl := (rInt.at x1.2)) rfl fun _ => (ea_nil ⟨(v_test, x1.2), _, _, hr3, rfl, rfl, ⟨_, rfl, fun _ => (e_inT false (e_var (sl := (rInt.at x1.1)) rfl ⟨_, rfl, fun _ => (e_var (sl := ((rTup rInt).at v_group)) rfl ⟨_, rfl, ⟨_, rfl, ⟨_, rfl, rfl, rfl⟩⟩⟩)⟩))⟩⟩)))⟩)))
  exact Rt.drop hrt .slnil
theorem tk_all_tests {P : Program} {w : World} {K : PySem.W.Frag} {Z : Ads} {mg : Str → Option Value} {base : Heap} (X : Tx K mg Z) (K_Test_init : TK.FnG P w K mg base CX0 2 X.f_Test_init X.d_Test_init ["self", "mask", "value"] (sp_Test_init K Z)) (K_least_test : TK.FnG P w K mg base CX0 4 X.f_least_test X.d_least_test ["numbers", "bits"] (sp_least_test K Z)) (K_numbers_of : TK.FnG P w K mg base CX0 1 X.f_numbers_of X.d_numbers_of ["code", "group"] (sp_numbers_of K Z)) (K_tells_by : TK.FnG P w K mg base CX0 2 X.f_tells_by X.d_tells_by ["code", "group", "test"] (sp_tells_by K Z)) : TK.GenFn P w K mg base 4 X.f_all_tests X.d_all_tests ["code", "bits", "group"] (rT_Test Z) (sp_all_tests K Z) := by
  refine TK.okGen X.F_all_tests sc_all_tests (fun vs G ys ⟨i, ar, _⟩ => ar.length.symm) (fun Xc L A cdv vs G0 ys e1 e2 e3 e4 e5 hsp hr Zp => ?_)
  subst e1 e2 e3 e4 e5
  obtain ⟨⟨v_code, v_bits, v_group⟩, ar, h⟩ := hsp
  refine ⟨_, slots_start ar (Nat.le_of_ble_eq_true rfl), fun K1 J1 c1 hgc hk => ?_⟩
  change m_all_tests v_code v_bits v_group = some ys at h
  unfold m_all_tests at h
  clear ar
  change TK.Gg _ _ _ [some ((rTup rInt).at v_code), some (rInt.at v_bits), some ((rTup rInt).at v_group), none, none, none] _ _ _ _ _ _
  replace h := bindE h
  obtain ⟨r1, hr1, h⟩ := h
  replace h := bindE h
  obtain ⟨r2, hr2, h⟩ := h
  refine TK.gg_cons (TK.gg_plain (t := (tAsg (tCall (sp_least_test Xc.K Z) [] E0 (tCons (tCall (sp_numbers_of Xc.K Z) [] E0 (tCons (tVar 0) (tCons (tVar 2) tNil))) (tCons (tVar 1) tNil))) (gName 3))) (Gm' := [some ((rTup rInt).at v_code), some (rInt.at v_bits), some ((rTup rInt).at v_group), some ((rT_Test Z).at r2), none, none]) (cs' := []) hgc (fun _ _ _ => (TK.ps_set (i := 3) sc_all_tests.nd rfl (Or.inl rfl) (TK.pe_callG (K_least_test) (hr.mono (by decide)) (by rfl) X.g_least_test X.F_least_test.kp X.b_least_test .nil pass0 (TK.pa_cons (TK.pe_callG (K_numbers_of) (hr.mono (by decide)) (by rfl) X.g_numbers_of X.F_numbers_of.kp X.b_numbers_of .nil pass0 (TK.pa_cons (TK.pv 0) (TK.pa_cons (TK.pv 2) TK.pa_nil))) (TK.pa_cons (TK.pv 1) TK.pa_nil))))) (fun W => ?_) ?_)
  · refine (s_set (e_call (ea_cons (e_call (ea_cons (e_var (sl := ((rTup rInt).at v_code)) rfl fun _ => (ea_cons (e_var (sl := ((rTup rInt).at v_group)) rfl fun _ => (ea_nil ⟨(v_code, v_group), r1, [], hr1, rfl, rfl, fun _ => (ea_cons (e_var (sl := (rInt.at v_bits)) rfl fun _ => (ea_nil ⟨(r1, v_bits), r2, [], hr2, rfl, rfl, ?_⟩)))⟩)))))))))
    change NxT _ _ [some ((rTup rInt).at v_code), some (rInt.at v_bits), some ((rTup rInt).at v_group), some ((rT_Test Z).at r2), none, none] _ []
    exact fun _ _ z => z
  replace h := bindE h
  obtain ⟨t3, ht3, h⟩ := h
  replace h := bindE h
  obtain ⟨t4, ht4, h⟩ := h
  refine TK.gg_cons (TK.gg_rangeO (ta := (tCons (tOp rdShl (tC (.int 1)) (tVar 1)) tNil)) (i := 4) (NN := t3) (xs := t4) (f := (fun (x5 : Int) => (((bif (decide ((Builtin.bitAnd x5 r2.1) = x5)) then ((bind (m_Test_init x5 (Builtin.bitAnd r2.2 x5)) fun r6 => (bind (m_tells_by v_code v_group r6) fun r7 => (bif r7 then (pure [r6]) else (pure ([] : List (Int × Int))))))) else (pure ([] : List (Int × Int))))) : Option (List (Int × Int))))) (GL := [some ((rTup rInt).at v_code), some (rInt.at v_bits), some ((rTup rInt).at v_group), some ((rT_Test Z).at r2), none, none]) Zp hgc (fun _ _ => (TK.pi_range1 (by rfl) X.z_range (TK.pa_cons (TK.pe_op TK.op_shlW TK.pe_int (TK.pv 1)) TK.pa_nil))) (fun _ _ => (TK.pg_name (i := 4) sc_all_tests.nd rfl (Or.inl rfl))) (fun W => (ea_cons (e_opO oShl_ok (e_int ⟨_, rfl, (e_var (sl := (rInt.at v_bits)) rfl ⟨_, _, rfl, ht3, fun _ => (ea_nil ⟨rfl, rfl⟩)⟩)⟩)))) ht4 h (by exact (And.intro rfl (And.intro rfl (And.intro rfl (And.intro rfl True.intro))))) ?_ ?_)
  · clear h hk
    intro x5 zs k h hzs ipb c1 fs1 K1 J1 hgc hk1
    change TK.Gg _ _ _ [some ((rTup rInt).at v_code), some (rInt.at v_bits), some ((rTup rInt).at v_group), some ((rT_Test Z).at r2), some (rInt.at x5), none] _ _ _ _ _ _
    refine TK.gg_cons (TK.gg_if (tc := (tTest (tOp rEq (tOp rdAnd (tVar 4) (tFld Xc.K (tVar 3) "mask")) (tVar 4)))) (b0 := (decide ((Builtin.bitAnd x5 r2.1) = x5))) (cs' := []) hgc (fun _ _ _ => (TK.pt_cmpR TK.op_eq (TK.pe_op TK.op_and (TK.pv 4) (TK.pe_fld (TK.pv 3) rfl)) (TK.pv 4) (nomark _))) (fun W => (t_test (e_eqI (e_opI0 (g := Builtin.bitAnd) (e_var (sl := (rInt.at x5)) rfl ⟨_, rfl, (e_fld (fl := fl_Test Z) 0 X.cl_Test X.na_Test_mask (nd_Test Z) (e_var (sl := ((rT_Test Z).at r2)) rfl ⟨_, _, rfl, rfl, ⟨_, rfl, ⟨_, rfl, (e_var (sl := (rInt.at x5)) rfl ⟨_, rfl, ⟨_, rfl, ⟨rfl, rfl⟩⟩⟩)⟩⟩⟩))⟩))))) (fun hc => ?_) (fun hc => ?_))
    · replace h := condT hc h
      replace h := bindE h
      obtain ⟨r6, hr6, h⟩ := h
      refine TK.gg_cons (TK.gg_plain (t := (tAsg (tMake Z.C_Test (sp_Test_init Xc.K Z) [] E0 (tCons (tVar 4) (tCons (tOp rdAnd (tFld Xc.K (tVar 3) "value") (tVar 4)) tNil))) (gName 5))) (Gm' := [some ((rTup rInt).at v_code), some (rInt.at v_bits), some ((rTup rInt).at v_group), some ((rT_Test Z).at r2), some (rInt.at x5), some ((rT_Test Z).at r6)]) (cs' := []) hgc (fun _ _ _ => (TK.ps_set (i := 5) sc_all_tests.nd rfl (Or.inl rfl) (TK.pe_makeG X.mk_Test K_Test_init (hr.mono (by decide)) (by rfl) X.gc_Test X.b_Test_init .nil pass0 (TK.pa_cons (TK.pv 4) (TK.pa_cons (TK.pe_op TK.op_and (TK.pe_fld (TK.pv 3) rfl) (TK.pv 4)) TK.pa_nil))))) (fun W => ?_) ?_)
      · refine (s_set (e_makeF (ι := (Int × Int)) (β := (Int × Int)) (C := Z.C_Test) (E := E0) (fl := fl_Test Z) (A := fun p i => [sRef p, rInt.at i.1, rInt.at i.2]) (m := fun i => m_Test_init i.1 i.2) (ea_cons (e_var (sl := (rInt.at x5)) rfl fun _ => (ea_cons (e_opI0 (g := Builtin.bitAnd) (e_fld (fl := fl_Test Z) 1 X.cl_Test X.na_Test_value (nd_Test Z) (e_var (sl := ((rT_Test Z).at r2)) rfl ⟨_, _, rfl, rfl, ⟨_, rfl, (e_var (sl := (rInt.at x5)) rfl ⟨_, rfl, fun _ => (ea_nil ⟨(x5, (Builtin.bitAnd r2.2 x5)), _, hr6, fun _ => rfl, ?_⟩)⟩)⟩⟩))))))))
        change NxT _ _ [some ((rTup rInt).at v_code), some (rInt.at v_bits), some ((rTup rInt).at v_group), some ((rT_Test Z).at r2), some (rInt.at x5), some ((rT_Test Z).at r6)] _ []
        exact fun _ _ z => z
      replace h := bindE h
      obtain ⟨r7, hr7, h⟩ := h
      refine TK.gg_cons (TK.gg_if (tc := (tB (tCall (sp_tells_by Xc.K Z) [] E0 (tCons (tVar 0) (tCons (tVar 2) (tCons (tVar 5) tNil)))))) (b0 := r7) (cs' := []) hgc (fun _ _ _ => (TK.pt_val (TK.pe_callG (K_tells_by) (hr.mono (by decide)) (by rfl) X.g_tells_by X.F_tells_by.kp X.b_tells_by .nil pass0 (TK.pa_cons (TK.pv 0) (TK.pa_cons (TK.pv 2) (TK.pa_cons (TK.pv 5) TK.pa_nil)))))) (fun W => (t_val (e_call (ea_cons (e_var (sl := ((rTup rInt).at v_code)) rfl fun _ => (ea_cons (e_var (sl := ((rTup rInt).at v_group)) rfl fun _ => (ea_cons (e_var (sl := ((rT_Test Z).at r6)) rfl fun _ => (ea_nil ⟨(v_code, v_group, r6), r7, [], hr7, rfl, rfl, ⟨_, rfl, ⟨rfl, rfl⟩⟩⟩)))))))))) (fun hc => ?_) (fun hc => ?_))
      · replace h := condT hc h
        replace h := pureE h
        subst h
        refine TK.gg_cons (TK.gg_yield (te := (tVar 5)) (y := r6) Zp hgc (fun _ _ _ => (TK.pv 5)) (fun W => (e_var (sl := ((rT_Test Z).at r6)) rfl ⟨rfl, rfl⟩)) (hzs 0 _ rfl) (lr_Test Z) (LeanG.some (LeanS.tup fun _ => LeanS.int) (LeanG.some LeanS.int (LeanG.some (LeanS.tup fun _ => LeanS.int) (LeanG.some (lr_Test Z _) (LeanG.some LeanS.int (LeanG.some (lr_Test Z _) LeanG.nil)))))) ?_)
        repeat refine TK.gg_nil ?_
        exact TK.gg_weak (by exact (And.intro rfl (And.intro rfl (And.intro rfl (And.intro rfl True.intro))))) hk1
      · replace h := condF hc h
        replace h := pureE h
        subst h
        repeat refine TK.gg_nil ?_
        exact TK.gg_weak (by exact (And.intro rfl (And.intro rfl (And.intro rfl (And.intro rfl True.intro))))) hk1
    · replace h := condF hc h
      replace h := pureE h
      subst h
      repeat refine TK.gg_nil ?_
      exact TK.gg_weak (by exact (And.intro rfl (And.intro rfl (And.intro rfl (And.intro rfl True.intro))))) hk1
  · intro ex
    refine TK.gg_nil ?_
    exact hk _ _ _ _ _
theorem all_ok {P : Program} {w : World} {K : PySem.W.Frag} {Z : Ads} {mg : Str → Option Value} {base : Heap} (X : Tx K mg Z) : FnG P w K mg base CX0 10 X.f_law X.d_law ["_law_script"] (sp_law K) := by
  have K_is_natural : TK.FnG P w K mg base CX0 1 X.f_is_natural X.d_is_natural ["value"] (sp_is_natural K Z) := tk_is_natural X
  have G_is_natural : FnG P w K mg base CX0 1 X.f_is_natural X.d_is_natural ["value"] (sp_is_natural K Z) := ok_is_natural X
  have K_Test_init : TK.FnG P w K mg base CX0 2 X.f_Test_init X.d_Test_init ["self", "mask", "value"] (sp_Test_init K Z) := tk_Test_init X K_is_natural
  have G_Test_init : FnG P w K mg base CX0 2 X.f_Test_init X.d_Test_init ["self", "mask", "value"] (sp_Test_init K Z) := ok_Test_init X G_is_natural
  have K_Test_call : TK.FnG P w K mg base CX0 1 X.f_Test_call X.d_Test_call ["self", "number"] (sp_Test_call K Z) := tk_Test_call X
  have G_Test_call : FnG P w K mg base CX0 1 X.f_Test_call X.d_Test_call ["self", "number"] (sp_Test_call K Z) := ok_Test_call X
  have K_least_test : TK.FnG P w K mg base CX0 4 X.f_least_test X.d_least_test ["numbers", "bits"] (sp_least_test K Z) := tk_least_test X K_Test_init
  have G_least_test : FnG P w K mg base CX0 4 X.f_least_test X.d_least_test ["numbers", "bits"] (sp_least_test K Z) := ok_least_test X G_Test_init
  have K_numbers_of : TK.FnG P w K mg base CX0 1 X.f_numbers_of X.d_numbers_of ["code", "group"] (sp_numbers_of K Z) := tk_numbers_of X
  have G_numbers_of : FnG P w K mg base CX0 1 X.f_numbers_of X.d_numbers_of ["code", "group"] (sp_numbers_of K Z) := ok_numbers_of X
  have K_tells_by : TK.FnG P w K mg base CX0 2 X.f_tells_by X.d_tells_by ["code", "group", "test"] (sp_tells_by K Z) := tk_tells_by X K_Test_call
  have G_tells_by : FnG P w K mg base CX0 2 X.f_tells_by X.d_tells_by ["code", "group", "test"] (sp_tells_by K Z) := ok_tells_by X G_Test_call
  have K_all_tests : TK.GenFn P w K mg base 4 X.f_all_tests X.d_all_tests ["code", "bits", "group"] (rT_Test Z) (sp_all_tests K Z) := tk_all_tests X K_Test_init K_least_test K_numbers_of K_tells_by
  have G_all_tests : GenFn P w K mg base 4 X.f_all_tests X.d_all_tests ["code", "bits", "group"] (rT_Test Z) (sp_all_tests K Z) := ok_all_tests X G_Test_init G_least_test G_numbers_of G_tells_by
  have G_l_cup : FnG P w K mg base CX0 1 X.f_l_cup X.d_l_cup ["_law_script", "_law_k"] (sp_l_cup K Z) := ok_l_cup X
  have G_l_dip : FnG P w K mg base CX0 1 X.f_l_dip X.d_l_dip ["_law_cup_here", "_law_many"] (sp_l_dip K Z) := ok_l_dip X
  have G_l_group : FnG P w K mg base CX0 2 X.f_l_group X.d_l_group ["_law_cup_here", "_law_count"] (sp_l_group K Z) := ok_l_group X G_l_dip
  have G_l_numbers : FnG P w K mg base CX0 2 X.f_l_numbers X.d_l_numbers ["_law_cup_here", "_law_count", "_law_width"] (sp_l_numbers K Z) := ok_l_numbers X G_l_dip
  have G_l_test_of : FnG P w K mg base CX0 1 X.f_l_test_of X.d_l_test_of ["_law_row", "_law_width", "_law_gang"] (sp_l_test_of K Z) := ok_l_test_of X
  have G_l_first : FnG P w K mg base CX0 7 X.f_l_first X.d_l_first ["_law_row", "_law_width", "_law_gang"] (sp_l_first K Z) := ok_l_first X G_all_tests
  have G_l_right : FnG P w K mg base CX0 9 X.f_l_right X.d_l_right ["_law_cup_here"] (sp_l_right K Z) := ok_l_right X G_l_dip G_l_first G_l_group G_l_numbers G_l_test_of G_all_tests K_all_tests
  have G_law : FnG P w K mg base CX0 10 X.f_law X.d_law ["_law_script"] (sp_law K) := ok_law X G_l_cup G_l_right
  exact G_law
theorem all_mk {l : PySem.W.OpenLaw} {w : World} {K : PySem.W.Frag} {h : Heap} {mg : Str → Option Value} {fa : Addr} (X : K.In h) (G : h.Ns mainGlobals mg) (hfa : mg "law" = some (.ref fa))
    {C_Test : Addr}
    {f0 : Addr} {od0 an0 : Option Addr} {sl0 : Array (Option Value)} {oc0 kV0 dc0 pm0 cd0 ct0 : Value}
    {f1 : Addr} {od1 an1 : Option Addr} {sl1 : Array (Option Value)} {oc1 kV1 dc1 pm1 cd1 ct1 : Value}
    {f2 : Addr} {od2 an2 : Option Addr} {sl2 : Array (Option Value)} {oc2 kV2 dc2 pm2 cd2 ct2 : Value}
    {f3 : Addr} {od3 an3 : Option Addr} {sl3 : Array (Option Value)} {oc3 kV3 dc3 pm3 cd3 ct3 : Value}
    {f4 : Addr} {od4 an4 : Option Addr} {sl4 : Array (Option Value)} {oc4 kV4 dc4 pm4 cd4 ct4 : Value}
    {f5 : Addr} {od5 an5 : Option Addr} {sl5 : Array (Option Value)} {oc5 kV5 dc5 pm5 cd5 ct5 : Value}
    {f6 : Addr} {od6 an6 : Option Addr} {sl6 : Array (Option Value)} {oc6 kV6 dc6 pm6 cd6 ct6 : Value}
    {f7 : Addr} {od7 an7 : Option Addr} {sl7 : Array (Option Value)} {oc7 kV7 dc7 pm7 cd7 ct7 : Value}
    {f8 : Addr} {od8 an8 : Option Addr} {sl8 : Array (Option Value)} {oc8 kV8 dc8 pm8 cd8 ct8 : Value}
    {f9 : Addr} {od9 an9 : Option Addr} {sl9 : Array (Option Value)} {oc9 kV9 dc9 pm9 cd9 ct9 : Value}
    {f10 : Addr} {od10 an10 : Option Addr} {sl10 : Array (Option Value)} {oc10 kV10 dc10 pm10 cd10 ct10 : Value}
    {f11 : Addr} {od11 an11 : Option Addr} {sl11 : Array (Option Value)} {oc11 kV11 dc11 pm11 cd11 ct11 : Value}
    {f12 : Addr} {od12 an12 : Option Addr} {sl12 : Array (Option Value)} {oc12 kV12 dc12 pm12 cd12 ct12 : Value}
    {f13 : Addr} {od13 an13 : Option Addr} {sl13 : Array (Option Value)} {oc13 kV13 dc13 pm13 cd13 ct13 : Value}
    {f14 : Addr} {od14 an14 : Option Addr} {sl14 : Array (Option Value)} {oc14 kV14 dc14 pm14 cd14 ct14 : Value}
    (aC_Test : PySem.W.nsIn K mainGlobals "Test" = some (some (.ref C_Test)))
    (pg_Test : PySem.W.plainGet K C_Test Str.empty = true) (hd_Test : PySem.W.hasDictIn K C_Test = true) (po_Test : PySem.W.plainOver K C_Test = true) (sa_Test : PySem.W.findIn K (.ref C_Test) "__setattr__" = some (some (.builtin "object.__setattr__")))
    (mk_Test : PySem.W.makesIn K C_Test = true) (kc_Test : PySem.W.keepIn K (.ref C_Test) = true)
    (na_Test_mask : PySem.W.findIn K (.ref C_Test) "mask" = some none)
    (na_Test_value : PySem.W.findIn K (.ref C_Test) "value" = some none)
    (a0 : PySem.W.nsIn K mainGlobals "is_natural" = some (some (.ref f0)))
    (l0 : K.lookup f0 = some ⟨oc0, od0, .func (PySem.W.fnOf "is_natural" "is_natural" (defArgs s_is_natural) (defBody s_is_natural) (defScope s_is_natural) .none kV0 dc0 pm0 an0 cd0 ct0), sl0⟩) (c0 : PySem.W.codeIn K cd0 "is_natural" = true) (k0 : PySem.W.keepIn K (.ref f0) = true)
    (a1 : PySem.W.findIn K (.ref C_Test) "__init__" = some (some (.ref f1))) (i1 : PySem.W.isFn K (.ref f1) = true)
    (l1 : K.lookup f1 = some ⟨oc1, od1, .func (PySem.W.fnOf "__init__" "Test.__init__" (defArgs s_Test_init) (defBody s_Test_init) (defScope s_Test_init) .none kV1 dc1 pm1 an1 cd1 ct1), sl1⟩) (c1 : PySem.W.codeIn K cd1 "Test.__init__" = true) (k1 : PySem.W.keepIn K (.ref f1) = true)
    (a2 : PySem.W.findIn K (.ref C_Test) "__call__" = some (some (.ref f2))) (i2 : PySem.W.isFn K (.ref f2) = true)
    (fi2 : PySem.W.fnIn K f2 = true)
    (l2 : K.lookup f2 = some ⟨oc2, od2, .func (PySem.W.fnOf "__call__" "Test.__call__" (defArgs s_Test_call) (defBody s_Test_call) (defScope s_Test_call) .none kV2 dc2 pm2 an2 cd2 ct2), sl2⟩) (c2 : PySem.W.codeIn K cd2 "Test.__call__" = true) (k2 : PySem.W.keepIn K (.ref f2) = true)
    (a3 : PySem.W.nsIn K mainGlobals "least_test" = some (some (.ref f3)))
    (l3 : K.lookup f3 = some ⟨oc3, od3, .func (PySem.W.fnOf "least_test" "least_test" (defArgs s_least_test) (defBody s_least_test) (defScope s_least_test) .none kV3 dc3 pm3 an3 cd3 ct3), sl3⟩) (c3 : PySem.W.codeIn K cd3 "least_test" = true) (k3 : PySem.W.keepIn K (.ref f3) = true)
    (a4 : PySem.W.nsIn K mainGlobals "numbers_of" = some (some (.ref f4)))
    (l4 : K.lookup f4 = some ⟨oc4, od4, .func (PySem.W.fnOf "numbers_of" "numbers_of" (defArgs s_numbers_of) (defBody s_numbers_of) (defScope s_numbers_of) .none kV4 dc4 pm4 an4 cd4 ct4), sl4⟩) (c4 : PySem.W.codeIn K cd4 "numbers_of" = true) (k4 : PySem.W.keepIn K (.ref f4) = true)
    (a5 : PySem.W.nsIn K mainGlobals "tells_by" = some (some (.ref f5)))
    (l5 : K.lookup f5 = some ⟨oc5, od5, .func (PySem.W.fnOf "tells_by" "tells_by" (defArgs s_tells_by) (defBody s_tells_by) (defScope s_tells_by) .none kV5 dc5 pm5 an5 cd5 ct5), sl5⟩) (c5 : PySem.W.codeIn K cd5 "tells_by" = true) (k5 : PySem.W.keepIn K (.ref f5) = true)
    (a6 : PySem.W.nsIn K mainGlobals "all_tests" = some (some (.ref f6)))
    (l6 : K.lookup f6 = some ⟨oc6, od6, .func (PySem.W.fnOf "all_tests" "all_tests" (defArgs s_all_tests) (defBody s_all_tests) (defScope s_all_tests) .none kV6 dc6 pm6 an6 cd6 ct6), sl6⟩) (c6 : PySem.W.codeIn K cd6 "all_tests" = true) (k6 : PySem.W.keepIn K (.ref f6) = true)
    (a7 : PySem.W.nsIn K mainGlobals "_law_cup" = some (some (.ref f7)))
    (l7 : K.lookup f7 = some ⟨oc7, od7, .func (PySem.W.fnOf "_law_cup" "_law_cup" (defArgs s_l_cup) (defBody s_l_cup) (defScope s_l_cup) .none kV7 dc7 pm7 an7 cd7 ct7), sl7⟩) (c7 : PySem.W.codeIn K cd7 "_law_cup" = true) (k7 : PySem.W.keepIn K (.ref f7) = true)
    (a8 : PySem.W.nsIn K mainGlobals "_law_dip" = some (some (.ref f8)))
    (l8 : K.lookup f8 = some ⟨oc8, od8, .func (PySem.W.fnOf "_law_dip" "_law_dip" (defArgs s_l_dip) (defBody s_l_dip) (defScope s_l_dip) .none kV8 dc8 pm8 an8 cd8 ct8), sl8⟩) (c8 : PySem.W.codeIn K cd8 "_law_dip" = true) (k8 : PySem.W.keepIn K (.ref f8) = true)
    (a9 : PySem.W.nsIn K mainGlobals "_law_group" = some (some (.ref f9)))
    (l9 : K.lookup f9 = some ⟨oc9, od9, .func (PySem.W.fnOf "_law_group" "_law_group" (defArgs s_l_group) (defBody s_l_group) (defScope s_l_group) .none kV9 dc9 pm9 an9 cd9 ct9), sl9⟩) (c9 : PySem.W.codeIn K cd9 "_law_group" = true) (k9 : PySem.W.keepIn K (.ref f9) = true)
    (a10 : PySem.W.nsIn K mainGlobals "_law_numbers" = some (some (.ref f10)))
    (l10 : K.lookup f10 = some ⟨oc10, od10, .func (PySem.W.fnOf "_law_numbers" "_law_numbers" (defArgs s_l_numbers) (defBody s_l_numbers) (defScope s_l_numbers) .none kV10 dc10 pm10 an10 cd10 ct10), sl10⟩) (c10 : PySem.W.codeIn K cd10 "_law_numbers" = true) (k10 : PySem.W.keepIn K (.ref f10) = true)
    (a11 : PySem.W.nsIn K mainGlobals "_law_test_of" = some (some (.ref f11)))
    (l11 : K.lookup f11 = some ⟨oc11, od11, .func (PySem.W.fnOf "_law_test_of" "_law_test_of" (defArgs s_l_test_of) (defBody s_l_test_of) (defScope s_l_test_of) .none kV11 dc11 pm11 an11 cd11 ct11), sl11⟩) (c11 : PySem.W.codeIn K cd11 "_law_test_of" = true) (k11 : PySem.W.keepIn K (.ref f11) = true)
    (a12 : PySem.W.nsIn K mainGlobals "_law_first" = some (some (.ref f12)))
    (l12 : K.lookup f12 = some ⟨oc12, od12, .func (PySem.W.fnOf "_law_first" "_law_first" (defArgs s_l_first) (defBody s_l_first) (defScope s_l_first) .none kV12 dc12 pm12 an12 cd12 ct12), sl12⟩) (c12 : PySem.W.codeIn K cd12 "_law_first" = true) (k12 : PySem.W.keepIn K (.ref f12) = true)
    (a13 : PySem.W.nsIn K mainGlobals "_law_right" = some (some (.ref f13)))
    (l13 : K.lookup f13 = some ⟨oc13, od13, .func (PySem.W.fnOf "_law_right" "_law_right" (defArgs s_l_right) (defBody s_l_right) (defScope s_l_right) .none kV13 dc13 pm13 an13 cd13 ct13), sl13⟩) (c13 : PySem.W.codeIn K cd13 "_law_right" = true) (k13 : PySem.W.keepIn K (.ref f13) = true)
    (a14 : PySem.W.nsIn K mainGlobals "law" = some (some (.ref f14)))
    (l14 : K.lookup f14 = some ⟨oc14, od14, .func (PySem.W.fnOf "law" "law" (defArgs s_law) (defBody s_law) (defScope s_law) .none kV14 dc14 pm14 an14 cd14 ct14), sl14⟩) (c14 : PySem.W.codeIn K cd14 "law" = true) (k14 : PySem.W.keepIn K (.ref f14) = true)
    (z_abs : PySem.W.nsIn K mainGlobals "abs" = some none)
    (z_all : PySem.W.nsIn K mainGlobals "all" = some none)
    (z_bool : PySem.W.nsIn K mainGlobals "bool" = some none)
    (z_enumerate : PySem.W.nsIn K mainGlobals "enumerate" = some none)
    (z_int : PySem.W.nsIn K mainGlobals "int" = some none)
    (z_isinstance : PySem.W.nsIn K mainGlobals "isinstance" = some none)
    (z_len : PySem.W.nsIn K mainGlobals "len" = some none)
    (z_list : PySem.W.nsIn K mainGlobals "list" = some none)
    (z_max : PySem.W.nsIn K mainGlobals "max" = some none)
    (z_min : PySem.W.nsIn K mainGlobals "min" = some none)
    (z_range : PySem.W.nsIn K mainGlobals "range" = some none)
    (z_repr : PySem.W.nsIn K mainGlobals "repr" = some none)
    (z_tuple : PySem.W.nsIn K mainGlobals "tuple" = some none)
    (z_zip : PySem.W.nsIn K mainGlobals "zip" = some none)
    : ∃ fd : FuncData, (∀ (s : Shared) (v : Value), BindsTo s fd ⟨[v], []⟩ [("_law_script", v)]) ∧ ∀ base : Heap, K.In base → base.Ns mainGlobals mg → FnG l.prog w K mg base CX0 10 fa fd ["_law_script"] (sp_law K) := by
  have e := hfa.symm.trans (PySem.W.mg_of X G a14)
  cases e
  have F0 := fun_mk (st := s_is_natural) l0 c0 k0
  have b0 := F0.binds (ps := ["value"]) fun _ _ _ _ _ _ us hl => match us, hl with | [_], _ => rfl
  have F1 := fun_mk (st := s_Test_init) l1 c1 k1
  have b1 := F1.binds (ps := ["self", "mask", "value"]) fun _ _ _ _ _ _ us hl => match us, hl with | [_, _, _], _ => rfl
  have F2 := fun_mk (st := s_Test_call) l2 c2 k2
  have b2 := F2.binds (ps := ["self", "number"]) fun _ _ _ _ _ _ us hl => match us, hl with | [_, _], _ => rfl
  have F3 := fun_mk (st := s_least_test) l3 c3 k3
  have b3 := F3.binds (ps := ["numbers", "bits"]) fun _ _ _ _ _ _ us hl => match us, hl with | [_, _], _ => rfl
  have F4 := fun_mk (st := s_numbers_of) l4 c4 k4
  have b4 := F4.binds (ps := ["code", "group"]) fun _ _ _ _ _ _ us hl => match us, hl with | [_, _], _ => rfl
  have F5 := fun_mk (st := s_tells_by) l5 c5 k5
  have b5 := F5.binds (ps := ["code", "group", "test"]) fun _ _ _ _ _ _ us hl => match us, hl with | [_, _, _], _ => rfl
  have F6 := fun_mk (st := s_all_tests) l6 c6 k6
  have b6 := F6.binds (ps := ["code", "bits", "group"]) fun _ _ _ _ _ _ us hl => match us, hl with | [_, _, _], _ => rfl
  have F7 := fun_mk (st := s_l_cup) l7 c7 k7
  have b7 := F7.binds (ps := ["_law_script", "_law_k"]) fun _ _ _ _ _ _ us hl => match us, hl with | [_, _], _ => rfl
  have F8 := fun_mk (st := s_l_dip) l8 c8 k8
  have b8 := F8.binds (ps := ["_law_cup_here", "_law_many"]) fun _ _ _ _ _ _ us hl => match us, hl with | [_, _], _ => rfl
  have F9 := fun_mk (st := s_l_group) l9 c9 k9
  have b9 := F9.binds (ps := ["_law_cup_here", "_law_count"]) fun _ _ _ _ _ _ us hl => match us, hl with | [_, _], _ => rfl
  have F10 := fun_mk (st := s_l_numbers) l10 c10 k10
  have b10 := F10.binds (ps := ["_law_cup_here", "_law_count", "_law_width"]) fun _ _ _ _ _ _ us hl => match us, hl with | [_, _, _], _ => rfl
  have F11 := fun_mk (st := s_l_test_of) l11 c11 k11
  have b11 := F11.binds (ps := ["_law_row", "_law_width", "_law_gang"]) fun _ _ _ _ _ _ us hl => match us, hl with | [_, _, _], _ => rfl
  have F12 := fun_mk (st := s_l_first) l12 c12 k12
  have b12 := F12.binds (ps := ["_law_row", "_law_width", "_law_gang"]) fun _ _ _ _ _ _ us hl => match us, hl with | [_, _, _], _ => rfl
  have F13 := fun_mk (st := s_l_right) l13 c13 k13
  have b13 := F13.binds (ps := ["_law_cup_here"]) fun _ _ _ _ _ _ us hl => match us, hl with | [_], _ => rfl
  have F14 := fun_mk (st := s_law) l14 c14 k14
  have b14 := F14.binds (ps := ["_law_script"]) fun _ _ _ _ _ _ us hl => match us, hl with | [_], _ => rfl
  have nt0 := names_mk (ps := ["code", "bits", "group"]) (ks := ["group", "bits", "code"]) (π := [2, 1, 0]) F6 fun _ _ _ _ _ _ us hl => match us, hl with | [_, _, _], _ => rfl
  exact ⟨_, fun s v => .of_eq rfl, fun base _ _ => all_ok (Z := ⟨C_Test⟩) ⟨_, _, F0, PySem.W.mg_of X G a0, b0, _, _, F1, b1, ⟨mk_Test, a1, i1, kc_Test⟩, _, _, F2, b2, ⟨a2, i2, fi2⟩, _, _, F3, PySem.W.mg_of X G a3, b3, _, _, F4, PySem.W.mg_of X G a4, b4, _, _, F5, PySem.W.mg_of X G a5, b5, _, _, F6, PySem.W.mg_of X G a6, b6, _, _, F7, PySem.W.mg_of X G a7, b7, _, _, F8, PySem.W.mg_of X G a8, b8, _, _, F9, PySem.W.mg_of X G a9, b9, _, _, F10, PySem.W.mg_of X G a10, b10, _, _, F11, PySem.W.mg_of X G a11, b11, _, _, F12, PySem.W.mg_of X G a12, b12, _, _, F13, PySem.W.mg_of X G a13, b13, _, _, F14, PySem.W.mg_of X G a14, b14, ⟨pg_Test, hd_Test, po_Test, sa_Test⟩, PySem.W.mg_of X G aC_Test, na_Test_mask, na_Test_value, nt0, PySem.W.mg_none_of X G z_abs, PySem.W.mg_none_of X G z_all, PySem.W.mg_none_of X G z_bool, PySem.W.mg_none_of X G z_enumerate, PySem.W.mg_none_of X G z_int, PySem.W.mg_none_of X G z_isinstance, PySem.W.mg_none_of X G z_len, PySem.W.mg_none_of X G z_list, PySem.W.mg_none_of X G z_max, PySem.W.mg_none_of X G z_min, PySem.W.mg_none_of X G z_range, PySem.W.mg_none_of X G z_repr, PySem.W.mg_none_of X G z_tuple, PySem.W.mg_none_of X G z_zip⟩⟩
def Tot {α : Type} (m : Option α) (P : α → Prop) : Prop := ∃ a, m = some a ∧ P a
section
variable {α β γ ρ : Type} {P : α → Prop} {Q : β → Prop}
theorem Tot.bind {m : Option α} {f : α → Option β} (h : Tot m P) (k : ∀ a, P a → Tot (f a) Q) : Tot (bind m f) Q := by
  obtain ⟨a, e, p⟩ := h
  obtain ⟨b, e2, q⟩ := k a p
  refine ⟨b, ?_, q⟩
  rw [e]
  exact e2
theorem Tot.ret {a : α} (h : P a) : Tot (pure a) P := ⟨a, rfl, h⟩
theorem Tot.some {a : α} (h : P a) : Tot (some a) P := ⟨a, rfl, h⟩
theorem Tot.imp {m : Option α} {P' : α → Prop} (h : Tot m P) (k : ∀ a, P a → P' a) : Tot m P' := let ⟨a, e, p⟩ := h; ⟨a, e, k a p⟩
theorem Tot.cond {c : Bool} {a b : Option α} (h1 : c = true → Tot a P) (h2 : c = false → Tot b P) : Tot (bif c then a else b) P := by
  cases c with
  | true => exact h1 rfl
  | false => exact h2 rfl
theorem Tot.of {m : Option α} {a : α} (e : m = Option.some a) (p : P a) : Tot m P := ⟨a, e, p⟩
theorem Tot.get {m : Option α} {a : α} (h : Tot m (· = a)) : m = Option.some a := by obtain ⟨b, e, rfl⟩ := h; exact e
theorem Tot.ite {c : Prop} [Decidable c] {a : α} (hc : c) (p : P a) : Tot (if c then Option.some a else none) P := ⟨a, by rw [if_pos hc], p⟩
theorem Tot.fold {f : β → α → Option β} {I : Nat → β → Prop} : ∀ (xs : List α) (b : β) (i : Nat), I i b → (∀ j x b, xs[j]? = Option.some x → I (i + j) b → Tot (f b x) (I (i + j + 1))) → Tot (foldO f xs b) (I (i + xs.length))
  | [], b, i, h, _ => ⟨b, rfl, h⟩
  | x :: xs, b, i, h, hs => by
    obtain ⟨b', e, h'⟩ := hs 0 x b rfl h
    have ih := Tot.fold (f := f) (I := I) xs b' (i + 1) h' fun j y c hj hc => by
      have := hs (j + 1) y c (by simpa using hj) (by rw [show i + (j + 1) = i + 1 + j by omega]; exact hc)
      rw [show i + (j + 1) + 1 = i + 1 + j + 1 by omega] at this
      exact this
    unfold foldO
    rw [e]
    rw [show i + (x :: xs).length = i + 1 + xs.length by rw [List.length_cons]; omega]
    exact ih
theorem Tot.loop {f : β → α → Option (Fl ρ β)} {I : Nat → β → Prop} {B : β → Prop} {R : ρ → Prop} : ∀ (xs : List α) (b : β) (i : Nat), I i b →
    (∀ j x b, xs[j]? = Option.some x → I (i + j) b → Tot (f b x) fun fl => match fl with | .go b' => I (i + j + 1) b' | .brk b' => B b' | .ret r => R r) →
    Tot (loopO f xs b) fun o => match o with | .go b => I (i + xs.length) b ∨ B b | .ret r => R r
  | [], b, i, h, _ => ⟨_, rfl, .inl h⟩
  | x :: xs, b, i, h, hs => by
    obtain ⟨fl, e, h'⟩ := hs 0 x b rfl h
    unfold loopO
    rw [e]
    cases fl with
    | go b' =>
      have ih := Tot.loop (f := f) (I := I) (B := B) (R := R) xs b' (i + 1) h' fun j y c hj hc => by
        have := hs (j + 1) y c (by simpa using hj) (by rw [show i + (j + 1) = i + 1 + j by omega]; exact hc)
        rw [show i + (j + 1) + 1 = i + 1 + j + 1 by omega] at this
        exact this
      rw [show i + (x :: xs).length = i + 1 + xs.length by rw [List.length_cons]; omega]
      exact ih
    | brk b' => exact ⟨_, rfl, .inr h'⟩
    | ret r => exact ⟨_, rfl, h'⟩
theorem Tot.loopGo {f : β → α → Option (Fl ρ β)} {I : Nat → β → Prop} (xs : List α) (b : β) (h : I 0 b) (hs : ∀ j x b, xs[j]? = Option.some x → I j b → Tot (f b x) fun fl => ∃ b', fl = .go b' ∧ I (j + 1) b') :
    Tot (loopO f xs b) fun o => ∃ b', o = .go b' ∧ I xs.length b' := by
  have := Tot.loop (f := f) (I := I) (B := fun _ => False) (R := fun _ => False) xs b 0 h fun j x b hj hb => by
    rw [Nat.zero_add] at hb ⊢
    exact (hs j x b hj hb).imp fun fl ⟨b', e, h'⟩ => by subst e; exact h'
  refine this.imp fun o ho => ?_
  cases o with
  | go b' => rw [Nat.zero_add] at ho; exact ⟨b', rfl, ho.elim id False.elim⟩
  | ret r => exact ho.elim
theorem Tot.lc {f : β → α → Option (Option γ × β)} {I : Nat → List γ → β → Prop} : ∀ (xs : List α) (b : β) (i : Nat) (acc : List γ), I i acc b →
    (∀ j x b acc, xs[j]? = Option.some x → I (i + j) acc b → Tot (f b x) fun r => I (i + j + 1) (acc ++ (match r.1 with | Option.some y => [y] | none => [])) r.2) → Tot (lcO f xs b) fun r => I (i + xs.length) (acc ++ r.1) r.2
  | [], b, i, acc, h, _ => ⟨_, rfl, by show I i (acc ++ []) b; rw [List.append_nil]; exact h⟩
  | x :: xs, b, i, acc, h, hs => by
    obtain ⟨⟨o, b'⟩, e, h'⟩ := hs 0 x b acc rfl h
    obtain ⟨⟨ys, b2⟩, e2, h2⟩ := Tot.lc (f := f) (I := I) xs b' (i + 1) _ h' fun j y c acc hj hc => by
      have := hs (j + 1) y c acc (by simpa using hj) (by rw [show i + (j + 1) = i + 1 + j by omega]; exact hc)
      rw [show i + (j + 1) + 1 = i + 1 + j + 1 by omega] at this
      exact this
    unfold lcO
    rw [e]
    dsimp only
    rw [e2]
    refine ⟨_, rfl, ?_⟩
    rw [show i + (x :: xs).length = i + 1 + xs.length by rw [List.length_cons]; omega]
    cases o with
    | none => simpa using h2
    | some y => simpa using h2
theorem mapO_some {f : α → Option (Option γ)} {g : α → Option γ} : ∀ {xs : List α}, (∀ x ∈ xs, f x = Option.some (g x)) → mapO f xs = Option.some (xs.filterMap g)
  | [], _ => rfl
  | x :: xs, h => by
    unfold mapO
    rw [h x List.mem_cons_self, mapO_some (xs := xs) fun y hy => h y (List.mem_cons_of_mem _ hy)]
    cases e : g x with
    | none => rw [List.filterMap_cons_none e]
    | some y => rw [List.filterMap_cons_some e]
theorem mapO_map {f : α → Option (Option γ)} {g : α → γ} {xs : List α} (h : ∀ x ∈ xs, f x = Option.some (Option.some (g x))) : mapO f xs = Option.some (xs.map g) := by
  rw [mapO_some (g := fun x => Option.some (g x)) h]
  congr 1
  induction xs with
  | nil => rfl
  | cons x xs ih => rw [List.filterMap_cons_some (f := fun x => Option.some (g x)) (b := g x) rfl, List.map_cons, ih fun y hy => h y (List.mem_cons_of_mem _ hy)]
end
theorem sml64 {i : Int} (h1 : -18446744073709551616 < i) (h2 : i < 18446744073709551616) : Sml i := sml_of (n := 64) (by decide) (by show i.natAbs < 18446744073709551616; omega)
theorem tot_shl {i j : Int} {P : Int → Prop} (h0 : 0 ≤ j) (h1 : j ≤ 100000) (h2 : Sml i) (p : P (i * 2 ^ j.toNat)) : Tot (oShl i j) P := Tot.ite ⟨h0, h1, h2⟩ p
theorem tot_mul {i j : Int} {P : Int → Prop} (h1 : Sml i) (h2 : Sml j) (p : P (i * j)) : Tot (oMul i j) P := Tot.ite ⟨h1, h2⟩ p
theorem tot_div {i j : Int} {P : Int → Prop} (h1 : 0 < j) (h2 : Sml j) (p : P (i / j)) : Tot (oDiv i j) P := Tot.ite ⟨h1, h2⟩ p
theorem tot_mod {i j : Int} {P : Int → Prop} (h1 : 0 < j) (p : P (i % j)) : Tot (oMod i j) P := Tot.ite h1 p
theorem tot_pow {i j : Int} {P : Int → Prop} (h1 : 0 ≤ j) (h2 : j ≤ 1000) (h3 : Sml i) (p : P (i ^ j.toNat)) : Tot (oPow i j) P := Tot.ite ⟨h1, h2, h3⟩ p
theorem tot_app {α : Type} {xs : List α} {x : α} {P : List α → Prop} (h : xs.length < 16777216) (p : P (xs ++ [x])) : Tot (oApp xs x) P := Tot.ite (by rw [sizeLine_eq]; exact h) p
theorem tot_range {i j : Int} {P : List Int → Prop} (h1 : -4611686018427387904 ≤ i) (h2 : i < 4611686018427387904) (h3 : -4611686018427387904 ≤ j) (h4 : j < 4611686018427387904) (h5 : j - i ≤ 16777216) (p : P (rangeI i j)) : Tot (oRange i j) P := by
  refine Tot.ite ⟨⟨?_, ?_⟩, ⟨?_, ?_⟩, ?_⟩ p
  · show -4611686018427387904 ≤ i; exact h1
  · show i < 4611686018427387904; exact h2
  · show -4611686018427387904 ≤ j; exact h3
  · show j < 4611686018427387904; exact h4
  · rw [sizeLine_eq]; omega
theorem rangeI_get {i j : Int} {k : Nat} {x : Int} (h : (rangeI i j)[k]? = some x) : x = i + (k : Int) ∧ (k : Int) < j - i := by
  unfold rangeI at h
  rw [List.getElem?_map] at h
  by_cases hk : k < (j - i).toNat
  · rw [List.getElem?_range hk] at h
    cases h
    exact ⟨rfl, by omega⟩
  · rw [List.getElem?_eq_none (by rw [List.length_range]; omega)] at h
    cases h
theorem at_nat {α : Type} {xs : List α} {j : Nat} {x : α} {P : α → Prop} (h : xs[j]? = some x) (p : P x) : Tot (atI xs (j : Int)) P := ⟨x, atI_nat h, p⟩
theorem at_int {α : Type} {xs : List α} {i : Int} {P : α → Prop} (h0 : 0 ≤ i) (h1 : i < xs.length) (p : ∀ x, xs[i.toNat]? = some x → P x) : Tot (atI xs i) P := by
  obtain ⟨j, rfl⟩ := Int.eq_ofNat_of_zero_le h0
  have hj : j < xs.length := by omega
  have hx := List.getElem?_eq_getElem hj
  exact ⟨xs[j], atI_nat hx, p _ (by rw [Int.toNat_natCast]; exact hx)⟩
theorem int_pow_pos {a : Int} (h : 0 < a) : ∀ n : Nat, 0 < a ^ n
  | 0 => by rw [Int.pow_zero]; decide
  | n + 1 => by rw [Int.pow_succ]; exact Int.mul_pos (int_pow_pos h n) h
theorem two_pow_pos (n : Nat) : (0 : Int) < 2 ^ n := int_pow_pos (by decide) n
theorem cast_two_pow (n : Nat) : ((2 ^ n : Nat) : Int) = 2 ^ n := by
  induction n with
  | zero => rfl
  | succ n ih => rw [Nat.pow_succ, Int.pow_succ, Int.natCast_mul, ih]; rfl
theorem bitAnd_mask (i : Int) (k : Nat) : Builtin.bitAnd i (2 ^ k - 1) = i % 2 ^ k := PySem.W.kbt_mask i k

def CupOk (k : Cup) (n : Int) : Prop := 0 ≤ k.2.1 ∧ k.2.1 < 2305843009213693921 ∧ 0 ≤ k.2.2 ∧ k.2.2 ≤ n
theorem CupOk.mono {k : Cup} {n m : Int} (h : CupOk k n) (l : n ≤ m) : CupOk k m := ⟨h.1, h.2.1, h.2.2.1, Int.le_trans h.2.2.2 l⟩
theorem five_at (a b c d e : Int) (i : Int) (h0 : 0 ≤ i) (h1 : i < 5) : ∃ x, atI [a, b, c, d, e] i = some x ∧ (x = a ∨ x = b ∨ x = c ∨ x = d ∨ x = e) := by
  have : i = 0 ∨ i = 1 ∨ i = 2 ∨ i = 3 ∨ i = 4 := by omega
  rcases this with e | e | e | e | e <;> subst e
  · exact ⟨_, rfl, .inl rfl⟩
  · exact ⟨_, rfl, .inr (.inl rfl)⟩
  · exact ⟨_, rfl, .inr (.inr (.inl rfl))⟩
  · exact ⟨_, rfl, .inr (.inr (.inr (.inl rfl)))⟩
  · exact ⟨_, rfl, .inr (.inr (.inr (.inr rfl)))⟩
theorem dip_ok {k : Cup} {many N : Int} (hk : CupOk k N) (hN : N ≤ 1000000) (h0 : 0 < many) (hs : Sml many) : Tot (m_l_dip k many) fun r => 0 ≤ r.1 ∧ r.1 < many ∧ CupOk r.2 (N + 1) := by
  obtain ⟨k0, k1, k2⟩ := k
  obtain ⟨a1, a2, a3, a4⟩ := hk
  dsimp only at a1 a2 a3 a4
  unfold m_l_dip
  refine Tot.bind (P := (· = k0)) (Tot.of rfl rfl) fun t1 e1 => ?_
  subst e1
  refine Tot.cond (fun hc => ?_) fun hc => ?_
  · refine Tot.bind (P := (· = t1)) (Tot.of rfl rfl) fun t2 e => ?_
    subst e
    refine Tot.bind (P := fun r => 0 ≤ r ∧ r < many) (tot_mod h0 ⟨Int.emod_nonneg _ (by omega), Int.emod_lt_of_pos _ h0⟩) fun t3 h3 => ?_
    refine Tot.bind (P := (· = t2)) (Tot.of rfl rfl) fun t4 e => ?_
    subst e
    refine Tot.bind (P := fun _ => True) (tot_div h0 hs trivial) fun t5 _ => ?_
    exact Tot.ret ⟨h3.1, h3.2, a1, a2, a3, show k2 ≤ N + 1 by omega⟩
  · refine Tot.bind (P := (· = k2)) (Tot.of rfl rfl) fun t e => ?_
    subst e
    refine Tot.bind (P := (· = t + 1)) (Tot.of rfl rfl) fun u e => ?_
    subst e
    refine Tot.bind (P := fun r => 0 ≤ r ∧ r < 5) (tot_mod (by decide) ⟨Int.emod_nonneg _ (by decide), Int.emod_lt_of_pos _ (by decide)⟩) fun t3 h3 => ?_
    obtain ⟨p, ep, hp⟩ := five_at 2147483647 2147483629 2147483587 2147483579 2147483563 t3 h3.1 h3.2
    refine Tot.bind (P := fun r => 2147483563 ≤ r ∧ r ≤ 2147483647) (Tot.of ep (by omega)) fun q hq => ?_
    refine Tot.bind (P := (· = k1)) (Tot.of rfl rfl) fun t5 e => ?_
    subst e
    refine Tot.bind (P := (· = t + 1)) (Tot.of rfl rfl) fun t6 e => ?_
    subst e
    refine Tot.bind (P := fun r => 0 ≤ r ∧ r ≤ 77003 * 1000001) (tot_mul (sml64 (by decide) (by decide)) (sml64 (by omega) (by omega)) ⟨by omega, by omega⟩) fun t7 h7 => ?_
    refine Tot.bind (P := (· = t + 1)) (Tot.of rfl rfl) fun t8 e => ?_
    subst e
    refine Tot.bind (P := fun r => 0 ≤ r ∧ r ≤ 77003 * 1000001 * 1000001) (tot_mul (sml64 (by omega) (by omega)) (sml64 (by omega) (by omega)) ⟨Int.mul_nonneg h7.1 (by omega), Int.mul_le_mul h7.2 (by omega) (by omega) (by decide)⟩) fun t9 h9 => ?_
    refine Tot.bind (P := fun _ => True) (tot_pow (by decide) (by decide) (sml64 (by omega) (by omega)) trivial) fun t10 _ => ?_
    refine Tot.bind (P := fun r => 0 ≤ r ∧ r ≤ 2147483647) (tot_mod (by omega) ⟨Int.emod_nonneg _ (by omega), by have := Int.emod_lt_of_pos t10 (show 0 < q by omega); omega⟩) fun t11 h11 => ?_
    refine Tot.bind (P := fun r => 0 ≤ r ∧ r < 10037) (tot_mod (by decide) ⟨Int.emod_nonneg _ (by decide), Int.emod_lt_of_pos _ (by decide)⟩) fun t12 h12 => ?_
    refine Tot.bind (P := (· = t + 1)) (Tot.of rfl rfl) fun t13 e => ?_
    subst e
    refine Tot.bind (P := fun r => 0 ≤ r ∧ r ≤ 71 * 1000001) (tot_mul (sml64 (by decide) (by decide)) (sml64 (by omega) (by omega)) ⟨by omega, by omega⟩) fun t14 h14 => ?_
    refine Tot.bind (P := fun _ => True) (tot_mul (sml64 (by omega) (by omega)) (sml64 (by omega) (by omega)) trivial) fun t15 _ => ?_
    refine Tot.bind (P := fun _ => True) (tot_mod (by decide) trivial) fun t16 _ => ?_
    refine Tot.bind (P := fun _ => True) (tot_div (by decide) (sml64 (by decide) (by decide)) trivial) fun t17 _ => ?_
    refine Tot.bind (P := fun r => 0 ≤ r ∧ r < many) (tot_mod h0 ⟨Int.emod_nonneg _ (by omega), Int.emod_lt_of_pos _ h0⟩) fun t18 h18 => ?_
    exact Tot.ret ⟨h18.1, h18.2, a1, a2, show 0 ≤ t + 1 by omega, show t + 1 ≤ N + 1 by omega⟩
theorem cup_ok {ns : List Int} {k : Int} (h0 : 0 ≤ k) (h1 : k < 1000) : Tot (m_l_cup ns k) fun c => CupOk c 0 := by
  unfold m_l_cup
  refine Tot.bind (P := fun _ => True) (Tot.cond (fun hc => ?_) fun hc => ?_) fun t3 _ => ?_
  · exact Tot.bind (P := fun _ => True) (at_int h0 (of_decide_eq_true hc) fun _ _ => trivial) fun _ _ => Tot.ret trivial
  · exact Tot.bind (P := fun _ => True) (tot_mul (sml64 (by decide) (by decide)) (sml64 (by omega) (by omega)) trivial) fun _ _ => Tot.ret trivial
  refine Tot.bind (P := fun r => r = 10 ^ 60) (tot_pow (by decide) (by decide) (sml64 (by decide) (by decide)) rfl) fun t6 e6 => ?_
  have s6 : Sml t6 := by subst e6; exact sml_of (n := 200) (by decide) (by decide +kernel)
  refine Tot.bind (P := fun r => 0 < r ∧ r.natAbs < 2 ^ 800) (tot_pow (by decide) (by decide) s6 (by subst e6; exact ⟨by decide +kernel, by decide +kernel⟩)) fun t7 h7 => ?_
  refine Tot.bind (P := fun r => Sml r) (tot_mod h7.1 (sml_of (n := 800) (by decide) (by
    have a := Int.emod_nonneg (t3.natAbs : Int) (show t7 ≠ 0 by omega)
    have b := Int.emod_lt_of_pos (t3.natAbs : Int) h7.1
    exact Nat.lt_of_lt_of_le (by omega : _ < t7.natAbs) (Nat.le_of_lt h7.2)))) fun t8 h8 => ?_
  refine Tot.bind (P := fun _ => True) (tot_pow (by decide) (by decide) (sml64 (by decide) (by decide)) trivial) fun t9 _ => ?_
  refine Tot.bind (P := fun _ => True) (tot_mul h8 (by split <;> exact sml64 (by decide) (by decide)) trivial) fun t10 _ => ?_
  refine Tot.bind (P := fun r => 0 ≤ r ∧ r < 2305843009213693951) (tot_mod (by decide) ⟨Int.emod_nonneg _ (by decide), Int.emod_lt_of_pos _ (by decide)⟩) fun t11 h11 => ?_
  refine Tot.bind (P := fun _ => True) (tot_mul (sml64 (by omega) (by omega)) (sml64 (by decide) (by decide)) trivial) fun t12 _ => ?_
  refine Tot.bind (P := fun r => 0 ≤ r ∧ r ≤ 6689 * 1000) (tot_mul (sml64 (by decide) (by decide)) (sml64 (by omega) (by omega)) ⟨by omega, by omega⟩) fun t13 h13 => ?_
  refine Tot.bind (P := fun _ => True) (tot_mul (sml64 (by omega) (by omega)) (sml64 (by omega) (by omega)) trivial) fun t14 _ => ?_
  refine Tot.bind (P := fun r => 0 ≤ r ∧ r < 2305843009213693921) (tot_mod (by decide) ⟨Int.emod_nonneg _ (by decide), Int.emod_lt_of_pos _ (by decide)⟩) fun t15 h15 => ?_
  exact Tot.ret ⟨h15.1, h15.2, (by show (0 : Int) ≤ 0; decide), (by show (0 : Int) ≤ 0; decide)⟩
theorem law_of {K : PySem.W.Frag} {H : Hp} {a : Addr} {ns : List Int} {E : XK} (hl : ns.length ≤ 63) (hS : SqL K H a (ns.map V.int)) (h : m_law ns = some true) : sp_law K [.ref a] H (fun v _ => v = .bl true) E :=
  ⟨ns, true, ⟨H, fun _ => none⟩, h, only_core hS, .cons ⟨hl, a, rfl, hS⟩ .nil, fun v H ⟨F, c, e⟩ => e⟩

theorem two_pow_le {n m : Nat} (h : n ≤ m) : (2 : Int) ^ n ≤ 2 ^ m := by
  rw [← cast_two_pow, ← cast_two_pow]
  exact Int.ofNat_le.mpr (Nat.pow_le_pow_right (by decide) h)
theorem sml_two_pow {n : Nat} (h : n ≤ 4000) : Sml (2 ^ n) := sml_of (n := n + 1) (by omega) (by
  rw [← cast_two_pow, Int.natAbs_natCast]
  exact Nat.pow_lt_pow_right (by decide) (by omega))
theorem toNat_le {b : Int} {n : Nat} (h : b ≤ n) : b.toNat ≤ n := by omega
theorem numbers_ok {k : Cup} {count bits N : Int} (hk : CupOk k N) (hN : N ≤ 990000) (hc0 : 0 ≤ count) (hc1 : count ≤ 100) (hb0 : 0 ≤ bits) (hb1 : bits ≤ 100) :
    Tot (m_l_numbers k count bits) fun r => (r.1.length : Int) = count ∧ (∀ x ∈ r.1, 0 ≤ x ∧ x < 2 ^ bits.toNat) ∧ CupOk r.2 (N + 1 + 2 * count) := by
  have hp : (0 : Int) < 2 ^ bits.toNat := two_pow_pos _
  have hs : Sml (2 ^ bits.toNat) := sml_two_pow (Nat.le_trans (toNat_le (n := 100) hb1) (by decide))
  unfold m_l_numbers
  refine Tot.bind (dip_ok hk (by omega) (by decide) (sml64 (by decide) (by decide))) fun r1 ⟨d1, d2, d3⟩ => ?_
  refine Tot.bind (P := (· = rangeI 0 count)) (tot_range (by omega) (by omega) (by omega) (by omega) (by omega) rfl) fun t2 e2 => ?_
  subst e2
  have len : (rangeI 0 count).length = count.toNat := by rw [len_rangeI]; omega
  refine Tot.bind (Tot.fold (I := fun j (b : Cup × List Int) => b.2.length = j ∧ (∀ x ∈ b.2, 0 ≤ x ∧ x < 2 ^ bits.toNat) ∧ CupOk b.1 (N + 1 + 2 * (j : Int))) _ _ 0 ⟨rfl, fun x hx => absurd hx (by simp), d3.mono (by omega)⟩ fun j x b hx hI => ?_) fun o ⟨o1, o2, o3⟩ => ?_
  · obtain ⟨ex, hj⟩ := rangeI_get hx
    obtain ⟨b1, b2, b3⟩ := hI
    rw [Nat.zero_add] at b1 b3 ⊢
    refine Tot.bind (P := (· = 2 ^ bits.toNat)) (tot_shl hb0 (by omega) (sml64 (by decide) (by decide)) (Int.one_mul _)) fun t5 e5 => ?_
    subst e5
    refine Tot.bind (dip_ok b3 (by omega) hp hs) fun r6 ⟨f1, f2, f3⟩ => ?_
    refine Tot.bind (P := fun r => 0 ≤ r ∧ r < 2 ^ bits.toNat) (Tot.cond (fun _ => ?_) fun _ => Tot.ret ⟨f1, f2⟩) fun j9 h9 => ?_
    · refine Tot.bind (P := (· = 2 ^ bits.toNat)) (tot_shl hb0 (by omega) (sml64 (by decide) (by decide)) (Int.one_mul _)) fun t5 e5 => ?_
      subst e5
      exact Tot.bind (P := fun r => 0 ≤ r ∧ r < 2 ^ bits.toNat) (tot_mod hp ⟨Int.emod_nonneg _ (by omega), Int.emod_lt_of_pos _ hp⟩) fun _ h => Tot.ret h
    refine Tot.bind (P := fun r => (0 ≤ r.1 ∧ r.1 < 2 ^ bits.toNat) ∧ CupOk r.2 (N + 1 + 2 * (j : Int) + 2)) (Tot.cond (fun hc => ?_) fun _ => Tot.ret ⟨h9, f3.mono (by omega)⟩) fun j17 ⟨h17, g17⟩ => ?_
    · have hne : b.2 ≠ [] := fun e => by
        rw [e] at hc
        simp at hc
      have hat : ∃ v, atI b.2 (-1) = some v := by
        obtain ⟨ys, y, e⟩ : ∃ ys y, b.2 = ys ++ [y] := ⟨_, _, (List.dropLast_concat_getLast hne).symm⟩
        rw [e]
        exact ⟨y, atI_last ys y⟩
      obtain ⟨v, ev⟩ := hat
      refine Tot.bind (P := fun _ => True) (Tot.of ev trivial) fun t18 _ => ?_
      refine Tot.bind (dip_ok f3 (by omega) (by omega) (sml64 (by omega) (by omega))) fun r19 ⟨g1, g2, g3⟩ => ?_
      refine Tot.bind (P := fun _ => True) (tot_shl g1 (by omega) (sml64 (by decide) (by decide)) trivial) fun t20 _ => ?_
      refine Tot.bind (P := (· = 2 ^ bits.toNat)) (tot_shl hb0 (by omega) (sml64 (by decide) (by decide)) (Int.one_mul _)) fun t5 e5 => ?_
      subst e5
      refine Tot.bind (P := fun r => 0 ≤ r ∧ r < 2 ^ bits.toNat) (tot_mod hp ⟨Int.emod_nonneg _ (by omega), Int.emod_lt_of_pos _ hp⟩) fun _ h => Tot.ret ⟨h, g3.mono (by omega)⟩
    refine Tot.bind (P := (· = b.2 ++ [j17.1])) (tot_app (by omega) rfl) fun l23 e => ?_
    subst e
    refine Tot.ret ⟨by rw [List.length_append, b1]; rfl, fun x hx => ?_, g17.mono (by omega)⟩
    rcases List.mem_append.mp hx with h | h
    · exact b2 x h
    · have : x = j17.1 := by simpa using h
      rw [this]; exact h17
  · rw [len, Nat.zero_add] at o1 o3
    exact Tot.ret ⟨by rw [o1]; omega, o2, o3.mono (by omega)⟩

theorem rangeI_mem {a b x : Int} : x ∈ rangeI a b ↔ a ≤ x ∧ x < b := by
  unfold rangeI
  rw [List.mem_map]
  constructor
  · rintro ⟨k, hk, e⟩
    have := List.mem_range.mp hk
    omega
  · rintro ⟨h1, h2⟩
    exact ⟨(x - a).toNat, List.mem_range.mpr (by omega), by omega⟩
theorem rangeI_up (a b : Int) : (rangeI a b).Pairwise (· < ·) := by
  unfold rangeI
  exact List.pairwise_map.mpr (List.pairwise_lt_range.imp fun {x y} h => by omega)

def gv (xs : List Int) (i : Int) : Int := xs.getD i.toNat 0
theorem at_gv {xs : List Int} {i : Int} (h0 : 0 ≤ i) (h1 : i < xs.length) : atI xs i = some (gv xs i) := by
  obtain ⟨x, e, h⟩ := at_int (P := fun x => x = gv xs i) h0 h1 fun x hx => by unfold gv; rw [List.getD_eq_getElem?_getD, hx]; rfl
  rw [e, h]

theorem repr_there {d : PyData} (h1 : d.showable = true) (h2 : d.shown.length ≤ sizeLine) : oRepr d = some d.shown := by
  unfold oRepr
  rw [if_pos ⟨h1, h2⟩]
theorem int_shown {i : Int} (h : i.natAbs.log2 < 1920) : (eInt.d i).showable = true ∧ (eInt.d i).shown.length ≤ 2000 := by
  refine ⟨by show decide _ = true; exact decide_eq_true h, ?_⟩
  show (Str.ofString (toString i)).length ≤ 2000
  have e := int_text_length_le (k := 1920) (by decide) h
  rw [PySem.ofString_length]
  omega
theorem all_showable : ∀ {xs : List Int}, (∀ x ∈ xs, x.natAbs.log2 < 1920) → PyData.showableAll (xs.map eInt.d) = true ∧ piled (PyData.shownAll (xs.map eInt.d)) ≤ 2002 * xs.length
  | [], _ => ⟨rfl, Nat.le_refl _⟩
  | x :: xs, h => by
    obtain ⟨a, b⟩ := int_shown (h x List.mem_cons_self)
    obtain ⟨c, d⟩ := all_showable (xs := xs) fun y hy => h y (List.mem_cons_of_mem _ hy)
    refine ⟨by rw [List.map_cons, PyData.showableAll, a, c]; rfl, ?_⟩
    rw [List.map_cons, PyData.shownAll, piled_cons, List.length_cons]
    omega
theorem tuple_text_le (ts : List Str) : (tupleText ts).length ≤ piled ts + 4 := by
  unfold tupleText
  rw [strLen_append, strLen_append]
  have e1 : ((("(" : String) : Str)).length = 1 := rfl
  have e3 : (((if ts.length == 1 then ",)" else ")" : String) : Str)).length ≤ 2 := by split <;> decide +kernel
  have e2 : (Str.join ", " ts).length ≤ piled ts := by
    by_cases h : ts = []
    · subst h; decide +kernel
    · have := join_length_add ts h
      omega
  omega
theorem log2_small {x : Int} {n : Nat} (h0 : 0 ≤ x) (h1 : x < 2 ^ n) (hn : n < 1920) : x.natAbs.log2 < 1920 := by
  obtain ⟨m, rfl⟩ := Int.eq_ofNat_of_zero_le h0
  rw [Int.natAbs_natCast]
  rw [← cast_two_pow] at h1
  have h2 : m < 2 ^ n := Int.ofNat_lt.mp h1
  by_cases e : m = 0
  · subst e; decide
  · exact Nat.lt_of_lt_of_le ((Nat.log2_lt e).mpr h2) (Nat.le_of_lt hn)
def TB (x : Int) (i : Nat) : Bool := decide (x / 2 ^ i % 2 = 1)
theorem TB_zero (x : Int) : TB x 0 = decide (x % 2 = 1) := by unfold TB; rw [Int.pow_zero, Int.ediv_one]
theorem TB_succ (x : Int) (i : Nat) : TB x (i + 1) = TB (x / 2) i := by
  unfold TB
  have e : (2 : Int) ^ (i + 1) = 2 * 2 ^ i := by rw [Int.pow_succ, Int.mul_comm]
  rw [e, ← Int.ediv_ediv_of_nonneg (by decide)]
theorem and_half (x y : Int) : Builtin.bitAnd x y / 2 = Builtin.bitAnd (x / 2) (y / 2) ∧ Builtin.bitAnd x y % 2 = (if x % 2 = 1 ∧ y % 2 = 1 then 1 else 0) := by
  have h := PySem.W.kbt_halves x y
  split at h
  · rename_i c; rw [if_pos c]; omega
  · rename_i c; rw [if_neg c]; omega
theorem TB_and : ∀ (i : Nat) (x y : Int), TB (Builtin.bitAnd x y) i = (TB x i && TB y i)
  | 0, x, y => by
    rw [TB_zero, TB_zero, TB_zero, (and_half x y).2]
    by_cases a : x % 2 = 1 <;> by_cases b : y % 2 = 1 <;> simp [a, b]
  | i + 1, x, y => by rw [TB_succ, TB_succ, TB_succ, (and_half x y).1, TB_and i]
theorem not_half (x : Int) : Builtin.bitNot x / 2 = Builtin.bitNot (x / 2) ∧ Builtin.bitNot x % 2 = 1 - x % 2 := by
  show (-x - 1) / 2 = -(x / 2) - 1 ∧ (-x - 1) % 2 = 1 - x % 2
  omega
theorem TB_not : ∀ (i : Nat) (x : Int), TB (Builtin.bitNot x) i = !TB x i
  | 0, x => by
    rw [TB_zero, TB_zero, (not_half x).2]
    have : x % 2 = 0 ∨ x % 2 = 1 := by omega
    rcases this with h | h <;> rw [h] <;> rfl
  | i + 1, x => by rw [TB_succ, TB_succ, (not_half x).1, TB_not i]
theorem or_eq (x y : Int) : Builtin.bitOr x y = Builtin.bitNot (Builtin.bitAnd (Builtin.bitNot x) (Builtin.bitNot y)) := rfl
theorem xor_eq (x y : Int) : Builtin.bitXor x y = Builtin.bitOr x y - Builtin.bitAnd x y := rfl
theorem or_half (x y : Int) : Builtin.bitOr x y / 2 = Builtin.bitOr (x / 2) (y / 2) ∧ Builtin.bitOr x y % 2 = (if x % 2 = 1 ∨ y % 2 = 1 then 1 else 0) := by
  rw [or_eq, or_eq, (not_half _).1, (not_half _).2, (and_half _ _).1, (and_half _ _).2, (not_half x).1, (not_half y).1, (not_half x).2, (not_half y).2]
  refine ⟨rfl, ?_⟩
  have a : x % 2 = 0 ∨ x % 2 = 1 := by omega
  have b : y % 2 = 0 ∨ y % 2 = 1 := by omega
  rcases a with a | a <;> rcases b with b | b <;> simp [a, b]
theorem xor_half (x y : Int) : Builtin.bitXor x y / 2 = Builtin.bitXor (x / 2) (y / 2) ∧ Builtin.bitXor x y % 2 = (if (x % 2 = 1) ↔ (y % 2 = 1) then 0 else 1) := by
  rw [xor_eq, xor_eq]
  obtain ⟨a1, a2⟩ := or_half x y
  obtain ⟨b1, b2⟩ := and_half x y
  rw [← a1, ← b1]
  have a : x % 2 = 0 ∨ x % 2 = 1 := by omega
  have b : y % 2 = 0 ∨ y % 2 = 1 := by omega
  generalize Builtin.bitOr x y = p at *
  generalize Builtin.bitAnd x y = q at *
  rcases a with a | a <;> rcases b with b | b <;> simp [a, b] at a2 b2 ⊢ <;> omega
theorem TB_xor : ∀ (i : Nat) (x y : Int), TB (Builtin.bitXor x y) i = (TB x i ^^ TB y i)
  | 0, x, y => by
    rw [TB_zero, TB_zero, TB_zero, (xor_half x y).2]
    by_cases a : x % 2 = 1 <;> by_cases b : y % 2 = 1 <;> simp [a, b]
  | i + 1, x, y => by rw [TB_succ, TB_succ, TB_succ, (xor_half x y).1, TB_xor i]
theorem TB_ext : ∀ {n : Nat} {x y : Int}, 0 ≤ x → x < 2 ^ n → 0 ≤ y → y < 2 ^ n → (∀ i, i < n → TB x i = TB y i) → x = y
  | 0, x, y, h0, h1, g0, g1, _ => by rw [Int.pow_zero] at h1 g1; omega
  | n + 1, x, y, h0, h1, g0, g1, h => by
    have e : (2 : Int) ^ (n + 1) = 2 ^ n * 2 := Int.pow_succ _ _
    rw [e] at h1 g1
    have b0 := h 0 (Nat.succ_pos _)
    rw [TB_zero, TB_zero] at b0
    have ih := TB_ext (n := n) (x := x / 2) (y := y / 2) (by omega) (by omega) (by omega) (by omega) fun i hi => by rw [← TB_succ, ← TB_succ]; exact h (i + 1) (Nat.succ_lt_succ hi)
    have ex : x % 2 = 0 ∨ x % 2 = 1 := by omega
    have ey : y % 2 = 0 ∨ y % 2 = 1 := by omega
    have : (x % 2 = 1) ↔ (y % 2 = 1) := by simpa using b0
    omega
theorem nat_below (x : Int) (h : 0 ≤ x) : ∃ n : Nat, x < 2 ^ n := ⟨x.toNat, by
  rw [← cast_two_pow]
  have := Nat.lt_two_pow_self (n := x.toNat)
  omega⟩
theorem pow_mono {a b : Nat} (h : a ≤ b) : (2 : Int) ^ a ≤ 2 ^ b := by
  rw [← cast_two_pow, ← cast_two_pow]
  exact Int.ofNat_le.mpr (Nat.pow_le_pow_right (by decide) h)
theorem TB_ext' {x y : Int} (h0 : 0 ≤ x) (g0 : 0 ≤ y) (h : ∀ i, TB x i = TB y i) : x = y := by
  obtain ⟨n, hn⟩ := nat_below x h0
  obtain ⟨m, hm⟩ := nat_below y g0
  exact TB_ext (n := max n m) h0 (Int.lt_of_lt_of_le hn (pow_mono (Nat.le_max_left _ _))) g0 (Int.lt_of_lt_of_le hm (pow_mono (Nat.le_max_right _ _))) fun i _ => h i
theorem TB_high {x : Int} {n i : Nat} (h0 : 0 ≤ x) (h1 : x < 2 ^ n) (h : n ≤ i) : TB x i = false := by
  unfold TB
  rw [Int.ediv_eq_zero_of_lt h0 (Int.lt_of_lt_of_le h1 (pow_mono h))]
  rfl
theorem and_nn {x y : Int} (h : 0 ≤ x ∨ 0 ≤ y) : 0 ≤ Builtin.bitAnd x y := by
  unfold Builtin.bitAnd
  by_cases a : 0 ≤ x <;> by_cases b : 0 ≤ y
  · simp [a, b]
  · simp only [a, b, decide_true, decide_false]
    have := Nat.and_le_left (n := x.toNat) (m := (Builtin.bitNot y).toNat)
    omega
  · simp only [a, b, decide_true, decide_false]
    have := Nat.and_le_left (n := y.toNat) (m := (Builtin.bitNot x).toNat)
    omega
  · exact absurd h (by simp [a, b])
theorem TB_ones (n i : Nat) : TB (2 ^ n - 1) i = decide (i < n) := by
  have hp := two_pow_pos n
  have e : Builtin.bitAnd (2 ^ n - 1) (2 ^ n - 1) = 2 ^ n - 1 := by
    rw [bitAnd_mask, Int.emod_eq_of_lt (by omega) (by omega)]
  by_cases h : i < n
  · rw [decide_eq_true h]
    unfold TB
    refine decide_eq_true ?_
    have e2 : (2 : Int) ^ n = 2 ^ i * (2 ^ (n - i - 1) * 2) := by
      rw [← Int.pow_succ, ← Int.pow_add]
      congr 1
      omega
    have hq := two_pow_pos i
    have e3 : (2 : Int) ^ n - 1 = 2 ^ i * (2 ^ (n - i - 1) * 2 - 1) + (2 ^ i - 1) := by
      rw [Int.mul_sub, ← e2]
      omega
    rw [e3, Int.add_comm, Int.add_mul_ediv_left _ _ (by omega), Int.ediv_eq_zero_of_lt (by omega) (by omega)]
    omega
  · rw [decide_eq_false h]
    exact TB_high (by omega) (by omega : (2 : Int) ^ n - 1 < 2 ^ n) (by omega)
abbrev Tst := Int × Int
structure WF (t : Tst) : Prop where
  m0 : 0 ≤ t.1
  v0 : 0 ≤ t.2
  sub : Builtin.bitAnd t.2 t.1 = t.2
theorem WF.bits {t : Tst} (h : WF t) (i : Nat) : TB t.2 i = true → TB t.1 i = true := fun e => by
  have := congrArg (fun x => TB x i) h.sub
  rw [TB_and, e] at this
  simpa using this
theorem WF.of {m v : Int} (h0 : 0 ≤ m) (h1 : 0 ≤ v) (h : ∀ i, TB v i = true → TB m i = true) : WF (m, v) := ⟨h0, h1, TB_ext' (and_nn (.inl h1)) h1 fun i => by
  rw [TB_and]
  cases e : TB v i with
  | false => rfl
  | true => rw [h i e]; rfl⟩
theorem natural_ok {x : Int} (h : 0 ≤ x) : m_is_natural x = some true := by
  unfold m_is_natural
  rw [decide_eq_true h]
  rfl
theorem init_ok {t : Tst} (h : WF t) : m_Test_init t.1 t.2 = some t := by
  refine Tot.get ?_
  unfold m_Test_init
  refine Tot.bind (P := (· = true)) (Tot.of (natural_ok h.m0) rfl) fun r1 e1 => ?_
  subst e1
  refine Tot.bind (P := (· = false)) (Tot.cond (fun hc => absurd hc (by decide)) fun _ => Tot.bind (P := (· = true)) (Tot.of (natural_ok h.v0) rfl) fun r2 e2 => Tot.ret (by rw [e2, h.sub]; simp)) fun t3 e3 => ?_
  subst e3
  exact Tot.ret rfl
def Hd (t : Tst) (n : Int) : Bool := decide (Builtin.bitAnd n t.1 = t.2)
def lmask (x0 : Int) (m : Int) (xs : List Int) : Int := xs.foldl (fun m x => Builtin.bitAnd m (Builtin.bitNot (Builtin.bitXor x x0))) m
theorem TB_lmask (x0 : Int) (i : Nat) : ∀ (xs : List Int) (m : Int), TB (lmask x0 m xs) i = (TB m i && xs.all fun x => TB x i == TB x0 i)
  | [], m => by show TB m i = _; simp
  | x :: xs, m => by
    show TB (lmask x0 (Builtin.bitAnd m (Builtin.bitNot (Builtin.bitXor x x0))) xs) i = _
    rw [TB_lmask x0 i xs, TB_and, TB_not, TB_xor, List.all_cons, Bool.and_assoc]
    cases TB x i <;> cases TB x0 i <;> rfl
theorem lmask_nn (x0 : Int) : ∀ (xs : List Int) (m : Int), 0 ≤ m → 0 ≤ lmask x0 m xs
  | [], m, h => h
  | x :: xs, m, h => lmask_nn x0 xs _ (and_nn (.inl h))
def LS (b : Nat) (xs : List Int) : Tst := (lmask (gv xs 0) (2 ^ b - 1) xs, Builtin.bitAnd (gv xs 0) (lmask (gv xs 0) (2 ^ b - 1) xs))
theorem TB_LS1 (b : Nat) (xs : List Int) (i : Nat) : TB (LS b xs).1 i = (decide (i < b) && xs.all fun x => TB x i == TB (gv xs 0) i) := by
  unfold LS
  rw [TB_lmask, TB_ones]
theorem TB_LS2 (b : Nat) (xs : List Int) (i : Nat) : TB (LS b xs).2 i = (TB (gv xs 0) i && TB (LS b xs).1 i) := by
  show TB (Builtin.bitAnd _ _) i = _
  rw [TB_and]
  rfl
theorem gv_mem {xs : List Int} (h : xs ≠ []) : gv xs 0 ∈ xs := by
  cases xs with
  | nil => exact absurd rfl h
  | cons x xs => exact List.mem_cons_self
theorem LS_wf {b : Nat} {xs : List Int} (h : xs ≠ []) (hx : ∀ x ∈ xs, 0 ≤ x) : WF (LS b xs) := by
  have hp := two_pow_pos b
  refine WF.of (lmask_nn _ _ _ (by omega)) (and_nn (.inl (hx _ (gv_mem h)))) fun i e => ?_
  have e' : TB (LS b xs).2 i = true := e
  rw [TB_LS2, Bool.and_eq_true] at e'
  exact e'.2
theorem least_ok {b : Int} {xs : List Int} (h : xs ≠ []) (hx : ∀ x ∈ xs, 0 ≤ x) (h0 : 0 ≤ b) (h1 : b ≤ 100000) : m_least_test xs b = some (LS b.toNat xs) := by
  have hat : atI xs 0 = some (gv xs 0) := at_gv (Int.le_refl 0) (by have := List.length_pos_iff.mpr h; omega)
  refine Tot.get ?_
  unfold m_least_test
  refine Tot.bind (P := (· = 2 ^ b.toNat)) (tot_shl h0 h1 (sml64 (by decide) (by decide)) (Int.one_mul _)) fun t1 e1 => ?_
  subst e1
  refine Tot.bind (Tot.fold (I := fun j m => m = lmask (gv xs 0) (2 ^ b.toNat - 1) (xs.take j)) _ _ 0 (by simp [lmask]) fun j x m hj hm => ?_) fun o5 ho => ?_
  · rw [Nat.zero_add] at hm ⊢
    refine Tot.bind (P := (· = gv xs 0)) (Tot.of hat rfl) fun t4 e4 => ?_
    subst e4
    refine Tot.ret ?_
    rw [List.take_succ, hj, hm]
    unfold lmask
    rw [List.foldl_append]
    rfl
  · rw [Nat.zero_add, List.take_length] at ho
    subst ho
    refine Tot.bind (P := (· = gv xs 0)) (Tot.of hat rfl) fun t7 e7 => ?_
    subst e7
    exact Tot.bind (P := (· = LS b.toNat xs)) (Tot.of (init_ok (t := LS b.toNat xs) (LS_wf h hx)) rfl) fun r8 e => Tot.ret e

structure Asc (n : Int) (g : List Int) : Prop where
  ne : g ≠ []
  up : g.Pairwise (· < ·)
  rng : ∀ x ∈ g, 0 ≤ x ∧ x < n
theorem up_len : ∀ {g : List Int} {a n : Int}, g.Pairwise (· < ·) → (∀ x ∈ g, a ≤ x ∧ x < n) → a ≤ n → (g.length : Int) ≤ n - a
  | [], a, n, _, _, h => by rw [List.length_nil]; omega
  | x :: g, a, n, hp, hr, h => by
    obtain ⟨h1, h2⟩ := List.pairwise_cons.mp hp
    have hx := hr x List.mem_cons_self
    have ih := up_len (a := x + 1) (n := n) h2 (fun y hy => ⟨by have := h1 y hy; omega, (hr y (List.mem_cons_of_mem _ hy)).2⟩) (by omega)
    rw [List.length_cons]
    omega
theorem Asc.len {n : Int} {g : List Int} (h : Asc n g) (hn : 0 ≤ n) : (g.length : Int) ≤ n := by
  have := up_len (a := 0) h.up h.rng hn
  omega
theorem up_ext : ∀ {xs ys : List Int}, xs.Pairwise (· < ·) → ys.Pairwise (· < ·) → (∀ z, z ∈ xs ↔ z ∈ ys) → xs = ys
  | [], [], _, _, _ => rfl
  | [], y :: ys, _, _, h => absurd ((h y).mpr List.mem_cons_self) (by simp)
  | x :: xs, [], _, _, h => absurd ((h x).mp List.mem_cons_self) (by simp)
  | x :: xs, y :: ys, hx, hy, h => by
    obtain ⟨x1, x2⟩ := List.pairwise_cons.mp hx
    obtain ⟨y1, y2⟩ := List.pairwise_cons.mp hy
    have e : x = y := by
      rcases List.mem_cons.mp ((h x).mp List.mem_cons_self) with e | e
      · exact e
      · rcases List.mem_cons.mp ((h y).mpr List.mem_cons_self) with e' | e'
        · exact e'.symm
        · have := y1 x e
          have := x1 y e'
          omega
    subst e
    have : xs = ys := up_ext x2 y2 fun z => by
      constructor
      · intro hz
        rcases List.mem_cons.mp ((h z).mp (List.mem_cons_of_mem _ hz)) with e | e
        · have := x1 z hz; omega
        · exact e
      · intro hz
        rcases List.mem_cons.mp ((h z).mpr (List.mem_cons_of_mem _ hz)) with e | e
        · have := y1 z hz; omega
        · exact e
    rw [this]
theorem group_up {k : Cup} {count N : Int} (hk : CupOk k N) (hN : N ≤ 990000) (hc0 : 1 ≤ count) (hc1 : count ≤ 100) : Tot (m_l_group k count) fun r => Asc count r.1 ∧ CupOk r.2 (N + count + 1) := by
  unfold m_l_group
  refine Tot.bind (P := (· = rangeI 0 count)) (tot_range (by omega) (by omega) (by omega) (by omega) (by omega) rfl) fun t1 e1 => ?_
  subst e1
  have len : (rangeI 0 count).length = count.toNat := by rw [len_rangeI]; omega
  refine Tot.bind (Tot.lc (I := fun i (acc : List Int) c => (acc.Pairwise (· < ·) ∧ ∀ x ∈ acc, 0 ≤ x ∧ x < (i : Int)) ∧ CupOk c (N + (i : Int))) _ _ 0 [] ⟨⟨List.Pairwise.nil, fun x hx => absurd hx (by simp)⟩, hk.mono (by omega)⟩ fun j x b acc hx ⟨⟨h1, hb⟩, h2⟩ => ?_) fun r ⟨⟨h1, hb⟩, h2⟩ => ?_
  · obtain ⟨ex, hj⟩ := rangeI_get hx
    rw [Nat.zero_add] at h2 hb ⊢
    refine Tot.bind (dip_ok h2 (by omega) (by decide) (sml64 (by decide) (by decide))) fun r5 ⟨_, _, f3⟩ => ?_
    refine Tot.cond (fun _ => Tot.ret ⟨⟨List.pairwise_append.mpr ⟨h1, List.pairwise_singleton _ _, fun a ha c hc => ?_⟩, fun y hy => ?_⟩, f3.mono (by omega)⟩) fun _ => Tot.ret ⟨⟨by rw [List.append_nil]; exact h1, fun y hy => by have := hb y (by simpa using hy); omega⟩, f3.mono (by omega)⟩
    · have : c = x := by simpa using hc
      have := hb a ha
      omega
    · rcases List.mem_append.mp hy with g | g
      · have := hb y g; omega
      · have : y = x := by simpa using g
        omega
  · rw [len, Nat.zero_add] at h2 hb
    rw [List.nil_append] at h1 hb
    refine Tot.bind (P := fun r => Asc count r.1 ∧ CupOk r.2 (N + count + 1)) (Tot.cond (fun hc => Tot.ret ⟨⟨?_, h1, fun x hx => by have := hb x hx; omega⟩, h2.mono (by omega)⟩) fun hc => ?_) fun t9 h => Tot.ret h
    · intro e
      rw [show r.1 = [] from e] at hc
      simp at hc
    · refine Tot.bind (dip_ok h2 (by omega) (by omega) (sml64 (by omega) (by omega))) fun r8 ⟨f1, f2, f3⟩ => Tot.ret ⟨⟨by simp, List.pairwise_singleton _ _, fun x hx => ?_⟩, f3.mono (by omega)⟩
      have : x = r8.1 := by simpa using hx
      omega
theorem enum_eq (ns : List Int) : enumI ns = (List.range ns.length).map fun (i : Nat) => ((i : Int), gv ns (i : Int)) := by
  refine List.ext_getElem? fun i => ?_
  rcases Nat.lt_or_ge i ns.length with h | h
  · rw [enumI_get (List.getElem?_eq_getElem h), List.getElem?_map, List.getElem?_range h]
    show _ = some ((i : Int), gv ns (i : Int))
    unfold gv
    rw [List.getD_eq_getElem?_getD, Int.toNat_natCast, List.getElem?_eq_getElem h]
    rfl
  · rw [List.getElem?_eq_none (by rw [enumI_len]; exact h), List.getElem?_eq_none (by rw [List.length_map, List.length_range]; exact h)]
theorem places_iff {ns g : List Int} {p : Int → Bool} (hg : Asc (ns.length : Int) g) : ((enumI ns).filter fun x => p x.2).map (fun x => x.1) = g ↔ ∀ k : Nat, k < ns.length → (p (gv ns (k : Int)) = true ↔ (k : Int) ∈ g) := by
  rw [enum_eq, List.filter_map, List.map_map]
  have mem : ∀ z : Int, z ∈ (List.map ((fun (x : Int × Int) => x.1) ∘ fun (i : Nat) => ((i : Int), gv ns (i : Int))) (List.filter ((fun (x : Int × Int) => p x.2) ∘ fun (i : Nat) => ((i : Int), gv ns (i : Int))) (List.range ns.length))) ↔ ∃ k : Nat, k < ns.length ∧ p (gv ns (k : Int)) = true ∧ (k : Int) = z := fun z => by
    rw [List.mem_map]
    constructor
    · rintro ⟨k, hk, e⟩
      obtain ⟨h1, h2⟩ := List.mem_filter.mp hk
      exact ⟨k, List.mem_range.mp h1, h2, e⟩
    · rintro ⟨k, h1, h2, e⟩
      exact ⟨k, List.mem_filter.mpr ⟨List.mem_range.mpr h1, h2⟩, e⟩
  have up : (List.map ((fun (x : Int × Int) => x.1) ∘ fun (i : Nat) => ((i : Int), gv ns (i : Int))) (List.filter ((fun (x : Int × Int) => p x.2) ∘ fun (i : Nat) => ((i : Int), gv ns (i : Int))) (List.range ns.length))).Pairwise (· < ·) :=
    List.Pairwise.map _ (fun a b h => Int.ofNat_lt.mpr h) (List.pairwise_lt_range.filter _)
  constructor
  · intro e k hk
    rw [← e, mem]
    constructor
    · intro h
      exact ⟨k, hk, h, rfl⟩
    · rintro ⟨q, _, h, e2⟩
      have : q = k := by omega
      subst this
      exact h
  · intro h
    refine up_ext up hg.up fun z => ?_
    rw [mem]
    constructor
    · rintro ⟨k, hk, h1, e⟩
      rw [← e]
      exact (h k hk).mp h1
    · intro hz
      obtain ⟨a, b⟩ := hg.rng z hz
      refine ⟨z.toNat, by omega, ?_, by omega⟩
      have hz' : ((z.toNat : Nat) : Int) ∈ g := by rw [show ((z.toNat : Nat) : Int) = z by omega]; exact hz
      exact (h z.toNat (by omega)).mpr hz'

theorem numbers_of_ok {ns g : List Int} (hg : ∀ x ∈ g, 0 ≤ x ∧ x < (ns.length : Int)) : m_numbers_of ns g = some (g.map (gv ns)) := by
  unfold m_numbers_of
  rw [mapO_map (g := gv ns) fun x hx => ?_]
  · rfl
  · obtain ⟨a, b⟩ := hg x hx
    rw [at_gv a b]
    rfl
def Just (ns g : List Int) (m : Int) : Prop := ∀ k : Nat, k < ns.length → (Builtin.bitAnd (gv ns (k : Int)) m = Builtin.bitAnd (gv ns (gv g 0)) m ↔ (k : Int) ∈ g)
def JustT (ns g : List Int) (t : Tst) : Prop := ∀ k : Nat, k < ns.length → (Hd t (gv ns (k : Int)) = true ↔ (k : Int) ∈ g)
instance (ns g : List Int) (m : Int) : Decidable (Just ns g m) := Nat.decidableBallLT _ _
instance (ns g : List Int) (t : Tst) : Decidable (JustT ns g t) := Nat.decidableBallLT _ _
theorem tells_by_ok {ns g : List Int} {t : Tst} : m_tells_by ns g t = some (decide (JustT ns g t)) := by
  unfold m_tells_by
  rw [mapO_map (g := fun x : Int × Int => decide (Hd t x.2 = decide (x.1 ∈ g))) fun x hx => ?_]
  · show some ((List.map _ (enumI ns)).all id) = _
    rw [List.all_map, enum_eq, List.all_map]
    congr 1
    rw [Bool.eq_iff_iff, List.all_eq_true, decide_eq_true_eq]
    constructor
    · intro h k hk
      have := h k (List.mem_range.mpr hk)
      have e : Hd t (gv ns (k : Int)) = decide ((k : Int) ∈ g) := of_decide_eq_true this
      rw [e, decide_eq_true_eq]
    · intro h k hk
      refine decide_eq_true ?_
      show Hd t (gv ns (k : Int)) = decide ((k : Int) ∈ g)
      rw [Bool.eq_iff_iff, decide_eq_true_eq]
      exact h k (List.mem_range.mp hk)
  · rfl
abbrev Wd' (ns g : List Int) (b : Nat) : Tst := LS b (g.map (gv ns))
theorem first_gv {ns g : List Int} (h : g ≠ []) : gv (g.map (gv ns)) 0 = gv ns (gv g 0) := by
  cases g with
  | nil => exact absurd rfl h
  | cons x g => rfl
theorem gv_in {ns : List Int} {z : Int} (h0 : 0 ≤ z) (h1 : z < (ns.length : Int)) : gv ns z ∈ ns := by
  have hi : z.toNat < ns.length := by omega
  have e : gv ns z = ns[z.toNat] := by
    unfold gv
    rw [List.getD_eq_getElem?_getD, List.getElem?_eq_getElem hi]
    rfl
  rw [e]
  exact List.getElem_mem _
section
variable {ns g : List Int} {b : Nat} (hg : Asc (ns.length : Int) g) (hn : ∀ x ∈ ns, 0 ≤ x)
include hg hn
theorem in_nn : ∀ x ∈ g.map (gv ns), 0 ≤ x := fun x hx => by
  obtain ⟨z, hz, e⟩ := List.mem_map.mp hx
  obtain ⟨h0, h1⟩ := hg.rng z hz
  rw [← e]
  exact hn _ (gv_in h0 h1)
theorem widest_two : (Wd' ns g b).2 = Builtin.bitAnd (gv ns (gv g 0)) (Wd' ns g b).1 := by
  show Builtin.bitAnd (gv (g.map (gv ns)) 0) (lmask (gv (g.map (gv ns)) 0) (2 ^ b - 1) (g.map (gv ns))) = Builtin.bitAnd (gv ns (gv g 0)) (lmask (gv (g.map (gv ns)) 0) (2 ^ b - 1) (g.map (gv ns)))
  rw [first_gv hg.ne]
theorem just_within {m : Int} (h0 : 0 ≤ m) (h1 : m < 2 ^ b) (h : Just ns g m) : ∀ i, TB m i = true → TB (Wd' ns g b).1 i = true := fun i hi => by
  rw [TB_LS1, Bool.and_eq_true, List.all_eq_true]
  refine ⟨decide_eq_true (Nat.lt_of_not_le fun z => by rw [TB_high h0 h1 z] at hi; cases hi), fun x hx => ?_⟩
  obtain ⟨z, hz, e⟩ := List.mem_map.mp hx
  obtain ⟨z0, z1⟩ := hg.rng z hz
  have hz' : ((z.toNat : Nat) : Int) ∈ g := by rw [show ((z.toNat : Nat) : Int) = z by omega]; exact hz
  have := congrArg (fun y => TB y i) ((h z.toNat (by omega)).mpr hz')
  rw [show ((z.toNat : Nat) : Int) = z by omega] at this
  rw [TB_and, TB_and, hi, Bool.and_true, Bool.and_true, e] at this
  rw [first_gv hg.ne, this]
  simp
end

theorem repr_two {xs ys : List Int} (hx : ∀ x ∈ xs, x.natAbs.log2 < 1920) (hy : ∀ x ∈ ys, x.natAbs.log2 < 1920) (lx : xs.length ≤ 100) (ly : ys.length ≤ 100) : oRepr ((ePair (eTup eInt) (eTup eInt)).d (xs, ys)) = some ((ePair (eTup eInt) (eTup eInt)).d (xs, ys)).shown := by
  obtain ⟨a, b⟩ := all_showable hx
  obtain ⟨c, d⟩ := all_showable hy
  have s1 : ((eTup eInt).d xs).showable = true := a
  have s2 : ((eTup eInt).d ys).showable = true := c
  have t1 := tuple_text_le (PyData.shownAll (xs.map eInt.d))
  have t2 := tuple_text_le (PyData.shownAll (ys.map eInt.d))
  have t3 := tuple_text_le [((eTup eInt).d xs).shown, ((eTup eInt).d ys).shown]
  refine repr_there ?_ ?_
  · show PyData.showableAll [(eTup eInt).d xs, (eTup eInt).d ys] = true
    rw [PyData.showableAll, s1, PyData.showableAll, s2]
    rfl
  · rw [sizeLine_eq]
    show (tupleText [((eTup eInt).d xs).shown, ((eTup eInt).d ys).shown]).length ≤ _
    rw [piled_cons, piled_cons, piled_nil] at t3
    have u1 : ((eTup eInt).d xs).shown.length ≤ 2002 * xs.length + 4 := Nat.le_trans t1 (by omega)
    have u2 : ((eTup eInt).d ys).shown.length ≤ 2002 * ys.length + 4 := Nat.le_trans t2 (by omega)
    omega
theorem test_of_ok {ns g : List Int} {b : Int} (hg : Asc (ns.length : Int) g) (h0 : 0 ≤ b) (h1 : b ≤ 16) :
    m_l_test_of ns b g = some (((rangeI 0 (2 ^ b.toNat)).filter fun m => decide (Just ns g m)).map fun m => (m, Builtin.bitAnd (gv ns (gv g 0)) m)) := by
  have hp := two_pow_pos b.toNat
  have hle : (2 : Int) ^ b.toNat ≤ 65536 := Int.le_trans (two_pow_le (toNat_le (n := 16) h1)) (by decide)
  have hgl := List.length_pos_iff.mpr hg.ne
  have hg0 : gv g 0 ∈ g := gv_mem hg.ne
  obtain ⟨c0, c1⟩ := hg.rng _ hg0
  refine Tot.get ?_
  unfold m_l_test_of
  refine Tot.bind (P := (· = 2 ^ b.toNat)) (tot_shl h0 (by omega) (sml64 (by decide) (by decide)) (Int.one_mul _)) fun t1 e => ?_
  subst e
  refine Tot.bind (P := (· = rangeI 0 (2 ^ b.toNat))) (tot_range (by omega) (by omega) (by omega) (by omega) (by omega) rfl) fun t2 e => ?_
  subst e
  have len : (rangeI 0 (2 ^ b.toNat)).length = (2 ^ b.toNat : Int).toNat := by rw [len_rangeI]; omega
  refine Tot.bind (Tot.fold (I := fun j (acc : List (Int × Int)) => acc.length ≤ j ∧ acc = (((rangeI 0 (2 ^ b.toNat)).take j).filter fun m => decide (Just ns g m)).map fun m => (m, Builtin.bitAnd (gv ns (gv g 0)) m)) _ _ 0 ⟨Nat.le_refl _, by simp⟩ fun j m acc hj hI => ?_) fun o ⟨_, eo⟩ => ?_
  · obtain ⟨i1, i2⟩ := hI
    rw [Nat.zero_add] at i1 i2 ⊢
    have hjl := (rangeI_get hj).2
    refine Tot.bind (P := (· = gv g 0)) (Tot.of (at_gv (Int.le_refl 0) (by omega)) rfl) fun t5 e => ?_
    subst e
    refine Tot.bind (P := (· = gv ns (gv g 0))) (Tot.of (at_gv c0 c1) rfl) fun t6 e => ?_
    subst e
    have pl := places_iff (p := fun x => decide (Builtin.bitAnd x m = Builtin.bitAnd (gv ns (gv g 0)) m)) hg
    have et : ((rangeI 0 (2 ^ b.toNat)).take (j + 1)).filter (fun m => decide (Just ns g m)) = ((rangeI 0 (2 ^ b.toNat)).take j).filter (fun m => decide (Just ns g m)) ++ (if Just ns g m then [m] else []) := by
      rw [List.take_succ, hj, List.filter_append]
      congr 1
      by_cases h : Just ns g m
      · rw [if_pos h]
        show List.filter _ [m] = _
        simp [h]
      · rw [if_neg h]
        show List.filter _ [m] = _
        simp [h]
    refine Tot.cond (fun hc => ?_) fun hc => ?_
    · have hJ : Just ns g m := fun k hk => by
        have := pl.mp (of_decide_eq_true hc) k hk
        rw [decide_eq_true_eq] at this
        exact this
      refine Tot.bind (P := (· = acc ++ [(m, Builtin.bitAnd (gv ns (gv g 0)) m)])) (tot_app (by omega) rfl) fun l e => Tot.ret ?_
      subst e
      refine ⟨by rw [List.length_append]; exact Nat.add_le_add_right i1 1, ?_⟩
      rw [et, if_pos hJ, List.map_append, i2]
      rfl
    · have hJ : ¬ Just ns g m := fun h => of_decide_eq_false hc (pl.mpr fun k hk => by
        rw [decide_eq_true_eq]
        exact h k hk)
      refine Tot.ret ⟨by omega, ?_⟩
      rw [et, if_neg hJ, List.append_nil, i2]
  · rw [Nat.zero_add, List.take_length] at eo
    subst eo
    exact Tot.ret rfl

theorem genO_pick {α γ : Type} {f : α → Option (List γ)} {p : α → Bool} {h : α → γ} : ∀ {xs : List α}, (∀ x ∈ xs, f x = some (if p x = true then [h x] else [])) → genO f xs = some ((xs.filter p).map h)
  | [], _ => rfl
  | x :: xs, hx => by
    unfold genO
    rw [hx x List.mem_cons_self, genO_pick fun y hy => hx y (List.mem_cons_of_mem _ hy), List.filter_cons]
    by_cases c : p x = true
    · simp [c]
    · simp [c]
def AT (ns g : List Int) (b : Nat) : List Tst := ((rangeI 0 (2 ^ b)).filter fun m => decide (Just ns g m)).map fun m => (m, Builtin.bitAnd (gv ns (gv g 0)) m)
theorem and_within {m w : Int} (h0 : 0 ≤ m) (h : ∀ i, TB m i = true → TB w i = true) : Builtin.bitAnd m w = m := TB_ext' (and_nn (.inl h0)) h0 fun i => by
  rw [TB_and]
  cases c : TB m i with
  | false => rfl
  | true => rw [h i c]; rfl
theorem all_tests_ok {ns g : List Int} {b : Int} (hg : Asc (ns.length : Int) g) (hn : ∀ x ∈ ns, 0 ≤ x) (h0 : 0 ≤ b) (h1 : b ≤ 20) : m_all_tests ns b g = some (AT ns g b.toNat) := by
  have hp := two_pow_pos b.toNat
  have hle : (2 : Int) ^ b.toNat ≤ 1048576 := Int.le_trans (two_pow_le (toNat_le (n := 20) h1)) (by decide)
  have hg0 : gv g 0 ∈ g := gv_mem hg.ne
  obtain ⟨c0, c1⟩ := hg.rng _ hg0
  have x0 : 0 ≤ gv ns (gv g 0) := hn _ (gv_in c0 c1)
  refine Tot.get ?_
  unfold m_all_tests
  refine Tot.bind (P := (· = g.map (gv ns))) (Tot.of (numbers_of_ok hg.rng) rfl) fun r1 e => ?_
  subst e
  refine Tot.bind (P := (· = Wd' ns g b.toNat)) (Tot.of (least_ok (fun e => hg.ne (List.map_eq_nil_iff.mp e)) (in_nn hg hn) h0 (by omega)) rfl) fun r2 e => ?_
  subst e
  refine Tot.bind (P := (· = 2 ^ b.toNat)) (tot_shl h0 (by omega) (sml64 (by decide) (by decide)) (Int.one_mul _)) fun t1 e => ?_
  subst e
  refine Tot.bind (P := (· = rangeI 0 (2 ^ b.toNat))) (tot_range (by omega) (by omega) (by omega) (by omega) (by omega) rfl) fun t2 e => ?_
  subst e
  refine Tot.of (genO_pick (p := fun m => decide (Just ns g m)) (h := fun m => (m, Builtin.bitAnd (gv ns (gv g 0)) m)) fun m hm => ?_) rfl
  obtain ⟨m0, m1⟩ := rangeI_mem.mp hm
  refine Tot.get ?_
  refine Tot.cond (fun hc => ?_) fun hc => ?_
  · have hc := of_decide_eq_true hc
    have hin : ∀ i, TB m i = true → TB (Wd' ns g b.toNat).1 i = true := fun i hi => by
      rw [← hc, TB_and, Bool.and_eq_true] at hi
      exact hi.2
    have ev : Builtin.bitAnd (Wd' ns g b.toNat).2 m = Builtin.bitAnd (gv ns (gv g 0)) m := by
      rw [widest_two hg hn]
      refine TB_ext' (and_nn (.inr m0)) (and_nn (.inr m0)) fun i => ?_
      rw [TB_and, TB_and, TB_and]
      cases c : TB m i with
      | false => rw [Bool.and_false, Bool.and_false]
      | true => rw [hin i c]; simp
    have wf : WF (m, Builtin.bitAnd (gv ns (gv g 0)) m) := WF.of m0 (and_nn (.inr m0)) fun i hi => by
      rw [TB_and, Bool.and_eq_true] at hi
      exact hi.2
    refine Tot.bind (P := (· = (m, Builtin.bitAnd (gv ns (gv g 0)) m))) (Tot.of (by rw [ev]; exact init_ok wf) rfl) fun r6 e => ?_
    subst e
    refine Tot.bind (P := (· = decide (JustT ns g (m, Builtin.bitAnd (gv ns (gv g 0)) m)))) (Tot.of tells_by_ok rfl) fun r7 e => ?_
    subst e
    have jj : JustT ns g (m, Builtin.bitAnd (gv ns (gv g 0)) m) ↔ Just ns g m := forall_congr' fun k => forall_congr' fun _ => by
      unfold Hd
      rw [decide_eq_true_eq]
    refine Tot.cond (fun hc => ?_) fun hc => ?_
    · exact Tot.ret (by rw [if_pos (decide_eq_true (jj.mp (of_decide_eq_true hc)))])
    · exact Tot.ret (by rw [if_neg fun z => of_decide_eq_false hc (jj.mpr (of_decide_eq_true z))])
  · refine Tot.ret ?_
    rw [if_neg fun z => of_decide_eq_false hc (and_within m0 (just_within hg hn m0 m1 (of_decide_eq_true z)))]

theorem AT_len {ns g : List Int} {b : Nat} (h : b ≤ 8) : (AT ns g b).length ≤ 256 := by
  unfold AT
  rw [List.length_map]
  refine Nat.le_trans (List.length_filter_le _ _) ?_
  rw [len_rangeI]
  have := two_pow_le h
  omega
theorem first_ok {ns g : List Int} {b : Int} (hg : Asc (ns.length : Int) g) (hn : ∀ x ∈ ns, 0 ≤ x) (h0 : 0 ≤ b) (h1 : b ≤ 20) : m_l_first ns b g = some (AT ns g b.toNat).head? := by
  unfold m_l_first
  rw [all_tests_ok hg hn h0 h1]
  show bind (loopO _ (AT ns g b.toNat) ()) _ = _
  cases AT ns g b.toNat with
  | nil => rfl
  | cons x xs => rfl
theorem zip_self {α : Type} : ∀ xs : List α, xs.zip xs = xs.map fun x => (x, x)
  | [] => rfl
  | x :: xs => by rw [List.zip_cons_cons, zip_self xs]; rfl
theorem two_walks {xs : List (Int × Int)} (h : xs.length ≤ 256) : foldO (fun (b25 : ((List (Int × Int)))) (x24 : ((Int × Int) × (Int × Int))) => (((bind (oApp b25 (x24.1.1, x24.2.1)) fun l26 => pure (l26))) : Option ((List (Int × Int))))) (xs.zip xs) (([] : List (Int × Int))) = some (xs.map fun x => (x.1, x.1)) := by
  rw [zip_self]
  refine Tot.get ?_
  have := Tot.fold (f := fun (b25 : ((List (Int × Int)))) (x24 : ((Int × Int) × (Int × Int))) => (((bind (oApp b25 (x24.1.1, x24.2.1)) fun l26 => pure (l26))) : Option ((List (Int × Int))))) (I := fun i acc => acc = (xs.map fun x => (x.1, x.1)).take i) (xs.map fun x => (x, x)) [] 0 rfl fun j x b hj hb => ?_
  · refine this.imp fun r e => ?_
    rw [e, Nat.zero_add, List.length_map]
    refine List.take_of_length_le ?_
    rw [List.length_map]
    exact Nat.le_refl _
  · rw [Nat.zero_add] at hb ⊢
    have hl : j < xs.length := by
      have := (List.getElem?_eq_some_iff.mp hj).1
      rw [List.length_map] at this
      exact this
    rw [List.getElem?_map] at hj
    obtain ⟨y, hy, e⟩ := Option.map_eq_some_iff.mp hj
    refine Tot.bind (P := (· = b ++ [(x.1.1, x.2.1)])) (tot_app (by rw [hb, List.length_take]; omega) rfl) fun l e2 => Tot.ret ?_
    rw [e2, hb, List.take_succ, List.getElem?_map, hy, ← e]
    rfl
theorem right_ok {k : Cup} {N : Int} (hk : CupOk k N) (hN : N ≤ 900000) : Tot (m_l_right k) fun r => r.1 = true ∧ CupOk r.2 (N + 40) := by
  unfold m_l_right
  refine Tot.bind (dip_ok hk (by omega) (by decide) (sml64 (by decide) (by decide))) fun r1 ⟨u1, u2, c1⟩ => ?_
  refine Tot.bind (dip_ok c1 (by omega) (by decide) (sml64 (by decide) (by decide))) fun r2 ⟨v1, v2, c2⟩ => ?_
  refine Tot.bind (numbers_ok (count := 1 + r1.1) (bits := r2.1) c2 (by omega) (by omega) (by omega) v1 (by omega)) fun r3 ⟨d1, d2, c3⟩ => ?_
  refine Tot.bind (group_up (count := 1 + r1.1) c3 (by omega) (by omega) (by omega)) fun r4 ⟨g4, c4⟩ => ?_
  refine Tot.bind (group_up (count := 1 + r1.1) c4 (by omega) (by omega) (by omega)) fun r5 ⟨g5, c5⟩ => ?_
  refine Tot.bind (P := (· = rangeI 0 (1 + r1.1))) (tot_range (by omega) (by omega) (by omega) (by omega) (by omega) rfl) fun t6 e => ?_
  subst e
  have hz : Asc (1 + r1.1) [(0 : Int)] := ⟨by simp, List.pairwise_singleton _ _, fun x hx => by rw [List.mem_singleton.mp hx]; omega⟩
  have hall : Asc (1 + r1.1) (rangeI 0 (1 + r1.1)) := by
    refine ⟨fun e => ?_, rangeI_up 0 _, fun x hx => rangeI_mem.mp hx⟩
    have := congrArg List.length e
    rw [len_rangeI] at this
    simp at this
    omega
  have gs : ∀ g ∈ ([r4.1, r5.1, rangeI 0 (1 + r1.1), ([(0 : Int)] : List Int)] : List (List Int)), Asc (r3.1.length : Int) g := fun g hg => by
    rw [d1]
    simp only [List.mem_cons, List.not_mem_nil, or_false] at hg
    rcases hg with h | h | h | h <;> subst h
    · exact g4
    · exact g5
    · exact hall
    · exact hz
  refine Tot.bind (Tot.loopGo (I := fun _ _ => True) _ _ trivial fun j g u hj _ => ?_) fun o ⟨u, eo, _⟩ => ?_
  · have asc := gs g (List.mem_of_getElem? hj)
    have nn : ∀ x ∈ r3.1, 0 ≤ x := fun x hx => (d2 x hx).1
    have gl := asc.len (by omega)
    have hrep := repr_two (xs := r3.1) (ys := g) (fun x hx => log2_small (d2 x hx).1 (d2 x hx).2 (by omega)) (fun x hx => log2_small (n := 8) (asc.rng x hx).1 (by have := (asc.rng x hx).2; omega) (by decide)) (by omega) (by omega)
    have len := AT_len (ns := r3.1) (g := g) (b := r2.1.toNat) (by omega)
    have all := all_tests_ok asc nn v1 (by omega)
    have lim : oLim (AT r3.1 g r2.1.toNat) = some (AT r3.1 g r2.1.toNat) := if_pos (by rw [sizeLine_eq]; omega)
    refine Tot.bind (P := (· = AT r3.1 g r2.1.toNat)) (Tot.of (test_of_ok asc v1 (by omega)) rfl) fun r9 e9 => ?_
    subst e9
    refine Tot.bind (P := (· = ((ePair (eTup eInt) (eTup eInt)).d (r3.1, g)).shown)) (Tot.of hrep rfl) fun t10 e => ?_
    subst e
    refine Tot.bind (P := (· = AT r3.1 g r2.1.toNat)) (Tot.of all rfl) fun r11 e => ?_
    subst e
    refine Tot.bind (P := (· = AT r3.1 g r2.1.toNat)) (Tot.of lim rfl) fun r12 e => ?_
    subst e
    refine Tot.cond (fun hc => absurd hc (by simp)) fun _ => ?_
    refine Tot.bind (P := (· = (AT r3.1 g r2.1.toNat).head?)) (Tot.of (first_ok asc nn v1 (by omega)) rfl) fun r16 e => ?_
    subst e
    refine Tot.bind (P := (· = (AT r3.1 g r2.1.toNat).head?)) (Tot.cond (fun hc => ?_) fun hc => ?_) fun t19 e => ?_
    · cases h : AT r3.1 g r2.1.toNat with
      | nil => rw [h] at hc; exact absurd hc (by decide)
      | cons x xs => exact Tot.bind (P := (· = x)) (at_nat (j := 0) rfl rfl) fun t e => Tot.ret (by rw [e]; rfl)
    · cases h : AT r3.1 g r2.1.toNat with
      | nil => exact Tot.ret rfl
      | cons x xs => rw [h] at hc; exact absurd hc (by simp)
    subst e
    refine Tot.cond (fun hc => absurd hc (by simp)) fun _ => ?_
    refine Tot.bind (P := (· = AT r3.1 g r2.1.toNat)) (Tot.of all rfl) fun r22 e => ?_
    subst e
    refine Tot.bind (P := (· = AT r3.1 g r2.1.toNat)) (Tot.of all rfl) fun r23 e => ?_
    subst e
    refine Tot.bind (P := (· = (AT r3.1 g r2.1.toNat).map fun x => (x.1, x.1))) (Tot.of (two_walks len) rfl) fun o27 e => ?_
    subst e
    refine Tot.cond (fun hc => absurd hc (by simp)) fun _ => ?_
    refine Tot.bind (P := (· = AT r3.1 g r2.1.toNat)) (Tot.of all rfl) fun r32 e => ?_
    subst e
    refine Tot.bind (P := (· = AT r3.1 g r2.1.toNat)) (Tot.of lim rfl) fun r33 e => ?_
    subst e
    refine Tot.cond (fun hc => absurd hc (by simp)) fun _ => ?_
    refine Tot.bind (P := (· = ((ePair (eTup eInt) (eTup eInt)).d (r3.1, g)).shown)) (Tot.of hrep rfl) fun t40 e => ?_
    subst e
    exact Tot.cond (fun hc => absurd hc (by simp)) fun _ => Tot.ret ⟨(), rfl, trivial⟩
  · subst eo
    exact Tot.ret ⟨rfl, c5.mono (by omega)⟩
theorem law_true (ns : List Int) (hl : ns.length ≤ 63) : m_law ns = some true := by
  refine Tot.get ?_
  unfold m_law
  refine Tot.bind (P := (· = rangeI 0 (max 1 (min 3 (ns.length : Int))))) (tot_range (by omega) (by omega) (by omega) (by omega) (by omega) rfl) fun t1 e1 => ?_
  subst e1
  refine Tot.bind (Tot.loopGo (I := fun _ _ => True) _ _ trivial fun j x b hj _ => ?_) fun o ⟨b, eo, _⟩ => ?_
  · obtain ⟨ex, hj⟩ := rangeI_get hj
    refine Tot.bind (cup_ok (by omega) (by omega)) fun c hc => ?_
    refine Tot.bind (P := (· = rangeI 0 5)) (tot_range (by decide) (by decide) (by decide) (by decide) (by decide) rfl) fun t9 e => ?_
    subst e
    refine Tot.bind (Tot.lc (I := fun i (acc : List Bool) c => acc.all id = true ∧ CupOk c (200 + 300 * (i : Int))) _ _ 0 [] ⟨rfl, hc.mono (by omega)⟩ fun j x c acc hx ⟨a1, a2⟩ => ?_) fun r ⟨a1, a2⟩ => ?_
    · obtain ⟨ex, hj⟩ := rangeI_get hx
      rw [Nat.zero_add] at a2 ⊢
      refine Tot.bind (right_ok a2 (by omega)) fun r17 ⟨e, h⟩ => Tot.ret ⟨?_, h.mono (by omega)⟩
      rw [e, List.all_append, a1]; rfl
    · rw [List.nil_append] at a1
      rw [a1]
      exact Tot.cond (fun hc => by cases hc) fun _ => Tot.ret ⟨(), rfl, trivial⟩
  · subst eo
    exact Tot.ret rfl
theorem law_end {K : PySem.W.Frag} {H : Hp} {a : Addr} {ns : List Int} {E : XK} (hl : ns.length ≤ 63) (hO : Only H) (hS : SqL K H a (ns.map V.int)) : sp_law K [.ref a] H (fun v _ => v = .bl true) E := law_of hl hS (law_true ns hl)

end LW
open PySem PySem.W PyProof.Rows in
set_option maxHeartbeats 0 in
theorem PySem.Challenge.cw_maskgroups_k09_all_tests_of_a_group_holds : PySem.Challenge.rw_maskgroups_k09_all_tests_of_a_group.Holds := by
  w_on; o_law; k_head; (case hw => w_witness2)
  k_fill
  refine ML.walk_G (l := PySem.Challenge.rw_maskgroups_k09_all_tests_of_a_group) (n := 63) (k := 10) (x := "_law_script") (CX := fun _ => L2.CX0) (sp := fun w => LW.sp_law _) rfl (by decide) rfl ⟨⟨rfl, by decide, by decide⟩, rfl⟩ (fun w h Y => PySem.W.kIn_of Y) ?F (fun w H a ns hl hO hS => LW.law_end hl hO hS) (fun _ _ _ _ _ h => h)
  case F =>
    intro w mg fa h KX G hmg
    refine' LW.all_mk KX G hmg ?aC_Test ?pg_Test ?hd_Test ?po_Test ?sa_Test ?mk_Test ?kc_Test ?na_Test_mask ?na_Test_value ?a0 ?l0 ?c0 ?k0 ?a1 ?i1 ?l1 ?c1 ?k1 ?a2 ?i2 ?fi2 ?l2 ?c2 ?k2 ?a3 ?l3 ?c3 ?k3 ?a4 ?l4 ?c4 ?k4 ?a5 ?l5 ?c5 ?k5 ?a6 ?l6 ?c6 ?k6 ?a7 ?l7 ?c7 ?k7 ?a8 ?l8 ?c8 ?k8 ?a9 ?l9 ?c9 ?k9 ?a10 ?l10 ?c10 ?k10 ?a11 ?l11 ?c11 ?k11 ?a12 ?l12 ?c12 ?k12 ?a13 ?l13 ?c13 ?k13 ?a14 ?l14 ?c14 ?k14 ?z_abs ?z_all ?z_bool ?z_enumerate ?z_int ?z_isinstance ?z_len ?z_list ?z_max ?z_min ?z_range ?z_repr ?z_tuple ?z_zip
    (case aC_Test => k_is); (case pg_Test => k_is); (case hd_Test => k_is); (case po_Test => k_is); (case sa_Test => k_is); (case mk_Test => k_is); (case kc_Test => k_is); (case na_Test_mask => k_is); (case na_Test_value => k_is); (case a0 => k_is); (case l0 => k_is); (case c0 => k_is); (case k0 => k_is); (case a1 => k_is); (case i1 => k_is); (case l1 => k_is); (case c1 => k_is); (case k1 => k_is); (case a2 => k_is); (case i2 => k_is); (case fi2 => k_is); (case l2 => k_is); (case c2 => k_is); (case k2 => k_is); (case a3 => k_is); (case l3 => k_is); (case c3 => k_is); (case k3 => k_is); (case a4 => k_is); (case l4 => k_is); (case c4 => k_is); (case k4 => k_is); (case a5 => k_is); (case l5 => k_is); (case c5 => k_is); (case k5 => k_is); (case a6 => k_is); (case l6 => k_is); (case c6 => k_is); (case k6 => k_is); (case a7 => k_is); (case l7 => k_is); (case c7 => k_is); (case k7 => k_is); (case a8 => k_is); (case l8 => k_is); (case c8 => k_is); (case k8 => k_is); (case a9 => k_is); (case l9 => k_is); (case c9 => k_is); (case k9 => k_is); (case a10 => k_is); (case l10 => k_is); (case c10 => k_is); (case k10 => k_is); (case a11 => k_is); (case l11 => k_is); (case c11 => k_is); (case k11 => k_is); (case a12 => k_is); (case l12 => k_is); (case c12 => k_is); (case k12 => k_is); (case a13 => k_is); (case l13 => k_is); (case c13 => k_is); (case k13 => k_is); (case a14 => k_is); (case l14 => k_is); (case c14 => k_is); (case k14 => k_is); (case z_abs => k_is); (case z_all => k_is); (case z_bool => k_is); (case z_enumerate => k_is); (case z_int => k_is); (case z_isinstance => k_is); (case z_len => k_is); (case z_list => k_is); (case z_max => k_is); (case z_min => k_is); (case z_range => k_is); (case z_repr => k_is); (case z_tuple => k_is); (case z_zip => k_is)
