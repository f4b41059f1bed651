import PyProof.Rows.All
import Wide.All
import OpenK.AllK
import Wide.FinOn
import HandS.Base
import HandS.Call
import HandS.List
import HandS.Comp
import HandS.Ends
import HandS.Words
import HandS.Zip
import HandS.WideBits
import HandS.TupMul
import HandS.TupLe
import HandS.TupAny
import HandS.Style
import HandS.TupSets
import HandS.SortOrd
import KE.KeyNested
import HandS.Conv
import HandS.IsInst
import HandS.Iter
import HandS.Star
import KE.GoesEnum
import KE.GoesMore
import KE.DataMinMax
import KE.SortData
import HandS.SlotsOwn
import HandS.More
import HandS.Dict
import HandS.DictComp
import HandS.Flow
import HandS.CallRecv
import KE.KUnpackStar
import HandS.Deep
import HandS.SetFor
import KE.DataEq
import KE.SortCalls
import PyProof.TupleOfSeq
import HandS.GenList
import HandS.Small
import KE.KTupSum
import KE.KDictKeyed
import KE.KDictCopyH
import KE.KDictWalk
import KE.KDictOf
import KE.KDictDisplayH
import PySem.Challenge.RW_maskgroups_k35_powers_of_bases
set_option Elab.async false
set_option linter.all false
set_option maxRecDepth 100000
set_option maxHeartbeats 8000000
namespace ML
open PySem PySem.Spec PyProof.Rows L2

/-! ## the state: frozen part F, cells that change cs, what is the callers' alone B -/
structure Sl where
  p : Hp → V → Prop
  mono : ∀ {F F' : Hp} {v : V}, Same F F' → p F v → p F' v
structure Cl where
  p : Hp → HO → Prop
  mono : ∀ {F F' : Hp} {o : HO}, Same F F' → p F o → p F' o
abbrev Cells := List (Addr × Cl)
abbrev Gam := List (Option Sl)
abbrev Tms := List (V × Sl)
structure Wd where
  F : Hp
  B : Hp
structure Core (W : Wd) (F : Hp) (cs : Cells) (H : Hp) : Prop where
  f0 : Same W.F F
  fh : Same F H
  bh : Same W.B H
  bf : ∀ a o, W.B a = some o → F a = none
  nd : (cs.map (·.1)).Nodup
  cell : ∀ x ∈ cs, F x.1 = none ∧ W.B x.1 = none ∧ ∃ o, H x.1 = some o ∧ x.2.p F o
def Slots (F : Hp) (G : Gam) (s : L2.St) : Prop := s.length = G.length ∧ ∀ (i : Nat) (sl : Sl), G[i]? = some (some sl) → ∃ v, s[i]? = some (some v) ∧ sl.p F v
def Temps (F : Hp) (T : Tms) : Prop := ∀ x ∈ T, x.2.p F x.1
def Sta (W : Wd) (G : Gam) (T : Tms) (cs : Cells) (s : L2.St) (H : Hp) : Prop := ∃ F, Core W F cs H ∧ Slots F G s ∧ Temps F T
def Exit (W : Wd) (sl : Sl) (cs : Cells) (v : V) (H : Hp) : Prop := ∃ F, Core W F cs H ∧ sl.p F v

theorem Slots.mono {F F' : Hp} {G : Gam} {s : L2.St} (e : Same F F') (h : Slots F G s) : Slots F' G s :=
  ⟨h.1, fun i sl hi => let ⟨v, h1, h2⟩ := h.2 i sl hi; ⟨v, h1, sl.mono e h2⟩⟩
theorem Temps.mono {F F' : Hp} {T : Tms} (e : Same F F') (h : Temps F T) : Temps F' T := fun x hx => x.2.mono e (h x hx)
theorem Temps.cons {F : Hp} {T : Tms} {v : V} {sl : Sl} (h1 : sl.p F v) (h : Temps F T) : Temps F ((v, sl) :: T) := fun x hx => by
  rcases List.mem_cons.mp hx with e | e
  · subst e; exact h1
  · exact h x e
theorem Temps.tail {F : Hp} {T : Tms} {x : V × Sl} (h : Temps F (x :: T)) : Temps F T := fun y hy => h y (List.mem_cons_of_mem _ hy)
theorem Temps.head {F : Hp} {T : Tms} {v : V} {sl : Sl} (h : Temps F ((v, sl) :: T)) : sl.p F v := h (v, sl) List.mem_cons_self
theorem Temps.nil {F : Hp} : Temps F [] := fun x hx => absurd hx (by simp)
theorem Sta.pop {W G T cs s H} {x : V × Sl} (h : Sta W G (x :: T) cs s H) : Sta W G T cs s H := let ⟨F, a, b, c⟩ := h; ⟨F, a, b, c.tail⟩
theorem Sta.push {W G T cs s H} {v : V} {sl : Sl} (h : Sta W G T cs s H) (hs : ∀ F, sl.p F v) : Sta W G ((v, sl) :: T) cs s H := let ⟨F, a, b, c⟩ := h; ⟨F, a, b, c.cons (hs F)⟩
theorem Sta.clear {W G T cs s H} (h : Sta W G T cs s H) : Sta W G [] cs s H := let ⟨F, a, b, c⟩ := h; ⟨F, a, b, Temps.nil⟩
theorem Sta.top {W G T cs s H} {v : V} {sl : Sl} (h : Sta W G ((v, sl) :: T) cs s H) : ∃ F, Core W F cs H ∧ Slots F G s ∧ sl.p F v ∧ Temps F T := let ⟨F, a, b, c⟩ := h; ⟨F, a, b, c.head, c.tail⟩

/-! ### the heap grows; a cell is written -/
theorem same_upd {H : Hp} {p : Addr} {o : HO} (h : H p = none) : Same H (upd H p o) := fun b x e => by
  rw [upd_ne (ne_of_none e h)]
  exact e
/-- a new frozen object -/
theorem Core.new {W F cs H} (h : Core W F cs H) {p : Addr} {o : HO} (hp : H p = none) : Core W (upd F p o) cs (upd H p o) := by
  have fp : F p = none := h.fh.free hp
  have sF : Same F (upd F p o) := same_upd fp
  have sH : Same H (upd H p o) := same_upd hp
  refine ⟨h.f0.trans sF, fun b u e => ?_, h.bh.trans sH, fun a u e => ?_, h.nd, fun x hx => ?_⟩
  · by_cases hb : b = p
    · subst hb; rw [upd_same] at e ⊢; exact e
    · rw [upd_ne hb] at e ⊢; exact h.fh b u e
  · have : a ≠ p := fun z => by subst z; have := h.bh _ _ e; rw [hp] at this; cases this
    rw [upd_ne this]; exact h.bf a u e
  · obtain ⟨h1, h2, u, h3, h4⟩ := h.cell x hx
    have : x.1 ≠ p := ne_of_none h3 hp
    exact ⟨by rw [upd_ne this]; exact h1, h2, u, sH _ _ h3, x.2.mono sF h4⟩
/-- a new cell -/
theorem Core.newCell {W F cs H} (h : Core W F cs H) {p : Addr} {o : HO} {c : Cl} (hp : H p = none) (hc : c.p F o) : Core W F (cs ++ [(p, c)]) (upd H p o) := by
  have fp : F p = none := h.fh.free hp
  have sH : Same H (upd H p o) := same_upd hp
  have np : ∀ x ∈ cs, x.1 ≠ p := fun x hx => let ⟨_, _, u, h3, _⟩ := h.cell x hx; ne_of_none h3 hp
  refine ⟨h.f0, h.fh.trans sH, h.bh.trans sH, h.bf, ?_, fun x hx => ?_⟩
  · rw [List.map_append, List.nodup_append]
    refine ⟨h.nd, by simp, fun a ha b hb e => ?_⟩
    have eb : b = p := by simpa using hb
    obtain ⟨x, hx, ex⟩ := List.mem_map.mp ha
    exact np x hx (by rw [ex, e, eb])
  · rcases List.mem_append.mp hx with hx | hx
    · obtain ⟨h1, h2, u, h3, h4⟩ := h.cell x hx
      exact ⟨h1, h2, u, sH _ _ h3, h4⟩
    · have e : x = (p, c) := by simpa using hx
      subst e
      exact ⟨fp, h.bh.free hp, o, upd_same, hc⟩
theorem _root_.List.Nodup.getElem?_inj_of {α : Type} {l : List α} (nd : l.Nodup) {i j : Nat} (hi : i < l.length) (e : l[i]? = l[j]?) : i = j := (List.getElem?_inj hi nd).mp e
theorem nodup_at {cs : Cells} (nd : (cs.map (·.1)).Nodup) {j : Nat} {p : Addr} {c : Cl} (hj : cs[j]? = some (p, c)) {i : Nat} {x : Addr × Cl} (hi : cs[i]? = some x) (hne : i ≠ j) : x.1 ≠ p := by
  intro e
  have h1 : (cs.map (·.1))[i]? = some p := by rw [List.getElem?_map, hi]; simp [e]
  have h2 : (cs.map (·.1))[j]? = some p := by rw [List.getElem?_map, hj]; rfl
  have hl := (List.getElem?_eq_some_iff.mp h1).1
  exact hne (nd.getElem?_inj_of hl (h1.trans h2.symm))
theorem map_set_fst (cs : Cells) (j : Nat) (p : Addr) (c c' : Cl) (hj : cs[j]? = some (p, c)) : (cs.set j (p, c')).map (·.1) = cs.map (·.1) := by
  apply List.ext_getElem?
  intro i
  rw [List.getElem?_map, List.getElem?_map, List.getElem?_set]
  by_cases e : j = i
  · subst e
    have := (List.getElem?_eq_some_iff.mp hj).1
    rw [if_pos rfl, if_pos this, hj]
    rfl
  · rw [if_neg e]
/-- a cell is written -/
theorem Core.write {W F cs H} (h : Core W F cs H) {j : Nat} {p : Addr} {c c' : Cl} {o : HO} (hj : cs[j]? = some (p, c)) (hc : c'.p F o) : Core W F (cs.set j (p, c')) (upd H p o) := by
  obtain ⟨h1, h2, u, h3, h4⟩ := h.cell (p, c) (List.mem_of_getElem? hj)
  have nF : ∀ b u, F b = some u → b ≠ p := fun b u e z => by subst z; rw [h1] at e; cases e
  have nB : ∀ b u, W.B b = some u → b ≠ p := fun b u e z => by subst z; rw [h2] at e; cases e
  refine ⟨h.f0, fun b u e => ?_, fun b u e => ?_, h.bf, ?_, fun x hx => ?_⟩
  · rw [upd_ne (nF b u e)]; exact h.fh b u e
  · rw [upd_ne (nB b u e)]; exact h.bh b u e
  · rw [map_set_fst cs j p c c' hj]; exact h.nd
  · obtain ⟨i, hi⟩ := List.mem_iff_getElem?.mp hx
    rw [List.getElem?_set] at hi
    by_cases e : j = i
    · subst e
      have hl := (List.getElem?_eq_some_iff.mp hj).1
      rw [if_pos rfl, if_pos hl] at hi
      have e2 := (Option.some.inj hi).symm
      subst e2
      exact ⟨h1, h2, o, upd_same, hc⟩
    · rw [if_neg e] at hi
      have ne := nodup_at h.nd hj hi (Ne.symm e)
      obtain ⟨a1, a2, w, a3, a4⟩ := h.cell x (List.mem_of_getElem? hi)
      exact ⟨a1, a2, w, by rw [upd_ne ne]; exact a3, a4⟩
/-- a cell is frozen -/
theorem Core.freeze {W F cs H} (h : Core W F cs H) {j : Nat} {p : Addr} {c : Cl} (hj : cs[j]? = some (p, c)) : ∃ o F', H p = some o ∧ c.p F' o ∧ F' p = some o ∧ Same F F' ∧ Core W F' (cs.eraseIdx j) H := by
  obtain ⟨h1, h2, u, h3, h4⟩ := h.cell (p, c) (List.mem_of_getElem? hj)
  have sF : Same F (upd F p u) := same_upd h1
  have nB : ∀ b o, W.B b = some o → b ≠ p := fun b o e z => by subst z; rw [h2] at e; cases e
  refine ⟨u, upd F p u, h3, c.mono sF h4, upd_same, sF, h.f0.trans sF, fun b o e => ?_, h.bh, fun a o e => ?_, ?_, fun x hx => ?_⟩
  · by_cases hb : b = p
    · subst hb; rw [upd_same] at e; cases e; exact h3
    · rw [upd_ne hb] at e; exact h.fh b o e
  · rw [upd_ne (nB a o e)]; exact h.bf a o e
  · have : (cs.eraseIdx j).map (·.1) = (cs.map (·.1)).eraseIdx j := by
      apply List.ext_getElem?
      intro i
      rw [List.getElem?_map, List.getElem?_eraseIdx, List.getElem?_eraseIdx]
      split <;> rw [List.getElem?_map]
    rw [this]
    exact h.nd.sublist (List.eraseIdx_sublist _ _)
  · obtain ⟨i, hi⟩ := List.mem_iff_getElem?.mp hx
    have ne : x.1 ≠ p := by
      rw [List.getElem?_eraseIdx] at hi
      split at hi
      · rename_i hlt; exact nodup_at h.nd hj hi (by omega)
      · rename_i hlt; exact nodup_at h.nd hj hi (by omega)
    obtain ⟨a1, a2, w, a3, a4⟩ := h.cell x (List.mem_of_mem_eraseIdx hx)
    exact ⟨by rw [upd_ne ne]; exact a1, a2, w, a3, x.2.mono sF a4⟩
/-- cells forgotten -/
theorem Core.drop {W F cs cs' H} (h : Core W F cs H) (hs : cs'.Sublist cs) : Core W F cs' H :=
  ⟨h.f0, h.fh, h.bh, h.bf, h.nd.sublist (hs.map _), fun x hx => h.cell x (hs.subset hx)⟩

/-! ### typed values -/
structure R (α : Type) where
  p : α → Hp → V → Prop
  mono : ∀ {a : α} {F F' : Hp} {v : V}, Same F F' → p a F v → p a F' v
def R.at {α : Type} (r : R α) (a : α) : Sl := ⟨r.p a, r.mono⟩
def rInt : R Int := ⟨fun i _ v => v = .int i, fun _ h => h⟩
def rBool : R Bool := ⟨fun b _ v => v = .bl b, fun _ h => h⟩
def rStr : R Str := ⟨fun x _ v => v = .str x, fun _ h => h⟩
def rNon : R Unit := ⟨fun _ _ v => v = .non, fun _ h => h⟩
def rOpt {α : Type} (r : R α) : R (Option α) := ⟨fun a F v => match a with | none => v = .non | some x => r.p x F v, fun {a} _ _ _ e h => by
  cases a with
  | none => exact h
  | some x => exact r.mono e h⟩
inductive All2 {α β : Type} (P : α → β → Prop) : List α → List β → Prop
  | nil : All2 P [] []
  | cons {a b l m} : P a b → All2 P l m → All2 P (a :: l) (b :: m)
theorem All2.imp {α β : Type} {P Q : α → β → Prop} (f : ∀ a b, P a b → Q a b) : ∀ {l m}, All2 P l m → All2 Q l m
  | _, _, .nil => .nil
  | _, _, .cons h t => .cons (f _ _ h) (All2.imp f t)
theorem All2.length {α β : Type} {P : α → β → Prop} : ∀ {l : List α} {m : List β}, All2 P l m → l.length = m.length
  | _, _, .nil => rfl
  | _, _, .cons _ t => by rw [List.length_cons, List.length_cons, All2.length t]
theorem All2.get {α β : Type} {P : α → β → Prop} : ∀ {l : List α} {m : List β} {i : Nat} {a : α}, All2 P l m → l[i]? = some a → ∃ b, m[i]? = some b ∧ P a b
  | _, _, _, _, .nil, h => by simp at h
  | _, _, 0, _, .cons q t, h => by simp at h; subst h; exact ⟨_, rfl, q⟩
  | _, _, i + 1, a, .cons q t, h => by
    obtain ⟨b, h1, h2⟩ := All2.get (i := i) (a := a) t (by simpa using h)
    exact ⟨b, by simpa using h1, h2⟩
theorem All2.get' {α β : Type} {P : α → β → Prop} : ∀ {l : List α} {m : List β} {i : Nat} {b : β}, All2 P l m → m[i]? = some b → ∃ a, l[i]? = some a ∧ P a b
  | _, _, _, _, .nil, h => by simp at h
  | _, _, 0, _, .cons q t, h => by simp at h; subst h; exact ⟨_, rfl, q⟩
  | _, _, i + 1, a, .cons q t, h => by
    obtain ⟨b, h1, h2⟩ := All2.get' (i := i) (b := a) t (by simpa using h)
    exact ⟨b, by simpa using h1, h2⟩
theorem All2.app {α β : Type} {P : α → β → Prop} : ∀ {l l' : List α} {m m' : List β}, All2 P l m → All2 P l' m' → All2 P (l ++ l') (m ++ m')
  | _, _, _, _, .nil, h => h
  | _, _, _, _, .cons q t, h => .cons q (All2.app t h)
theorem All2.take {α β : Type} {P : α → β → Prop} : ∀ {l : List α} {m : List β} (n : Nat), All2 P l m → All2 P (l.take n) (m.take n)
  | _, _, 0, _ => by simp; exact .nil
  | _, _, n + 1, .nil => .nil
  | _, _, n + 1, .cons q t => .cons q (All2.take n t)
theorem All2.drop {α β : Type} {P : α → β → Prop} : ∀ {l : List α} {m : List β} (n : Nat), All2 P l m → All2 P (l.drop n) (m.drop n)
  | _, _, 0, h => h
  | _, _, n + 1, .nil => .nil
  | _, _, n + 1, .cons q t => All2.drop n t
theorem All2.set {α β : Type} {P : α → β → Prop} {a : α} {b : β} (q : P a b) : ∀ {l : List α} {m : List β} (n : Nat), All2 P l m → All2 P (l.set n a) (m.set n b)
  | _, _, _, .nil => .nil
  | _, _, 0, .cons _ t => .cons q t
  | _, _, n + 1, .cons z t => .cons z (All2.set q n t)
theorem All2.erase {α β : Type} {P : α → β → Prop} : ∀ {l : List α} {m : List β} (n : Nat), All2 P l m → All2 P (l.eraseIdx n) (m.eraseIdx n)
  | _, _, _, .nil => .nil
  | _, _, 0, .cons _ t => t
  | _, _, n + 1, .cons z t => .cons z (All2.erase n t)
theorem All2.rev {α β : Type} {P : α → β → Prop} {l : List α} {m : List β} (h : All2 P l m) : All2 P l.reverse m.reverse := by
  induction h with
  | nil => exact .nil
  | cons q _ ih => rw [List.reverse_cons, List.reverse_cons]; exact ih.app (.cons q .nil)
/-- a tuple; a list that stands still -/
def rTup {α : Type} (r : R α) : R (List α) := ⟨fun xs F v => xs.length ≤ sizeLine ∧ ∃ a vs, v = .ref a ∧ F a = some (.tup vs) ∧ All2 (fun x u => r.p x F u) xs vs,
  fun {_ _ _ _} e ⟨h0, a, vs, h1, h2, h3⟩ => ⟨h0, a, vs, h1, e _ _ h2, h3.imp fun _ _ q => r.mono e q⟩⟩
def rLst {α : Type} (r : R α) : R (List α) := ⟨fun xs F v => xs.length ≤ sizeLine ∧ ∃ a vs, v = .ref a ∧ F a = some (.lst vs) ∧ All2 (fun x u => r.p x F u) xs vs,
  fun {_ _ _ _} e ⟨h0, a, vs, h1, h2, h3⟩ => ⟨h0, a, vs, h1, e _ _ h2, h3.imp fun _ _ q => r.mono e q⟩⟩
def rPair {α β : Type} (r : R α) (q : R β) : R (α × β) := ⟨fun x F v => ∃ a u w, v = .ref a ∧ F a = some (.tup [u, w]) ∧ r.p x.1 F u ∧ q.p x.2 F w,
  fun {_ _ _ _} e ⟨a, u, w, h1, h2, h3, h4⟩ => ⟨a, u, w, h1, e _ _ h2, r.mono e h3, q.mono e h4⟩⟩
/-- the very object at p -/
def sRef (p : Addr) : Sl := ⟨fun _ v => v = .ref p, fun _ h => h⟩
/-- a cell that holds a list -/
def cLst {α : Type} (r : R α) (xs : List α) : Cl := ⟨fun F o => xs.length ≤ sizeLine ∧ ∃ vs, o = .lst vs ∧ All2 (fun x u => r.p x F u) xs vs, fun {_ _ _} e ⟨h0, vs, h1, h2⟩ => ⟨h0, vs, h1, h2.imp fun _ _ q => r.mono e q⟩⟩

/-! ### the judgements -/
def Ev (te : TE) (W : Wd) (G : Gam) (T : Tms) (cs : Cells) (K : Sl → Cells → Prop) : Prop :=
  ∀ s H, Sta W G T cs s H → ∀ Q : VK, (∀ sl cs', K sl cs' → ∀ v H', Sta W G ((v, sl) :: T) cs' s H' → Q v H') → te s H Q
def Et (tt : TT) (W : Wd) (G : Gam) (T : Tms) (cs : Cells) (K : Bool → Cells → Prop) : Prop :=
  ∀ s H, Sta W G T cs s H → ∀ Q : Bool → Hp → Prop, (∀ b cs', K b cs' → ∀ H', Sta W G T cs' s H' → Q b H') → tt s H Q
def Args (F : Hp) : List Sl → List V → Prop := All2 (fun sl v => sl.p F v)
def EvA (ta : TA) (W : Wd) (G : Gam) (T : Tms) (cs : Cells) (K : List Sl → Cells → Prop) : Prop :=
  ∀ s H, Sta W G T cs s H → ∀ Q : List V → Hp → Prop, (∀ sls cs', K sls cs' → ∀ vs H', (∃ F, Core W F cs' H' ∧ Slots F G s ∧ Temps F T ∧ Args F sls vs) → Q vs H') → ta s H Q
def Nx (P : L2.St → Hp → Prop) (W : Wd) (G : Gam) (cs : Cells) : Prop := ∀ s H, Sta W G [] cs s H → P s H
def Rt (P : VK) (W : Wd) (sl : Sl) (cs : Cells) : Prop := ∀ v H, Exit W sl cs v H → P v H

section
variable {W : Wd} {G : Gam} {T : Tms} {cs : Cells} {K : Sl → Cells → Prop} {KB : Bool → Cells → Prop} {ta tb tc : TE} {tt tu : TT}
theorem Ev.imp {K' : Sl → Cells → Prop} (h : Ev ta W G T cs K) (f : ∀ sl cs', K sl cs' → K' sl cs') : Ev ta W G T cs K' := fun s H st Q q => h s H st Q fun sl cs' k => q sl cs' (f sl cs' k)
theorem Et.imp {K' : Bool → Cells → Prop} (h : Et tt W G T cs KB) (f : ∀ b cs', KB b cs' → K' b cs') : Et tt W G T cs K' := fun s H st Q q => h s H st Q fun b cs' k => q b cs' (f b cs' k)
theorem int_top {v : V} {i : Int} {s H} (h : Sta W G ((v, rInt.at i) :: T) cs s H) : v = .int i := let ⟨_, _, _, h, _⟩ := h.top; h
theorem bool_top {v : V} {i : Bool} {s H} (h : Sta W G ((v, rBool.at i) :: T) cs s H) : v = .bl i := let ⟨_, _, _, h, _⟩ := h.top; h
theorem str_top {v : V} {i : Str} {s H} (h : Sta W G ((v, rStr.at i) :: T) cs s H) : v = .str i := let ⟨_, _, _, h, _⟩ := h.top; h
theorem non_top {v : V} {s H} (h : Sta W G ((v, rNon.at ()) :: T) cs s H) : v = .non := let ⟨_, _, _, h, _⟩ := h.top; h
theorem ref_top {v : V} {p : Addr} {s H} (h : Sta W G ((v, sRef p) :: T) cs s H) : v = .ref p := let ⟨_, _, _, h, _⟩ := h.top; h

/-! ### names, constants -/
theorem e_var {i : Nat} {sl : Sl} (hi : G[i]? = some (some sl)) (k : K sl cs) : Ev (tVar i) W G T cs K := fun s H st Q q => by
  obtain ⟨F, c, sg, t⟩ := st
  obtain ⟨v, h1, h2⟩ := sg.2 i sl hi
  exact ⟨v, h1, q sl cs k v H ⟨F, c, sg, t.cons h2⟩⟩
theorem e_int {i : Int} (k : K (rInt.at i) cs) : Ev (tC (.int i)) W G T cs K := fun s H st Q q => q _ cs k _ H (st.push fun _ => rfl)
theorem e_bl {i : Bool} (k : K (rBool.at i) cs) : Ev (tC (.bl i)) W G T cs K := fun s H st Q q => q _ cs k _ H (st.push fun _ => rfl)
theorem e_str {i : Str} (k : K (rStr.at i) cs) : Ev (tC (.str i)) W G T cs K := fun s H st Q q => q _ cs k _ H (st.push fun _ => rfl)
theorem e_non (k : K (rNon.at ()) cs) : Ev (tC .non) W G T cs K := fun s H st Q q => q _ cs k _ H (st.push fun _ => rfl)

/-! ### ints -/
theorem e_opI0 {g : Int → Int → Int} (ha : Ev ta W G T cs fun sa cs1 => ∃ i, sa = rInt.at i ∧ Ev tb W G T cs1 fun sb cs2 => ∃ j, sb = rInt.at j ∧ K (rInt.at (g i j)) cs2) :
    Ev (tOp (rI0 fun i j => .int (g i j)) ta tb) W G T cs K := fun s H st Q q => by
  refine ha s H st _ fun sa cs1 ⟨i, e, hb⟩ va H1 st1 => ?_
  subst e
  refine hb s H1 st1.pop _ fun sb cs2 ⟨j, e, k⟩ vb H2 st2 => ?_
  subst e
  exact ⟨i, j, int_top st1, int_top st2, q _ _ k _ H2 (st2.pop.push fun _ => rfl)⟩
theorem e_opB0 {g : Int → Int → Bool} (ha : Ev ta W G T cs fun sa cs1 => ∃ i, sa = rInt.at i ∧ Ev tb W G T cs1 fun sb cs2 => ∃ j, sb = rInt.at j ∧ K (rBool.at (g i j)) cs2) :
    Ev (tOp (rI0 fun i j => .bl (g i j)) ta tb) W G T cs K := fun s H st Q q => by
  refine ha s H st _ fun sa cs1 ⟨i, e, hb⟩ va H1 st1 => ?_
  subst e
  refine hb s H1 st1.pop _ fun sb cs2 ⟨j, e, k⟩ vb H2 st2 => ?_
  subst e
  exact ⟨i, j, int_top st1, int_top st2, q _ _ k _ H2 (st2.pop.push fun _ => rfl)⟩
theorem e_opO {C : Int → Int → Prop} {g : Int → Int → Int} {o : Int → Int → Option Int} (ho : ∀ i j t, o i j = some t → C i j ∧ t = g i j)
    (ha : Ev ta W G T cs fun sa cs1 => ∃ i, sa = rInt.at i ∧ Ev tb W G T cs1 fun sb cs2 => ∃ j t, sb = rInt.at j ∧ o i j = some t ∧ K (rInt.at t) cs2) :
    Ev (tOp (rI C fun i j => .int (g i j)) ta tb) W G T cs K := fun s H st Q q => by
  refine ha s H st _ fun sa cs1 ⟨i, e, hb⟩ va H1 st1 => ?_
  subst e
  refine hb s H1 st1.pop _ fun sb cs2 ⟨j, t, e, et, k⟩ vb H2 st2 => ?_
  subst e
  obtain ⟨hc, e⟩ := ho i j t et
  subst e
  exact ⟨i, j, int_top st1, int_top st2, hc, q _ _ k _ H2 (st2.pop.push fun _ => rfl)⟩
theorem e_un {g : Int → Int} (ha : Ev ta W G T cs fun sa cs1 => ∃ i, sa = rInt.at i ∧ K (rInt.at (g i)) cs1) : Ev (tUn (rU fun i => .int (g i)) ta) W G T cs K := fun s H st Q q => by
  refine ha s H st _ fun sa cs1 ⟨i, e, k⟩ va H1 st1 => ?_
  subst e
  exact ⟨i, int_top st1, q _ _ k _ H1 (st1.pop.push fun _ => rfl)⟩
theorem e_eqI (ha : Ev ta W G T cs fun sa cs1 => ∃ i, sa = rInt.at i ∧ Ev tb W G T cs1 fun sb cs2 => ∃ j, sb = rInt.at j ∧ K (rBool.at (decide (i = j))) cs2) :
    Ev (tOp rEq ta tb) W G T cs K := fun s H st Q q => by
  refine ha s H st _ fun sa cs1 ⟨i, e, hb⟩ va H1 st1 => ?_
  subst e
  refine hb s H1 st1.pop _ fun sb cs2 ⟨j, e, k⟩ vb H2 st2 => ?_
  subst e
  rw [int_top st1, int_top st2]
  refine ⟨rfl, q _ _ k _ H2 (st2.pop.push fun _ => ?_)⟩
  show V.bl _ = V.bl _
  congr 1
  simp
theorem e_neI (ha : Ev ta W G T cs fun sa cs1 => ∃ i, sa = rInt.at i ∧ Ev tb W G T cs1 fun sb cs2 => ∃ j, sb = rInt.at j ∧ K (rBool.at (!decide (i = j))) cs2) :
    Ev (tOp rNe ta tb) W G T cs K := fun s H st Q q => by
  refine ha s H st _ fun sa cs1 ⟨i, e, hb⟩ va H1 st1 => ?_
  subst e
  refine hb s H1 st1.pop _ fun sb cs2 ⟨j, e, k⟩ vb H2 st2 => ?_
  subst e
  rw [int_top st1, int_top st2]
  refine ⟨rfl, q _ _ k _ H2 (st2.pop.push fun _ => ?_)⟩
  show V.bl _ = V.bl _
  congr 1
  simp

/-! ### tests -/
theorem t_val (ha : Ev ta W G T cs fun sa cs1 => ∃ b, sa = rBool.at b ∧ KB b cs1) : Et (tB ta) W G T cs KB := fun s H st Q q => by
  refine ha s H st _ fun sa cs1 ⟨b, e, k⟩ va H1 st1 => ?_
  subst e
  exact ⟨b, bool_top st1, q b cs1 k H1 st1.pop⟩
theorem t_test (ha : Ev ta W G T cs fun sa cs1 => ∃ b, sa = rBool.at b ∧ KB b cs1) : Et (tTest ta) W G T cs KB := fun s H st Q q => by
  refine ha s H st _ fun sa cs1 ⟨b, e, k⟩ va H1 st1 => ?_
  subst e
  exact ⟨b, bool_top st1, q b cs1 k H1 st1.pop⟩
theorem t_not (ha : Et tt W G T cs fun b cs1 => KB (!b) cs1) : Et (tNot tt) W G T cs KB := fun s H st Q q => ha s H st _ fun b cs1 k H1 st1 => q (!b) cs1 k H1 st1
/-- and: total right side -/
theorem t_and {c : Bool} {d : Bool} {cs' : Cells} (ha : Et tt W G T cs fun b cs1 => b = c ∧ (c = true → Et tu W G T cs1 fun b2 cs2 => b2 = d ∧ cs2 = cs') ∧ (c = false → d = false ∧ cs1 = cs')) (k : KB d cs') : Et (tAnd tt tu) W G T cs KB := fun s H st Q q => by
  refine ha s H st _ fun b cs1 ⟨e, h1, h2⟩ H1 st1 => ?_
  subst e
  cases b with
  | true => rw [if_pos rfl]; exact h1 rfl s H1 st1 _ fun b2 cs2 ⟨e1, e2⟩ H2 st2 => by subst e1 e2; exact q _ _ k H2 st2
  | false => rw [if_neg Bool.false_ne_true]; obtain ⟨e1, e2⟩ := h2 rfl; subst e1 e2; exact q _ _ k H1 st1
theorem t_or {c : Bool} {d : Bool} {cs' : Cells} (ha : Et tt W G T cs fun b cs1 => b = c ∧ (c = false → Et tu W G T cs1 fun b2 cs2 => b2 = d ∧ cs2 = cs') ∧ (c = true → d = true ∧ cs1 = cs')) (k : KB d cs') : Et (tOr tt tu) W G T cs KB := fun s H st Q q => by
  refine ha s H st _ fun b cs1 ⟨e, h1, h2⟩ H1 st1 => ?_
  subst e
  cases b with
  | false => rw [if_neg Bool.false_ne_true]; exact h1 rfl s H1 st1 _ fun b2 cs2 ⟨e1, e2⟩ H2 st2 => by subst e1 e2; exact q _ _ k H2 st2
  | true => rw [if_pos rfl]; obtain ⟨e1, e2⟩ := h2 rfl; subst e1 e2; exact q _ _ k H1 st1
theorem e_and {c : Bool} {d : Bool} {cs' : Cells} (ha : Ev ta W G T cs fun sa cs1 => sa = rBool.at c ∧ (c = true → Ev tb W G T cs1 fun sb cs2 => sb = rBool.at d ∧ cs2 = cs') ∧ (c = false → d = false ∧ cs1 = cs')) (k : K (rBool.at d) cs') : Ev (tAndV ta tb) W G T cs K := fun s H st Q q => by
  refine ha s H st _ fun sa cs1 ⟨e, h1, h2⟩ va H1 st1 => ?_
  subst e
  refine ⟨c, bool_top st1, ?_⟩
  cases c with
  | true => rw [if_pos rfl]; exact h1 rfl s H1 st1.pop _ fun sb cs2 ⟨e1, e2⟩ vb H2 st2 => by subst e1 e2; exact q _ _ k _ H2 st2
  | false => rw [if_neg Bool.false_ne_true]; obtain ⟨e1, e2⟩ := h2 rfl; subst e1 e2; exact q _ _ k _ H1 (st1.pop.push fun _ => rfl)
theorem e_or {c : Bool} {d : Bool} {cs' : Cells} (ha : Ev ta W G T cs fun sa cs1 => sa = rBool.at c ∧ (c = false → Ev tb W G T cs1 fun sb cs2 => sb = rBool.at d ∧ cs2 = cs') ∧ (c = true → d = true ∧ cs1 = cs')) (k : K (rBool.at d) cs') : Ev (tOrV ta tb) W G T cs K := fun s H st Q q => by
  refine ha s H st _ fun sa cs1 ⟨e, h1, h2⟩ va H1 st1 => ?_
  subst e
  refine ⟨c, bool_top st1, ?_⟩
  cases c with
  | false => rw [if_neg Bool.false_ne_true]; exact h1 rfl s H1 st1.pop _ fun sb cs2 ⟨e1, e2⟩ vb H2 st2 => by subst e1 e2; exact q _ _ k _ H2 st2
  | true => rw [if_pos rfl]; obtain ⟨e1, e2⟩ := h2 rfl; subst e1 e2; exact q _ _ k _ H1 (st1.pop.push fun _ => rfl)
theorem e_not (ha : Ev ta W G T cs fun sa cs1 => ∃ b, sa = rBool.at b ∧ K (rBool.at (!b)) cs1) : Ev (tNotV ta) W G T cs K := fun s H st Q q => by
  refine ha s H st _ fun sa cs1 ⟨b, e, k⟩ va H1 st1 => ?_
  subst e
  exact ⟨b, bool_top st1, q _ _ k _ H1 (st1.pop.push fun _ => rfl)⟩
/-- a if t else b: the answer's description is said ahead -/
theorem e_if {c : Bool} {sl : Sl} {cs' : Cells} (ht : Et tt W G T cs fun b cs1 => b = c ∧ (c = true → Ev ta W G T cs1 fun sa cs2 => sa = sl ∧ cs2 = cs') ∧ (c = false → Ev tb W G T cs1 fun sb cs2 => sb = sl ∧ cs2 = cs')) (k : K sl cs') : Ev (tIf tt ta tb) W G T cs K := fun s H st Q q => by
  refine ht s H st _ fun b cs1 ⟨e, h1, h2⟩ H1 st1 => ?_
  subst e
  cases b with
  | true => rw [if_pos rfl]; exact h1 rfl s H1 st1 _ fun sb cs2 ⟨e1, e2⟩ vb H2 st2 => by subst e1 e2; exact q _ _ k _ H2 st2
  | false => rw [if_neg Bool.false_ne_true]; exact h2 rfl s H1 st1 _ fun sb cs2 ⟨e1, e2⟩ vb H2 st2 => by subst e1 e2; exact q _ _ k _ H2 st2

/-! ### arguments -/
theorem ea_nil {K : List Sl → Cells → Prop} (k : K [] cs) : EvA tNil W G T cs K := fun s H ⟨F, c, sg, t⟩ Q q => q [] cs k [] H ⟨F, c, sg, t, .nil⟩
theorem ea_cons {K : List Sl → Cells → Prop} {tr : TA} (ha : Ev ta W G T cs fun sa cs1 => ∀ va, EvA tr W G ((va, sa) :: T) cs1 fun sls cs2 => K (sa :: sls) cs2) : EvA (tCons ta tr) W G T cs K := fun s H st Q q => by
  refine ha s H st _ fun sa cs1 h1 va H1 st1 => ?_
  refine h1 va s H1 st1 _ fun sls cs2 k vs H2 ⟨F, c, sg, t, ar⟩ => ?_
  exact q _ _ k _ H2 ⟨F, c, sg, t.tail, .cons t.head ar⟩
end
end ML

namespace ML
open PySem PySem.Spec PyProof.Rows L2

section
variable {W : Wd} {G G' : Gam} {T : Tms} {cs : Cells} {K : Sl → Cells → Prop} {KB : Bool → Cells → Prop} {ta tb tc te : TE} {tt tu : TT} {D : Ends} {t1 t2 : TS} {α β γ ρ : Type}

/-! ## statements -/
variable {nx bk ct : L2.St → Hp → Prop} {rt : VK}
def NxT (P : L2.St → Hp → Prop) (W : Wd) (G : Gam) (T : Tms) (cs : Cells) : Prop := ∀ s H, Sta W G T cs s H → P s H
theorem s_seq (h : NxT (t1 ⟨t2 ⟨nx, rt, bk, ct⟩, rt, bk, ct⟩) W G T cs) : NxT (tSeq t1 t2 ⟨nx, rt, bk, ct⟩) W G T cs := h
theorem s_next (h : NxT nx W G T cs) : NxT (tNext ⟨nx, rt, bk, ct⟩) W G T cs := h
theorem s_brk (h : NxT bk W G T cs) : NxT (tBreak ⟨nx, rt, bk, ct⟩) W G T cs := h
theorem s_cont (h : NxT ct W G T cs) : NxT (tCont ⟨nx, rt, bk, ct⟩) W G T cs := h
theorem Slots.set {F : Hp} {s : L2.St} {i : Nat} {v : V} {sl : Sl} (h : Slots F G s) (hv : sl.p F v) : Slots F (G.set i (some sl)) (s.set i (some v)) := by
  refine ⟨by rw [List.length_set, List.length_set]; exact h.1, fun j sl' hj => ?_⟩
  rw [List.getElem?_set] at hj ⊢
  by_cases e : i = j
  · subst e
    rw [if_pos rfl] at hj ⊢
    split at hj
    · rename_i hl
      cases hj
      rw [if_pos (by rw [h.1]; exact hl)]
      exact ⟨v, rfl, hv⟩
    · cases hj
  · rw [if_neg e] at hj ⊢
    exact h.2 j sl' hj
theorem s_set {i : Nat} (h : Ev te W G T cs fun sl cs1 => NxT nx W (G.set i (some sl)) T cs1) : NxT (tAsg te (gName i) ⟨nx, rt, bk, ct⟩) W G T cs := fun s H st => by
  refine h s H st _ fun sl cs1 k v H1 ⟨F, c, sg, t⟩ => ?_
  exact k _ H1 ⟨F, c, sg.set t.head, t.tail⟩
theorem s_drop (h : Ev te W G T cs fun _ cs1 => NxT nx W G T cs1) : NxT (tDrop te ⟨nx, rt, bk, ct⟩) W G T cs := fun s H st => by
  refine h s H st _ fun sl cs1 k v H1 st1 => ?_
  exact k _ H1 st1.pop
theorem s_ret (h : Ev te W G T cs fun sl cs1 => Rt rt W sl cs1) : NxT (tRet te ⟨nx, rt, bk, ct⟩) W G T cs := fun s H st => by
  refine h s H st _ fun sl cs1 k v H1 ⟨F, c, sg, t⟩ => ?_
  exact k _ H1 ⟨F, c, t.head⟩
theorem Rt.imp {P : VK} {sl sl' : Sl} (h : Rt P W sl cs) (f : ∀ F v, sl'.p F v → sl.p F v) : Rt P W sl' cs := fun v H ⟨F, c, q⟩ => h v H ⟨F, c, f _ _ q⟩
theorem Rt.drop {P : VK} {sl : Sl} {cs' : Cells} (h : Rt P W sl cs) (hs : cs.Sublist cs') : Rt P W sl cs' := fun v H ⟨F, c, q⟩ => h v H ⟨F, c.drop hs, q⟩
theorem s_retN (h : Rt rt W (rNon.at ()) cs) : NxT (tRetN ⟨nx, rt, bk, ct⟩) W G T cs := fun s H ⟨F, c, sg, t⟩ => h _ H ⟨F, c, rfl⟩
theorem s_if (h : Et tt W G T cs fun b cs1 => (b = true → NxT (t1 D) W G T cs1) ∧ (b = false → NxT (t2 D) W G T cs1)) : NxT (tIfS tt t1 t2 D) W G T cs := fun s H st => by
  refine h s H st _ fun b cs1 ⟨k1, k2⟩ H1 st1 => ?_
  cases b with
  | true => rw [if_pos rfl]; exact k1 rfl s H1 st1
  | false => rw [if_neg Bool.false_ne_true]; exact k2 rfl s H1 st1
/-- weaken: slots forgotten, cells forgotten -/
def Wkn : Gam → Gam → Prop
  | [], [] => True
  | _ :: g, none :: g' => Wkn g g'
  | some a :: g, some b :: g' => a = b ∧ Wkn g g'
  | _, _ => False
theorem Wkn.get : ∀ {g g' : Gam}, Wkn g g' → g.length = g'.length ∧ ∀ (i : Nat) (sl : Sl), g'[i]? = some (some sl) → g[i]? = some (some sl)
  | [], [], _ => ⟨rfl, fun _ _ h => h⟩
  | [], none :: _, h => h.elim
  | [], some _ :: _, h => h.elim
  | none :: _, [], h => h.elim
  | some _ :: _, [], h => h.elim
  | none :: g, some _ :: _, h => h.elim
  | x :: g, none :: g', h => by
    have h' : Wkn g g' := by cases x <;> exact h
    obtain ⟨h1, h2⟩ := Wkn.get h'
    refine ⟨by rw [List.length_cons, List.length_cons, h1], fun i sl hi => ?_⟩
    cases i with
    | zero => simp at hi
    | succ i => simpa using h2 i sl (by simpa using hi)
  | some a :: g, some b :: g', ⟨e, h⟩ => by
    subst e
    obtain ⟨h1, h2⟩ := Wkn.get h
    refine ⟨by rw [List.length_cons, List.length_cons, h1], fun i sl hi => ?_⟩
    cases i with
    | zero => exact hi
    | succ i => simpa using h2 i sl (by simpa using hi)
theorem Slots.weak {F : Hp} {s : L2.St} (w : Wkn G G') (h : Slots F G s) : Slots F G' s := by
  obtain ⟨h1, h2⟩ := w.get
  exact ⟨h.1.trans h1, fun i sl hi => h.2 i sl (h2 i sl hi)⟩
theorem s_weak {P : L2.St → Hp → Prop} {cs' : Cells} (w : Wkn G G') (hs : cs'.Sublist cs) (h : NxT P W G' T cs') : NxT P W G T cs := fun s H ⟨F, c, sg, t⟩ => h s H ⟨F, c.drop hs, sg.weak w, t⟩
/-- the list in a slot stands still from here on -/
theorem s_freeze {P : L2.St → Hp → Prop} {r : R α} {xs : List α} {p : Addr} (i j : Nat) (hi : G[i]? = some (some (sRef p))) (hj : cs[j]? = some (p, cLst r xs)) (h : NxT P W (G.set i (some ((rLst r).at xs))) T (cs.eraseIdx j)) : NxT P W G T cs := fun s H ⟨F, c, sg, t⟩ => by
  obtain ⟨o, F', h1, ⟨hz, vs, e, h2⟩, h3, sF, c'⟩ := c.freeze hj
  subst e
  obtain ⟨v, hv, ev⟩ := sg.2 i _ hi
  have hs : s = s.set i (some v) := by
    apply List.ext_getElem?
    intro k
    rw [List.getElem?_set]
    split
    · rename_i e; subst e; split
      · exact hv
      · rename_i hn; rw [List.getElem?_eq_none (by omega)]
    · rfl
  have ev' : v = .ref p := ev
  refine h s H ⟨F', c', ?_, t.mono sF⟩
  rw [hs]
  exact (sg.mono sF).set ⟨hz, p, vs, ev', h3, h2⟩

/-! ## targets -/
theorem wipe_get (s : L2.St) (j : Nat) : ∀ vs : List Nat, (wipe s vs)[j]? = if j ∈ vs then (if j < s.length then some none else none) else s[j]?
  | [] => by simp [wipe]
  | v :: vs => by
    unfold wipe
    rw [List.getElem?_set, wipe_get s j vs, wipe_length]
    by_cases e : v = j
    · subst e; simp
    · rw [if_neg e]
      have : (j ∈ v :: vs) ↔ j ∈ vs := by simp [Ne.symm e]
      simp only [this]
theorem wipe_set (s : L2.St) (i : Nat) (x : Option V) (vs : List Nat) (h : i ∈ vs) : wipe (s.set i x) vs = wipe s vs := by
  apply List.ext_getElem?
  intro j
  rw [wipe_get, wipe_get, List.length_set, List.getElem?_set]
  by_cases e : i = j
  · subst e; simp [h]
  · rw [if_neg e]
theorem wipe_wipe (s : L2.St) (vs : List Nat) : wipe (wipe s vs) vs = wipe s vs := by
  apply List.ext_getElem?
  intro j
  rw [wipe_get, wipe_get, wipe_length]
  by_cases e : j ∈ vs <;> simp [e]
def wipeG (G : Gam) : List Nat → Gam
  | [] => G
  | v :: vs => (wipeG G vs).set v none
theorem Slots.wipe {F : Hp} {s : L2.St} (h : Slots F G s) : ∀ vs : List Nat, Slots F (wipeG G vs) (L2.wipe s vs)
  | [] => h
  | v :: vs => by
    have ih := Slots.wipe h vs
    refine ⟨by unfold wipeG L2.wipe; rw [List.length_set, List.length_set]; exact ih.1, fun j sl hj => ?_⟩
    unfold wipeG at hj
    unfold L2.wipe
    rw [List.getElem?_set] at hj ⊢
    by_cases e : v = j
    · subst e; rw [if_pos rfl] at hj; split at hj <;> cases hj
    · rw [if_neg e] at hj ⊢; exact ih.2 j sl hj
def Tg (g : TG) (is : List Nat) (W : Wd) (G : Gam) (T : Tms) (cs : Cells) (sl : Sl) (K : Gam → Prop) : Prop :=
  ∀ v s H, Sta W G ((v, sl) :: T) cs s H → ∀ Q : L2.St → Hp → Prop, (∀ G', K G' → ∀ s', Sta W G' T cs s' H → (∀ vs : List Nat, (∀ i ∈ is, i ∈ vs) → wipe s' vs = wipe s vs) → Q s' H) → g v s H Q
theorem g_name {i : Nat} {sl : Sl} {K : Gam → Prop} (k : K (G.set i (some sl))) : Tg (gName i) [i] W G T cs sl K := fun v s H ⟨F, c, sg, t⟩ Q q =>
  q _ k _ ⟨F, c, sg.set t.head, t.tail⟩ fun vs h => wipe_set s i _ vs (h i (by simp))
theorem g_pair {KF : PySem.W.Frag} {i j : Nat} {r : R α} {q : R β} {x : α × β} {K : Gam → Prop} (k : K ((G.set i (some (r.at x.1))).set j (some (q.at x.2)))) : Tg (gTup KF 2 (gCons (gName i) (gCons (gName j) gNil))) [i, j] W G T cs ((rPair r q).at x) K := fun v s H ⟨F, c, sg, t⟩ Q k' => by
  obtain ⟨a, u, w, h1, h2, h3, h4⟩ := t.head
  refine ⟨a, [u, w], h1, SqT.of (c.fh _ _ h2), rfl, u, [w], rfl, w, [], rfl, rfl, ?_⟩
  refine k' _ k _ ⟨F, c, (sg.set h3).set h4, t.tail⟩ fun vs h => ?_
  rw [wipe_set _ j _ vs (h j (by simp)), wipe_set _ i _ vs (h i (by simp))]
/-- name, (name, name) .. any tuple of typed parts is had by pairs alone; (a, b), c -/
theorem g_pairP {KF : PySem.W.Frag} {i j l : Nat} {r : R α} {q : R β} {p : R γ} {x : (α × β) × γ} {K : Gam → Prop} (k : K (((G.set i (some (r.at x.1.1))).set j (some (q.at x.1.2))).set l (some (p.at x.2)))) :
    Tg (gTup KF 2 (gCons (gTup KF 2 (gCons (gName i) (gCons (gName j) gNil))) (gCons (gName l) gNil))) [i, j, l] W G T cs ((rPair (rPair r q) p).at x) K := fun v s H ⟨F, c, sg, t⟩ Q k' => by
  obtain ⟨a, u, w, h1, h2, ⟨a', u', w', h1', h2', h3', h4'⟩, h4⟩ := t.head
  refine ⟨a, [u, w], h1, SqT.of (c.fh _ _ h2), rfl, u, [w], rfl, ?_⟩
  refine ⟨a', [u', w'], h1', SqT.of (c.fh _ _ h2'), rfl, u', [w'], rfl, w', [], rfl, rfl, w, [], rfl, rfl, ?_⟩
  refine k' _ k _ ⟨F, c, ((sg.set h3').set h4').set h4, t.tail⟩ fun vs h => ?_
  rw [wipe_set _ l _ vs (h l (by simp)), wipe_set _ j _ vs (h j (by simp)), wipe_set _ i _ vs (h i (by simp))]
/-- target = value -/
theorem s_asg {g : TG} {is : List Nat} (h : Ev te W G T cs fun sl cs1 => Tg g is W G T cs1 sl fun G' => NxT nx W G' T cs1) : NxT (tAsg te g ⟨nx, rt, bk, ct⟩) W G T cs := fun s H st => by
  refine h s H st _ fun sl cs1 k v H1 st1 => ?_
  exact k v s H1 st1 _ fun G' k' s' st' _ => k' s' H1 st'

/-! ## what is walked -/
structure Wk (J : It) (W : Wd) (T0 : Tms) (items : List Sl) : Prop where
  go : ∀ i F H cs, i < items.length → Core W F cs H → Temps F T0 → J.go i H
  yld : ∀ i F H cs x H' sl, items[i]? = some sl → Core W F cs H → Temps F T0 → J.yld i H x H' → ∃ F', Core W F' cs H' ∧ Same F F' ∧ sl.p F' x
  stop : ∀ F H cs, Core W F cs H → Temps F T0 → J.stop items.length H
def EvI (wi : TI) (W : Wd) (G : Gam) (T : Tms) (cs : Cells) (K : List Sl → Cells → Prop) : Prop :=
  ∀ s H, Sta W G T cs s H → ∀ R : It → Hp → Prop, (∀ J T0 items cs', K items cs' → items.length ≤ sizeLine → (∀ B, Wk J ⟨W.F, B⟩ T0 items) → ∀ H', Sta W G (T0 ++ T) cs' s H' → R J H') → wi s H R
/-- the same, for worlds that have this one's background -/
def EvIB (wi : TI) (W : Wd) (G : Gam) (T : Tms) (cs : Cells) (K : List Sl → Cells → Prop) : Prop :=
  ∀ s H, Sta W G T cs s H → ∀ R : It → Hp → Prop, (∀ J T0 items cs', K items cs' → items.length ≤ sizeLine → (∀ B, Same W.B B → Wk J ⟨W.F, B⟩ T0 items) → ∀ H', Sta W G (T0 ++ T) cs' s H' → R J H') → wi s H R
theorem EvI.toB {wi : TI} {W : Wd} {G : Gam} {T : Tms} {cs : Cells} {K : List Sl → Cells → Prop} (h : EvI wi W G T cs K) : EvIB wi W G T cs K := fun s H st R q => h s H st R fun J T0 items cs' k hz wk H' st' => q J T0 items cs' k hz (fun B _ => wk B) H' st'
theorem Temps.app {F : Hp} {T0 T : Tms} (h0 : Temps F T0) (h : Temps F T) : Temps F (T0 ++ T) := fun x hx => (List.mem_append.mp hx).elim (h0 x) (h x)
theorem Temps.left {F : Hp} {T0 T : Tms} (h : Temps F (T0 ++ T)) : Temps F T0 := fun x hx => h x (List.mem_append_left _ hx)
theorem Temps.right {F : Hp} {T0 T : Tms} (h : Temps F (T0 ++ T)) : Temps F T := fun x hx => h x (List.mem_append_right _ hx)
theorem Core.B {F : Hp} {H : Hp} (h : Core W F cs H) (B : Hp) (h1 : Same B H) (h2 : ∀ a o, B a = some o → F a = none) (h3 : ∀ x ∈ cs, B x.1 = none) : Core ⟨W.F, B⟩ F cs H :=
  ⟨h.f0, h.fh, h1, h2, h.nd, fun x hx => ⟨(h.cell x hx).1, h3 x hx, (h.cell x hx).2.2⟩⟩
theorem i_tup {KF : PySem.W.Frag} {KI : List Sl → Cells → Prop} (h : Ev te W G T cs fun sl cs1 => ∃ (α : Type) (r : R α) (xs : List α), sl = (rTup r).at xs ∧ KI (xs.map r.at) cs1) : EvI (iTup KF te) W G T cs KI := fun s H st R q => by
  refine h s H st _ fun sl cs1 ⟨α, r, xs, e, k⟩ v H1 st1 => ?_
  subst e
  obtain ⟨F, c, sg, t⟩ := id st1
  obtain ⟨hz, a, vs, rfl, hF, hA⟩ := t.head
  refine ⟨a, rfl, ⟨vs, SqT.of (c.fh _ _ hF)⟩, q _ [(V.ref a, (rTup r).at xs)] _ cs1 k (by rw [List.length_map]; exact hz) (fun B => ?_) H1 st1⟩
  have get : ∀ (F : Hp), Temps F [(V.ref a, (rTup r).at xs)] → ∃ us, F a = some (.tup us) ∧ All2 (fun x u => r.p x F u) xs us := fun F t => by
    obtain ⟨_, a', us, e, h1, h2⟩ := t.head
    cases e
    exact ⟨us, h1, h2⟩
  refine ⟨fun i F H cs hi c t => ?_, fun i F H cs x H' sl hi c t y => ?_, fun F H cs c t => ?_⟩
  · obtain ⟨us, h1, h2⟩ := get F t
    rw [List.length_map] at hi
    obtain ⟨u, h3, _⟩ := h2.get (List.getElem?_eq_getElem hi)
    exact ⟨us, u, SqT.of (c.fh _ _ h1), h3⟩
  · obtain ⟨us, h1, h2⟩ := get F t
    obtain ⟨e, y⟩ := y
    subst e
    have y' := y us (SqT.of (c.fh _ _ h1))
    rw [List.getElem?_map] at hi
    obtain ⟨z, hz', ez⟩ := h2.get' y'
    rw [hz'] at hi
    cases hi
    exact ⟨F, c, Same.refl F, ez⟩
  · obtain ⟨us, h1, h2⟩ := get F t
    exact ⟨us, SqT.of (c.fh _ _ h1), by rw [List.length_map, ← h2.length]; exact Nat.le_refl _⟩
theorem i_lst {KF : PySem.W.Frag} {KI : List Sl → Cells → Prop} (h : Ev te W G T cs fun sl cs1 => ∃ (α : Type) (r : R α) (xs : List α), sl = (rLst r).at xs ∧ KI (xs.map r.at) cs1) : EvI (iList KF te) W G T cs KI := fun s H st R q => by
  refine h s H st _ fun sl cs1 ⟨α, r, xs, e, k⟩ v H1 st1 => ?_
  subst e
  obtain ⟨F, c, sg, t⟩ := id st1
  obtain ⟨hz, a, vs, rfl, hF, hA⟩ := t.head
  refine ⟨a, rfl, ⟨vs, SqL.of (c.fh _ _ hF)⟩, q _ [(V.ref a, (rLst r).at xs)] _ cs1 k (by rw [List.length_map]; exact hz) (fun B => ?_) H1 st1⟩
  have get : ∀ (F : Hp), Temps F [(V.ref a, (rLst r).at xs)] → ∃ us, F a = some (.lst us) ∧ All2 (fun x u => r.p x F u) xs us := fun F t => by
    obtain ⟨_, a', us, e, h1, h2⟩ := t.head
    cases e
    exact ⟨us, h1, h2⟩
  refine ⟨fun i F H cs hi c t => ?_, fun i F H cs x H' sl hi c t y => ?_, fun F H cs c t => ?_⟩
  · obtain ⟨us, h1, h2⟩ := get F t
    rw [List.length_map] at hi
    obtain ⟨u, h3, _⟩ := h2.get (List.getElem?_eq_getElem hi)
    exact ⟨us, u, SqL.of (c.fh _ _ h1), h3⟩
  · obtain ⟨us, h1, h2⟩ := get F t
    obtain ⟨e, y⟩ := y
    subst e
    have y' := y us (SqL.of (c.fh _ _ h1))
    rw [List.getElem?_map] at hi
    obtain ⟨z, hz', ez⟩ := h2.get' y'
    rw [hz'] at hi
    cases hi
    exact ⟨F, c, Same.refl F, ez⟩
  · obtain ⟨us, h1, h2⟩ := get F t
    exact ⟨us, SqL.of (c.fh _ _ h1), by rw [List.length_map, ← h2.length]; exact Nat.le_refl _⟩
def rangeI (lo hi : Int) : List Int := (List.range (hi - lo).toNat).map fun (k : Nat) => lo + (k : Int)
theorem wk_range (lo : Int) (n : Nat) (B : Hp) : Wk (Itr lo n) ⟨W.F, B⟩ [] (((List.range n).map fun (k : Nat) => lo + (k : Int)).map rInt.at) := by
  refine ⟨fun i F H cs hi c t => by show i < n; simpa using hi, fun i F H cs x H' sl hi c t y => ?_, fun F H cs c t => by show n ≤ _; simp⟩
  obtain ⟨e, y⟩ := y
  subst e
  rw [List.getElem?_map, List.getElem?_map] at hi
  refine ⟨F, c, Same.refl F, ?_⟩
  by_cases hl : i < n
  · rw [List.getElem?_range hl] at hi
    cases hi
    exact y
  · rw [List.getElem?_eq_none (by simp; omega)] at hi
    cases hi
def small62 (i : Int) : Prop := -(2 ^ 62) ≤ i ∧ i < 2 ^ 62
instance {i : Int} : Decidable (small62 i) := by unfold small62; infer_instance
def oRange (i j : Int) : Option (List Int) := if small62 i ∧ small62 j ∧ (j - i).toNat ≤ sizeLine then some (rangeI i j) else none
theorem oRange_ok {i j : Int} {xs : List Int} (h : oRange i j = some xs) : (small62 i ∧ small62 j ∧ (j - i).toNat ≤ sizeLine) ∧ xs = rangeI i j := by
  unfold oRange at h
  split at h
  · rename_i hc; exact ⟨hc, (Option.some.inj h).symm⟩
  · cases h
theorem len_rangeI (i j : Int) : (rangeI i j).length = (j - i).toNat := by unfold rangeI; simp
theorem args1i {F : Hp} {j : Int} {vs : List V} (ar : Args F [rInt.at j] vs) : vs = [.int j] := by
  cases ar with
  | cons a b => cases b; rw [show _ = V.int j from a]
theorem args2 {F : Hp} {i j : Int} {vs : List V} (ar : Args F [rInt.at i, rInt.at j] vs) : vs = [.int i, .int j] := by
  cases ar with
  | cons a b =>
    cases b with
    | cons a' b' => cases b'; rw [show _ = V.int i from a, show _ = V.int j from a']
theorem i_range1 {t : TA} {KI : List Sl → Cells → Prop} (h : EvA t W G T cs fun sls cs1 => ∃ (j : Int) (xs : List Int), sls = [rInt.at j] ∧ oRange 0 j = some xs ∧ KI (xs.map rInt.at) cs1) : EvI (iRng1 t) W G T cs KI := fun s H st R q => by
  refine h s H st _ fun sls cs1 ⟨j, xs, e, ho, k⟩ vs H1 ⟨F, c, sg, t, ar⟩ => ?_
  subst e
  obtain ⟨⟨_, ⟨b1, b2⟩, b3⟩, e⟩ := oRange_ok ho
  subst e
  have e := args1i ar
  subst e
  refine ⟨j, rfl, b1, b2, q _ [] _ cs1 k (by rw [List.length_map, len_rangeI]; exact b3) (fun B => ?_) H1 ⟨F, c, sg, t⟩⟩
  have := wk_range (W := W) 0 j.toNat B
  unfold rangeI
  rw [Int.sub_zero]
  exact this
theorem i_range2 {t : TA} {KI : List Sl → Cells → Prop} (h : EvA t W G T cs fun sls cs1 => ∃ (i j : Int) (xs : List Int), sls = [rInt.at i, rInt.at j] ∧ oRange i j = some xs ∧ KI (xs.map rInt.at) cs1) : EvI (iRng2 t) W G T cs KI := fun s H st R q => by
  refine h s H st _ fun sls cs1 ⟨i, j, xs, e, ho, k⟩ vs H1 ⟨F, c, sg, t, ar⟩ => ?_
  subst e
  obtain ⟨⟨⟨b1, b2⟩, ⟨b3, b4⟩, b5⟩, e⟩ := oRange_ok ho
  subst e
  have e := args2 ar
  subst e
  exact ⟨i, j, rfl, ⟨b1, b2, b3, b4⟩, q _ [] _ cs1 k (by rw [List.length_map, len_rangeI]; exact b5) (fun B => wk_range (W := W) i (j - i).toNat B) H1 ⟨F, c, sg, t⟩⟩

/-! ## for -/
inductive Fl (ρ β : Type) where
  | go (b : β) | brk (b : β) | ret (r : ρ)
inductive Lo (ρ β : Type) where
  | go (b : β) | ret (r : ρ)
def loopO (f : β → α → Option (Fl ρ β)) : List α → β → Option (Lo ρ β)
  | [], b => some (.go b)
  | x :: xs, b => match f b x with
    | none => none
    | some (.go b') => loopO f xs b'
    | some (.brk b') => some (.go b')
    | some (.ret r) => some (.ret r)
def foldO (f : β → α → Option β) : List α → β → Option β
  | [], b => some b
  | x :: xs, b => match f b x with
    | none => none
    | some b' => foldO f xs b'
theorem foldO_loop (f : β → α → Option β) : ∀ (xs : List α) (b b' : β), foldO f xs b = some b' → loopO (ρ := Empty) (fun b x => (f b x).map .go) xs b = some (.go b')
  | [], b, b', h => by cases h; rfl
  | x :: xs, b, b', h => by
    unfold foldO at h
    unfold loopO
    cases e : f b x with
    | none => rw [e] at h; cases h
    | some c => rw [e] at h; exact foldO_loop f xs c b' h
theorem for_sound {wi : TI} {g : TG} {tb : TS} {is : List Nat} (h : EvI wi W G T cs fun items cs1 => ∃ (α β ρ : Type) (r : R α) (xs : List α) (b0 : β) (f : β → α → Option (Fl ρ β)) (out : Lo ρ β) (Gb : β → Gam) (cb : β → Cells),
      items = xs.map r.at ∧ loopO f xs b0 = some out ∧ Wkn G (Gb b0) ∧ cs1 = cb b0 ∧
      (∀ T' b x fl, f b x = some fl → ∀ N Bk : L2.St → Hp → Prop, (∀ b', fl = .go b' → NxT N W (Gb b') T' (cb b')) → (∀ b', fl = .brk b' → NxT Bk W (Gb b') T' (cb b')) → (∀ z, fl = .ret z → out = .ret z) →
        Tg g is W (Gb b) T' (cb b) (r.at x) fun G' => NxT (tb ⟨N, rt, Bk, N⟩) W G' T' (cb b)) ∧
      (∀ b', out = .go b' → NxT nx W (Gb b') T (cb b'))) : NxT (tFor wi g tb ⟨nx, rt, bk, ct⟩) W G T cs := fun s H st => by
  refine h s H st _ fun J T0 items cs1 ⟨α, β, ρ, r, xs, b0, f, out, Gb, cb, e1, hl, hw, e2, body, after⟩ hz wk H1 ⟨F1, c1, sg1, t1⟩ => ?_
  subst e1 e2
  have wk := wk W.B
  refine ⟨fun i m s H => i + m = xs.length ∧ ∃ b, loopO f (xs.drop i) b = some out ∧ Sta W (Gb b) (T0 ++ T) (cb b) s H, ⟨xs.length, by omega, b0, hl, F1, c1, sg1.weak hw, t1⟩, ?_⟩
  rintro i m s H ⟨em, b, hlo, F, c, sg, t⟩
  by_cases hi : i < xs.length
  · refine .inr ⟨wk.go i F H _ (by simpa using hi) c t.left, ?_⟩
    have hd : xs.drop i = xs[i] :: xs.drop (i + 1) := List.drop_eq_getElem_cons hi
    rw [hd] at hlo
    unfold loopO at hlo
    cases ef : f b xs[i] with
    | none => rw [ef] at hlo; cases hlo
    | some fl =>
      rw [ef] at hlo
      have bd : ∀ b', out = .go b' → NxT nx W (Gb b') (T0 ++ T) (cb b') := fun b' eo s H ⟨F, c, sg, t⟩ => after b' eo s H ⟨F, c, sg, t.right⟩
      refine ⟨fun s' H' => ∃ b', fl = .go b' ∧ Sta W (Gb b') (T0 ++ T) (cb b') s' H', fun s' H' ⟨b', ef', st'⟩ => ?_, fun x H' y => ?_⟩
      · subst ef'
        exact ⟨m - 1, by omega, by omega, b', hlo, st'⟩
      · have hx : (xs.map r.at)[i]? = some (r.at xs[i]) := by rw [List.getElem?_map, List.getElem?_eq_getElem hi]; rfl
        obtain ⟨F', c', sF, px⟩ := wk.yld i F H _ x H' _ hx c t.left y
        refine body (T0 ++ T) b xs[i] fl ef _ nx (fun b' e s H st => ⟨b', e, st⟩) (fun b' e => ?_) (fun z e => ?_) x s H' ⟨F', c', sg.mono sF, (t.mono sF).cons px⟩ _ fun G' k s' st' _ => k s' H' st'
        · subst e
          exact bd b' (Option.some.inj hlo).symm
        · subst e
          exact (Option.some.inj hlo).symm
  · have ei : i = xs.length := by omega
    subst ei
    refine .inl ⟨?_, ?_⟩
    · have := wk.stop F H _ c t.left
      rwa [List.length_map] at this
    · rw [List.drop_length] at hlo
      exact after b (Option.some.inj hlo).symm s H ⟨F, c, sg, t.right⟩
/-- no way out but the end -/
theorem fold_sound {wi : TI} {g : TG} {tb : TS} {is : List Nat} (h : EvI wi W G T cs fun items cs1 => ∃ (α β : Type) (r : R α) (xs : List α) (b0 : β) (f : β → α → Option β) (out : β) (Gb : β → Gam) (cb : β → Cells),
      items = xs.map r.at ∧ foldO f xs b0 = some out ∧ Wkn G (Gb b0) ∧ cs1 = cb b0 ∧
      (∀ T' b x b', f b x = some b' → ∀ N Bk : L2.St → Hp → Prop, NxT N W (Gb b') T' (cb b') →
        Tg g is W (Gb b) T' (cb b) (r.at x) fun G' => NxT (tb ⟨N, rt, Bk, N⟩) W G' T' (cb b)) ∧
      NxT nx W (Gb out) T (cb out)) : NxT (tFor wi g tb ⟨nx, rt, bk, ct⟩) W G T cs := by
  refine for_sound (is := is) ?_
  intro s H st Q q
  refine h s H st Q fun J T0 items cs' ⟨α, β, r, xs, b0, f, out, Gb, cb, e1, hl, hw, e2, body, after⟩ hz wk H' st' => q J T0 items cs' ⟨α, β, Empty, r, xs, b0, _, .go out, Gb, cb, e1, foldO_loop f xs b0 out hl, hw, e2, fun T' b x fl hf N Bk hN _ _ => ?_, fun b' e => ?_⟩ hz wk H' st'
  · cases ef : f b x with
    | none => rw [ef] at hf; cases hf
    | some b' =>
      rw [ef] at hf
      cases hf
      exact body T' b x b' ef N Bk (hN b' rfl)
  · cases e; exact after

/-! ## comprehensions -/
def lcO (f : β → α → Option (Option γ × β)) : List α → β → Option (List γ × β)
  | [], b => some ([], b)
  | x :: xs, b => match f b x with
    | none => none
    | some (o, b') => match lcO f xs b' with
      | none => none
      | some (ys, b'') => some (match o with | some y => y :: ys | none => ys, b'')
theorem lcO_cons {f : β → α → Option (Option γ × β)} {x : α} {xs : List α} {b b2 : β} {ys : List γ} (h : lcO f (x :: xs) b = some (ys, b2)) : ∃ o b' zs, f b x = some (o, b') ∧ lcO f xs b' = some (zs, b2) ∧ ys = (match o with | some y => y :: zs | none => zs) := by
  unfold lcO at h
  cases e : f b x with
  | none => rw [e] at h; cases h
  | some p =>
    obtain ⟨o, b'⟩ := p
    rw [e] at h
    dsimp only at h
    cases e2 : lcO f xs b' with
    | none => rw [e2] at h; cases h
    | some q =>
      obtain ⟨zs, b3⟩ := q
      rw [e2] at h
      dsimp only at h
      have h' := Option.some.inj h
      exact ⟨o, b', zs, rfl, by rw [e2, (Prod.mk.inj h').2], (Prod.mk.inj h').1.symm⟩
theorem lcO_len {f : β → α → Option (Option γ × β)} : ∀ {xs : List α} {b b2 : β} {ys : List γ}, lcO f xs b = some (ys, b2) → ys.length ≤ xs.length
  | [], b, b2, ys, h => by cases h; exact Nat.le_refl _
  | x :: xs, b, b2, ys, h => by
    obtain ⟨o, b', zs, h1, h2, h3⟩ := lcO_cons h
    have := lcO_len h2
    rw [h3]
    cases o <;> simp <;> omega
/-- the list stays a cell -/
theorem lc_cellB {wi : TI} {g : TG} {vs : List Nat} {is : List Nat} (hvs : ∀ i ∈ is, i ∈ vs) (h : EvIB wi W G T cs fun items cs1 => ∃ (α β γ : Type) (r : R α) (xs : List α) (b0 : β) (f : β → α → Option (Option γ × β)) (ys : List γ) (b1 : β) (rr : R γ) (cb : β → Cells),
      items = xs.map r.at ∧ lcO f xs b0 = some (ys, b1) ∧ cs1 = cb b0 ∧
      (∀ W' T' b x o b', f b x = some (o, b') →
        Tg g is W' (wipeG G vs) T' (cb b) (r.at x) fun G' => Et tt W' G' T' (cb b) fun c cs3 => (c = true → Ev te W' G' T' cs3 fun sl cs4 => ∃ y, o = some y ∧ sl = rr.at y ∧ cs4 = cb b') ∧ (c = false → o = none ∧ cs3 = cb b')) ∧
      ∀ p, K (sRef p) (cb b1 ++ [(p, cLst rr ys)])) : Ev (tLc wi g tt te vs) W G T cs K := fun s H st Q q => by
  refine h s H st _ fun J T0 items cs1 ⟨α, β, γ, r, xs, b0, f, ys, b1, rr, cb, e1, hl, e2, body, k⟩ hsz wk H1 ⟨F1, c1, sg1, t1⟩ => ?_
  subst e1 e2
  rw [List.length_map] at hsz
  intro Dp hD
  have fD : F1 Dp = none := c1.fh.free hD
  have bD : W.B Dp = none := c1.bh.free hD
  -- the invariant: what is made so far
  refine ⟨fun i m H => i + m = xs.length ∧ ∃ (b : β) (acc : List γ) (zs : List γ), lcO f (xs.drop i) b = some (zs, b1) ∧ ys = acc ++ zs ∧ acc.length ≤ i ∧ ∃ F, Core W F (cb b ++ [(Dp, cLst rr acc)]) H ∧ Slots F G s ∧ Temps F (T0 ++ T), ⟨xs.length, by omega, b0, [], ys, hl, rfl, Nat.le_refl _, F1, c1.newCell hD ⟨Nat.zero_le _, [], rfl, .nil⟩, sg1, t1⟩, ?_⟩
  rintro i m H ⟨em, b, acc, zs, hlo, ey, hacc, F, c, sg, t⟩
  by_cases hi : i < xs.length
  · refine .inr ⟨(wk W.B fun _ _ e => e).go i F H _ (by simpa using hi) c t.left, ?_⟩
    have hd : xs.drop i = xs[i] :: xs.drop (i + 1) := List.drop_eq_getElem_cons hi
    rw [hd] at hlo
    obtain ⟨o, b', zs', hf, hl', ez⟩ := lcO_cons hlo
    refine ⟨_, fun H' hN => hN, fun x H' y => ?_⟩
    have hx : (xs.map r.at)[i]? = some (r.at xs[i]) := by rw [List.getElem?_map, List.getElem?_eq_getElem hi]; rfl
    obtain ⟨F', c', sF, px⟩ := (wk W.B fun _ _ e => e).yld i F H _ x H' _ hx c t.left y
    -- the list made so far goes to the background
    obtain ⟨d1, d2, od, d3, d4⟩ := c'.cell (Dp, cLst rr acc) (List.mem_append_right _ (by simp))
    have nb : ∀ x ∈ cb b, x.1 ≠ Dp := fun x hx e => by
      have nd := c'.nd
      rw [List.map_append, List.nodup_append] at nd
      exact nd.2.2 x.1 (List.mem_map_of_mem hx) Dp (by simp) e
    have cW : Core ⟨W.F, upd W.B Dp od⟩ F' (cb b) H' := by
      refine (c'.drop (List.sublist_append_left _ _)).B (upd W.B Dp od) (fun a o e => ?_) (fun a o e => ?_) fun x hx => ?_
      · by_cases ha : a = Dp
        · subst ha; rw [upd_same] at e; cases e; exact d3
        · rw [upd_ne ha] at e; exact c'.bh a o e
      · by_cases ha : a = Dp
        · subst ha; exact d1
        · rw [upd_ne ha] at e; exact c'.bf a o e
      · rw [upd_ne (nb x hx)]; exact (c'.cell x (List.mem_append_left _ hx)).2.1
    have back : ∀ {F2 : Hp} {cs2 : Cells} {H2 : Hp}, Core ⟨W.F, upd W.B Dp od⟩ F2 cs2 H2 → Core W F2 (cs2 ++ [(Dp, cLst rr acc)]) H2 ∨ ¬ Same F' F2 := fun {F2 cs2 H2} c2 => by
      by_cases hs : Same F' F2
      · refine .inl ⟨c2.f0, c2.fh, fun a o e => c2.bh a o ?_, fun a o e => c2.bf a o ?_, ?_, fun x hx => ?_⟩
        · show upd W.B Dp od a = some o
          rw [upd_ne (ne_of_none e bD)]; exact e
        · show upd W.B Dp od a = some o
          rw [upd_ne (ne_of_none e bD)]; exact e
        · rw [List.map_append, List.nodup_append]
          refine ⟨c2.nd, by simp, fun a ha b hb e => ?_⟩
          have eb : b = Dp := by simpa using hb
          obtain ⟨x, hx, ex⟩ := List.mem_map.mp ha
          have h0 := (c2.cell x hx).2.1
          have : upd W.B Dp od x.1 = none := h0
          rw [ex, e, eb, upd_same] at this
          cases this
        · rcases List.mem_append.mp hx with hx | hx
          · obtain ⟨a1, a2, a3⟩ := c2.cell x hx
            have a2' : upd W.B Dp od x.1 = none := a2
            by_cases hxd : x.1 = Dp
            · rw [hxd, upd_same] at a2'; cases a2'
            · rw [upd_ne hxd] at a2'; exact ⟨a1, a2', a3⟩
          · have e : x = (Dp, cLst rr acc) := by simpa using hx
            subst e
            exact ⟨c2.bf Dp od (show upd W.B Dp od Dp = some od from upd_same), bD, od, c2.bh Dp od (show upd W.B Dp od Dp = some od from upd_same), (cLst rr acc).mono hs d4⟩
      · exact .inr hs
    -- F' stays below: kept by a world whose frozen part is F'
    have cW' : Core ⟨F', upd W.B Dp od⟩ F' (cb b) H' := ⟨Same.refl F', cW.fh, cW.bh, cW.bf, cW.nd, cW.cell⟩
    have toW : ∀ {F2 : Hp} {cs2 : Cells} {H2 : Hp}, Core ⟨F', upd W.B Dp od⟩ F2 cs2 H2 → Core W F2 (cs2 ++ [(Dp, cLst rr acc)]) H2 := fun {F2 cs2 H2} c2 => by
      have c3 : Core ⟨W.F, upd W.B Dp od⟩ F2 cs2 H2 := ⟨c'.f0.trans c2.f0, c2.fh, c2.bh, c2.bf, c2.nd, c2.cell⟩
      rcases back c3 with z | z
      · exact z
      · exact absurd c2.f0 z
    refine body ⟨F', upd W.B Dp od⟩ (T0 ++ T) b xs[i] o b' hf x (wipe s vs) H' ⟨F', cW', (sg.mono sF).wipe vs, (t.mono sF).cons px⟩ _ fun G2 ht s2 st2 hw => ⟨by rw [hw vs hvs, wipe_wipe], ?_⟩
    refine ht s2 H' st2 _ fun cc cs3 ⟨k1, k2⟩ H3 st3 => ?_
    cases cc with
    | true =>
      rw [if_pos rfl]
      refine k1 rfl s2 H3 st3 _ fun sl cs4 ⟨y, eo, es, e4⟩ v4 H4 ⟨F4, c4, sg4, t4⟩ => ?_
      subst eo es e4
      have c5 := toW c4
      obtain ⟨_, _, o5, d5, ⟨hz5, ws, eo5, h5⟩⟩ := c5.cell (Dp, cLst rr acc) (List.mem_append_right _ (by simp))
      subst eo5
      have hlt : ws.length < sizeLine := by
        have := h5.length
        omega
      refine ⟨ws, d5, hlt, m - 1, by omega, by omega, b', acc ++ [y], zs', hl', ?_, ?_, F4, ?_, sg.mono (sF.trans c4.f0), t4.tail⟩
      · rw [ey, ez]; simp
      · rw [List.length_append, List.length_singleton]; omega
      · have hj : (cb b' ++ [(Dp, cLst rr acc)])[(cb b').length]? = some (Dp, cLst rr acc) := by simp
        have := c5.write (c' := cLst rr (acc ++ [y])) (o := .lst (ws ++ [v4])) hj ⟨by rw [List.length_append, List.length_singleton, h5.length]; exact hlt, _, rfl, h5.app (.cons t4.head .nil)⟩
        rw [show (cb b' ++ [(Dp, cLst rr acc)]).set (cb b').length (Dp, cLst rr (acc ++ [y])) = cb b' ++ [(Dp, cLst rr (acc ++ [y]))] by simp [List.set_append]] at this
        exact this
    | false =>
      rw [if_neg Bool.false_ne_true]
      obtain ⟨eo, e3⟩ := k2 rfl
      subst eo e3
      obtain ⟨F4, c4, sg4, t4⟩ := st3
      exact ⟨m - 1, by omega, by omega, b', acc, zs', hl', by rw [ey, ez], by omega, F4, toW c4, sg.mono (sF.trans c4.f0), t4⟩
  · have ei : i = xs.length := by omega
    subst ei
    refine .inl ⟨?_, ?_⟩
    · have := (wk W.B fun _ _ e => e).stop F H _ c t.left
      rwa [List.length_map] at this
    · rw [List.drop_length] at hlo
      have e := Option.some.inj hlo
      have e1 : zs = [] := (Prod.mk.inj e).1.symm
      have e2 : b = b1 := (Prod.mk.inj e).2
      subst e1 e2
      rw [List.append_nil] at ey
      subst ey
      exact q _ _ (k Dp) _ H ⟨F, c, sg, t.right.cons rfl⟩
/-- the list stands still -/
theorem lc_soundB {wi : TI} {g : TG} {vs : List Nat} {is : List Nat} (hvs : ∀ i ∈ is, i ∈ vs) (h : EvIB wi W G T cs fun items cs1 => ∃ (α β γ : Type) (r : R α) (xs : List α) (b0 : β) (f : β → α → Option (Option γ × β)) (ys : List γ) (b1 : β) (rr : R γ) (cb : β → Cells),
      items = xs.map r.at ∧ lcO f xs b0 = some (ys, b1) ∧ cs1 = cb b0 ∧
      (∀ W' T' b x o b', f b x = some (o, b') →
        Tg g is W' (wipeG G vs) T' (cb b) (r.at x) fun G' => Et tt W' G' T' (cb b) fun c cs3 => (c = true → Ev te W' G' T' cs3 fun sl cs4 => ∃ y, o = some y ∧ sl = rr.at y ∧ cs4 = cb b') ∧ (c = false → o = none ∧ cs3 = cb b')) ∧
      K ((rLst rr).at ys) (cb b1)) : Ev (tLc wi g tt te vs) W G T cs K := fun s H st Q q => by
  refine lc_cellB (K := fun sl cs' => ∃ (γ : Type) (rr : R γ) (ys : List γ) (c0 : Cells) (p : Addr), sl = sRef p ∧ cs' = c0 ++ [(p, cLst rr ys)] ∧ K ((rLst rr).at ys) c0) hvs ?_ s H st Q fun sl cs' ⟨γ, rr, ys, c0, p, e1, e2, k⟩ v H' ⟨F, c, sg, t⟩ => ?_
  · intro s H st R q
    exact h s H st R fun J T0 items cs1 ⟨α, β, γ, r, xs, b0, f, ys, b1, rr, cb, e1, hl, e2, body, k⟩ hsz wk H1 st1 => q J T0 items cs1 ⟨α, β, γ, r, xs, b0, f, ys, b1, rr, cb, e1, hl, e2, body, fun p => ⟨γ, rr, ys, cb b1, p, rfl, rfl, k⟩⟩ hsz wk H1 st1
  · subst e1 e2
    have hj : (c0 ++ [(p, cLst rr ys)])[c0.length]? = some (p, cLst rr ys) := by simp
    obtain ⟨o, F', h1, ⟨hz, ws, eo, h2⟩, h3, sF, c'⟩ := c.freeze hj
    subst eo
    have ee : (c0 ++ [(p, cLst rr ys)]).eraseIdx c0.length = c0 := by
      rw [List.eraseIdx_append_of_length_le (Nat.le_refl _)]; simp
    rw [ee] at c'
    have ev : v = .ref p := t.head
    exact q _ _ k v H' ⟨F', c', sg.mono sF, (t.tail.mono sF).cons ⟨hz, p, ws, ev, h3, h2⟩⟩
theorem lc_cell {wi : TI} {g : TG} {vs : List Nat} {is : List Nat} (hvs : ∀ i ∈ is, i ∈ vs) (h : EvI wi W G T cs fun items cs1 => ∃ (α β γ : Type) (r : R α) (xs : List α) (b0 : β) (f : β → α → Option (Option γ × β)) (ys : List γ) (b1 : β) (rr : R γ) (cb : β → Cells),
      items = xs.map r.at ∧ lcO f xs b0 = some (ys, b1) ∧ cs1 = cb b0 ∧
      (∀ W' T' b x o b', f b x = some (o, b') →
        Tg g is W' (wipeG G vs) T' (cb b) (r.at x) fun G' => Et tt W' G' T' (cb b) fun c cs3 => (c = true → Ev te W' G' T' cs3 fun sl cs4 => ∃ y, o = some y ∧ sl = rr.at y ∧ cs4 = cb b') ∧ (c = false → o = none ∧ cs3 = cb b')) ∧
      ∀ p, K (sRef p) (cb b1 ++ [(p, cLst rr ys)])) : Ev (tLc wi g tt te vs) W G T cs K := lc_cellB hvs h.toB
theorem lc_sound {wi : TI} {g : TG} {vs : List Nat} {is : List Nat} (hvs : ∀ i ∈ is, i ∈ vs) (h : EvI wi W G T cs fun items cs1 => ∃ (α β γ : Type) (r : R α) (xs : List α) (b0 : β) (f : β → α → Option (Option γ × β)) (ys : List γ) (b1 : β) (rr : R γ) (cb : β → Cells),
      items = xs.map r.at ∧ lcO f xs b0 = some (ys, b1) ∧ cs1 = cb b0 ∧
      (∀ W' T' b x o b', f b x = some (o, b') →
        Tg g is W' (wipeG G vs) T' (cb b) (r.at x) fun G' => Et tt W' G' T' (cb b) fun c cs3 => (c = true → Ev te W' G' T' cs3 fun sl cs4 => ∃ y, o = some y ∧ sl = rr.at y ∧ cs4 = cb b') ∧ (c = false → o = none ∧ cs3 = cb b')) ∧
      K ((rLst rr).at ys) (cb b1)) : Ev (tLc wi g tt te vs) W G T cs K := lc_soundB hvs h.toB
end
end ML

namespace ML
open PySem PySem.Spec PyProof.Rows L2

section
variable {nx bk ct : L2.St → Hp → Prop} {rt : VK}
variable {W : Wd} {G G' : Gam} {T : Tms} {cs : Cells} {K : Sl → Cells → Prop} {KB : Bool → Cells → Prop} {ta tb tc te to ti : TE} {tt tu : TT} {D : Ends} {t1 t2 : TS} {t : TA} {α β γ ρ : Type} {KF : PySem.W.Frag}

/-! ## guarded operators on ints -/
@[irreducible] def Sml (i : Int) : Prop := i.natAbs < 2 ^ 4096
theorem sml_iff {i : Int} : Sml i ↔ i.natAbs < 2 ^ 4096 := by unfold Sml; exact Iff.rfl
instance {i : Int} : Decidable (Sml i) := decidable_of_iff _ (sml_iff (i := i)).symm
theorem sml_of {i : Int} {n : Nat} (hn : n ≤ 4096) (h : i.natAbs < 2 ^ n) : Sml i := sml_iff.mpr (Nat.lt_of_lt_of_le h (Nat.pow_le_pow_right (by decide) hn))
theorem Sml.bits {i : Int} (h : Sml i) : Builtin.Int.intBits i ≤ 4096 := PyProof.Rows.intBits_le (sml_iff.mp h)
def oShl (i j : Int) : Option Int := if 0 ≤ j ∧ j ≤ 100000 ∧ Sml i then some (i * 2 ^ j.toNat) else none
def oShr (i j : Int) : Option Int := if 0 ≤ j then some (i / 2 ^ j.toNat) else none
def oMul (i j : Int) : Option Int := if Sml i ∧ Sml j then some (i * j) else none
def oDiv (i j : Int) : Option Int := if 0 < j ∧ Sml j then some (i / j) else none
def oMod (i j : Int) : Option Int := if 0 < j then some (i % j) else none
def oPow (i j : Int) : Option Int := if 0 ≤ j ∧ j ≤ 1000 ∧ Sml i then some (i ^ j.toNat) else none
def CPowW (i j : Int) : Prop := 0 ≤ j ∧ (Builtin.Int.intBits i : Int) * j ≤ 2 ^ 27
theorem op_powW {X : Cx} : OpR X (binaryOp .Pow) (rI CPowW fun i j => .int (i ^ j.toNat)) := opI fun _ _ _ _ _ _ _ hc q => pow_int hc.1 hc.2 q
theorem of_ite {c : Prop} [Decidable c] {a : α} {b : α} (h : (if c then some a else none) = some b) : c ∧ b = a := by
  split at h
  · rename_i hc; exact ⟨hc, (Option.some.inj h).symm⟩
  · cases h
theorem oShl_ok (i j t : Int) (h : oShl i j = some t) : CShl i j ∧ t = i * 2 ^ j.toNat := by
  obtain ⟨⟨h1, h2, h3⟩, e⟩ := of_ite h
  have := h3.bits
  have e27 : (2 : Int) ^ 27 = 134217728 := by decide
  exact ⟨⟨h1, by rw [e27]; omega⟩, e⟩
theorem oShr_ok (i j t : Int) (h : oShr i j = some t) : 0 ≤ j ∧ t = i / 2 ^ j.toNat := of_ite h
theorem oMul_ok (i j t : Int) (h : oMul i j = some t) : CMulX i j ∧ t = i * j := by
  obtain ⟨⟨h1, h2⟩, e⟩ := of_ite h
  have b1 := h1.bits
  have b2 := h2.bits
  refine ⟨?_, e⟩
  unfold CMulX
  omega
theorem oDiv_ok (i j t : Int) (h : oDiv i j = some t) : CDivW i j ∧ t = i / j := by
  obtain ⟨⟨h1, h2⟩, e⟩ := of_ite h
  exact ⟨wide_div h1 (sml_iff.mp h2) (by decide) (by decide), e⟩
theorem oMod_ok (i j t : Int) (h : oMod i j = some t) : 0 < j ∧ t = i % j := of_ite h
theorem oPow_ok (i j t : Int) (h : oPow i j = some t) : CPowW i j ∧ t = i ^ j.toNat := by
  obtain ⟨⟨h1, h2, h3⟩, e⟩ := of_ite h
  have b := h3.bits
  have e27 : (2 : Int) ^ 27 = 134217728 := by decide
  refine ⟨⟨h1, ?_⟩, e⟩
  rw [e27]
  have : (Builtin.Int.intBits i : Int) * j ≤ 4096 * 1000 := Int.mul_le_mul (by omega) h2 h1 (by decide)
  omega

/-! ## arguments taken apart -/
theorem args1 {F : Hp} {a : Sl} {vs : List V} (ar : Args F [a] vs) : ∃ v, vs = [v] ∧ a.p F v := by
  cases ar with
  | cons p q => cases q; exact ⟨_, rfl, p⟩
theorem args2' {F : Hp} {a b : Sl} {vs : List V} (ar : Args F [a, b] vs) : ∃ v w, vs = [v, w] ∧ a.p F v ∧ b.p F w := by
  cases ar with
  | cons p q =>
    cases q with
    | cons p' q' => cases q'; exact ⟨_, _, rfl, p, p'⟩
theorem args_map {F : Hp} {r : R α} : ∀ {xs : List α} {vs : List V}, Args F (xs.map r.at) vs → All2 (fun x u => r.p x F u) xs vs
  | [], _, .nil => .nil
  | _ :: _, _, .cons p q => .cons p (args_map q)

/-! ## displays -/
theorem small_len {n : Nat} (h : n ≤ 1000) : n ≤ sizeLine := by rw [sizeLine_eq]; omega
theorem e_lst (h : EvA t W G T cs fun sls cs1 => ∃ (α : Type) (r : R α) (xs : List α), sls = xs.map r.at ∧ xs.length ≤ 1000 ∧ K ((rLst r).at xs) cs1) : Ev (tLst t) W G T cs K := fun s H st Q q => by
  refine h s H st _ fun sls cs1 ⟨α, r, xs, e, hz, k⟩ vs H1 ⟨F, c, sg, tm, ar⟩ => ?_
  subst e
  have a2 := args_map ar
  refine ⟨by rw [← a2.length]; exact small_len hz, fun p hp => ?_⟩
  have sF : Same F (upd F p (.lst vs)) := same_upd (c.fh.free hp)
  exact q _ _ k _ _ ⟨_, c.new hp, sg.mono sF, (tm.mono sF).cons ⟨small_len hz, p, vs, rfl, upd_same, a2.imp fun _ _ z => r.mono sF z⟩⟩
theorem e_lstC (h : EvA t W G T cs fun sls cs1 => ∃ (α : Type) (r : R α) (xs : List α), sls = xs.map r.at ∧ xs.length ≤ 1000 ∧ ∀ p, K (sRef p) (cs1 ++ [(p, cLst r xs)])) : Ev (tLst t) W G T cs K := fun s H st Q q => by
  refine h s H st _ fun sls cs1 ⟨α, r, xs, e, hz, k⟩ vs H1 ⟨F, c, sg, tm, ar⟩ => ?_
  subst e
  have a2 := args_map ar
  exact ⟨by rw [← a2.length]; exact small_len hz, fun p hp => q _ _ (k p) _ _ ⟨F, c.newCell hp ⟨small_len hz, vs, rfl, a2⟩, sg, tm.cons rfl⟩⟩
theorem e_tup (h : EvA t W G T cs fun sls cs1 => ∃ (α : Type) (r : R α) (xs : List α), sls = xs.map r.at ∧ xs.length ≤ 1000 ∧ K ((rTup r).at xs) cs1) : Ev (tTup t) W G T cs K := fun s H st Q q => by
  refine h s H st _ fun sls cs1 ⟨α, r, xs, e, hz, k⟩ vs H1 ⟨F, c, sg, tm, ar⟩ => ?_
  subst e
  have a2 := args_map ar
  refine ⟨by rw [← a2.length]; exact small_len hz, fun p hp => ?_⟩
  have sF : Same F (upd F p (.tup vs)) := same_upd (c.fh.free hp)
  exact q _ _ k _ _ ⟨_, c.new hp, sg.mono sF, (tm.mono sF).cons ⟨small_len hz, p, vs, rfl, upd_same, a2.imp fun _ _ z => r.mono sF z⟩⟩
theorem e_pair (h : EvA t W G T cs fun sls cs1 => ∃ (α β : Type) (r : R α) (r' : R β) (a : α) (b : β), sls = [r.at a, r'.at b] ∧ K ((rPair r r').at (a, b)) cs1) : Ev (tTup t) W G T cs K := fun s H st Q q => by
  refine h s H st _ fun sls cs1 ⟨α, β, r, r', a, b, e, k⟩ vs H1 ⟨F, c, sg, tm, ar⟩ => ?_
  subst e
  obtain ⟨v, w, rfl, h1, h2⟩ := args2' ar
  refine ⟨by show 2 ≤ sizeLine; decide, fun p hp => ?_⟩
  have sF : Same F (upd F p (.tup [v, w])) := same_upd (c.fh.free hp)
  exact q _ _ k _ _ ⟨_, c.new hp, sg.mono sF, (tm.mono sF).cons ⟨p, v, w, rfl, upd_same, r.mono sF h1, r'.mono sF h2⟩⟩

/-! ## subscripts -/
theorem all2_atI {P : α → V → Prop} {xs : List α} {vs : List V} {i : Int} {x : α} (a : All2 P xs vs) (h : atI xs i = some x) : ∃ v, atI vs i = some v ∧ P x v := by
  unfold atI at h ⊢
  rw [← a.length]
  cases e : ixN xs.length i with
  | none => rw [e] at h; cases h
  | some j =>
    rw [e] at h
    obtain ⟨v, h1, h2⟩ := a.get h
    exact ⟨v, h1, h2⟩
theorem e_ixT (ha : Ev ta W G T cs fun sa cs1 => ∀ va, Ev tb W G ((va, sa) :: T) cs1 fun sb cs2 => ∃ (α : Type) (r : R α) (xs : List α) (i : Int) (x : α), sa = (rTup r).at xs ∧ sb = rInt.at i ∧ atI xs i = some x ∧ K (r.at x) cs2) :
    Ev (tOp (rIxT KF) ta tb) W G T cs K := fun s H st Q q => by
  refine ha s H st _ fun sa cs1 h1 va H1 st1 => ?_
  refine h1 va s H1 st1 _ fun sb cs2 ⟨α, r, xs, i, x, e1, e2, hx, k⟩ vb H2 ⟨F, c, sg, tm⟩ => ?_
  subst e1 e2
  obtain ⟨hz, a, vs, rfl, hF, hA⟩ := tm.tail.head
  obtain ⟨v, hv, pv⟩ := all2_atI hA hx
  have eb : vb = .int i := tm.head
  exact ⟨a, vs, i, v, rfl, eb, SqT.of (c.fh _ _ hF), hv, q _ _ k _ H2 ⟨F, c, sg, tm.tail.tail.cons pv⟩⟩
theorem e_ixL (ha : Ev ta W G T cs fun sa cs1 => ∀ va, Ev tb W G ((va, sa) :: T) cs1 fun sb cs2 => ∃ (α : Type) (r : R α) (xs : List α) (i : Int) (x : α), sa = (rLst r).at xs ∧ sb = rInt.at i ∧ atI xs i = some x ∧ K (r.at x) cs2) :
    Ev (tOp (rIxL KF) ta tb) W G T cs K := fun s H st Q q => by
  refine ha s H st _ fun sa cs1 h1 va H1 st1 => ?_
  refine h1 va s H1 st1 _ fun sb cs2 ⟨α, r, xs, i, x, e1, e2, hx, k⟩ vb H2 ⟨F, c, sg, tm⟩ => ?_
  subst e1 e2
  obtain ⟨hz, a, vs, rfl, hF, hA⟩ := tm.tail.head
  obtain ⟨v, hv, pv⟩ := all2_atI hA hx
  have eb : vb = .int i := tm.head
  exact ⟨a, vs, i, v, rfl, eb, SqL.of (c.fh _ _ hF), hv, q _ _ k _ H2 ⟨F, c, sg, tm.tail.tail.cons pv⟩⟩
theorem Core.lst {F : Hp} {H : Hp} (c : Core W F cs H) {j : Nat} {p : Addr} {r : R α} {xs : List α} (hj : cs[j]? = some (p, cLst r xs)) : xs.length ≤ sizeLine ∧ ∃ vs, H p = some (.lst vs) ∧ All2 (fun x u => r.p x F u) xs vs := by
  obtain ⟨h1, h2, o, h3, hz, vs, e, h4⟩ := c.cell _ (List.mem_of_getElem? hj)
  subst e
  exact ⟨hz, vs, h3, h4⟩
theorem e_ixC (j : Nat) (ha : Ev ta W G T cs fun sa cs1 => ∀ va, Ev tb W G ((va, sa) :: T) cs1 fun sb cs2 => ∃ (α : Type) (p : Addr) (r : R α) (xs : List α) (i : Int) (x : α), sa = sRef p ∧ cs2[j]? = some (p, cLst r xs) ∧ sb = rInt.at i ∧ atI xs i = some x ∧ K (r.at x) cs2) :
    Ev (tOp (rIxL KF) ta tb) W G T cs K := fun s H st Q q => by
  refine ha s H st _ fun sa cs1 h1 va H1 st1 => ?_
  refine h1 va s H1 st1 _ fun sb cs2 ⟨α, p, r, xs, i, x, e1, hj, e2, hx, k⟩ vb H2 ⟨F, c, sg, tm⟩ => ?_
  subst e1 e2
  obtain ⟨hz, vs, hH, hA⟩ := c.lst hj
  obtain ⟨v, hv, pv⟩ := all2_atI hA hx
  have eb : vb = .int i := tm.head
  have ea : va = .ref p := tm.tail.head
  exact ⟨p, vs, i, v, ea, eb, SqL.of hH, hv, q _ _ k _ H2 ⟨F, c, sg, tm.tail.tail.cons pv⟩⟩
/-- xs[i] = v -/
def oSet (xs : List α) (i : Int) (x : α) : Option (List α) := match ixN xs.length i with
  | none => none
  | some j => some (xs.set j x)
theorem s_setitem (j : Nat) (hv : Ev te W G T cs fun sv cs1 => ∀ vv, Ev to W G ((vv, sv) :: T) cs1 fun so cs2 => ∀ vo, Ev ti W G ((vo, so) :: (vv, sv) :: T) cs2 fun si cs3 =>
      ∃ (α : Type) (p : Addr) (r : R α) (xs ys : List α) (i : Int) (x : α), sv = r.at x ∧ so = sRef p ∧ si = rInt.at i ∧ cs3[j]? = some (p, cLst r xs) ∧ oSet xs i x = some ys ∧ NxT nx W G T (cs3.set j (p, cLst r ys))) :
    NxT (tAsg te (gSub to ti rSetL) ⟨nx, rt, bk, ct⟩) W G T cs := fun s H st => by
  refine hv s H st _ fun sv cs1 h1 vv H1 st1 => ?_
  refine h1 vv s H1 st1 _ fun so cs2 h2 vo H2 st2 => ?_
  refine h2 vo s H2 st2 _ fun si cs3 ⟨α, p, r, xs, ys, i, x, e1, e2, e3, hj, hy, k⟩ vi H3 ⟨F, c, sg, tm⟩ => ?_
  subst e1 e2 e3
  obtain ⟨hz, vs, hH, hA⟩ := c.lst hj
  have ei : vi = .int i := tm.head
  have eo : vo = .ref p := tm.tail.head
  have pv := tm.tail.tail.head
  unfold oSet at hy
  cases en : ixN xs.length i with
  | none => rw [en] at hy; cases hy
  | some n =>
    rw [en] at hy
    cases hy
    refine ⟨p, vs, i, n, eo, ei, hH, by rw [← hA.length]; exact en, ?_⟩
    exact k s _ ⟨F, c.write hj ⟨by rw [List.length_set]; exact hz, _, rfl, All2.set (P := fun x u => r.p x F u) pv n hA⟩, sg, tm.tail.tail.tail⟩

/-! ## len, tuple(..), list(..) -/
theorem e_lenT (h : EvA t W G T cs fun sls cs1 => ∃ (α : Type) (r : R α) (xs : List α), sls = [(rTup r).at xs] ∧ K (rInt.at (xs.length : Int)) cs1) : Ev (tCB (fun xs H Q => ∃ p ys, xs = [.ref p] ∧ (SqL KF H p ys ∨ SqT KF H p ys) ∧ Q (.int ys.length) H) t) W G T cs K := fun s H st Q q => by
  refine h s H st _ fun sls cs1 ⟨α, r, xs, e, k⟩ vs H1 ⟨F, c, sg, tm, ar⟩ => ?_
  subst e
  obtain ⟨v, rfl, hz, a, us, rfl, hF, hA⟩ := args1 ar
  exact ⟨a, us, rfl, .inr (SqT.of (c.fh _ _ hF)), q _ _ k _ H1 ⟨F, c, sg, tm.cons (by rw [hA.length]; rfl)⟩⟩
theorem e_lenL (h : EvA t W G T cs fun sls cs1 => ∃ (α : Type) (r : R α) (xs : List α), sls = [(rLst r).at xs] ∧ K (rInt.at (xs.length : Int)) cs1) : Ev (tCB (fun xs H Q => ∃ p ys, xs = [.ref p] ∧ (SqL KF H p ys ∨ SqT KF H p ys) ∧ Q (.int ys.length) H) t) W G T cs K := fun s H st Q q => by
  refine h s H st _ fun sls cs1 ⟨α, r, xs, e, k⟩ vs H1 ⟨F, c, sg, tm, ar⟩ => ?_
  subst e
  obtain ⟨v, rfl, hz, a, us, rfl, hF, hA⟩ := args1 ar
  exact ⟨a, us, rfl, .inl (SqL.of (c.fh _ _ hF)), q _ _ k _ H1 ⟨F, c, sg, tm.cons (by rw [hA.length]; rfl)⟩⟩
theorem e_lenC (j : Nat) (h : EvA t W G T cs fun sls cs1 => ∃ (α : Type) (p : Addr) (r : R α) (xs : List α), sls = [sRef p] ∧ cs1[j]? = some (p, cLst r xs) ∧ K (rInt.at (xs.length : Int)) cs1) : Ev (tCB (fun xs H Q => ∃ p ys, xs = [.ref p] ∧ (SqL KF H p ys ∨ SqT KF H p ys) ∧ Q (.int ys.length) H) t) W G T cs K := fun s H st Q q => by
  refine h s H st _ fun sls cs1 ⟨α, p, r, xs, e, hj, k⟩ vs H1 ⟨F, c, sg, tm, ar⟩ => ?_
  subst e
  obtain ⟨v, rfl, ev⟩ := args1 ar
  obtain ⟨hz, us, hH, hA⟩ := c.lst hj
  have ev' : v = .ref p := ev
  subst ev'
  exact ⟨p, us, rfl, .inl (SqL.of hH), q _ _ k _ H1 ⟨F, c, sg, tm.cons (by rw [hA.length]; rfl)⟩⟩
def rTupleOf (KF : PySem.W.Frag) : List V → Hp → VK → Prop := fun xs H Q => ∃ p ys, xs = [.ref p] ∧ ((SqL KF H p ys ∧ ∀ l, H l = none → Q (.ref l) (upd H l (.tup ys))) ∨ (SqT KF H p ys ∧ Q (.ref p) H))
theorem e_tupL (h : EvA t W G T cs fun sls cs1 => ∃ (α : Type) (r : R α) (xs : List α), sls = [(rLst r).at xs] ∧ K ((rTup r).at xs) cs1) : Ev (tCB (fun xs H Q => ∃ p ys, xs = [.ref p] ∧ ((SqL KF H p ys ∧ ∀ l, H l = none → Q (.ref l) (upd H l (.tup ys))) ∨ (SqT KF H p ys ∧ Q (.ref p) H))) t) W G T cs K := fun s H st Q q => by
  refine h s H st _ fun sls cs1 ⟨α, r, xs, e, k⟩ vs H1 ⟨F, c, sg, tm, ar⟩ => ?_
  subst e
  obtain ⟨v, rfl, hz, a, us, rfl, hF, hA⟩ := args1 ar
  refine ⟨a, us, rfl, .inl ⟨SqL.of (c.fh _ _ hF), fun p hp => ?_⟩⟩
  have sF : Same F (upd F p (.tup us)) := same_upd (c.fh.free hp)
  exact q _ _ k _ _ ⟨_, c.new hp, sg.mono sF, (tm.mono sF).cons ⟨hz, p, us, rfl, upd_same, hA.imp fun _ _ z => r.mono sF z⟩⟩
theorem e_tupC (j : Nat) (h : EvA t W G T cs fun sls cs1 => ∃ (α : Type) (p : Addr) (r : R α) (xs : List α), sls = [sRef p] ∧ cs1[j]? = some (p, cLst r xs) ∧ K ((rTup r).at xs) cs1) : Ev (tCB (fun xs H Q => ∃ p ys, xs = [.ref p] ∧ ((SqL KF H p ys ∧ ∀ l, H l = none → Q (.ref l) (upd H l (.tup ys))) ∨ (SqT KF H p ys ∧ Q (.ref p) H))) t) W G T cs K := fun s H st Q q => by
  refine h s H st _ fun sls cs1 ⟨α, p, r, xs, e, hj, k⟩ vs H1 ⟨F, c, sg, tm, ar⟩ => ?_
  subst e
  obtain ⟨v, rfl, ev⟩ := args1 ar
  obtain ⟨hz, us, hH, hA⟩ := c.lst hj
  have ev' : v = .ref p := ev
  subst ev'
  refine ⟨p, us, rfl, .inl ⟨SqL.of hH, fun l hl => ?_⟩⟩
  have sF : Same F (upd F l (.tup us)) := same_upd (c.fh.free hl)
  exact q _ _ k _ _ ⟨_, c.new hl, sg.mono sF, (tm.mono sF).cons ⟨hz, l, us, rfl, upd_same, hA.imp fun _ _ z => r.mono sF z⟩⟩
theorem e_tupT (h : EvA t W G T cs fun sls cs1 => ∃ (α : Type) (r : R α) (xs : List α), sls = [(rTup r).at xs] ∧ K ((rTup r).at xs) cs1) : Ev (tCB (fun xs H Q => ∃ p ys, xs = [.ref p] ∧ ((SqL KF H p ys ∧ ∀ l, H l = none → Q (.ref l) (upd H l (.tup ys))) ∨ (SqT KF H p ys ∧ Q (.ref p) H))) t) W G T cs K := fun s H st Q q => by
  refine h s H st _ fun sls cs1 ⟨α, r, xs, e, k⟩ vs H1 ⟨F, c, sg, tm, ar⟩ => ?_
  subst e
  obtain ⟨v, rfl, hz, a, us, rfl, hF, hA⟩ := args1 ar
  exact ⟨a, us, rfl, .inr ⟨SqT.of (c.fh _ _ hF), q _ _ k _ _ ⟨F, c, sg, tm.cons ⟨hz, a, us, rfl, hF, hA⟩⟩⟩⟩

/-! ## methods of lists -/
def oApp (xs : List α) (x : α) : Option (List α) := if xs.length < sizeLine then some (xs ++ [x]) else none
theorem e_append (j : Nat) (ho : Ev to W G T cs fun so cs1 => ∃ (α : Type) (p : Addr) (r : R α) (xs0 : List α), so = sRef p ∧ cs1[j]? = some (p, cLst r xs0) ∧ ∀ vo, EvA t W G ((vo, so) :: T) cs1 fun sls cs2 => ∃ (xs ys : List α) (x : α), sls = [r.at x] ∧ cs2[j]? = some (p, cLst r xs) ∧ oApp xs x = some ys ∧ K (rNon.at ()) (cs2.set j (p, cLst r ys))) :
    Ev (tBM KF "list" rAppend to t) W G T cs K := fun s H st Q q => by
  refine ho s H st _ fun so cs1 ⟨α, p, r, xs0, e, hj1, h1⟩ vo H1 st1 => ?_
  subst e
  obtain ⟨F1, c1, sg1, tm1⟩ := id st1
  have eo : vo = .ref p := tm1.head
  subst eo
  obtain ⟨_, us0, hH0, _⟩ := c1.lst hj1
  refine ⟨.inl ⟨rfl, _, SqL.of hH0⟩, h1 _ s H1 st1 _ fun sls cs2 ⟨xs, ys, x, e2, hj2, hy, k⟩ vs H2 ⟨F, c, sg, tm, ar⟩ => ?_⟩
  subst e2
  obtain ⟨v, rfl, pv⟩ := args1 ar
  obtain ⟨hz, us, hH, hA⟩ := c.lst hj2
  obtain ⟨hlt, e⟩ := of_ite hy
  subst e
  refine ⟨p, us, v, rfl, rfl, hH, by rw [← hA.length]; exact hlt, q _ _ k _ _ ⟨F, c.write hj2 ⟨by rw [List.length_append, List.length_singleton]; exact hlt, _, rfl, hA.app (.cons pv .nil)⟩, sg, tm.tail.cons rfl⟩⟩
def oExt (xs zs : List α) : Option (List α) := if xs.length + zs.length ≤ sizeLine then some (xs ++ zs) else none
theorem e_extend (j : Nat) (ho : Ev to W G T cs fun so cs1 => ∃ (α : Type) (p : Addr) (r : R α) (xs0 : List α), so = sRef p ∧ cs1[j]? = some (p, cLst r xs0) ∧ ∀ vo, EvA t W G ((vo, so) :: T) cs1 fun sls cs2 => ∃ (xs ys zs : List α), sls = [(rLst r).at zs] ∧ cs2[j]? = some (p, cLst r xs) ∧ oExt xs zs = some ys ∧ K (rNon.at ()) (cs2.set j (p, cLst r ys))) :
    Ev (tBM KF "list" rExtend to t) W G T cs K := fun s H st Q q => by
  refine ho s H st _ fun so cs1 ⟨α, p, r, xs0, e, hj1, h1⟩ vo H1 st1 => ?_
  subst e
  obtain ⟨F1, c1, sg1, tm1⟩ := id st1
  have eo : vo = .ref p := tm1.head
  subst eo
  obtain ⟨_, us0, hH0, _⟩ := c1.lst hj1
  refine ⟨.inl ⟨rfl, _, SqL.of hH0⟩, h1 _ s H1 st1 _ fun sls cs2 ⟨xs, ys, zs, e2, hj2, hy, k⟩ vs H2 ⟨F, c, sg, tm, ar⟩ => ?_⟩
  subst e2
  obtain ⟨v, rfl, hz2, b, ws, rfl, hF, hB⟩ := args1 ar
  obtain ⟨hz, us, hH, hA⟩ := c.lst hj2
  obtain ⟨hlt, e⟩ := of_ite hy
  subst e
  refine ⟨p, b, us, ws, rfl, rfl, hH, c.fh _ _ hF, by rw [← hA.length, ← hB.length]; exact hlt, q _ _ k _ _ ⟨F, c.write hj2 ⟨by rw [List.length_append]; exact hlt, _, rfl, hA.app hB⟩, sg, tm.tail.cons rfl⟩⟩
/-- xs.pop(i), 0 <= i -/
def oPopAt (xs : List α) (i : Int) : Option (α × List α) := if 0 ≤ i ∧ i < xs.length then (match xs[i.toNat]? with | some x => some (x, xs.eraseIdx i.toNat) | none => none) else none
theorem e_popAt (j : Nat) (ho : Ev to W G T cs fun so cs1 => ∃ (α : Type) (p : Addr) (r : R α) (xs0 : List α), so = sRef p ∧ cs1[j]? = some (p, cLst r xs0) ∧ ∀ vo, EvA t W G ((vo, so) :: T) cs1 fun sls cs2 => ∃ (xs : List α) (i : Int) (x : α) (ys : List α), sls = [rInt.at i] ∧ cs2[j]? = some (p, cLst r xs) ∧ oPopAt xs i = some (x, ys) ∧ K (r.at x) (cs2.set j (p, cLst r ys))) :
    Ev (tBM KF "list" rPopAt to t) W G T cs K := fun s H st Q q => by
  refine ho s H st _ fun so cs1 ⟨α, p, r, xs0, e, hj1, h1⟩ vo H1 st1 => ?_
  subst e
  obtain ⟨F1, c1, sg1, tm1⟩ := id st1
  have eo : vo = .ref p := tm1.head
  subst eo
  obtain ⟨_, us0, hH0, _⟩ := c1.lst hj1
  refine ⟨.inl ⟨rfl, _, SqL.of hH0⟩, h1 _ s H1 st1 _ fun sls cs2 ⟨xs, i, x, ys, e2, hj2, hy, k⟩ vs H2 ⟨F, c, sg, tm, ar⟩ => ?_⟩
  subst e2
  obtain ⟨v, rfl, pv⟩ := args1 ar
  obtain ⟨hz, us, hH, hA⟩ := c.lst hj2
  unfold oPopAt at hy
  split at hy
  · rename_i hc
    split at hy
    · rename_i x' hx
      cases hy
      obtain ⟨u, hu, pu⟩ := hA.get hx
      have ev : v = .int i := pv
      subst ev
      have hs := sizeLine_eq
      have hl := hA.length
      refine ⟨p, us, i, i.toNat, u, rfl, rfl, hH, by omega, by omega, ?_, hu, q _ _ k _ _ ⟨F, c.write hj2 ⟨?_, _, rfl, All2.erase (P := fun x u => r.p x F u) _ hA⟩, sg, tm.tail.cons pu⟩⟩
      · exact PySem.StrLaws.seqIndex_nonneg hc.1 (by omega)
      · have := len_erase xs i.toNat
        omega
    · cases hy
  · cases hy

/-! ## builtins -/
theorem e_abs (h : EvA t W G T cs fun sls cs1 => ∃ i, sls = [rInt.at i] ∧ K (rInt.at (i.natAbs : Int)) cs1) : Ev (tCB (fun xs H Q => ∃ i, xs = [.int i] ∧ Q (.int (if i < 0 then -i else i)) H) t) W G T cs K := fun s H st Q q => by
  refine h s H st _ fun sls cs1 ⟨i, e, k⟩ vs H1 ⟨F, c, sg, tm, ar⟩ => ?_
  subst e
  obtain ⟨v, rfl, ev⟩ := args1 ar
  have ev' : v = .int i := ev
  subst ev'
  refine ⟨i, rfl, q _ _ k _ H1 ⟨F, c, sg, tm.cons ?_⟩⟩
  show V.int _ = V.int _
  congr 1
  split <;> omega
theorem e_max2 (h : EvA t W G T cs fun sls cs1 => ∃ i j : Int, sls = [rInt.at i, rInt.at j] ∧ K (rInt.at (max i j)) cs1) : Ev (tCB (fun xs H Q => ∃ i j, xs = [.int i, .int j] ∧ Q (.int (if j > i then j else i)) H) t) W G T cs K := fun s H st Q q => by
  refine h s H st _ fun sls cs1 ⟨i, j, e, k⟩ vs H1 ⟨F, c, sg, tm, ar⟩ => ?_
  subst e
  have e := args2 ar
  subst e
  refine ⟨i, j, rfl, q _ _ k _ H1 ⟨F, c, sg, tm.cons ?_⟩⟩
  show V.int _ = V.int _
  congr 1
  split <;> omega
theorem e_min2 (h : EvA t W G T cs fun sls cs1 => ∃ i j : Int, sls = [rInt.at i, rInt.at j] ∧ K (rInt.at (min i j)) cs1) : Ev (tCB (fun xs H Q => ∃ i j, xs = [.int i, .int j] ∧ Q (.int (if j < i then j else i)) H) t) W G T cs K := fun s H st Q q => by
  refine h s H st _ fun sls cs1 ⟨i, j, e, k⟩ vs H1 ⟨F, c, sg, tm, ar⟩ => ?_
  subst e
  have e := args2 ar
  subst e
  refine ⟨i, j, rfl, q _ _ k _ H1 ⟨F, c, sg, tm.cons ?_⟩⟩
  show V.int _ = V.int _
  congr 1
  split <;> omega
theorem e_intB (h : EvA t W G T cs fun sls cs1 => ∃ b : Bool, sls = [rBool.at b] ∧ K (rInt.at (if b then 1 else 0)) cs1) : Ev (tCB (fun xs H Q => (∃ i, xs = [.int i] ∧ Q (.int i) H) ∨ ∃ k, xs = [.bl k] ∧ Q (.int (if k then 1 else 0)) H) t) W G T cs K := fun s H st Q q => by
  refine h s H st _ fun sls cs1 ⟨b, e, k⟩ vs H1 ⟨F, c, sg, tm, ar⟩ => ?_
  subst e
  obtain ⟨v, rfl, ev⟩ := args1 ar
  have ev' : v = .bl b := ev
  subst ev'
  exact .inr ⟨b, rfl, q _ _ k _ H1 ⟨F, c, sg, tm.cons rfl⟩⟩
theorem all2_bl {F : Hp} : ∀ {bs : List Bool} {us : List V}, All2 (fun x u => rBool.p x F u) bs us → us = bs.map V.bl
  | _, _, .nil => rfl
  | _, _, .cons p q => by rw [List.map_cons, ← all2_bl q, show _ = V.bl _ from p]
theorem all2_int {F : Hp} : ∀ {bs : List Int} {us : List V}, All2 (fun x u => rInt.p x F u) bs us → us = bs.map V.int
  | _, _, .nil => rfl
  | _, _, .cons p q => by rw [List.map_cons, ← all2_int q, show _ = V.int _ from p]
theorem e_all (h : EvA t W G T cs fun sls cs1 => ∃ bs, sls = [(rLst rBool).at bs] ∧ K (rBool.at (bs.all id)) cs1) : Ev (tCB (rAll KF) t) W G T cs K := fun s H st Q q => by
  refine h s H st _ fun sls cs1 ⟨bs, e, k⟩ vs H1 ⟨F, c, sg, tm, ar⟩ => ?_
  subst e
  obtain ⟨v, rfl, hz, a, us, rfl, hF, hA⟩ := args1 ar
  exact ⟨a, bs, rfl, SqL.of (by rw [← all2_bl hA]; exact c.fh _ _ hF), q _ _ k _ H1 ⟨F, c, sg, tm.cons rfl⟩⟩
theorem e_any (h : EvA t W G T cs fun sls cs1 => ∃ bs, sls = [(rLst rBool).at bs] ∧ K (rBool.at (bs.any id)) cs1) : Ev (tCB (rAny KF) t) W G T cs K := fun s H st Q q => by
  refine h s H st _ fun sls cs1 ⟨bs, e, k⟩ vs H1 ⟨F, c, sg, tm, ar⟩ => ?_
  subst e
  obtain ⟨v, rfl, hz, a, us, rfl, hF, hA⟩ := args1 ar
  exact ⟨a, bs, rfl, SqL.of (by rw [← all2_bl hA]; exact c.fh _ _ hF), q _ _ k _ H1 ⟨F, c, sg, tm.cons rfl⟩⟩

/-! ## == of data -/
structure REq {α : Type} [DecidableEq α] (r : R α) where
  d : α → PyData
  ok : ∀ {K : PySem.W.Frag} {F H : Hp} {a : α} {v : V}, r.p a F v → Same F H → Dp K H v (d a)
  lay : ∀ a, (d a).canLay0 = true
  n : Nat
  dep : ∀ a, (d a).depth ≤ n
  eqv : ∀ a b, PyData.eqv (d a) (d b) = decide (a = b)
def eInt : REq rInt where
  d := .int
  ok := fun {K F H a v} h _ => by have e : v = .int a := h; subst e; exact Dp.int a
  lay := fun _ => rfl
  n := 1
  dep := fun a => by simp [PyData.depth]
  eqv := fun a b => by simp [PyData.eqv, Bool.beq_eq_decide_eq]
def eBool : REq rBool where
  d := .bool
  ok := fun {K F H a v} h _ => by have e : v = .bl a := h; subst e; exact Dp.bl a
  lay := fun _ => rfl
  n := 1
  dep := fun a => by simp [PyData.depth]
  eqv := fun a b => by simp [PyData.eqv, Bool.beq_eq_decide_eq]
theorem dpAll {r : R α} [DecidableEq α] (e : REq r) {K : PySem.W.Frag} {F H : Hp} (s : Same F H) : ∀ {xs : List α} {us : List V}, All2 (fun x u => r.p x F u) xs us → DpAll K H us (xs.map e.d)
  | _, _, .nil => .nil
  | _, _, .cons p q => .cons (e.ok p s) (dpAll e s q)
theorem layAll {r : R α} [DecidableEq α] (e : REq r) : ∀ xs : List α, PyData.canLayAll0 (xs.map e.d) = true
  | [] => rfl
  | x :: xs => by rw [List.map_cons, PyData.canLayAll0, e.lay x, layAll e xs]; rfl
theorem depAll {r : R α} [DecidableEq α] (e : REq r) : ∀ xs : List α, PyData.depthAll (xs.map e.d) ≤ e.n
  | [] => by simp [PyData.depthAll]
  | x :: xs => by
    rw [List.map_cons, PyData.depthAll]
    have h1 := e.dep x
    have h2 := depAll e xs
    omega
theorem eqvAll {r : R α} [DecidableEq α] (e : REq r) : ∀ xs ys : List α, PyData.eqvAll (xs.map e.d) (ys.map e.d) = decide (xs = ys)
  | [], [] => by simp [PyData.eqvAll]
  | [], _ :: _ => by simp [PyData.eqvAll]
  | _ :: _, [] => by simp [PyData.eqvAll]
  | x :: xs, y :: ys => by
    rw [List.map_cons, List.map_cons, PyData.eqvAll, e.eqv, eqvAll e xs ys]
    by_cases h1 : x = y <;> by_cases h2 : xs = ys <;> simp [h1, h2]
def eTup {r : R α} [DecidableEq α] (e : REq r) : REq (rTup r) where
  d := fun xs => .tuple (xs.map e.d)
  ok := fun {K F H a v} h s => by
    obtain ⟨_, p, vs, rfl, h2, h3⟩ := h
    exact Dp.tup (SqT.of (s _ _ h2)) (dpAll e s h3)
  lay := fun xs => by rw [PyData.canLay0]; exact layAll e xs
  n := e.n + 1
  dep := fun xs => by
    rw [PyData.depth]
    have := depAll e xs
    omega
  eqv := fun a b => by rw [PyData.eqv]; exact eqvAll e a b
def eLst {r : R α} [DecidableEq α] (e : REq r) : REq (rLst r) where
  d := fun xs => .list (xs.map e.d)
  ok := fun {K F H a v} h s => by
    obtain ⟨_, p, vs, rfl, h2, h3⟩ := h
    exact Dp.lst (SqL.of (s _ _ h2)) (dpAll e s h3)
  lay := fun xs => by rw [PyData.canLay0]; exact layAll e xs
  n := e.n + 1
  dep := fun xs => by
    rw [PyData.depth]
    have := depAll e xs
    omega
  eqv := fun a b => by rw [PyData.eqv]; exact eqvAll e a b
def ePair {r : R α} {r' : R β} [DecidableEq α] [DecidableEq β] (e : REq r) (e' : REq r') : REq (rPair r r') where
  d := fun x => .tuple [e.d x.1, e'.d x.2]
  ok := fun {K F H a v} h s => by
    obtain ⟨p, u, w, rfl, h2, h3, h4⟩ := h
    exact Dp.tup (SqT.of (s _ _ h2)) (.cons (e.ok h3 s) (.cons (e'.ok h4 s) .nil))
  lay := fun x => by simp [PyData.canLay0, PyData.canLayAll0, e.lay, e'.lay]
  n := max e.n e'.n + 1
  dep := fun x => by
    have h1 := e.dep x.1
    have h2 := e'.dep x.2
    simp only [PyData.depth, PyData.depthAll]
    omega
  eqv := fun a b => by
    obtain ⟨a1, a2⟩ := a
    obtain ⟨b1, b2⟩ := b
    simp only [PyData.eqv, PyData.eqvAll, e.eqv, e'.eqv, Bool.and_true]
    by_cases h1 : a1 = b1 <;> by_cases h2 : a2 = b2 <;> simp [h1, h2]
theorem REq.shaped {r : R α} [DecidableEq α] (e : REq r) (hn : e.n ≤ 64) (a : α) : SeqAt.shaped (e.d a) = true := by
  unfold SeqAt.shaped
  rw [e.lay a, decide_eq_true (Nat.le_trans (e.dep a) hn)]
  rfl
theorem e_eqD (ha : Ev ta W G T cs fun sa cs1 => ∀ va, Ev tb W G ((va, sa) :: T) cs1 fun sb cs2 => ∃ (α : Type) (_ : DecidableEq α) (r : R α) (e : REq r) (x y : α), e.n ≤ 64 ∧ sa = r.at x ∧ sb = r.at y ∧ K (rBool.at (decide (x = y))) cs2) :
    Ev (tOp (rEqD KF) ta tb) W G T cs K := fun s H st Q q => by
  refine ha s H st _ fun sa cs1 h1 va H1 st1 => ?_
  refine h1 va s H1 st1 _ fun sb cs2 ⟨α, _, r, e, x, y, hn, e1, e2, k⟩ vb H2 ⟨F, c, sg, tm⟩ => ?_
  subst e1 e2
  have pb : r.p y F vb := tm.head
  have pa : r.p x F va := tm.tail.head
  refine ⟨_, _, e.ok pa c.fh, e.ok pb c.fh, e.shaped hn x, e.shaped hn y, ?_⟩
  rw [e.eqv]
  exact q _ _ k _ H2 ⟨F, c, sg, tm.tail.tail.cons rfl⟩
theorem e_neD (ha : Ev ta W G T cs fun sa cs1 => ∀ va, Ev tb W G ((va, sa) :: T) cs1 fun sb cs2 => ∃ (α : Type) (_ : DecidableEq α) (r : R α) (e : REq r) (x y : α), e.n ≤ 64 ∧ sa = r.at x ∧ sb = r.at y ∧ K (rBool.at (!decide (x = y))) cs2) :
    Ev (tOp (rNeD KF) ta tb) W G T cs K := fun s H st Q q => by
  refine ha s H st _ fun sa cs1 h1 va H1 st1 => ?_
  refine h1 va s H1 st1 _ fun sb cs2 ⟨α, _, r, e, x, y, hn, e1, e2, k⟩ vb H2 ⟨F, c, sg, tm⟩ => ?_
  subst e1 e2
  have pb : r.p y F vb := tm.head
  have pa : r.p x F va := tm.tail.head
  refine ⟨_, _, e.ok pa c.fh, e.ok pb c.fh, e.shaped hn x, e.shaped hn y, ?_⟩
  rw [e.eqv]
  exact q _ _ k _ H2 ⟨F, c, sg, tm.tail.tail.cons rfl⟩

/-! ## calls -/
def spM {ι β : Type} (A : ι → List Sl) (ci : ι → Cells) (m : ι → Option β) (res : ι → β → Sl) (co : ι → β → Cells) : Sp := fun vs H Q _ =>
  ∃ (i : ι) (b : β) (W : Wd), m i = some b ∧ Core W W.F (ci i) H ∧ Args W.F (A i) vs ∧ Rt Q W (res i b) (co i b)
theorem spM_len {ι β : Type} {A : ι → List Sl} {ci : ι → Cells} {m : ι → Option β} {res : ι → β → Sl} {co : ι → β → Cells} {n : Nat} {vs : List V} {H : Hp} {Q : VK} {E : XK} (h : spM A ci m res co vs H Q E) (hA : ∀ i, (A i).length = n) : vs.length = n := by
  obtain ⟨i, b, W, _, _, ar, _⟩ := h
  rw [← hA i]
  exact ar.length.symm
open Classical in
/-- the callers' world ahead of a call that uses the cells us -/
noncomputable def Wd.sub (F H : Hp) (us : Cells) : Wd := ⟨F, fun a => if F a = none ∧ ∀ x ∈ us, x.1 ≠ a then H a else none⟩
theorem Core.sub {F H : Hp} {us rest : Cells} (c : Core W F (us ++ rest) H) : Core (Wd.sub F H us) F us H := by
  refine ⟨Same.refl F, c.fh, fun a o e => ?_, fun a o e => ?_, (c.drop (List.sublist_append_left _ _)).nd, fun x hx => ?_⟩
  · unfold Wd.sub at e; dsimp only at e
    split at e
    · exact e
    · cases e
  · unfold Wd.sub at e; dsimp only at e
    split at e
    · rename_i h; exact h.1
    · cases e
  · obtain ⟨h1, h2, o, h3, h4⟩ := c.cell x (List.mem_append_left _ hx)
    refine ⟨h1, ?_, o, h3, h4⟩
    unfold Wd.sub; dsimp only
    rw [if_neg]
    exact fun z => z.2 x hx rfl
theorem Core.unsub {F F2 H H2 : Hp} {us rest co : Cells} (c : Core W F (us ++ rest) H) (c2 : Core (Wd.sub F H us) F2 co H2) : Core W F2 (co ++ rest) H2 := by
  have bB : ∀ a o, H a = some o → F a = none → (∀ x ∈ us, x.1 ≠ a) → (Wd.sub F H us).B a = some o := fun a o e hf hu => by
    unfold Wd.sub; dsimp only
    rw [if_pos ⟨hf, hu⟩]; exact e
  have bw : ∀ a o, W.B a = some o → (Wd.sub F H us).B a = some o := fun a o e => bB a o (c.bh a o e) (c.bf a o e) fun x hx z => by
    have := (c.cell x (List.mem_append_left _ hx)).2.1
    rw [z, e] at this; cases this
  have br : ∀ x ∈ rest, ∃ o, H x.1 = some o ∧ x.2.p F o ∧ (Wd.sub F H us).B x.1 = some o := fun x hx => by
    obtain ⟨h1, h2, o, h3, h4⟩ := c.cell x (List.mem_append_right _ hx)
    refine ⟨o, h3, h4, bB _ _ h3 h1 fun y hy e => ?_⟩
    have nd := c.nd
    rw [List.map_append, List.nodup_append] at nd
    exact nd.2.2 y.1 (List.mem_map_of_mem hy) x.1 (List.mem_map_of_mem hx) e
  refine ⟨c.f0.trans c2.f0, c2.fh, fun a o e => c2.bh a o (bw a o e), fun a o e => c2.bf a o (bw a o e), ?_, fun x hx => ?_⟩
  · rw [List.map_append, List.nodup_append]
    refine ⟨c2.nd, (c.drop (List.sublist_append_right _ _)).nd, fun a ha b hb e => ?_⟩
    obtain ⟨x, hx, ex⟩ := List.mem_map.mp ha
    obtain ⟨y, hy, ey⟩ := List.mem_map.mp hb
    obtain ⟨o, _, _, h⟩ := br y hy
    have h0 := (c2.cell x hx).2.1
    rw [ex, e, ← ey, h] at h0
    cases h0
  · rcases List.mem_append.mp hx with hx | hx
    · obtain ⟨a1, a2, a3⟩ := c2.cell x hx
      refine ⟨a1, ?_, a3⟩
      cases e : W.B x.1 with
      | none => rfl
      | some o => rw [bw _ _ e] at a2; cases a2
    · obtain ⟨o, h3, h4, hb⟩ := br x hx
      exact ⟨c2.bf _ _ hb, (c.cell x (List.mem_append_right _ hx)).2.1, o, c2.bh _ _ hb, x.2.mono c2.f0 h4⟩
theorem e_call {ι β : Type} {A : ι → List Sl} {ci : ι → Cells} {m : ι → Option β} {res : ι → β → Sl} {co : ι → β → Cells} {E : XK}
    (h : EvA t W G T cs fun sls cs1 => ∃ (i : ι) (b : β) (rest : Cells), m i = some b ∧ sls = A i ∧ cs1 = ci i ++ rest ∧ K (res i b) (co i b ++ rest)) : Ev (tCall (spM A ci m res co) [] E t) W G T cs K := fun s H st Q q => by
  refine h s H st _ fun sls cs1 ⟨i, b, rest, hm, e1, e2, k⟩ vs H1 ⟨F, c, sg, tm, ar⟩ => ?_
  subst e1 e2
  rw [List.append_nil]
  refine ⟨i, b, Wd.sub F H1 (ci i), hm, c.sub, ar, fun v H2 ⟨F2, c2, pv⟩ => ?_⟩
  have sF : Same F F2 := c2.f0
  exact q _ _ k v H2 ⟨F2, c.unsub c2, sg.mono sF, (tm.mono sF).cons pv⟩
/-- a def's body from its promise -/
theorem Sta.enter {N : List Str} {sls : List Sl} {vs : List V} {F H : Hp} (c : Core W W.F cs H) (ar : Args W.F sls vs) (hn : sls.length ≤ N.length) : Sta W (sls.map some ++ List.replicate (N.length - sls.length) none) [] cs (L2.start N vs) H := by
  refine ⟨W.F, c, ⟨?_, fun i sl hi => ?_⟩, Temps.nil⟩
  · unfold L2.start
    have := ar.length
    simp only [List.length_append, List.length_map, List.length_replicate]
    omega
  · have hl := ar.length
    by_cases h : i < sls.length
    · rw [List.getElem?_append_left (by simpa using h), List.getElem?_map, List.getElem?_eq_getElem h] at hi
      simp at hi
      obtain ⟨v, h1, h2⟩ := ar.get (List.getElem?_eq_getElem h)
      refine ⟨v, ?_, by rw [← hi]; exact h2⟩
      unfold L2.start
      rw [List.getElem?_append_left (by simp; omega), List.getElem?_map, h1]
      rfl
    · rw [List.getElem?_append_right (by simp; omega), List.getElem?_replicate] at hi
      split at hi <;> cases hi
theorem body {N : List Str} {sls : List Sl} {vs : List V} {H : Hp} {P : L2.St → Hp → Prop} (c : Core W W.F cs H) (ar : Args W.F sls vs) (hn : sls.length ≤ N.length) (h : NxT P W (sls.map some ++ List.replicate (N.length - sls.length) none) [] cs) : P (L2.start N vs) H := h _ _ (Sta.enter (F := W.F) c ar hn)
end
end ML

namespace ML
open PySem PySem.Spec PyProof.Rows L2

/-! ## tuple * int -/
theorem tuple_mul1 (l : Addr) (items : Array Value) (n : Nat) (dd : Option Addr) (sl : Array (Option Value)) (u : Tok) :
    Meets (Builtin.«tuple.__mul__» ⟨[.ref l, .int 1 u], []⟩) (fun _ R s => s.heap.get? l = some { cls := .type "tuple", dict := dd, data := .seq items n, slots := sl } ∧ R (.ok (.ret (Value.ref l))) s) :=
  .of_wp fun prog w A R s h => by
    obtain ⟨hp, g, d, tk, os⟩ := s
    obtain ⟨hl, h⟩ := h
    have f1 := AutoSeq1.idx_int
    have c0 : (decide ((1 : Int) < -(2 ^ 63)) || decide ((1 : Int) ≥ 2 ^ 63)) = false := by decide
    have c1 : (items.isEmpty || (1 : Int) == 1) = true := by simp
    wp_walk using wpAny_loadPart' hl
    exact ⟨_, rfl, h⟩
def rRep1 (K : PySem.W.Frag) : R2 := fun x y H Q => ∃ l xs, x = .ref l ∧ y = .int 1 ∧ SqT K H l xs ∧ Q (.ref l) H
theorem op_rep1 {X : Cx} : OpR X (binaryOp .Mult) (rRep1 X.K) := by
  intro pins s σ H x y v u Q I rx ry h
  obtain ⟨l, xs, rfl, rfl, hT, q⟩ := h
  cases rx
  obtain ⟨t, rfl⟩ := ry
  obtain ⟨its, r, ⟨⟨cls, dd, data, sl⟩, ho, hc, n, hd⟩, hs⟩ := I.tuple hT
  simp only at hc hd
  subst hc hd
  refine wpAny_binaryOp_repeat_ref (T := "tuple") (U := "int") (by decide) ⟨_, ho, rfl⟩ (fun s' => typeIs_int s' 1 t) noFill_tuple_mul F.fills_int_mul F.slot_int_rmul repeat_tuple F.slot_int_index.lookup
    (call_meets F.slot_int_rmul (typeIs_int s 1 t) F.entry_int_rmul (F.args_int_rmul_2 _ _) (int_rmul_tuple 1 t l its.toArray n dd sl)
      ⟨ho, rfl, ⟨_, ho, rfl⟩, call_meets F.slot_tuple_mul ⟨_, ho, rfl⟩ F.entry_tuple_mul (F.args_tuple_mul_2 _ _) (tuple_mul1 l its.toArray n dd sl t) ⟨ho, ?_⟩⟩)
  exact ⟨.ref l, H, I, rfl, q⟩
def rRepB (K : PySem.W.Frag) : R2 := fun x y H Q => rRep1 K x y H Q ∨ rRepT K x y H Q
theorem op_repB {X : Cx} : OpR X (binaryOp .Mult) (rRepB X.K) := op_rep1.or op_repT

section
variable {nx bk ct : L2.St → Hp → Prop} {rt : VK}
variable {W : Wd} {G G' : Gam} {T : Tms} {cs : Cells} {K : Sl → Cells → Prop} {KB : Bool → Cells → Prop} {ta tb tc te to ti : TE} {tt tu : TT} {D : Ends} {t1 t2 : TS} {t : TA} {α β γ ρ : Type} {KF : PySem.W.Frag}
def oRep (xs : List α) (k : Int) : Option (List α) := if xs ≠ [] ∧ 1 ≤ k ∧ k ≤ 1000 ∧ xs.length ≤ 1000 then some (List.replicate k.toNat xs).flatten else none
theorem All2.rep {P : α → V → Prop} {xs : List α} {vs : List V} (a : All2 P xs vs) : ∀ n, All2 P (List.replicate n xs).flatten (List.replicate n vs).flatten
  | 0 => .nil
  | n + 1 => by rw [List.replicate_succ, List.replicate_succ, List.flatten_cons, List.flatten_cons]; exact a.app (All2.rep a n)
theorem len_rep (xs : List α) (n : Nat) : (List.replicate n xs).flatten.length = n * xs.length := by
  induction n with
  | zero => simp
  | succ n ih => rw [List.replicate_succ, List.flatten_cons, List.length_append, ih, Nat.succ_mul, Nat.add_comm]
theorem e_repT (ha : Ev ta W G T cs fun sa cs1 => ∀ va, Ev tb W G ((va, sa) :: T) cs1 fun sb cs2 => ∃ (α : Type) (r : R α) (xs ys : List α) (i : Int), sa = (rTup r).at xs ∧ sb = rInt.at i ∧ oRep xs i = some ys ∧ K ((rTup r).at ys) cs2) :
    Ev (tOp (rRepB KF) ta tb) W G T cs K := fun s H st Q q => by
  refine ha s H st _ fun sa cs1 h1 va H1 st1 => ?_
  refine h1 va s H1 st1 _ fun sb cs2 ⟨α, r, xs, ys, i, e1, e2, hy, k⟩ vb H2 ⟨F, c, sg, tm⟩ => ?_
  subst e1 e2
  obtain ⟨hz, a, vs, rfl, hF, hA⟩ := tm.tail.head
  have eb : vb = .int i := tm.head
  obtain ⟨⟨c1, c2, c3, c4⟩, e⟩ := of_ite hy
  subst e
  have hl := hA.length
  have hne : vs ≠ [] := fun e => c1 (by
    rw [e] at hl
    exact List.eq_nil_of_length_eq_zero hl)
  by_cases h1 : i = 1
  · subst h1
    have ex : (List.replicate (Int.toNat 1) xs).flatten = xs := by
      show (List.replicate 1 xs).flatten = xs
      simp
    rw [ex] at k
    exact .inl ⟨a, vs, rfl, eb, SqT.of (c.fh _ _ hF), q _ _ k _ H2 ⟨F, c, sg, tm.tail.tail.cons ⟨hz, a, vs, rfl, hF, hA⟩⟩⟩
  · refine .inr ⟨a, i, vs, rfl, eb, SqT.of (c.fh _ _ hF), hne, by omega, c3, by omega, fun p hp => ?_⟩
    have sF : Same F (upd F p (.tup (List.replicate i.toNat vs).flatten)) := same_upd (c.fh.free hp)
    refine q _ _ k _ _ ⟨_, c.new hp, sg.mono sF, (tm.tail.tail.mono sF).cons ⟨?_, p, _, rfl, upd_same, (hA.rep _).imp fun _ _ z => r.mono sF z⟩⟩
    rw [len_rep, sizeLine_eq]
    have : i.toNat * xs.length ≤ 1000 * 1000 := Nat.mul_le_mul (by omega) c4
    omega
/-! ## a, b = x, y -/
theorem s_par {i j : Nat} (h : EvA t W G T cs fun sls cs1 => ∃ a b, sls = [a, b] ∧ NxT nx W ((G.set i (some a)).set j (some b)) T cs1) : NxT (tPar i j t ⟨nx, rt, bk, ct⟩) W G T cs := fun s H st => by
  refine h s H st _ fun sls cs1 ⟨a, b, e, k⟩ vs H1 ⟨F, c, sg, tm, ar⟩ => ?_
  subst e
  obtain ⟨v, w, rfl, h1, h2⟩ := args2' ar
  exact ⟨v, w, rfl, k _ H1 ⟨F, c, (sg.set h1).set h2, tm⟩⟩
/-! ## a tuple of anything -/
def sTup (sls : List Sl) : Sl := ⟨fun F v => ∃ a vs, v = .ref a ∧ F a = some (.tup vs) ∧ Args F sls vs, fun e ⟨a, vs, h1, h2, h3⟩ => ⟨a, vs, h1, e _ _ h2, h3.imp fun sl _ q => sl.mono e q⟩⟩
theorem e_tupS (h : EvA t W G T cs fun sls cs1 => sls.length ≤ 1000 ∧ K (sTup sls) cs1) : Ev (tTup t) W G T cs K := fun s H st Q q => by
  refine h s H st _ fun sls cs1 ⟨hz, k⟩ vs H1 ⟨F, c, sg, tm, ar⟩ => ?_
  refine ⟨by rw [← ar.length]; exact small_len hz, fun p hp => ?_⟩
  have sF : Same F (upd F p (.tup vs)) := same_upd (c.fh.free hp)
  exact q _ _ k _ _ ⟨_, c.new hp, sg.mono sF, (tm.mono sF).cons ⟨p, vs, rfl, upd_same, ar.imp fun sl _ z => sl.mono sF z⟩⟩
/-- targets one by one -/
def Tgs (g : TGs) (is : List Nat) (W : Wd) (G : Gam) (T : Tms) (cs : Cells) (sls : List Sl) (K : Gam → Prop) : Prop :=
  ∀ vs s H, (∃ F, Core W F cs H ∧ Slots F G s ∧ Temps F T ∧ Args F sls vs) → ∀ Q : L2.St → Hp → Prop, (∀ G', K G' → ∀ s', Sta W G' T cs s' H → (∀ vs : List Nat, (∀ i ∈ is, i ∈ vs) → wipe s' vs = wipe s vs) → Q s' H) → g vs s H Q
theorem gs_nil {K : Gam → Prop} (k : K G) : Tgs gNil [] W G T cs [] K := fun vs s H ⟨F, c, sg, tm, ar⟩ Q q => by
  cases ar
  exact ⟨rfl, q _ k s ⟨F, c, sg, tm⟩ fun _ _ => rfl⟩
theorem gs_name {i : Nat} {is : List Nat} {g : TGs} {sl : Sl} {sls : List Sl} {K : Gam → Prop} (k : Tgs g is W (G.set i (some sl)) T cs sls K) : Tgs (gCons (gName i) g) (i :: is) W G T cs (sl :: sls) K := fun vs s H ⟨F, c, sg, tm, ar⟩ Q q => by
  cases ar with
  | cons p r =>
    refine ⟨_, _, rfl, ?_⟩
    refine k _ _ H ⟨F, c, sg.set p, tm, r⟩ _ fun G' k' s' st' hw => q G' k' s' st' fun vs hv => ?_
    rw [hw vs fun j hj => hv j (List.mem_cons_of_mem _ hj), wipe_set s i _ vs (hv i List.mem_cons_self)]
theorem g_tupS {KF : PySem.W.Frag} {n : Nat} {is : List Nat} {g : TGs} {sls : List Sl} {K : Gam → Prop} (hn : sls.length = n) (k : Tgs g is W G T cs sls K) : Tg (gTup KF n g) is W G T cs (sTup sls) K := fun v s H ⟨F, c, sg, tm⟩ Q q => by
  obtain ⟨a, vs, h1, h2, h3⟩ := tm.head
  exact ⟨a, vs, h1, SqT.of (c.fh _ _ h2), by rw [← h3.length]; exact hn, k vs s H ⟨F, c, sg, tm.tail, h3⟩ Q q⟩
/-! ## zip -/
theorem wk_zipT {r : R α} {q : R β} {xs : List α} {ys : List β} {a b : Addr} {B : Hp} : Wk (RZ.ItzT KF a b) ⟨W.F, B⟩ [(V.ref a, (rTup r).at xs), (V.ref b, (rTup q).at ys)] ((xs.zip ys).map (rPair r q).at) := by
  have get : ∀ (F : Hp), Temps F [(V.ref a, (rTup r).at xs), (V.ref b, (rTup q).at ys)] → ∃ us ws, F a = some (.tup us) ∧ F b = some (.tup ws) ∧ All2 (fun x u => r.p x F u) xs us ∧ All2 (fun x u => q.p x F u) ys ws := fun F t => by
    obtain ⟨_, a', us, e, h1, h2⟩ := t.head
    obtain ⟨_, b', ws, e', h1', h2'⟩ := t.tail.head
    cases e; cases e'
    exact ⟨us, ws, h1, h1', h2, h2'⟩
  refine ⟨fun i F H cs hi c t => ?_, fun i F H cs x H' sl hi c t y => ?_, fun F H cs c t => ?_⟩
  · obtain ⟨us, ws, h1, h2, h3, h4⟩ := get F t
    rw [List.length_map, List.length_zip] at hi
    obtain ⟨u, hu, _⟩ := h3.get (List.getElem?_eq_getElem (show i < xs.length by omega))
    obtain ⟨w, hw, _⟩ := h4.get (List.getElem?_eq_getElem (show i < ys.length by omega))
    exact ⟨us, ws, u, w, SqT.of (c.fh _ _ h1), SqT.of (c.fh _ _ h2), hu, hw⟩
  · obtain ⟨us, ws, h1, h2, h3, h4⟩ := get F t
    obtain ⟨T, x', y', rfl, hT, rfl, f1, f2⟩ := y
    obtain ⟨z, hz, pz⟩ := h3.get' (f1 us (SqT.of (c.fh _ _ h1)))
    obtain ⟨z2, hz2, pz2⟩ := h4.get' (f2 ws (SqT.of (c.fh _ _ h2)))
    have sF : Same F (upd F T (.tup [x', y'])) := same_upd (c.fh.free hT)
    rw [List.getElem?_map, (List.getElem?_zip_eq_some (z := (z, z2))).mpr ⟨hz, hz2⟩] at hi
    cases hi
    exact ⟨_, c.new hT, sF, T, x', y', rfl, upd_same, r.mono sF pz, q.mono sF pz2⟩
  · obtain ⟨us, ws, h1, h2, h3, h4⟩ := get F t
    refine ⟨us, ws, SqT.of (c.fh _ _ h1), SqT.of (c.fh _ _ h2), ?_⟩
    rw [List.length_map, List.length_zip]
    have := h3.length
    have := h4.length
    omega
theorem i_zipT {KI : List Sl → Cells → Prop} (h : EvA t W G T cs fun sls cs1 => ∃ (α β : Type) (r : R α) (q : R β) (xs : List α) (ys : List β), sls = [(rTup r).at xs, (rTup q).at ys] ∧ KI ((xs.zip ys).map (rPair r q).at) cs1) : EvI (RZ.iZipA KF t) W G T cs KI := fun s H st R k => by
  refine h s H st _ fun sls cs1 ⟨α, β, r, q, xs, ys, e, ki⟩ vs H1 ⟨F, c, sg, tm, ar⟩ => ?_
  subst e
  obtain ⟨v, w, rfl, p1, p2⟩ := args2' ar
  obtain ⟨hz, a, us, rfl, hF, hA⟩ := id p1
  obtain ⟨hz2, b, ws, rfl, hF2, hA2⟩ := id p2
  exact ⟨a, b, us, ws, rfl, .inr ⟨SqT.of (c.fh _ _ hF), SqT.of (c.fh _ _ hF2), k _ _ _ cs1 ki (by rw [List.length_map, List.length_zip]; omega) (fun B => wk_zipT) H1 ⟨F, c, sg, Temps.app (Temps.cons p1 (Temps.cons p2 Temps.nil)) tm⟩⟩⟩
theorem wk_zipL {r : R α} {q : R β} {xs : List α} {ys : List β} {a b : Addr} {B : Hp} : Wk (Itz KF a b) ⟨W.F, B⟩ [(V.ref a, (rLst r).at xs), (V.ref b, (rLst q).at ys)] ((xs.zip ys).map (rPair r q).at) := by
  have get : ∀ (F : Hp), Temps F [(V.ref a, (rLst r).at xs), (V.ref b, (rLst q).at ys)] → ∃ us ws, F a = some (.lst us) ∧ F b = some (.lst ws) ∧ All2 (fun x u => r.p x F u) xs us ∧ All2 (fun x u => q.p x F u) ys ws := fun F t => by
    obtain ⟨_, a', us, e, h1, h2⟩ := t.head
    obtain ⟨_, b', ws, e', h1', h2'⟩ := t.tail.head
    cases e; cases e'
    exact ⟨us, ws, h1, h1', h2, h2'⟩
  refine ⟨fun i F H cs hi c t => ?_, fun i F H cs x H' sl hi c t y => ?_, fun F H cs c t => ?_⟩
  · obtain ⟨us, ws, h1, h2, h3, h4⟩ := get F t
    rw [List.length_map, List.length_zip] at hi
    obtain ⟨u, hu, _⟩ := h3.get (List.getElem?_eq_getElem (show i < xs.length by omega))
    obtain ⟨w, hw, _⟩ := h4.get (List.getElem?_eq_getElem (show i < ys.length by omega))
    exact ⟨us, ws, u, w, SqL.of (c.fh _ _ h1), SqL.of (c.fh _ _ h2), hu, hw⟩
  · obtain ⟨us, ws, h1, h2, h3, h4⟩ := get F t
    obtain ⟨T, x', y', rfl, hT, rfl, f1, f2⟩ := y
    obtain ⟨z, hz, pz⟩ := h3.get' (f1 us (SqL.of (c.fh _ _ h1)))
    obtain ⟨z2, hz2, pz2⟩ := h4.get' (f2 ws (SqL.of (c.fh _ _ h2)))
    have sF : Same F (upd F T (.tup [x', y'])) := same_upd (c.fh.free hT)
    rw [List.getElem?_map, (List.getElem?_zip_eq_some (z := (z, z2))).mpr ⟨hz, hz2⟩] at hi
    cases hi
    exact ⟨_, c.new hT, sF, T, x', y', rfl, upd_same, r.mono sF pz, q.mono sF pz2⟩
  · obtain ⟨us, ws, h1, h2, h3, h4⟩ := get F t
    refine ⟨us, ws, SqL.of (c.fh _ _ h1), SqL.of (c.fh _ _ h2), ?_⟩
    rw [List.length_map, List.length_zip]
    have := h3.length
    have := h4.length
    omega
theorem i_zipL {KI : List Sl → Cells → Prop} (h : EvA t W G T cs fun sls cs1 => ∃ (α β : Type) (r : R α) (q : R β) (xs : List α) (ys : List β), sls = [(rLst r).at xs, (rLst q).at ys] ∧ KI ((xs.zip ys).map (rPair r q).at) cs1) : EvI (RZ.iZipA KF t) W G T cs KI := fun s H st R k => by
  refine h s H st _ fun sls cs1 ⟨α, β, r, q, xs, ys, e, ki⟩ vs H1 ⟨F, c, sg, tm, ar⟩ => ?_
  subst e
  obtain ⟨v, w, rfl, p1, p2⟩ := args2' ar
  obtain ⟨hz, a, us, rfl, hF, hA⟩ := id p1
  obtain ⟨hz2, b, ws, rfl, hF2, hA2⟩ := id p2
  exact ⟨a, b, us, ws, rfl, .inl ⟨SqL.of (c.fh _ _ hF), SqL.of (c.fh _ _ hF2), k _ _ _ cs1 ki (by rw [List.length_map, List.length_zip]; omega) (fun B => wk_zipL) H1 ⟨F, c, sg, Temps.app (Temps.cons p1 (Temps.cons p2 Temps.nil)) tm⟩⟩⟩
/-! ## the script -/
def rScr (KF : PySem.W.Frag) : R (List Int) := ⟨fun ns F v => ns.length ≤ 63 ∧ ∃ a, v = .ref a ∧ SqL KF F a (ns.map V.int), fun e ⟨h0, a, h1, h2⟩ => ⟨h0, a, h1, e.seq h2⟩⟩
theorem e_lenS (h : EvA t W G T cs fun sls cs1 => ∃ xs, sls = [(rScr KF).at xs] ∧ K (rInt.at (xs.length : Int)) cs1) : Ev (tCB (fun xs H Q => ∃ p ys, xs = [.ref p] ∧ (SqL KF H p ys ∨ SqT KF H p ys) ∧ Q (.int ys.length) H) t) W G T cs K := fun s H st Q q => by
  refine h s H st _ fun sls cs1 ⟨xs, e, k⟩ vs H1 ⟨F, c, sg, tm, ar⟩ => ?_
  subst e
  obtain ⟨v, rfl, hz, a, rfl, hA⟩ := args1 ar
  exact ⟨a, _, rfl, .inl (c.fh.seq hA), q _ _ k _ H1 ⟨F, c, sg, tm.cons (by rw [List.length_map]; rfl)⟩⟩
theorem e_ixS (ha : Ev ta W G T cs fun sa cs1 => ∀ va, Ev tb W G ((va, sa) :: T) cs1 fun sb cs2 => ∃ (xs : List Int) (i x : Int), sa = (rScr KF).at xs ∧ sb = rInt.at i ∧ atI xs i = some x ∧ K (rInt.at x) cs2) :
    Ev (tOp (rIxL KF) ta tb) W G T cs K := fun s H st Q q => by
  refine ha s H st _ fun sa cs1 h1 va H1 st1 => ?_
  refine h1 va s H1 st1 _ fun sb cs2 ⟨xs, i, x, e1, e2, hx, k⟩ vb H2 ⟨F, c, sg, tm⟩ => ?_
  subst e1 e2
  obtain ⟨hz, a, rfl, hA⟩ := tm.tail.head
  have eb : vb = .int i := tm.head
  refine ⟨a, _, i, .int x, rfl, eb, c.fh.seq hA, ?_, q _ _ k _ H2 ⟨F, c, sg, tm.tail.tail.cons rfl⟩⟩
  unfold atI at hx ⊢
  rw [List.length_map]
  cases e : ixN xs.length i with
  | none => rw [e] at hx; cases hx
  | some j =>
    rw [e] at hx
    have hx' : xs[j]? = some x := hx
    show (xs.map V.int)[j]? = _
    rw [List.getElem?_map, hx']
    rfl
/-! ## comprehensions: the simple kinds -/
theorem t_yes (k : KB true cs) : Et tYes W G T cs KB := fun s H st Q q => q true cs k H st
theorem lcO_map (f : α → γ) : ∀ xs : List α, lcO (fun (u : Unit) x => some (some (f x), u)) xs () = some (xs.map f, ())
  | [] => rfl
  | x :: xs => by unfold lcO; simp only [lcO_map f xs]; rfl
theorem lcO_filter (c : α → Bool) (f : α → γ) : ∀ xs : List α, lcO (fun (u : Unit) x => bif c x then some (some (f x), u) else some (none, u)) xs () = some ((xs.filter c).map f, ())
  | [] => rfl
  | x :: xs => by
    unfold lcO
    cases h : c x with
    | true => simp only [lcO_filter c f xs, cond_true]; rw [List.filter_cons_of_pos h]; rfl
    | false => simp only [lcO_filter c f xs, cond_false]; rw [List.filter_cons_of_neg (by rw [h]; exact Bool.false_ne_true)]
/-- partial, without a state -/
def mapO (f : α → Option (Option γ)) : List α → Option (List γ)
  | [] => some []
  | x :: xs => match f x with
    | none => none
    | some o => match mapO f xs with
      | none => none
      | some ys => some (match o with | some y => y :: ys | none => ys)
theorem lcO_mapO (f : α → Option (Option γ)) : ∀ (xs : List α) (ys : List γ), mapO f xs = some ys → lcO (fun (u : Unit) x => (f x).map fun o => (o, u)) xs () = some (ys, ())
  | [], ys, h => by cases h; rfl
  | x :: xs, ys, h => by
    unfold mapO at h
    unfold lcO
    cases e : f x with
    | none => rw [e] at h; cases h
    | some o =>
      rw [e] at h
      dsimp only at h
      cases e2 : mapO f xs with
      | none => rw [e2] at h; cases h
      | some zs =>
        rw [e2] at h
        dsimp only at h
        simp only [Option.map_some, lcO_mapO f xs zs e2]
        cases h
        rfl
/-! ## taking a mirror's hypothesis apart -/
theorem bindE {m : Option α} {f : α → Option β} {r : β} (h : (m >>= f) = some r) : ∃ a, m = some a ∧ f a = some r := by
  cases m with
  | none => cases h
  | some a => exact ⟨a, rfl, h⟩
theorem condT {c : Bool} {a b x : α} (hc : c = true) (h : (bif c then a else b) = x) : a = x := by rw [hc] at h; exact h
theorem condF {c : Bool} {a b x : α} (hc : c = false) (h : (bif c then a else b) = x) : b = x := by rw [hc] at h; exact h
theorem pureE {a r : α} (h : (pure a : Option α) = some r) : a = r := Option.some.inj h
theorem pureE' {a r : α} (h : (pure a : Option α) = some r) : r = a := (Option.some.inj h).symm
theorem andF {c : Bool} {d : Bool} (hc : c = false) : (c && d) = false := by rw [hc]; rfl
theorem andT {c : Bool} {d : Bool} (hc : c = true) : (c && d) = d := by rw [hc]; rfl
theorem orF {c : Bool} {d : Bool} (hc : c = false) : (c || d) = d := by rw [hc]; rfl
theorem orT {c : Bool} {d : Bool} (hc : c = true) : (c || d) = true := by rw [hc]; rfl
end
section
variable {nx bk ct : L2.St → Hp → Prop} {rt : VK}
variable {W : Wd} {G Gj : Gam} {T : Tms} {cs cj : Cells} {K : Sl → Cells → Prop} {ta tb te : TE} {tt : TT} {D : Ends} {t1 t2 : TS} {t : TA} {α γ : Type} {KF : PySem.W.Frag}
/-- both ways meet behind the if -/
theorem s_ifJ (Gj : Gam) (cj : Cells) (h : Et tt W G T cs fun b cs1 => (b = true → ∀ N, NxT N W Gj T cj → NxT (t1 ⟨N, rt, bk, ct⟩) W G T cs1) ∧ (b = false → ∀ N, NxT N W Gj T cj → NxT (t2 ⟨N, rt, bk, ct⟩) W G T cs1)) (rest : NxT nx W Gj T cj) : NxT (tIfS tt t1 t2 ⟨nx, rt, bk, ct⟩) W G T cs :=
  s_if (h.imp fun b cs1 ⟨h1, h2⟩ => ⟨fun e => h1 e nx rest, fun e => h2 e nx rest⟩)
theorem mapU {f : Option (Option γ)} {u u1 : Unit} {o : Option γ} (h : (f.map fun o => (o, u)) = some (o, u1)) : f = some o ∧ u1 = u := by
  cases f with
  | none => cases h
  | some p => cases h; exact ⟨rfl, rfl⟩
theorem condT' {c : Bool} {a b : α} (hc : c = true) : (bif c then a else b) = a := by rw [hc]; rfl
theorem condF' {c : Bool} {a b : α} (hc : c = false) : (bif c then a else b) = b := by rw [hc]; rfl
/-- a list that is a cell beside a list that stands still -/
theorem e_eqC (j : Nat) (ha : Ev ta W G T cs fun sa cs1 => ∀ va, Ev tb W G ((va, sa) :: T) cs1 fun sb cs2 => ∃ (α : Type) (_ : DecidableEq α) (r : R α) (e : REq r) (p : Addr) (x y : List α), e.n ≤ 60 ∧ sa = sRef p ∧ cs2[j]? = some (p, cLst r x) ∧ sb = (rLst r).at y ∧ K (rBool.at (decide (x = y))) cs2) :
    Ev (tOp (rEqD KF) ta tb) W G T cs K := fun s H st Q q => by
  refine ha s H st _ fun sa cs1 h1 va H1 st1 => ?_
  refine h1 va s H1 st1 _ fun sb cs2 ⟨α, _, r, e, p, x, y, hn, e1, hj, e2, k⟩ vb H2 ⟨F, c, sg, tm⟩ => ?_
  subst e1 e2
  obtain ⟨hz, vs, hH, hA⟩ := c.lst hj
  have pb : (rLst r).p y F vb := tm.head
  have pa : va = .ref p := tm.tail.head
  subst pa
  refine ⟨_, _, Dp.lst (SqL.of hH) (dpAll e c.fh hA), (eLst e).ok pb c.fh, (eLst e).shaped (show e.n + 1 ≤ 64 by omega) x, (eLst e).shaped (show e.n + 1 ≤ 64 by omega) y, ?_⟩
  rw [show PyData.eqv (.list (x.map e.d)) ((eLst e).d y) = decide (x = y) from (eLst e).eqv x y]
  exact q _ _ k _ H2 ⟨F, c, sg, tm.tail.tail.cons rfl⟩
theorem e_neC (j : Nat) (ha : Ev ta W G T cs fun sa cs1 => ∀ va, Ev tb W G ((va, sa) :: T) cs1 fun sb cs2 => ∃ (α : Type) (_ : DecidableEq α) (r : R α) (e : REq r) (p : Addr) (x y : List α), e.n ≤ 60 ∧ sa = sRef p ∧ cs2[j]? = some (p, cLst r x) ∧ sb = (rLst r).at y ∧ K (rBool.at (!decide (x = y))) cs2) :
    Ev (tOp (rNeD KF) ta tb) W G T cs K := fun s H st Q q => by
  refine ha s H st _ fun sa cs1 h1 va H1 st1 => ?_
  refine h1 va s H1 st1 _ fun sb cs2 ⟨α, _, r, e, p, x, y, hn, e1, hj, e2, k⟩ vb H2 ⟨F, c, sg, tm⟩ => ?_
  subst e1 e2
  obtain ⟨hz, vs, hH, hA⟩ := c.lst hj
  have pb : (rLst r).p y F vb := tm.head
  have pa : va = .ref p := tm.tail.head
  subst pa
  refine ⟨_, _, Dp.lst (SqL.of hH) (dpAll e c.fh hA), (eLst e).ok pb c.fh, (eLst e).shaped (show e.n + 1 ≤ 64 by omega) x, (eLst e).shaped (show e.n + 1 ≤ 64 by omega) y, ?_⟩
  rw [show PyData.eqv (.list (x.map e.d)) ((eLst e).d y) = decide (x = y) from (eLst e).eqv x y]
  exact q _ _ k _ H2 ⟨F, c, sg, tm.tail.tail.cons rfl⟩
end
/-! ## the readings' names -/
abbrev rdLen (KF : PySem.W.Frag) : List V → Hp → VK → Prop := fun xs H Q => ∃ p ys, xs = [.ref p] ∧ (SqL KF H p ys ∨ SqT KF H p ys) ∧ Q (.int ys.length) H
abbrev rdTupleOf (KF : PySem.W.Frag) : List V → Hp → VK → Prop := fun xs H Q => ∃ p ys, xs = [.ref p] ∧ ((SqL KF H p ys ∧ ∀ l, H l = none → Q (.ref l) (upd H l (.tup ys))) ∨ (SqT KF H p ys ∧ Q (.ref p) H))
abbrev rdAbs : List V → Hp → VK → Prop := fun xs H Q => ∃ i, xs = [.int i] ∧ Q (.int (if i < 0 then -i else i)) H
abbrev rdMax2 : List V → Hp → VK → Prop := fun xs H Q => ∃ i j, xs = [.int i, .int j] ∧ Q (.int (if j > i then j else i)) H
abbrev rdMin2 : List V → Hp → VK → Prop := fun xs H Q => ∃ i j, xs = [.int i, .int j] ∧ Q (.int (if j < i then j else i)) H
abbrev rdInt1 : List V → Hp → VK → Prop := fun xs H Q => (∃ i, xs = [.int i] ∧ Q (.int i) H) ∨ ∃ k, xs = [.bl k] ∧ Q (.int (if k then 1 else 0)) H
abbrev rdAdd : R2 := rI0 fun i j => .int (i + j)
abbrev rdSub : R2 := rI0 fun i j => .int (i - j)
abbrev rdAnd : R2 := rI0 fun i j => .int (Builtin.bitAnd i j)
abbrev rdOr : R2 := rI0 fun i j => .int (Builtin.bitOr i j)
abbrev rdXor : R2 := rI0 fun i j => .int (Builtin.bitXor i j)
abbrev rdLt : R2 := rI0 fun i j => .bl (decide (i < j))
abbrev rdLe : R2 := rI0 fun i j => .bl (decide (i ≤ j))
abbrev rdGt : R2 := rI0 fun i j => .bl (decide (j < i))
abbrev rdGe : R2 := rI0 fun i j => .bl (decide (j ≤ i))
abbrev rdMul : R2 := rI CMulX fun i j => .int (i * j)
abbrev rdDiv : R2 := rI CDivW fun i j => .int (i / j)
abbrev rdMod : R2 := rI (fun _ j => 0 < j) fun i j => .int (i % j)
abbrev rdPow : R2 := rI CPowW fun i j => .int (i ^ j.toNat)
abbrev rdShl : R2 := rI CShl fun i j => .int (i * 2 ^ j.toNat)
abbrev rdShr : R2 := rI (fun _ j => 0 ≤ j) fun i j => .int (i / 2 ^ j.toNat)
abbrev rdNeg : V → Hp → VK → Prop := rU fun i => .int (-i)
abbrev rdInv : V → Hp → VK → Prop := rU fun i => .int (Builtin.bitNot i)
def Cup := Int × Int × Int
def cCup (k : Cup) : Cl := cLst rInt [k.1, k.2.1, k.2.2]

/-! ## built-ins by name -/
theorem bt_len : bootBuiltins "len" = some (.builtin "len") := PySem.boot_len
theorem bt_all : bootBuiltins "all" = some (.builtin "all") := PyProof.Rows.boot_all
theorem bt_any : bootBuiltins "any" = some (.builtin "any") := PyProof.Rows.boot_any
theorem bt_max : bootBuiltins "max" = some (.builtin "max") := PyProof.Rows.boot_max
theorem bt_min : bootBuiltins "min" = some (.builtin "min") := PyProof.Rows.boot_min
theorem bt_sum : bootBuiltins "sum" = some (.builtin "sum") := PyProof.Rows.boot_sum
theorem bt_abs : bootBuiltins "abs" = some (.builtin "abs") := PyProof.Rows.boot_abs
theorem bt_sorted : bootBuiltins "sorted" = some (.builtin "sorted") := PyProof.Rows.boot_sorted
theorem bt_repr : bootBuiltins "repr" = some (.builtin "repr") := PyProof.Rows.boot_repr
theorem bt_isinstance : bootBuiltins "isinstance" = some (.builtin "isinstance") := PyProof.Rows.boot_isinstance
theorem bt_int : bootBuiltins "int" = some (.type "int") := PyProof.Rows.boot_int
theorem bt_bool : bootBuiltins "bool" = some (.type "bool") := PyProof.Rows.boot_bool
theorem bt_str : bootBuiltins "str" = some (.type "str") := PyProof.Rows.boot_str
theorem bt_tuple : bootBuiltins "tuple" = some (.type "tuple") := PyProof.Rows.boot_tuple
theorem bt_list : bootBuiltins "list" = some (.type "list") := PyProof.Rows.boot_list
theorem bt_set : bootBuiltins "set" = some (.type "set") := PyProof.Rows.boot_set
theorem bt_dict : bootBuiltins "dict" = some (.type "dict") := PyProof.Rows.boot_dict
theorem bt_range : bootBuiltins "range" = some (.type "range") := PyProof.Rows.boot_range
theorem bt_zip : bootBuiltins "zip" = some (.type "zip") := PyProof.Rows.boot_zip
theorem bt_enumerate : bootBuiltins "enumerate" = some (.type "enumerate") := PyProof.Rows.boot_enumerate
end ML

namespace ML
open PySem PySem.Spec PyProof.Rows L2
section
variable {nx bk ct : L2.St → Hp → Prop} {rt : VK}
variable {W : Wd} {G G' : Gam} {T : Tms} {cs : Cells} {K : Sl → Cells → Prop} {KB : Bool → Cells → Prop} {ta tb tc te to ti : TE} {tt tu : TT} {D : Ends} {t1 t2 : TS} {t : TA} {α β γ ρ : Type} {KF : PySem.W.Frag}
/-! ## x op= e -/
theorem s_augI0 {i : Nat} {a : Int} {g : Int → Int → Int} (hi : G[i]? = some (some (rInt.at a))) (h : Ev te W G T cs fun sl cs1 => ∃ j, sl = rInt.at j ∧ NxT nx W (G.set i (some (rInt.at (g a j)))) T cs1) : NxT (tAug i te (rI0 fun i j => .int (g i j)) ⟨nx, rt, bk, ct⟩) W G T cs := fun s H st => by
  obtain ⟨F, c, sg, tm⟩ := id st
  obtain ⟨v, hv, pv⟩ := sg.2 i _ hi
  refine ⟨v, hv, h s H st _ fun sl cs1 ⟨j, e, k⟩ vb H1 ⟨F1, c1, sg1, tm1⟩ => ?_⟩
  subst e
  have ev : v = .int a := pv
  have eb : vb = .int j := tm1.head
  exact ⟨a, j, ev, eb, k _ H1 ⟨F1, c1, sg1.set (sl := rInt.at (g a j)) rfl, tm1.tail⟩⟩
theorem s_par3 {i j l : Nat} (h : EvA t W G T cs fun sls cs1 => ∃ a b c, sls = [a, b, c] ∧ NxT nx W (((G.set i (some a)).set j (some b)).set l (some c)) T cs1) : NxT (tPar3 i j l t ⟨nx, rt, bk, ct⟩) W G T cs := fun s H st => by
  refine h s H st _ fun sls cs1 ⟨a, b, c, e, k⟩ vs H1 ⟨F, cc, sg, tm, ar⟩ => ?_
  subst e
  obtain ⟨u, v, w, rfl, h1, h2, h3⟩ : ∃ u v w, vs = [u, v, w] ∧ a.p F u ∧ b.p F v ∧ c.p F w := by
    cases ar with
    | cons p q =>
      cases q with
      | cons p' q' =>
        cases q' with
        | cons p'' q'' => cases q''; exact ⟨_, _, _, rfl, p, p', p''⟩
  exact ⟨u, v, w, rfl, k _ H1 ⟨F, cc, ((sg.set h1).set h2).set h3, tm⟩⟩
/-! ## a tuple and a tuple -/
def oCat (xs ys : List α) : Option (List α) := if xs.length + ys.length ≤ sizeLine then some (xs ++ ys) else none
theorem e_catT (ha : Ev ta W G T cs fun sa cs1 => ∀ va, Ev tb W G ((va, sa) :: T) cs1 fun sb cs2 => ∃ (α : Type) (r : R α) (xs ys zs : List α), sa = (rTup r).at xs ∧ sb = (rTup r).at ys ∧ oCat xs ys = some zs ∧ K ((rTup r).at zs) cs2) :
    Ev (tOp (rCatA KF) ta tb) W G T cs K := fun s H st Q q => by
  refine ha s H st _ fun sa cs1 h1 va H1 st1 => ?_
  refine h1 va s H1 st1 _ fun sb cs2 ⟨α, r, xs, ys, zs, e1, e2, hy, k⟩ vb H2 ⟨F, c, sg, tm⟩ => ?_
  subst e1 e2
  obtain ⟨hz, a, vs, rfl, hF, hA⟩ := tm.tail.head
  obtain ⟨hz2, b, ws, rfl, hF2, hA2⟩ := tm.head
  obtain ⟨hl, e⟩ := of_ite hy
  subst e
  have l1 := hA.length
  have l2 := hA2.length
  refine ⟨a, b, vs, ws, rfl, rfl, SqT.of (c.fh _ _ hF), SqT.of (c.fh _ _ hF2), by omega, fun e => ?_, fun n e => ?_, fun n1 n2 p hp => ?_⟩
  · have ex : xs = [] := List.eq_nil_of_length_eq_zero (by rw [l1, e]; rfl)
    rw [ex, List.nil_append] at k
    exact q _ _ k _ H2 ⟨F, c, sg, tm.tail.tail.cons ⟨hz2, b, ws, rfl, hF2, hA2⟩⟩
  · have ey : ys = [] := List.eq_nil_of_length_eq_zero (by rw [l2, e]; rfl)
    rw [ey, List.append_nil] at k
    exact q _ _ k _ H2 ⟨F, c, sg, tm.tail.tail.cons ⟨hz, a, vs, rfl, hF, hA⟩⟩
  · have sF : Same F (upd F p (.tup (vs ++ ws))) := same_upd (c.fh.free hp)
    exact q _ _ k _ _ ⟨_, c.new hp, sg.mono sF, (tm.tail.tail.mono sF).cons ⟨by rw [List.length_append]; exact hl, p, _, rfl, upd_same, (hA.app hA2).imp fun _ _ z => r.mono sF z⟩⟩
/-! ## slices -/
def cutL (xs : List α) (lo hi : Option Int) : List α := (xs.drop (HT.sIx xs.length 0 lo)).take (HT.sIx xs.length xs.length hi - HT.sIx xs.length 0 lo)
theorem cutL_len (xs : List α) (lo hi : Option Int) : (cutL xs lo hi).length ≤ xs.length := by
  unfold cutL
  rw [List.length_take, List.length_drop]
  omega
theorem All2.cut {P : α → V → Prop} {xs : List α} {vs : List V} (a : All2 P xs vs) (lo hi : Option Int) : All2 P (cutL xs lo hi) (cutV vs lo hi) := by
  unfold cutL cutV
  rw [a.length]
  exact (a.drop _).take _
def EvO (to : TO) (W : Wd) (G : Gam) (T : Tms) (cs : Cells) (K : Option Int → Cells → Prop) : Prop :=
  ∀ s H, Sta W G T cs s H → ∀ Q : Option Int → Hp → Prop, (∀ o cs', K o cs' → ∀ H', Sta W G T cs' s H' → Q o H') → to s H Q
theorem eo_none {K : Option Int → Cells → Prop} (k : K none cs) : EvO tNoPart W G T cs K := fun s H st Q q => q none cs k H st
theorem eo_some {K : Option Int → Cells → Prop} (h : Ev te W G T cs fun sl cs1 => ∃ i, sl = rInt.at i ∧ K (some i) cs1) : EvO (tPart te) W G T cs K := fun s H st Q q => by
  refine h s H st _ fun sl cs1 ⟨i, e, k⟩ v H1 st1 => ?_
  subst e
  exact ⟨i, int_top st1, q _ _ k H1 st1.pop⟩
theorem e_slT {tl th : TO} (ha : Ev ta W G T cs fun sa cs1 => ∀ va, EvO tl W G ((va, sa) :: T) cs1 fun lo cs2 => EvO th W G ((va, sa) :: T) cs2 fun hi cs3 => ∃ (α : Type) (r : R α) (xs : List α), sa = (rTup r).at xs ∧ K ((rTup r).at (cutL xs lo hi)) cs3) :
    Ev (tSl (rSlA KF) ta tl th) W G T cs K := fun s H st Q q => by
  refine ha s H st _ fun sa cs1 h1 va H1 st1 => ?_
  refine h1 va s H1 st1 _ fun lo cs2 h2 H2 st2 => ?_
  refine h2 s H2 st2 _ fun hi cs3 ⟨α, r, xs, e1, k⟩ H3 ⟨F, c, sg, tm⟩ => ?_
  subst e1
  obtain ⟨hz, a, vs, rfl, hF, hA⟩ := tm.head
  have hl := hA.length
  refine ⟨a, vs, rfl, SqT.of (c.fh _ _ hF), fun ⟨e1, e2⟩ => ?_, fun _ p hp => ?_⟩
  · have ex : cutL xs lo hi = xs := by
      unfold cutL
      rw [hl, e1, e2, List.drop_zero, Nat.sub_zero, ← hl, List.take_length]
    rw [ex] at k
    exact q _ _ k _ H3 ⟨F, c, sg, tm.tail.cons ⟨hz, a, vs, rfl, hF, hA⟩⟩
  · have sF : Same F (upd F p (.tup (cutV vs lo hi))) := same_upd (c.fh.free hp)
    exact q _ _ k _ _ ⟨_, c.new hp, sg.mono sF, (tm.tail.mono sF).cons ⟨Nat.le_trans (cutL_len _ _ _) hz, p, _, rfl, upd_same, (hA.cut lo hi).imp fun _ _ z => r.mono sF z⟩⟩
theorem e_slL {tl th : TO} (ha : Ev ta W G T cs fun sa cs1 => ∀ va, EvO tl W G ((va, sa) :: T) cs1 fun lo cs2 => EvO th W G ((va, sa) :: T) cs2 fun hi cs3 => ∃ (α : Type) (r : R α) (xs : List α), sa = (rLst r).at xs ∧ K ((rLst r).at (cutL xs lo hi)) cs3) :
    Ev (tSl (rSlL KF) ta tl th) W G T cs K := fun s H st Q q => by
  refine ha s H st _ fun sa cs1 h1 va H1 st1 => ?_
  refine h1 va s H1 st1 _ fun lo cs2 h2 H2 st2 => ?_
  refine h2 s H2 st2 _ fun hi cs3 ⟨α, r, xs, e1, k⟩ H3 ⟨F, c, sg, tm⟩ => ?_
  subst e1
  obtain ⟨hz, a, vs, rfl, hF, hA⟩ := tm.head
  refine ⟨a, vs, rfl, SqL.of (c.fh _ _ hF), fun p hp => ?_⟩
  have sF : Same F (upd F p (.lst (cutV vs lo hi))) := same_upd (c.fh.free hp)
  exact q _ _ k _ _ ⟨_, c.new hp, sg.mono sF, (tm.tail.mono sF).cons ⟨Nat.le_trans (cutL_len _ _ _) hz, p, _, rfl, upd_same, (hA.cut lo hi).imp fun _ _ z => r.mono sF z⟩⟩
/-! ## a pair's parts -/
theorem e_ixP0 (ha : Ev ta W G T cs fun sa cs1 => ∀ va, Ev tb W G ((va, sa) :: T) cs1 fun sb cs2 => ∃ (α β : Type) (r : R α) (q : R β) (x : α × β), sa = (rPair r q).at x ∧ sb = rInt.at 0 ∧ K (r.at x.1) cs2) :
    Ev (tOp (rIxT KF) ta tb) W G T cs K := fun s H st Q q => by
  refine ha s H st _ fun sa cs1 h1 va H1 st1 => ?_
  refine h1 va s H1 st1 _ fun sb cs2 ⟨α, β, r, r', x, e1, e2, k⟩ vb H2 ⟨F, c, sg, tm⟩ => ?_
  subst e1 e2
  obtain ⟨a, u, w, rfl, hF, p1, p2⟩ := tm.tail.head
  have eb : vb = .int 0 := tm.head
  exact ⟨a, [u, w], 0, u, rfl, eb, SqT.of (c.fh _ _ hF), rfl, q _ _ k _ H2 ⟨F, c, sg, tm.tail.tail.cons p1⟩⟩
theorem e_ixP1 (ha : Ev ta W G T cs fun sa cs1 => ∀ va, Ev tb W G ((va, sa) :: T) cs1 fun sb cs2 => ∃ (α β : Type) (r : R α) (q : R β) (x : α × β), sa = (rPair r q).at x ∧ sb = rInt.at 1 ∧ K (q.at x.2) cs2) :
    Ev (tOp (rIxT KF) ta tb) W G T cs K := fun s H st Q q => by
  refine ha s H st _ fun sa cs1 h1 va H1 st1 => ?_
  refine h1 va s H1 st1 _ fun sb cs2 ⟨α, β, r, r', x, e1, e2, k⟩ vb H2 ⟨F, c, sg, tm⟩ => ?_
  subst e1 e2
  obtain ⟨a, u, w, rfl, hF, p1, p2⟩ := tm.tail.head
  have eb : vb = .int 1 := tm.head
  exact ⟨a, [u, w], 1, w, rfl, eb, SqT.of (c.fh _ _ hF), rfl, q _ _ k _ H2 ⟨F, c, sg, tm.tail.tail.cons p2⟩⟩
end
/-! ## a def that hands back a new list that its caller changes -/
section
variable {nx bk ct : L2.St → Hp → Prop} {rt : VK}
variable {W : Wd} {G : Gam} {T : Tms} {cs : Cells} {K : Sl → Cells → Prop} {t : TA}
def spC {ι β : Type} (A : ι → List Sl) (ci : ι → Cells) (m : ι → Option β) (new : β → Cl) (co : ι → β → Cells) : Sp := fun vs H Q _ =>
  ∃ (i : ι) (b : β) (W : Wd), m i = some b ∧ Core W W.F (ci i) H ∧ Args W.F (A i) vs ∧ ∀ p, Rt Q W (sRef p) (co i b ++ [(p, new b)])
theorem spC_len {ι β : Type} {A : ι → List Sl} {ci : ι → Cells} {m : ι → Option β} {new : β → Cl} {co : ι → β → Cells} {n : Nat} {vs : List V} {H : Hp} {Q : VK} {E : XK} (h : spC A ci m new co vs H Q E) (hA : ∀ i, (A i).length = n) : vs.length = n := by
  obtain ⟨i, b, W, _, _, ar, _⟩ := h
  rw [← hA i]
  exact ar.length.symm
theorem e_callC {ι β : Type} {A : ι → List Sl} {ci : ι → Cells} {m : ι → Option β} {new : β → Cl} {co : ι → β → Cells} {E : XK}
    (h : EvA t W G T cs fun sls cs1 => ∃ (i : ι) (b : β) (rest : Cells), m i = some b ∧ sls = A i ∧ cs1 = ci i ++ rest ∧ ∀ p, K (sRef p) (co i b ++ [(p, new b)] ++ rest)) : Ev (tCall (spC A ci m new co) [] E t) W G T cs K := fun s H st Q q => by
  refine h s H st _ fun sls cs1 ⟨i, b, rest, hm, e1, e2, k⟩ vs H1 ⟨F, c, sg, tm, ar⟩ => ?_
  subst e1 e2
  rw [List.append_nil]
  refine ⟨i, b, Wd.sub F H1 (ci i), hm, c.sub, ar, fun p v H2 ⟨F2, c2, pv⟩ => ?_⟩
  have sF : Same F F2 := c2.f0
  exact q _ _ (k p) v H2 ⟨F2, c.unsub c2, sg.mono sF, (tm.mono sF).cons pv⟩
end
/-! ## the law's end -/
theorem only_core {H : Hp} {ns : List Int} {a : Addr} {KF : PySem.W.Frag} (hS : SqL KF H a (ns.map V.int)) : Core ⟨H, fun _ => none⟩ H [] H :=
  ⟨Same.refl H, Same.refl H, fun _ _ e => (by cases e), fun _ _ e => (by cases e), List.nodup_nil, fun _ h => absurd h (by simp)⟩
end ML

namespace ML
open PySem Spec PyProof.Rows L2

/-! ## defs run where no repr is under way -/
structure RoomG (k : Nat) (A : Around) : Prop where
  rm : Room k A
  gd : A.guards = some []
theorem RoomG.mono {j k : Nat} {A : Around} (r : RoomG k A) (h : j ≤ k) : RoomG j A := ⟨r.rm.mono h, r.gd⟩
theorem RoomG.units {k : Nat} {A : Around} (r : RoomG k A) : A.units + 64 < cLine := r.rm.units
theorem RoomG.u65 {k : Nat} {A : Around} (r : RoomG k A) : A.units + 65 < cLine := by have := r.rm.un; omega
theorem RoomG.deeper {k : Nat} {A : Around} (r : RoomG (k + 1) A) (env : Env) : RoomG k (A.deeper env) := ⟨r.rm.deeper env, r.gd⟩
structure FnG (P : Program) (w : World) (K : PySem.W.Frag) (mg : Str → Option Value) (base : Heap) (CX : CXT) (k : Nat) (f : Addr) (fd : FuncData) (ps : List Str) (sp : Sp) : Prop where
  len : ∀ vs H Q E, sp vs H Q E → vs.length = ps.length
  go : ∀ (A : Around) (ou : List Env) (s : Shared) (H : Hp) (ar : PySem.Args) (us : List Value) (vs : List V) (Q : VK) (E : XK), RoomG k A → Env0 P w K mg base A ou s H → BindsTo s fd ar (ps.zip us) → Vals vs us → sp vs H Q E →
    codeAny (model P w) A (.call (.ref f) ar) (CR CX ou P w H s Q E) s
section
variable {X : Cx} {CX : CXT} {k : Nat} {f : Addr} {fd : FuncData} {ps : List Str} {sp : Sp} {dvs : List V} {ds : List Value} {E : XK} {x : Str} {p pos : Pos} {e : Expr} {es : List Expr} {t : TA}
theorem run_fnG {pins : List (Addr × Obj)} {σ : L2.St} {H : Hp} {s : Shared} {Q : VK} {us : List Value} {vs : List V} (F : FnG X.prog X.w X.K X.mg X.base CX k f fd ps sp) (hr : RoomG k X.A) (hb : Binds X.K fd ps ds) (hd : Vals dvs ds) (hx : Passes CX X E)
    (I : Inv X pins σ H s) (r : Vals vs us) (h : sp (vs ++ dvs) H Q E) : wpAny (model X.prog X.w) X.A (call (.ref f) us) (EP X pins σ Q) X.xe s := by
  have r2 := r.append hd
  have hl : (us ++ ds).length = ps.length := r2.length.symm.trans (F.len _ _ _ _ h)
  have run := F.go X.A X.stack s H ⟨us, []⟩ _ _ Q E hr I.env0 (hb s us I.kIn hl) r2 h
  refine wpAny_call (codeAny_mono run fun r s' hq => ?_)
  match r, hq with
  | .error e, hq => exact hx pins σ H s e s' I hq
  | .ok (.ret u), hq => exact I.after hq
  | .ok .next, hq => exact False.elim hq
  | .ok .brk, hq => exact False.elim hq
  | .ok .cont, hq => exact False.elim hq
theorem pe_callG (F : FnG X.prog X.w X.K X.mg X.base CX k f fd ps sp) (hr : RoomG k X.A) (hg : Gl X x) (hm : X.mg x = some (.ref f)) (hk : PySem.W.keepIn X.K (.ref f) = true) (hb : Binds X.K fd ps ds) (hd : Vals dvs ds) (hx : Passes CX X E)
    (ha : PA X (e :: es) t) (h1 : (x == ("__debug__" : Str)) = false := by decide) (h2 : starEach (e :: es) X.env = (false, eval e X.env) :: starEach es X.env := by rfl) (h3 : (backTo pos (starEach es X.env)).any (·.1) = false := by rfl) :
    PE X (.Call (.Name x p) (e :: es) [] pos) (tCall sp dvs E t) := ⟨fun pins s σ H Q I h =>
  wpAny_Call_Name_kw (ld_glob I hg hm (PySem.W.callWith_K (h₀ := X.base) I.ok.mod.kin hk (thn (ha.run pos pins s σ H _ I h) fun us s1 ⟨vs, H1, I1, r, q⟩ => ⟨I1.kIn, run_fnG F hr hb hd hx I1 r q⟩) h2 h3) h1)⟩
theorem pe_callG0 (F : FnG X.prog X.w X.K X.mg X.base CX k f fd ps sp) (hr : RoomG k X.A) (hg : Gl X x) (hm : X.mg x = some (.ref f)) (hk : PySem.W.keepIn X.K (.ref f) = true) (hb : Binds X.K fd ps ds) (hd : Vals dvs ds) (hx : Passes CX X E)
    (h1 : (x == ("__debug__" : Str)) = false := by decide) : PE X (.Call (.Name x p) [] [] pos) (tCall sp dvs E tNil) := ⟨fun pins s σ H Q I h =>
  wpAny_Call_Name_kw (ld_glob I hg hm (PySem.W.callWith_K0 I.kIn hk (run_fnG (us := []) F hr hb hd hx I .nil h)) h1)⟩
end
/-- a def by its body -/
theorem fn_G {CX : CXT} {P : Program} {w : World} {K : PySem.W.Frag} {mg : Str → Option Value} {base : Heap} {k : Nat} {f : Addr} {name qual : Str} {params : Arguments} {body : List Stmt} {scope : Scope} {dV kV doc pm cdv ct oc : Value} {an od : Option Addr}
    {osl : Array (Option Value)} {N ps : List Str} {sp : Sp} (lk : K.lookup f = some ⟨oc, od, .func (PySem.W.fnOf name qual params body scope dV kV doc pm an cdv ct), osl⟩) (hcd : PySem.W.codeIn K cdv qual = true) (S : FnScope N ps scope)
    (len : ∀ vs H Q E, sp vs H Q E → vs.length = ps.length)
    (hb : ∀ (A : Around) (ou : List Env) (s : Shared) (H : Hp) (vs : List V) (Q : VK) (E : XK), RoomG k (A.deeper (envOfC qual scope s.heap.objs.size f cdv)) → sp vs H Q E →
      ∃ t, PSs (cxOf CX P w K mg base N qual scope f cdv A ou s H E) body t ∧ t { nx := fun _ H' => Q .non H', rt := Q } (L2.start N vs) H) :
    FnG P w K mg base CX (k + 1) f (PySem.W.fnOf name qual params body scope dV kV doc pm an cdv ct) ps sp := by
  refine ⟨len, fun A ou s H ar us vs Q E hr e0 hbd r hsp => ?_⟩
  have hl := len _ _ _ _ hsp
  have old : ∀ b o, base.get? b = some o → s.heap.get? b = some o := fun b o e => (e0.bs b o e).1
  have KX : K.In s.heap := e0.mod.kin.keeps old
  have lim : s.heap.NoLimit := e0.mod.nolimit.keeps old
  have kinds : ∀ y ∈ ps.zip us, scope.names.lookup y.1 = some .local ∨ (scope.names.lookup y.1 = some .cell ∧ ((cellsFrom (s.heap.objs.size + 1) scope.names []).lookup y.1).isSome = true) := fun y hy =>
    (S.par y.1 (List.of_mem_zip hy).1).imp id fun q => ⟨q, PySem.W.cellsFrom_some _ _ _ (.inl q)⟩
  refine codeAny_call_function hr.rm.depth (KX _ _ lk) rfl S.co S.gen rfl (PySem.W.codeRec_of KX hcd) (hbd _ _ _ _ ?_)
  refine wpAny_newFunctionEnv_cells S.kind kinds fun env he s1 x => ?_
  subst he
  refine ⟨lim.keeps x.toInCall.keep, codeAny_func ?_⟩
  obtain ⟨t, ht, hq⟩ := hb A ou s H vs Q E (hr.deeper _) hsp
  refine wpAny_mono (ht.run [] s1 (L2.start N vs) H _ (inv_start S hr.rm.hd e0 hl r x) hq) (fun fl s' hs => ?_) fun e s' hs => hs
  match fl, hs with
  | .ret u, ⟨v, _, H', J, rv, q⟩ => exact ⟨v, H', J.os, J.bare, J.base, J.hok, rv, q⟩
  | .next, ⟨_, H', J, q⟩ => exact ⟨V.non, H', J.os, J.bare, J.base, J.hok, rfl, q⟩
  | .brk, ⟨_, _, _, q⟩ => exact False.elim q
  | .cont, ⟨_, _, _, q⟩ => exact False.elim q
theorem okG {P : Program} {w : World} {K : PySem.W.Frag} {mg : Str → Option Value} {base : Heap} {x qual : Str} {st : Stmt} {f : Addr} {fd : FuncData} {N ps : List Str} {k : Nat} {sp : Sp} (F : Fun K x qual st f fd) (S : FnScope N ps (defScope st)) (len : ∀ vs H Q E, sp vs H Q E → vs.length = ps.length)
    (hb : ∀ (cdv : Value) (A : Around) (ou : List Env) (s : Shared) (H : Hp) (vs : List V) (Q : VK) (E : XK), RoomG k (A.deeper (envOfC qual (defScope st) s.heap.objs.size f cdv)) → sp vs H Q E →
      ∃ t, PSs (cxOf CX0 P w K mg base N qual (defScope st) f cdv A ou s H E).nox (defBody st) t ∧ t { nx := fun _ H' => Q .non H', rt := Q } (L2.start N vs) H) : FnG P w K mg base CX0 (k + 1) f fd ps sp := by
  obtain ⟨oc, od, kV, doc, pm, an, cdv, ct, osl, rfl, lk, hcd⟩ := F.ex
  exact fn_G lk hcd S len fun A ou s H vs Q E hr hsp => let ⟨t, h, q⟩ := hb cdv A ou s H vs Q E hr hsp; ⟨t, h.nox, q⟩
/-- the law's call, from the law's promise where no repr is under way -/
theorem lawG {P : Program} {w : World} {K : PySem.W.Frag} {mg mb : Str → Option Value} {CX : CXT} {k : Nat} {fa a : Addr} {fd : FuncData} {x : Str} {sp : Sp} {s₁ : Shared} {vs : List Value} {ns : List Int}
    (KX : K.In s₁.heap) (hns : s₁.heap.Ns mainGlobals mg) (hb : s₁.heap.Ns builtinsNs mb) (hbb : ∀ x : Str, x ≠ "__name__" → mb x = bootBuiltins x) (hlim : s₁.heap.NoLimit) (hg : s₁.gens = #[])
    (ha : s₁.heap.get? a = some { cls := .type "list", data := .seq vs.toArray }) (hi : IntsAre vs ns) (hl : ns.length ≤ sizeLine) (hr : RoomG k callerA)
    (F : ∀ base : Heap, K.In base → base.Ns mainGlobals mg → FnG P w K mg base CX k fa fd [x] sp) (hbind : ∀ (s : Shared) (u : Value), BindsTo s fd ⟨[u], []⟩ [(x, u)])
    (hsp : ∀ H : Hp, Only H → SqL K H a (ns.map V.int) → sp [.ref a] H (fun v _ => v = .bl true) fun _ _ _ => False)
    (hCX : ∀ H e s', CX [] H s₁ (fun _ _ _ => False) e s' → False) :
    codeAny (model P w) callerA (.call (.ref fa) ⟨[.ref a], []⟩) (fun r s' => r = .ok (.ret (.bool true)) ∧ OldK s₁.heap s'.heap ∧ s'.os = s₁.os ∧ AllBare s'.gens) s₁ := by
  have rv := vals_ints hi
  have nl := hi.length
  have main : ∀ H : Hp, Only H → SqL K H a (ns.map V.int) → HOk P w H s₁.heap → (∀ b, H b ≠ none → b = a) → (H a ≠ none → K.lookup a = none) →
      codeAny (model P w) callerA (.call (.ref fa) ⟨[.ref a], []⟩) (fun r s' => r = .ok (.ret (.bool true)) ∧ OldK s₁.heap s'.heap ∧ s'.os = s₁.os ∧ AllBare s'.gens) s₁ := by
    intro H hO hS hok only kno
    have is_a : ∀ {b : Addr} {u : HO}, H b = some u → b = a := fun {b u} q => only b (by rw [q]; simp)
    have at_none : ∀ {b : Addr} {o : Obj}, s₁.heap.get? b = some o → H b = none → (hidT s₁.heap H).get? b = some o := fun e n => hidT_get e n
    have dict_none : ∀ {b : Addr} {o : Obj} {es : Array DictEntry} {ep : Nat}, s₁.heap.get? b = some o → o.data = .dict es ep → H b = none := fun {b o es ep} e d => by
      cases q : H b with
      | none => rfl
      | some u =>
        rw [is_a q, ha] at e
        cases e
        exact nomatch (show Data.seq vs.toArray _ = Data.dict es ep from d)
    have ns_of : ∀ {b : Addr} {m : Str → Option Value}, s₁.heap.Ns b m → (hidT s₁.heap H).Ns b m := fun {b m} ⟨o, es, ep, e, d, r⟩ => ⟨o, es, ep, at_none e (dict_none e d), d, r⟩
    have KB : K.In (hidT s₁.heap H) := fun b o e => at_none (KX b o e) (by
      cases q : H b with
      | none => rfl
      | some u =>
        rw [is_a q, kno (by rw [← is_a q, q]; simp)] at e
        cases e)
    have lim : (hidT s₁.heap H).NoLimit := let ⟨mc, h1, h2⟩ := hlim; ⟨mc, ns_of h1, h2⟩
    have e0 : Env0 P w K mg (hidT s₁.heap H) callerA [] s₁ H := ⟨rfl, ⟨KB, ns_of hns, ⟨mb, ns_of hb, hbb⟩, lim⟩, fun b o e => of_hidT e, Nat.le_of_eq (hidT_size _ _), trivial, fun b hb => absurd (show b ∈ ([] : List Addr) from hb) (by simp), hok, .of_eq hg⟩
    have run := (F _ KB (ns_of hns)).go callerA [] s₁ H ⟨[.ref a], []⟩ [.ref a] [.ref a] _ _ hr e0 (hbind s₁ (.ref a)) (.cons rfl .nil) (hsp H hO hS)
    refine codeAny_mono run fun r s' h => ?_
    match r, h with
    | .error e, h => exact (hCX H e s' h).elim
    | .ok .next, h => exact False.elim h
    | .ok .brk, h => exact False.elim h
    | .ok .cont, h => exact False.elim h
    | .ok (.ret u), ⟨v, H', os, bare, un, hok', r', q⟩ =>
      obtain rfl : v = .bl true := q
      obtain rfl : u = Value.bool true := r'
      refine ⟨rfl, OldK.of_keep fun b o e => ?_, os, bare⟩
      cases q : H b with
      | none => exact un.keep b o e q (fun z => absurd (show b ∈ ([] : List Addr) from z) (by simp)) (by simp)
      | some u =>
        rcases hO b with z | ⟨ob, xs, z⟩
        · rw [q] at z; cases z
        · obtain ⟨e1, _⟩ := hok b _ z
          obtain ⟨e2, _⟩ := hok' b _ (un.frzs b ob _ z)
          rw [e] at e1
          cases e1
          exact e2
  cases hk : K.lookup a with
  | some o =>
    have e := KX a o hk
    rw [ha] at e
    cases e
    exact main (fun _ => none) (fun _ => .inl rfl) (.inr ⟨_, vs.toArray, _, hk, rfl, rfl, rfl, by rw [List.size_toArray, nl]; exact hl, by simpa using rv⟩) (fun b u z => nomatch (show (none : Option HO) = some u from z)) (fun b z => absurd rfl z) fun z => absurd rfl z
  | none =>
    refine main (fun b => if b = a then some (.frz { cls := .type "list", data := .seq vs.toArray } (.lst (ns.map V.int))) else none) (fun b => ?_) (.inl (.inr ⟨{ cls := .type "list", data := .seq vs.toArray }, if_pos rfl⟩)) (fun b u z => ?_) (fun b z => ?_) fun _ => hk
    · by_cases c : b = a
      · exact .inr ⟨_, _, if_pos c⟩
      · exact .inl (if_neg c)
    · by_cases c : b = a
      · cases (if_pos c).symm.trans z
        subst c
        exact ⟨ha, by rw [List.length_map]; exact hl, vs, _, rv, ha⟩
      · cases (if_neg c).symm.trans z
    · by_cases c : b = a
      · exact c
      · exact absurd (if_neg c) z
theorem walk_G {l : PySem.W.OpenLaw} {n k : Nat} {q : Program} {loose : List Str} {XP : (Str → Option Value) → Heap → Prop} {YP : World → Heap → Prop} {d : DefRec} {K : Params → PySem.W.Frag} {CX : World → CXT} {sp : World → Sp} {x : Str}
    (hn : l.most = some n) (hn2 : n ≤ sizeLine) (hdf : d.params.defaults = []) (hr : RoomG k callerA)
    (hY : ∀ (w : World) (h : Heap), YP w h → (K w.params).In h)
    (F : ∀ (w : World) (mg : Str → Option Value) (fa : Addr) (h : Heap), (K w.params).In h → h.Ns mainGlobals mg → mg d.name = some (.ref fa) →
      ∃ fd : FuncData, (∀ (s : Shared) (u : Value), BindsTo s fd ⟨[u], []⟩ [(x, u)]) ∧
        ∀ base : Heap, (K w.params).In base → base.Ns mainGlobals mg → FnG l.prog w (K w.params) mg base (CX w) k fa fd [x] (sp w))
    (hsp : ∀ (w : World) (H : Hp) (a : Addr) (ns : List Int), ns.length ≤ n → Only H → SqL (K w.params) H a (ns.map V.int) → sp w [.ref a] H (fun v _ => v = .bl true) fun _ _ _ => False)
    (hCX : ∀ (w : World) (H : Hp) (s : Shared) (e : Value) (s' : Shared), CX w [] H s (fun _ _ _ => False) e s' → False) :
    PySem.W.WalkO q loose XP YP l.row.toRowW d [] (fun f vs => PySem.call f vs) :=
  Att.attach_call hn hdf fun w s₀ s₁ mg mb fa o pm cd doc a vs ns G Y ho hd hcd hmg hobj hints hlen hg =>
    let ⟨fd, hb, hF⟩ := F w mg fa _ (hY w _ Y) G.T.g hmg
    lawG (hY w _ Y) G.T.g G.T.b G.T.builtins G.T.nolimit hg hobj hints (Nat.le_trans hlen hn2) hr hF hb (fun H hO hS => hsp w H a ns hlen hO hS) fun H e s' => hCX w H s₁ e s'

/-! ## repr of data -/
theorem repr_any {prog : Program} {w : World} {A : Around} {E : Value → Shared → Prop} {s : Shared} {v : Value} {d : PyData} {as : List Addr} {Q : Value → Shared → Prop} (r : Reads s.heap v d as) (hs : d.showable = true) (hl : d.canLay0 = true)
    (hg : A.guards = some []) (hu : A.units + (d.depth + 1) < cLine) (hz : d.shown.length ≤ sizeLine)
    (hQ : ∀ h' u tk, (∀ b o, s.heap.get? b = some o → h'.get? b = some o) → Q (.str d.shown u) { s with heap := h', toks := tk }) : wpAny (model prog w) A (call (.builtin "repr") [v]) Q E s := by
  have same : ∀ b o, s.heap.get? b = some o → s.heap.get? b = some o := fun _ _ e => e
  cases r with
  | none => exact PySem.P.repr_of_none (hQ s.heap _ _ same)
  | bool b =>
    refine PySem.P.repr_of_bool ?_
    have := hQ s.heap s.toks (s.toks + 1) same
    simpa only [PyData.shown] using this
  | int i t =>
    refine PySem.P.repr_of_int (by simpa [PyData.showable] using hs) ?_
    have := hQ s.heap s.toks (s.toks + 1) same
    simpa only [PyData.shown] using this
  | str x t =>
    refine PySem.P.repr_of_str ?_ (by simpa only [PyData.shown] using hz)
    have := hQ s.heap s.toks (s.toks + 1) same
    simpa only [PyData.shown] using this
  | list h1 h2 h3 h4 => exact repr_of_reads' (.list h1 h2 h3 h4) hs (PyData.noDict_hsm (PyData.hasDict_of_canLay _ hl)) hg hu same hQ hz
  | tuple h1 h2 h3 h4 => exact repr_of_reads' (.tuple h1 h2 h3 h4) hs (PyData.noDict_hsm (PyData.hasDict_of_canLay _ hl)) hg hu same hQ hz
  | dict h1 h2 h3 h4 h5 => exact nomatch (show false = true from by simpa [PyData.canLay0] using hl)
/-- repr(x), x data without dicts -/
def rRepr (K : PySem.W.Frag) : List V → Hp → VK → Prop := fun xs H Q => ∃ x d, xs = [x] ∧ Dp K H x d ∧ d.showable = true ∧ d.canLay0 = true ∧ d.depth ≤ 60 ∧ d.shown.length ≤ sizeLine ∧ Q (.str d.shown) H
theorem cr_repr {X : Cx} {k : Nat} (hr : RoomG k X.A) : CallR X (.builtin "repr") (rRepr X.K) := by
  intro pins s σ H xs us Q I r h
  obtain ⟨x, d, rfl, hd, hs, hl, hn, hz, q⟩ := h
  obtain ⟨u, rfl, ru⟩ := vals1 r
  obtain ⟨as, rd⟩ := Dp.reads I d x u hd ru
  have hu := hr.units
  exact repr_any rd hs hl hr.gd (by omega) hz fun h' u tk kp => ⟨.str _, H, I.kept (t' := tk) kp, ⟨_, rfl⟩, q⟩
section
variable {nx bk ct : L2.St → Hp → Prop} {rt : VK}
variable {W : Wd} {G : Gam} {T : Tms} {cs : Cells} {K : Sl → Cells → Prop} {t ta tb : TE}
def oRepr (d : PyData) : Option Str := if d.showable = true ∧ d.shown.length ≤ sizeLine then some d.shown else none
variable {KF : PySem.W.Frag}
theorem e_repr {t : TA} (h : EvA t W G T cs fun sls cs1 => ∃ (α : Type) (_ : DecidableEq α) (r : R α) (e : REq r) (x : α) (z : Str), sls = [r.at x] ∧ e.n ≤ 60 ∧ oRepr (e.d x) = some z ∧ K (rStr.at z) cs1) :
    Ev (tCB (rRepr KF) t) W G T cs K := fun s H st Q q => by
  refine h s H st _ fun sls cs1 ⟨α, _, r, e, x, z, e1, hn, ho, k⟩ vs H1 ⟨F, c, sg, tm, ar⟩ => ?_
  subst e1
  obtain ⟨v, rfl, hv⟩ : ∃ v, vs = [v] ∧ r.p x F v := by
    cases ar with
    | cons p a => cases a; exact ⟨_, rfl, p⟩
  unfold oRepr at ho
  split at ho
  · rename_i hh
    cases ho
    exact ⟨v, e.d x, rfl, e.ok hv c.fh, hh.1, e.lay x, Nat.le_trans (e.dep x) hn, hh.2, q _ _ k _ H1 ⟨F, c, sg, tm.cons rfl⟩⟩
  · cases ho
end
end ML

namespace ML
open PySem Spec PyProof.Rows L2
/-! ## tables of sets with 8, 32, 128, 512 and 2048 places -/
/-- the round meets every place, from every place -/
structure Rnd (m : Nat) : Prop where
  odd : m % 2 = 1
  big : m ≤ 4095
  one : m = 7 ∨ m = 31 ∨ m = 127 ∨ m = 511 ∨ m = 2047
  goes : ∀ i j, i ≤ m → j ≤ m → ∃ k, k ≤ m ∧ lcgI m i k = j
/-- the places that k steps meet, as bits -/
def sweep (m : Nat) : Nat → Nat → Nat → Nat
  | 0, _, acc => acc
  | k + 1, x, acc => sweep m k ((x * 5 + 1) % (m + 1)) (acc ||| 1 <<< x)
theorem lcg_front (m x : Nat) : ∀ k, lcgI m ((x * 5 + 1) % (m + 1)) k = lcgI m x (k + 1)
  | 0 => rfl
  | k + 1 => by
    show (lcgI m _ k * 5 + 1) % (m + 1) = (lcgI m x (k + 1) * 5 + 1) % (m + 1)
    rw [lcg_front m x k]
theorem sweep_bit (m : Nat) {j : Nat} : ∀ k x acc, (sweep m k x acc).testBit j = true → acc.testBit j = true ∨ ∃ b, b < k ∧ lcgI m x b = j
  | 0, x, acc, h => .inl h
  | k + 1, x, acc, h => by
    rcases sweep_bit m k _ _ h with z | ⟨b, hb, e⟩
    · rw [Nat.testBit_or, Bool.or_eq_true] at z
      rcases z with z | z
      · exact .inl z
      · refine .inr ⟨0, Nat.succ_pos _, ?_⟩
        rw [Nat.one_shiftLeft, Nat.testBit_two_pow, decide_eq_true_iff] at z
        exact z
    · exact .inr ⟨b + 1, Nat.succ_lt_succ hb, by rw [← lcg_front]; exact e⟩
theorem lcg_zero (m : Nat) : ∀ k, lcgN m k = lcgI m 0 k
  | 0 => rfl
  | k + 1 => by
    show (lcgN m k * 5 + 1) % (m + 1) = (lcgI m 0 k * 5 + 1) % (m + 1)
    rw [lcg_zero m k]
theorem Rnd.of {n m : Nat} (e : m + 1 = 2 ^ n) (odd : m % 2 = 1) (big : m ≤ 4095) (one : m = 7 ∨ m = 31 ∨ m = 127 ∨ m = 511 ∨ m = 2047) (h : sweep m (m + 1) 0 0 = 2 ^ (m + 1) - 1) (z : lcgN m (m + 1) = 0) : Rnd m := by
  have met : ∀ j, j ≤ m → ∃ b, b ≤ m ∧ lcgN m b = j := fun j hj => by
    have t : (sweep m (m + 1) 0 0).testBit j = true := by
      rw [h, Nat.testBit_two_pow_sub_one, decide_eq_true_iff]
      omega
    rcases sweep_bit m _ _ _ t with q | ⟨b, hb, q⟩
    · rw [Nat.zero_testBit] at q; cases q
    · exact ⟨b, by omega, by rw [lcg_zero]; exact q⟩
  have turn : ∀ k, lcgN m (m + 1 + k) = lcgN m k := fun k => by
    induction k with
    | zero => exact z
    | succ k ih =>
      show (lcgN m (m + 1 + k) * 5 + 1) % (m + 1) = (lcgN m k * 5 + 1) % (m + 1)
      rw [ih]
  refine ⟨odd, big, one, fun i j hi hj => ?_⟩
  obtain ⟨a, a1, a2⟩ := met i hi
  obtain ⟨b, b1, b2⟩ := met j hj
  subst a2 b2
  by_cases c : a ≤ b
  · exact ⟨b - a, by omega, (lcgN_add m a _).trans (congrArg _ (by omega))⟩
  · exact ⟨m + 1 + b - a, by omega, ((lcgN_add m a _).trans (congrArg _ (by omega : a + (m + 1 + b - a) = m + 1 + b))).trans (turn b)⟩
theorem rnd7 : Rnd 7 := .of (n := 3) rfl rfl (by decide) (by decide) (by decide +kernel) (by decide +kernel)
theorem rnd31 : Rnd 31 := .of (n := 5) rfl rfl (by decide) (by decide) (by decide +kernel) (by decide +kernel)
theorem rnd127 : Rnd 127 := .of (n := 7) rfl rfl (by decide) (by decide) (by decide +kernel) (by decide +kernel)
theorem rnd511 : Rnd 511 := .of (n := 9) rfl rfl (by decide) (by decide) (by decide +kernel) (by decide +kernel)
theorem rnd2047 : Rnd 2047 := .of (n := 11) rfl rfl (by decide) (by decide) (by decide +kernel) (by decide +kernel)
/-- the way of a search meets every place -/
theorem Rnd.run {m : Nat} (r : Rnd m) (h : Int) {j : Nat} (hj : j ≤ m) : ∃ n, n ≤ m + 12 ∧ runI m (SetTable.bits h) n = j := by
  obtain ⟨k, k1, k2⟩ := r.goes _ j (runI_le m (SetTable.bits h) 12) hj
  refine ⟨12 + k, by omega, ?_⟩
  rw [runI_tail (bits_lt h)]
  exact k2
theorem Rnd.hit {m : Nat} (r : Rnd m) (h : Int) {j : Nat} (hj : j ≤ m) : ∃ k, k < 10 * SetTable.turns m ∧ way m h k = j := by
  obtain ⟨n, n1, n2⟩ := r.run h hj
  obtain ⟨k, k1, k2⟩ := run_nth m (SetTable.bits h) n
  have : k < 10 * SetTable.turns m := by
    unfold SetTable.turns
    omega
  exact ⟨k, this, (congrArg SetTable.Probe.j k2).trans n2⟩
theorem way_in (m : Nat) (h : Int) (k : Nat) : way m h k ≤ m := by
  have lo : SetTable.bits h % (m + 1) ≤ m := Nat.le_of_lt_succ (Nat.mod_lt _ (Nat.succ_pos m))
  obtain ⟨r1, r2, _⟩ := runEnd_bd lo
  have := nth_in (m := m) k (runAt m (SetTable.bits h % (m + 1)) (SetTable.bits h)) (by unfold runAt; dsimp only; omega)
  exact Nat.le_trans (Nat.le_add_right _ _) this
/-- the table's word: every hash is found again on its way -/
structure TabB (t : SetTable) (hs : List Int) : Prop where
  up : Ris t.place.toList
  nodum : t.dummies = #[]
  len : t.place.size = hs.length
  rnd : Rnd t.mask
  low : ∀ x ∈ t.place.toList, x ≤ t.mask
  met : ∀ (i : Nat) (h : Int) (j : Nat), hs[i]? = some h → t.place.toList[i]? = some j → ∃ c, way t.mask h c = j ∧ ∀ b, b < c → way t.mask h b ∈ t.place.toList
section
variable {t : SetTable} {hs : List Int}
theorem TabB.first (T : TabB t hs) (few : hs.length ≤ t.mask) (h : Int) : ∃ N, N < 10 * SetTable.turns t.mask ∧ way t.mask h N ∉ t.place.toList ∧ ∀ c, c < N → way t.mask h c ∈ t.place.toList := by
  obtain ⟨j, j1, j2⟩ := st_missing t.place.toList (t.mask + 1) (by have := T.len; rw [Array.length_toList]; omega)
  obtain ⟨c, c1, c2⟩ := T.rnd.hit h (Nat.le_of_lt_succ j1)
  have at_c : way t.mask h c ∉ t.place.toList := by
    rw [c2]
    exact j2
  obtain ⟨N, n1, n2, n3⟩ := st_least (p := fun c => way t.mask h c ∉ t.place.toList) c at_c
  exact ⟨N, by omega, n2, fun b hb => Classical.byContradiction (n3 b hb)⟩
theorem TabB.before (T : TabB t hs) {h : Int} {N i j : Nat} (free : way t.mask h N ∉ t.place.toList) (hi : hs[i]? = some h) (hj : t.place.toList[i]? = some j) : ∃ c, c < N ∧ way t.mask h c = j := by
  obtain ⟨c, c1, c2⟩ := T.met i h j hi hj
  refine ⟨c, Classical.byContradiction fun z => ?_, c1⟩
  by_cases q : N = c
  · exact free (by rw [q, c1]; exact List.mem_of_getElem? hj)
  · exact free (c2 N (by omega))
theorem TabB.put (T : TabB t hs) {h : Int} {N : Nat} (free : way t.mask h N ∉ t.place.toList) (full : ∀ c, c < N → way t.mask h c ∈ t.place.toList) :
    (t.put (way t.mask h N)).2 = SetTable.below t.place (way t.mask h N) ∧ SetTable.below t.place (way t.mask h N) ≤ hs.length ∧
      TabB (t.put (way t.mask h N)).1 (hs.take (SetTable.below t.place (way t.mask h N)) ++ h :: hs.drop (SetTable.below t.place (way t.mask h N))) ∧
      (t.put (way t.mask h N)).1.mask = t.mask ∧ (t.put (way t.mask h N)).1.led = t.led ∧ (t.put (way t.mask h N)).1.plain = t.plain ∧ (t.put (way t.mask h N)).1.fill = hs.length + 1 := by
  have inside := way_in t.mask h N
  generalize ew : way t.mask h N = j at free inside ⊢
  have cut := (below_cut T.up j).1
  have ln : t.place.toList.length = hs.length := Array.length_toList.trans T.len
  have other : t.place[SetTable.below t.place j]? ≠ some j := fun z => free (List.mem_of_getElem? (i := SetTable.below t.place j) (by rw [Array.getElem?_toList]; exact z))
  have pl := put_place t j
  have up : Ris (t.put j).1.place.toList := ris_insert T.up other
  have at_ : (t.put j).2 = SetTable.below t.place j := rfl
  generalize SetTable.below t.place j = p at cut pl up at_ ⊢
  have p1 : p ≤ hs.length := by rw [← T.len]; exact cut
  have p2 : p ≤ t.place.toList.length := by rw [ln]; exact p1
  have old : ∀ x, x ∈ t.place.toList → x ∈ (t.put j).1.place.toList := fun x hx => by
    rw [pl]
    exact mem_ins.mpr (.inr hx)
  have sz : (t.put j).1.place.size = hs.length + 1 := by
    rw [← Array.length_toList, pl, len_ins _ p2, ln]
  have keep : ∀ (i : Nat) (g : Int) (x : Nat), hs[i]? = some g → t.place.toList[i]? = some x → ∃ c, way t.mask g c = x ∧ ∀ b, b < c → way t.mask g b ∈ (t.put j).1.place.toList := fun i g x a b =>
    let ⟨c, c1, c2⟩ := T.met i g x a b
    ⟨c, c1, fun b hb => old _ (c2 b hb)⟩
  refine ⟨at_, p1, ?_, rfl, rfl, rfl, ?_⟩
  · refine ⟨?_, put_dm T.nodum j, sz.trans (len_ins _ p1 h).symm, T.rnd, fun x hx => ?_, fun i g x a b => ?_⟩
    · exact up
    · rw [pl] at hx
      exact (mem_ins.mp hx).elim (fun e => e ▸ inside) (T.low x)
    · rw [pl, tins_get _ p2] at b
      rw [tins_get _ p1] at a
      by_cases lt : i < p
      · rw [if_pos lt] at a b
        exact keep i g x a b
      · rw [if_neg lt] at a b
        by_cases eq : i = p
        · rw [if_pos eq] at a b
          cases a
          cases b
          exact ⟨N, ew, fun c hc => old _ (full c hc)⟩
        · rw [if_neg eq] at a b
          exact keep (i - 1) g x a b
  · unfold SetTable.fill
    rw [sz, put_dm T.nodum j]
    rfl
end
/-! ### laying all anew -/
theorem Rnd.free {m : Nat} (r : Rnd m) (owner : Array (Option Nat)) (h : Int) {j : Nat} (hj : j ≤ m) (empty : oAt owner j = none) :
    ∃ N, SetTable.layClean.free m owner (SetTable.turns m) (SetTable.bits h % (m + 1)) (SetTable.bits h) = some (way m h N) ∧ oAt owner (way m h N) = none ∧ ∀ c, c < N → oAt owner (way m h c) ≠ none := by
  obtain ⟨n, n1, n2⟩ := r.run h hj
  generalize eo : off m (SetTable.bits h % (m + 1)) (SetTable.bits h) n = o
  have there : way m h o = j := by
    rw [← eo]
    refine (congrArg SetTable.Probe.j (nth_off m n _ _)).trans ?_
    rw [itL_run]
    exact n2
  obtain ⟨N, N1, N2, N3⟩ := st_least (p := fun c => oAt owner (way m h c) = none) o (by rw [there]; exact empty)
  refine ⟨N, free_spec m owner (SetTable.turns m) n _ _ N ?_ (by rw [eo]; exact N1) (fun c hc => ?_) ?_, N2, N3⟩
  · show n < m + 15
    omega
  · have := N3 c hc
    cases q : oAt owner (nth m (runAt m (SetTable.bits h % (m + 1)) (SetTable.bits h)) c).j with
    | none => exact absurd q this
    | some x => rfl
  · exact Option.isNone_iff_eq_none.mpr N2
/-- who sits where: the k-th hash sits at the k-th of the places -/
structure Sits (m : Nat) (hs : List Int) (owner : Array (Option Nat)) (ps : List Nat) : Prop where
  size : owner.size = m + 1
  len : ps.length = hs.length
  low : ∀ j ∈ ps, j ≤ m
  iff : ∀ j k, j ≤ m → (oAt owner j = some k ↔ ps[k]? = some j)
  met : ∀ (k : Nat) (h : Int) (j : Nat), hs[k]? = some h → ps[k]? = some j → ∃ c, way m h c = j ∧ ∀ b, b < c → oAt owner (way m h b) ≠ none
theorem Sits.nil (m : Nat) : Sits m [] (Array.replicate (m + 1) none) [] := by
  refine ⟨Array.size_replicate, rfl, fun j h => (nomatch h), fun j k hj => ⟨fun z => ?_, fun z => (nomatch z)⟩, fun k h j a => (nomatch a)⟩
  rw [oAt_init hj] at z
  cases z
theorem Sits.more {m : Nat} (r : Rnd m) {hs : List Int} {owner : Array (Option Nat)} {ps : List Nat} (S : Sits m hs owner ps) (few : hs.length ≤ m) (h : Int) :
    ∃ j, stepF m (some (owner, hs.length)) h = some (owner.setIfInBounds j (some hs.length), hs.length + 1) ∧ Sits m (hs ++ [h]) (owner.setIfInBounds j (some hs.length)) (ps ++ [j]) := by
  obtain ⟨e, e1, e2⟩ := st_missing ps (m + 1) (by have := S.len; omega)
  have lo : e ≤ m := Nat.le_of_lt_succ e1
  have empty : oAt owner e = none := by
    cases q : oAt owner e with
    | none => rfl
    | some k => exact absurd (List.mem_of_getElem? ((S.iff e k lo).mp q)) e2
  obtain ⟨N, N1, N2, N3⟩ := r.free owner h lo empty
  have inside := way_in m h N
  refine ⟨way m h N, stepF_some N1, ?_⟩
  generalize ew : way m h N = j at N2 inside ⊢
  have own : oAt (owner.setIfInBounds j (some hs.length)) j = some hs.length := oAt_set_self _ (by rw [S.size]; omega)
  have rest : ∀ i, i ≠ j → oAt (owner.setIfInBounds j (some hs.length)) i = oAt owner i := fun i hi => oAt_set_ne _ hi
  have stay : ∀ i, oAt owner i ≠ none → oAt (owner.setIfInBounds j (some hs.length)) i ≠ none := fun i hi => by
    by_cases q : i = j
    · rw [q, own]; exact fun z => nomatch z
    · rw [rest i q]; exact hi
  have size : (owner.setIfInBounds j (some hs.length)).size = m + 1 := Array.size_setIfInBounds.trans S.size
  generalize owner.setIfInBounds j (some hs.length) = owner' at own rest stay size ⊢
  have get : ∀ {α : Type} (l : List α) (x : α) (k : Nat), (l ++ [x])[k]? = if k < l.length then l[k]? else if k = l.length then some x else none := fun l x k => by
    rw [List.getElem?_append]
    split
    · rfl
    · by_cases q : k = l.length
      · rw [if_pos q, q, Nat.sub_self]; rfl
      · rw [if_neg q]
        obtain ⟨d, hd⟩ : ∃ d, k - l.length = d + 1 := ⟨k - l.length - 1, by omega⟩
        rw [hd]; rfl
  refine ⟨size, by rw [List.length_append, List.length_append, S.len]; rfl, fun i hi => ?_, fun i k hi => ?_, fun k g i a b => ?_⟩
  · rcases List.mem_append.mp hi with z | z
    · exact S.low i z
    · rw [List.mem_singleton.mp z]; exact inside
  · rw [get, S.len]
    by_cases q : i = j
    · subst q
      rw [own]
      by_cases a : k < hs.length
      · rw [if_pos a]
        refine ⟨fun z => ?_, fun z => ?_⟩
        · have := Option.some.inj z
          omega
        · have := (S.iff i k hi).mpr z
          rw [N2] at this
          cases this
      · rw [if_neg a]
        by_cases b : k = hs.length
        · rw [if_pos b, b]; simp
        · rw [if_neg b]
          exact ⟨fun z => absurd (Option.some.inj z).symm b, fun z => nomatch z⟩
    · rw [rest i q, S.iff i k hi]
      by_cases a : k < hs.length
      · rw [if_pos a]
      · rw [if_neg a, List.getElem?_eq_none (by have := S.len; omega)]
        by_cases b : k = hs.length
        · rw [if_pos b]
          exact ⟨fun z => (nomatch z), fun z => absurd (Option.some.inj z).symm q⟩
        · rw [if_neg b]
  · rw [get] at a b
    rw [S.len] at b
    by_cases lt : k < hs.length
    · rw [if_pos lt] at a b
      obtain ⟨c, c1, c2⟩ := S.met k g i a b
      exact ⟨c, c1, fun b hb => stay _ (c2 b hb)⟩
    · rw [if_neg lt] at a b
      by_cases q : k = hs.length
      · rw [if_pos q] at a b
        cases a
        cases b
        exact ⟨N, ew, fun c hc => stay _ (N3 c hc)⟩
      · rw [if_neg q] at a
        cases a
theorem Sits.fold {m : Nat} (r : Rnd m) : ∀ (gs hs : List Int) (owner : Array (Option Nat)) (ps : List Nat), Sits m hs owner ps → hs.length + gs.length ≤ m →
    ∃ owner' ps', gs.foldl (stepF m) (some (owner, hs.length)) = some (owner', (hs ++ gs).length) ∧ Sits m (hs ++ gs) owner' ps'
  | [], hs, owner, ps, S, _ => ⟨owner, ps, by rw [List.append_nil]; rfl, by rw [List.append_nil]; exact S⟩
  | g :: gs, hs, owner, ps, S, few => by
    rw [List.length_cons] at few
    obtain ⟨j, e, S1⟩ := S.more r (by omega) g
    have ln : (hs ++ [g]).length = hs.length + 1 := List.length_append
    obtain ⟨owner', ps', f, S2⟩ := Sits.fold r gs _ _ _ S1 (by rw [ln]; omega)
    rw [ln, List.append_assoc] at f
    rw [List.append_assoc] at S2
    exact ⟨owner', ps', by rw [List.foldl_cons, e]; exact f, S2⟩
/-- all laid anew: a table of the same hashes, in some order -/
theorem Rnd.relaid {M : Nat} (r : Rnd M) (t : SetTable) {hs : Array Int} {want : Nat} (hw : SetTable.sizeAbove want - 1 = M) (few : hs.size ≤ M) :
    ∃ t' order, t.relaid hs want = some (t', order) ∧ order.toList.Perm (List.range hs.size) ∧ TabB t' (order.toList.map fun i => hs.getD i 0) ∧ t'.mask = M ∧ t'.led = t.led ∧ t'.plain = t.plain := by
  obtain ⟨owner, ps, f, S⟩ := Sits.fold r hs.toList [] _ [] (Sits.nil M) (by rw [Array.length_toList]; show 0 + hs.size ≤ M; omega)
  have lay : SetTable.layClean M hs = some owner := by
    rw [layClean_eq]
    exact congrArg (Option.map (·.1)) f
  rw [List.nil_append] at S
  have ln : ps.length = hs.size := S.len.trans Array.length_toList
  obtain ⟨ris, sub⟩ := ris_live (fun j => owner.getD j none) (List.range (M + 1)) List.pairwise_lt_range
  have mem : ∀ j k, (j, k) ∈ liveOf M owner ↔ ps[k]? = some j := fun j k => by
    rw [mem_live S.size]
    exact ⟨fun z => (S.iff j k z.1).mp z.2, fun z => have lo := S.low j (List.mem_of_getElem? z); ⟨lo, (S.iff j k lo).mpr z⟩⟩
  have ordered : (((liveOf M owner).map (·.2))).Perm (List.range hs.size) := by
    have live : (liveOf M owner).Nodup := nodup_of_map (List.Pairwise.imp (fun z => Nat.ne_of_lt z) ris)
    have nd : ((liveOf M owner).map (·.2)).Nodup := by
      refine List.pairwise_map.mpr (List.Pairwise.imp_of_mem (fun {x y} hx hy ne e => ne ?_) live)
      obtain ⟨x1, x2⟩ := x
      obtain ⟨y1, y2⟩ := y
      have e : x2 = y2 := e
      have a := (mem x1 x2).mp hx
      rw [e, (mem y1 y2).mp hy] at a
      rw [e, Option.some.inj a]
    refine (List.perm_ext_iff_of_nodup nd List.nodup_range).mpr fun k => ?_
    rw [List.mem_range, List.mem_map]
    constructor
    · rintro ⟨⟨j, _⟩, hx, rfl⟩
      have := (List.getElem?_eq_some_iff.mp ((mem j _).mp hx)).1
      rw [← ln]
      exact this
    · intro hk
      rw [← ln] at hk
      exact ⟨(ps[k], k), (mem _ _).mpr (List.getElem?_eq_getElem hk), rfl⟩
  refine ⟨tabOf t M owner, ((liveOf M owner).map (·.2)).toArray, ?_, ordered, ⟨ris, rfl, ?_, r, fun x hx => ?_, fun i h j a b => ?_⟩, rfl, rfl, rfl⟩
  · rw [relaid_eq, hw, lay]
    rfl
  · show ((liveOf M owner).map (·.1)).toArray.size = (((liveOf M owner).map (·.2)).map _).length
    simp
  · exact Nat.le_of_lt_succ (List.mem_range.mp (sub x hx))
  · have a' : ((liveOf M owner).map fun q => hs.getD q.2 0)[i]? = some h := by
      have : ((((liveOf M owner).map (·.2))).map fun k => hs.getD k 0)[i]? = some h := a
      rwa [List.map_map] at this
    have b' : ((liveOf M owner).map (·.1))[i]? = some j := b
    rw [List.getElem?_map, Option.map_eq_some_iff] at a' b'
    obtain ⟨⟨j', k⟩, q1, q2⟩ := a'
    obtain ⟨q, q3, q4⟩ := b'
    rw [q1] at q3
    cases q3
    have q2 : hs.getD k 0 = h := q2
    have q4 : j' = j := q4
    subst q4
    have pk := (mem j' k).mp (List.mem_of_getElem? q1)
    have hk : k < hs.size := by
      have := (List.getElem?_eq_some_iff.mp pk).1
      omega
    have e : hs.toList[k]? = some h := by
      rw [Array.getElem?_toList, Array.getElem?_eq_getElem hk, ← q2, Array.getD_eq_getD_getElem?, Array.getElem?_eq_getElem hk]
      rfl
    obtain ⟨c, c1, c2⟩ := S.met k h j' e pk
    refine ⟨c, c1, fun b hb => ?_⟩
    have lo := way_in M h b
    cases z : oAt owner (way M h b) with
    | none => exact absurd z (c2 b hb)
    | some k' => exact List.mem_map.mpr ⟨(way M h b, k'), (mem_live S.size).mpr ⟨lo, z⟩, rfl⟩
theorem size_308 : SetTable.sizeAbove (SetTable.grown 77) = 512 := by decide +kernel
theorem size_1228 : SetTable.sizeAbove (SetTable.grown 307) = 2048 := by decide +kernel
end ML

namespace ML
open PySem Spec PyProof.Rows L2
/-! ## sets of tuples of tuples and ints -/
mutual
/-- whole numbers and tuples of them, of any depth -/
def numK : NestedKey → Bool
  | .num _ => true
  | .tup ks => numKs ks
  | _ => false
def numKs : List NestedKey → Bool
  | [] => true
  | k :: ks => numK k && numKs ks
end
theorem numKs_mem : ∀ {ks : List NestedKey}, numKs ks = true → ∀ k ∈ ks, numK k = true
  | [], _, k, hk => nomatch hk
  | k0 :: ks, h, k, hk => by
    rw [numKs, Bool.and_eq_true] at h
    rcases List.mem_cons.mp hk with e | hk
    · rw [e]; exact h.1
    · exact numKs_mem h.2 k hk
theorem depth_mem : ∀ {ks : List NestedKey} {k : NestedKey}, k ∈ ks → k.depth ≤ NestedKey.depthAll ks
  | k0 :: ks, k, hk => by
    rw [NestedKey.depthAll]
    rcases List.mem_cons.mp hk with e | hk
    · rw [e]; omega
    · have := depth_mem hk; omega
theorem nested_mem {h : Heap} : ∀ {ks : List NestedKey} {vs : List Value}, NestedAll h ks vs → ∀ v ∈ vs, ∃ k ∈ ks, NestedIs h k v
  | _, _, .cons a b, v, hv => by
    rcases List.mem_cons.mp hv with e | hv
    · subst e; exact ⟨_, List.mem_cons_self, a⟩
    · obtain ⟨k, h1, h2⟩ := nested_mem b v hv
      exact ⟨k, List.mem_cons_of_mem _ h1, h2⟩
mutual
/-- v is the key k, its numbers no bools -/
inductive PN (h : Heap) : NestedKey → Value → Prop
  | num (i t) : PN h (.num i) (.int i t)
  | tup {a o vs n ks} : h.get? a = some o → o.cls = .type "tuple" → o.data = .seq vs n → PNs h ks vs.toList → PN h (.tup ks) (.ref a)
inductive PNs (h : Heap) : List NestedKey → List Value → Prop
  | nil : PNs h [] []
  | cons {k v ks vs} : PN h k v → PNs h ks vs → PNs h (k :: ks) (v :: vs)
end
mutual
theorem PN.is {h : Heap} : ∀ {k : NestedKey} {v : Value}, PN h k v → NestedIs h k v
  | _, _, .num i t => .int i t
  | _, _, .tup h1 h2 h3 h4 => .tup h1 h2 h3 h4.is
theorem PNs.is {h : Heap} : ∀ {ks : List NestedKey} {vs : List Value}, PNs h ks vs → NestedAll h ks vs
  | _, _, .nil => .nil
  | _, _, .cons a b => .cons a.is b.is
end
mutual
theorem PN.at {h h' : Heap} (g : ∀ a o vs n, h.get? a = some o → o.cls = .type "tuple" → o.data = .seq vs n → h'.get? a = some o) : ∀ {k : NestedKey} {v : Value}, PN h k v → PN h' k v
  | _, _, .num i t => .num i t
  | _, _, .tup h1 h2 h3 h4 => .tup (g _ _ _ _ h1 h2 h3) h2 h3 (h4.at g)
theorem PNs.at {h h' : Heap} (g : ∀ a o vs n, h.get? a = some o → o.cls = .type "tuple" → o.data = .seq vs n → h'.get? a = some o) : ∀ {ks : List NestedKey} {vs : List Value}, PNs h ks vs → PNs h' ks vs
  | _, _, .nil => .nil
  | _, _, .cons a b => .cons (a.at g) (b.at g)
end
mutual
theorem PN.of {h : Heap} : ∀ {k : NestedKey} {v : Value} {as : List Addr}, Reads h v k.data as → numK k = true → PN h k v
  | .num i, _, _, r, _ => by cases r; exact .num _ _
  | .tup ks, _, _, r, hn => by
    rw [numK] at hn
    cases r with
    | tuple h1 h2 h3 h4 => exact .tup h1 h2 h3 (PNs.of h4 hn)
  | .none, _, _, _, hn => nomatch hn
  | .text _, _, _, _, hn => nomatch hn
theorem PNs.of {h : Heap} : ∀ {ks : List NestedKey} {vs : List Value} {as : List Addr}, ReadsAll h vs (NestedKey.datas ks) as → numKs ks = true → PNs h ks vs
  | [], _, _, r, _ => by cases r; exact .nil
  | k :: ks, _, _, r, hn => by
    rw [numKs, Bool.and_eq_true] at hn
    cases r with
    | cons r1 r2 => exact .cons (PN.of r1 hn.1) (PNs.of r2 hn.2)
end
/-- the tuple at a is the key k -/
structure NI (h : Heap) (k : NestedKey) (a : Addr) : Prop where
  pn : PN h k (.ref a)
  dp : k.depth ≤ 8
  nm : numK k = true
theorem NI.is {h : Heap} {k : NestedKey} {a : Addr} (x : NI h k a) : NestedIs h k (.ref a) := x.pn.is
theorem NI.grow {h h' : Heap} {k : NestedKey} {a : Addr} (x : NI h k a) (g : ∀ c o, h.get? c = some o → h'.get? c = some o) : NI h' k a :=
  ⟨x.pn.at (fun a o _ _ e _ _ => g a o e), x.dp, x.nm⟩
theorem NI.same {h h' : Heap} {k : NestedKey} {a b : Addr} {o : Obj} {es : Array (Int × Value)} {ep : Nat} {t : SetTable} (x : NI h k b) (ho : h.get? a = some o) (hd : o.data = .set es ep t) (hs : Heap.SameBut a h h') : NI h' k b := by
  refine ⟨x.pn.at (fun c u vs n hc _ hv => ?_), x.dp, x.nm⟩
  refine (hs.2 c fun e => ?_).trans hc
  subst e
  rw [ho] at hc
  cases hc
  rw [hd] at hv
  cases hv
section
variable {P : Program} {w : World} {A : Around} {E : Value → Shared → Prop} {s : Shared}
theorem no_cls : ∀ (n : Nat) (k : NestedKey) (v : Value) (Q : Bool → Shared → Prop), NestedIs s.heap k v → k.depth ≤ n → Q false s → wpAny (model P w) A (ofAClassStatement n v) Q E s := by
  intro n
  induction n with
  | zero =>
    intro k v Q x hd q
    cases x with
    | none => exact wpAny_pure q
    | bool _ => exact wpAny_pure q
    | int _ _ => exact wpAny_pure q
    | text _ _ => exact wpAny_pure q
    | tup _ _ _ _ => rw [NestedKey.depth] at hd; omega
  | succ n ih =>
    intro k v Q x hd q
    cases x with
    | none => exact wpAny_pure q
    | bool _ => exact wpAny_pure q
    | int _ _ => exact wpAny_pure q
    | text _ _ => exact wpAny_pure q
    | @tup a o vs m ks ho hc hdt hk =>
      rw [NestedKey.depth] at hd
      unfold ofAClassStatement
      refine wpAny_bind (wpAny_typeOf (T := "tuple") ⟨o, ho, hc⟩ ?_)
      dsimp only
      have e : (("tuple" : String) == "tuple") = true := by decide
      simp only [e, if_true, Bool.not_true, Bool.false_eq_true, if_false]
      try refine wpAny_bind (wpAny_pure ?_)
      try simp only [Bool.not_true, Bool.false_eq_true, if_false]
      show wpAny _ _ (seqItems? (.ref a) >>= _) _ _ s
      refine wpAny_bind (wpAny_seqItems ho hdt ?_)
      dsimp only
      refine wpAny_bind ?_
      show wpAny _ _ (forIn vs _ _) _ _ s
      rw [← Array.forIn_toList]
      refine wpAny_forIn_list _ (fun rest r s' => r.1 = none ∧ s' = s ∧ ∀ v ∈ rest, v ∈ vs.toList) _ ?_ ?_ _ _ ⟨rfl, rfl, fun v hv => hv⟩
      · rintro v rest r s' ⟨hr, rfl, hall⟩
        obtain ⟨k', hk', hv⟩ := nested_mem hk v (hall v List.mem_cons_self)
        have := depth_mem hk'
        refine wpAny_bind (ih k' v _ hv (by omega) ?_)
        simp only [Bool.false_eq_true, if_false]
        exact wpAny_pure ⟨rfl, rfl, fun u hu' => hall u (List.mem_cons_of_mem _ hu')⟩
      · rintro ⟨r1, r2⟩ s' ⟨hr, rfl, _⟩
        simp only at hr
        subst hr
        exact wpAny_pure q
theorem by_val : ∀ (n : Nat) (k : NestedKey) (v : Value) (Q : Bool → Shared → Prop), NestedIs s.heap k v → k.depth ≤ n → numK k = true → Q true s → wpAny (model P w) A (hashByValue n v) Q E s := by
  intro n
  induction n with
  | zero =>
    intro k v Q x hd hn q
    cases x with
    | bool _ => exact wpAny_pure q
    | int _ _ => exact wpAny_pure q
    | tup _ _ _ _ => rw [NestedKey.depth] at hd; omega
    | _ => exact nomatch hn
  | succ n ih =>
    intro k v Q x hd hn q
    cases x with
    | bool _ => exact wpAny_pure q
    | int _ _ => exact wpAny_pure q
    | @tup a o vs m ks ho hc hdt hk =>
      rw [NestedKey.depth] at hd
      rw [numK] at hn
      unfold hashByValue
      refine wpAny_bind (wpAny_specialOf (T := "tuple") ⟨o, ho, hc⟩ F.slot_tuple_hash.lookup ?_)
      show wpAny _ _ (seqItems? (.ref a) >>= _) _ _ s
      refine wpAny_bind (wpAny_seqItems ho hdt ?_)
      refine wpAny_bind ?_
      show wpAny _ _ (forIn vs _ _) _ _ s
      rw [← Array.forIn_toList]
      refine wpAny_forIn_list _ (fun rest r s' => r.1 = none ∧ s' = s ∧ ∀ v ∈ rest, v ∈ vs.toList) _ ?_ ?_ _ _ ⟨rfl, rfl, fun v hv => hv⟩
      · rintro v rest r s' ⟨hr, rfl, hall⟩
        obtain ⟨k', hk', hv⟩ := nested_mem hk v (hall v List.mem_cons_self)
        have := depth_mem hk'
        refine wpAny_bind (ih k' v _ hv (by omega) (numKs_mem hn k' hk') ?_)
        simp only [Bool.not_true, Bool.false_eq_true, if_false]
        exact wpAny_pure ⟨rfl, rfl, fun u hu' => hall u (List.mem_cons_of_mem _ hu')⟩
      · rintro ⟨r1, r2⟩ s' ⟨hr, rfl, _⟩
        simp only at hr
        subst hr
        exact wpAny_pure q
    | _ => exact nomatch hn
theorem ni_eq {x y : NestedKey} {a b : Addr} {Q : Bool → Shared → Prop} (hu : A.units + 8 < cLine) (hx : NI s.heap x a) (hy : NI s.heap y b) (h : Q (decide (x = y)) s) : wpAny (model P w) A (eqBool (.ref a) (.ref b)) Q E s :=
  (nestedKind P w).eqBool hu ⟨hx.is, hx.dp⟩ ⟨hy.is, hy.dp⟩ h
theorem ni_hash {x : NestedKey} {a : Addr} {Q : Int → Shared → Prop} (hu : A.units + 8 < cLine) (hx : NI s.heap x a) (h : Q (x.hash w) { s with toks := s.toks + x.draws }) : wpAny (model P w) A (pyHash (.ref a)) Q E s :=
  (nestedKind P w).pyHash hu ⟨hx.is, hx.dp⟩ h
theorem ni_quiet {x : NestedKey} {a : Addr} {Q : Bool → Shared → Prop} (hx : NI s.heap x a) (h : Q true s) : wpAny (model P w) A (eqIsQuiet 8 (.ref a)) Q E s :=
  (nestedKind P w).quiet ⟨hx.is, hx.dp⟩ h
/-- a search among such tuples shows nothing -/
theorem ni_seen {k : NestedKey} {b : Addr} {Q : Bool → Shared → Prop} (hk : NI s.heap k b) {ys : List Value} (hy : ∀ y ∈ ys, ∃ k' c, y = Value.ref c ∧ NI s.heap k' c) (q : Q false s) :
    wpAny (model P w) A (searchCouldBeSeen (.ref b) ys) Q E s := by
  unfold searchCouldBeSeen
  refine wpAny_bind ?_
  refine wpAny_forIn_list _ (fun rest r s' => r.1 = none ∧ s' = s ∧ ∀ y ∈ rest, ∃ k' c, y = Value.ref c ∧ NI s.heap k' c) _ ?_ ?_ _ _ ⟨rfl, rfl, hy⟩
  · rintro v rest r s' ⟨hr, rfl, hall⟩
    obtain ⟨k', c, rfl, hc⟩ := hall v List.mem_cons_self
    have go : ∀ y ∈ rest, ∃ k' c, y = Value.ref c ∧ NI s'.heap k' c := fun u hu => hall u (List.mem_cons_of_mem _ hu)
    dsimp only
    by_cases hv : (b == c || (carriedByValue (.ref b) && carriedByValue (.ref c))) = true
    · exact wp_if_pos hv (wpAny_pure ⟨rfl, rfl, go⟩)
    · refine wp_if_neg hv (wpAny_bind (ni_quiet hk ?_))
      simp only [Bool.not_true, Bool.false_eq_true, if_false]
      refine wpAny_bind (ni_quiet hc ?_)
      simp only [Bool.not_true, Bool.false_eq_true, if_false]
      refine wpAny_bind (no_cls 8 k _ _ hk.is hk.dp ?_)
      simp only [Bool.false_eq_true, if_false]
      refine wpAny_bind (no_cls 8 k' _ _ hc.is hc.dp ?_)
      simp only [Bool.false_eq_true, if_false]
      exact wpAny_pure ⟨rfl, rfl, go⟩
  · rintro ⟨r1, r2⟩ s' ⟨hr, rfl, _⟩
    simp only at hr
    subst hr
    exact wpAny_pure q
end

/-! ### the set's state -/
abbrev Rows := List (Addr × NestedKey)
def rws (w : World) (L : Rows) : List (Int × Value) := L.map fun p => (p.2.hash w, Value.ref p.1)
abbrev hsh (w : World) (L : Rows) : List Int := L.map fun p => p.2.hash w
abbrev kys (L : Rows) : List NestedKey := L.map (·.2)
structure STab (w : World) (h : Heap) (a : Addr) (L : Rows) (es : Array (Int × Value)) (ep : Nat) (t : SetTable) : Prop where
  ob : ∃ o, h.get? a = some o ∧ o.ExactSet ∧ o.data = .set es ep t
  el : es.toList = rws w L
  tab : TabB t (hsh w L)
  nd : (kys L).Nodup
  ks : ∀ p ∈ L, NI h p.2 p.1
  pl : t.plain = true
  ld : w.params.followText "set-order" = true ∨ t.led = true
  rm : L.length * 5 < t.mask * 3
  fw : L.length < 1200
theorem rws_len (w : World) (L : Rows) : (rws w L).length = L.length := List.length_map _
theorem size_of_rws {w : World} {es : Array (Int × Value)} {L : Rows} (e : es.toList = rws w L) : es.size = L.length := by rw [← Array.length_toList, e, rws_len]
theorem entry_of_rws {w : World} {es : Array (Int × Value)} {L : Rows} (e : es.toList = rws w L) {i : Nat} {p : Addr × NestedKey} (h : L[i]? = some p) : es[i]? = some (p.2.hash w, Value.ref p.1) := by
  rw [← Array.getElem?_toList, e]
  unfold rws
  rw [List.getElem?_map, h]
  rfl
section
variable {P : Program} {w : World} {A : Around} {E : Value → Shared → Prop} {s : Shared}
variable {a : Addr} {L : Rows} {es : Array (Int × Value)} {ep : Nat} {t : SetTable}
theorem STab.len (R : STab w s.heap a L es ep t) : t.place.size = L.length := by rw [R.tab.len]; exact List.length_map _
theorem STab.fits (R : STab w s.heap a L es ep t) : t.fits es.size = true := by
  have h1 := R.len
  have h2 := size_of_rws R.el
  have h3 := R.rm
  unfold SetTable.fits SetTable.fill
  rw [R.tab.nodum, Bool.and_eq_true, beq_iff_eq, decide_eq_true_eq]
  show t.place.size = es.size ∧ t.place.size + 0 ≤ t.mask
  omega
theorem STab.whole (R : STab w s.heap a L es ep t) : ¬ t.gaveWay = true := by
  unfold SetTable.gaveWay
  rw [R.tab.rnd.odd]
  decide
theorem nth_dummy (m : Nat) : ∀ (n : Nat) (p : SetTable.Probe), p.dummy = none → (nth m p n).dummy = none
  | 0, p, h => h
  | n + 1, p, h => nth_dummy m n (adv m p) (by unfold adv; split <;> exact h)
/-- the way's c-th state for the key k -/
abbrev wst (w : World) (t : SetTable) (k : NestedKey) (c : Nat) : SetTable.Probe := nth t.mask (runAt t.mask (SetTable.bits (k.hash w) % (t.mask + 1)) (SetTable.bits (k.hash w))) c
theorem wst_add (w : World) (t : SetTable) (k : NestedKey) (c q : Nat) : nth t.mask (wst w t k c) q = wst w t k (c + q) := (nth_add t.mask c _ q).symm
/-- the search for k, from the c-th state on; K: the first empty place -/
theorem s_from (R : STab w s.heap a L es ep t) {x : Addr} {k : NestedKey} (hx : NI s.heap k x) (hu : A.units + 8 < cLine) {N : Nat} (hN : N < 10 * SetTable.turns t.mask)
    (free : (wst w t k N).j ∉ t.place.toList) (full : ∀ c, c < N → (wst w t k c).j ∈ t.place.toList) {Q : SetFound → Shared → Prop}
    (yes : k ∈ kys L → Q (.there none) s) (no : k ∉ kys L → Q (.free (wst w t k N).j false) s) (f : Nat) :
    ∀ (c : Nat) (stand : Option SetTable.Probe), stand.getD (t.probeStart (k.hash w)) = wst w t k c → c ≤ N → N - c < f →
      (∀ (i : Nat) p, L[i]? = some p → p.2 = k → ∃ c', c ≤ c' ∧ c' < N ∧ t.place.toList[i]? = some (wst w t k c').j) →
      wpAny (model P w) A (setSearchFrom a (.ref x) (k.hash w) true f stand) Q E s := by
  obtain ⟨o, ho, hex, hd⟩ := R.ob
  have hash_at : ∀ (i : Nat) p, L[i]? = some p → (es[i]?.map (·.1)).getD 0 = p.2.hash w := fun i p hp => by rw [entry_of_rws R.el hp]; rfl
  induction f with
  | zero => intro c stand _ _ hf; exact absurd hf (Nat.not_lt_zero _)
  | succ f ih =>
    intro c stand hst hc hf left
    rw [setSearchFrom_succ]
    refine wpAny_bind (wpAny_setState_of ho hd R.fits ?_)
    dsimp only
    refine wp_if_neg R.whole ?_
    try refine wpAny_bind (wpAny_pure ?_)
    have ej : ∀ q, (nth t.mask (wst w t k c) q).j = (wst w t k (c + q)).j := fun q => congrArg SetTable.Probe.j (wst_add w t k c q)
    have eN : c + (N - c) = N := by omega
    rcases go_spec t R.tab.up R.tab.nodum (fun i => (es[i]?.map (·.1)).getD 0) (k.hash w) (10 * SetTable.turns t.mask) (N - c) (wst w t k c) (nth_dummy _ c _ rfl) (by omega)
      (fun q hq => by rw [ej]; exact full _ (by omega)) (by rw [ej, eN]; exact free) with ⟨q, i, hq, hi, hh, before, probe⟩ | ⟨before, probe⟩
    · rw [ej, wst_add] at probe
      rw [ej] at hi
      have pr : t.probe (fun i => (es[i]?.map (·.1)).getD 0) (k.hash w) (stand.getD (t.probeStart (k.hash w))) = some (.candidate (wst w t k (c + q)).j i (wst w t k (c + (q + 1)))) := by rw [hst]; exact probe
      rw [pr]
      dsimp only
      have il : i < L.length := by
        have := (List.getElem?_eq_some_iff.mp hi).1
        rw [Array.length_toList, R.len] at this
        exact this
      obtain ⟨p, hp⟩ : ∃ p, L[i]? = some p := ⟨_, List.getElem?_eq_getElem il⟩
      have pm : p ∈ L := List.mem_of_getElem? hp
      have live : t.slot (wst w t k (c + q)).j = .live i := slot_live R.tab.up hi
      have rest : wpAny (model P w) A (searchRest a (.ref x) (k.hash w) true f es t (wst w t k (c + q)).j i (wst w t k (c + (q + 1)))) Q E s := by
        unfold searchRest
        rw [entry_of_rws R.el hp]
        dsimp only
        refine wpAny_bind (wpAny_holding (ni_eq hu (R.ks p pm) hx ?_))
        refine wpAny_bind (wpAny_setState_of ho hd R.fits ?_)
        dsimp only
        by_cases same : p.2 = k
        · exact wp_if_pos (by simp [same]) (wpAny_pure (yes (List.mem_map.mpr ⟨p, pm, same⟩)))
        · refine wp_if_neg (by simp [same]) ?_
          try refine wpAny_bind (wpAny_pure ?_)
          rw [sameMem]
          dsimp only
          simp only [if_true, live, entry_of_rws R.el hp]
          refine wpAny_bind (wpAny_isSame_ref_self (wpAny_bind (wpAny_pure ?_)))
          simp only [if_true]
          refine wp_if_neg (by simp [same]) (ih (c + (q + 1)) _ rfl (by omega) (by omega) fun i0 p0 h0 k0 => ?_)
          obtain ⟨c', l1, l2, l3⟩ := left i0 p0 h0 k0
          refine ⟨c', ?_, l2, l3⟩
          rcases Nat.lt_trichotomy c' (c + q) with z | z | z
          · exact absurd ((hash_at i0 p0 h0).trans (by rw [k0])) (before (c' - c) i0 (by omega) (by rw [ej, show c + (c' - c) = c' by omega]; exact l3))
          · rw [z] at l3
            have li := slot_live R.tab.up l3
            rw [live] at li
            cases li
            rw [hp] at h0
            cases h0
            exact absurd k0 same
          · omega
      by_cases led : t.led = true
      · refine wp_if_neg (by simp [led]) ?_
        try refine wpAny_bind (wpAny_pure ?_)
        exact rest
      · refine wp_if_pos (by simp [led]) (wpAny_bind (ni_seen hx (fun y hy => ?_) ?_))
        · obtain ⟨e, he, ee⟩ := List.mem_map.mp hy
          have he1 : e ∈ es ∧ e.1 = k.hash w := by simpa using he
          have he2 : e ∈ es.toList := by simpa using he1.1
          rw [R.el] at he2
          obtain ⟨p2, hp2, e2⟩ := List.mem_map.mp he2
          exact ⟨p2.2, p2.1, by rw [← ee, ← e2], R.ks p2 hp2⟩
        · refine wp_if_neg (by decide) ?_
          try refine wpAny_bind (wpAny_pure ?_)
          exact rest
    · rw [ej, eN] at probe
      have pr : t.probe (fun i => (es[i]?.map (·.1)).getD 0) (k.hash w) (stand.getD (t.probeStart (k.hash w))) = some (.empty (wst w t k N).j none) := by rw [hst]; exact probe
      rw [pr]
      dsimp only
      refine wpAny_pure (no fun km => ?_)
      obtain ⟨p0, h0, k0⟩ := List.mem_map.mp km
      obtain ⟨i0, hi0⟩ := List.mem_iff_getElem?.mp h0
      obtain ⟨c', l1, l2, l3⟩ := left i0 p0 hi0 k0
      exact before (c' - c) i0 (by omega) (by rw [ej, show c + (c' - c) = c' by omega]; exact l3) ((hash_at i0 p0 hi0).trans (by rw [k0]))
theorem s_find (R : STab w s.heap a L es ep t) {x : Addr} {k : NestedKey} (hx : NI s.heap k x) (hu : A.units + 8 < cLine) {Q : SetFound → Shared → Prop}
    (yes : k ∈ kys L → Q (.there none) s)
    (no : ∀ N, k ∉ kys L → way t.mask (k.hash w) N ∉ t.place.toList → (∀ c, c < N → way t.mask (k.hash w) c ∈ t.place.toList) → Q (.free (way t.mask (k.hash w) N) false) s) :
    wpAny (model P w) A (setSearch a (.ref x) (k.hash w) true) Q E s := by
  have rm := R.rm
  obtain ⟨N, hN, free, full⟩ := R.tab.first (by rw [List.length_map]; omega) (k.hash w)
  have big : N < 100000 := by
    have := R.tab.rnd.big
    have : 10 * SetTable.turns t.mask ≤ 41100 := by
      unfold SetTable.turns
      omega
    omega
  unfold setSearch
  refine s_from R hx hu hN free full yes (fun nk => no N nk free full) 100000 0 none rfl (Nat.zero_le _) (by omega) fun i p hp hk => ?_
  have hi : (hsh w L)[i]? = some (k.hash w) := by rw [List.getElem?_map, hp, ← hk]; rfl
  have il : i < t.place.toList.length := by
    rw [Array.length_toList, R.len]
    exact (List.getElem?_eq_some_iff.mp hp).1
  obtain ⟨c, hc, e⟩ := R.tab.before free hi (List.getElem?_eq_getElem il)
  exact ⟨c, Nat.zero_le _, hc, (List.getElem?_eq_getElem il).trans (congrArg some e.symm)⟩
end
end ML

namespace ML
open PySem Spec PyProof.Rows L2
/-! ### one put in -/
theorem rws_put (w : World) (L : Rows) (i : Nat) (x : Addr) (k : NestedKey) : rws w (L.take i ++ (x, k) :: L.drop i) = (rws w L).take i ++ (k.hash w, Value.ref x) :: (rws w L).drop i := by
  unfold rws
  rw [List.map_append, List.map_cons, List.map_take, List.map_drop]
theorem ordered (w : World) (L : Rows) (es : Array (Int × Value)) (hr : es.toList = rws w L) : ∀ l : List Nat, (∀ i ∈ l, i < L.length) → ∃ M : Rows, l.filterMap (fun i => es[i]?) = rws w M ∧ M = l.filterMap (fun i => L[i]?) ∧ hsh w M = l.map fun i => (es.map (·.1)).getD i 0
  | [], _ => ⟨[], rfl, rfl, rfl⟩
  | i :: l, h => by
    obtain ⟨M, e1, e2, e3⟩ := ordered w L es hr l fun j hj => h j (List.mem_cons_of_mem _ hj)
    have hi := List.getElem?_eq_getElem (h i List.mem_cons_self)
    have ei := entry_of_rws hr hi
    refine ⟨L[i]'(h i List.mem_cons_self) :: M, ?_, ?_, ?_⟩
    · rw [List.filterMap_cons_some ei, e1]; rfl
    · rw [List.filterMap_cons_some hi, e2]
    · have eg : (es.map (·.1))[i]? = some ((L[i]'(h i List.mem_cons_self)).2.hash w) := by rw [Array.getElem?_map, ei]; rfl
      show _ :: hsh w M = _
      rw [e3, List.map_cons, Array.getD_eq_getD_getElem?, eg]
      rfl
theorem all_of (L : Rows) : ∀ n, n ≤ L.length → (List.range n).filterMap (fun i => L[i]?) = L.take n
  | 0, _ => rfl
  | n + 1, h => by
    rw [List.range_succ, List.filterMap_append, all_of L n (Nat.le_of_lt h), List.take_succ, List.filterMap_cons_some (List.getElem?_eq_getElem h), List.getElem?_eq_getElem h]
    rfl
section
variable {P : Program} {w : World} {A : Around} {E : Value → Shared → Prop} {s : Shared}
variable {a : Addr} {L : Rows} {es : Array (Int × Value)} {ep : Nat} {t : SetTable}
theorem s_relay {o : Obj} (ho : s.heap.get? a = some o) (hex : o.ExactSet) (hd : o.data = .set es ep t) (el : es.toList = rws w L) (hsz : t.place.size = es.size) (dm : t.dummies = #[]) (fl : es.size ≤ t.mask)
    (nd : (kys L).Nodup) (ks : ∀ p ∈ L, NI s.heap p.2 p.1) (pl : t.plain = true) (ld : w.params.followText "set-order" = true ∨ t.led = true) (fw : L.length < 1200) {want M : Nat}
    (hw : SetTable.sizeAbove want - 1 = M) (hM : Rnd M) (hw2 : SetTable.sizeAbove want ≤ 2048) (hn : L.length * 5 < M * 3) {Q : Unit → Shared → Prop}
    (q : ∀ h' L' es' ep' t', Heap.SameBut a s.heap h' → STab w h' a L' es' ep' t' → L'.Perm L → Q () { s with heap := h' }) : wpAny (model P w) A (setRelay a want) Q E s := by
  have sl := size_of_rws el
  have fits : t.fits es.size = true := by
    unfold SetTable.fits SetTable.fill
    rw [dm, Bool.and_eq_true, beq_iff_eq, decide_eq_true_eq]
    show t.place.size = es.size ∧ t.place.size + 0 ≤ t.mask
    omega
  obtain ⟨t', order, e, hp, T, em, eled, epl⟩ := hM.relaid t (hs := es.map (·.1)) (want := want) hw (by rw [Array.size_map, sl]; omega)
  rw [Array.size_map, sl] at hp
  obtain ⟨L2, r1, r2, r3⟩ := ordered w L es el order.toList fun i hi => List.mem_range.mp (hp.mem_iff.mp hi)
  have pm : L2.Perm L := by
    have h1 : L2.Perm ((List.range L.length).filterMap fun i => L[i]?) := by rw [r2]; exact hp.filterMap _
    rwa [all_of L _ (Nat.le_refl _), List.take_length] at h1
  rw [← r3] at T
  have r1' : (order.filterMap (es[·]?)).toList = rws w L2 := by first | (rw [Array.toList_filterMap]; exact r1) | simpa using r1
  have s2 : (order.filterMap (es[·]?)).size = es.size := by rw [size_of_rws r1', pm.length_eq, sl]
  rw [setRelay_eq]
  refine wpAny_bind (wpAny_setState_of ho hd fits ?_)
  dsimp only
  refine wp_if_neg (by rw [sizeLine_eq]; omega) ?_
  try refine wpAny_bind (wpAny_pure ?_)
  rw [e]
  dsimp only
  refine wpAny_bind (wp_if_neg (by rw [s2]; simp) ?_)
  try refine wpAny_bind (wpAny_pure ?_)
  refine wpAny_pure ?_
  dsimp only
  refine wpAny_storeSet_of ho hd ?_ (by rw [s2, sl, sizeLine_eq]; omega)
  have sb : Heap.SameBut a s.heap (s.heap.update a (Obj.putSet (order.filterMap (es[·]?)) t')) := Heap.SameBut.update ..
  refine q _ L2 _ (ep + 1) t' sb ⟨⟨_, store_at ho hd, ⟨hex.1, hex.2.1, hex.2.2⟩, rfl⟩, r1', T, (pm.map (·.2)).nodup_iff.mpr nd, fun p hm => (ks p (pm.mem_iff.mp hm)).same ho hd sb, epl.trans pl, by rw [eled]; exact ld, ?_, by rw [pm.length_eq]; exact fw⟩ pm
  rw [pm.length_eq, em]
  exact hn
theorem s_add (R : STab w s.heap a L es ep t) {x : Addr} {k : NestedKey} (hx : NI s.heap k x) (hu : A.units + 8 < cLine) (few : L.length + 1 < 1200) {Q : Bool → Shared → Prop}
    (q : ∀ b h' L' es' ep' t', Heap.SameBut a s.heap h' → STab w h' a L' es' ep' t' → (k ∈ kys L → L' = L) → (k ∉ kys L → L'.Perm ((x, k) :: L)) → Q b { s with heap := h' }) :
    wpAny (model P w) A (setAddHashed a (.ref x) (k.hash w)) Q E s := by
  obtain ⟨o, ho, hex, hd⟩ := R.ob
  have sl := size_of_rws R.el
  have rm := R.rm
  unfold setAddHashed
  refine wpAny_holding ?_
  rw [show (100000 : Nat) = 99999 + 1 from rfl, setAddHashedIn_succ]
  refine wpAny_bind (wpAny_setState_of ho hd R.fits ?_)
  dsimp only
  refine wp_if_neg (by simp [byScan, Value.scannable]) ?_
  try refine wpAny_bind (wpAny_pure ?_)
  refine wpAny_bind (s_find R hx hu (fun km => ?_) fun N km free full => ?_)
  · dsimp only
    exact wpAny_pure (q false s.heap L es ep t (Heap.SameBut.refl a s.heap) R (fun _ => rfl) fun z => absurd km z)
  dsimp only
  refine wpAny_bind (wpAny_setState_of ho hd R.fits ?_)
  dsimp only
  obtain ⟨q1, q2, q3, q4, q5, q6, q9⟩ := R.tab.put free full
  have p1 : (t.put (way t.mask (k.hash w) N)).1.plain = true := q6.trans R.pl
  generalize hpt : t.put (way t.mask (k.hash w) N) = pt at q1 q3 q4 q5 q6 q9 p1 ⊢
  obtain ⟨t1, i⟩ := pt
  dsimp only at q1 q3 q4 q5 q6 q9 p1 ⊢
  subst q1
  first
    | (refine wpAny_bind ?_; refine wp_if_pos p1 ?_; refine by_val 8 k _ _ hx.is hx.dp hx.nm ?_)
    | refine wp_if_pos p1 (wpAny_bind (by_val 8 k _ _ hx.is hx.dp hx.nm ?_))
  simp only [if_true]
  have el1 : (SetTable.insertAt es (SetTable.below t.place (way t.mask (k.hash w) N)) (k.hash w, Value.ref x)).toList = rws w (L.take (SetTable.below t.place (way t.mask (k.hash w) N)) ++ (x, k) :: L.drop (SetTable.below t.place (way t.mask (k.hash w) N))) := by
    rw [SetTable.toList_insertAt, rws_put, R.el]
  generalize SetTable.below t.place (way t.mask (k.hash w) N) = i at q2 q3 el1 ⊢
  have pm := L2.put_perm L i (x, k)
  have eh : hsh w (L.take i ++ (x, k) :: L.drop i) = (hsh w L).take i ++ k.hash w :: (hsh w L).drop i := by
    show List.map _ _ = _
    rw [List.map_append, List.map_cons, List.map_take, List.map_drop]
  rw [← eh] at q3
  have sz1 := size_of_rws el1
  generalize SetTable.insertAt es i (k.hash w, Value.ref x) = es1 at el1 sz1 ⊢
  generalize L.take i ++ (x, k) :: L.drop i = L1 at pm q3 el1 sz1
  have nl : L1.length = L.length + 1 := pm.length_eq
  have nd1 : (kys L1).Nodup := (pm.map (·.2)).nodup_iff.mpr (by rw [List.map_cons]; exact List.nodup_cons.mpr ⟨km, R.nd⟩)
  refine wpAny_bind (wpAny_storeSet_of ho hd ?_ (by rw [sz1, sizeLine_eq]; omega))
  have sb : Heap.SameBut a s.heap (s.heap.update a (Obj.putSet es1 t1)) := Heap.SameBut.update ..
  have ho1 := store_at (es' := es1) (t' := t1) ho hd
  generalize s.heap.update a (Obj.putSet es1 t1) = h1 at sb ho1 ⊢
  have ks1 : ∀ p ∈ L1, NI h1 p.2 p.1 := fun p hp => by
    rcases List.mem_cons.mp (pm.mem_iff.mp hp) with e | hp
    · rw [e]; exact hx.same ho hd sb
    · exact (R.ks p hp).same ho hd sb
  have ld1 : w.params.followText "set-order" = true ∨ t1.led = true := by rw [q5]; exact R.ld
  have fill : t1.tooFull = decide ((L.length + 1) * 5 ≥ t1.mask * 3) := by
    unfold SetTable.tooFull
    rw [q9]
    show decide (((hsh w L).length + 1) * 5 ≥ t1.mask * 3) = _
    rw [show (hsh w L).length = L.length from List.length_map _]
  by_cases hf : t1.tooFull = true
  · first
      | (refine wpAny_bind ?_; refine wp_if_pos (by simp [hf]) ?_)
      | (refine wp_if_pos (by simp [hf]) ?_; refine wpAny_bind ?_)
    have full2 := of_decide_eq_true (fill.symm.trans hf)
    rw [sl]
    have sz2 : t1.place.size = es1.size := by
      rw [q3.len, sz1]
      exact List.length_map _
    have two : (t.mask = 7 ∧ L.length = 4) ∨ (t.mask = 31 ∧ L.length = 18) ∨ (t.mask = 127 ∧ L.length = 76) ∨ (t.mask = 511 ∧ L.length = 306) := by
      rw [q4] at full2
      rcases R.tab.rnd.one with e | e | e | e | e
      · rw [e] at full2 rm; exact .inl ⟨e, by omega⟩
      · rw [e] at full2 rm; exact .inr (.inl ⟨e, by omega⟩)
      · rw [e] at full2 rm; exact .inr (.inr (.inl ⟨e, by omega⟩))
      · rw [e] at full2 rm; exact .inr (.inr (.inr ⟨e, by omega⟩))
      · rw [e] at full2; omega
    have go : ∀ M, SetTable.sizeAbove (SetTable.grown (L.length + 1)) - 1 = M → Rnd M → SetTable.sizeAbove (SetTable.grown (L.length + 1)) ≤ 2048 → (L.length + 1) * 5 < M * 3 →
        wpAny (model P w) A (setRelay a (SetTable.grown (L.length + 1))) (fun _ s' => wpAny (model P w) A (pure true) Q E s') E { s with heap := h1 } := fun M m1 m2 m3 m4 =>
      s_relay (s := { s with heap := h1 }) ho1 ⟨hex.1, hex.2.1, hex.2.2⟩ rfl el1 sz2 q3.nodum (by rw [sz1, q4]; rcases two with ⟨e, e2⟩ | ⟨e, e2⟩ | ⟨e, e2⟩ | ⟨e, e2⟩ <;> omega) nd1 ks1 p1 ld1 (by rw [nl]; exact few) m1 m2 m3 (by rw [nl]; exact m4)
        fun h2 L2 es2 ep2 t2 sb2 R2 pm2 => wpAny_pure (q true h2 L2 es2 ep2 t2 (sb.trans sb2) R2 (fun z => absurd z km) fun _ => pm2.trans pm)
    rcases two with ⟨_, e2⟩ | ⟨_, e2⟩ | ⟨_, e2⟩ | ⟨_, e2⟩
    · exact go 31 (by rw [e2, size_20]) rnd31 (by rw [e2, size_20]; decide) (by omega)
    · exact go 127 (by rw [e2, size_76]) rnd127 (by rw [e2, size_76]; decide) (by omega)
    · exact go 511 (by rw [e2, size_308]) rnd511 (by rw [e2, size_308]; decide) (by omega)
    · exact go 2047 (by rw [e2, size_1228]) rnd2047 (by rw [e2, size_1228]; decide) (by omega)
  · first
      | refine wp_if_neg (by simp [hf]) ?_
      | (refine wpAny_bind ?_; refine wp_if_neg (by simp [hf]) ?_; refine wpAny_pure ?_)
    refine wpAny_pure (q true h1 L1 es1 (ep + 1) t1 sb ⟨⟨_, ho1, ⟨hex.1, hex.2.1, hex.2.2⟩, rfl⟩, el1, q3, nd1, ks1, p1, ld1, ?_, by rw [nl]; exact few⟩ (fun z => absurd z km) fun _ => pm)
    rw [fill, decide_eq_true_eq] at hf
    rw [nl]
    omega
end
/-! ### a set of the items of a list -/
structure Had (ks : Rows) (i : Nat) (L : Rows) : Prop where
  sub : ∀ p ∈ L, p ∈ ks.take i
  all : ∀ p ∈ ks.take i, p.2 ∈ kys L
  len : L.length ≤ i
theorem Had.zero (ks : Rows) : Had ks 0 [] := ⟨fun p h => (nomatch h), fun p h => (by simp at h), Nat.le_refl _⟩
theorem Had.next {ks L L' : Rows} {i : Nat} {x : Addr × NestedKey} (g : Had ks i L) (h : ks[i]? = some x) (c1 : x.2 ∈ kys L → L' = L) (c2 : x.2 ∉ kys L → L'.Perm (x :: L)) : Had ks (i + 1) L' := by
  rcases Classical.em (x.2 ∈ kys L) with c | c
  · rw [c1 c]
    refine ⟨fun p hp => ?_, fun p hp => ?_, Nat.le_succ_of_le g.len⟩
    · rw [take_next h]; exact List.mem_append_left _ (g.sub p hp)
    · rw [take_next h] at hp
      rcases List.mem_append.mp hp with z | z
      · exact g.all p z
      · rw [List.mem_singleton.mp z]; exact c
  · have pm := c2 c
    refine ⟨fun p hp => ?_, fun p hp => ?_, by rw [pm.length_eq]; exact Nat.succ_le_succ g.len⟩
    · rw [take_next h]
      rcases List.mem_cons.mp (pm.mem_iff.mp hp) with e | z
      · rw [e]; exact List.mem_append_right _ (List.mem_singleton.mpr rfl)
      · exact List.mem_append_left _ (g.sub p z)
    · rw [(pm.map (·.2)).mem_iff, List.map_cons]
      rw [take_next h] at hp
      rcases List.mem_append.mp hp with z | z
      · exact List.mem_cons_of_mem _ (g.all p z)
      · rw [List.mem_singleton.mp z]; exact List.mem_cons_self
section
variable {P : Program} {w : World} {A : Around} {E : Value → Shared → Prop} {s : Shared}
theorem STab.keep {h h' : Heap} {a : Addr} {L : Rows} {es : Array (Int × Value)} {ep : Nat} {t : SetTable} (R : STab w h a L es ep t) (ha : ∀ o, h.get? a = some o → h'.get? a = some o) (ht : ∀ p ∈ L, NI h' p.2 p.1) : STab w h' a L es ep t :=
  let ⟨o, ho, r⟩ := R.ob
  ⟨⟨o, ha o ho, r⟩, R.el, R.tab, R.nd, ht, R.pl, R.ld, R.rm, R.fw⟩
theorem STab.fresh {h : Heap} {a : Addr} (ho : h.get? a = some { cls := .type "set", dict := none, data := .set #[] 0 (.fresh 0 0 (!w.params.followText "set-order")) }) : STab w h a [] #[] 0 (.fresh 0 0 (!w.params.followText "set-order")) where
  ob := ⟨_, ho, ⟨rfl, rfl, rfl⟩, rfl⟩
  el := rfl
  tab := ⟨List.Pairwise.nil, rfl, rfl, rnd7, fun x hx => (nomatch hx), fun i h j hi => (by simp at hi)⟩
  nd := List.nodup_nil
  ks := fun p hp => nomatch hp
  pl := rfl
  ld := by
    show _ ∨ (!w.params.followText "set-order") = true
    cases w.params.followText "set-order"
    · exact .inr rfl
    · exact .inl rfl
  rm := (by decide : 0 * 5 < 7 * 3)
  fw := (by decide : 0 < 1200)
theorem s_loop {I : Addr} {fp wr : List Addr} {G : Array GenState → Array GenState → Prop} {n : Nat} {Pv : Nat → Value → Prop} {St : Nat → Shared → Prop} {R : Result → Shared → Prop}
    (W : WalksS P w A.in1 I fp wr G n Pv St) (S : Addr) (hSf : S ∉ fp) (ks : Rows) (hn : n = ks.length) (few : ks.length < 1200) (val : ∀ i v, Pv i v → ∃ p, ks[i]? = some p ∧ v = .ref p.1)
    (h0 : Heap) (hk : ∀ p ∈ ks, NI h0 p.2 p.1) (hS0 : h0.get? S = none) (hw0 : ∀ b ∈ wr, h0.get? b = none) (hu : A.in1.units + 8 < cLine)
    :
    ∀ (k i : Nat) (s : Shared), n - i = k → i ≤ n → St i s → (∀ b o, h0.get? b = some o → s.heap.get? b = some o) → (∃ L es ep t, STab w s.heap S L es ep t ∧ Had ks i L) →
      (∀ s' L es ep t, Moved (S :: wr) G s s' → STab w s'.heap S L es ep t → Had ks n L → (∀ b o, h0.get? b = some o → s'.heap.get? b = some o) → R (.ok (.ret .none)) s') →
      codeAny (model P w) A (.builtin "set.update.loop" ⟨[.ref S, .ref I], []⟩) R s := by
  have hSw : S ∉ wr := fun h => hSf (W.sub _ h)
  have more : ∀ b ∈ wr, b ∈ S :: wr := fun b hb => List.mem_cons_of_mem _ hb
  have keeps : ∀ {s s' : Shared}, Moved wr G s s' → (∀ b o, h0.get? b = some o → s.heap.get? b = some o) → ∀ b o, h0.get? b = some o → s'.heap.get? b = some o := fun hm kp b o e =>
    hm.heap b o (fun hb => by rw [hw0 b hb] at e; cases e) (kp b o e)
  intro k
  induction k with
  | zero =>
    intro i s hk' hi st kp ⟨L, es, ep, t, T, g⟩ r
    obtain rfl : i = n := by omega
    refine codeAny_builtin F.entry_set_update_loop ?_
    rw [Around.under_plainId F.plain_set_update_loop _]
    show wpAny _ A.in1 (pyNext (.ref I) >>= _) _ _ s
    refine wpAny_bind (W.done s _ _ st fun s' hm => ?_)
    show wpAny _ A.in1 (ret Value.none) _ _ s'
    have kp' := keeps hm kp
    exact wpAny_pure (r s' L es ep t (hm.mono more) (T.keep (fun o e => hm.heap S o hSw e) fun p hp => (hk p (List.mem_of_mem_take (g.sub p hp))).grow kp') g kp')
  | succ k ih =>
    intro i s hk' hi st kp ⟨L, es, ep, t, T, g⟩ r
    have lt : i < n := by omega
    refine codeAny_builtin F.entry_set_update_loop ?_
    rw [Around.under_plainId F.plain_set_update_loop _]
    show wpAny _ A.in1 (pyNext (.ref I) >>= _) _ _ s
    refine wpAny_bind (W.item i s _ _ lt st fun v s' hP st' hm => ?_)
    obtain ⟨p, hp, rfl⟩ := val i v hP
    have kp' := keeps hm kp
    have T' : STab w s'.heap S L es ep t := T.keep (fun o e => hm.heap S o hSw e) fun q hq => (hk q (List.mem_of_mem_take (g.sub q hq))).grow kp'
    have hx : NI s'.heap p.2 p.1 := (hk p (List.mem_of_getElem? hp)).grow kp'
    show wpAny _ A.in1 (holding [Value.ref p.1] (setAdd S (.ref p.1)) >>= _) _ _ s'
    refine wpAny_bind (wpAny_holding ?_)
    unfold setAdd
    refine wpAny_holding (wpAny_bind (ni_hash hu hx ?_))
    refine s_add (s := { s' with toks := s'.toks + p.2.draws }) T' hx hu (by have := g.len; omega) fun b h' L' es' ep' t' sb T2 c1 c2 => ?_
    have kp2 : ∀ b o, h0.get? b = some o → h'.get? b = some o := fun b o e => (sb.2 b (fun z => by rw [z, hS0] at e; cases e)).trans (kp' b o e)
    refine wpAny_pure ⟨plainId_quiet F.plain_set_update_loop _, ih (i + 1) _ (by omega) lt (W.frame _ s' _ _ st' (Nat.le_add_right _ _) fun b hb o e => ?_) kp2 ⟨L', es', ep', t', T2, g.next hp c1 c2⟩ fun s'' L2 es2 ep2 t2 hm2 T3 g3 kp3 => ?_⟩
    · rw [sb.2 b (fun z => hSf (by rw [← z]; exact hb))]; exact e
    · refine r s'' L2 es2 ep2 t2 (Moved.trans W.gtrans ((hm.mono more).then_heap (Nat.le_add_right _ _) fun b o hb e => ?_) hm2) T3 g3 kp3
      rw [sb.2 b (fun z => hb (by rw [z]; exact List.mem_cons_self))]; exact e
end
end ML

namespace ML
open PySem Spec PyProof.Rows L2
section
variable {P : Program} {w : World} {A : Around} {E : Value → Shared → Prop} {s : Shared}
abbrev set0 (w : World) : Obj := { cls := .type "set", dict := none, data := .set #[] 0 (.fresh 0 0 (!w.params.followText "set-order")) }
theorem gone_at {h : Heap} {b : Addr} (hb : h.objs.size ≤ b) : h.get? b = none := by
  cases q : h.get? b with
  | none => rfl
  | some o => exact absurd (Nat.lt_of_lt_of_le (Heap.lt_size q) hb) (Nat.lt_irrefl _)
/-- set(xs), xs a list of such tuples: its own first step is that of a new set, the rest fills it -/
theorem s_init {l : Addr} {items : Array Value} (ks : Rows) {Q : Value → Shared → Prop} (hh : A.handled = none) (hl : s.heap.IsList l items) (hit : items.toList = ks.map fun p => Value.ref p.1)
    (hk : ∀ p ∈ ks, NI s.heap p.2 p.1) (few : ks.length < 1200) (hu : A.units + 12 < cLine)
    (q : ∀ (h' : Heap) (tk : Nat) L es ep t, STab w h' s.heap.objs.size L es ep t → Had ks ks.length L → (∀ b o, s.heap.get? b = some o → h'.get? b = some o) → Q (.ref s.heap.objs.size) { s with heap := h', toks := tk }) :
    wpAny (model P w) A (call (.type "set") [.ref l]) Q E s := by
  have isz : items.size = ks.length := by rw [← Array.length_toList, hit, List.length_map]
  have C := PySem.F.called_set
  obtain ⟨c, tl, hmro⟩ := C.mro
  have hmade := C.made
  have hsub := C.sub
  refine wpAny_call (codeAny_of_tree ?_)
  show wpAny _ _ (callAny (.type "set") _) _ _ _
  refine wpAny_pure ⟨Code.quiet_builtin _ (by decide +kernel), codeAny_builtin F.entry_type_call ?_⟩
  rw [Around.under_plain (weight_type_call_type "set" [.ref l] []) rfl]
  have h1 := C.notType
  have h2 := C.canCreate
  have hct := F.typeCall_set_1 (.ref l)
  repeat (any_goals (first | assumption | wp_step))
  refine codeAny_mono (code_set_led1 (.ref l) (E := E) (Q₁ := fun obj s₁ => obj = .ref s.heap.objs.size ∧ s₁ = { s with heap := s.heap.push (set0 w) }) ⟨rfl, rfl⟩) fun r s₁ hr => ?_
  match r, hr with
  | .error e, hr => exact hr
  | .ok .next, hr => exact hr.elim
  | .ok .brk, hr => exact hr.elim
  | .ok .cont, hr => exact hr.elim
  | .ok (.ret _), hr =>
    obtain ⟨rfl, rfl⟩ := hr
    have at0 : (s.heap.push (set0 w)).get? s.heap.objs.size = some (set0 w) := Heap.get?_push_size _ rfl
    have hT : Shared.TypeIs { s with heap := s.heap.push (set0 w) } (.ref s.heap.objs.size) "set" := ⟨_, at0, rfl⟩
    have hli := C.init.lookup
    have hbi := C.init.bind (.ref s.heap.objs.size)
    repeat (any_goals (first | assumption | wp_step))
    refine codeAny_mono (codeAny_call_builtin (R := wants (fun r s₂ => r = .none ∧ ∃ h' tk L es ep t, s₂ = { s with heap := h', toks := tk } ∧ STab w h' s.heap.objs.size L es ep t ∧ Had ks ks.length L ∧
        (∀ b o, s.heap.get? b = some o → h'.get? b = some o)) E) C.init.plain F.entry_set_init (check_set_init_1 hT ?_)) fun r₂ s₂ hr₂ => ?_
    · have hl' := hl
      obtain ⟨⟨ocls, odict, odata, oslots⟩, hol, hcl, nl, hdl⟩ := hl'
      simp only at hcl hdl
      subst hcl hdl
      have hol' : (s.heap.push (set0 w)).get? l = some { cls := .type "list", dict := odict, data := .seq items nl, slots := oslots } := Heap.get?_push_of_some _ hol
      have sub1 := F.sub_list_set
      have sub2 := F.sub_list_frozenset
      have ne : (Value.type "list" == Value.type "dict") = false := by decide
      have hl1 : (s.heap.push (set0 w)).IsList l items := ⟨_, hol', rfl, nl, rfl⟩
      have lt : l < s.heap.objs.size := Heap.lt_size hol
      unfold Builtin.«set.__init__» noKeywords Builtin.Frozenset.updateFrom
      generalize hPI : pyIter = PI
      wp_walk
      subst hPI
      refine wpAny_pyIter_list hl1 (wpAny_bind (wpAny_runValue ?_))
      have hh3 : A.in1.in1.in1.handled = none := by simp [hh]
      have ps : (s.heap.push (set0 w)).objs.size = s.heap.objs.size + 1 := Heap.size_push ..
      have lI : l ≠ (s.heap.push (set0 w)).objs.size := by rw [ps]; exact Nat.ne_of_lt (Nat.lt_succ_of_lt lt)
      have out : s.heap.objs.size ∉ [(s.heap.push (set0 w)).objs.size, l] := by
        rw [ps]
        simp only [List.mem_cons, List.mem_singleton, List.not_mem_nil, or_false, not_or]
        exact ⟨Nat.ne_of_lt (Nat.lt_succ_self _), Nat.ne_of_gt lt⟩
      have val : ∀ (i : Nat) (v : Value), items[i]? = some v → ∃ p, ks[i]? = some p ∧ v = .ref p.1 := fun i v hv => by
        rw [← Array.getElem?_toList, hit, List.getElem?_map] at hv
        obtain ⟨p, e1, e2⟩ := Option.map_eq_some_iff.mp hv
        exact ⟨p, e1, e2.symm⟩
      refine s_loop ((Walks.list hh3 _ l lI items).toS) s.heap.objs.size out ks isz few val s.heap hk (gone_at (Nat.le_refl _)) (fun b hb => gone_at (by rw [List.mem_singleton.mp hb, ps]; exact Nat.le_succ _)) (by show A.units + 1 + 1 + 1 + 8 < cLine; omega)
        (items.size - 0) 0 _ (by omega) (Nat.zero_le _) ⟨⟨_, Heap.get?_push_size _ rfl, rfl, rfl⟩, (hl1.push _)⟩ (fun b o e => Heap.get?_push_of_some _ (Heap.get?_push_of_some _ e)) ?start ?fin
      case start => exact ⟨[], #[], 0, _, STab.fresh (Heap.get?_push_of_some _ at0), Had.zero ks⟩
      case fin =>
        intro s' L es ep t hm T g kp
        obtain ⟨h', g2, d', tk', os'⟩ := s'
        obtain rfl : g2 = s.gens := hm.gens
        obtain rfl : d' = s.drawn := hm.drawn
        obtain rfl : os' = s.os := hm.os
        rw [isz] at g
        exact wpAny_pure (wpAny_pure ⟨rfl, h', tk', L, es, ep, t, rfl, T, g, kp⟩)
    · match r₂, hr₂ with
      | .error e, hr => exact hr
      | .ok .next, hr => exact hr.elim
      | .ok .brk, hr => exact hr.elim
      | .ok .cont, hr => exact hr.elim
      | .ok (.ret _), hr =>
        obtain ⟨rfl, h', tk, L, es, ep, t, rfl, T, g, kp⟩ := hr
        repeat (any_goals (first | assumption | wp_step))
        exact q _ _ _ _ _ _ T g kp
end
end ML

namespace ML
open PySem Spec PyProof.Rows L2
/-! ### the order of such tuples -/
mutual
def ltK : NestedKey → NestedKey → Bool
  | .num a, .num b => decide (a < b)
  | .num _, .tup _ => true
  | .tup xs, .tup ys => ltKs xs ys
  | _, _ => false
def ltKs : List NestedKey → List NestedKey → Bool
  | [], [] => false
  | [], _ :: _ => true
  | _ :: _, [] => false
  | x :: xs, y :: ys => if x = y then ltKs xs ys else ltK x y
end
mutual
theorem ltK_irr : ∀ x : NestedKey, ltK x x = false
  | .none => by simp [ltK]
  | .text _ => by simp [ltK]
  | .num a => by simp [ltK]
  | .tup xs => by rw [ltK]; exact ltKs_irr xs
theorem ltKs_irr : ∀ xs : List NestedKey, ltKs xs xs = false
  | [] => by simp [ltKs]
  | x :: xs => by rw [ltKs, if_pos rfl]; exact ltKs_irr xs
end
mutual
theorem ltK_asym : ∀ x y : NestedKey, ltK x y = true → ltK y x = false
  | .num a, .num b, h => by simp only [ltK, decide_eq_true_eq] at h; simp only [ltK, decide_eq_false_iff_not]; omega
  | .num a, .tup ys, _ => by simp [ltK]
  | .tup xs, .tup ys, h => by rw [ltK] at h ⊢; exact ltKs_asym xs ys h
  | .tup xs, .num b, h => by simp [ltK] at h
  | .none, .none, h => by simp [ltK] at h
  | .none, .num _, h => by simp [ltK] at h
  | .none, .text _, h => by simp [ltK] at h
  | .none, .tup _, h => by simp [ltK] at h
  | .text _, .none, h => by simp [ltK] at h
  | .text _, .num _, h => by simp [ltK] at h
  | .text _, .text _, h => by simp [ltK] at h
  | .text _, .tup _, h => by simp [ltK] at h
  | .num _, .none, h => by simp [ltK] at h
  | .num _, .text _, h => by simp [ltK] at h
  | .tup _, .none, h => by simp [ltK] at h
  | .tup _, .text _, h => by simp [ltK] at h
theorem ltKs_asym : ∀ xs ys : List NestedKey, ltKs xs ys = true → ltKs ys xs = false
  | [], [], h => by simp [ltKs] at h
  | [], _ :: _, _ => by simp [ltKs]
  | _ :: _, [], h => by simp [ltKs] at h
  | x :: xs, y :: ys, h => by
    rw [ltKs] at h ⊢
    by_cases e : x = y
    · rw [if_pos e] at h
      rw [if_pos e.symm]
      exact ltKs_asym xs ys h
    · rw [if_neg e] at h
      rw [if_neg (Ne.symm e)]
      exact ltK_asym x y h
end
mutual
theorem ltK_tri : ∀ x y : NestedKey, numK x = true → numK y = true → ltK x y = true ∨ x = y ∨ ltK y x = true
  | .num a, .num b, _, _ => by
    simp only [ltK, decide_eq_true_eq, NestedKey.num.injEq]
    omega
  | .num a, .tup ys, _, _ => .inl (by simp [ltK])
  | .tup xs, .num b, _, _ => .inr (.inr (by simp [ltK]))
  | .tup xs, .tup ys, hx, hy => by
    rw [numK] at hx hy
    rw [ltK, ltK]
    rcases ltKs_tri xs ys hx hy with h | h | h
    · exact .inl h
    · exact .inr (.inl (by rw [h]))
    · exact .inr (.inr h)
  | .none, _, h, _ => nomatch h
  | .text _, _, h, _ => nomatch h
  | .num _, .none, _, h => nomatch h
  | .num _, .text _, _, h => nomatch h
  | .tup _, .none, _, h => nomatch h
  | .tup _, .text _, _, h => nomatch h
theorem ltKs_tri : ∀ xs ys : List NestedKey, numKs xs = true → numKs ys = true → ltKs xs ys = true ∨ xs = ys ∨ ltKs ys xs = true
  | [], [], _, _ => .inr (.inl rfl)
  | [], _ :: _, _, _ => .inl (by simp [ltKs])
  | _ :: _, [], _, _ => .inr (.inr (by simp [ltKs]))
  | x :: xs, y :: ys, hx, hy => by
    rw [numKs, Bool.and_eq_true] at hx hy
    rw [ltKs, ltKs]
    by_cases e : x = y
    · rw [if_pos e, if_pos e.symm]
      rcases ltKs_tri xs ys hx.2 hy.2 with h | h | h
      · exact .inl h
      · exact .inr (.inl (by rw [h, e]))
      · exact .inr (.inr h)
    · rw [if_neg e, if_neg (Ne.symm e)]
      rcases ltK_tri x y hx.1 hy.1 with h | h | h
      · exact .inl h
      · exact absurd h e
      · exact .inr (.inr h)
end
mutual
theorem ltK_tr : ∀ x y z : NestedKey, ltK x y = true → ltK y z = true → ltK x z = true
  | .num a, .num b, .num c, h1, h2 => by simp only [ltK, decide_eq_true_eq] at h1 h2 ⊢; omega
  | .num a, _, .tup ys, _, _ => by simp [ltK]
  | .tup xs, .tup ys, .tup zs, h1, h2 => by rw [ltK] at h1 h2 ⊢; exact ltKs_tr xs ys zs h1 h2
  | .tup xs, .tup ys, .num _, _, h => by simp [ltK] at h
  | .tup xs, .tup ys, .none, _, h => by simp [ltK] at h
  | .tup xs, .tup ys, .text _, _, h => by simp [ltK] at h
  | .tup xs, .num b, _, h, _ => by simp [ltK] at h
  | .tup xs, .none, _, h, _ => by simp [ltK] at h
  | .tup xs, .text _, _, h, _ => by simp [ltK] at h
  | .num _, .tup _, .num _, _, h => by simp [ltK] at h
  | .num _, .tup _, .none, _, h => by simp [ltK] at h
  | .num _, .tup _, .text _, _, h => by simp [ltK] at h
  | .num _, .num _, .none, _, h => by simp [ltK] at h
  | .num _, .num _, .text _, _, h => by simp [ltK] at h
  | .num _, .none, .num _, h, _ => by simp [ltK] at h
  | .num _, .none, .none, h, _ => by simp [ltK] at h
  | .num _, .none, .text _, h, _ => by simp [ltK] at h
  | .num _, .text _, .num _, h, _ => by simp [ltK] at h
  | .num _, .text _, .none, h, _ => by simp [ltK] at h
  | .num _, .text _, .text _, h, _ => by simp [ltK] at h
  | .none, y, _, h, _ => by cases y <;> simp [ltK] at h
  | .text _, y, _, h, _ => by cases y <;> simp [ltK] at h
theorem ltKs_tr : ∀ xs ys zs : List NestedKey, ltKs xs ys = true → ltKs ys zs = true → ltKs xs zs = true
  | [], [], _, h, _ => by simp [ltKs] at h
  | _ :: _, [], _, h, _ => by simp [ltKs] at h
  | _, _ :: _, [], _, h => by simp [ltKs] at h
  | [], _ :: _, _ :: _, _, _ => by simp [ltKs]
  | x :: xs, y :: ys, z :: zs, h1, h2 => by
    rw [ltKs] at h1 h2 ⊢
    by_cases e1 : x = y
    · rw [if_pos e1] at h1
      by_cases e2 : y = z
      · rw [if_pos e2] at h2
        rw [if_pos (e1.trans e2)]
        exact ltKs_tr xs ys zs h1 h2
      · rw [if_neg e2] at h2
        rw [if_neg (fun e => e2 (e1.symm.trans e)), e1]
        exact h2
    · rw [if_neg e1] at h1
      by_cases e2 : y = z
      · rw [if_neg (fun e => e1 (e.trans e2.symm)), ← e2]
        exact h1
      · rw [if_neg e2] at h2
        have h3 := ltK_tr x y z h1 h2
        rw [if_neg (fun e => by
          rw [e, ltK_irr] at h3
          cases h3)]
        exact h3
end
/-! ### which of them compare -/
mutual
def cmpK : NestedKey → NestedKey → Bool
  | .num _, .num _ => true
  | .tup xs, .tup ys => cmpKs xs ys
  | _, _ => false
def cmpKs : List NestedKey → List NestedKey → Bool
  | x :: xs, y :: ys => cmpK x y && cmpKs xs ys
  | _, _ => true
end
theorem pns_get {h : Heap} : ∀ {ks : List NestedKey} {vs : List Value}, PNs h ks vs → ks.length = vs.length ∧ ∀ (i : Nat) (h1 : i < ks.length) (h2 : i < vs.length), PN h ks[i] vs[i]
  | _, _, .nil => ⟨rfl, fun i h1 => absurd h1 (Nat.not_lt_zero _)⟩
  | _, _, .cons a b => by
    obtain ⟨e, r⟩ := pns_get b
    refine ⟨by rw [List.length_cons, List.length_cons, e], fun i h1 h2 => ?_⟩
    cases i with
    | zero => exact a
    | succ i => exact r i (Nat.lt_of_succ_lt_succ h1) (Nat.lt_of_succ_lt_succ h2)
theorem cmpKs_get : ∀ {xs ys : List NestedKey}, cmpKs xs ys = true → ∀ (i : Nat) (h1 : i < xs.length) (h2 : i < ys.length), cmpK xs[i] ys[i] = true
  | [], _, _, i, h1, _ => absurd h1 (Nat.not_lt_zero _)
  | _ :: _, [], _, i, _, h2 => absurd h2 (Nat.not_lt_zero _)
  | x :: xs, y :: ys, h, i, h1, h2 => by
    rw [cmpKs, Bool.and_eq_true] at h
    cases i with
    | zero => exact h.1
    | succ i => exact cmpKs_get h.2 i (Nat.lt_of_succ_lt_succ h1) (Nat.lt_of_succ_lt_succ h2)
theorem lexAt_shift (e r : Nat → Bool) (z : Bool) : ∀ k i, Ob.lexAt (fun j => e (j + 1)) (fun j => r (j + 1)) z i k = Ob.lexAt e r z (i + 1) k
  | 0, _ => rfl
  | k + 1, i => by rw [Ob.lexAt_succ, Ob.lexAt_succ, lexAt_shift e r z k (i + 1)]
theorem lex_ltKs : ∀ (xs ys : List NestedKey), Ob.lexAt (fun j => decide (xs[j]? = ys[j]?)) (fun j => match xs[j]?, ys[j]? with | some x, some y => ltK x y | _, _ => false) (decide (xs.length < ys.length)) 0 (min xs.length ys.length) = ltKs xs ys
  | [], [] => by simp [ltKs, Ob.lexAt_zero]
  | [], y :: ys => by simp [ltKs, Ob.lexAt_zero]
  | x :: xs, [] => by simp [ltKs, Ob.lexAt_zero]
  | x :: xs, y :: ys => by
    have ih := lex_ltKs xs ys
    rw [ltKs]
    have e1 : min (x :: xs).length (y :: ys).length = min xs.length ys.length + 1 := by simp only [List.length_cons]; omega
    rw [e1, Ob.lexAt_succ]
    have e2 : decide ((x :: xs).length < (y :: ys).length) = decide (xs.length < ys.length) := by simp
    by_cases c : x = y
    · rw [if_pos c, if_pos (by simp [c]), ← ih, e2]
      exact (lexAt_shift _ _ _ _ _).symm.trans rfl
    · rw [if_neg c, if_neg (by simp [c])]
      rfl
section
variable {P : Program} {w : World} {s : Shared}
theorem rc_lt : ∀ (n : Nat) (x y : NestedKey) (u v : Value) (A : Around), x.depth ≤ n → PN s.heap x u → PN s.heap y v → cmpK x y = true → A.units + n + 2 < cLine → Ob.RcOp .Lt A s u v (ltK x y) := by
  intro n
  induction n with
  | zero =>
    intro x y u v A hd hx hy hc hu
    cases hx with
    | num a t =>
      cases hy with
      | num b t' => rw [ltK]; exact Ob.RcOp.lt_int a b t t'
      | tup _ _ _ _ => exact nomatch hc
    | tup _ _ _ _ => rw [NestedKey.depth] at hd; omega
  | succ n ih =>
    intro x y u v A hd hx hy hc hu
    cases hx with
    | num a t =>
      cases hy with
      | num b t' => rw [ltK]; exact Ob.RcOp.lt_int a b t t'
      | tup _ _ _ _ => exact nomatch hc
    | @tup a o vs m ks h1 h2 h3 h4 =>
      cases hy with
      | num b t' => exact nomatch hc
      | @tup a' o' us m' qs k1 k2 k3 k4 =>
        rw [NestedKey.depth] at hd
        rw [cmpK] at hc
        rw [ltK]
        obtain ⟨l1, g1⟩ := pns_get h4
        obtain ⟨l2, g2⟩ := pns_get k4
        have R := Ob.RcOp.tuples_lt (A := A) (s := s) (l := a) (b := a') (items := vs) (items2 := us) (e := fun j => decide (ks[j]? = qs[j]?)) (r := fun j => match ks[j]?, qs[j]? with | some x, some y => ltK x y | _, _ => false)
          ⟨o, h1, h2, m, h3⟩ ⟨o', k1, k2, m', k3⟩ (by omega) (fun j j1 j2 => ?_) (fun j j1 j2 _ => ?_)
        · have q1 : vs.size = ks.length := by rw [l1]; exact (Array.length_toList).symm
          have q2 : us.size = qs.length := by rw [l2]; exact (Array.length_toList).symm
          rw [q1, q2, lex_ltKs] at R
          exact R
        · have d1 : j < ks.length := by rw [l1, Array.length_toList]; exact j1
          have d2 : j < qs.length := by rw [l2, Array.length_toList]; exact j2
          have p1 := g1 j d1 (by rw [Array.length_toList]; exact j1)
          have p2 := g2 j d2 (by rw [Array.length_toList]; exact j2)
          have dm := depth_mem (List.getElem_mem d1)
          have e := eqAt_key ks[j] qs[j] A.in1 s _ _ p1.is p2.is (by show A.units + 1 + _ < _; omega)
          rw [← NestedKey.decide_eq] at e
          have f : decide (ks[j]? = qs[j]?) = decide (ks[j] = qs[j]) := by rw [List.getElem?_eq_getElem d1, List.getElem?_eq_getElem d2]; simp
          rw [f]
          simpa using e
        · have d1 : j < ks.length := by rw [l1, Array.length_toList]; exact j1
          have d2 : j < qs.length := by rw [l2, Array.length_toList]; exact j2
          have p1 := g1 j d1 (by rw [Array.length_toList]; exact j1)
          have p2 := g2 j d2 (by rw [Array.length_toList]; exact j2)
          have dm := depth_mem (List.getElem_mem d1)
          have R := ih ks[j] qs[j] _ _ A.in1 (by omega) p1 p2 (cmpKs_get hc j d1 d2) (by show A.units + 1 + n + 2 < _; omega)
          rw [List.getElem?_eq_getElem d1, List.getElem?_eq_getElem d2]
          simpa using R
end
end ML

namespace ML
open PySem Spec PyProof.Rows L2 SrtO
section
variable {P : Program} {w : World} {A : Around} {E : Value → Shared → Prop} {s : Shared}
/-- the firsts are all numbers, or all tuples -/
def FirstN (k : NestedKey) : Prop := ∃ i r, k = .tup (.num i :: r)
def FirstT (k : NestedKey) : Prop := ∃ q r, k = .tup (.tup q :: r)
def Alike (ks : List NestedKey) : Prop := ((∀ k ∈ ks, FirstN k) ∨ (∀ k ∈ ks, FirstT k)) ∧ ∀ x ∈ ks, ∀ y ∈ ks, cmpK x y = true
theorem kat_keys {b : Bool} {Q : Bool → Shared → Prop} (hu : A.units + 12 < cLine) : ∀ (xs ys : List NestedKey) (vs us : List Value) (i : Nat), PNs s.heap xs vs → PNs s.heap ys us → cmpKs xs ys = true → NestedKey.depthAll xs ≤ 8 →
    ((b = true ∧ i = 0) → (∀ x ∈ xs.head?, ∃ n, x = .num n) ∧ ∀ y ∈ ys.head?, ∃ n, y = .num n) →
    Q (ltKs xs ys) s → PySem.W.KatLex P w A b (decide (xs.length < ys.length)) Q (vs.zip us) i s
  | [], [], _, _, _, .nil, .nil, _, _, _, q => by
    have e : ltKs [] [] = decide (([] : List NestedKey).length < ([] : List NestedKey).length) := by simp [ltKs]
    rw [e] at q
    exact PySem.W.kat_nil q
  | [], y :: ys, _, _, _, .nil, .cons _ _, _, _, _, q => by
    have e : ltKs [] (y :: ys) = decide (([] : List NestedKey).length < (y :: ys).length) := by simp [ltKs]
    rw [e] at q
    exact PySem.W.kat_nil q
  | x :: xs, [], _, _, _, .cons _ _, .nil, _, _, _, q => by
    have e : ltKs (x :: xs) [] = decide ((x :: xs).length < ([] : List NestedKey).length) := by simp [ltKs]
    rw [e] at q
    exact PySem.W.kat_nil q
  | x :: xs, y :: ys, _, _, i, .cons (v := v) (vs := vs) p1 r1, .cons (v := u) (vs := us) p2 r2, hc, hd, hh, q => by
    rw [NestedKey.depthAll] at hd
    rw [cmpKs, Bool.and_eq_true] at hc
    have e0 : decide ((x :: xs).length < (y :: ys).length) = decide (xs.length < ys.length) := by simp
    rw [e0]
    show PySem.W.KatLex P w A b _ Q ((v, u) :: vs.zip us) i s
    have eq := eqAt_key x y A s _ _ p1.is p2.is (by omega)
    rw [← NestedKey.decide_eq] at eq
    refine PySem.W.kat_cons (eq P w _ _ (PySem.W.kat_go (fun e => ?_) (fun e => ?_)))
    · have e' : x = y := of_decide_eq_true e
      rw [ltKs, if_pos e'] at q
      exact PySem.W.kat_yes (kat_keys hu xs ys vs us (i + 1) r1 r2 hc.2 (by omega) (fun z => absurd z.2 (Nat.succ_ne_zero i)) q)
    · have e' : x ≠ y := of_decide_eq_false e
      rw [ltKs, if_neg e'] at q
      refine PySem.W.kat_no ?_
      by_cases z : b = true ∧ i = 0
      · obtain ⟨⟨n, en⟩, ⟨m, em⟩⟩ : (∃ n, x = .num n) ∧ ∃ m, y = .num m := ⟨(hh z).1 x rfl, (hh z).2 y rfl⟩
        subst en em
        cases p1
        cases p2
        rw [z.1, z.2]
        rw [ltK] at q
        exact PyProof.Rows.oneLt_int q
      · have f : (b && i == 0) = false := by
          rcases Bool.eq_false_or_eq_true b with hb | hb
          · have hi : i ≠ 0 := fun e => z ⟨hb, e⟩
            simp [hb, hi]
          · simp [hb]
        rw [f]
        exact PySem.W.kat_one _ _ (rc_lt (s := s) 8 x y v u A (by omega) p1 p2 hc.1 (by omega) P w _ _ q)
open Classical in
/-- the key of a value -/
noncomputable def keyAt (h : Heap) (v : Value) : NestedKey := if x : ∃ k, PN h k v ∧ numK k = true then x.choose else .num 0
theorem keyAt_num (h : Heap) (v : Value) : numK (keyAt h v) = true := by
  unfold keyAt
  split
  · rename_i x; exact x.choose_spec.2
  · rfl
theorem keyAt_eq {h : Heap} {v : Value} {k : NestedKey} (p : PN h k v) (n : numK k = true) : keyAt h v = k := by
  unfold keyAt
  split
  · rename_i x; exact NestedIs.inj _ _ _ x.choose_spec.1.is p.is
  · rename_i x; exact absurd ⟨k, p, n⟩ x
theorem swo_key (g : Value → NestedKey) (hg : ∀ v, numK (g v) = true) : Swo fun v u => ltK (g v) (g u) := by
  refine ⟨fun x y h => ltK_asym _ _ h, fun x y z h1 h2 => ?_⟩
  cases h : ltK (g z) (g x) with
  | false => rfl
  | true =>
    rcases ltK_tri (g x) (g y) (hg x) (hg y) with c | c | c
    · have := ltK_tr _ _ _ h c
      rw [h2] at this
      cases this
    · rw [c] at h
      rw [h2] at h
      cases h
    · rw [h1] at c
      cases c
theorem firsts_n {h : Heap} : ∀ (L : Rows), (∀ p ∈ L, NI h p.2 p.1) → (∀ k ∈ kys L, FirstN k) → ∃ fs, PySem.W.KatTups h (L.map fun p => Value.ref p.1) fs ∧ fs.length = L.length ∧ ∀ f ∈ fs, ∃ n t, f = Value.int n t
  | [], _, _ => ⟨[], PySem.W.KatTups.nil, rfl, fun f hf => nomatch hf⟩
  | p :: L, hn, hf => by
    obtain ⟨fs, k, hl, hi⟩ := firsts_n L (fun q hq => hn q (List.mem_cons_of_mem _ hq)) (fun q hq => hf q (List.mem_cons_of_mem _ hq))
    obtain ⟨i, r, e⟩ := hf p.2 List.mem_cons_self
    have x := (hn p List.mem_cons_self).pn
    rw [e] at x
    cases x with
    | @tup a o vs n ks h1 h2 h3 h4 =>
      cases hv : vs.toList with
      | nil => rw [hv] at h4; cases h4
      | cons f r2 =>
        rw [hv] at h4
        cases h4 with
        | cons a b =>
          cases a with
          | num i t =>
            refine ⟨Value.int i t :: fs, PySem.W.KatTups.cons h1 h2 h3 (by rw [← Array.getElem?_toList, hv]; rfl) k, by simp [hl], fun f hf => ?_⟩
            rcases List.mem_cons.mp hf with e | e
            · exact ⟨i, t, e⟩
            · exact hi f e
theorem firsts_t {h : Heap} : ∀ (L : Rows), (∀ p ∈ L, NI h p.2 p.1) → (∀ k ∈ kys L, FirstT k) → ∃ fs, PySem.W.KatTups h (L.map fun p => Value.ref p.1) fs ∧ fs.length = L.length ∧ ∀ f ∈ fs, ∃ a o, f = Value.ref a ∧ h.get? a = some o ∧ o.cls = .type "tuple"
  | [], _, _ => ⟨[], PySem.W.KatTups.nil, rfl, fun f hf => nomatch hf⟩
  | p :: L, hn, hf => by
    obtain ⟨fs, k, hl, hi⟩ := firsts_t L (fun q hq => hn q (List.mem_cons_of_mem _ hq)) (fun q hq => hf q (List.mem_cons_of_mem _ hq))
    obtain ⟨i, r, e⟩ := hf p.2 List.mem_cons_self
    have x := (hn p List.mem_cons_self).pn
    rw [e] at x
    cases x with
    | @tup a o vs n ks h1 h2 h3 h4 =>
      cases hv : vs.toList with
      | nil => rw [hv] at h4; cases h4
      | cons f r2 =>
        rw [hv] at h4
        cases h4 with
        | cons a b =>
          cases a with
          | @tup b ob vs' m qs g1 g2 g3 g4 =>
            refine ⟨Value.ref b :: fs, PySem.W.KatTups.cons h1 h2 h3 (by rw [← Array.getElem?_toList, hv]; rfl) k, by simp [hl], fun f hf => ?_⟩
            rcases List.mem_cons.mp hf with e | e
            · exact ⟨b, ob, e, g1, g2⟩
            · exact hi f e
theorem k_kindN {L : Rows} {Q : SortKind → Shared → Prop} (h0 : 0 < L.length) (hn : ∀ p ∈ L, NI s.heap p.2 p.1) (c : ∀ k ∈ kys L, FirstN k) (q : Q (tuples' true) s) : wpAny (model P w) A (keyKind' (L.map fun p => Value.ref p.1).toArray) Q E s := by
  obtain ⟨fs, k, hl, hi⟩ := firsts_n L hn c
  refine PySem.W.kat_kind (T := .type "int") k (by omega) (fun f hf => ?_) rfl q
  obtain ⟨n, t, rfl⟩ := hi f hf
  exact PySem.W.Looks.of_pure rfl
theorem k_kindT {L : Rows} {Q : SortKind → Shared → Prop} (h0 : 0 < L.length) (hn : ∀ p ∈ L, NI s.heap p.2 p.1) (c : ∀ k ∈ kys L, FirstT k) (q : Q (tuples' false) s) : wpAny (model P w) A (keyKind' (L.map fun p => Value.ref p.1).toArray) Q E s := by
  obtain ⟨fs, k, hl, hi⟩ := firsts_t L hn c
  refine PySem.W.kat_kind (T := .type "tuple") k (by omega) (fun f hf => ?_) rfl q
  obtain ⟨a, o, rfl, g1, g2⟩ := hi f hf
  rw [← g2]
  exact (PySem.W.Looks.ld g1).andThen .now
theorem cmp_keys {b : Bool} {L : Rows} (hu : A.units + 12 < cLine) (hn : ∀ p ∈ L, NI s.heap p.2 p.1) (hb : b = true → ∀ k ∈ kys L, FirstN k) (hc : ∀ x ∈ kys L, ∀ y ∈ kys L, cmpK x y = true) (g : Value → NestedKey) (hg : ∀ p ∈ L, g (.ref p.1) = p.2) :
    Cmp P w A s (tuples' b) (fun p => p.1 ∈ L.map fun p => Value.ref p.1) (lt2 fun v u => ltK (g v) (g u)) := by
  rintro ⟨v1, v2⟩ ⟨u1, u2⟩ hp hq
  obtain ⟨p, pm, e1⟩ := List.mem_map.mp hp
  obtain ⟨q, qm, e2⟩ := List.mem_map.mp hq
  dsimp only at e1 e2
  subst e1 e2
  show wpAny (model P w) A (keyLt' (tuples' b) (.ref p.1) (.ref q.1)) (fun r s' => s' = s ∧ r = ltK (g (.ref p.1)) (g (.ref q.1))) (fun _ _ => False) s
  rw [hg p pm, hg q qm]
  have hcc := hc p.2 (List.mem_map.mpr ⟨p, pm, rfl⟩) q.2 (List.mem_map.mpr ⟨q, qm, rfl⟩)
  have f1 := fun z => hb z p.2 (List.mem_map.mpr ⟨p, pm, rfl⟩)
  have f2 := fun z => hb z q.2 (List.mem_map.mpr ⟨q, qm, rfl⟩)
  have n1 := hn p pm
  have n2 := hn q qm
  generalize p.2 = x at n1 f1 hcc ⊢
  generalize q.2 = y at n2 f2 hcc ⊢
  obtain ⟨p1, d1, _⟩ := n1
  obtain ⟨p2, _, _⟩ := n2
  cases p1 with
  | @tup _ o vs m ks h1 h2 h3 h4 =>
    cases p2 with
    | @tup _ o' us m' qs g1 g2 g3 g4 =>
      obtain ⟨l1, _⟩ := pns_get h4
      obtain ⟨l2, _⟩ := pns_get g4
      refine PySem.W.kat_lt h1 h3 g1 g3 ?_
      rw [show vs.size = ks.length by rw [l1]; exact (Array.length_toList).symm, show us.size = qs.length by rw [l2]; exact (Array.length_toList).symm]
      rw [cmpK] at hcc
      rw [NestedKey.depth] at d1
      refine kat_keys hu ks qs _ _ 0 h4 g4 hcc (by omega) (fun z => ⟨fun x hx => ?_, fun y hy => ?_⟩) ⟨rfl, by rw [ltK]⟩
      · obtain ⟨i, r, e⟩ := f1 z.1
        cases e
        cases hx
        exact ⟨i, rfl⟩
      · obtain ⟨i, r, e⟩ := f2 z.1
        cases e
        cases hy
        exact ⟨i, rfl⟩
theorem k_sortable {a : Addr} {L : Rows} (h0 : 0 < L.length) (hu : A.units + 12 < cLine) (hn : ∀ p ∈ L, NI s.heap p.2 p.1) (al : Alike (kys L)) (g : Value → NestedKey) (hg : ∀ p ∈ L, g (.ref p.1) = p.2)
    (ha : ∀ o, s.heap.get? a = some o → o.cls ≠ .type "tuple") : SortableO P w A s a (L.map fun p => Value.ref p.1) fun v u => ltK (g v) (g u) := by
  intro h' keep
  have hn' : ∀ p ∈ L, NI h' p.2 p.1 := fun p hp => ⟨(hn p hp).pn.at fun b o vs n e hc _ => keep b o (fun z => by subst z; exact ha o e hc) e, (hn p hp).dp, (hn p hp).nm⟩
  rcases al.1 with c | c
  · exact ⟨_, fun Q E q => k_kindN (s := { s with heap := h' }) h0 hn' c q, cmp_keys (b := true) (s := { s with heap := h' }) hu hn' (fun _ => c) al.2 g hg⟩
  · exact ⟨_, fun Q E q => k_kindT (s := { s with heap := h' }) h0 hn' c q, cmp_keys (b := false) (s := { s with heap := h' }) hu hn' (fun z => absurd z (by decide)) al.2 g hg⟩
/-- sorted(a), a the set of L -/
theorem s_sorted {a : Addr} {L : Rows} {es : Array (Int × Value)} {ep : Nat} {t : SetTable} {Q : Value → Shared → Prop} (R : STab w s.heap a L es ep t) (hh : A.handled = none) (hu : A.units + 16 < cLine) (al : 2 ≤ L.length → Alike (kys L))
    (q : ∀ s' p (out : List Value) (c : Nat) (M : Rows), (∀ b o, s.heap.get? b = some o → s'.heap.get? b = some o) → s'.gens = s.gens → s'.os = s.os → s.heap.objs.size ≤ p →
      s'.heap.get? p = some (seqObj "list" out.toArray c) → out = M.map (fun q => Value.ref q.1) → M.Perm L → M.Pairwise (fun q r => ltK q.2 r.2 = true) → Q (.ref p) s') :
    wpAny (model P w) A (call (.builtin "sorted") [.ref a]) Q E s := by
  obtain ⟨o, ho, hex, hd⟩ := R.ob
  have sl := size_of_rws R.el
  have fw := R.fw
  refine Calls.call_function_entry kind_sorted plain_sorted entry_sorted (args_sorted1 _) ?_
  unfold Builtin.«sorted»
  refine wpAny_bind (m := checkCount "sorted" 1 1 _) (wpAny_pure ?_)
  refine wpAny_bind (collect_set (A := A.in1) hh ⟨o, ho, hex.1, hd⟩ R.fits (by unfold scanBound; omega) R.tab.up R.ld fun s1 vs k1 hz g1 o1 pm => ?_)
  have hes : es.toList.map (·.2) = L.map fun q => Value.ref q.1 := by
    rw [R.el]
    unfold rws
    rw [List.map_map]
    rfl
  rw [hes] at pm
  have nL : L.Nodup := nodup_of_map R.nd
  have one : ∀ q ∈ L, ∀ r ∈ L, q.1 = r.1 → q = r := fun q hq r hr e => Prod.ext e (by
    have a1 := (R.ks q hq).is
    have a2 := (R.ks r hr).is
    rw [e] at a1
    exact NestedIs.inj _ _ _ a1 a2)
  have nref : (L.map fun q => Value.ref q.1).Nodup := List.pairwise_map.mpr (List.Pairwise.imp_of_mem (fun {q r} hq hr ne e => by
    injection e with e
    exact ne (one q hq r hr e)) nL)
  have back : ∀ us : List Value, us.Perm (L.map fun q => Value.ref q.1) → ∃ M : Rows, us = M.map (fun q => Value.ref q.1) ∧ M.Perm L := by
    intro us pu
    have pick : ∀ us : List Value, (∀ v ∈ us, ∃ q ∈ L, v = Value.ref q.1) → ∃ M : Rows, us = M.map (fun q => Value.ref q.1) ∧ ∀ q ∈ M, q ∈ L := by
      intro us
      induction us with
      | nil => intro _; exact ⟨[], rfl, fun q hq => nomatch hq⟩
      | cons v us ih =>
        intro hv
        obtain ⟨q, hq, e⟩ := hv v List.mem_cons_self
        obtain ⟨M, e1, hs⟩ := ih fun u hu => hv u (List.mem_cons_of_mem _ hu)
        refine ⟨q :: M, by rw [List.map_cons, e, e1], fun r hr => ?_⟩
        rcases List.mem_cons.mp hr with z | z
        · rw [z]; exact hq
        · exact hs r z
    obtain ⟨M, e, hs⟩ := pick us fun v hv => by
      obtain ⟨q, hq, e⟩ := List.mem_map.mp (pu.mem_iff.mp hv)
      exact ⟨q, hq, e.symm⟩
    rw [e] at pu
    refine ⟨M, e, (List.perm_ext_iff_of_nodup (nodup_of_map (pu.nodup_iff.mpr nref)) nL).mpr fun q => ⟨hs q, fun hq => ?_⟩⟩
    obtain ⟨r, hr, e⟩ := List.mem_map.mp (pu.mem_iff.mpr (List.mem_map.mpr ⟨q, hq, rfl⟩))
    injection e with e
    rw [← one r (hs r hr) q hq e]
    exact hr
  obtain ⟨L1, e1, p1⟩ := back vs pm
  have hvl : vs.length = L.length := by rw [e1, List.length_map, p1.length_eq]
  have ks1 : ∀ q ∈ L1, NI s1.heap q.2 q.1 := fun q hq => (R.ks q (p1.mem_iff.mp hq)).grow k1
  refine wpAny_bind (wpAny_newList ?_ (by rw [sizeLine_eq]; omega))
  have hoL : (s1.heap.push (seqObj "list" vs.toArray 0)).get? s1.heap.objs.size = some (seqObj "list" vs.toArray 0) := Heap.get?_push_size _ rfl
  have ks2 : ∀ q ∈ L1, NI (s1.heap.push (seqObj "list" vs.toArray 0)) q.2 q.1 := fun q hq => (ks1 q hq).grow fun b u e => Heap.get?_push_of_some _ e
  have hg : ∀ q ∈ L1, keyAt s1.heap (.ref q.1) = q.2 := fun q hq => keyAt_eq (ks1 q hq).pn (ks1 q hq).nm
  have O := swo_key (keyAt s1.heap) (keyAt_num s1.heap)
  refine wpAny_bind (wpAny_holding (wpAny_call_entry slot_list_sort ⟨_, hoL, rfl⟩ entry_list_sort (list_sort_ord (s := { s1 with heap := s1.heap.push (seqObj "list" vs.toArray 0) }) O hoL (by rw [sizeLine_eq]; omega) (fun h2 => ?_) fun out hs hb => ⟨_, rfl, ?_⟩) (args_list_sort _)))
  · have al1 : Alike (kys L1) := by
      have al0 := al (by omega)
      have mm : ∀ k ∈ kys L1, k ∈ kys L := fun k hk => (p1.map (·.2)).mem_iff.mp hk
      exact ⟨al0.1.imp (fun z k hk => z k (mm k hk)) (fun z k hk => z k (mm k hk)), fun x hx y hy => al0.2 x (mm x hx) y (mm y hy)⟩
    have S := k_sortable (P := P) (w := w) (A := A.in1.in1) (s := { s1 with heap := s1.heap.push (seqObj "list" vs.toArray 0) }) (a := s1.heap.objs.size) (by have := p1.length_eq; omega) (by show A.units + 1 + 1 + 12 < cLine; omega) ks2 al1 _ hg fun o e => by
      rw [hoL] at e
      cases e
      exact fun z => absurd (Value.type.inj z) (by decide)
    rw [← e1] at S
    exact S
  · obtain ⟨c, hc⟩ := sortedHeap_at (vs := vs) (out := out.toArray) hoL
    obtain ⟨M, e2, p2⟩ := back out (hb.perm.trans pm)
    have hm1 : ∀ q ∈ M, q ∈ L1 := fun q hq => p1.mem_iff.mpr (p2.mem_iff.mp hq)
    have nM : (kys M).Nodup := (p2.map (·.2)).nodup_iff.mpr R.nd
    have pw : M.Pairwise (fun q r => ltK q.2 r.2 = true) := by
      have h1 : M.Pairwise fun q r => ltK (keyAt s1.heap (.ref r.1)) (keyAt s1.heap (.ref q.1)) = false := by
        have := hs
        rw [e2] at this
        exact List.pairwise_map.mp this
      have h2 : M.Pairwise fun q r => q.2 ≠ r.2 := List.pairwise_map.mp nM
      refine List.Pairwise.imp_of_mem (fun {q r} hq hr z => ?_) (h1.and h2)
      obtain ⟨z1, z2⟩ := z
      rw [hg q (hm1 q hq), hg r (hm1 r hr)] at z1
      rcases ltK_tri q.2 r.2 (ks1 q (hm1 q hq)).nm (ks1 r (hm1 r hr)).nm with c | c | c
      · exact c
      · exact absurd c z2
      · rw [z1] at c; cases c
    refine wpAny_pure ⟨_, rfl, q _ s1.heap.objs.size out c M (fun b u e => ?_) g1 o1 hz hc e2 p2 pw⟩
    have e' := k1 b u e
    have lt := Heap.lt_size e'
    show (sortedHeap (s1.heap.push (seqObj "list" vs.toArray 0)) s1.heap.objs.size vs out.toArray).get? b = some u
    rw [sortedHeap_old (Nat.ne_of_lt lt) (by rw [size_push']; exact Nat.lt_succ_of_lt lt)]
    exact Heap.get?_push_of_some _ e'
end
end ML

namespace ML
open PySem Spec PyProof.Rows L2
/-! ### sorted(set(xs)) -/
def tSortSet (K : PySem.W.Frag) (t : TE) : TE := fun σ H Q => t σ H fun x H1 => ∃ (l : Addr) (L : Rows), x = V.ref l ∧ SqL K H1 l (L.map fun p => V.ref p.1) ∧ (∀ p ∈ L, Dp K H1 (.ref p.1) p.2.data ∧ numK p.2 = true ∧ p.2.depth ≤ 8) ∧ L.length < 1200 ∧ Alike (kys L) ∧
  ∀ (M : Rows) (p : Addr), (∀ q ∈ M, q ∈ L) → (∀ q ∈ L, q.2 ∈ kys M) → M.Pairwise (fun q r => ltK q.2 r.2 = true) → H1 p = none → Q (.ref p) (upd H1 p (.lst (M.map fun q => V.ref q.1)))
theorem rows_vals : ∀ {L : Rows} {us : List Value}, Vals (L.map fun p => V.ref p.1) us → us = L.map fun p => Value.ref p.1
  | [], _, .nil => rfl
  | p :: L, _, .cons r t => by
    cases r
    rw [rows_vals t]
    rfl
theorem vals_rows : ∀ L : Rows, Vals (L.map fun p => V.ref p.1) (L.map fun p => Value.ref p.1)
  | [] => .nil
  | p :: L => .cons rfl (vals_rows L)
theorem boot_sorted' : bootBuiltins "sorted" = some (.builtin "sorted") := by decide +kernel
section
variable {X : Cx}
theorem pe_sortSet {a : Expr} {ta : TE} {p p2 q pos : Pos} {k : Nat} (hc : X.calm = true) (hr : RoomG k X.A) (hg : Gl X "sorted") (hm : X.mg "sorted" = none) (hg2 : Gl X "set") (hm2 : X.mg "set" = none) (ha : PE X a ta)
    (na : starEach [a] X.env = (false, eval a X.env) :: starEach [] X.env := by rfl) : PE X (.Call (.Name "sorted" p) [.Call (.Name "set" p2) [a] [] q] [] pos) (tSortSet X.K ta) := by
  refine ⟨fun pins s σ H Q I h => ?_⟩
  have hu := hr.units
  refine Call_ (ld_blt I hg hm boot_sorted' ?_)
  refine PyProof.Rows.callWith_builtin1 (PyProof.Rows.args_cons ?_ rfl) rfl rfl
  refine Call_ (ld_blt I hg2 hm2 PyProof.Rows.boot_set ?_)
  refine PyProof.Rows.callWith_type1 (PyProof.Rows.args_cons (thn (ha.run pins s σ H _ I h) fun v s1 ⟨x, H1, I1, r1, q1⟩ => PyProof.Rows.args_nil ?_) na) na rfl
  obtain ⟨l, L, rfl, hq, hL, few, al, q1⟩ := q1
  cases r1
  obtain ⟨its, r, pl, hz⟩ := I1.list hq
  have hk : ∀ p ∈ L, NI s1.heap p.2 p.1 := fun p hp => by
    obtain ⟨d, n, dp⟩ := hL p hp
    obtain ⟨as, rd⟩ := Dp.reads I1 _ _ _ d rfl
    exact ⟨PN.of rd n, dp, n⟩
  refine s_init L (I1.ok.hd hc) pl.isList (by simpa using rows_vals r) hk few (by omega) fun h' tk L2 es ep t T g kp => ?_
  refine PyProof.Rows.args_nil ?_
  have I2 : Inv X pins σ H1 { s1 with heap := h', toks := tk } := I1.kept kp
  have sub : ∀ q ∈ L2, q ∈ L := fun q hq => List.mem_of_mem_take (g.sub q hq)
  have al2 : Alike (kys L2) := by
    have mm : ∀ k ∈ kys L2, k ∈ kys L := fun k hk => by
      obtain ⟨q, hq, e⟩ := List.mem_map.mp hk
      exact List.mem_map.mpr ⟨q, sub q hq, e⟩
    exact ⟨al.1.imp (fun z k hk => z k (mm k hk)) (fun z k hk => z k (mm k hk)), fun x hx y hy => al.2 x (mm x hx) y (mm y hy)⟩
  refine s_sorted (s := { s1 with heap := h', toks := tk }) T (I1.ok.hd hc) (by omega) (fun _ => al2) fun s' p out c M k2 g2 o2 hp hg hout pm pw => ?_
  have hn : H1 p = none := I2.hok.fresh hp
  have hlen : (M.map fun q => V.ref q.1).length ≤ sizeLine := by
    have := T.fw
    rw [List.length_map, pm.length_eq, sizeLine_eq]
    omega
  have hv : Vals (M.map fun q => V.ref q.1) out := by rw [hout]; exact vals_rows M
  have J := I2.call (h' := s'.heap) (g' := s'.gens) (d' := s'.drawn) (t' := s'.toks) (H' := upd H1 p (.lst (M.map fun q => V.ref q.1))) (ch := []) (Un.laid k2 hp hn) (I2.hok.laid k2 hp ⟨hlen, out, c, hv, hg⟩) (by rw [g2]; exact I2.bare) (fun _ z => nomatch z)
  have e : s' = { s1 with heap := s'.heap, gens := s'.gens, drawn := s'.drawn, toks := s'.toks } := by
    cases s'
    cases s1
    cases o2
    rfl
  rw [e]
  refine ⟨.ref p, _, J, rfl, q1 M p (fun q hq => sub q (pm.mem_iff.mp hq)) (fun q hq => ?_) pw hn⟩
  have := g.all q (by rw [List.take_length]; exact hq)
  exact (pm.map (·.2)).mem_iff.mpr this
end
/-! ### the same, typed -/
def insK {α : Type} (k : α → NestedKey) (x : α) : List α → List α
  | [] => [x]
  | y :: ys => if k x = k y then y :: ys else if ltK (k x) (k y) = true then x :: y :: ys else y :: insK k x ys
/-- ascending, each once -/
def sortK {α : Type} (k : α → NestedKey) : List α → List α
  | [] => []
  | x :: xs => insK k x (sortK k xs)
structure RKey {α : Type} (r : R α) where
  k : α → NestedKey
  ok : ∀ {K : PySem.W.Frag} {F H : Hp} {a : α} {v : V}, r.p a F v → Same F H → (∃ b, v = V.ref b) ∧ Dp K H v (k a).data
  nm : ∀ a, numK (k a) = true
  dp : ∀ a, (k a).depth ≤ 8
  inj : ∀ a b, k a = k b → a = b
theorem ins_mem {α : Type} {e : α → NestedKey} {x z : α} : ∀ {l : List α}, z ∈ insK e x l → z = x ∨ z ∈ l
  | [], h => .inl (List.mem_singleton.mp h)
  | y :: ys, h => by
    rw [insK] at h
    split at h
    · exact .inr h
    · split at h
      · exact List.mem_cons.mp h
      · rcases List.mem_cons.mp h with c | c
        · rw [c]; exact .inr List.mem_cons_self
        · exact (ins_mem c).imp id (List.mem_cons_of_mem _)
theorem sort_mem {α : Type} {e : α → NestedKey} {z : α} : ∀ {l : List α}, z ∈ sortK e l → z ∈ l
  | [], h => h
  | x :: xs, h => by
    rcases ins_mem h with c | c
    · rw [c]; exact List.mem_cons_self
    · exact List.mem_cons_of_mem _ (sort_mem c)
theorem ins_has {α : Type} {e : α → NestedKey} {x : α} : ∀ {l : List α}, (e x ∈ (insK e x l).map e) ∧ ∀ z ∈ l, e z ∈ (insK e x l).map e
  | [] => ⟨by simp [insK], fun z hz => nomatch hz⟩
  | y :: ys => by
    rw [insK]
    split
    · rename_i c
      exact ⟨List.mem_map.mpr ⟨y, List.mem_cons_self, c.symm⟩, fun z hz => List.mem_map.mpr ⟨z, hz, rfl⟩⟩
    · split
      · exact ⟨by simp, fun z hz => List.mem_map.mpr ⟨z, List.mem_cons_of_mem _ hz, rfl⟩⟩
      · obtain ⟨h1, h2⟩ := ins_has (e := e) (x := x) (l := ys)
        rw [List.map_cons]
        refine ⟨List.mem_cons_of_mem _ h1, fun z hz => ?_⟩
        rcases List.mem_cons.mp hz with c | c
        · subst c; exact List.mem_cons_self
        · exact List.mem_cons_of_mem _ (h2 z c)
theorem sort_has {α : Type} {e : α → NestedKey} : ∀ {l : List α}, ∀ z ∈ l, e z ∈ (sortK e l).map e
  | x :: xs, z, hz => by
    rw [sortK]
    rcases List.mem_cons.mp hz with c | c
    · subst c; exact ins_has.1
    · have ih : e z ∈ (sortK e xs).map e := sort_has z c
      obtain ⟨y, hy, ey⟩ := List.mem_map.mp ih
      rw [← ey]
      exact ins_has.2 y hy
theorem ins_up {α : Type} {e : α → NestedKey} (nm : ∀ a, numK (e a) = true) {x : α} : ∀ {l : List α}, l.Pairwise (fun a b => ltK (e a) (e b) = true) → (insK e x l).Pairwise (fun a b => ltK (e a) (e b) = true)
  | [], _ => List.pairwise_singleton _ _
  | y :: ys, h => by
    rw [insK]
    obtain ⟨h1, h2⟩ := List.pairwise_cons.mp h
    split
    · exact h
    · split
      · rename_i c1 c2
        refine List.pairwise_cons.mpr ⟨fun z hz => ?_, h⟩
        rcases List.mem_cons.mp hz with c | c
        · rw [c]; exact c2
        · exact ltK_tr _ _ _ c2 (h1 z c)
      · rename_i c1 c2
        refine List.pairwise_cons.mpr ⟨fun z hz => ?_, ins_up nm h2⟩
        rcases ins_mem hz with c | c
        · rw [c]
          rcases ltK_tri (e x) (e y) (nm x) (nm y) with d | d | d
          · exact absurd d c2
          · exact absurd d c1
          · exact d
        · exact h1 z c
theorem sort_up {α : Type} {e : α → NestedKey} (nm : ∀ a, numK (e a) = true) : ∀ l : List α, (sortK e l).Pairwise (fun a b => ltK (e a) (e b) = true)
  | [] => List.Pairwise.nil
  | x :: xs => ins_up nm (sort_up nm xs)
theorem up_unique : ∀ {l m : List NestedKey}, l.Pairwise (fun a b => ltK a b = true) → m.Pairwise (fun a b => ltK a b = true) → (∀ k, k ∈ l ↔ k ∈ m) → l = m
  | [], [], _, _, _ => rfl
  | [], y :: m, _, _, h => nomatch (h y).mpr List.mem_cons_self
  | x :: l, [], _, _, h => nomatch (h x).mp List.mem_cons_self
  | x :: l, y :: m, h1, h2, h => by
    obtain ⟨a1, b1⟩ := List.pairwise_cons.mp h1
    obtain ⟨a2, b2⟩ := List.pairwise_cons.mp h2
    have e : x = y := by
      rcases List.mem_cons.mp ((h x).mp List.mem_cons_self) with c | c
      · exact c
      · rcases List.mem_cons.mp ((h y).mpr List.mem_cons_self) with d | d
        · exact d.symm
        · have := ltK_asym _ _ (a1 y d)
          rw [a2 x c] at this
          cases this
    subst e
    refine congrArg (x :: ·) (up_unique b1 b2 fun k => ⟨fun hk => ?_, fun hk => ?_⟩)
    · rcases List.mem_cons.mp ((h k).mp (List.mem_cons_of_mem _ hk)) with c | c
      · have := a1 k hk
        rw [c, ltK_irr] at this
        cases this
      · exact c
    · rcases List.mem_cons.mp ((h k).mpr (List.mem_cons_of_mem _ hk)) with c | c
      · have := a2 k hk
        rw [c, ltK_irr] at this
        cases this
      · exact c
theorem all2_rows {α : Type} {r : R α} (e : RKey r) {K : PySem.W.Frag} {F H : Hp} (sm : Same F H) : ∀ {xs : List α} {vs : List V}, All2 (fun x u => r.p x F u) xs vs →
    ∃ L : Rows, vs = L.map (fun p => V.ref p.1) ∧ kys L = xs.map e.k ∧ (∀ p ∈ L, ∃ x ∈ xs, p.2 = e.k x ∧ r.p x F (.ref p.1)) ∧ ∀ p ∈ L, Dp K H (.ref p.1) p.2.data ∧ numK p.2 = true ∧ p.2.depth ≤ 8
  | _, _, .nil => ⟨[], rfl, rfl, fun p hp => (nomatch hp), fun p hp => (nomatch hp)⟩
  | _, _, .cons (a := a) (b := b) p q => by
    obtain ⟨L, e1, e2, e3, e4⟩ := all2_rows e sm q
    obtain ⟨⟨c, ec⟩, d⟩ := e.ok (K := K) p sm
    subst ec
    refine ⟨(c, e.k a) :: L, by rw [e1]; rfl, by show _ :: kys L = _; rw [e2]; rfl, fun z hz => ?_, fun z hz => ?_⟩
    · rcases List.mem_cons.mp hz with g | g
      · subst g; exact ⟨a, List.mem_cons_self, rfl, p⟩
      · obtain ⟨x, h1, h2⟩ := e3 z g
        exact ⟨x, List.mem_cons_of_mem _ h1, h2⟩
    · rcases List.mem_cons.mp hz with g | g
      · subst g; exact ⟨d, e.nm a, e.dp a⟩
      · exact e4 z g
theorem rows_all2 {α : Type} {r : R α} (e : RKey r) {F : Hp} : ∀ {M : Rows} (zs : List α), (∀ p ∈ M, ∃ x, p.2 = e.k x ∧ r.p x F (.ref p.1)) → kys M = zs.map e.k → All2 (fun x u => r.p x F u) zs (M.map fun p => V.ref p.1)
  | [], [], _, _ => .nil
  | [], _ :: _, _, h => nomatch h
  | _ :: _, [], _, h => nomatch h
  | p :: M, z :: zs, hm, h => by
    have h1 : p.2 = e.k z := List.head_eq_of_cons_eq h
    have h2 : kys M = zs.map e.k := List.tail_eq_of_cons_eq h
    obtain ⟨x, a, b⟩ := hm p List.mem_cons_self
    have : x = z := e.inj _ _ (a.symm.trans h1)
    subst this
    exact .cons b (rows_all2 e zs (fun q hq => hm q (List.mem_cons_of_mem _ hq)) h2)
section
variable {nx bk ct : L2.St → Hp → Prop} {rt : VK}
variable {W : Wd} {G : Gam} {T : Tms} {cs : Cells} {K : Sl → Cells → Prop} {t ta tb : TE} {KF : PySem.W.Frag}
theorem sort_end {α : Type} {r : R α} (e : RKey r) {xs : List α} {F H1 : Hp} {s : L2.St} {va : V} {l : Addr} {us : List V} {Q : V → Hp → Prop} (few : xs.length < 1200) (al : Alike (xs.map e.k)) (c : Core W F cs H1) (sg : Slots F G s) (tm : Temps F T)
    (ev : va = .ref l) (hl : SqL KF H1 l us) (hA : All2 (fun x u => r.p x F u) xs us) (q : ∀ p H', Sta W G ((V.ref p, (rLst r).at (sortK e.k xs)) :: T) cs s H' → Q (.ref p) H') :
    ∃ (l : Addr) (L : Rows), va = V.ref l ∧ SqL KF H1 l (L.map fun p => V.ref p.1) ∧ (∀ p ∈ L, Dp KF H1 (.ref p.1) p.2.data ∧ numK p.2 = true ∧ p.2.depth ≤ 8) ∧ L.length < 1200 ∧ Alike (kys L) ∧
      ∀ (M : Rows) (p : Addr), (∀ q ∈ M, q ∈ L) → (∀ q ∈ L, q.2 ∈ kys M) → M.Pairwise (fun q r => ltK q.2 r.2 = true) → H1 p = none → Q (.ref p) (upd H1 p (.lst (M.map fun q => V.ref q.1))) := by
  obtain ⟨L, e1, e2, e3, e4⟩ := all2_rows e (K := KF) c.fh hA
  subst e1
  have ll : L.length = xs.length := by
    have := congrArg List.length e2
    rwa [List.length_map, List.length_map] at this
  refine ⟨l, L, ev, hl, e4, by omega, by rw [e2]; exact al, fun M p m1 m2 m3 hp => ?_⟩
  have ek : kys M = (sortK e.k xs).map e.k := by
    refine up_unique (List.pairwise_map.mpr m3) (List.pairwise_map.mpr (sort_up e.nm xs)) fun k => ⟨fun hk => ?_, fun hk => ?_⟩
    · obtain ⟨z, hz, ez⟩ := List.mem_map.mp hk
      obtain ⟨x, hx, ex, _⟩ := e3 z (m1 z hz)
      rw [← ez, ex]
      exact sort_has x hx
    · obtain ⟨x, hx, ex⟩ := List.mem_map.mp hk
      have : e.k x ∈ kys L := by rw [e2]; exact List.mem_map.mpr ⟨x, sort_mem hx, rfl⟩
      obtain ⟨z, hz, ez⟩ := List.mem_map.mp this
      rw [← ex, ← ez]
      exact m2 z hz
  have A2 := rows_all2 e (F := F) (M := M) (sortK e.k xs) (fun z hz => let ⟨x, _, b⟩ := e3 z (m1 z hz); ⟨x, b⟩) ek
  have sF : Same F (upd F p (.lst (M.map fun q => V.ref q.1))) := same_upd (c.fh.free hp)
  have nl : (sortK e.k xs).length ≤ sizeLine := by
    have i1 : ∀ (x : α) (l : List α), (insK e.k x l).length ≤ l.length + 1 := fun x l => by
      induction l with
      | nil => exact Nat.le_refl _
      | cons y ys ih =>
        rw [insK]
        split
        · exact Nat.le_succ _
        · split
          · exact Nat.le_refl _
          · exact Nat.succ_le_succ ih
    have i2 : ∀ l : List α, (sortK e.k l).length ≤ l.length := fun l => by
      induction l with
      | nil => exact Nat.le_refl _
      | cons y ys ih => exact Nat.le_trans (i1 _ _) (Nat.succ_le_succ ih)
    have := i2 xs
    rw [sizeLine_eq]
    omega
  exact q p _ ⟨_, c.new hp, sg.mono sF, (tm.mono sF).cons ⟨nl, p, _, rfl, upd_same, A2.imp fun _ _ z => r.mono sF z⟩⟩
/-- of a list in a cell -/
theorem e_sortSetC (j : Nat) (ha : Ev ta W G T cs fun sa cs1 => ∃ (α : Type) (r : R α) (e : RKey r) (p : Addr) (xs : List α), sa = sRef p ∧ cs1[j]? = some (p, cLst r xs) ∧ xs.length < 1200 ∧ Alike (xs.map e.k) ∧ K ((rLst r).at (sortK e.k xs)) cs1) :
    Ev (tSortSet KF ta) W G T cs K := fun s H st Q q => by
  refine ha s H st _ fun sa cs1 ⟨α, r, e, p, xs, e1, hj, few, al, k⟩ va H1 ⟨F, c, sg, tm⟩ => ?_
  subst e1
  have ev : va = .ref p := tm.head
  subst ev
  obtain ⟨hz, us, hH, hA⟩ := c.lst hj
  exact sort_end e few al c sg tm.tail rfl (SqL.of hH) hA fun p' H' st' => q _ _ k _ H' st'
end
end ML

namespace ML
open PySem Spec PyProof.Rows L2
theorem datas_num : ∀ g : List Int, NestedKey.datas (g.map NestedKey.num) = g.map eInt.d
  | [] => rfl
  | _ :: g => by
    rw [List.map_cons, NestedKey.datas, datas_num g]
    rfl
theorem numKs_num : ∀ g : List Int, numKs (g.map NestedKey.num) = true
  | [] => rfl
  | _ :: g => by rw [List.map_cons, numKs, numKs_num g]; rfl
theorem depth_num : ∀ g : List Int, NestedKey.depthAll (g.map NestedKey.num) = 0
  | [] => rfl
  | _ :: g => by rw [List.map_cons, NestedKey.depthAll, depth_num g]; rfl
theorem cmpKs_num : ∀ g h : List Int, cmpKs (g.map NestedKey.num) (h.map NestedKey.num) = true
  | [], _ => rfl
  | _ :: _, [] => rfl
  | _ :: g, _ :: h => by rw [List.map_cons, List.map_cons, cmpKs, cmpKs_num g h]; rfl
theorem num_inj {g h : List Int} (e : g.map NestedKey.num = h.map NestedKey.num) : g = h := List.map_inj_right (fun a b z => by injection z) |>.mp e
/-- a tuple of numbers as a key -/
def kNums : RKey (rTup rInt) where
  k := fun g => .tup (g.map .num)
  ok := fun {K F H a v} h sm => ⟨by obtain ⟨_, p, vs, rfl, _, _⟩ := h; exact ⟨p, rfl⟩, by
    have := (eTup eInt).ok (K := K) h sm
    rw [NestedKey.data, datas_num]
    exact this⟩
  nm := fun a => by rw [numK]; exact numKs_num a
  dp := fun a => by rw [NestedKey.depth, depth_num]; decide
  inj := fun a b e => by
    injection e with e
    exact num_inj e
/-- a split as a key -/
def kSplit : RKey (rPair (rTup rInt) rInt) where
  k := fun x => .tup [.tup (x.1.map .num), .num x.2]
  ok := fun {K F H a v} h sm => ⟨by obtain ⟨p, u, w, rfl, _, _, _⟩ := h; exact ⟨p, rfl⟩, by
    have := (ePair (eTup eInt) eInt).ok (K := K) h sm
    simp only [NestedKey.data, NestedKey.datas, datas_num]
    exact this⟩
  nm := fun a => by simp only [numK, numKs, numKs_num, Bool.and_self]
  dp := fun a => by simp only [NestedKey.depth, NestedKey.depthAll, depth_num]; decide
  inj := fun a b e => by
    injection e with e
    injection e with e1 e2
    injection e1 with e1
    injection e2 with e2 _
    injection e2 with e2
    exact Prod.ext (num_inj e1) e2
theorem alike_split (xs : List (List Int × Int)) : Alike (xs.map kSplit.k) := by
  refine ⟨.inr fun k hk => ?_, fun x hx y hy => ?_⟩
  · obtain ⟨a, _, e⟩ := List.mem_map.mp hk
    exact ⟨_, _, e.symm⟩
  · obtain ⟨a, _, e⟩ := List.mem_map.mp hx
    obtain ⟨b, _, e'⟩ := List.mem_map.mp hy
    subst e e'
    show cmpK (.tup [.tup (a.1.map .num), .num a.2]) (.tup [.tup (b.1.map .num), .num b.2]) = true
    simp [cmpK, cmpKs, cmpKs_num]
def oSortS (xs : List (List Int × Int)) : Option (List (List Int × Int)) := if xs.length < 1200 then some (sortK kSplit.k xs) else none
section
variable {nx bk ct : L2.St → Hp → Prop} {rt : VK}
variable {W : Wd} {G : Gam} {T : Tms} {cs : Cells} {K : Sl → Cells → Prop} {t ta tb : TE} {KF : PySem.W.Frag}
theorem e_sortS (j : Nat) (ha : Ev ta W G T cs fun sa cs1 => ∃ (p : Addr) (xs z : List (List Int × Int)), sa = sRef p ∧ cs1[j]? = some (p, cLst (rPair (rTup rInt) rInt) xs) ∧ oSortS xs = some z ∧ K ((rLst (rPair (rTup rInt) rInt)).at z) cs1) :
    Ev (tSortSet KF ta) W G T cs K := e_sortSetC j (fun s H st Q q => ha s H st Q fun sa cs1 ⟨p, xs, z, e1, hj, ho, k⟩ => q sa cs1 (by
  unfold oSortS at ho
  split at ho
  · rename_i few
    cases ho
    exact ⟨_, _, kSplit, p, xs, e1, hj, few, alike_split xs, k⟩
  · cases ho))
/-! ## == of texts and of bools -/
theorem e_eqS (ha : Ev ta W G T cs fun sa cs1 => ∃ x, sa = rStr.at x ∧ ∀ va, Ev tb W G ((va, sa) :: T) cs1 fun sb cs2 => ∃ y, sb = rStr.at y ∧ K (rBool.at (decide (x = y))) cs2) :
    Ev (tOp rEq ta tb) W G T cs K := fun s H st Q q => by
  refine ha s H st _ fun sa cs1 ⟨x, e, hb⟩ va H1 st1 => ?_
  subst e
  refine hb va s H1 st1 _ fun sb cs2 ⟨y, e, k⟩ vb H2 ⟨F, c, sg, tm⟩ => ?_
  subst e
  have e1 : vb = .str y := tm.head
  have e2 : va = .str x := tm.tail.head
  subst e1 e2
  exact ⟨rfl, q _ _ k _ H2 ⟨F, c, sg, tm.tail.tail.cons (by show V.bl _ = V.bl _; congr 1; simp)⟩⟩
theorem e_neS (ha : Ev ta W G T cs fun sa cs1 => ∃ x, sa = rStr.at x ∧ ∀ va, Ev tb W G ((va, sa) :: T) cs1 fun sb cs2 => ∃ y, sb = rStr.at y ∧ K (rBool.at (!decide (x = y))) cs2) :
    Ev (tOp rNe ta tb) W G T cs K := fun s H st Q q => by
  refine ha s H st _ fun sa cs1 ⟨x, e, hb⟩ va H1 st1 => ?_
  subst e
  refine hb va s H1 st1 _ fun sb cs2 ⟨y, e, k⟩ vb H2 ⟨F, c, sg, tm⟩ => ?_
  subst e
  have e1 : vb = .str y := tm.head
  have e2 : va = .str x := tm.tail.head
  subst e1 e2
  exact ⟨rfl, q _ _ k _ H2 ⟨F, c, sg, tm.tail.tail.cons (by show V.bl _ = V.bl _; congr 1; simp)⟩⟩
theorem e_eqB (ha : Ev ta W G T cs fun sa cs1 => ∃ x, sa = rBool.at x ∧ ∀ va, Ev tb W G ((va, sa) :: T) cs1 fun sb cs2 => ∃ y, sb = rBool.at y ∧ K (rBool.at (decide (x = y))) cs2) :
    Ev (tOp rEq ta tb) W G T cs K := fun s H st Q q => by
  refine ha s H st _ fun sa cs1 ⟨x, e, hb⟩ va H1 st1 => ?_
  subst e
  refine hb va s H1 st1 _ fun sb cs2 ⟨y, e, k⟩ vb H2 ⟨F, c, sg, tm⟩ => ?_
  subst e
  have e1 : vb = .bl y := tm.head
  have e2 : va = .bl x := tm.tail.head
  subst e1 e2
  exact ⟨rfl, q _ _ k _ H2 ⟨F, c, sg, tm.tail.tail.cons (by show V.bl _ = V.bl _; congr 1; simp)⟩⟩
theorem e_neB (ha : Ev ta W G T cs fun sa cs1 => ∃ x, sa = rBool.at x ∧ ∀ va, Ev tb W G ((va, sa) :: T) cs1 fun sb cs2 => ∃ y, sb = rBool.at y ∧ K (rBool.at (!decide (x = y))) cs2) :
    Ev (tOp rNe ta tb) W G T cs K := fun s H st Q q => by
  refine ha s H st _ fun sa cs1 ⟨x, e, hb⟩ va H1 st1 => ?_
  subst e
  refine hb va s H1 st1 _ fun sb cs2 ⟨y, e, k⟩ vb H2 ⟨F, c, sg, tm⟩ => ?_
  subst e
  have e1 : vb = .bl y := tm.head
  have e2 : va = .bl x := tm.tail.head
  subst e1 e2
  exact ⟨rfl, q _ _ k _ H2 ⟨F, c, sg, tm.tail.tail.cons (by show V.bl _ = V.bl _; congr 1; simp)⟩⟩
end
end ML

namespace ML
open PySem Spec PyProof.Rows L2
section
variable {nx bk ct : L2.St → Hp → Prop} {rt : VK}
variable {W : Wd} {G : Gam} {T : Tms} {cs : Cells} {K : Sl → Cells → Prop} {t ta tb : TE} {KF : PySem.W.Frag}
/-! ## a number in a tuple or in a list of numbers -/
theorem all2_in {F : Hp} {i : Int} : ∀ {xs : List Int} {vs : List V}, All2 (fun x u => rInt.p x F u) xs vs → vs.all flatV = true ∧ inV (.int i) vs = decide (i ∈ xs)
  | _, _, .nil => ⟨rfl, by simp [inV]⟩
  | _, _, .cons (a := a) (b := b) p q => by
    obtain ⟨h1, h2⟩ := all2_in (i := i) q
    have e : b = .int a := p
    subst e
    refine ⟨by rw [List.all_cons, h1]; rfl, ?_⟩
    unfold inV at h2 ⊢
    rw [List.any_cons, h2]
    have e2 : eqV (.int a) (.int i) = decide (a = i) := by simp [eqV, Bool.beq_eq_decide_eq]
    rw [e2]
    by_cases h : a = i
    · subst h; simp
    · have h' : ¬ i = a := fun z => h z.symm
      simp [h, h']
theorem e_inT (ng : Bool) (ha : Ev ta W G T cs fun sa cs1 => ∃ i, sa = rInt.at i ∧ ∀ va, Ev tb W G ((va, sa) :: T) cs1 fun sb cs2 => ∃ xs : List Int, sb = (rTup rInt).at xs ∧ K (rBool.at (if ng then !decide (i ∈ xs) else decide (i ∈ xs))) cs2) :
    Ev (tOp (rIn KF ng) ta tb) W G T cs K := fun s H st Q q => by
  refine ha s H st _ fun sa cs1 ⟨i, e, hb⟩ va H1 st1 => ?_
  subst e
  refine hb va s H1 st1 _ fun sb cs2 ⟨xs, e, k⟩ vb H2 ⟨F, c, sg, tm⟩ => ?_
  subst e
  obtain ⟨hz, a, vs, rfl, hF, hA⟩ := tm.head
  have e2 : va = .int i := tm.tail.head
  subst e2
  obtain ⟨f1, f2⟩ := all2_in (i := i) hA
  exact ⟨a, vs, rfl, .inr (SqT.of (c.fh _ _ hF)), rfl, f1, q _ _ k _ H2 ⟨F, c, sg, tm.tail.tail.cons (by rw [f2]; rfl)⟩⟩
theorem e_inL (ng : Bool) (ha : Ev ta W G T cs fun sa cs1 => ∃ i, sa = rInt.at i ∧ ∀ va, Ev tb W G ((va, sa) :: T) cs1 fun sb cs2 => ∃ xs : List Int, sb = (rLst rInt).at xs ∧ K (rBool.at (if ng then !decide (i ∈ xs) else decide (i ∈ xs))) cs2) :
    Ev (tOp (rIn KF ng) ta tb) W G T cs K := fun s H st Q q => by
  refine ha s H st _ fun sa cs1 ⟨i, e, hb⟩ va H1 st1 => ?_
  subst e
  refine hb va s H1 st1 _ fun sb cs2 ⟨xs, e, k⟩ vb H2 ⟨F, c, sg, tm⟩ => ?_
  subst e
  obtain ⟨hz, a, vs, rfl, hF, hA⟩ := tm.head
  have e2 : va = .int i := tm.tail.head
  subst e2
  obtain ⟨f1, f2⟩ := all2_in (i := i) hA
  exact ⟨a, vs, rfl, .inl (SqL.of (c.fh _ _ hF)), rfl, f1, q _ _ k _ H2 ⟨F, c, sg, tm.tail.tail.cons (by rw [f2]; rfl)⟩⟩
/-! ## a list and a list -/
theorem e_catL (ha : Ev ta W G T cs fun sa cs1 => ∀ va, Ev tb W G ((va, sa) :: T) cs1 fun sb cs2 => ∃ (α : Type) (r : R α) (xs ys zs : List α), sa = (rLst r).at xs ∧ sb = (rLst r).at ys ∧ oCat xs ys = some zs ∧ K ((rLst r).at zs) cs2) :
    Ev (tOp rCat ta tb) W G T cs K := fun s H st Q q => by
  refine ha s H st _ fun sa cs1 h1 va H1 st1 => ?_
  refine h1 va s H1 st1 _ fun sb cs2 ⟨α, r, xs, ys, zs, e1, e2, hy, k⟩ vb H2 ⟨F, c, sg, tm⟩ => ?_
  subst e1 e2
  obtain ⟨hz, a, vs, rfl, hF, hA⟩ := tm.tail.head
  obtain ⟨hz2, b, ws, rfl, hF2, hA2⟩ := tm.head
  obtain ⟨hl, e⟩ := of_ite hy
  subst e
  have l1 := hA.length
  have l2 := hA2.length
  refine ⟨a, b, vs, ws, rfl, rfl, c.fh _ _ hF, c.fh _ _ hF2, by omega, fun p hp => ?_⟩
  have sF : Same F (upd F p (.lst (vs ++ ws))) := same_upd (c.fh.free hp)
  exact q _ _ k _ _ ⟨_, c.new hp, sg.mono sF, (tm.tail.tail.mono sF).cons ⟨by rw [List.length_append]; exact hl, p, _, rfl, upd_same, (hA.app hA2).imp fun _ _ z => r.mono sF z⟩⟩
/-! ## sums -/
theorem all2_ints {F : Hp} : ∀ {xs : List Int} {vs : List V}, All2 (fun x u => rInt.p x F u) xs vs → vs = xs.map V.int
  | _, _, .nil => rfl
  | _, _, .cons p q => by
    have e := all2_ints q
    have e2 := show _ = V.int _ from p
    rw [e, e2]
    rfl
theorem e_sum {t : TA} (h : EvA t W G T cs fun sls cs1 => ∃ xs : List Int, sls = [(rLst rInt).at xs] ∧ K (rInt.at xs.sum) cs1) : Ev (tCB (rSum KF) t) W G T cs K := fun s H st Q q => by
  refine h s H st _ fun sls cs1 ⟨xs, e, k⟩ vs H1 ⟨F, c, sg, tm, ar⟩ => ?_
  subst e
  obtain ⟨v, rfl, hz, a, us, rfl, hF, hA⟩ := args1 ar
  exact ⟨a, xs, rfl, SqL.of (by rw [← all2_ints hA]; exact c.fh _ _ hF), q _ _ k _ H1 ⟨F, c, sg, tm.cons rfl⟩⟩
/-! ## list(xs), a new cell -/
def rListOf (KF : PySem.W.Frag) : List V → Hp → VK → Prop := fun xs H Q => ∃ p ys, xs = [.ref p] ∧ (SqL KF H p ys ∨ SqT KF H p ys) ∧ ∀ l, H l = none → Q (.ref l) (upd H l (.lst ys))
theorem e_listT {t : TA} (h : EvA t W G T cs fun sls cs1 => ∃ (α : Type) (r : R α) (xs : List α), sls = [(rTup r).at xs] ∧ ∀ p, K (sRef p) (cs1 ++ [(p, cLst r xs)])) : Ev (tCB (rListOf KF) t) W G T cs K := fun s H st Q q => by
  refine h s H st _ fun sls cs1 ⟨α, r, xs, e, k⟩ vs H1 ⟨F, c, sg, tm, ar⟩ => ?_
  subst e
  obtain ⟨v, rfl, hz, a, us, rfl, hF, hA⟩ := args1 ar
  exact ⟨a, us, rfl, .inr (SqT.of (c.fh _ _ hF)), fun l hl => q _ _ (k l) _ _ ⟨F, c.newCell hl ⟨hz, us, rfl, hA⟩, sg, tm.cons rfl⟩⟩
end
section
variable {α β γ δ : Type} {W : Wd} {G : Gam} {T : Tms} {cs : Cells}
theorem g_pairPP {KF : PySem.W.Frag} {i j l o : Nat} {r : R α} {q : R β} {p : R γ} {z : R δ} {x : (α × β) × (γ × δ)} {K : Gam → Prop} (k : K ((((G.set i (some (r.at x.1.1))).set j (some (q.at x.1.2))).set l (some (p.at x.2.1))).set o (some (z.at x.2.2)))) :
    Tg (gTup KF 2 (gCons (gTup KF 2 (gCons (gName i) (gCons (gName j) gNil))) (gCons (gTup KF 2 (gCons (gName l) (gCons (gName o) gNil))) gNil))) [i, j, l, o] W G T cs ((rPair (rPair r q) (rPair p z)).at x) K := fun v s H ⟨F, c, sg, t⟩ Q k' => by
  obtain ⟨a, u, w, h1, h2, ⟨a1, u1, w1, h11, h12, h13, h14⟩, ⟨a2, u2, w2, h21, h22, h23, h24⟩⟩ := t.head
  refine ⟨a, [u, w], h1, SqT.of (c.fh _ _ h2), rfl, u, [w], rfl, ?_⟩
  refine ⟨a1, [u1, w1], h11, SqT.of (c.fh _ _ h12), rfl, u1, [w1], rfl, w1, [], rfl, rfl, w, [], rfl, ?_⟩
  refine ⟨a2, [u2, w2], h21, SqT.of (c.fh _ _ h22), rfl, u2, [w2], rfl, w2, [], rfl, rfl, rfl, ?_⟩
  refine k' _ k _ ⟨F, c, (((sg.set h13).set h14).set h23).set h24, t.tail⟩ fun vs h => ?_
  rw [wipe_set _ o _ vs (h o (by simp)), wipe_set _ l _ vs (h l (by simp)), wipe_set _ j _ vs (h j (by simp)), wipe_set _ i _ vs (h i (by simp))]
end
/-! ## == of lists of texts -/
def oEqLS (xs ys : List Str) : Option Bool := if (xs.all PyData.strOk && ys.all PyData.strOk) = true then some (decide (xs = ys)) else none
theorem strs_dp {K : PySem.W.Frag} {F H : Hp} : ∀ {xs : List Str} {us : List V}, All2 (fun x u => rStr.p x F u) xs us → DpAll K H us (xs.map PyData.str)
  | _, _, .nil => .nil
  | _, _, .cons p q => by
    have e := show _ = V.str _ from p
    rw [e]
    exact .cons (Dp.str _) (strs_dp q)
theorem strs_lay : ∀ {xs : List Str}, xs.all PyData.strOk = true → PyData.canLayAll0 (xs.map PyData.str) = true
  | [], _ => rfl
  | x :: xs, h => by
    rw [List.all_cons, Bool.and_eq_true] at h
    rw [List.map_cons, PyData.canLayAll0, strs_lay h.2, PyData.canLay0, h.1]
    rfl
theorem strs_dep : ∀ xs : List Str, PyData.depthAll (xs.map PyData.str) ≤ 1
  | [] => by simp [PyData.depthAll]
  | x :: xs => by
    have := strs_dep xs
    rw [List.map_cons, PyData.depthAll]
    simp only [PyData.depth]
    omega
theorem strs_eqv : ∀ xs ys : List Str, PyData.eqvAll (xs.map PyData.str) (ys.map PyData.str) = decide (xs = ys)
  | [], [] => by simp [PyData.eqvAll]
  | [], _ :: _ => by simp [PyData.eqvAll]
  | _ :: _, [] => by simp [PyData.eqvAll]
  | x :: xs, y :: ys => by
    rw [List.map_cons, List.map_cons, PyData.eqvAll, strs_eqv xs ys]
    simp only [PyData.eqv]
    by_cases h1 : x = y <;> by_cases h2 : xs = ys <;> simp [h1, h2]
theorem strs_shaped {xs : List Str} (h : xs.all PyData.strOk = true) : SeqAt.shaped (.list (xs.map PyData.str)) = true := by
  unfold SeqAt.shaped
  have := strs_dep xs
  rw [PyData.canLay0, strs_lay h, decide_eq_true (by rw [PyData.depth]; omega)]
  rfl
section
variable {nx bk ct : L2.St → Hp → Prop} {rt : VK}
variable {W : Wd} {G : Gam} {T : Tms} {cs : Cells} {K : Sl → Cells → Prop} {t ta tb : TE} {KF : PySem.W.Frag}
theorem e_neLS (ha : Ev ta W G T cs fun sa cs1 => ∀ va, Ev tb W G ((va, sa) :: T) cs1 fun sb cs2 => ∃ (xs ys : List Str) (b : Bool), sa = (rLst rStr).at xs ∧ sb = (rLst rStr).at ys ∧ oEqLS xs ys = some b ∧ K (rBool.at (!b)) cs2) :
    Ev (tOp (rNeD KF) ta tb) W G T cs K := fun s H st Q q => by
  refine ha s H st _ fun sa cs1 h1 va H1 st1 => ?_
  refine h1 va s H1 st1 _ fun sb cs2 ⟨xs, ys, b, e1, e2, ho, k⟩ vb H2 ⟨F, c, sg, tm⟩ => ?_
  subst e1 e2
  obtain ⟨_, p2, us2, rfl, hF2, hA2⟩ := tm.head
  obtain ⟨_, p1, us1, rfl, hF1, hA1⟩ := tm.tail.head
  unfold oEqLS at ho
  split at ho
  · rename_i hh
    rw [Bool.and_eq_true] at hh
    cases ho
    refine ⟨_, _, Dp.lst (SqL.of (c.fh _ _ hF1)) (strs_dp hA1), Dp.lst (SqL.of (c.fh _ _ hF2)) (strs_dp hA2), strs_shaped hh.1, strs_shaped hh.2, ?_⟩
    rw [PyData.eqv, strs_eqv]
    exact q _ _ k _ H2 ⟨F, c, sg, tm.tail.tail.cons rfl⟩
  · cases ho
theorem e_eqLS (ha : Ev ta W G T cs fun sa cs1 => ∀ va, Ev tb W G ((va, sa) :: T) cs1 fun sb cs2 => ∃ (xs ys : List Str) (b : Bool), sa = (rLst rStr).at xs ∧ sb = (rLst rStr).at ys ∧ oEqLS xs ys = some b ∧ K (rBool.at b) cs2) :
    Ev (tOp (rEqD KF) ta tb) W G T cs K := fun s H st Q q => by
  refine ha s H st _ fun sa cs1 h1 va H1 st1 => ?_
  refine h1 va s H1 st1 _ fun sb cs2 ⟨xs, ys, b, e1, e2, ho, k⟩ vb H2 ⟨F, c, sg, tm⟩ => ?_
  subst e1 e2
  obtain ⟨_, p2, us2, rfl, hF2, hA2⟩ := tm.head
  obtain ⟨_, p1, us1, rfl, hF1, hA1⟩ := tm.tail.head
  unfold oEqLS at ho
  split at ho
  · rename_i hh
    rw [Bool.and_eq_true] at hh
    cases ho
    refine ⟨_, _, Dp.lst (SqL.of (c.fh _ _ hF1)) (strs_dp hA1), Dp.lst (SqL.of (c.fh _ _ hF2)) (strs_dp hA2), strs_shaped hh.1, strs_shaped hh.2, ?_⟩
    rw [PyData.eqv, strs_eqv]
    exact q _ _ k _ H2 ⟨F, c, sg, tm.tail.tail.cons rfl⟩
  · cases ho
end
section
variable {nx bk ct : L2.St → Hp → Prop} {rt : VK}
variable {W : Wd} {G : Gam} {T : Tms} {cs : Cells} {K : Sl → Cells → Prop} {t ta tb : TE} {KF : PySem.W.Frag}
/-! ## a slice of a list in a cell: a new frozen list -/
theorem e_slC (j : Nat) {tl th : TO} (ha : Ev ta W G T cs fun sa cs1 => ∀ va, EvO tl W G ((va, sa) :: T) cs1 fun lo cs2 => EvO th W G ((va, sa) :: T) cs2 fun hi cs3 => ∃ (α : Type) (p : Addr) (r : R α) (xs : List α), sa = sRef p ∧ cs3[j]? = some (p, cLst r xs) ∧ K ((rLst r).at (cutL xs lo hi)) cs3) :
    Ev (tSl (rSlL KF) ta tl th) W G T cs K := fun s H st Q q => by
  refine ha s H st _ fun sa cs1 h1 va H1 st1 => ?_
  refine h1 va s H1 st1 _ fun lo cs2 h2 H2 st2 => ?_
  refine h2 s H2 st2 _ fun hi cs3 ⟨α, p, r, xs, e1, hj, k⟩ H3 ⟨F, c, sg, tm⟩ => ?_
  subst e1
  have ev : va = .ref p := tm.head
  subst ev
  obtain ⟨hz, vs, hH, hA⟩ := c.lst hj
  refine ⟨p, vs, rfl, SqL.of hH, fun p' hp => ?_⟩
  have sF : Same F (upd F p' (.lst (cutV vs lo hi))) := same_upd (c.fh.free hp)
  exact q _ _ k _ _ ⟨_, c.new hp, sg.mono sF, (tm.tail.mono sF).cons ⟨Nat.le_trans (cutL_len _ _ _) hz, p', _, rfl, upd_same, (hA.cut lo hi).imp fun _ _ z => r.mono sF z⟩⟩
end
end ML

namespace ML
open PySem Spec PyProof.Rows L2
section
variable {W : Wd} {G : Gam} {T : Tms} {cs : Cells} {K : Sl → Cells → Prop} {t : TA} {ta tb tc te : TE} {KF : PySem.W.Frag} {α : Type}
/-! ### a < b < c of ints -/
theorem e_chainI {g g' : Int → Int → Bool} {d : Bool} {cs' : Cells} (ha : Ev ta W G T cs fun sa cs1 => ∃ i, sa = rInt.at i ∧ Ev tb W G T cs1 fun sb cs2 => ∃ j, sb = rInt.at j ∧
      (g i j = true → Ev tc W G T cs2 fun sc cs3 => ∃ l, sc = rInt.at l ∧ d = g' j l ∧ cs3 = cs') ∧ (g i j = false → d = false ∧ cs2 = cs')) (k : K (rBool.at d) cs') :
    Ev (tChain (rI0 fun i j => .bl (g i j)) (rI0 fun i j => .bl (g' i j)) ta tb tc) W G T cs K := fun s H st Q q => by
  refine ha s H st _ fun sa cs1 ⟨i, e, hb⟩ va H1 st1 => ?_
  subst e
  refine hb s H1 st1.pop _ fun sb cs2 ⟨j, e, h1, h2⟩ vb H2 st2 => ?_
  subst e
  refine ⟨i, j, int_top st1, int_top st2, g i j, rfl, ?_⟩
  cases hg : g i j with
  | false =>
    rw [if_neg Bool.false_ne_true]
    obtain ⟨e1, e2⟩ := h2 hg
    subst e1 e2
    exact q _ _ k _ H2 (st2.pop.push fun _ => rfl)
  | true =>
    rw [if_pos rfl]
    refine h1 hg s H2 st2.pop _ fun sc cs3 ⟨l, e, e1, e2⟩ vc H3 st3 => ?_
    subst e e1 e2
    exact ⟨j, l, int_top st2, int_top st3, q _ _ k _ H3 (st3.pop.push fun _ => rfl)⟩
/-! ### list(range(..)), tuple(range(..)) -/
theorem all2_rg {F : Hp} (a b : Int) : All2 (fun x u => rInt.p x F u) (rangeI a b) (rgV a b) := by
  unfold rangeI rgV
  have : ∀ l : List Nat, All2 (fun x u => rInt.p x F u) (l.map fun (k : Nat) => a + (k : Int)) (l.map fun (i : Nat) => V.int (a + (i : Nat))) := fun l => by
    induction l with
    | nil => exact .nil
    | cons x l ih => exact .cons rfl ih
  exact this _
theorem rgOk_of {a b : Int} {xs : List Int} (h : oRange a b = some xs) : RgOk a b ∧ xs = rangeI a b ∧ xs.length ≤ sizeLine := by
  obtain ⟨⟨⟨a1, a2⟩, ⟨b1, b2⟩, c⟩, e⟩ := oRange_ok h
  rw [sizeLine_eq] at c
  exact ⟨⟨a1, a2, b1, b2, c⟩, e, by rw [e, len_rangeI, sizeLine_eq]; exact c⟩
/-- what a range's bounds are -/
def EvR (tr : L2.St → Hp → (Int → Int → Hp → Prop) → Prop) (W : Wd) (G : Gam) (T : Tms) (cs : Cells) (K : Int → Int → Cells → Prop) : Prop :=
  ∀ s H, Sta W G T cs s H → ∀ Q : Int → Int → Hp → Prop, (∀ a b cs', K a b cs' → ∀ H', Sta W G T cs' s H' → Q a b H') → tr s H Q
theorem er_1 {K : Int → Int → Cells → Prop} (ha : Ev ta W G T cs fun sa cs1 => ∃ i, sa = rInt.at i ∧ K 0 i cs1) : EvR (tRg1 ta) W G T cs K := fun s H st Q q => by
  refine ha s H st _ fun sa cs1 ⟨i, e, k⟩ va H1 st1 => ?_
  subst e
  exact ⟨i, int_top st1, q _ _ _ k H1 st1.pop⟩
theorem er_2 {K : Int → Int → Cells → Prop} (ha : Ev ta W G T cs fun sa cs1 => ∃ i, sa = rInt.at i ∧ Ev tb W G T cs1 fun sb cs2 => ∃ j, sb = rInt.at j ∧ K i j cs2) : EvR (tRg2 ta tb) W G T cs K := fun s H st Q q => by
  refine ha s H st _ fun sa cs1 ⟨i, e, hb⟩ va H1 st1 => ?_
  subst e
  refine hb s H1 st1.pop _ fun sb cs2 ⟨j, e, k⟩ vb H2 st2 => ?_
  subst e
  exact ⟨i, j, int_top st1, int_top st2, q _ _ _ k H2 st2.pop⟩
variable {tr : L2.St → Hp → (Int → Int → Hp → Prop) → Prop}
theorem e_listRg (h : EvR tr W G T cs fun a b cs1 => ∃ xs, oRange a b = some xs ∧ K ((rLst rInt).at xs) cs1) : Ev (tLstRg tr) W G T cs K := fun s H st Q q => by
  refine h s H st _ fun a b cs1 ⟨xs, ho, k⟩ H1 ⟨F, c, sg, tm⟩ => ?_
  obtain ⟨ok, e, hz⟩ := rgOk_of ho
  subst e
  refine ⟨ok, fun p hp => ?_⟩
  have sF : Same F (upd F p (.lst (rgV a b))) := same_upd (c.fh.free hp)
  exact q _ _ k _ _ ⟨_, c.new hp, sg.mono sF, (tm.mono sF).cons ⟨hz, p, _, rfl, upd_same, all2_rg a b⟩⟩
theorem e_listRgC (h : EvR tr W G T cs fun a b cs1 => ∃ xs, oRange a b = some xs ∧ ∀ p, K (sRef p) (cs1 ++ [(p, cLst rInt xs)])) : Ev (tLstRg tr) W G T cs K := fun s H st Q q => by
  refine h s H st _ fun a b cs1 ⟨xs, ho, k⟩ H1 ⟨F, c, sg, tm⟩ => ?_
  obtain ⟨ok, e, hz⟩ := rgOk_of ho
  subst e
  exact ⟨ok, fun p hp => q _ _ (k p) _ _ ⟨F, c.newCell hp ⟨hz, _, rfl, all2_rg a b⟩, sg, tm.cons rfl⟩⟩
theorem e_tupRg (h : EvR tr W G T cs fun a b cs1 => ∃ xs, oRange a b = some xs ∧ K ((rTup rInt).at xs) cs1) : Ev (tTupRg tr) W G T cs K := fun s H st Q q => by
  refine h s H st _ fun a b cs1 ⟨xs, ho, k⟩ H1 ⟨F, c, sg, tm⟩ => ?_
  obtain ⟨ok, e, hz⟩ := rgOk_of ho
  subst e
  refine ⟨ok, fun p hp => ?_⟩
  have sF : Same F (upd F p (.tup (rgV a b))) := same_upd (c.fh.free hp)
  exact q _ _ k _ _ ⟨_, c.new hp, sg.mono sF, (tm.mono sF).cons ⟨hz, p, _, rfl, upd_same, all2_rg a b⟩⟩
/-! ### enumerate(list) -/
def enumI (xs : List α) : List (Int × α) := (List.range xs.length).zipWith (fun (i : Nat) x => ((i : Int), x)) xs
theorem enumI_get {xs : List α} {i : Nat} {x : α} (h : xs[i]? = some x) : (enumI xs)[i]? = some ((i : Int), x) := by
  unfold enumI
  have hl := (List.getElem?_eq_some_iff.mp h).1
  rw [List.getElem?_zipWith, List.getElem?_range hl, h]
theorem enumI_len (xs : List α) : (enumI xs).length = xs.length := by unfold enumI; simp
theorem wk_enum {r : R α} {xs : List α} {a : Addr} {B : Hp} : Wk (Ite KF a) ⟨W.F, B⟩ [(V.ref a, (rLst r).at xs)] ((enumI xs).map (rPair rInt r).at) := by
  have get : ∀ (F : Hp), Temps F [(V.ref a, (rLst r).at xs)] → ∃ us, F a = some (.lst us) ∧ All2 (fun x u => r.p x F u) xs us := fun F t => by
    obtain ⟨_, a', us, e, h1, h2⟩ := t.head
    cases e
    exact ⟨us, h1, h2⟩
  refine ⟨fun i F H cs hi c t => ?_, fun i F H cs x H' sl hi c t y => ?_, fun F H cs c t => ?_⟩
  · obtain ⟨us, h1, h3⟩ := get F t
    rw [List.length_map, enumI_len] at hi
    obtain ⟨u, hu, _⟩ := h3.get (List.getElem?_eq_getElem hi)
    exact ⟨us, u, SqL.of (c.fh _ _ h1), hu⟩
  · obtain ⟨us, h1, h3⟩ := get F t
    obtain ⟨T, x', rfl, hT, rfl, f1⟩ := y
    obtain ⟨z, hz, pz⟩ := h3.get' (f1 us (SqL.of (c.fh _ _ h1)))
    have sF : Same F (upd F T (.tup [.int (i : Nat), x'])) := same_upd (c.fh.free hT)
    rw [List.getElem?_map, enumI_get hz] at hi
    cases hi
    exact ⟨_, c.new hT, sF, T, _, x', rfl, upd_same, rfl, r.mono sF pz⟩
  · obtain ⟨us, h1, h3⟩ := get F t
    refine ⟨us, SqL.of (c.fh _ _ h1), ?_⟩
    rw [List.length_map, enumI_len]
    have := h3.length
    omega
theorem i_enumL {KI : List Sl → Cells → Prop} (h : EvA t W G T cs fun sls cs1 => ∃ (α : Type) (r : R α) (xs : List α), sls = [(rLst r).at xs] ∧ KI ((enumI xs).map (rPair rInt r).at) cs1) : EvI (iEnum KF t) W G T cs KI := fun s H st R k => by
  refine h s H st _ fun sls cs1 ⟨α, r, xs, e, ki⟩ vs H1 ⟨F, c, sg, tm, ar⟩ => ?_
  subst e
  obtain ⟨v, rfl, p1⟩ := args1 ar
  obtain ⟨hz, a, us, rfl, hF, hA⟩ := id p1
  exact ⟨a, us, rfl, SqL.of (c.fh _ _ hF), k _ _ _ cs1 ki (by rw [List.length_map, enumI_len]; exact hz) (fun B => wk_enum) H1 ⟨F, c, sg, Temps.app (Temps.cons p1 Temps.nil) tm⟩⟩
/-! ### isinstance of what has a type -/
/-- the class of a typed value -/
structure RTy {α : Type} (r : R α) (n : String) : Prop where
  ty : ∀ {KF : PySem.W.Frag} {F H : Hp} {a : α} {v : V}, r.p a F v → Same F H → TyX KF H v (.type n)
theorem tyInt : RTy rInt "int" := ⟨fun {KF F H a v} h s => by rw [show v = .int a from h]; exact .base (.int a)⟩
theorem tyBool : RTy rBool "bool" := ⟨fun {KF F H a v} h s => by rw [show v = .bl a from h]; exact .base (.bl a)⟩
theorem tyStr : RTy rStr "str" := ⟨fun {KF F H a v} h s => by rw [show v = .str a from h]; exact .base (.str a)⟩
theorem tyTup {r : R α} : RTy (rTup r) "tuple" := ⟨fun {KF F H a v} h s => by obtain ⟨_, p, vs, rfl, h1, _⟩ := h; exact .base (.tup (s _ _ h1))⟩
theorem tyPair {β : Type} {r : R α} {q : R β} : RTy (rPair r q) "tuple" := ⟨fun {KF F H a v} h s => by obtain ⟨p, u, w, rfl, h1, _⟩ := h; exact .base (.tup (s _ _ h1))⟩
theorem tyLst {r : R α} : RTy (rLst r) "list" := ⟨fun {KF F H a v} h s => by obtain ⟨_, p, vs, rfl, h1, _⟩ := h; exact .base (.lst (s _ _ h1))⟩
theorem e_isi {T : Tms} {n c : String} {b : Bool} (h : EvA t W G T cs fun sls cs1 => ∃ (α : Type) (r : R α) (x : α) (e : RTy r n), sls = [r.at x, ⟨fun _ v => v = .ty c, fun _ h => h⟩] ∧ PySem.W.kitOne KF (.type n) (.type c) = some b ∧ K (rBool.at b) cs1) :
    Ev (tCB (rIsi KF) t) W G T cs K := fun s H st Q q => by
  refine h s H st _ fun sls cs1 ⟨α, r, x, e, e1, hk, k⟩ vs H1 ⟨F, cc, sg, tm, ar⟩ => ?_
  subst e1
  obtain ⟨v, w, rfl, p1, p2⟩ := args2' ar
  have ew : w = .ty c := p2
  subst ew
  exact ⟨v, _, _, _, b, rfl, .ty c, e.ty p1 cc.fh, hk, q _ _ k _ H1 ⟨F, cc, sg, tm.cons rfl⟩⟩
theorem e_cls {n : String} (k : K ⟨fun _ v => v = .ty n, fun _ h => h⟩ cs) : Ev (tC (.ty n)) W G T cs K := fun s H st Q q => q _ cs k _ H (st.push fun _ => rfl)
end
/-! ### < of what has a key -/
def rLtK (K : PySem.W.Frag) : R2 := fun x y H Q => ∃ k1 k2 : NestedKey, Dp K H x k1.data ∧ Dp K H y k2.data ∧ numK k1 = true ∧ numK k2 = true ∧ k1.depth ≤ 8 ∧ cmpK k1 k2 = true ∧ Q (.bl (ltK k1 k2)) H
theorem op_ltK {X : Cx} {k : Nat} (hr : RoomG k X.A) : OpR X (compareOp .Lt) (rLtK X.K) := by
  intro pins s σ H x y v u Q I rx ry h
  obtain ⟨k1, k2, d1, d2, n1, n2, hd, hc, q⟩ := h
  have hu := hr.units
  obtain ⟨as, r1⟩ := Dp.reads I k1.data x v d1 rx
  obtain ⟨bs, r2⟩ := Dp.reads I k2.data y u d2 ry
  exact rc_lt 8 k1 k2 v u X.A hd (PN.of r1 n1) (PN.of r2 n2) hc (by omega) _ _ _ _ ⟨.bl _, H, I, rfl, q⟩
section
variable {W : Wd} {G : Gam} {T : Tms} {cs : Cells} {K : Sl → Cells → Prop} {ta tb : TE} {KF : PySem.W.Frag}
theorem e_ltK (ha : Ev ta W G T cs fun sa cs1 => ∀ va, Ev tb W G ((va, sa) :: T) cs1 fun sb cs2 => ∃ (α : Type) (r : R α) (e : RKey r) (x y : α), sa = r.at x ∧ sb = r.at y ∧ cmpK (e.k x) (e.k y) = true ∧ K (rBool.at (ltK (e.k x) (e.k y))) cs2) :
    Ev (tOp (rLtK KF) ta tb) W G T cs K := fun s H st Q q => by
  refine ha s H st _ fun sa cs1 h1 va H1 st1 => ?_
  refine h1 va s H1 st1 _ fun sb cs2 ⟨α, r, e, x, y, e1, e2, hc, k⟩ vb H2 ⟨F, c, sg, tm⟩ => ?_
  subst e1 e2
  obtain ⟨_, d1⟩ := e.ok tm.tail.head c.fh (K := KF)
  obtain ⟨_, d2⟩ := e.ok tm.head c.fh (K := KF)
  exact ⟨_, _, d1, d2, e.nm x, e.nm y, e.dp x, hc, q _ _ k _ H2 ⟨F, c, sg, tm.tail.tail.cons rfl⟩⟩
end
theorem cmp_split (a b : List Int × Int) : cmpK (kSplit.k a) (kSplit.k b) = true := by
  show cmpK (.tup [.tup (a.1.map .num), .num a.2]) (.tup [.tup (b.1.map .num), .num b.2]) = true
  simp [cmpK, cmpKs, cmpKs_num]
theorem cmp_nums (a b : List Int) : cmpK (kNums.k a) (kNums.k b) = true := by
  show cmpK (.tup (a.map .num)) (.tup (b.map .num)) = true
  rw [cmpK, cmpKs_num]
section
variable {W : Wd} {G : Gam} {T : Tms} {cs : Cells} {K : Sl → Cells → Prop} {ta : TE} {KF : PySem.W.Frag}
/-- sorted(set(xs)), xs a list that stands still -/
theorem e_sortSetL (ha : Ev ta W G T cs fun sa cs1 => ∃ (α : Type) (r : R α) (e : RKey r) (xs : List α), sa = (rLst r).at xs ∧ xs.length < 1200 ∧ Alike (xs.map e.k) ∧ K ((rLst r).at (sortK e.k xs)) cs1) :
    Ev (tSortSet KF ta) W G T cs K := fun s H st Q q => by
  refine ha s H st _ fun sa cs1 ⟨α, r, e, xs, e1, few, al, k⟩ va H1 ⟨F, c, sg, tm⟩ => ?_
  subst e1
  obtain ⟨hz, p, us, ev, hF, hA⟩ := tm.head
  exact sort_end e few al c sg tm.tail ev (SqL.of (c.fh _ _ hF)) hA fun p' H' st' => q _ _ k _ H' st'
theorem e_sortSL (ha : Ev ta W G T cs fun sa cs1 => ∃ (xs z : List (List Int × Int)), sa = (rLst (rPair (rTup rInt) rInt)).at xs ∧ oSortS xs = some z ∧ K ((rLst (rPair (rTup rInt) rInt)).at z) cs1) :
    Ev (tSortSet KF ta) W G T cs K := e_sortSetL (Ev.imp ha fun sa cs1 ⟨xs, z, e1, ho, k⟩ => by
  unfold oSortS at ho
  split at ho
  · rename_i few
    cases ho
    exact ⟨_, _, kSplit, xs, e1, few, alike_split xs, k⟩
  · cases ho)
end
theorem bt_tyInt : bootBuiltins "int" = some (.type "int") := by decide +kernel
theorem bt_tyBool : bootBuiltins "bool" = some (.type "bool") := by decide +kernel
theorem bt_tyTup : bootBuiltins "tuple" = some (.type "tuple") := by decide +kernel
theorem bt_tyLst : bootBuiltins "list" = some (.type "list") := by decide +kernel
theorem bt_tyStr : bootBuiltins "str" = some (.type "str") := by decide +kernel
end ML

namespace ML
open PySem Spec PyProof.Rows L2 StX
/-! ### code that is never reached -/
def tNo : TS := fun _ _ _ => False
theorem ps_no {X : Cx} {st : Stmt} : PS X st tNo := ⟨fun _ _ _ _ _ _ h => h.elim⟩
/-! ### a cell set aside -/
theorem Core.park {W : Wd} {F H : Hp} {cs : Cells} {Dp : Addr} {c : Cl} (h : Core W F (cs ++ [(Dp, c)]) H) :
    ∃ od, H Dp = some od ∧ c.p F od ∧ Core ⟨F, upd W.B Dp od⟩ F cs H ∧ ∀ {F2 : Hp} {cs2 : Cells} {H2 : Hp}, Core ⟨F, upd W.B Dp od⟩ F2 cs2 H2 → Core W F2 (cs2 ++ [(Dp, c)]) H2 := by
  obtain ⟨d1, d2, od, d3, d4⟩ := h.cell (Dp, c) (List.mem_append_right _ (by simp))
  have nb : ∀ x ∈ cs, x.1 ≠ Dp := fun x hx e => by
    have nd := h.nd
    rw [List.map_append, List.nodup_append] at nd
    exact nd.2.2 x.1 (List.mem_map_of_mem hx) Dp (by simp) e
  refine ⟨od, d3, d4, ?_, fun {F2 cs2 H2} c2 => ?_⟩
  · have cW := (h.drop (List.sublist_append_left _ _)).B (upd W.B Dp od) (fun a o e => ?_) (fun a o e => ?_) fun x hx => ?_
    · exact ⟨Same.refl F, cW.fh, cW.bh, cW.bf, cW.nd, cW.cell⟩
    · by_cases ha : a = Dp
      · subst ha; rw [upd_same] at e; cases e; exact d3
      · rw [upd_ne ha] at e; exact h.bh a o e
    · by_cases ha : a = Dp
      · subst ha; exact d1
      · rw [upd_ne ha] at e; exact h.bf a o e
    · rw [upd_ne (nb x hx)]; exact (h.cell x (List.mem_append_left _ hx)).2.1
  · have at_ : (upd W.B Dp od) Dp = some od := upd_same
    refine ⟨h.f0.trans c2.f0, c2.fh, fun a o e => c2.bh a o ?_, fun a o e => c2.bf a o ?_, ?_, fun x hx => ?_⟩
    · show upd W.B Dp od a = some o
      rw [upd_ne (ne_of_none e d2)]; exact e
    · show upd W.B Dp od a = some o
      rw [upd_ne (ne_of_none e d2)]; exact e
    · rw [List.map_append, List.nodup_append]
      refine ⟨c2.nd, by simp, fun a ha b hb e => ?_⟩
      have eb : b = Dp := by simpa using hb
      obtain ⟨x, hx, ex⟩ := List.mem_map.mp ha
      have this : upd W.B Dp od x.1 = none := (c2.cell x hx).2.1
      rw [ex, e, eb, upd_same] at this
      cases this
    · rcases List.mem_append.mp hx with hx | hx
      · obtain ⟨a1, a2, a3⟩ := c2.cell x hx
        have a2' : upd W.B Dp od x.1 = none := a2
        by_cases hxd : x.1 = Dp
        · rw [hxd, upd_same] at a2'; cases a2'
        · rw [upd_ne hxd] at a2'; exact ⟨a1, a2', a3⟩
      · have e : x = (Dp, c) := by simpa using hx
        subst e
        exact ⟨c2.bf Dp od at_, d2, od, c2.bh Dp od at_, c.mono c2.f0 d4⟩
section
variable {nx bk ct : L2.St → Hp → Prop} {rt : VK}
variable {W : Wd} {G : Gam} {T : Tms} {cs : Cells} {K : Sl → Cells → Prop} {t : TA} {ta tb tc te : TE} {KF : PySem.W.Frag}
/-! ### a comprehension of two walks; nothing changes -/
def flatO {α γ : Type} (f : α → Option (List γ)) : List α → Option (List γ)
  | [] => some []
  | x :: xs => match f x with
    | none => none
    | some ys => match flatO f xs with
      | none => none
      | some zs => some (ys ++ zs)
theorem flatO_cons {α γ : Type} {f : α → Option (List γ)} {x : α} {xs : List α} {ys : List γ} (h : flatO f (x :: xs) = some ys) : ∃ a b, f x = some a ∧ flatO f xs = some b ∧ ys = a ++ b := by
  unfold flatO at h
  cases e : f x with
  | none => rw [e] at h; cases h
  | some a =>
    rw [e] at h
    cases e2 : flatO f xs with
    | none => rw [e2] at h; cases h
    | some b => rw [e2] at h; exact ⟨a, b, rfl, rfl, (Option.some.inj h).symm⟩
theorem mapO_cons {α γ : Type} {f : α → Option (Option γ)} {x : α} {xs : List α} {ys : List γ} (h : mapO f (x :: xs) = some ys) : ∃ o zs, f x = some o ∧ mapO f xs = some zs ∧ ys = (match o with | some y => y :: zs | none => zs) := by
  unfold mapO at h
  cases e : f x with
  | none => rw [e] at h; cases h
  | some o =>
    rw [e] at h
    cases e2 : mapO f xs with
    | none => rw [e2] at h; cases h
    | some zs => rw [e2] at h; exact ⟨o, zs, rfl, rfl, (Option.some.inj h).symm⟩
/-- at most so many: each list is small -/
def flatS {α γ : Type} (f : α → Option (List γ)) (xs : List α) : Option (List γ) := match flatO f xs with
  | none => none
  | some ys => if ys.length ≤ sizeLine then some ys else none
theorem flatS_ok {α γ : Type} {f : α → Option (List γ)} {xs : List α} {ys : List γ} (h : flatS f xs = some ys) : flatO f xs = some ys ∧ ys.length ≤ sizeLine := by
  unfold flatS at h
  cases e : flatO f xs with
  | none => rw [e] at h; cases h
  | some zs =>
    rw [e] at h
    obtain ⟨h1, h2⟩ := of_ite h
    subst h2
    exact ⟨rfl, h1⟩
theorem lc2_sound {wi wi1 : TI} {g g1 : TG} {tt tt1 : TT} {vs vs1 is is1 : List Nat} (hvs : ∀ i ∈ is, i ∈ vs) (hvs1 : ∀ i ∈ is1, i ∈ vs1) (hsub : ∀ i ∈ vs1, i ∈ vs) (h : EvI wi W G T cs fun items cs1 => ∃ (α δ γ : Type) (r : R α) (xs : List α) (f : α → Option (List γ)) (ys : List γ) (rr : R γ),
      items = xs.map r.at ∧ flatS f xs = some ys ∧
      (∀ W' T' x zs, f x = some zs → Tg g is W' (wipeG G vs) T' cs1 (r.at x) fun G' => Et tt W' G' T' cs1 fun c cs3 => cs3 = cs1 ∧ (c = false → zs = []) ∧ (c = true → EvI wi1 W' G' T' cs1 fun items1 cs4 => cs4 = cs1 ∧ ∃ (r1 : R δ) (us : List δ) (f1 : δ → Option (Option γ)),
        items1 = us.map r1.at ∧ mapO f1 us = some zs ∧ ∀ W'' T'' u o, f1 u = some o → Tg g1 is1 W'' (wipeG G' vs1) T'' cs1 (r1.at u) fun G'' => Et tt1 W'' G'' T'' cs1 fun c1 cs5 =>
          (c1 = true → Ev te W'' G'' T'' cs5 fun sl cs6 => ∃ y, o = some y ∧ sl = rr.at y ∧ cs6 = cs1) ∧ (c1 = false → o = none ∧ cs5 = cs1))) ∧
      K ((rLst rr).at ys) cs1) : Ev (tLc2 wi g tt wi1 g1 tt1 te vs vs1) W G T cs K := fun s H st Q q => by
  refine h s H st _ fun J T0 items cs1 ⟨α, δ, γ, r, xs, f, ys, rr, e1, hl, body, k⟩ hsz wk H1 ⟨F1, c1, sg1, t1⟩ => ?_
  subst e1
  obtain ⟨hl, hbig⟩ := flatS_ok hl
  rw [List.length_map] at hsz
  intro Dp hD
  have fD : F1 Dp = none := c1.fh.free hD
  refine ⟨fun i m H => i + m = xs.length ∧ ∃ (acc zs : List γ), flatO f (xs.drop i) = some zs ∧ ys = acc ++ zs ∧ ∃ F, Core W F (cs1 ++ [(Dp, cLst rr acc)]) H ∧ Slots F G s ∧ Temps F (T0 ++ T), ⟨xs.length, by omega, [], ys, hl, rfl, F1, c1.newCell hD ⟨Nat.zero_le _, [], rfl, .nil⟩, sg1, t1⟩, ?_⟩
  rintro i m H ⟨em, acc, zs, hlo, ey, F, c, sg, t⟩
  by_cases hi : i < xs.length
  · refine .inr ⟨(wk W.B).go i F H _ (by simpa using hi) c t.left, ?_⟩
    have hd : xs.drop i = xs[i] :: xs.drop (i + 1) := List.drop_eq_getElem_cons hi
    rw [hd] at hlo
    obtain ⟨a, b, hf, hrest, ez⟩ := flatO_cons hlo
    -- behind the turn
    refine ⟨fun H => ∃ F, Core W F (cs1 ++ [(Dp, cLst rr (acc ++ a))]) H ∧ Slots F G s ∧ Temps F (T0 ++ T), fun H' ⟨F, c, sg, t⟩ => ⟨m - 1, by omega, by omega, acc ++ a, b, hrest, by rw [ey, ez, List.append_assoc], F, c, sg, t⟩, fun x H' y => ?_⟩
    have hx : (xs.map r.at)[i]? = some (r.at xs[i]) := by rw [List.getElem?_map, List.getElem?_eq_getElem hi]; rfl
    obtain ⟨F', c', sF, px⟩ := (wk W.B).yld i F H _ x H' _ hx c t.left y
    obtain ⟨od, hod, pod, cW, back⟩ := c'.park
    refine body ⟨F', upd W.B Dp od⟩ (T0 ++ T) xs[i] a hf x (wipe s vs) H' ⟨F', cW, (sg.mono sF).wipe vs, (t.mono sF).cons px⟩ _ fun G2 ht s2 st2 hw => ⟨by rw [hw vs hvs, wipe_wipe], ?_⟩
    refine ht s2 H' st2 _ fun cc cs3 ⟨e3, k2, k1⟩ H3 st3 => ?_
    subst e3
    cases cc with
    | false =>
      rw [if_neg Bool.false_ne_true]
      have ea := k2 rfl
      subst ea
      obtain ⟨F4, c4, sg4, t4⟩ := st3
      rw [List.append_nil]
      exact ⟨F4, back c4, sg.mono (sF.trans c4.f0), t4⟩
    | true =>
      rw [if_pos rfl]
      refine k1 rfl s2 H3 st3 _ fun J1 T1 items1 cs4 ⟨e4, r1, us, f1, e5, hm, inner⟩ hsz1 wk1 H4 st4 => ?_
      subst e4 e5
      rw [List.length_map] at hsz1
      obtain ⟨F4, c4, sg4, t4⟩ := st4
      have c4' := back c4
      have sFF : Same F F4 := sF.trans c4.f0
      -- the inner walk
      refine ⟨fun j k' H => j + k' = us.length ∧ ∃ (in0 ws : List γ), mapO f1 (us.drop j) = some ws ∧ a = in0 ++ ws ∧ ∃ F, Same F4 F ∧ Core W F (cs4 ++ [(Dp, cLst rr (acc ++ in0))]) H ∧ Temps F (T1 ++ (T0 ++ T)), ⟨us.length, by omega, [], a, hm, rfl, F4, Same.refl F4, by rw [List.append_nil]; exact c4', t4⟩, ?_⟩
      rintro j k' H5 ⟨ek, in0, ws, hmo, ea, F5, s5, c5, t5⟩
      by_cases hj : j < us.length
      · refine .inr ⟨(wk1 W.B).go j F5 H5 _ (by simpa using hj) ⟨c4.f0.trans s5, c5.fh, c5.bh, c5.bf, c5.nd, c5.cell⟩ t5.left, ?_⟩
        have hd2 : us.drop j = us[j] :: us.drop (j + 1) := List.drop_eq_getElem_cons hj
        rw [hd2] at hmo
        obtain ⟨o, ws', hf1, hrest1, ez1⟩ := mapO_cons hmo
        refine ⟨_, fun H' hN => hN, fun x H6 y => ?_⟩
        have hx : (us.map r1.at)[j]? = some (r1.at us[j]) := by rw [List.getElem?_map, List.getElem?_eq_getElem hj]; rfl
        obtain ⟨F6, c6, s6, px6⟩ := (wk1 W.B).yld j F5 H5 _ x H6 _ hx ⟨c4.f0.trans s5, c5.fh, c5.bh, c5.bf, c5.nd, c5.cell⟩ t5.left y
        have c6' : Core W F6 (cs4 ++ [(Dp, cLst rr (acc ++ in0))]) H6 := ⟨c5.f0.trans s6, c6.fh, c6.bh, c6.bf, c6.nd, c6.cell⟩
        obtain ⟨od6, hod6, pod6, cW6, back6⟩ := c6'.park
        refine inner ⟨F6, upd W.B Dp od6⟩ (T1 ++ (T0 ++ T)) us[j] o hf1 x (wipe s2 vs1) H6 ⟨F6, cW6, (sg4.mono (s5.trans s6)).wipe vs1, (t5.mono s6).cons px6⟩ _ fun G3 ht1 s3 st3' hw3 => ⟨by rw [hw3 vs1 hvs1, wipe_wipe], ?_⟩
        refine ht1 s3 H6 st3' _ fun c1' cs5 ⟨q1, q2⟩ H7 st7 => ?_
        cases c1' with
        | true =>
          rw [if_pos rfl]
          refine q1 rfl s3 H7 st7 _ fun sl cs6 ⟨yy, eo, es, e6⟩ v8 H8 ⟨F8, c8, sg8, t8⟩ => ?_
          subst eo es e6
          have c9 := back6 c8
          obtain ⟨_, _, o9, d9, ⟨hz9, vs9, eo9, h9⟩⟩ := c9.cell (Dp, cLst rr (acc ++ in0)) (List.mem_append_right _ (by simp))
          subst eo9
          have hlen : (acc ++ in0).length < sizeLine := by
            rw [ey, ez, ea, ez1] at hbig
            simp only [List.length_append, List.length_cons] at hbig ⊢
            omega
          refine ⟨vs9, d9, by rw [← h9.length]; exact hlen, k' - 1, by omega, by omega, in0 ++ [yy], ws', hrest1, by rw [ea, ez1]; simp, F8, (s5.trans s6).trans c8.f0, ?_, t8.tail⟩
          have hjx : (cs6 ++ [(Dp, cLst rr (acc ++ in0))])[cs6.length]? = some (Dp, cLst rr (acc ++ in0)) := by simp
          have := c9.write (c' := cLst rr (acc ++ (in0 ++ [yy]))) (o := .lst (vs9 ++ [v8])) hjx ⟨by rw [← List.append_assoc, List.length_append, List.length_singleton]; exact hlen, _, rfl, by rw [← List.append_assoc]; exact h9.app (.cons t8.head .nil)⟩
          rw [show (cs6 ++ [(Dp, cLst rr (acc ++ in0))]).set cs6.length (Dp, cLst rr (acc ++ (in0 ++ [yy]))) = cs6 ++ [(Dp, cLst rr (acc ++ (in0 ++ [yy])))] by simp [List.set_append]] at this
          exact this
        | false =>
          rw [if_neg Bool.false_ne_true]
          obtain ⟨eo, e5⟩ := q2 rfl
          subst eo e5
          obtain ⟨F8, c8, sg8, t8⟩ := st7
          exact ⟨k' - 1, by omega, by omega, in0, ws', hrest1, by rw [ea, ez1], F8, (s5.trans s6).trans c8.f0, back6 c8, t8⟩
      · have ej : j = us.length := by omega
        subst ej
        refine .inl ⟨?_, ?_⟩
        · have := (wk1 W.B).stop F5 H5 _ ⟨c4.f0.trans s5, c5.fh, c5.bh, c5.bf, c5.nd, c5.cell⟩ t5.left
          rwa [List.length_map] at this
        · rw [List.drop_length] at hmo
          have e0 : ws = [] := (Option.some.inj hmo).symm
          subst e0
          rw [List.append_nil] at ea
          subst ea
          exact ⟨F5, c5, sg.mono (sFF.trans s5), t5.right⟩
  · have ei : i = xs.length := by omega
    subst ei
    refine .inl ⟨?_, ?_⟩
    · have := (wk W.B).stop F H _ c t.left
      rwa [List.length_map] at this
    · rw [List.drop_length] at hlo
      have e2 : zs = [] := (Option.some.inj hlo).symm
      subst e2
      rw [List.append_nil] at ey
      subst ey
      have hj : (cs1 ++ [(Dp, cLst rr ys)])[cs1.length]? = some (Dp, cLst rr ys) := by simp
      obtain ⟨o, F', h1, ⟨hz, ws, eo, h2⟩, h3, sF, c'⟩ := c.freeze hj
      subst eo
      have ee : (cs1 ++ [(Dp, cLst rr ys)]).eraseIdx cs1.length = cs1 := by
        rw [List.eraseIdx_append_of_length_le (Nat.le_refl _)]; simp
      rw [ee] at c'
      exact q _ _ k _ H ⟨F', c', sg.mono sF, (t.right.mono sF).cons ⟨hz, Dp, ws, rfl, h3, h2⟩⟩
/-! ### while -/
def whileO {β ρ : Type} (f : β → Option (Fl ρ β)) : Nat → β → Option (Lo ρ β)
  | 0, _ => none
  | n + 1, b => match f b with
    | none => none
    | some (.go b') => whileO f n b'
    | some (.brk b') => some (.go b')
    | some (.ret r) => some (.ret r)
theorem while_sound {tt : TT} {tbd : TS} {β ρ : Type} {f : β → Option (Fl ρ β)} {n : Nat} {b0 : β} {out : Lo ρ β} (Gb : β → Gam) (cb : β → Cells) (hl : whileO f n b0 = some out) (hw : Wkn G (Gb b0)) (hc : cs = cb b0)
    (body : ∀ b fl, f b = some fl → ∀ N : L2.St → Hp → Prop, (∀ b', fl = .go b' → NxT N W (Gb b') T (cb b')) → ∀ Bk : L2.St → Hp → Prop, (∀ b', fl = .brk b' → NxT Bk W (Gb b') T (cb b')) → (∀ z, fl = .ret z → out = .ret z) →
      Et tt W (Gb b) T (cb b) fun c cs1 => (c = true → NxT (tbd ⟨N, rt, Bk, N⟩) W (Gb b) T cs1) ∧ (c = false → fl = .brk b ∧ cs1 = cb b))
    (after : ∀ b', out = .go b' → NxT nx W (Gb b') T (cb b')) : NxT (tWhile tt tbd ⟨nx, rt, bk, ct⟩) W G T cs := fun s H ⟨F, c, sg, t⟩ => by
  subst hc
  refine ⟨fun m s H => ∃ b, whileO f m b = some out ∧ Sta W (Gb b) T (cb b) s H, ⟨n, b0, hl, F, c, sg.weak hw, t⟩, ?_⟩
  rintro m s H ⟨b, hm, st⟩
  cases m with
  | zero => cases hm
  | succ m =>
    unfold whileO at hm
    cases ef : f b with
    | none => rw [ef] at hm; cases hm
    | some fl =>
      rw [ef] at hm
      refine body b fl ef (fun s' H' => ∃ b', fl = .go b' ∧ Sta W (Gb b') T (cb b') s' H') (fun b' e s H st => ⟨b', e, st⟩) nx (fun b' e => ?_) (fun z e => ?_) s H st _ fun cc cs1 ⟨k1, k2⟩ H1 st1 => ?_
      · subst e
        exact after b' (Option.some.inj hm).symm
      · subst e
        exact (Option.some.inj hm).symm
      · cases cc with
        | true =>
          rw [if_pos rfl]
          refine ⟨_, fun s' H' ⟨b', e, st'⟩ => ?_, k1 rfl s H1 st1⟩
          subst e
          exact ⟨m, Nat.lt_succ_self m, b', hm, st'⟩
        | false =>
          rw [if_neg Bool.false_ne_true]
          obtain ⟨e, ec⟩ := k2 rfl
          subst e ec
          exact after b (Option.some.inj hm).symm s H1 st1
/-! ### (*a, b, *c), [*a, b] -/
/-- items of one kind -/
def EvX {α : Type} (r : R α) (ta : TA) (W : Wd) (G : Gam) (T : Tms) (cs : Cells) (K : List α → Cells → Prop) : Prop :=
  ∀ s H, Sta W G T cs s H → ∀ Q : List V → Hp → Prop, (∀ xs cs', K xs cs' → ∀ vs H', (∃ F, Core W F cs' H' ∧ Slots F G s ∧ Temps F T ∧ All2 (fun x u => r.p x F u) xs vs) → Q vs H') → ta s H Q
theorem ex_nil {α : Type} {r : R α} {K : List α → Cells → Prop} (k : K [] cs) : EvX r tNil W G T cs K := fun s H ⟨F, c, sg, t⟩ Q q => q [] cs k [] H ⟨F, c, sg, t, .nil⟩
theorem ex_cons {α : Type} {r : R α} {K : List α → Cells → Prop} {tr : TA} (ha : Ev ta W G T cs fun sa cs1 => ∃ x, sa = r.at x ∧ ∀ va, EvX r tr W G ((va, sa) :: T) cs1 fun xs cs2 => K (x :: xs) cs2) : EvX r (tCons ta tr) W G T cs K := fun s H st Q q => by
  refine ha s H st _ fun sa cs1 ⟨x, e, h1⟩ va H1 st1 => ?_
  refine h1 va s H1 st1 _ fun xs cs2 k vs H2 ⟨F, c, sg, t, ar⟩ => ?_
  subst e
  exact q _ _ k _ H2 ⟨F, c, sg, t.tail, .cons t.head ar⟩
/-- a tuple, its items told -/
def sTupOf {α : Type} (r : R α) (xs : List α) (p : Addr) (us : List V) : Sl := ⟨fun F v => v = .ref p ∧ F p = some (.tup us) ∧ All2 (fun x u => r.p x F u) xs us, fun e ⟨h1, h2, h3⟩ => ⟨h1, e _ _ h2, h3.imp fun _ _ q => r.mono e q⟩⟩
def sLstOf {α : Type} (r : R α) (xs : List α) (p : Addr) (us : List V) : Sl := ⟨fun F v => v = .ref p ∧ F p = some (.lst us) ∧ All2 (fun x u => r.p x F u) xs us, fun e ⟨h1, h2, h3⟩ => ⟨h1, e _ _ h2, h3.imp fun _ _ q => r.mono e q⟩⟩
theorem ex_starT {α : Type} {r : R α} {K : List α → Cells → Prop} {tr : TA} (ha : Ev ta W G T cs fun sa cs1 => ∃ xs, sa = (rTup r).at xs ∧ ∀ va sx, EvX r tr W G ((va, sx) :: T) cs1 fun ys cs2 => K (xs ++ ys) cs2) : EvX r (tStar KF ta tr) W G T cs K := fun s H st Q q => by
  refine ha s H st _ fun sa cs1 ⟨xs, e, h1⟩ va H1 ⟨F1, c1, sg1, t1⟩ => ?_
  subst e
  obtain ⟨hz, p, us, ev, hF, hA⟩ := t1.head
  refine ⟨p, us, ev, .inl (SqT.of (c1.fh _ _ hF)), ?_⟩
  refine h1 va (sTupOf r xs p us) s H1 ⟨F1, c1, sg1, t1.tail.cons ⟨ev, hF, hA⟩⟩ _ fun ys cs2 k vs H2 ⟨F, c, sg, t, ar⟩ => ?_
  obtain ⟨_, _, hA2⟩ := t.head
  exact q _ _ k _ H2 ⟨F, c, sg, t.tail, hA2.app ar⟩
theorem ex_starL {α : Type} {r : R α} {K : List α → Cells → Prop} {tr : TA} (ha : Ev ta W G T cs fun sa cs1 => ∃ xs, sa = (rLst r).at xs ∧ ∀ va sx, EvX r tr W G ((va, sx) :: T) cs1 fun ys cs2 => K (xs ++ ys) cs2) : EvX r (tStar KF ta tr) W G T cs K := fun s H st Q q => by
  refine ha s H st _ fun sa cs1 ⟨xs, e, h1⟩ va H1 ⟨F1, c1, sg1, t1⟩ => ?_
  subst e
  obtain ⟨hz, p, us, ev, hF, hA⟩ := t1.head
  refine ⟨p, us, ev, .inr (SqL.of (c1.fh _ _ hF)), ?_⟩
  refine h1 va (sLstOf r xs p us) s H1 ⟨F1, c1, sg1, t1.tail.cons ⟨ev, hF, hA⟩⟩ _ fun ys cs2 k vs H2 ⟨F, c, sg, t, ar⟩ => ?_
  obtain ⟨_, _, hA2⟩ := t.head
  exact q _ _ k _ H2 ⟨F, c, sg, t.tail, hA2.app ar⟩
def oSmall {α : Type} (xs : List α) : Option (List α) := if xs.length ≤ sizeLine then some xs else none
theorem e_tupX {α : Type} {r : R α} (h : EvX r t W G T cs fun xs cs1 => ∃ ys, oSmall xs = some ys ∧ K ((rTup r).at ys) cs1) : Ev (tTup t) W G T cs K := fun s H st Q q => by
  refine h s H st _ fun xs cs1 ⟨ys, ho, k⟩ vs H1 ⟨F, c, sg, tm, ar⟩ => ?_
  obtain ⟨hz, e⟩ := of_ite ho
  subst e
  refine ⟨by rw [← ar.length]; exact hz, fun p hp => ?_⟩
  have sF : Same F (upd F p (.tup vs)) := same_upd (c.fh.free hp)
  exact q _ _ k _ _ ⟨_, c.new hp, sg.mono sF, (tm.mono sF).cons ⟨hz, p, vs, rfl, upd_same, ar.imp fun _ _ z => r.mono sF z⟩⟩
theorem e_lstX {α : Type} {r : R α} (h : EvX r t W G T cs fun xs cs1 => ∃ ys, oSmall xs = some ys ∧ K ((rLst r).at ys) cs1) : Ev (tLst t) W G T cs K := fun s H st Q q => by
  refine h s H st _ fun xs cs1 ⟨ys, ho, k⟩ vs H1 ⟨F, c, sg, tm, ar⟩ => ?_
  obtain ⟨hz, e⟩ := of_ite ho
  subst e
  refine ⟨by rw [← ar.length]; exact hz, fun p hp => ?_⟩
  have sF : Same F (upd F p (.lst vs)) := same_upd (c.fh.free hp)
  exact q _ _ k _ _ ⟨_, c.new hp, sg.mono sF, (tm.mono sF).cons ⟨hz, p, vs, rfl, upd_same, ar.imp fun _ _ z => r.mono sF z⟩⟩
end
end ML

namespace ML
open PySem Spec PyProof.Rows L2 StX
open AutoSeq1 (wpAny_loadPart')
/-! ### enumerate(tuple) -/
theorem enum_new_tup (q : Addr) (xs : Array Value) (m : Nat) (dc : Option Addr) (so : Array (Option Value)) :
    Meets (Builtin.«enumerate.__new__» ⟨[.type "enumerate", .ref q], []⟩) (fun _ Z s => s.heap.get? q = some { cls := .type "tuple", dict := dc, data := .seq xs m, slots := so } ∧
      Z (.ok (.ret (.ref (s.heap.push { cls := .type "tuple_iterator", data := .fields #[.ref q, .int 0 0] }).objs.size)))
        { s with heap := (s.heap.push { cls := .type "tuple_iterator", data := .fields #[.ref q, .int 0 0] }).push { cls := .type "enumerate", data := .fields #[.none, .bool false, .ref s.heap.objs.size, rawInt 0, .none, .none] } }) :=
  .of_wp fun prog w A Z s h => by
    obtain ⟨h0, g0, d0, t0, o0⟩ := s; obtain ⟨hq, h⟩ := h
    have sube := sub_enumerate
    have tq : Heap.IsTuple (Shared.heap ⟨h0, g0, d0, t0, o0⟩) q xs := ⟨_, hq, rfl, m, rfl⟩
    wp_walk using wpAny_loadPart' hq
    refine wpAny_stack_any fun _ => wpAny_pure ?_
    split
    · rename_i cc _ _ _ _ _
      cases cc == Value.type "enumerate" <;> wp_walk using wpAny_loadPart' hq, wpAny_pyIter_tuple tq <;> exact ⟨_, rfl, h⟩
    · wp_walk using wpAny_loadPart' hq, wpAny_pyIter_tuple tq; exact ⟨_, rfl, h⟩
theorem call_enum_tup {prog : Program} {w : World} {A : Around} {E : Value → Shared → Prop} {s : Shared} {q : Addr} {xs : Array Value} {Q : Value → Shared → Prop} (tq : s.heap.IsTuple q xs)
    (h : ∀ hp, IsEnum hp (s.heap.objs.size + 1) s.heap.objs.size 0 .none → hp.IsTupleIter s.heap.objs.size q 0 →
      (∀ b o, s.heap.get? b = some o → hp.get? b = some o) → Q (.ref (s.heap.objs.size + 1)) { s with heap := hp }) :
    wpAny (model prog w) A (call (.type "enumerate") [.ref q]) Q E s := by
  obtain ⟨⟨c, dc, dt, so⟩, hq, hc, m, hd⟩ := tq
  replace hc : c = .type "tuple" := hc
  replace hd : dt = .seq xs m := hd
  subst hc hd
  refine callType_new F.called_enumerate (by decide) (F.typeCall_enumerate_1 _) (F.newCall_enumerate_1 _) (fun ob => F.args_object_init_2 ob _) F.entry_enumerate_new (enum_new_tup q xs m dc so) ⟨hq, ?_⟩
  generalize hi : ({ cls := .type "tuple_iterator", data := .fields #[.ref q, .int 0 0] } : Obj) = oi
  have sz : (s.heap.push oi).objs.size = s.heap.objs.size + 1 := Heap.size_push ..
  have fr : oi.isFreed = false := by subst hi; rfl
  show _ ∧ _
  rw [sz]
  have en := Heap.get?_push_size (s.heap.push oi) (o := { cls := .type "enumerate", data := .fields #[.none, .bool false, .ref s.heap.objs.size, rawInt 0, .none, .none] }) rfl
  rw [sz] at en
  refine ⟨⟨_, en, rfl⟩, h _ en ⟨oi, Heap.get?_push_of_some _ (Heap.get?_push_size _ fr), ?_, ?_⟩ fun b o x => Heap.get?_push_of_some _ (Heap.get?_push_of_some _ x)⟩
  · subst hi; rfl
  · subst hi; rfl
theorem enum_tup_end {prog : Program} {w : World} {A : Around} {E : Value → Shared → Prop} {s : Shared} {e it a : Addr} {i : Nat} {c : Int} {xs : Array Value} {old : Value} {Q : Option Value → Shared → Prop} (hh : A.handled = none)
    (he : IsEnum s.heap e it c old) (hit : s.heap.IsTupleIter it a i) (ha : s.heap.IsTuple a xs) (hx : xs[i]? = none) (h : ∀ hp, Heap.ExtBut it s.heap hp → Q none { s with heap := hp }) : wpAny (model prog w) A (pyNext (.ref e)) Q E s := by
  have tE : s.TypeIs (.ref e) "enumerate" := ⟨_, he, rfl⟩
  unfold pyNext
  refine wpAny_bind (wpAny_attempt (wpAny_callSpecial?_slot (name := Str.ofString "__next__") tE F.slot_enumerate_next (wpAny_call_entry F.slot_enumerate_next tE F.entry_enumerate_next ?_ (F.args_enumerate_next_1 _))))
  show wpAny _ _ (field (.ref e) 2 >>= _) _ _ _
  refine wpAny_bind (wpAny_field he rfl (x := .ref it) rfl (wpAny_bind (wpAny_nextOf_tuple_end hh hit ha hx fun hp y ex sx => ?_)))
  obtain ⟨o, ho, hc⟩ := sx
  exact wpAny_bind (wpAny_isInstance (T := "StopIteration") (b := true) ⟨o, ho, hc⟩ isSubtype_stop (wpAny_pure (h _ ex)))
def IteT (K : PySem.W.Frag) (a : Addr) : It :=
  ⟨fun i H => ∃ (xs : List V) (x : V), SqT K H a xs ∧ xs[i]? = some x, fun i H u H' => ∃ B x, u = .ref B ∧ H B = none ∧ H' = upd H B (.tup [.int (i : Nat), x]) ∧ ∀ xs, SqT K H a xs → xs[i]? = some x,
    fun i H => ∃ xs : List V, SqT K H a xs ∧ xs.length ≤ i⟩
theorem turn_enumT {P : Program} {w : World} {K : PySem.W.Frag} {es : List Expr} {n0 : Nat} {ps : Pos} (a e it : Addr) (ha : a ≠ it) (hae : a ≠ e) (hne : e ≠ it) :
    Turn P w K (.Tuple es n0 ps) (IteT K a) [e, it] e (fun i h => (∃ old, IsEnum h e it (0 + ((i : Nat) : Int)) old) ∧ h.IsTupleIter it a i) where
  mem := List.mem_cons_self
  obj := fun i h st b hb => by
    obtain ⟨⟨old, he⟩, ⟨o, ho, hc, hd⟩⟩ := st
    have hb' : b = e ∨ b = it := by simpa using hb
    rcases hb' with z | z
    · rw [z]; exact ⟨_, he, fun v q => nomatch q⟩
    · rw [z]; exact ⟨o, ho, fun v q => by rw [hd] at q; cases q⟩
  keep := fun i h h' st kp => by
    obtain ⟨⟨old, he⟩, h1⟩ := st
    exact ⟨⟨old, kp e (by simp) _ he⟩, h1.at fun o q => kp it (by simp) o q⟩
  item := by
    intro X hP hw hK hc i pins s σ H E I hf st hg
    subst hP hw hK
    obtain ⟨⟨old, he⟩, h1⟩ := st
    obtain ⟨xs, x, hq, hx⟩ := hg
    obtain ⟨its, rv, pl, hz⟩ := I.tuple hq
    obtain ⟨u, hu, ru⟩ := rv.get hx
    have lt_e : e < s.heap.objs.size := Heap.lt_size he
    have lt_i : it < s.heap.objs.size := by obtain ⟨_, q, _⟩ := h1; exact Heap.lt_size q
    have hl : i < its.toArray.size := by
      have := (List.getElem?_eq_some_iff.mp hu).1
      simpa using this
    have D : Draws X.prog X.w X.A.in1 it [it, a] its.toArray.size (fun i v => its.toArray[i]? = some v) (fun i h => h.IsTupleIter it a i ∧ h.IsTuple a its.toArray) := Draws.tuple (A := X.A.in1) (I.ok.hd hc) it a ha its.toArray
    have nin : e ∉ [it, a] := by
      intro hm
      have : e = it ∨ e = a := by simpa using hm
      rcases this with z | z
      · exact hne z
      · exact hae z.symm
    refine wpAny_pyNext_enum_itemC D he ⟨h1, pl⟩ hl hne nin fun y h' tk hy ho hs hT hsz hk => ?_
    have ey : y = u := by
      have hy' : its[i]? = some y := by simpa using hy
      rw [hu] at hy'
      exact (Option.some.inj hy').symm
    subst ey
    refine ⟨_, rfl, wpAny_letOwnedTupleGo_enum (s := { s with heap := h', toks := tk + 1 }) ho fun h'' he2 sb => ?_⟩
    have hT2 := (sb.2 _ (Nat.ne_of_gt lt_e)).trans hT
    have fresh : H s.heap.objs.size = none := I.hok.fresh (Nat.le_refl _)
    have new : ObjOk X.prog X.w (upd H s.heap.objs.size (.tup [.int (i : Nat), x])) h'' s.heap.objs.size (.tup [.int (i : Nat), x]) :=
      ⟨by show 2 ≤ sizeLine; decide, [.int (0 + (i : Int)) tk, y], .cons ⟨tk, by rw [Int.zero_add]⟩ (.cons ru .nil), ⟨_, hT2, rfl, _, rfl⟩⟩
    have J : Inv X pins σ (upd H s.heap.objs.size (.tup [.int (i : Nat), x])) { s with heap := h'', toks := tk + 1 } :=
      I.turnedNew (ch := [e, it]) (fun b ob hb q => (sb.2 b (fun z => hb (by simp [z]))).trans (hk b ob (fun z => hb (by simp [z])) (fun z => hb (by simp [z])) q)) hf (Nat.le_refl _) new
    have ci : ((i + 1 : Nat) : Int) = (i : Int) + 1 := by omega
    refine ⟨.ref s.heap.objs.size, _, J, rfl, ⟨_, x, rfl, fresh, rfl, fun ys hys => by rw [I.tuple_inj hys hq]; exact hx⟩, ⟨⟨y, ?_⟩, hs.1.at fun o q => (sb.2 it (Ne.symm hne)).trans q⟩, fun b hb => ?_⟩
    · rw [ci, ← Int.add_assoc]; exact he2
    · have hlt : b < s.heap.objs.size := by
        have hb' : b = e ∨ b = it := by simpa using hb
        rcases hb' with z | z <;> rw [z] <;> assumption
      rw [upd_ne (Nat.ne_of_lt hlt)]
      exact (hf b hb).1
  done := by
    intro X hP hw hK hc i pins s σ H E I hf st hg
    subst hP hw hK
    obtain ⟨⟨old, he⟩, h1⟩ := st
    obtain ⟨xs, hq, hx⟩ := hg
    obtain ⟨its, rv, pl, hz⟩ := I.tuple hq
    have ll := rv.length
    obtain ⟨f0, f1, f2, f3, f4, f5⟩ := hf it (by simp)
    refine enum_tup_end (I.ok.hd hc) he h1 pl (by simp; omega) fun hp eb => ⟨rfl, I.turned (t' := s.toks) (fun b o hb q => eb b o hb q) f0 f1 f3 f4 f5⟩
  self := fun A i s Q E st h => let ⟨⟨_, he⟩, _⟩ := st; wpAny_pyIter_enum he h
def iEnumT (K : PySem.W.Frag) (ta : TA) : TI := fun σ H R => ta σ H fun vs H1 => ∃ a xs, vs = [.ref a] ∧ SqT K H1 a xs ∧ R (IteT K a) H1
theorem pi_enumT {X : Cx} {e : Expr} {ta : TA} {p pos tpos : Pos} {es : List Expr} {n0 : Nat} (hg : Gl X "enumerate") (hm : X.mg "enumerate" = none) (ha : PA X [e] ta) (hs : starEach [e] X.env = [(false, eval e X.env)] := by rfl) :
    PI X (.Tuple es n0 tpos) (.Call (.Name "enumerate" p) [e] [] pos) (iEnumT X.K ta) := by
  refine ⟨fun pins s σ H R I h => ?_⟩
  refine Call_ (ld_blt I hg hm PyProof.Rows.boot_enumerate (PyProof.Rows.callWith_type1 (thn (ha.run pos pins s σ H _ I h) fun us s1 ⟨vs, H1, I1, r1, q1⟩ => ?_) hs rfl))
  obtain ⟨a, xs, ex, hq, q⟩ := q1
  subst ex
  obtain ⟨u, rfl, ru⟩ := vals1 r1
  cases ru
  obtain ⟨its, rv, pl, hz⟩ := I1.tuple hq
  have lt_a : a < s1.heap.objs.size := by obtain ⟨_, q, _⟩ := pl; exact Heap.lt_size q
  refine call_enum_tup pl fun hp he hit kp => wpAny_pyIter_enum he ?_
  have J : Inv X pins σ H1 { s1 with heap := hp } := I1.kept (t' := s1.toks) kp
  refine ⟨s1.heap.objs.size + 1, [s1.heap.objs.size + 1, s1.heap.objs.size], _, _, H1, rfl, J, turn_enumT a (s1.heap.objs.size + 1) s1.heap.objs.size (Nat.ne_of_lt lt_a) (Nat.ne_of_lt (Nat.lt_succ_of_lt lt_a)) (Nat.succ_ne_self _), ⟨⟨.none, he⟩, hit⟩, fun b hb => ?_, q⟩
  have le : s1.heap.objs.size ≤ b := by
    have : b = s1.heap.objs.size + 1 ∨ b = s1.heap.objs.size := by simpa using hb
    rcases this with z | z
    · rw [z]; exact Nat.le_succ _
    · rw [z]; exact Nat.le_refl _
  exact I1.fpOk le (I1.hok.fresh le)
section
variable {W : Wd} {G : Gam} {T : Tms} {cs : Cells} {t : TA} {KF : PySem.W.Frag}
theorem wk_enumT {α : Type} {r : R α} {xs : List α} {a : Addr} {B : Hp} : Wk (IteT KF a) ⟨W.F, B⟩ [(V.ref a, (rTup r).at xs)] ((enumI xs).map (rPair rInt r).at) := by
  have get : ∀ (F : Hp), Temps F [(V.ref a, (rTup r).at xs)] → ∃ us, F a = some (.tup us) ∧ All2 (fun x u => r.p x F u) xs us := fun F t => by
    obtain ⟨_, a', us, e, h1, h2⟩ := t.head
    cases e
    exact ⟨us, h1, h2⟩
  refine ⟨fun i F H cs hi c t => ?_, fun i F H cs x H' sl hi c t y => ?_, fun F H cs c t => ?_⟩
  · obtain ⟨us, h1, h3⟩ := get F t
    rw [List.length_map, enumI_len] at hi
    obtain ⟨u, hu, _⟩ := h3.get (List.getElem?_eq_getElem hi)
    exact ⟨us, u, SqT.of (c.fh _ _ h1), hu⟩
  · obtain ⟨us, h1, h3⟩ := get F t
    obtain ⟨T, x', rfl, hT, rfl, f1⟩ := y
    obtain ⟨z, hz, pz⟩ := h3.get' (f1 us (SqT.of (c.fh _ _ h1)))
    have sF : Same F (upd F T (.tup [.int (i : Nat), x'])) := same_upd (c.fh.free hT)
    rw [List.getElem?_map, enumI_get hz] at hi
    cases hi
    exact ⟨_, c.new hT, sF, T, _, x', rfl, upd_same, rfl, r.mono sF pz⟩
  · obtain ⟨us, h1, h3⟩ := get F t
    refine ⟨us, SqT.of (c.fh _ _ h1), ?_⟩
    rw [List.length_map, enumI_len]
    have := h3.length
    omega
theorem i_enumT {KI : List Sl → Cells → Prop} (h : EvA t W G T cs fun sls cs1 => ∃ (α : Type) (r : R α) (xs : List α), sls = [(rTup r).at xs] ∧ KI ((enumI xs).map (rPair rInt r).at) cs1) : EvI (iEnumT KF t) W G T cs KI := fun s H st R k => by
  refine h s H st _ fun sls cs1 ⟨α, r, xs, e, ki⟩ vs H1 ⟨F, c, sg, tm, ar⟩ => ?_
  subst e
  obtain ⟨v, rfl, p1⟩ := args1 ar
  obtain ⟨hz, a, us, rfl, hF, hA⟩ := id p1
  exact ⟨a, us, rfl, SqT.of (c.fh _ _ hF), k _ _ _ cs1 ki (by rw [List.length_map, enumI_len]; exact hz) (fun B => wk_enumT) H1 ⟨F, c, sg, Temps.app (Temps.cons p1 Temps.nil) tm⟩⟩
end
end ML

namespace ML
open PySem Spec PyProof.Rows L2 StX
/-! ## instances: calls of their defs where no repr is under way -/
theorem RoomG.in1 {k : Nat} {A : Around} (r : RoomG (k + 1) A) : RoomG k A.in1 := ⟨r.rm.in1, r.gd⟩
theorem RoomG.make {k : Nat} {A : Around} (r : RoomG (k + 1) A) (C : Addr) (us : List Value) (kw : List (Str × Value)) : RoomG k (A.under (.builtin "type.__call__" ⟨.ref C :: us, kw⟩)) := ⟨r.rm.make C us kw, by
  have e : (Code.builtin "type.__call__" ⟨.ref C :: us, kw⟩).guards = [] := by
    first | rfl | (unfold Code.guards; rw [if_neg]; unfold Code.isGuard; decide)
  show pushGuards (Code.builtin "type.__call__" ⟨.ref C :: us, kw⟩).guards A.guards = some []
  rw [e, r.gd]
  rfl⟩
section
variable {X : Cx} {CX : CXT} {k : Nat} {f C : Addr} {fd : FuncData} {ps : List Str} {sp : Sp} {dvs : List V} {ds : List Value} {E : XK} {x m : Str} {p pos apos : Pos} {e o : Expr} {es : List Expr} {t : TA} {ta tf : TE}
/-- one call deeper inside a built-in -/
theorem run_fnG1 {pins : List (Addr × Obj)} {σ : L2.St} {H : Hp} {s : Shared} {Q : VK} {us : List Value} {vs : List V} (F : FnG X.prog X.w X.K X.mg X.base CX k f fd ps sp) (hr : RoomG (k + 1) X.A) (hb : Binds X.K fd ps ds) (hd : Vals dvs ds) (hx : Passes CX X E)
    (I : Inv X pins σ H s) (r : Vals vs us) (h : sp (vs ++ dvs) H Q E) : wpAny (model X.prog X.w) X.A.in1 (call (.ref f) us) (EP X pins σ Q) X.xe s := by
  have r2 := r.append hd
  have hl : (us ++ ds).length = ps.length := r2.length.symm.trans (F.len _ _ _ _ h)
  have run := F.go X.A.in1 X.stack s H ⟨us, []⟩ _ _ Q E hr.in1 I.env0.in1 (hb s us I.kIn hl) r2 h
  refine wpAny_call (codeAny_mono run fun r s' hq => ?_)
  match r, hq with
  | .error e, hq => exact hx pins σ H s e s' I hq
  | .ok (.ret u), hq => exact I.after hq
  | .ok .next, hq => exact False.elim hq
  | .ok .brk, hq => exact False.elim hq
  | .ok .cont, hq => exact False.elim hq
/-- o.m(e, ..) -/
theorem pe_methG {pl : Sem Bool} (he : PE X o ta) (c : Cls X.K C) (hm : Meth X.K C m f) (F : FnG X.prog X.w X.K X.mg X.base CX k f fd ps sp) (hr : RoomG k X.A) (hb : Binds X.K fd ps ds) (hd : Vals dvs ds) (hx : Passes CX X E) (ha : PA X (e :: es) t)
    (h1 : starEach (e :: es) X.env = (false, eval e X.env) :: starEach es X.env := by rfl) (h2 : (backTo pos (starEach es X.env)).any (·.1) = false := by rfl)
    (h3 : eval (.Call (.Attribute o m apos) (e :: es) [] pos) X.env = (do
      let ov ← eval o X.env
      standAt apos.atName
      let (g, own) ← holding [ov] (getMethod ov m pl)
      callWith pos g own (backTo pos (starEach (e :: es) X.env)) (backToKw pos (keywordEach [] X.env))) := by rfl) :
    PE X (.Call (.Attribute o m apos) (e :: es) [] pos) (tMeth C m sp dvs E ta t) := ⟨fun pins s σ H Q I h => by
  refine PySem.W.methodCall_KW (pl := pl) (thn (he.run pins s σ H _ I h) fun u s1 ⟨x, H1, I1, rx, a, dx, fs, ex, ea, l, q⟩ => ?_) h3
  subst ex
  cases rx
  refine getmeth_ok I1 ea c hm l (PySem.W.callWith_K (first := [.ref a]) (h₀ := X.base) I.ok.mod.kin hm.kp (thn (ha.run pos pins s1 σ H1 _ I1 q) fun us s2 ⟨vs, H2, I2, r, q2⟩ => ⟨I2.kIn, ?_⟩) h1 h2)
  exact run_fnG (us := .ref a :: us) (vs := .ref a :: vs) F hr hb hd hx I2 (.cons rfl r) q2⟩
theorem pe_methG0 {pl : Sem Bool} (he : PE X o ta) (c : Cls X.K C) (hm : Meth X.K C m f) (F : FnG X.prog X.w X.K X.mg X.base CX k f fd ps sp) (hr : RoomG k X.A) (hb : Binds X.K fd ps ds) (hd : Vals dvs ds) (hx : Passes CX X E)
    (h3 : eval (.Call (.Attribute o m apos) [] [] pos) X.env = (do
      let ov ← eval o X.env
      standAt apos.atName
      let (g, own) ← holding [ov] (getMethod ov m pl)
      callWith pos g own (backTo pos (starEach [] X.env)) (backToKw pos (keywordEach [] X.env))) := by rfl) :
    PE X (.Call (.Attribute o m apos) [] [] pos) (tMeth C m sp dvs E ta tNil) := ⟨fun pins s σ H Q I h => by
  refine PySem.W.methodCall_KW (pl := pl) (thn (he.run pins s σ H _ I h) fun u s1 ⟨x, H1, I1, rx, a, dx, fs, ex, ea, l, q⟩ => ?_) h3
  subst ex
  cases rx
  exact getmeth_ok I1 ea c hm l (PySem.W.callWith_K0 (first := [.ref a]) I1.kIn hm.kp (run_fnG (us := [.ref a]) (vs := [.ref a]) F hr hb hd hx I1 (.cons rfl .nil) q))⟩
/-- C(e, ..) -/
theorem run_makeG {pins : List (Addr × Obj)} {σ : L2.St} {H : Hp} {s : Shared} {Q : VK} {us : List Value} {vs : List V} (M : Mk X.K C f) (F : FnG X.prog X.w X.K X.mg X.base CX k f fd ps sp) (hr : RoomG (k + 1) X.A) (hb : Binds X.K fd ps ds) (hd : Vals dvs ds)
    (hx : Passes CX X E) (I : Inv X pins σ H s) (r : Vals vs us)
    (h : ∀ x dx, H x = none → H dx = none → dx ≠ x → sp (.ref x :: (vs ++ dvs)) (upd (upd H dx (.own x)) x (.ins C dx [])) (fun v H2 => v = .non ∧ Q (.ref x) H2) E) :
    wpAny (model X.prog X.w) X.A (call (.ref C) us) (EP X pins σ Q) X.xe s := by
  have wish := h (s.heap.objs.size + 1) s.heap.objs.size (I.hok.fresh (Nat.le_succ _)) (I.hok.fresh (Nat.le_refl _)) (Nat.ne_of_lt (Nat.lt_succ_self _))
  have J := Inv.made (C := C) I
  have r2 : Vals (V.ref (s.heap.objs.size + 1) :: (vs ++ dvs)) (Value.ref (s.heap.objs.size + 1) :: (us ++ ds)) := .cons rfl (r.append hd)
  have hl : (Value.ref (s.heap.objs.size + 1) :: us ++ ds).length = ps.length := r2.length.symm.trans (F.len _ _ _ _ wish)
  have run := F.go _ X.stack _ _ ⟨Value.ref (s.heap.objs.size + 1) :: us, []⟩ _ _ _ E (hr.make C us []) (J.env0.make C us []) (hb _ (Value.ref (s.heap.objs.size + 1) :: us) J.kIn hl) r2 wish
  refine wpAny_call (make_map (f := f) I.kIn M.makes M.init (beq_iff_eq.mp M.fn) (codeAny_mono run fun r s' hq => ?_))
  match r, hq with
  | .error e, hq => exact hx pins σ _ _ e s' J hq
  | .ok (.ret u), hq =>
    obtain ⟨v, H', J3, rv, ev, q3⟩ := J.after hq
    subst ev
    exact ⟨rv, ⟨V.ref (s.heap.objs.size + 1), H', J3, rfl, q3⟩⟩
  | .ok .next, hq => exact False.elim hq
  | .ok .brk, hq => exact False.elim hq
  | .ok .cont, hq => exact False.elim hq
theorem pe_makeG (M : Mk X.K C f) (F : FnG X.prog X.w X.K X.mg X.base CX k f fd ps sp) (hr : RoomG (k + 1) X.A) (hg : Gl X x) (hm : X.mg x = some (.ref C)) (hb : Binds X.K fd ps ds) (hd : Vals dvs ds) (hx : Passes CX X E)
    (ha : PA X (e :: es) t) (h1 : (x == ("__debug__" : Str)) = false := by decide) (h2 : starEach (e :: es) X.env = (false, eval e X.env) :: starEach es X.env := by rfl) (h3 : (backTo pos (starEach es X.env)).any (·.1) = false := by rfl) :
    PE X (.Call (.Name x p) (e :: es) [] pos) (tMake C sp dvs E t) := ⟨fun pins s σ H Q I h =>
  wpAny_Call_Name_kw (ld_glob I hg hm (PySem.W.callWith_K (h₀ := X.base) I.ok.mod.kin M.kp (thn (ha.run pos pins s σ H _ I h) fun us s1 ⟨vs, H1, I1, r, q⟩ => ⟨I1.kIn, run_makeG M F hr hb hd hx I1 r q⟩) h2 h3) h1)⟩
/-- obj(e, ..) -/
def tCallOb (C : Addr) (sp : Sp) (dvs : List V) (E : XK) (tf : TE) (t : TA) : TE := fun σ H Q => tf σ H fun y H1 => ∃ a, y = V.ref a ∧ t σ H1 fun vs H2 => (∃ dx fs, H2 a = some (.ins C dx fs)) ∧ sp (V.ref a :: (vs ++ dvs)) H2 Q E
theorem pe_callOG {fe : Expr} (hf : PE X fe tf) (c : CallO X.K C f) (F : FnG X.prog X.w X.K X.mg X.base CX k f fd ps sp) (hr : RoomG k X.A) (hb : Binds X.K fd ps ds) (hd : Vals dvs ds) (hx : Passes CX X E) (ha : PA X (e :: es) t)
    (h1 : eval (.Call fe (e :: es) [] pos) X.env = (do callWith pos (← eval fe X.env) [] (backTo pos (starEach (e :: es) X.env)) (backToKw pos (keywordEach [] X.env))) := by rfl)
    (h2 : starEach (e :: es) X.env = (false, eval e X.env) :: starEach es X.env := by rfl) (h3 : (backTo pos (starEach es X.env)).any (·.1) = false := by rfl) : PE X (.Call fe (e :: es) [] pos) (tCallOb C sp dvs E tf t) := by
  refine ⟨fun pins s σ H Q I h => ?_⟩
  refine Call_ (thn (hf.run pins s σ H _ I h) fun u s1 ⟨y, H1, I1, ry, a, ey, q⟩ => ?_) h1
  subst ey
  cases ry
  refine callO_with (thn (ha.run pos pins s1 σ H1 _ I1 q) fun us s2 ⟨vs, H2, I2, r, ⟨dx, fs, hi⟩, q2⟩ => ?_) h2 h3
  obtain ⟨ox, od, J, hd0⟩ := insC_at (X := X) (C := C) I2 (.inr ⟨dx, fs, hi⟩)
  have r1 : Vals (V.ref a :: vs) (Value.ref a :: us) := .cons rfl r
  have r2 : Vals (V.ref a :: (vs ++ dvs)) (Value.ref a :: us ++ ds) := r1.append hd
  have hl : (Value.ref a :: us ++ ds).length = ps.length := r2.length.symm.trans (F.len _ _ _ _ q2)
  refine ⟨⟨C, ox, od, J, hd0⟩, wpAny_call (PySem.W.kco_code I2.kIn J hd0 c.at_ c.fn c.fi ?_)⟩
  refine codeAny_mono (F.go X.A X.stack s2 H2 ⟨Value.ref a :: us, []⟩ _ _ Q E hr I2.env0 (hb s2 (Value.ref a :: us) I2.kIn hl) r2 q2) fun r s' hq => ?_
  match r, hq with
  | .error e, hq => exact hx pins σ H2 s2 e s' I2 hq
  | .ok (.ret u), hq => exact I2.after hq
  | .ok .next, hq => exact False.elim hq
  | .ok .brk, hq => exact False.elim hq
  | .ok .cont, hq => exact False.elim hq
/-- a special method of the class -/
structure DM (K : PySem.W.Frag) (C : Addr) (name : Str) (f : Addr) : Prop where
  at_ : PySem.W.findIn K (.ref C) name = some (some (.ref f))
  fn : PySem.W.isFn K (.ref f) = true
theorem ins_inst {pins : List (Addr × Obj)} {σ : L2.St} {H : Hp} {s : Shared} {a dx : Addr} {fs : List (Str × V)} (I : Inv X pins σ H s) (h : H a = some (.ins C dx fs)) : ∃ ox od, PySem.W.InstAt s.heap a ox C od := by
  obtain ⟨mA, O, _⟩ := ins_get I.hok h
  obtain ⟨od, J, _⟩ := O.look
  exact ⟨_, _, J⟩
/-- x in obj -/
def rInOb (C : Addr) (ng : Bool) (sp : Sp) (dvs : List V) (E : XK) : R2 := fun x y H Q => ∃ a dx fs, y = .ref a ∧ H a = some (.ins C dx fs) ∧ sp ([.ref a, x] ++ dvs) H (fun v H' => ∃ b, v = .bl b ∧ Q (.bl (if ng = true then !b else b)) H') E
theorem op_inG (c : DM X.K C "__contains__" f) (F : FnG X.prog X.w X.K X.mg X.base CX k f fd ps sp) (hr : RoomG k X.A) (hb : Binds X.K fd ps ds) (hd : Vals dvs ds) (hx : Passes CX X E) : OpR X (compareOp .In) (rInOb C false sp dvs E) := by
  intro pins s σ H x y v u Q I rx ry h
  obtain ⟨a, dx, fs, rfl, ha, q⟩ := h
  cases ry
  obtain ⟨ox, od, J⟩ := ins_inst I ha
  obtain ⟨m, hF⟩ := I.fr
  refine PySem.W.in_K hF I.ok.mod.kin J c.at_ c.fn (thn (run_fnG (us := [.ref a, v]) (vs := [.ref a, x]) F hr hb hd hx I (.cons rfl (.cons rx .nil)) q) fun w s' z => ?_)
  obtain ⟨z', H', I', rz, b, rfl, qz⟩ := z
  cases rz
  exact wpAny_pure ⟨.bl b, H', I', rfl, qz⟩
theorem op_notInG (c : DM X.K C "__contains__" f) (F : FnG X.prog X.w X.K X.mg X.base CX k f fd ps sp) (hr : RoomG k X.A) (hb : Binds X.K fd ps ds) (hd : Vals dvs ds) (hx : Passes CX X E) : OpR X (compareOp .NotIn) (rInOb C true sp dvs E) := by
  intro pins s σ H x y v u Q I rx ry h
  obtain ⟨a, dx, fs, rfl, ha, q⟩ := h
  cases ry
  obtain ⟨ox, od, J⟩ := ins_inst I ha
  obtain ⟨m, hF⟩ := I.fr
  refine PySem.W.notIn_K hF I.ok.mod.kin J c.at_ c.fn (thn (run_fnG (us := [.ref a, v]) (vs := [.ref a, x]) F hr hb hd hx I (.cons rfl (.cons rx .nil)) q) fun w s' z => ?_)
  obtain ⟨z', H', I', rz, b, rfl, qz⟩ := z
  cases rz
  exact wpAny_pure ⟨.bl !b, H', I', rfl, qz⟩
/-- len(obj) -/
def rLenOb (C : Addr) (sp : Sp) (dvs : List V) (E : XK) : List V → Hp → VK → Prop := fun xs H Q => ∃ a dx fs, xs = [.ref a] ∧ H a = some (.ins C dx fs) ∧ sp ([.ref a] ++ dvs) H (fun v H' => ∃ n : Int, v = .int n ∧ 0 ≤ n ∧ n < 2 ^ 63 ∧ Q (.int n) H') E
theorem call_lenG (c : DM X.K C "__len__" f) (F : FnG X.prog X.w X.K X.mg X.base CX k f fd ps sp) (hr : RoomG (k + 1) X.A) (hb : Binds X.K fd ps ds) (hd : Vals dvs ds) (hx : Passes CX X E) : CallR X (.builtin "len") (rLenOb C sp dvs E) := by
  intro pins s σ H xs us Q I r h
  obtain ⟨a, dx, fs, rfl, ha, q⟩ := h
  obtain ⟨u, rfl, ru⟩ := vals1 r
  cases ru
  obtain ⟨ox, od, J⟩ := ins_inst I ha
  obtain ⟨m, hF⟩ := I.fr
  refine PySem.W.len_K hF I.ok.mod.kin J c.at_ c.fn (thn (run_fnG1 (us := [.ref a]) (vs := [.ref a]) F hr hb hd hx I (.cons rfl .nil) q) fun w s' z => ?_)
  obtain ⟨z', H', I', rz, n, rfl, h0, h1, qz⟩ := z
  obtain ⟨t, rfl⟩ := rz
  exact ⟨⟨h0, h1⟩, .int n, H', I'.tok _, ⟨_, rfl⟩, qz⟩
/-- a op b, both of the class -/
def rBinOb (C : Addr) (sp : Sp) (dvs : List V) (E : XK) : R2 := fun x y H Q => ∃ a dx fs b dy gs, x = .ref a ∧ y = .ref b ∧ H a = some (.ins C dx fs) ∧ H b = some (.ins C dy gs) ∧ sp ([.ref a, .ref b] ++ dvs) H Q E
theorem op_binG {op : Operator} (c : DM X.K C (PySem.dunder op.info.2) f) (sf : PySem.W.selfFirst X.K C = true) (F : FnG X.prog X.w X.K X.mg X.base CX k f fd ps sp) (hr : RoomG k X.A) (hb : Binds X.K fd ps ds) (hd : Vals dvs ds) (hx : Passes CX X E) :
    OpR X (binaryOp op) (rBinOb C sp dvs E) := by
  intro pins s σ H x y v u Q I rx ry h
  obtain ⟨a, dx, fs, b, dy, gs, rfl, rfl, ha, hb2, q⟩ := h
  cases rx
  cases ry
  obtain ⟨ox, od, J⟩ := ins_inst I ha
  obtain ⟨oy, oe, J2⟩ := ins_inst I hb2
  obtain ⟨m, hF⟩ := I.fr
  refine PySem.W.binop_K hF I.ok.mod.kin J J2.type sf c.at_ c.fn (thn (run_fnG (us := [.ref a, .ref b]) (vs := [.ref a, .ref b]) F hr hb hd hx I (.cons rfl (.cons rfl .nil)) q) fun w s' z => ?_)
  obtain ⟨z', H', I', rz, qz⟩ := z
  exact SlX.cmpback rz ⟨z', H', I', rz, qz⟩
theorem op_cmpG {op : CmpOp} (hop : ∀ a b, compareOp op a b = richCompare op a b) (c : DM X.K C (cmpInfo op).2.1 f) (F : FnG X.prog X.w X.K X.mg X.base CX k f fd ps sp) (hr : RoomG k X.A) (hb : Binds X.K fd ps ds) (hd : Vals dvs ds) (hx : Passes CX X E) :
    OpR X (compareOp op) (rBinOb C sp dvs E) := by
  intro pins s σ H x y v u Q I rx ry h
  obtain ⟨a, dx, fs, b, dy, gs, rfl, rfl, ha, hb2, q⟩ := h
  cases rx
  cases ry
  obtain ⟨ox, od, J⟩ := ins_inst I ha
  obtain ⟨oy, oe, J2⟩ := ins_inst I hb2
  obtain ⟨m, hF⟩ := I.fr
  rw [hop]
  refine PySem.W.cmp_K (op := op) (tb := .ref C) hr.rm.units0 hF I.ok.mod.kin J J2.type (by simp [PySem.W.notFirst]) c.at_ c.fn (thn (run_fnG (us := [.ref a, .ref b]) (vs := [.ref a, .ref b]) F hr hb hd hx I (.cons rfl (.cons rfl .nil)) q) fun w s' z => ?_)
  obtain ⟨z', H', I', rz, qz⟩ := z
  exact SlX.cmpback rz ⟨z', H', I', rz, qz⟩
end
/-! ## instances that stand still, instances that change -/
/-- named slots -/
def Fld (F : Hp) (l : List (Str × Sl)) (fs : List (Str × V)) : Prop := All2 (fun x y => x.1 = y.1 ∧ x.2.p F y.2) l fs
theorem Fld.mono {F F' : Hp} {l : List (Str × Sl)} {fs : List (Str × V)} (e : Same F F') (h : Fld F l fs) : Fld F' l fs := h.imp fun x y q => ⟨q.1, x.2.mono e q.2⟩
theorem Fld.names {F : Hp} : ∀ {l : List (Str × Sl)} {fs : List (Str × V)}, Fld F l fs → l.map (·.1) = fs.map (·.1)
  | _, _, .nil => rfl
  | _, _, .cons q t => by rw [List.map_cons, List.map_cons, q.1, Fld.names t]
theorem look_at : ∀ {fs : List (Str × V)} {i : Nat} {f : Str} {v : V}, (fs.map (·.1)).Nodup → fs[i]? = some (f, v) → fs.lookup f = some v
  | [], _, _, _, _, h => by simp at h
  | (g, u) :: fs, 0, f, v, _, h => by
    simp at h
    obtain ⟨rfl, rfl⟩ := h
    rw [List.lookup_cons]
    simp
  | (g, u) :: fs, i + 1, f, v, nd, h => by
    rw [List.map_cons, List.nodup_cons] at nd
    have h' : fs[i]? = some (f, v) := by simpa using h
    have ne : ¬ f = g := fun e => nd.1 (List.mem_map.mpr ⟨(f, v), List.mem_of_getElem? h', e⟩)
    rw [List.lookup_cons]
    have : (f == g) = false := by simpa using ne
    rw [this]
    exact look_at nd.2 h'
theorem look_none : ∀ {fs : List (Str × V)} {f : Str}, f ∉ fs.map (·.1) → fs.lookup f = none
  | [], _, _ => rfl
  | (g, u) :: fs, f, h => by
    rw [List.map_cons, List.mem_cons] at h
    have h := not_or.mp h
    rw [List.lookup_cons]
    have : (f == g) = false := by simpa using h.1
    rw [this]
    exact look_none h.2
theorem Fld.look {F : Hp} {l : List (Str × Sl)} {fs : List (Str × V)} {i : Nat} {f : Str} {sl : Sl} (h : Fld F l fs) (nd : (l.map (·.1)).Nodup) (hi : l[i]? = some (f, sl)) : ∃ v, fs.lookup f = some v ∧ sl.p F v := by
  obtain ⟨⟨g, v⟩, h1, h2, h3⟩ := h.get hi
  subst h2
  exact ⟨v, look_at (h.names ▸ nd) h1, h3⟩
/-- an instance that stands still -/
def rRec {α : Type} (C : Addr) (fl : α → List (Str × Sl)) : R α := ⟨fun a F v => ∃ p dx fs, v = .ref p ∧ F p = some (.ins C dx fs) ∧ Fld F (fl a) fs, fun {_ _ _ _} e ⟨p, dx, fs, h1, h2, h3⟩ => ⟨p, dx, fs, h1, e _ _ h2, h3.mono e⟩⟩
/-- an instance that changes -/
def cObj (C : Addr) (l : List (Str × Sl)) : Cl := ⟨fun F o => ∃ dx fs, o = .ins C dx fs ∧ Fld F l fs, fun {_ _ _} e ⟨dx, fs, h1, h2⟩ => ⟨dx, fs, h1, h2.mono e⟩⟩
/-- the list of slots behind a store -/
inductive PutS (f : Str) (sl : Sl) : List (Str × Sl) → List (Str × Sl) → Prop
  | nil : PutS f sl [] [(f, sl)]
  | here (s0 : Sl) (r : List (Str × Sl)) : PutS f sl ((f, s0) :: r) ((f, sl) :: r)
  | next {g : Str} {s0 : Sl} {r r' : List (Str × Sl)} (h : ¬ g = f) (t : PutS f sl r r') : PutS f sl ((g, s0) :: r) ((g, s0) :: r')
theorem PutS.fld {F : Hp} {f : Str} {sl : Sl} {v : V} (hv : sl.p F v) : ∀ {l l' : List (Str × Sl)} {fs : List (Str × V)}, PutS f sl l l' → Fld F l fs → Fld F l' (putF f v fs)
  | _, _, _, .nil, .nil => .cons ⟨rfl, hv⟩ .nil
  | _, _, _, .here s0 r, .cons (b := (g, u)) q t => by
    obtain ⟨q1, q2⟩ := q
    have q1 : f = g := q1
    subst q1
    show Fld F _ (if f = f then _ else _)
    rw [if_pos rfl]
    exact .cons ⟨rfl, hv⟩ t
  | _, _, _, .next hne pt, .cons (b := (g, u)) q t => by
    obtain ⟨q1, q2⟩ := q
    dsimp only at q1
    subst q1
    show Fld F _ (if _ = f then _ else _)
    rw [if_neg hne]
    exact .cons ⟨rfl, q2⟩ (PutS.fld hv pt t)
section
variable {nx bk ct : L2.St → Hp → Prop} {rt : VK}
variable {W : Wd} {G : Gam} {T : Tms} {cs : Cells} {K : Sl → Cells → Prop} {t : TA} {ta tb tc te to : TE} {KF : PySem.W.Frag}
/-- x.f, x stands still -/
theorem e_fld {α : Type} {C : Addr} {fl : α → List (Str × Sl)} {f : Str} (i : Nat) (cl : Cls KF C) (na : NoAttr KF C f) (nd : ∀ x, ((fl x).map (·.1)).Nodup) (ha : Ev ta W G T cs fun sa cs1 => ∃ x sl, sa = (rRec C fl).at x ∧ (fl x)[i]? = some (f, sl) ∧ K sl cs1) :
    Ev (tFld KF ta f) W G T cs K := fun s H st Q q => by
  refine ha s H st _ fun sa cs1 ⟨x, sl, e, hi, k⟩ va H1 ⟨F, c, sg, tm⟩ => ?_
  subst e
  obtain ⟨p, dx, fs, ev, hF, hf⟩ := tm.head
  obtain ⟨v, hv, pv⟩ := hf.look (nd x) hi
  exact ⟨p, C, dx, fs, v, ev, c.fh _ _ hF, cl, na, hv, q _ _ k _ H1 ⟨F, c, sg, tm.tail.cons pv⟩⟩
theorem Core.obj {F H : Hp} (c : Core W F cs H) {j : Nat} {p C : Addr} {l : List (Str × Sl)} (hj : cs[j]? = some (p, cObj C l)) : ∃ dx fs, H p = some (.ins C dx fs) ∧ Fld F l fs := by
  obtain ⟨_, _, o, h1, dx, fs, e, h2⟩ := c.cell _ (List.mem_of_getElem? hj)
  subst e
  exact ⟨dx, fs, h1, h2⟩
/-- x.f, x a cell -/
theorem e_fldC {C : Addr} {f : Str} (j i : Nat) (cl : Cls KF C) (na : NoAttr KF C f) (ha : Ev ta W G T cs fun sa cs1 => ∃ p l sl, sa = sRef p ∧ cs1[j]? = some (p, cObj C l) ∧ (l.map (·.1)).Nodup ∧ l[i]? = some (f, sl) ∧ K sl cs1) :
    Ev (tFld KF ta f) W G T cs K := fun s H st Q q => by
  refine ha s H st _ fun sa cs1 ⟨p, l, sl, e, hj, nd, hi, k⟩ va H1 ⟨F, c, sg, tm⟩ => ?_
  subst e
  have ev : va = .ref p := tm.head
  obtain ⟨dx, fs, hF, hf⟩ := c.obj hj
  obtain ⟨v, hv, pv⟩ := hf.look nd hi
  exact ⟨p, C, dx, fs, v, ev, hF, cl, na, hv, q _ _ k _ H1 ⟨F, c, sg, tm.tail.cons pv⟩⟩
/-- x.f = value, x a cell -/
theorem s_fld {C : Addr} {f : Str} (j : Nat) (cl : Cls KF C) (na : NoAttr KF C f) (hv : Ev te W G T cs fun sv cs1 => ∀ vv, Ev to W G ((vv, sv) :: T) cs1 fun so cs2 => ∃ p l l', so = sRef p ∧ cs2[j]? = some (p, cObj C l) ∧ l.length < 1000 ∧ PutS f sv l l' ∧ NxT nx W G T (cs2.set j (p, cObj C l'))) :
    NxT (sFld KF to te f ⟨nx, rt, bk, ct⟩) W G T cs := fun s H st => by
  refine hv s H st _ fun sv cs1 h1 vv H1 st1 => ?_
  refine h1 vv s H1 st1 _ fun so cs2 ⟨p, l, l', e, hj, hz, hp, k⟩ vo H2 ⟨F, c, sg, tm⟩ => ?_
  subst e
  have ev : vo = .ref p := tm.head
  obtain ⟨dx, fs, hF, hf⟩ := c.obj hj
  refine ⟨p, C, dx, fs, ev, hF, cl, na, by rw [← hf.length]; exact hz, k s _ ⟨F, c.write (c' := cObj C l') hj ⟨dx, _, rfl, hp.fld tm.tail.head hf⟩, sg, tm.tail.tail⟩⟩
/-- a def that hands back nothing -/
theorem s_fallN {Q : VK} (h : Rt Q W (rNon.at ()) cs) : NxT (fun _ H' => Q .non H') W G T cs := fun s H ⟨F, c, sg, t⟩ => h _ H ⟨F, c, rfl⟩
/-- a cell of an instance stands still from here on -/
theorem Core.freezeO {F H : Hp} (c : Core W F cs H) {j : Nat} {p C : Addr} {l : List (Str × Sl)} (hj : cs[j]? = some (p, cObj C l)) : ∃ F' dx fs, F' p = some (.ins C dx fs) ∧ Fld F' l fs ∧ Same F F' ∧ Core W F' (cs.eraseIdx j) H := by
  obtain ⟨o, F', h1, ⟨dx, fs, e, h2⟩, h3, sF, c'⟩ := c.freeze hj
  subst e
  exact ⟨F', dx, fs, h3, h2, sF, c'⟩
/-- C(..): the new instance stands still -/
theorem e_makeF {ι β : Type} {C : Addr} {fl : β → List (Str × Sl)} {A : Addr → ι → List Sl} {m : ι → Option β} {E : XK}
    (h : EvA t W G T cs fun sls cs1 => ∃ (i : ι) (b : β), m i = some b ∧ (∀ p, sRef p :: sls = A p i) ∧ K ((rRec C fl).at b) cs1) :
    Ev (tMake C (spM (ι := Addr × ι) (fun i => A i.1 i.2) (fun i => [(i.1, cObj C [])]) (fun i => m i.2) (fun _ _ => rNon.at ()) (fun i b => [(i.1, cObj C (fl b))])) [] E t) W G T cs K := fun s H st Q q => by
  refine h s H st _ fun sls cs1 ⟨i, b, hm, e1, k⟩ vs H1 ⟨F, c, sg, tm, ar⟩ => ?_
  intro x dx hx hdx hne
  rw [List.append_nil]
  -- the dict of the instance, then the instance
  have c1 := c.new (o := .own x) hdx
  have sF : Same F (upd F dx (.own x)) := same_upd (c.fh.free hdx)
  have hx1 : (upd H1 dx (.own x)) x = none := by rw [upd_ne (Ne.symm hne)]; exact hx
  have c2 := c1.newCell (c := cObj C []) hx1 ⟨dx, [], rfl, .nil⟩
  have c2' : Core W (upd F dx (.own x)) ([(x, cObj C [])] ++ cs1) (upd (upd H1 dx (.own x)) x (.ins C dx [])) :=
    ⟨c2.f0, c2.fh, c2.bh, c2.bf, by
      have := c2.nd
      rw [List.map_append] at this ⊢
      exact (List.perm_append_comm.nodup_iff).mp this, fun y hy => c2.cell y (by
        rcases List.mem_append.mp hy with z | z
        · exact List.mem_append_right _ z
        · exact List.mem_append_left _ z)⟩
  refine ⟨(x, i), b, Wd.sub (upd F dx (.own x)) _ [(x, cObj C [])], hm, c2'.sub, ?_, fun v H2 ⟨F2, c3, pv⟩ => ⟨pv, ?_⟩⟩
  · show Args (upd F dx (.own x)) (A x i) _
    rw [← e1 x]
    exact .cons rfl (ar.imp fun sl _ z => sl.mono sF z)
  · have sF2 : Same (upd F dx (.own x)) F2 := c3.f0
    have c4 := c2'.unsub c3
    obtain ⟨F3, dy, gs, h1, h2, s3, c5⟩ := c4.freezeO (j := 0) (p := x) (C := C) (l := fl b) rfl
    exact q _ _ k (.ref x) H2 ⟨F3, c5, sg.mono ((sF.trans sF2).trans s3), (tm.mono ((sF.trans sF2).trans s3)).cons ⟨x, dy, gs, rfl, h1, h2⟩⟩
/-- what a call of a def gives, its arguments told -/
theorem call_gives {ι β : Type} {A : ι → List Sl} {ci : ι → Cells} {m : ι → Option β} {res : ι → β → Sl} {co : ι → β → Cells} {E : XK} {i : ι} {b : β} {rest : Cells} {F H : Hp} {s : L2.St} {vs : List V} {Q : VK} (hm : m i = some b) (c : Core W F (ci i ++ rest) H) (sg : Slots F G s) (tm : Temps F T) (ar : Args F (A i) vs)
    (q : ∀ v H2, Sta W G ((v, res i b) :: T) (co i b ++ rest) s H2 → Q v H2) : spM A ci m res co vs H Q E :=
  ⟨i, b, Wd.sub F H (ci i), hm, c.sub, ar, fun v H2 ⟨F2, c2, pv⟩ => q v H2 ⟨F2, c.unsub c2, sg.mono (show Same F F2 from c2.f0), (tm.mono (show Same F F2 from c2.f0)).cons pv⟩⟩
/-- o.m(..), o stands still -/
theorem e_meth {ι β α : Type} {C : Addr} {fl : α → List (Str × Sl)} {mn : Str} {A : ι → List Sl} {ci : ι → Cells} {m : ι → Option β} {res : ι → β → Sl} {co : ι → β → Cells} {E : XK} (hn : ∀ x, mn ∉ (fl x).map (·.1))
    (ha : Ev ta W G T cs fun sa cs1 => ∃ x, sa = (rRec C fl).at x ∧ ∀ va, EvA t W G ((va, sa) :: T) cs1 fun sls cs2 => ∃ (i : ι) (b : β) (rest : Cells), m i = some b ∧ sa :: sls = A i ∧ cs2 = ci i ++ rest ∧ K (res i b) (co i b ++ rest)) :
    Ev (tMeth C mn (spM A ci m res co) [] E ta t) W G T cs K := fun s H st Q q => by
  refine ha s H st _ fun sa cs1 ⟨x, e, h1⟩ va H1 st1 => ?_
  obtain ⟨F1, c1, sg1, tm1⟩ := id st1
  obtain ⟨p, dx, fs, ev, hF, hf⟩ : (rRec C fl).p x F1 va := by
    have := tm1.head
    rw [e] at this
    exact this
  refine ⟨p, dx, fs, ev, c1.fh _ _ hF, look_none (hf.names ▸ hn x), ?_⟩
  refine h1 va s H1 st1 _ fun sls cs2 ⟨i, b, rest, hm, e1, e2, k⟩ vs H2 ⟨F, c, sg, tm, ar⟩ => ?_
  subst e2
  rw [List.append_nil]
  exact call_gives hm c sg tm.tail (e1 ▸ .cons tm.head ar) fun v H3 st3 => q _ _ k v H3 st3
/-- o(..) -/
theorem e_callOb {ι β α : Type} {C : Addr} {fl : α → List (Str × Sl)} {A : ι → List Sl} {ci : ι → Cells} {m : ι → Option β} {res : ι → β → Sl} {co : ι → β → Cells} {E : XK}
    (ha : Ev ta W G T cs fun sa cs1 => ∃ x, sa = (rRec C fl).at x ∧ ∀ va, EvA t W G ((va, sa) :: T) cs1 fun sls cs2 => ∃ (i : ι) (b : β) (rest : Cells), m i = some b ∧ sa :: sls = A i ∧ cs2 = ci i ++ rest ∧ K (res i b) (co i b ++ rest)) :
    Ev (tCallOb C (spM A ci m res co) [] E ta t) W G T cs K := fun s H st Q q => by
  refine ha s H st _ fun sa cs1 ⟨x, e, h1⟩ va H1 st1 => ?_
  obtain ⟨F1, c1, sg1, tm1⟩ := id st1
  obtain ⟨p, dx, fs, ev, hF, hf⟩ : (rRec C fl).p x F1 va := by
    have := tm1.head
    rw [e] at this
    exact this
  refine ⟨p, ev, ?_⟩
  refine h1 va s H1 st1 _ fun sls cs2 ⟨i, b, rest, hm, e1, e2, k⟩ vs H2 ⟨F, c, sg, tm, ar⟩ => ?_
  subst e2
  rw [List.append_nil]
  obtain ⟨p2, dx2, fs2, ev2, hF2, _⟩ : (rRec C fl).p x F va := by
    have := tm.head
    rw [e] at this
    exact this
  rw [ev] at ev2
  cases ev2
  exact ⟨⟨dx2, fs2, c.fh _ _ hF2⟩, call_gives hm c sg tm.tail (e1 ▸ .cons (ev ▸ tm.head) ar) fun v H3 st3 => q _ _ k v H3 st3⟩
/-- x in o -/
theorem e_inOb {ι α : Type} {C : Addr} {fl : α → List (Str × Sl)} {A : ι → List Sl} {m : ι → Option Bool} {E : XK} (ng : Bool)
    (ha : Ev ta W G T cs fun sa cs1 => ∀ va, Ev tb W G ((va, sa) :: T) cs1 fun sb cs2 => ∃ (x : α) (i : ι) (b : Bool), sb = (rRec C fl).at x ∧ m i = some b ∧ [sb, sa] = A i ∧ K (rBool.at (if ng = true then !b else b)) cs2) :
    Ev (tOp (rInOb C ng (spM A (fun _ => []) m (fun _ b => rBool.at b) (fun _ _ => [])) [] E) ta tb) W G T cs K := fun s H st Q q => by
  refine ha s H st _ fun sa cs1 h1 va H1 st1 => ?_
  refine h1 va s H1 st1 _ fun sb cs2 ⟨x, i, b, e, hm, e1, k⟩ vb H2 ⟨F, c, sg, tm⟩ => ?_
  obtain ⟨p, dx, fs, ev, hF, hf⟩ : (rRec C fl).p x F vb := by
    have := tm.head
    rw [e] at this
    exact this
  refine ⟨p, dx, fs, ev, c.fh _ _ hF, ?_⟩
  rw [List.append_nil]
  refine call_gives (G := G) (T := T) (rest := cs2) hm c sg tm.tail.tail (e1 ▸ .cons (ev ▸ tm.head) (.cons tm.tail.head .nil)) fun v H3 st3 => ⟨b, bool_top st3, ?_⟩
  exact q _ _ k _ H3 (st3.pop.push fun _ => rfl)
/-- len(o) -/
theorem e_lenOb {ι α : Type} {C : Addr} {fl : α → List (Str × Sl)} {A : ι → List Sl} {m : ι → Option Int} {E : XK}
    (h : EvA t W G T cs fun sls cs1 => ∃ (x : α) (i : ι) (n : Int), sls = [(rRec C fl).at x] ∧ m i = some n ∧ sls = A i ∧ 0 ≤ n ∧ n < 2 ^ 63 ∧ K (rInt.at n) cs1) :
    Ev (tCB (rLenOb C (spM A (fun _ => []) m (fun _ b => rInt.at b) (fun _ _ => [])) [] E) t) W G T cs K := fun s H st Q q => by
  refine h s H st _ fun sls cs1 ⟨x, i, n, e, hm, e1, h0, h1, k⟩ vs H1 ⟨F, c, sg, tm, ar⟩ => ?_
  obtain ⟨v, ev, pv⟩ : ∃ v, vs = [v] ∧ (rRec C fl).p x F v := by
    rw [e] at ar
    exact args1 ar
  obtain ⟨p, dx, fs, ev2, hF, hf⟩ := pv
  subst ev2
  refine ⟨p, dx, fs, ev, c.fh _ _ hF, ?_⟩
  rw [List.append_nil, ← ev]
  refine call_gives (G := G) (T := T) (rest := cs1) hm c sg tm (e1 ▸ ar) fun v H3 st3 => ⟨n, int_top st3, h0, h1, ?_⟩
  exact q _ _ k _ H3 (st3.pop.push fun _ => rfl)
/-- a op b -/
theorem e_binOb {ι β α : Type} {C : Addr} {fl : α → List (Str × Sl)} {A : ι → List Sl} {m : ι → Option β} {res : ι → β → Sl} {E : XK}
    (ha : Ev ta W G T cs fun sa cs1 => ∀ va, Ev tb W G ((va, sa) :: T) cs1 fun sb cs2 => ∃ (x y : α) (i : ι) (b : β), sa = (rRec C fl).at x ∧ sb = (rRec C fl).at y ∧ m i = some b ∧ [sa, sb] = A i ∧ K (res i b) cs2) :
    Ev (tOp (rBinOb C (spM A (fun _ => []) m res (fun _ _ => [])) [] E) ta tb) W G T cs K := fun s H st Q q => by
  refine ha s H st _ fun sa cs1 h1 va H1 st1 => ?_
  refine h1 va s H1 st1 _ fun sb cs2 ⟨x, y, i, b, e, e', hm, e1, k⟩ vb H2 ⟨F, c, sg, tm⟩ => ?_
  obtain ⟨p, dx, fs, ev, hF, hf⟩ : (rRec C fl).p y F vb := by
    have := tm.head
    rw [e'] at this
    exact this
  obtain ⟨p2, dx2, fs2, ev2, hF2, hf2⟩ : (rRec C fl).p x F va := by
    have := tm.tail.head
    rw [e] at this
    exact this
  refine ⟨p2, dx2, fs2, p, dx, fs, ev2, ev, c.fh _ _ hF2, c.fh _ _ hF, ?_⟩
  rw [List.append_nil]
  exact call_gives (G := G) (T := T) (rest := cs2) hm c sg tm.tail.tail (e1 ▸ .cons (ev2 ▸ tm.tail.head) (.cons (ev ▸ tm.head) .nil)) fun v H3 st3 => q _ _ k v H3 st3
end
end ML

namespace ML
open PySem Spec PyProof.Rows L2 StX
section
variable {nx bk ct : L2.St → Hp → Prop} {rt : VK}
variable {W : Wd} {G : Gam} {T : Tms} {cs : Cells} {K : Sl → Cells → Prop} {t : TA} {ta tb tc te to : TE} {KF : PySem.W.Frag} {α : Type}
/-! ### what may be None -/
theorem e_some {r : R α} {o : Option α} {x : α} (hx : o = some x) (ha : Ev ta W G T cs fun sa cs1 => sa = (rOpt r).at o ∧ K (r.at x) cs1) : Ev ta W G T cs K := fun s H st Q q => by
  subst hx
  refine ha s H st _ fun sa cs1 ⟨e, k⟩ v H1 st1 => ?_
  subst e
  exact q _ _ k v H1 st1
/-- values that are not None -/
def NN (r : R α) : Prop := ∀ x F u, r.p x F u → u ≠ .non
theorem nnInt : NN rInt := fun x F u h e => by rw [show u = .int x from h] at e; cases e
theorem nnBool : NN rBool := fun x F u h e => by rw [show u = .bl x from h] at e; cases e
theorem nnStr : NN rStr := fun x F u h e => by rw [show u = .str x from h] at e; cases e
theorem nnTup {r : R α} : NN (rTup r) := fun x F u ⟨_, a, vs, h, _⟩ e => by rw [h] at e; cases e
theorem nnLst {r : R α} : NN (rLst r) := fun x F u ⟨_, a, vs, h, _⟩ e => by rw [h] at e; cases e
theorem nnPair {β : Type} {r : R α} {q : R β} : NN (rPair r q) := fun x F u ⟨a, vs, w, h, _⟩ e => by rw [h] at e; cases e
theorem nnRec {C : Addr} {fl : α → List (Str × Sl)} : NN (rRec C fl) := fun x F u ⟨a, vs, w, h, _⟩ e => by rw [h] at e; cases e
def rIsNone : R2 := fun x y H Q => y = .non ∧ Q (.bl (decide (x = .non))) H
def rNotNone : R2 := fun x y H Q => y = .non ∧ Q (.bl (!decide (x = .non))) H
theorem op_isNone {X : Cx} : OpR X (compareOp .Is) rIsNone := op_isN
theorem op_notNone {X : Cx} : OpR X (compareOp .IsNot) rNotNone := op_notN
theorem opt_none {r : R α} (nn : NN r) {o : Option α} {F : Hp} {v : V} (h : (rOpt r).p o F v) : decide (v = .non) = o.isNone := by
  cases o with
  | none => exact decide_eq_true (show v = .non from h)
  | some x => exact decide_eq_false (nn x F v h)
theorem e_isNone {r : R α} (nn : NN r) (ha : Ev ta W G T cs fun sa cs1 => ∃ o, sa = (rOpt r).at o ∧ ∀ va, Ev tb W G ((va, sa) :: T) cs1 fun sb cs2 => sb = rNon.at () ∧ K (rBool.at o.isNone) cs2) : Ev (tOp rIsNone ta tb) W G T cs K := fun s H st Q q => by
  refine ha s H st _ fun sa cs1 ⟨o, e, h1⟩ va H1 st1 => ?_
  refine h1 va s H1 st1 _ fun sb cs2 ⟨e2, k⟩ vb H2 ⟨F, c, sg, tm⟩ => ?_
  subst e e2
  refine ⟨tm.head, ?_⟩
  rw [opt_none nn tm.tail.head]
  exact q _ _ k _ H2 ⟨F, c, sg, tm.tail.tail.cons rfl⟩
theorem e_notNone {r : R α} (nn : NN r) (ha : Ev ta W G T cs fun sa cs1 => ∃ o, sa = (rOpt r).at o ∧ ∀ va, Ev tb W G ((va, sa) :: T) cs1 fun sb cs2 => sb = rNon.at () ∧ K (rBool.at (!o.isNone)) cs2) : Ev (tOp rNotNone ta tb) W G T cs K := fun s H st Q q => by
  refine ha s H st _ fun sa cs1 ⟨o, e, h1⟩ va H1 st1 => ?_
  refine h1 va s H1 st1 _ fun sb cs2 ⟨e2, k⟩ vb H2 ⟨F, c, sg, tm⟩ => ?_
  subst e e2
  refine ⟨tm.head, ?_⟩
  rw [opt_none nn tm.tail.head]
  exact q _ _ k _ H2 ⟨F, c, sg, tm.tail.tail.cons rfl⟩
/-! ### xs.pop() -/
def oPop (xs : List α) : Option (α × List α) := match xs[xs.length - 1]? with
  | some x => some (x, xs.dropLast)
  | none => none
theorem all2_dropLast {P : α → V → Prop} : ∀ {xs : List α} {vs : List V}, All2 P xs vs → All2 P xs.dropLast vs.dropLast
  | _, _, .nil => .nil
  | _, _, .cons q .nil => .nil
  | _, _, .cons q (.cons q2 t) => .cons q (all2_dropLast (.cons q2 t))
theorem e_pop (j : Nat) (ho : Ev to W G T cs fun so cs1 => ∃ (α : Type) (p : Addr) (r : R α) (xs : List α) (x : α) (ys : List α), so = sRef p ∧ cs1[j]? = some (p, cLst r xs) ∧ oPop xs = some (x, ys) ∧ K (r.at x) (cs1.set j (p, cLst r ys))) :
    Ev (tBM0 KF "list" rPop to) W G T cs K := fun s H st Q q => by
  refine ho s H st _ fun so cs1 ⟨α, p, r, xs, x, ys, e, hj, hy, k⟩ vo H1 ⟨F, c, sg, tm⟩ => ?_
  subst e
  have eo : vo = .ref p := tm.head
  subst eo
  obtain ⟨hz, us, hH, hA⟩ := c.lst hj
  unfold oPop at hy
  split at hy
  · rename_i x' hx
    cases hy
    obtain ⟨u, hu, pu⟩ := hA.get hx
    refine ⟨.inl ⟨rfl, _, SqL.of hH⟩, p, us, u, rfl, rfl, hH, by rw [← hA.length]; exact hu, q _ _ k _ _ ⟨F, c.write hj ⟨?_, _, rfl, all2_dropLast hA⟩, sg, tm.tail.cons pu⟩⟩
    rw [List.length_dropLast]
    omega
  · cases hy
def oLen (m : Option Int) : Option Int := match m with
  | some n => if 0 ≤ n ∧ n < 2 ^ 63 then some n else none
  | none => none
theorem oLen_ok {m : Option Int} {n : Int} (h : oLen m = some n) : m = some n ∧ 0 ≤ n ∧ n < 2 ^ 63 := by
  unfold oLen at h
  split at h
  · obtain ⟨h1, h2⟩ := of_ite h
    subst h2
    exact ⟨rfl, h1⟩
  · cases h
/-! ### isinstance of an instance -/
/-- what isinstance asks of an instance's class -/
structure IsC (K : PySem.W.Frag) (C : Addr) : Prop where
  cl : Cls K C
  ha : PySem.W.findIn K (.ref C) "__class__" = some (some (.builtin "object.__class__"))
  hn : PySem.W.specialIn K (.builtin "object.__class__") "__get__" = some (some (.builtin "getset_descriptor.__get__"))
  ht : PySem.W.takesIn K (.builtin "object.__class__") = some true
  hm : PySem.W.mroIn K C (.type "object") = some true
theorem rec_ty {KF : PySem.W.Frag} {C : Addr} (c : IsC KF C) {fl : α → List (Str × Sl)} {F H : Hp} {x : α} {v : V} (h : (rRec C fl).p x F v) (s : Same F H) : TyX KF H v (.ref C) := by
  obtain ⟨p, dx, fs, rfl, h1, _⟩ := h
  exact .base (.ins (s _ _ h1) c.cl c.ha c.hn c.ht c.hm)
def sCls (u : V) : Sl := ⟨fun _ v => v = u, fun _ h => h⟩
theorem kitOne_self (KF : PySem.W.Frag) (C : Addr) : PySem.W.kitOne KF (.ref C) (.ref C) = some true := by
  unfold PySem.W.kitOne
  rw [if_pos (by simp)]
theorem e_bits (ha : Ev ta W G T cs fun sa cs1 => ∃ i, sa = rInt.at i ∧ K (rInt.at ((Builtin.Int.intBits i : Nat) : Int)) cs1) : Ev (tBits ta) W G T cs K := fun s H st Q q => by
  refine ha s H st _ fun sa cs1 ⟨i, e, k⟩ va H1 st1 => ?_
  subst e
  exact ⟨i, int_top st1, q _ _ k _ H1 (st1.pop.push fun _ => rfl)⟩
theorem e_clsO {C : Addr} (k : K (sCls (.ref C)) cs) : Ev (tC (.ref C)) W G T cs K := fun s H st Q q => q _ cs k _ H (st.push fun _ => rfl)
/-- isinstance(x, C), C a class of the program: x of a type -/
theorem e_isiO {ty : Value} {D : Addr} {b : Bool} (h : EvA t W G T cs fun sls cs1 => ∃ (α : Type) (r : R α) (x : α), (∀ {F H : Hp} {v : V}, r.p x F v → Same F H → TyX KF H v ty) ∧ sls = [r.at x, sCls (.ref D)] ∧ PySem.W.kitOne KF ty (.ref D) = some b ∧ K (rBool.at b) cs1) :
    Ev (tCB (rIsi KF) t) W G T cs K := fun s H st Q q => by
  refine h s H st _ fun sls cs1 ⟨α, r, x, e, e1, hk, k⟩ vs H1 ⟨F, cc, sg, tm, ar⟩ => ?_
  subst e1
  obtain ⟨v, w, rfl, p1, p2⟩ := args2' ar
  have ew : w = .ref D := p2
  subst ew
  exact ⟨v, _, _, _, b, rfl, .own D, e p1 cc.fh, hk, q _ _ k _ H1 ⟨F, cc, sg, tm.cons rfl⟩⟩
end
end ML

namespace ML
open PySem Spec PyProof.Rows L2 StX
/-! ### a != b of instances whose class has == alone -/
section
variable {prog : Program} {w : World} {A : Around} {E : Value → Shared → Prop} {s : Shared} {K : PySem.W.Frag} {x C f : Addr} {ox : Obj} {od : Option Obj} {b : Value}
theorem truthy_b {M : Model} {Q : Bool → Shared → Prop} {r : Bool} (h : Q r s) : wpAny M A (truthy (.bool r)) Q E s := wpAny_of_eq (rfl : truthy (.bool r) = pure r) h
theorem ne_entry {Q : Fin → Shared → Prop} (hu : A.units < cLine) (X : K.In s.heap) (I : PySem.W.InstAt s.heap x ox C od) (he : PySem.W.findIn K (.ref C) "__eq__" = some (some (.ref f))) (hf : PySem.W.isFn K (.ref f) = true)
    (h : wpAny (model prog w) A (call (.ref f) [.ref x, b]) (fun v s1 => ∃ r, v = .bool r ∧ Q (.done (.ret (.bool !r))) s1) E s) : wpAny (model prog w) A (Builtin.«object.__ne__» ⟨[.ref x, b], []⟩) Q E s := by
  unfold Builtin.«object.__ne__»
  have go : ∀ {R : Option Value → Shared → Prop}, wpAny (model prog w) A (call (.ref f) [.ref x, b]) (fun v => R (some v)) E s → wpAny (model prog w) A (callSpecialIfBound? (.ref x) "__eq__" [b]) R E s := fun z => PySem.W.ifBound_K X I he hf z
  refine wpAny_bind (m := slotArgs "__ne__" 1 _) (wpAny_pure ?_)
  refine wpAny_bind (m := cRoomFor _ _) (wpAny_cRoomFor hu ?_)
  refine wpAny_bind (go (thn h fun v s1 ⟨r, e, q⟩ => ?_))
  subst e
  exact wpAny_bind (truthy_b (wpAny_pure q))
theorem ne_call {Q : Value → Shared → Prop} (hu : A.in1.units < cLine) (X : K.In s.heap) (I : PySem.W.InstAt s.heap x ox C od) (hm : PySem.W.mroIn K C (.type "object") = some true) (he : PySem.W.findIn K (.ref C) "__eq__" = some (some (.ref f))) (hf : PySem.W.isFn K (.ref f) = true)
    (h : wpAny (model prog w) A.in1 (call (.ref f) [.ref x, b]) (fun v s1 => ∃ r, v = .bool r ∧ Q (.bool !r) s1) E s) : wpAny (model prog w) A (call (.builtin "object.__ne__") [.ref x, b]) Q E s :=
  wpAny_call (codeAny_call_builtin F.cmp_object.ne.plain F.cmpEntry_ne (PySem.W.check_slot F.cmpKind_ne F.cmpSplit_ne (I.type.andThen (PySem.W.looks_mroIn X hm)) (F.cmpArgs_ne _ _) (ne_entry hu X I he hf h)))
theorem ne_bound {M : Model} {args : List Value} {Q : Option Value → Shared → Prop} (X : K.In s.heap) (I : PySem.W.InstAt s.heap x ox C od) (hs : PySem.W.findIn K (.ref C) "__ne__" = some (some (.builtin "object.__ne__")))
    (h : wpAny M A (call (.builtin "object.__ne__") (.ref x :: args)) (fun v => Q (some v)) E s) : wpAny M A (callSpecialIfBound? (.ref x) "__ne__" args) Q E s := by
  simp only [callSpecialIfBound?, bindSpecialIfBound?]
  have last : wpAny M A (call (.builtin "object.__ne__") ([.ref x] ++ args) >>= fun v => pure (some v)) Q E s := wpAny_bind (thn h fun _ _ z => wpAny_pure z)
  refine wpAny_holding (wpAny_bind (wpAny_bind (wpAny_bind (I.type.here ((PySem.W.looks_findIn X hs).here (wpAny_bind (wpAny_askSetting (wpAny_ite ?_))))))))
  split
  · exact wpAny_bind (wpAny_of_eq (F.cmp_object.ne.bind _) (wpAny_pure (by exact last)))
  · exact wpAny_tryCatch (wpAny_bind (wpAny_of_eq (F.cmp_object.ne.bind _) (wpAny_pure (by exact last))))
theorem ne_rich {Q : Value → Shared → Prop} {tb : Value} (hu : A.units + 1 < cLine) (X : K.In s.heap) (I : PySem.W.InstAt s.heap x ox C od) (hb : PySem.W.Looks (model prog w) s.heap (typeOf b) tb) (hn : PySem.W.notFirst K C tb = true) (hm : PySem.W.mroIn K C (.type "object") = some true)
    (hs : PySem.W.findIn K (.ref C) "__ne__" = some (some (.builtin "object.__ne__"))) (he : PySem.W.findIn K (.ref C) "__eq__" = some (some (.ref f))) (hf : PySem.W.isFn K (.ref f) = true)
    (h : wpAny (model prog w) A.in1 (call (.ref f) [.ref x, b]) (fun v s1 => ∃ r, v = .bool r ∧ Q (.bool !r) s1) E s) : wpAny (model prog w) A (richCompare .NotEq (.ref x) b) Q E s := by
  have one : wpAny (model prog w) A (tryCompare (.ref x) (cmpInfo .NotEq).2.1 b) (fun r s' => ∃ v, r = some v ∧ Q v s') E s := by
    show wpAny (model prog w) A (tryCompare (.ref x) "__ne__" b) _ E s
    unfold tryCompare
    refine wpAny_bind (ne_bound X I hs (ne_call (Q := fun v s1 => wpAny (model prog w) A _ (fun r s' => ∃ v, r = some v ∧ Q v s') E s1) hu X I hm he hf (thn h fun v s1 ⟨r, e, q⟩ => ⟨r, e, ?_⟩)))
    exact wpAny_pure ⟨_, rfl, q⟩
  unfold richCompare
  simp only [oneThing_ref]
  refine wpAny_holding (wpAny_bind (wpAny_cRoomFor (by omega) (wpAny_bind (I.type.here (wpAny_bind (hb.here ?_))))))
  have fin : ∀ {R : Option Value → Sem Value} , (∀ v s', Q v s' → wpAny (model prog w) A (R (some v)) Q E s') → wpAny (model prog w) A (tryCompare (.ref x) (cmpInfo .NotEq).2.1 b >>= R) Q E s := fun hR => wpAny_bind (thn one fun r s' ⟨v, e, q⟩ => by subst e; exact hR v s' q)
  split
  · rename_i q
    have e : PySem.W.subIn K tb (.ref C) = some false := by
      rcases Bool.or_eq_true_iff.mp hn with z | z
      · rw [beq_iff_eq.mp z] at q; simp at q
      · exact beq_iff_eq.mp z
    refine wpAny_bind ((PySem.W.looks_subIn X e).here ?_)
    simp only [Bool.false_eq_true, if_false]
    exact fin fun v s' q => wpAny_pure q
  · refine wpAny_bind (wpAny_pure ?_)
    simp only [Bool.false_eq_true, if_false]
    exact fin fun v s' q => wpAny_pure q
end
/-- what != asks of a class -/
structure NeC (K : PySem.W.Frag) (C : Addr) : Prop where
  ne : PySem.W.findIn K (.ref C) "__ne__" = some (some (.builtin "object.__ne__"))
  hm : PySem.W.mroIn K C (.type "object") = some true
section
variable {X : Cx} {CX : CXT} {k : Nat} {f C : Addr} {fd : FuncData} {ps : List Str} {sp : Sp} {dvs : List V} {ds : List Value} {E : XK}
def rNeOb (C : Addr) (sp : Sp) (dvs : List V) (E : XK) : R2 := fun x y H Q => rBinOb C (fun vs H Q' E => sp vs H (fun v H' => ∃ b, v = .bl b ∧ Q (.bl !b) H') E) dvs E x y H Q
theorem op_neG (c : DM X.K C "__eq__" f) (nc : NeC X.K C) (F : FnG X.prog X.w X.K X.mg X.base CX k f fd ps sp) (hr : RoomG (k + 1) X.A) (hb : Binds X.K fd ps ds) (hd : Vals dvs ds) (hx : Passes CX X E) :
    OpR X (compareOp .NotEq) (rNeOb C sp dvs E) := by
  intro pins s σ H x y v u Q I rx ry h
  obtain ⟨a, dx, fs, b, dy, gs, rfl, rfl, ha, hb2, q⟩ := h
  cases rx
  cases ry
  obtain ⟨ox, od, J⟩ := ins_inst I ha
  obtain ⟨oy, oe, J2⟩ := ins_inst I hb2
  have hu := hr.units
  refine ne_rich (tb := .ref C) (by omega) I.kIn J J2.type (by simp [PySem.W.notFirst]) nc.hm nc.ne c.at_ c.fn (thn (run_fnG1 (us := [.ref a, .ref b]) (vs := [.ref a, .ref b]) F hr hb hd hx I (.cons rfl (.cons rfl .nil)) q) fun w s' z => ?_)
  obtain ⟨z', H', I', rz, r, rfl, qz⟩ := z
  cases rz
  exact ⟨r, rfl, .bl !r, H', I', rfl, qz⟩
end
section
variable {W : Wd} {G : Gam} {T : Tms} {cs : Cells} {K : Sl → Cells → Prop} {ta tb : TE}
theorem e_neOb {ι α : Type} {C : Addr} {fl : α → List (Str × Sl)} {A : ι → List Sl} {m : ι → Option Bool} {E : XK}
    (ha : Ev ta W G T cs fun sa cs1 => ∀ va, Ev tb W G ((va, sa) :: T) cs1 fun sb cs2 => ∃ (x y : α) (i : ι) (b : Bool), sa = (rRec C fl).at x ∧ sb = (rRec C fl).at y ∧ m i = some b ∧ [sa, sb] = A i ∧ K (rBool.at (!b)) cs2) :
    Ev (tOp (rNeOb C (spM A (fun _ => []) m (fun _ b => rBool.at b) (fun _ _ => [])) [] E) ta tb) W G T cs K := fun s H st Q q => by
  refine ha s H st _ fun sa cs1 h1 va H1 st1 => ?_
  refine h1 va s H1 st1 _ fun sb cs2 ⟨x, y, i, b, e, e', hm, e1, k⟩ vb H2 ⟨F, c, sg, tm⟩ => ?_
  obtain ⟨p, dx, fs, ev, hF, hf⟩ : (rRec C fl).p y F vb := by
    have := tm.head
    rw [e'] at this
    exact this
  obtain ⟨p2, dx2, fs2, ev2, hF2, hf2⟩ : (rRec C fl).p x F va := by
    have := tm.tail.head
    rw [e] at this
    exact this
  refine ⟨p2, dx2, fs2, p, dx, fs, ev2, ev, c.fh _ _ hF2, c.fh _ _ hF, ?_⟩
  rw [List.append_nil]
  refine call_gives (G := G) (T := T) (rest := cs2) hm c sg tm.tail.tail (e1 ▸ .cons (ev2 ▸ tm.tail.head) (.cons (ev ▸ tm.head) .nil)) fun v H3 st3 => ⟨b, bool_top st3, ?_⟩
  exact q _ _ k _ H3 (st3.pop.push fun _ => rfl)
end
end ML

namespace ML
open PySem Spec PyProof.Rows L2
section
variable {nx bk ct : L2.St → Hp → Prop} {rt : VK}
variable {W : Wd} {G : Gam} {T : Tms} {cs : Cells} {K : Sl → Cells → Prop} {t ta tb : TE} {KF : PySem.W.Frag}
/-! ## a list and a list: a list that may change -/
theorem e_catLC (h0 : Ev ta W G T cs fun sa cs1 => ∀ va, Ev tb W G ((va, sa) :: T) cs1 fun sb cs2 => ∃ (α : Type) (r : R α) (xs ys zs : List α), sa = (rLst r).at xs ∧ sb = (rLst r).at ys ∧ oCat xs ys = some zs ∧ ∀ p, K (sRef p) (cs2 ++ [(p, cLst r zs)])) :
    Ev (tOp rCat ta tb) W G T cs K := fun s H st Q q => by
  refine h0 s H st _ fun sa cs1 h1 va H1 st1 => ?_
  refine h1 va s H1 st1 _ fun sb cs2 ⟨α, r, xs, ys, zs, e1, e2, hy, k⟩ vb H2 ⟨F, c, sg, tm⟩ => ?_
  subst e1 e2
  obtain ⟨z1, a, vs, rfl, hF, hA⟩ := tm.tail.head
  obtain ⟨z2, b, ws, rfl, hF2, hA2⟩ := tm.head
  obtain ⟨hl, e⟩ := of_ite hy
  subst e
  have l1 := hA.length
  have l2 := hA2.length
  exact ⟨a, b, vs, ws, rfl, rfl, c.fh _ _ hF, c.fh _ _ hF2, by omega, fun p hp => q _ _ (k p) _ _ ⟨F, c.newCell hp ⟨by rw [List.length_append]; exact hl, vs ++ ws, rfl, hA.app hA2⟩, sg, tm.tail.tail.cons rfl⟩⟩
/-! ## a list some times -/
theorem rep_small {α : Type} {xs : List α} {i : Int} (c2 : 1 ≤ i) (c3 : i ≤ 1000) (c4 : xs.length ≤ 1000) : (List.replicate i.toNat xs).flatten.length ≤ sizeLine := by
  rw [len_rep]
  have : i.toNat ≤ 1000 := by omega
  exact Nat.le_trans (Nat.mul_le_mul this c4) (by decide)
theorem e_repL (h0 : Ev ta W G T cs fun sa cs1 => ∀ va, Ev tb W G ((va, sa) :: T) cs1 fun sb cs2 => ∃ (α : Type) (r : R α) (xs ys : List α) (i : Int), sa = (rLst r).at xs ∧ sb = rInt.at i ∧ oRep xs i = some ys ∧ K ((rLst r).at ys) cs2) :
    Ev (tOp rRep ta tb) W G T cs K := fun s H st Q q => by
  refine h0 s H st _ fun sa cs1 h1 va H1 st1 => ?_
  refine h1 va s H1 st1 _ fun sb cs2 ⟨α, r, xs, ys, i, e1, e2, hy, k⟩ vb H2 ⟨F, c, sg, tm⟩ => ?_
  subst e1 e2
  obtain ⟨hz, a, vs, rfl, hF, hA⟩ := tm.tail.head
  have eb : vb = .int i := tm.head
  obtain ⟨⟨c1, c2, c3, c4⟩, e⟩ := of_ite hy
  subst e eb
  have hl := hA.length
  have hs := rep_small c2 c3 c4
  refine ⟨a, i, vs, rfl, rfl, c.fh _ _ hF, by omega, by omega, ?_, fun p hp => ?_⟩
  · rw [len_rep, Nat.mul_comm, hl] at hs
    exact hs
  · have sF : Same F (upd F p (.lst (List.replicate i.toNat vs).flatten)) := same_upd (c.fh.free hp)
    exact q _ _ k _ _ ⟨_, c.new hp, sg.mono sF, (tm.tail.tail.mono sF).cons ⟨hs, p, _, rfl, upd_same, (hA.rep _).imp fun _ _ z => r.mono sF z⟩⟩
/-! ## the greatest and the least of a list of numbers -/
theorem max_of {xs : List Int} {m n : Int} (h : xs.max? = some m) (h1 : n ∈ xs) (h2 : ∀ y, y ∈ xs → y ≤ n) : n = m := by
  have e := List.max?_eq_some_iff.mp h
  have := e.2 n h1
  have := h2 m e.1
  omega
theorem min_of {xs : List Int} {m n : Int} (h : xs.min? = some m) (h1 : n ∈ xs) (h2 : ∀ y, y ∈ xs → n ≤ y) : n = m := by
  have e := List.min?_eq_some_iff.mp h
  have := e.2 n h1
  have := h2 m e.1
  omega
theorem pos_of_max {xs : List Int} {m : Int} (h : xs.max? = some m) : 0 < xs.length := by
  cases xs with
  | nil => cases h
  | cons a l => exact Nat.zero_lt_succ _
theorem pos_of_min {xs : List Int} {m : Int} (h : xs.min? = some m) : 0 < xs.length := by
  cases xs with
  | nil => cases h
  | cons a l => exact Nat.zero_lt_succ _
theorem e_maxL {t : TA} (h : EvA t W G T cs fun sls cs1 => ∃ (xs : List Int) (m : Int), sls = [(rLst rInt).at xs] ∧ xs.max? = some m ∧ K (rInt.at m) cs1) : Ev (tCB (rMax KF) t) W G T cs K := fun s H st Q q => by
  refine h s H st _ fun sls cs1 ⟨xs, m, e, hm, k⟩ vs H1 ⟨F, c, sg, tm, ar⟩ => ?_
  subst e
  obtain ⟨v, rfl, hz, a, us, rfl, hF, hA⟩ := args1 ar
  exact ⟨a, xs, rfl, SqL.of (by rw [← all2_ints hA]; exact c.fh _ _ hF), pos_of_max hm, fun n h1 h2 => q _ _ k _ H1 ⟨F, c, sg, tm.cons (congrArg V.int (max_of hm h1 h2))⟩⟩
theorem e_minL {t : TA} (h : EvA t W G T cs fun sls cs1 => ∃ (xs : List Int) (m : Int), sls = [(rLst rInt).at xs] ∧ xs.min? = some m ∧ K (rInt.at m) cs1) : Ev (tCB (rMin KF) t) W G T cs K := fun s H st Q q => by
  refine h s H st _ fun sls cs1 ⟨xs, m, e, hm, k⟩ vs H1 ⟨F, c, sg, tm, ar⟩ => ?_
  subst e
  obtain ⟨v, rfl, hz, a, us, rfl, hF, hA⟩ := args1 ar
  exact ⟨a, xs, rfl, SqL.of (by rw [← all2_ints hA]; exact c.fh _ _ hF), pos_of_min hm, fun n h1 h2 => q _ _ k _ H1 ⟨F, c, sg, tm.cons (congrArg V.int (min_of hm h1 h2))⟩⟩
/-! ## cells that are left behind -/
theorem e_drop {te : TE} (h : Ev te W G T cs fun sl cs1 => ∃ cs2, cs2.Sublist cs1 ∧ K sl cs2) : Ev te W G T cs K := fun s H st Q q =>
  h s H st Q fun sl cs1 ⟨cs2, e, k⟩ v H' ⟨F, c, sg, t⟩ => q sl cs2 k v H' ⟨F, c.drop e, sg, t⟩
/-! ## a call by the names alone -/
def perm {α : Type} (π : List Nat) (l : List α) : List α := π.filterMap fun i => l[i]?
theorem perm_rel {π : List Nat} : ∀ {vs : List V} {us : List Value}, Vals vs us → Vals (perm π vs) (perm π us) := fun {vs us} r => by
  induction π with
  | nil => exact .nil
  | cons i π ih =>
    unfold perm at ih ⊢
    rw [List.filterMap_cons, List.filterMap_cons]
    cases e : vs[i]? with
    | none => rw [Vals.none_of r e]; exact ih
    | some v =>
      obtain ⟨u, h1, h2⟩ := Vals.get r e
      rw [h1]
      exact .cons h2 ih
theorem perm_args {F : Hp} {π : List Nat} : ∀ {sls : List Sl} {vs : List V}, Args F sls vs → Args F (perm π sls) (perm π vs) := fun {sls vs} r => by
  have ln : ∀ i, sls[i]? = none → vs[i]? = none := fun i e => by
    rw [List.getElem?_eq_none_iff] at e ⊢
    have := All2.length r
    omega
  induction π with
  | nil => exact .nil
  | cons i π ih =>
    unfold perm at ih ⊢
    rw [List.filterMap_cons, List.filterMap_cons]
    cases e : sls[i]? with
    | none => rw [ln i e]; exact ih
    | some v =>
      obtain ⟨u, h1, h2⟩ := All2.get r e
      rw [h1]
      exact .cons h2 ih
def NamesTo (KF : PySem.W.Frag) (fd : FuncData) (ps ks : List Str) (π : List Nat) : Prop :=
  ∀ (s : Shared) (us : List Value), us.length = ks.length → BindsTo s fd ⟨[], ks.zip us⟩ (ps.zip (perm π us))
def tNames (π : List Nat) (n : Nat) (t : TA) : TA := fun σ H Q => t σ H fun vs H1 => vs.length = n ∧ Q (perm π vs) H1
theorem ea_names {π : List Nat} {n : Nat} {t : TA} {K : List Sl → Cells → Prop} (h : EvA t W G T cs fun sls cs1 => sls.length = n ∧ K (perm π sls) cs1) : EvA (tNames π n t) W G T cs K := fun s H st Q q => by
  refine h s H st _ fun sls cs1 ⟨e, k⟩ vs H1 ⟨F, c, sg, tm, ar⟩ => ?_
  exact ⟨(All2.length ar).symm.trans e, q _ _ k _ _ ⟨F, c, sg, tm, perm_args ar⟩⟩
end
section
variable {X : Cx} {CX : CXT} {k : Nat} {f : Addr} {fd : FuncData} {ps ks : List Str} {sp : Sp} {E : XK} {x : Str} {p pos : Pos} {kws : List Keyword} {t : TA} {π : List Nat}
theorem pe_namesG (F : FnG X.prog X.w X.K X.mg X.base CX k f fd ps sp) (hr : RoomG k X.A) (hg : Gl X x) (hm : X.mg x = some (.ref f)) (kp : PySem.W.keepIn X.K (.ref f) = true) (hb : NamesTo X.K fd ps ks π) (hx : Passes CX X E) (hkw : PK X kws t)
    (hall : (backToKw pos (keywordEach kws X.env)).all (·.1.isSome) = true := by rfl) (hks : (backToKw pos (keywordEach kws X.env)).filterMap (·.1) = ks := by rfl)
    (h1 : (x == ("__debug__" : Str)) = false := by decide) (hpl : ((backTo pos (starEach [] X.env)).any (·.1) || (backToKw pos (keywordEach kws X.env)).any (·.1.isNone)) = false := by rfl) :
    PE X (.Call (.Name x p) [] kws pos) (tCall sp [] E (tNames π ks.length t)) := ⟨fun pins s σ H Q I h => by
  refine wpAny_Call_Name_kw (ld_glob I hg hm ?_ h1)
  refine PySem.W.callWith_KW0 (h₀ := X.base) I.ok.mod.kin kp hall (thn (hkw.run pos pins s σ H _ I h) fun us s1 ⟨vs, H1, I1, r, e, q⟩ => ⟨I1.kIn, ?_⟩) hpl
  rw [hks]
  dsimp only at q
  rw [List.append_nil] at q
  have r2 : Vals (perm π vs) (perm π us) := perm_rel r
  have run := F.go X.A X.stack s1 H1 ⟨[], ks.zip us⟩ _ _ Q E hr I1.env0 (hb s1 us (r.length.symm.trans e)) r2 q
  refine wpAny_call (codeAny_mono run fun r s' hq => ?_)
  match r, hq with
  | .error e, hq => exact hx pins σ H1 s1 e s' I1 hq
  | .ok (.ret u), hq => exact I1.after hq
  | .ok .next, hq => exact False.elim hq
  | .ok .brk, hq => exact False.elim hq
  | .ok .cont, hq => exact False.elim hq⟩
theorem names_mk {KF : PySem.W.Frag} {qual : Str} {st : Stmt} (F : Fun KF x qual st f fd)
    (h : ∀ (kV doc pm : Value) (an : Option Addr) (cdv ct : Value) (us : List Value), us.length = ks.length → bindArgs (PySem.W.fnOf x qual (defArgs st) (defBody st) (defScope st) .none kV doc pm an cdv ct) ⟨[], ks.zip us⟩ = pure (ps.zip (perm π us))) : NamesTo KF fd ps ks π := fun s us hl => by
  obtain ⟨oc, od, kV, doc, pm, an, cdv, ct, osl, rfl, lk, hcd⟩ := F.ex
  exact .of_eq (h kV doc pm an cdv ct us hl)
end
end ML

namespace ML
open PySem Spec PyProof.Rows L2
section
/-! ## a value or None: compared and shown as data -/
class Something (d : α → PyData) : Prop where
  no : ∀ x, PyData.eqv .none (d x) = false ∧ PyData.eqv (d x) .none = false
instance : Something eInt.d := ⟨fun x => by simp [eInt, PyData.eqv]⟩
instance {r : R α} {r' : R β} [DecidableEq α] [DecidableEq β] (e : REq r) (e' : REq r') : Something (ePair e e').d := ⟨fun x => by simp [ePair, PyData.eqv]⟩
instance {r : R α} [DecidableEq α] (e : REq r) : Something (eTup e).d := ⟨fun x => by simp [eTup, PyData.eqv]⟩
def dOpt (d : α → PyData) : Option α → PyData
  | none => .none
  | some x => d x
def eOpt {r : R α} [DecidableEq α] (e : REq r) [Something e.d] : REq (rOpt r) where
  d := dOpt e.d
  ok := fun {K F H a v} h s => by
    cases a with
    | none =>
      have e2 : v = .non := h
      subst e2
      exact Dp.non
    | some x => exact e.ok h s
  lay := fun x => by
    cases x with
    | none => simp [dOpt, PyData.canLay0]
    | some x => exact e.lay x
  n := e.n + 1
  dep := fun x => by
    cases x with
    | none => simp [dOpt, PyData.depth]
    | some x => exact Nat.le_succ_of_le (e.dep x)
  eqv := fun a b => by
    cases a with
    | none =>
      cases b with
      | none => simp [dOpt, PyData.eqv]
      | some y => simp [dOpt, (Something.no (d := e.d) y).1]
    | some x =>
      cases b with
      | none => simp [dOpt, (Something.no (d := e.d) x).2]
      | some y => simp [dOpt, e.eqv]
end
end ML

namespace ML
open PySem Spec PyProof.Rows L2 StX
/-! ### zip of three tuples -/
def ItzThree (K : PySem.W.Frag) (a b c : Addr) : It :=
  ⟨fun i H => ∃ (xs ys zs : List V) (x y z : V), SqT K H a xs ∧ SqT K H b ys ∧ SqT K H c zs ∧ xs[i]? = some x ∧ ys[i]? = some y ∧ zs[i]? = some z,
    fun i H v H' => ∃ T x y z, v = .ref T ∧ H T = none ∧ H' = upd H T (.tup [x, y, z]) ∧ (∀ xs, SqT K H a xs → xs[i]? = some x) ∧ (∀ ys, SqT K H b ys → ys[i]? = some y) ∧ ∀ zs, SqT K H c zs → zs[i]? = some z,
    fun i H => ∃ xs ys zs : List V, SqT K H a xs ∧ SqT K H b ys ∧ SqT K H c zs ∧ (i ≤ xs.length ∧ i ≤ ys.length ∧ i ≤ zs.length) ∧ (i = xs.length ∨ i = ys.length ∨ i = zs.length)⟩
theorem turn_three {P : Program} {w : World} {K : PySem.W.Frag} {elts : List Expr} {kk : Nat} {tpos : Pos} {a b c z TI TO i1 i2 i3 : Addr} (S : ZipSep3 z TI TO i1 i2 i3 [i1, a] [i2, b] [i3, c]) (na : a ≠ i1) (nb : b ≠ i2) (nc : c ≠ i3) :
    Turn P w K (.Tuple elts kk tpos) (ItzThree K a b c) [z, TI, TO, i1, i2, i3] z (fun i h => IsZip h z TI TO .none ∧ IsTupOf3 h TI (.ref i1) (.ref i2) (.ref i3) ∧ (∃ x y u, IsTupOf3 h TO x y u) ∧ h.IsTupleIter i1 a i ∧ h.IsTupleIter i2 b i ∧ h.IsTupleIter i3 c i) where
  mem := by simp
  obj := fun i h st d hd => by
    obtain ⟨hz, hTI, ⟨x, y, u, hTO⟩, ⟨o1, e1, _, d1⟩, ⟨o2, e2, _, d2⟩, ⟨o3, e3, _, d3⟩⟩ := st
    have e' : d = z ∨ d = TI ∨ d = TO ∨ d = i1 ∨ d = i2 ∨ d = i3 := by simpa using hd
    rcases e' with q | q | q | q | q | q
    · rw [q]; exact ⟨_, hz, fun v q => nomatch q⟩
    · rw [q]; exact ⟨_, hTI, fun v q => nomatch q⟩
    · rw [q]; exact ⟨_, hTO, fun v q => nomatch q⟩
    · rw [q]; exact ⟨o1, e1, fun v q => by rw [d1] at q; cases q⟩
    · rw [q]; exact ⟨o2, e2, fun v q => by rw [d2] at q; cases q⟩
    · rw [q]; exact ⟨o3, e3, fun v q => by rw [d3] at q; cases q⟩
  keep := fun i h h' st k => by
    obtain ⟨hz, hTI, ⟨x, y, u, hTO⟩, h1, h2, h3⟩ := st
    exact ⟨k z (by simp) _ hz, k TI (by simp) _ hTI, ⟨x, y, u, k TO (by simp) _ hTO⟩, h1.at fun o q => k i1 (by simp) o q, h2.at fun o q => k i2 (by simp) o q, h3.at fun o q => k i3 (by simp) o q⟩
  item := by
    intro X hP hw hK hc i pins s σ H E I hf st hg
    subst hP hw hK
    obtain ⟨hz, hTI, ⟨x0, y0, u0, hTO⟩, h1, h2, h3⟩ := st
    obtain ⟨xs, ys, zs, x, y, u, hqx, hqy, hqz, hx, hy, hu⟩ := hg
    obtain ⟨its, rv, p, _⟩ := I.tuple hqx
    obtain ⟨its2, rv2, p2, _⟩ := I.tuple hqy
    obtain ⟨its3, rv3, p3, _⟩ := I.tuple hqz
    obtain ⟨v1, hv1, ru1⟩ := rv.get hx
    obtain ⟨v2, hv2, ru2⟩ := rv2.get hy
    obtain ⟨v3, hv3, ru3⟩ := rv3.get hu
    have hzl : z < s.heap.objs.size := Heap.lt_size hz
    have D1 : Draws X.prog X.w X.A.in1 i1 [i1, a] its.toArray.size (fun i v => its.toArray[i]? = some v) (fun i h => h.IsTupleIter i1 a i ∧ h.IsTuple a its.toArray) := Draws.tuple (A := X.A.in1) (I.ok.hd hc) i1 a na its.toArray
    have D2 : Draws X.prog X.w X.A.in1 i2 [i2, b] its2.toArray.size (fun i v => its2.toArray[i]? = some v) (fun i h => h.IsTupleIter i2 b i ∧ h.IsTuple b its2.toArray) := Draws.tuple (A := X.A.in1) (I.ok.hd hc) i2 b nb its2.toArray
    have D3 : Draws X.prog X.w X.A.in1 i3 [i3, c] its3.toArray.size (fun i v => its3.toArray[i]? = some v) (fun i h => h.IsTupleIter i3 c i ∧ h.IsTuple c its3.toArray) := Draws.tuple (A := X.A.in1) (I.ok.hd hc) i3 c nc its3.toArray
    have l1 : i < its.toArray.size := by have := (List.getElem?_eq_some_iff.mp hv1).1; simpa using this
    have l2 : i < its2.toArray.size := by have := (List.getElem?_eq_some_iff.mp hv2).1; simpa using this
    have l3 : i < its3.toArray.size := by have := (List.getElem?_eq_some_iff.mp hv3).1; simpa using this
    refine wpAny_pyNext_zipD3_item S D1 D2 D3 hz hTI hTO ⟨h1, p⟩ ⟨h2, p2⟩ ⟨h3, p3⟩ l1 l2 l3 fun w1 w2 w3 h' tk y1 y2 y3 z' TO' s1 s2 s3 hT hsz hk => ?_
    have e1 : w1 = v1 := by
      have q : its[i]? = some w1 := by simpa using y1
      rw [hv1] at q
      exact (Option.some.inj q).symm
    have e2 : w2 = v2 := by
      have q : its2[i]? = some w2 := by simpa using y2
      rw [hv2] at q
      exact (Option.some.inj q).symm
    have e3 : w3 = v3 := by
      have q : its3[i]? = some w3 := by simpa using y3
      rw [hv3] at q
      exact (Option.some.inj q).symm
    subst e1 e2 e3
    refine ⟨_, rfl, wpAny_letOwnedTupleGo_zip (s := { s with heap := h', toks := tk }) z' fun h'' z'' sb => ?_⟩
    have hT2 : h''.get? s.heap.objs.size = some { cls := .type "tuple", data := .seq #[w1, w2, w3] } := (sb.2 _ (Nat.ne_of_gt hzl)).trans hT
    have new : ObjOk X.prog X.w (upd H s.heap.objs.size (.tup [x, y, u])) h'' s.heap.objs.size (.tup [x, y, u]) :=
      ⟨by show 3 ≤ sizeLine; decide, [w1, w2, w3], .cons ru1 (.cons ru2 (.cons ru3 .nil)), ⟨_, hT2, rfl, _, rfl⟩⟩
    have I1 : Inv X pins σ (upd H s.heap.objs.size (.tup [x, y, u])) { s with heap := h'', toks := tk } :=
      I.turnedNew (t' := tk) (ch := [z, TI, TO, i1, i2, i3]) (fun d o hb q => (sb.2 d (fun q' => hb (by simp [q']))).trans (hk d o (fun q' => hb (by simp [q'])) (fun q' => hb (by simp [q'])) (fun q' => hb (by simp [q'])) (fun q' => hb (by simp [q'])) (fun q' => hb (by simp [q'])) q)) hf (Nat.le_refl _) new
    refine ⟨.ref s.heap.objs.size, _, I1, rfl, ⟨_, x, y, u, rfl, I.hok.fresh (Nat.le_refl _), rfl, fun l hl => by rw [I.tuple_inj hl hqx]; exact hx, fun l hl => by rw [I.tuple_inj hl hqy]; exact hy, fun l hl => by rw [I.tuple_inj hl hqz]; exact hu⟩, ⟨z'', ?_, ⟨w1, w2, w3, ?_⟩, ?_, ?_, ?_⟩, fun d hdm => ?_⟩
    · exact (sb.2 _ S.TIz).trans (hk _ _ S.TIz S.TITO S.TIi1 S.TIi2 S.TIi3 hTI)
    · exact (sb.2 _ S.TOz).trans TO'
    · exact s1.1.at fun o q => (sb.2 _ S.zi1.symm).trans q
    · exact s2.1.at fun o q => (sb.2 _ S.zi2.symm).trans q
    · exact s3.1.at fun o q => (sb.2 _ S.zi3.symm).trans q
    · have hlt : d < s.heap.objs.size := by
        have e' : d = z ∨ d = TI ∨ d = TO ∨ d = i1 ∨ d = i2 ∨ d = i3 := by simpa using hdm
        rcases e' with q | q | q | q | q | q
        · rw [q]; exact hzl
        · rw [q]; exact Heap.lt_size hTI
        · rw [q]; exact Heap.lt_size hTO
        · rw [q]; obtain ⟨_, e1, _⟩ := h1; exact Heap.lt_size e1
        · rw [q]; obtain ⟨_, e2, _⟩ := h2; exact Heap.lt_size e2
        · rw [q]; obtain ⟨_, e3, _⟩ := h3; exact Heap.lt_size e3
      rw [upd_ne (Nat.ne_of_lt hlt)]
      exact (hf d hdm).1
  done := by
    intro X hP hw hK hc i pins s σ H E I hf st hg
    subst hP hw hK
    obtain ⟨hz, hTI, ⟨x0, y0, u0, hTO⟩, h1, h2, h3⟩ := st
    obtain ⟨xs, ys, zs, hqx, hqy, hqz, ⟨g1, g2, g3⟩, hend⟩ := hg
    obtain ⟨its, rv, p, _⟩ := I.tuple hqx
    obtain ⟨its2, rv2, p2, _⟩ := I.tuple hqy
    obtain ⟨its3, rv3, p3, _⟩ := I.tuple hqz
    have l1 := rv.length
    have l2 := rv2.length
    have l3 := rv3.length
    have D1 : Draws X.prog X.w X.A.in1 i1 [i1, a] its.toArray.size (fun i v => its.toArray[i]? = some v) (fun i h => h.IsTupleIter i1 a i ∧ h.IsTuple a its.toArray) := Draws.tuple (A := X.A.in1) (I.ok.hd hc) i1 a na its.toArray
    have D2 : Draws X.prog X.w X.A.in1 i2 [i2, b] its2.toArray.size (fun i v => its2.toArray[i]? = some v) (fun i h => h.IsTupleIter i2 b i ∧ h.IsTuple b its2.toArray) := Draws.tuple (A := X.A.in1) (I.ok.hd hc) i2 b nb its2.toArray
    have D3 : Draws X.prog X.w X.A.in1 i3 [i3, c] its3.toArray.size (fun i v => its3.toArray[i]? = some v) (fun i h => h.IsTupleIter i3 c i ∧ h.IsTuple c its3.toArray) := Draws.tuple (A := X.A.in1) (I.ok.hd hc) i3 c nc its3.toArray
    have k1 : its.toArray.size = its.length := by simp
    have k2 : its2.toArray.size = its2.length := by simp
    have k3 : its3.toArray.size = its3.length := by simp
    refine wpAny_pyNext_zipD3_end S D1 D2 D3 hz hTI hTO ⟨h1, p⟩ ⟨h2, p2⟩ ⟨h3, p3⟩ (by omega) (by omega) (by omega) (by omega) fun h' tk hk => ⟨rfl, I.turnedL (t' := tk) (ch := [z, TI, TO, i1, i2, i3]) (fun d o hb q =>
      hk d o (fun q' => hb (by simp [q'])) (fun q' => hb (by simp [q'])) (fun q' => hb (by simp [q'])) (fun q' => hb (by simp [q'])) (fun q' => hb (by simp [q'])) q) hf⟩
  self := fun A i s Q E st h => wpAny_pyIter_zip st.1 h
def iThree (K : PySem.W.Frag) (ta : TA) : TI := fun σ H R => ta σ H fun vs H1 => ∃ a b c xs ys zs, vs = [.ref a, .ref b, .ref c] ∧ SqT K H1 a xs ∧ SqT K H1 b ys ∧ SqT K H1 c zs ∧ R (ItzThree K a b c) H1
theorem pi_three {X : Cx} {e e2 e3 : Expr} {ta : TA} {p pos tpos : Pos} {elts : List Expr} {kk : Nat} (hg : Gl X "zip") (hm : X.mg "zip" = none) (ha : PA X [e, e2, e3] ta)
    (hs : starEach [e, e2, e3] X.env = (false, eval e X.env) :: starEach [e2, e3] X.env := by rfl) (hpl : (backTo pos (starEach [e2, e3] X.env)).any (·.1) = false := by rfl) :
    PI X (.Tuple elts kk tpos) (.Call (.Name "zip" p) [e, e2, e3] [] pos) (iThree X.K ta) := by
  refine ⟨fun pins s σ H R I h => ?_⟩
  refine Call_ (ld_blt I hg hm PyProof.Rows.boot_zip (PyProof.Rows.callWith_type1 (thn (ha.run pos pins s σ H _ I h) fun us s1 ⟨vs, H1, I1, r1, q1⟩ => ?_) hs hpl))
  obtain ⟨a, b, c, xs, ys, zs, ex, hqx, hqy, hqz, q⟩ := q1
  subst ex
  cases r1 with
  | cons r rr =>
    cases rr with
    | cons r' rr =>
      cases rr with
      | cons r'' rr =>
        cases rr
        cases r
        cases r'
        cases r''
        have fresh6 : ∀ d, d ∈ [s1.heap.objs.size + 5, s1.heap.objs.size + 3, s1.heap.objs.size + 4, s1.heap.objs.size, s1.heap.objs.size + 1, s1.heap.objs.size + 2] → FpOk X pins H1 d := fun d hdm => by
          have e' : d = s1.heap.objs.size + 5 ∨ d = s1.heap.objs.size + 3 ∨ d = s1.heap.objs.size + 4 ∨ d = s1.heap.objs.size ∨ d = s1.heap.objs.size + 1 ∨ d = s1.heap.objs.size + 2 := by simpa using hdm
          have hle : s1.heap.objs.size ≤ d := by
            rcases e' with z | z | z | z | z | z
            · rw [z]; exact Nat.le_add_right _ _
            · rw [z]; exact Nat.le_add_right _ _
            · rw [z]; exact Nat.le_add_right _ _
            · rw [z]; exact Nat.le_refl _
            · rw [z]; exact Nat.le_add_right _ _
            · rw [z]; exact Nat.le_add_right _ _
          exact I1.fpOk hle (I1.hok.fresh hle)
        obtain ⟨its, rv, p1, _⟩ := I1.tuple hqx
        obtain ⟨its2, rv2, p2, _⟩ := I1.tuple hqy
        obtain ⟨its3, rv3, p3, _⟩ := I1.tuple hqz
        obtain ⟨o1, ho1, _⟩ := id p1
        obtain ⟨o2, ho2, _⟩ := id p2
        obtain ⟨o3, ho3, _⟩ := id p3
        have la := Heap.lt_size ho1
        have lb := Heap.lt_size ho2
        have lc := Heap.lt_size ho3
        refine zip_begins3 (begins_tuple a its.toArray) (begins_tuple b its2.toArray) (begins_tuple c its3.toArray) (show s1.heap.IsTuple a its.toArray from p1) (show s1.heap.IsTuple b its2.toArray from p2) (show s1.heap.IsTuple c its3.toArray from p3) fun h' hz hTI hTO h1 h2 h3 hsz hk => wpAny_pyIter_zip hz ?_
        have I2 : Inv X pins σ H1 { s1 with heap := h' } := I1.kept (t' := s1.toks) hk
        have S := zip_sep3 (N := s1.heap.objs.size) (fp1 := [a]) (fp2 := [b]) (fp3 := [c]) (fun d hd => by rw [List.mem_singleton.mp hd]; exact la) (fun d hd => by rw [List.mem_singleton.mp hd]; exact lb) (fun d hd => by rw [List.mem_singleton.mp hd]; exact lc)
        exact ⟨s1.heap.objs.size + 5, [s1.heap.objs.size + 5, s1.heap.objs.size + 3, s1.heap.objs.size + 4, s1.heap.objs.size, s1.heap.objs.size + 1, s1.heap.objs.size + 2], _, _, H1, rfl, I2,
          turn_three S (Nat.ne_of_lt la) (Nat.ne_of_lt (Nat.lt_of_lt_of_le lb (Nat.le_add_right _ _))) (Nat.ne_of_lt (Nat.lt_of_lt_of_le lc (Nat.le_add_right _ _))), ⟨hz, hTI, ⟨_, _, _, hTO⟩, ⟨_, h1, rfl, rfl⟩, ⟨_, h2, rfl, rfl⟩, ⟨_, h3, rfl, rfl⟩⟩, fresh6, q⟩
section
variable {W : Wd} {G : Gam} {T : Tms} {cs : Cells} {t : TA} {KF : PySem.W.Frag}
/-- a tuple of three -/
def rThree {α β γ : Type} (r : R α) (q : R β) (o : R γ) : R (α × β × γ) := ⟨fun x F v => ∃ a u w z, v = .ref a ∧ F a = some (.tup [u, w, z]) ∧ r.p x.1 F u ∧ q.p x.2.1 F w ∧ o.p x.2.2 F z,
  fun {x} _ _ _ e ⟨a, u, w, z, h1, h2, h3, h4, h5⟩ => ⟨a, u, w, z, h1, e _ _ h2, r.mono e h3, q.mono e h4, o.mono e h5⟩⟩
theorem g_three {i j l : Nat} {r : R α} {q : R β} {o : R γ} {x : α × β × γ} {K : Gam → Prop} (k : K (((G.set i (some (r.at x.1))).set j (some (q.at x.2.1))).set l (some (o.at x.2.2)))) :
    Tg (gTup KF 3 (gCons (gName i) (gCons (gName j) (gCons (gName l) gNil)))) [i, j, l] W G T cs ((rThree r q o).at x) K := fun v s H ⟨F, c, sg, t⟩ Q k' => by
  obtain ⟨a, u, w, z, h1, h2, h3, h4, h5⟩ := t.head
  refine ⟨a, [u, w, z], h1, SqT.of (c.fh _ _ h2), rfl, u, [w, z], rfl, w, [z], rfl, z, [], rfl, rfl, ?_⟩
  refine k' _ k _ ⟨F, c, ((sg.set h3).set h4).set h5, t.tail⟩ fun vs h => ?_
  rw [wipe_set _ l _ vs (h l (by simp)), wipe_set _ j _ vs (h j (by simp)), wipe_set _ i _ vs (h i (by simp))]
theorem wk_three {r : R α} {q : R β} {o : R γ} {xs : List α} {ys : List β} {zs : List γ} {a b c : Addr} {B : Hp} : Wk (ItzThree KF a b c) ⟨W.F, B⟩ [(V.ref a, (rTup r).at xs), (V.ref b, (rTup q).at ys), (V.ref c, (rTup o).at zs)] ((xs.zip (ys.zip zs)).map (rThree r q o).at) := by
  have get : ∀ (F : Hp), Temps F [(V.ref a, (rTup r).at xs), (V.ref b, (rTup q).at ys), (V.ref c, (rTup o).at zs)] → ∃ us ws ts, F a = some (.tup us) ∧ F b = some (.tup ws) ∧ F c = some (.tup ts) ∧ All2 (fun x u => r.p x F u) xs us ∧ All2 (fun x u => q.p x F u) ys ws ∧ All2 (fun x u => o.p x F u) zs ts := fun F t => by
    obtain ⟨_, a', us, e, h1, h2⟩ := t.head
    obtain ⟨_, b', ws, e', h1', h2'⟩ := t.tail.head
    obtain ⟨_, c', ts, e'', h1'', h2''⟩ := t.tail.tail.head
    cases e; cases e'; cases e''
    exact ⟨us, ws, ts, h1, h1', h1'', h2, h2', h2''⟩
  refine ⟨fun i F H cs hi c t => ?_, fun i F H cs x H' sl hi c t y => ?_, fun F H cs c t => ?_⟩
  · obtain ⟨us, ws, ts, h1, h2, h3, h4, h5, h6⟩ := get F t
    rw [List.length_map, List.length_zip, List.length_zip] at hi
    obtain ⟨u, hu, _⟩ := h4.get (List.getElem?_eq_getElem (show i < xs.length by omega))
    obtain ⟨w, hw, _⟩ := h5.get (List.getElem?_eq_getElem (show i < ys.length by omega))
    obtain ⟨z, hz, _⟩ := h6.get (List.getElem?_eq_getElem (show i < zs.length by omega))
    exact ⟨us, ws, ts, u, w, z, SqT.of (c.fh _ _ h1), SqT.of (c.fh _ _ h2), SqT.of (c.fh _ _ h3), hu, hw, hz⟩
  · obtain ⟨us, ws, ts, h1, h2, h3, h4, h5, h6⟩ := get F t
    obtain ⟨T, x', y', z', rfl, hT, rfl, f1, f2, f3⟩ := y
    obtain ⟨m, hm, pm⟩ := h4.get' (f1 us (SqT.of (c.fh _ _ h1)))
    obtain ⟨m2, hm2, pm2⟩ := h5.get' (f2 ws (SqT.of (c.fh _ _ h2)))
    obtain ⟨m3, hm3, pm3⟩ := h6.get' (f3 ts (SqT.of (c.fh _ _ h3)))
    have sF : Same F (upd F T (.tup [x', y', z'])) := same_upd (c.fh.free hT)
    rw [List.getElem?_map, (List.getElem?_zip_eq_some (z := (m, m2, m3))).mpr ⟨hm, (List.getElem?_zip_eq_some (z := (m2, m3))).mpr ⟨hm2, hm3⟩⟩] at hi
    cases hi
    exact ⟨_, c.new hT, sF, T, x', y', z', rfl, upd_same, r.mono sF pm, q.mono sF pm2, o.mono sF pm3⟩
  · obtain ⟨us, ws, ts, h1, h2, h3, h4, h5, h6⟩ := get F t
    have := h4.length
    have := h5.length
    have := h6.length
    refine ⟨us, ws, ts, SqT.of (c.fh _ _ h1), SqT.of (c.fh _ _ h2), SqT.of (c.fh _ _ h3), ?_⟩
    rw [List.length_map, List.length_zip, List.length_zip]
    omega
theorem i_three {KI : List Sl → Cells → Prop} (h : EvA t W G T cs fun sls cs1 => ∃ (α β γ : Type) (r : R α) (q : R β) (o : R γ) (xs : List α) (ys : List β) (zs : List γ), sls = [(rTup r).at xs, (rTup q).at ys, (rTup o).at zs] ∧ KI ((xs.zip (ys.zip zs)).map (rThree r q o).at) cs1) : EvI (iThree KF t) W G T cs KI := fun s H st R k => by
  refine h s H st _ fun sls cs1 ⟨α, β, γ, r, q, o, xs, ys, zs, e, ki⟩ vs H1 ⟨F, c, sg, tm, ar⟩ => ?_
  subst e
  match vs, ar with
  | [v, w, y], .cons p1 (.cons p2 (.cons p3 .nil)) =>
    obtain ⟨hz, a, us, rfl, hF, hA⟩ := id p1
    obtain ⟨hz2, b, ws, rfl, hF2, hA2⟩ := id p2
    obtain ⟨hz3, d, ts, rfl, hF3, hA3⟩ := id p3
    exact ⟨a, b, d, us, ws, ts, rfl, SqT.of (c.fh _ _ hF), SqT.of (c.fh _ _ hF2), SqT.of (c.fh _ _ hF3), k _ _ _ cs1 ki (by rw [List.length_map, List.length_zip, List.length_zip]; omega) (fun B => wk_three) H1 ⟨F, c, sg, Temps.app (Temps.cons p1 (Temps.cons p2 (Temps.cons p3 Temps.nil))) tm⟩⟩
end
end ML

namespace ML
open PySem Spec PyProof.Rows L2
section
open PySem.W
variable {prog : Program} {w : World} {A : Around} {E : Value → Shared → Prop} {s : Shared}
/-- max of a list of data: where the item stands -/
theorem most_at {l : Addr} {vs : Array Value} {x : PyData} {xs : List PyData} {as : List Addr} {Q : Value → Shared → Prop} (hh : A.handled = none) (hl : s.heap.IsList l vs) (hr : ReadsAll s.heap vs.toList (x :: xs) as) (ha : AlikeAll (x :: xs)) (hu : A.units + 1 + PyData.depthAll (x :: xs) < cLine)
    (h : ∀ (i : Nat) v h' tk, vs[i]? = some v → (x :: xs).getD i .none = maxD x xs → (∀ b o, s.heap.get? b = some o → h'.get? b = some o) → Q v { s with heap := h', toks := tk }) :
    wpAny (model prog w) A (call (.builtin "max") [.ref l]) Q E s := by
  have len : vs.size = xs.length + 1 := readsAll_len hr
  refine call_max_walkH (iter_listW (A := A.in1) hh hl fun s2 e W st hfp hw hk => ?_)
  refine ⟨_, _, _, _, _, _, _, s.heap, _, rfl, W, st, hfp, by omega, hw, hk, cmpIn_gt (A := A.in1) hr ha (by show A.units + 1 + _ < _; exact hu), fun v s' at_ m => ?_⟩
  obtain ⟨h', tk, rfl, hk'⟩ := moved_old e rfl m
  have far := (argBest_fold (fun a b => dataLt b a) PyData.none x xs xs.length (Nat.le_refl _)).2
  rw [List.take_length] at far
  have last : vs.size - 1 = xs.length := by omega
  refine h _ v h' tk at_ ?_ hk'
  rw [last]
  exact far
theorem most_at_t {l : Addr} {vs : Array Value} {x : PyData} {xs : List PyData} {as : List Addr} {Q : Value → Shared → Prop} (hh : A.handled = none) (hl : s.heap.IsTuple l vs) (hr : ReadsAll s.heap vs.toList (x :: xs) as) (ha : AlikeAll (x :: xs)) (hu : A.units + 1 + PyData.depthAll (x :: xs) < cLine)
    (h : ∀ (i : Nat) v h' tk, vs[i]? = some v → (x :: xs).getD i .none = maxD x xs → (∀ b o, s.heap.get? b = some o → h'.get? b = some o) → Q v { s with heap := h', toks := tk }) :
    wpAny (model prog w) A (call (.builtin "max") [.ref l]) Q E s := by
  have len : vs.size = xs.length + 1 := readsAll_len hr
  refine call_max_walkH (iter_tupleW (A := A.in1) hh hl fun s2 e W st hfp hw hk => ?_)
  refine ⟨_, _, _, _, _, _, _, s.heap, _, rfl, W, st, hfp, by omega, hw, hk, cmpIn_gt (A := A.in1) hr ha (by show A.units + 1 + _ < _; exact hu), fun v s' at_ m => ?_⟩
  obtain ⟨h', tk, rfl, hk'⟩ := moved_old e rfl m
  have far := (argBest_fold (fun a b => dataLt b a) PyData.none x xs xs.length (Nat.le_refl _)).2
  rw [List.take_length] at far
  have last : vs.size - 1 = xs.length := by omega
  refine h _ v h' tk at_ ?_ hk'
  rw [last]
  exact far
end
def rMost (K : PySem.W.Frag) : List V → Hp → VK → Prop := fun vs H Q => ∃ (a : Addr) (us : List V) (d : PyData) (ds : List PyData), vs = [V.ref a] ∧ (SqL K H a us ∨ SqT K H a us) ∧ DpAll K H us (d :: ds) ∧ PySem.W.AlikeAll (d :: ds) ∧ PyData.depthAll (d :: ds) ≤ 60 ∧
  ∀ i u, us[i]? = some u → (d :: ds).getD i .none = PySem.W.maxD d ds → Q u H
theorem cr_most {X : Cx} {k : Nat} (hr : RoomG k X.A) (hc : X.calm = true) : CallR X (.builtin "max") (rMost X.K) := by
  intro pins s σ H vs us Q I r h
  obtain ⟨a, ws, d, ds, rfl, hs, hd, hal, hn, q⟩ := h
  have hu := hr.units
  rw [Vals.ref1 r]
  rcases hs with hs | hs
  · obtain ⟨its, rv, hl, _⟩ := I.list hs
    obtain ⟨as, ra⟩ := Dp.readsAll I _ _ its hd rv
    refine most_at (I.ok.hd hc) hl.isList ra hal (by omega) fun i v h' tk hv e hk => ?_
    have hv' : its[i]? = some v := by simpa using hv
    obtain ⟨u, hu', ru⟩ : ∃ u, ws[i]? = some u ∧ RelV u v := by
      cases e2 : ws[i]? with
      | none => rw [Vals.none_of rv e2] at hv'; cases hv'
      | some u =>
        obtain ⟨y, h1, h2⟩ := Vals.get rv e2
        rw [hv'] at h1
        cases h1
        exact ⟨u, rfl, h2⟩
    exact ⟨u, H, I.kept hk, ru, q i u hu' e⟩
  · obtain ⟨its, rv, hl, _⟩ := I.tuple hs
    obtain ⟨as, ra⟩ := Dp.readsAll I _ _ its hd rv
    refine most_at_t (I.ok.hd hc) (show s.heap.IsTuple a its.toArray from hl) ra hal (by omega) fun i v h' tk hv e hk => ?_
    have hv' : its[i]? = some v := by simpa using hv
    obtain ⟨u, hu', ru⟩ : ∃ u, ws[i]? = some u ∧ RelV u v := by
      cases e2 : ws[i]? with
      | none => rw [Vals.none_of rv e2] at hv'; cases hv'
      | some u =>
        obtain ⟨y, h1, h2⟩ := Vals.get rv e2
        rw [hv'] at h1
        cases h1
        exact ⟨u, rfl, h2⟩
    exact ⟨u, H, I.kept hk, ru, q i u hu' e⟩
section
variable {W : Wd} {G : Gam} {T : Tms} {cs : Cells} {K : Sl → Cells → Prop} {KF : PySem.W.Frag} {t : TA}
def AlikeOk (ds : List PyData) : Bool := ds.all fun x => ds.all (fun y => PySem.W.alike x y) && (match x with | .none => false | _ => true)
theorem AlikeOk.all {ds : List PyData} (h : AlikeOk ds = true) : PySem.W.AlikeAll ds := by
  unfold AlikeOk at h
  rw [List.all_eq_true] at h
  refine ⟨fun x hx y hy => ?_, fun x hx e => ?_⟩
  · have := h x hx
    rw [Bool.and_eq_true, List.all_eq_true] at this
    exact this.1 y hy
  · have := h x hx
    subst e
    rw [Bool.and_eq_true] at this
    cases this.2
/-- the greatest of some -/
def oMost (d : α → PyData) : List α → Option α
  | [] => none
  | x :: xs => if AlikeOk ((x :: xs).map d) = true then some (xs.foldl (fun a y => if PySem.W.dataLt (d a) (d y) then y else a) x) else none
theorem fold_most (d : α → PyData) : ∀ (xs : List α) (x : α), PySem.W.maxD (d x) (xs.map d) = d (xs.foldl (fun a y => if PySem.W.dataLt (d a) (d y) then y else a) x)
  | [], _ => rfl
  | y :: ys, x => by
    have ih := fold_most d ys (if PySem.W.dataLt (d x) (d y) then y else x)
    unfold PySem.W.maxD at ih ⊢
    rw [List.map_cons, List.foldl_cons, List.foldl_cons, ← ih]
    congr 1
    split <;> rfl
theorem REq.inj {r : R α} [DecidableEq α] (e : REq r) {a b : α} (h : e.d a = e.d b) : a = b := by
  have h1 := e.eqv a a
  rw [decide_eq_true rfl] at h1
  have h2 := e.eqv a b
  rw [← h, h1] at h2
  exact of_decide_eq_true h2.symm
theorem deep_all {r : R α} [DecidableEq α] (e : REq r) : ∀ xs : List α, PyData.depthAll (xs.map e.d) ≤ e.n
  | [] => Nat.zero_le _
  | x :: xs => by
    have h1 := deep_all e xs
    have h2 := e.dep x
    rw [List.map_cons, PyData.depthAll]
    omega
theorem most_go {r : R α} [DecidableEq α] (e : REq r) {xs : List α} {m : α} (hn : e.n ≤ 60) (ho : oMost e.d xs = some m) {F H : Hp} {a : Addr} {us : List V} (sF : Same F H) (hs : SqL KF H a us ∨ SqT KF H a us) (hA : All2 (fun x u => r.p x F u) xs us) {Q : VK}
    (q : ∀ u, r.p m F u → Q u H) : rMost KF [V.ref a] H Q := by
  cases xs with
  | nil => cases ho
  | cons x xs =>
    unfold oMost at ho
    obtain ⟨hal, em⟩ := of_ite ho
    refine ⟨a, us, e.d x, xs.map e.d, rfl, hs, dpAll e sF hA, AlikeOk.all hal, Nat.le_trans (deep_all e (x :: xs)) hn, fun i u hi ei => ?_⟩
    obtain ⟨y, hy, py⟩ := hA.get' hi
    have e1 : (e.d x :: xs.map e.d).getD i .none = e.d y := by
      rw [List.getD_eq_getElem?_getD, ← List.map_cons, List.getElem?_map, hy]
      rfl
    rw [e1, fold_most] at ei
    have := e.inj ei
    rw [← em] at this
    subst this
    exact q u py
theorem e_mostL (h : EvA t W G T cs fun sls cs1 => ∃ (α : Type) (_ : DecidableEq α) (r : R α) (e : REq r) (xs : List α) (m : α), sls = [(rLst r).at xs] ∧ e.n ≤ 60 ∧ oMost e.d xs = some m ∧ K (r.at m) cs1) : Ev (tCB (rMost KF) t) W G T cs K := fun s H st Q q => by
  refine h s H st _ fun sls cs1 ⟨α, _, r, e, xs, m, es, hn, ho, k⟩ vs H1 ⟨F, c, sg, tm, ar⟩ => ?_
  subst es
  obtain ⟨v, rfl, hz, a, us, rfl, hF, hA⟩ := args1 ar
  exact most_go e hn ho c.fh (.inl (SqL.of (c.fh _ _ hF))) hA fun u hu => q _ _ k _ H1 ⟨F, c, sg, tm.cons hu⟩
theorem e_mostT (h : EvA t W G T cs fun sls cs1 => ∃ (α : Type) (_ : DecidableEq α) (r : R α) (e : REq r) (xs : List α) (m : α), sls = [(rTup r).at xs] ∧ e.n ≤ 60 ∧ oMost e.d xs = some m ∧ K (r.at m) cs1) : Ev (tCB (rMost KF) t) W G T cs K := fun s H st Q q => by
  refine h s H st _ fun sls cs1 ⟨α, _, r, e, xs, m, es, hn, ho, k⟩ vs H1 ⟨F, c, sg, tm, ar⟩ => ?_
  subst es
  obtain ⟨v, rfl, hz, a, us, rfl, hF, hA⟩ := args1 ar
  exact most_go e hn ho c.fh (.inr (SqT.of (c.fh _ _ hF))) hA fun u hu => q _ _ k _ H1 ⟨F, c, sg, tm.cons hu⟩
/-- list(tuple), as a value -/
theorem e_listV (h : EvA t W G T cs fun sls cs1 => ∃ (α : Type) (r : R α) (xs : List α), sls = [(rTup r).at xs] ∧ K ((rLst r).at xs) cs1) : Ev (tCB (rListOf KF) t) W G T cs K := fun s H st Q q => by
  refine h s H st _ fun sls cs1 ⟨α, r, xs, e, k⟩ vs H1 ⟨F, c, sg, tm, ar⟩ => ?_
  subst e
  obtain ⟨v, rfl, hz, a, us, rfl, hF, hA⟩ := args1 ar
  refine ⟨a, us, rfl, .inr (SqT.of (c.fh _ _ hF)), fun l hl => ?_⟩
  have sF : Same F (upd F l (.lst us)) := same_upd (c.fh.free hl)
  exact q _ _ k _ _ ⟨_, c.new hl, sg.mono sF, (tm.mono sF).cons ⟨hz, l, us, rfl, upd_same, hA.imp fun _ _ z => r.mono sF z⟩⟩
end
end ML

namespace ML
open PySem Spec PyProof.Rows L2
/-! ### sorted(list of data) -/
def SortOk (ds : List PyData) : Bool := (ds.all fun x => ds.all fun y => PySem.W.alike x y) && ((ds.all fun x => match x with | .tuple (_ :: _) => true | _ => false) || (ds.all fun x => match x with | .none => false | .tuple _ => false | _ => true))
theorem SortOk.alike {ds : List PyData} (h : SortOk ds = true) : PySem.W.AllAlike ds := fun x hx y hy => by
  unfold SortOk at h
  rw [Bool.and_eq_true, List.all_eq_true] at h
  have := h.1 x hx
  rw [List.all_eq_true] at this
  exact this y hy
theorem SortOk.able {ds : List PyData} (h : SortOk ds = true) : PySem.W.Sortable ds := by
  unfold SortOk at h
  rw [Bool.and_eq_true, Bool.or_eq_true] at h
  rcases h.2 with h | h
  · refine .inl fun d hd => ?_
    have := (List.all_eq_true.mp h) d hd
    revert this
    cases d with
    | tuple xs =>
      cases xs with
      | nil => intro z; cases z
      | cons x r => exact fun _ => ⟨x, r, rfl⟩
    | none => intro z; cases z
    | bool _ => intro z; cases z
    | int _ => intro z; cases z
    | str _ => intro z; cases z
    | list _ => intro z; cases z
    | dict _ => intro z; cases z
  · refine .inr fun d hd => ?_
    have := (List.all_eq_true.mp h) d hd
    refine ⟨fun e => ?_, fun xs e => ?_⟩
    · subst e; cases this
    · subst e; cases this
def rSortG (K : PySem.W.Frag) : List V → Hp → VK → Prop := fun vs H Q => ∃ (α : Type) (a : Addr) (us : List V) (bs : List α) (d : α → PyData), vs = [V.ref a] ∧ SqL K H a us ∧ DpAll K H us (bs.map d) ∧ SortOk (bs.map d) = true ∧ (∀ b ∈ bs, (d b).depth ≤ 60) ∧ bs.length ≤ sizeLine ∧
  ∀ (ws : List V) (p : Addr), All2 (fun b u => (u, b) ∈ us.zip bs) (bs.mergeSort (PySem.W.dataLe false d)) ws → H p = none → Q (.ref p) (upd H p (.lst ws))
theorem DpAll.len {K : PySem.W.Frag} {H : Hp} : ∀ {us : List V} {ds : List PyData}, DpAll K H us ds → us.length = ds.length
  | _, _, .nil => rfl
  | _, _, .cons _ t => by rw [List.length_cons, List.length_cons, DpAll.len t]
theorem each_of {X : Cx} {pins : List (Addr × Obj)} {σ : L2.St} {H : Hp} {s : Shared} (I : Inv X pins σ H s) {α : Type} {d : α → PyData} : ∀ {us : List V} {its : List Value} {bs : List α}, Vals us its → DpAll X.K H us (bs.map d) →
    PySem.W.EachIs (fun v b => ∃ u, (u, b) ∈ us.zip bs ∧ RelV u v) its bs ∧ PySem.W.EachIs (fun v b => ∃ as, Reads s.heap v (d b) as) its bs
  | [], _, [], .nil, _ => ⟨.nil, .nil⟩
  | [], _, b :: bs, .nil, h => by cases h
  | u :: us, _, [], .cons _ _, h => by cases h
  | u :: us, _, b :: bs, .cons r rs, h => by
    cases h with
    | cons h1 h2 =>
      obtain ⟨a, c⟩ := each_of I rs h2
      refine ⟨.cons ⟨u, by rw [List.zip_cons_cons]; exact List.mem_cons_self, r⟩ (a.mono fun v b ⟨u, hm, hr⟩ => ⟨u, by rw [List.zip_cons_cons]; exact List.mem_cons_of_mem _ hm, hr⟩), .cons (Dp.reads I _ _ _ h1 r) c⟩
theorem vals_each {α : Type} {P : V → α → Prop} : ∀ {out : List Value} {bs : List α}, PySem.W.EachIs (fun v b => ∃ u, P u b ∧ RelV u v) out bs → ∃ ws, Vals ws out ∧ All2 (fun b u => P u b) bs ws
  | _, _, .nil => ⟨[], .nil, .nil⟩
  | _, _, .cons ⟨u, hp, hr⟩ t => by
    obtain ⟨ws, a, c⟩ := vals_each t
    exact ⟨u :: ws, .cons hr a, .cons hp c⟩
theorem cr_sortG {X : Cx} {k : Nat} (hr : RoomG k X.A) : CallR X (.builtin "sorted") (rSortG X.K) := by
  intro pins s σ H vs us Q I r h
  obtain ⟨α, a, ws, bs, d, rfl, hs, hd, hok, hdep, hz, q⟩ := h
  have hu := hr.units
  rw [Vals.ref1 r]
  obtain ⟨its, rv, hl, _⟩ := I.list hs
  obtain ⟨e1, e2⟩ := each_of I rv hd
  refine PySem.W.sorted_data hl.isList e1 e2 (SortOk.alike hok) (SortOk.able hok) hz (fun b hb => by have := hdep b hb; omega) fun out hlo eo => ?_
  obtain ⟨zs, v1, v2⟩ := vals_each eo
  obtain ⟨ep, he'⟩ := PyProof.Rows.sortedAll_at s.heap its out.toArray
  have hlen : zs.length ≤ sizeLine := by rw [v1.length, hlo]; exact hz
  exact ⟨.ref _, upd H (s.heap.objs.size + 1) (.lst zs), I.laid (t' := s.toks) (fun _ _ => PyProof.Rows.sortedAll_old) (Nat.le_succ _) ⟨hlen, out, ep, v1, he'⟩, rfl, q zs _ v2 (I.hok.fresh (Nat.le_succ _))⟩
section
variable {W : Wd} {G : Gam} {T : Tms} {cs : Cells} {K : Sl → Cells → Prop} {KF : PySem.W.Frag} {t : TA} {ta tb : TE}
def oSorted (d : α → PyData) (xs : List α) : Option (List α) := if SortOk (xs.map d) = true ∧ xs.length ≤ sizeLine then some (xs.mergeSort (PySem.W.dataLe false d)) else none
theorem zip_rel {α : Type} {P : α → V → Prop} : ∀ {bs : List α} {us : List V}, All2 P bs us → ∀ u b, (u, b) ∈ us.zip bs → P b u
  | _, _, .nil, u, b, h => by cases h
  | _, _, .cons p q, u, b, h => by
    rw [List.zip_cons_cons] at h
    rcases List.mem_cons.mp h with e | e
    · cases e; exact p
    · exact zip_rel q u b e
theorem e_sorted (h : EvA t W G T cs fun sls cs1 => ∃ (α : Type) (_ : DecidableEq α) (r : R α) (e : REq r) (xs ys : List α), sls = [(rLst r).at xs] ∧ e.n ≤ 60 ∧ oSorted e.d xs = some ys ∧ K ((rLst r).at ys) cs1) : Ev (tCB (rSortG KF) t) W G T cs K := fun s H st Q q => by
  refine h s H st _ fun sls cs1 ⟨α, _, r, e, xs, ys, es, hn, ho, k⟩ vs H1 ⟨F, c, sg, tm, ar⟩ => ?_
  subst es
  obtain ⟨v, rfl, hz, a, us, rfl, hF, hA⟩ := args1 ar
  obtain ⟨⟨hok, hle⟩, ey⟩ := of_ite ho
  refine ⟨α, a, us, xs, e.d, rfl, SqL.of (c.fh _ _ hF), dpAll e c.fh hA, hok, fun b _ => Nat.le_trans (e.dep b) hn, hle, fun ws p hw hp => ?_⟩
  rw [← ey] at hw
  have sF : Same F (upd F p (.lst ws)) := same_upd (c.fh.free hp)
  have hl : ys.length ≤ sizeLine := by rw [ey, List.length_mergeSort]; exact hle
  exact q _ _ k _ _ ⟨_, c.new hp, sg.mono sF, (tm.mono sF).cons ⟨hl, p, ws, rfl, upd_same, hw.imp fun b u hm => r.mono sF (zip_rel hA u b hm)⟩⟩
/-! ### a list some times, or no time -/
def oRepZ (xs : List α) (k : Int) : Option (List α) := if 0 ≤ k ∧ k ≤ 1000 ∧ xs.length ≤ 1000 then some (List.replicate k.toNat xs).flatten else none
theorem repz_small {α : Type} {xs : List α} {i : Int} (c3 : i ≤ 1000) (c4 : xs.length ≤ 1000) : (List.replicate i.toNat xs).flatten.length ≤ sizeLine := by
  rw [len_rep]
  have : i.toNat ≤ 1000 := by omega
  exact Nat.le_trans (Nat.mul_le_mul this c4) (by decide)
theorem e_repZ (h0 : Ev ta W G T cs fun sa cs1 => ∀ va, Ev tb W G ((va, sa) :: T) cs1 fun sb cs2 => ∃ (α : Type) (r : R α) (xs ys : List α) (i : Int), sa = (rLst r).at xs ∧ sb = rInt.at i ∧ oRepZ xs i = some ys ∧ K ((rLst r).at ys) cs2) :
    Ev (tOp rRep ta tb) W G T cs K := fun s H st Q q => by
  refine h0 s H st _ fun sa cs1 h1 va H1 st1 => ?_
  refine h1 va s H1 st1 _ fun sb cs2 ⟨α, r, xs, ys, i, e1, e2, hy, k⟩ vb H2 ⟨F, c, sg, tm⟩ => ?_
  subst e1 e2
  obtain ⟨hz, a, vs, rfl, hF, hA⟩ := tm.tail.head
  have eb : vb = .int i := tm.head
  obtain ⟨⟨c2, c3, c4⟩, e⟩ := of_ite hy
  subst e eb
  have hl := hA.length
  have hs := repz_small c3 c4
  refine ⟨a, i, vs, rfl, rfl, c.fh _ _ hF, by omega, by omega, ?_, fun p hp => ?_⟩
  · rw [len_rep, Nat.mul_comm, hl] at hs
    exact hs
  · have sF : Same F (upd F p (.lst (List.replicate i.toNat vs).flatten)) := same_upd (c.fh.free hp)
    exact q _ _ k _ _ ⟨_, c.new hp, sg.mono sF, (tm.tail.tail.mono sF).cons ⟨hs, p, _, rfl, upd_same, (hA.rep _).imp fun _ _ z => r.mono sF z⟩⟩
/-! ### lists of data of many kinds -/
def rData (KF : PySem.W.Frag) : R PyData := ⟨fun d F v => ∀ H, Same F H → Dp KF H v d, fun {d} _ _ _ e h => fun H s => h H (fun a o z => s a o (e a o z))⟩
/-- what the slot holds reads as the data -/
def As (KF : PySem.W.Frag) (sl : Sl) (d : PyData) : Prop := ∀ F v, sl.p F v → (rData KF).p d F v
theorem as_of {r : R α} [DecidableEq α] (e : REq r) (x : α) : As KF (r.at x) (e.d x) := fun F v h H s => e.ok h s
theorem as_data (d : PyData) : As KF ((rData KF).at d) d := fun F v h => h
theorem as_all {F : Hp} : ∀ {sls : List Sl} {ds : List PyData} {vs : List V}, All2 (As KF) sls ds → Args F sls vs → All2 (fun d u => (rData KF).p d F u) ds vs
  | _, _, _, .nil, .nil => .nil
  | _, _, _, .cons p q, .cons r t => .cons (p _ _ r) (as_all q t)
theorem e_lstD (h : EvA t W G T cs fun sls cs1 => ∃ ds : List PyData, All2 (As KF) sls ds ∧ ds.length ≤ 1000 ∧ K ((rLst (rData KF)).at ds) cs1) : Ev (tLst t) W G T cs K := fun s H st Q q => by
  refine h s H st _ fun sls cs1 ⟨ds, ha, hz, k⟩ vs H1 ⟨F, c, sg, tm, ar⟩ => ?_
  have a2 := as_all ha ar
  refine ⟨by rw [← a2.length]; exact small_len hz, fun p hp => ?_⟩
  have sF : Same F (upd F p (.lst vs)) := same_upd (c.fh.free hp)
  exact q _ _ k _ _ ⟨_, c.new hp, sg.mono sF, (tm.mono sF).cons ⟨small_len hz, p, vs, rfl, upd_same, a2.imp fun _ _ z => (rData KF).mono sF z⟩⟩
theorem dp_data {F H : Hp} (s : Same F H) : ∀ {ds : List PyData} {us : List V}, All2 (fun d u => (rData KF).p d F u) ds us → DpAll KF H us ds
  | _, _, .nil => .nil
  | _, _, .cons p q => .cons (p H s) (dp_data s q)
def oReprD (ds : List PyData) : Option Str := if (PyData.list ds).showable = true ∧ (PyData.list ds).canLay0 = true ∧ (PyData.list ds).depth ≤ 60 ∧ (PyData.list ds).shown.length ≤ sizeLine then some (PyData.list ds).shown else none
theorem e_reprD (h : EvA t W G T cs fun sls cs1 => ∃ (ds : List PyData) (z : Str), sls = [(rLst (rData KF)).at ds] ∧ oReprD ds = some z ∧ K (rStr.at z) cs1) : Ev (tCB (rRepr KF) t) W G T cs K := fun s H st Q q => by
  refine h s H st _ fun sls cs1 ⟨ds, z, e1, ho, k⟩ vs H1 ⟨F, c, sg, tm, ar⟩ => ?_
  subst e1
  obtain ⟨v, rfl, hz, a, us, rfl, hF, hA⟩ := args1 ar
  obtain ⟨⟨h1, h2, h3, h4⟩, ez⟩ := of_ite ho
  subst ez
  exact ⟨.ref a, .list ds, rfl, Dp.lst (SqL.of (c.fh _ _ hF)) (dp_data c.fh hA), h1, h2, h3, h4, q _ _ k _ H1 ⟨F, c, sg, tm.cons rfl⟩⟩
end
end ML

namespace ML
open PySem Spec PyProof.Rows L2
/-! ### values of any kind that are no instances -/
abbrev anyTys : List String := ["int", "bool", "str", "NoneType", "list", "tuple", "dict"]
def rWild (KF : PySem.W.Frag) : R Unit := ⟨fun _ F v => ∃ n, n ∈ anyTys ∧ ∀ H, Same F H → TyX KF H v (.type n), fun {_} _ _ _ e h => by
  obtain ⟨n, hn, h⟩ := h
  exact ⟨n, hn, fun H s => h H (fun a o z => s a o (e a o z))⟩⟩
/-- what the slot holds is such a value -/
def Anyv (KF : PySem.W.Frag) (sl : Sl) : Prop := ∀ F v, sl.p F v → (rWild KF).p () F v
theorem any_of {α : Type} {KF : PySem.W.Frag} {r : R α} {n : String} (e : RTy r n) (hn : n ∈ anyTys) (x : α) : Anyv KF (r.at x) := fun F v h => ⟨n, hn, fun H s => e.ty h s⟩
theorem tyNon : RTy rNon "NoneType" := ⟨fun {KF F H a v} h s => by rw [show v = .non from h]; exact .base .non⟩
theorem any_any {KF : PySem.W.Frag} : Anyv KF ((rWild KF).at ()) := fun F v h => h
section
variable {W : Wd} {G : Gam} {T : Tms} {cs : Cells} {K : Sl → Cells → Prop} {KF : PySem.W.Frag} {t : TA} {ta tb tk tv : TE}
/-- a value as one of any kind -/
theorem e_asAny {te : TE} (h : Ev te W G T cs fun sl cs1 => Anyv KF sl ∧ K ((rWild KF).at ()) cs1) : Ev te W G T cs K := fun s H st Q q =>
  h s H st Q fun sl cs1 ⟨a, k⟩ v H' ⟨F, c, sg, t⟩ => q _ cs1 k v H' ⟨F, c, sg, t.tail.cons (a _ _ t.head)⟩
theorem any_all {F : Hp} : ∀ {sls : List Sl} {vs : List V}, (∀ sl ∈ sls, Anyv KF sl) → Args F sls vs → ∀ xs : List Unit, xs.length = sls.length → All2 (fun x u => (rWild KF).p x F u) xs vs
  | [], _, _, .nil, xs, hl => by
    cases xs with
    | nil => exact .nil
    | cons x xs => cases hl
  | sl :: sls, _, h, .cons p q, xs, hl => by
    cases xs with
    | nil => cases hl
    | cons x xs => exact .cons (h sl List.mem_cons_self _ _ p) (any_all (fun y hy => h y (List.mem_cons_of_mem _ hy)) q xs (by simpa using hl))
theorem e_lstAs (h : EvA t W G T cs fun sls cs1 => ∃ xs : List Unit, (∀ sl ∈ sls, Anyv KF sl) ∧ xs.length = sls.length ∧ xs.length ≤ 1000 ∧ K ((rLst (rWild KF)).at xs) cs1) : Ev (tLst t) W G T cs K := fun s H st Q q => by
  refine h s H st _ fun sls cs1 ⟨xs, ha, hl, hz, k⟩ vs H1 ⟨F, c, sg, tm, ar⟩ => ?_
  have a2 := any_all ha ar xs hl
  refine ⟨by rw [← a2.length]; exact small_len hz, fun p hp => ?_⟩
  have sF : Same F (upd F p (.lst vs)) := same_upd (c.fh.free hp)
  exact q _ _ k _ _ ⟨_, c.new hp, sg.mono sF, (tm.mono sF).cons ⟨small_len hz, p, vs, rfl, upd_same, a2.imp fun _ _ z => (rWild KF).mono sF z⟩⟩
/-- a list, a tuple, a dict as a value of any kind -/
theorem e_lstAny (h : EvA t W G T cs fun sls cs1 => sls.length ≤ 1000 ∧ K ((rWild KF).at ()) cs1) : Ev (tLst t) W G T cs K := fun s H st Q q => by
  refine h s H st _ fun sls cs1 ⟨hz, k⟩ vs H1 ⟨F, c, sg, tm, ar⟩ => ?_
  have hl := All2.length ar
  refine ⟨small_len (by omega), fun p hp => ?_⟩
  have sF : Same F (upd F p (.lst vs)) := same_upd (c.fh.free hp)
  exact q _ _ k _ _ ⟨_, c.new hp, sg.mono sF, (tm.mono sF).cons ⟨"list", by decide, fun H s => .base (.lst (s _ _ upd_same))⟩⟩
theorem e_tupAny (h : EvA t W G T cs fun sls cs1 => sls.length ≤ 1000 ∧ K ((rWild KF).at ()) cs1) : Ev (tTup t) W G T cs K := fun s H st Q q => by
  refine h s H st _ fun sls cs1 ⟨hz, k⟩ vs H1 ⟨F, c, sg, tm, ar⟩ => ?_
  have hl := All2.length ar
  refine ⟨small_len (by omega), fun p hp => ?_⟩
  have sF : Same F (upd F p (.tup vs)) := same_upd (c.fh.free hp)
  exact q _ _ k _ _ ⟨_, c.new hp, sg.mono sF, (tm.mono sF).cons ⟨"tuple", by decide, fun H s => .base (.tup (s _ _ upd_same))⟩⟩
theorem e_dict0 (k : K ((rWild KF).at ()) cs) : Ev tDNewK W G T cs K := fun s H ⟨F, c, sg, tm⟩ Q q p hp => by
  have sF : Same F (upd F p (.dK [])) := same_upd (c.fh.free hp)
  exact q _ _ k _ _ ⟨_, c.new hp, sg.mono sF, (tm.mono sF).cons ⟨"dict", by decide, fun H s => .base (.dK (s _ _ upd_same))⟩⟩
def cRaw (o : HO) : Cl := ⟨fun _ o' => o' = o, fun _ h => h⟩
/-- {text: value} -/
theorem e_dict1 (h : ∀ p, Ev tk W G T (cs ++ [(p, cRaw (.dK []))]) fun sk cs1 => ∃ z : Str, sk = rStr.at z ∧ ∀ vk, Ev tv W G ((vk, sk) :: T) cs1 fun sv cs2 => ∃ cs3 : Cells, cs2 = cs3 ++ [(p, cRaw (.dK []))] ∧ K ((rWild KF).at ()) cs3) :
    Ev (tDisp [(tk, tv)]) W G T cs K := fun s H ⟨F, c, sg, tm⟩ Q q p hp => by
  refine h p s _ ⟨F, c.newCell hp rfl, sg, tm⟩ _ fun sk cs1 ⟨z, ek, h1⟩ vk H1 st1 => ?_
  refine h1 vk s H1 st1 _ fun sv cs2 ⟨cs3, e2, k⟩ vv H2 ⟨F2, c2, sg2, tm2⟩ => ?_
  subst ek e2
  have evk : vk = .str z := tm2.tail.head
  subst evk
  have hj : (cs3 ++ [(p, cRaw (.dK []))])[cs3.length]? = some (p, cRaw (.dK [])) := by simp
  have hp2 : H2 p = some (.dK []) := by
    obtain ⟨_, _, o, ho, hc⟩ := c2.cell (p, cRaw (.dK [])) (by simp)
    have : o = .dK [] := hc
    rw [← this]; exact ho
  refine ⟨hp2, [(.inr z, vv)], rfl, (by decide : 1 ≤ 15), ?_⟩
  have c3 := c2.write (o := .dK (mergeK [] [(.inr z, vv)])) (c' := cRaw (.dK (mergeK [] [(.inr z, vv)]))) hj rfl
  have hj3 : ((cs3 ++ [(p, cRaw (.dK []))]).set cs3.length (p, cRaw (.dK (mergeK [] [(.inr z, vv)]))))[cs3.length]? = some (p, cRaw (.dK (mergeK [] [(.inr z, vv)]))) := by simp
  obtain ⟨o, F', g1, g2, g3, sF, c4⟩ := c3.freeze hj3
  have eo : o = .dK (mergeK [] [(.inr z, vv)]) := g2
  subst eo
  have ee : ((cs3 ++ [(p, cRaw (.dK []))]).set cs3.length (p, cRaw (.dK (mergeK [] [(.inr z, vv)])))).eraseIdx cs3.length = cs3 := by
    rw [List.set_append_right _ _ (Nat.le_refl _), List.eraseIdx_append_of_length_le (Nat.le_refl _)]
    simp
  rw [ee] at c4
  exact q _ _ k _ _ ⟨F', c4, sg2.mono sF, (tm2.tail.tail.mono sF).cons ⟨"dict", by decide, fun H s => .base (.dK (s _ _ g3))⟩⟩
end
/-! ### such a value beside an own class -/
structure AnyC (K : PySem.W.Frag) (C : Addr) : Prop where
  nf : ∀ n ∈ anyTys, PySem.W.notFirst K C (.type n) = true
  ki : ∀ n ∈ anyTys, PySem.W.kitOne K (.type n) (.ref C) = some false
theorem sub_any (K : PySem.W.Frag) (C : Addr) : ∀ n ∈ anyTys, PySem.W.subIn K (.type n) (.ref C) = some false := fun n hn => by
  simp only [anyTys, List.mem_cons, List.not_mem_nil, or_false] at hn
  rcases hn with e | e | e | e | e | e | e <;> subst e <;> kernel_rfl
theorem anyc_of {K : PySem.W.Frag} {C : Addr} (h1 : PySem.W.isClsIn K C = true) (h2 : PySem.W.typeIn K (.ref C) = some (.type "type")) : AnyC K C := by
  refine ⟨fun n hn => ?_, fun n hn => ?_⟩
  · unfold PySem.W.notFirst
    rw [sub_any K C n hn]
    simp
  · have h1' : (PySem.W.clsIn K C).isSome = true := h1
    have e : ((Value.type n) == (Value.ref C)) = false := by simp
    unfold PySem.W.kitOne
    rw [e, if_neg Bool.false_ne_true]
    show (if ((PySem.W.clsIn K C).isSome && PySem.W.typeIn K (.ref C) == some (.type "type")) = true then PySem.W.subIn K (.type n) (.ref C) else none) = some false
    rw [h1', h2, if_pos (by simp), sub_any K C n hn]
def rCmpAny (K : PySem.W.Frag) (C : Addr) (sp : Sp) (dvs : List V) (E : XK) : R2 := fun x y H Q => ∃ a dx fs n, x = .ref a ∧ H a = some (.ins C dx fs) ∧ n ∈ anyTys ∧ TyX K H y (.type n) ∧ sp ([.ref a, y] ++ dvs) H Q E
section
variable {X : Cx} {CX : CXT} {k : Nat} {C f : Addr} {fd : FuncData} {ps : List Str} {sp : Sp} {dvs : List V} {ds : List Value} {E : XK}
theorem op_cmpAny {op : CmpOp} (hop : ∀ a b, compareOp op a b = richCompare op a b) (an : AnyC X.K C) (c : DM X.K C (cmpInfo op).2.1 f) (F : FnG X.prog X.w X.K X.mg X.base CX k f fd ps sp) (hr : RoomG k X.A) (hb : Binds X.K fd ps ds) (hd : Vals dvs ds) (hx : Passes CX X E) :
    OpR X (compareOp op) (rCmpAny X.K C sp dvs E) := by
  intro pins s σ H x y v u Q I rx ry h
  obtain ⟨a, dx, fs, n, rfl, ha, hn, ty, q⟩ := h
  cases rx
  obtain ⟨ox, od, J⟩ := ins_inst I ha
  obtain ⟨P, Z, p, _⟩ := kit_of I ry ty
  obtain ⟨m, hF⟩ := I.fr
  rw [hop]
  refine PySem.W.cmp_K (op := op) (tb := .type n) hr.rm.units0 hF I.ok.mod.kin J (Z.ty _ _ I.kIn p) (an.nf n hn) c.at_ c.fn (thn (run_fnG (us := [.ref a, u]) (vs := [.ref a, y]) F hr hb hd hx I (.cons rfl (.cons ry .nil)) q) fun w s' z => ?_)
  obtain ⟨z', H', I', rz, qz⟩ := z
  exact SlX.cmpback rz ⟨z', H', I', rz, qz⟩
end
section
variable {W : Wd} {G : Gam} {T : Tms} {cs : Cells} {K : Sl → Cells → Prop} {KF : PySem.W.Frag} {t : TA} {ta tb : TE}
theorem e_cmpAny {ι β α : Type} {C : Addr} {fl : α → List (Str × Sl)} {A : ι → List Sl} {m : ι → Option β} {res : ι → β → Sl} {E : XK}
    (ha : Ev ta W G T cs fun sa cs1 => ∀ va, Ev tb W G ((va, sa) :: T) cs1 fun sb cs2 => ∃ (x : α) (i : ι) (b : β), sa = (rRec C fl).at x ∧ sb = (rWild KF).at () ∧ m i = some b ∧ [sa, sb] = A i ∧ K (res i b) cs2) :
    Ev (tOp (rCmpAny KF C (spM A (fun _ => []) m res (fun _ _ => [])) [] E) ta tb) W G T cs K := fun s H st Q q => by
  refine ha s H st _ fun sa cs1 h1 va H1 st1 => ?_
  refine h1 va s H1 st1 _ fun sb cs2 ⟨x, i, b, e, e', hm, e1, k⟩ vb H2 ⟨F, c, sg, tm⟩ => ?_
  obtain ⟨n, hn, ty⟩ : (rWild KF).p () F vb := by
    have := tm.head
    rw [e'] at this
    exact this
  obtain ⟨p2, dx2, fs2, ev2, hF2, hf2⟩ : (rRec C fl).p x F va := by
    have := tm.tail.head
    rw [e] at this
    exact this
  refine ⟨p2, dx2, fs2, n, ev2, c.fh _ _ hF2, hn, ty _ c.fh, ?_⟩
  rw [List.append_nil]
  exact call_gives (G := G) (T := T) (rest := cs2) hm c sg tm.tail.tail (e1 ▸ .cons (ev2 ▸ tm.tail.head) (.cons tm.head .nil)) fun v H3 st3 => q _ _ k v H3 st3
/-- isinstance(x, C), x no instance -/
theorem e_isiAny {C : Addr} (an : AnyC KF C) (h : EvA t W G T cs fun sls cs1 => sls = [(rWild KF).at (), sCls (.ref C)] ∧ K (rBool.at false) cs1) : Ev (tCB (rIsi KF) t) W G T cs K := fun s H st Q q => by
  refine h s H st _ fun sls cs1 ⟨e1, k⟩ vs H1 ⟨F, cc, sg, tm, ar⟩ => ?_
  subst e1
  obtain ⟨v, w, rfl, p1, p2⟩ := args2' ar
  have ew : w = .ref C := p2
  subst ew
  obtain ⟨n, hn, ty⟩ := p1
  exact ⟨v, _, _, _, false, rfl, .own C, ty _ cc.fh, an.ki n hn, q _ _ k _ H1 ⟨F, cc, sg, tm.cons rfl⟩⟩
end
/-! ### a method called by names alone -/
section
variable {X : Cx} {CX : CXT} {k : Nat} {C f : Addr} {fd : FuncData} {ps ks : List Str} {sp : Sp} {E : XK} {m : Str} {p pos apos : Pos} {o : Expr} {kws : List Keyword} {ta : TE} {t : TA} {π : List Nat}
/-- self stands first -/
def OwnNames (KF : PySem.W.Frag) (fd : FuncData) (ps ks : List Str) (π : List Nat) : Prop :=
  ∀ (s : Shared) (a : Value) (us : List Value), us.length = ks.length → BindsTo s fd ⟨[a], ks.zip us⟩ (ps.zip (a :: perm π us))
theorem pe_methN {pl : Sem Bool} (he : PE X o ta) (c : Cls X.K C) (hm : Meth X.K C m f) (F : FnG X.prog X.w X.K X.mg X.base CX k f fd ps sp) (hr : RoomG k X.A) (hb : OwnNames X.K fd ps ks π) (hx : Passes CX X E) (hkw : PK X kws t)
    (hall : (backToKw pos (keywordEach kws X.env)).all (·.1.isSome) = true := by rfl) (hks : (backToKw pos (keywordEach kws X.env)).filterMap (·.1) = ks := by rfl)
    (hpl : ((backTo pos (starEach [] X.env)).any (·.1) || (backToKw pos (keywordEach kws X.env)).any (·.1.isNone)) = false := by rfl)
    (h3 : eval (.Call (.Attribute o m apos) [] kws pos) X.env = (do
      let ov ← eval o X.env
      standAt apos.atName
      let (g, own) ← holding [ov] (getMethod ov m pl)
      callWith pos g own (backTo pos (starEach [] X.env)) (backToKw pos (keywordEach kws X.env))) := by rfl) :
    PE X (.Call (.Attribute o m apos) [] kws pos) (tMeth C m sp [] E ta (tNames π ks.length t)) := ⟨fun pins s σ H Q I h => by
  refine PySem.W.methodCall_KW (pl := pl) (thn (he.run pins s σ H _ I h) fun u s1 ⟨x, H1, I1, rx, a, dx, fs, ex, ea, l, q⟩ => ?_) h3
  subst ex
  cases rx
  refine getmeth_ok I1 ea c hm l (PySem.W.callWith_KW0 (first := [.ref a]) (h₀ := X.base) I.ok.mod.kin hm.kp hall (thn (hkw.run pos pins s1 σ H1 _ I1 q) fun us s2 ⟨vs, H2, I2, r, e, q2⟩ => ⟨I2.kIn, ?_⟩) hpl)
  rw [hks]
  dsimp only at q2
  rw [List.append_nil] at q2
  have r2 : Vals (.ref a :: perm π vs) (.ref a :: perm π us) := .cons rfl (perm_rel r)
  have run := F.go X.A X.stack s2 H2 ⟨[.ref a], ks.zip us⟩ _ _ Q E hr I2.env0 (hb s2 (.ref a) us (r.length.symm.trans e)) r2 q2
  refine wpAny_call (codeAny_mono run fun r s' hq => ?_)
  match r, hq with
  | .error e, hq => exact hx pins σ H2 s2 e s' I2 hq
  | .ok (.ret u), hq => exact I2.after hq
  | .ok .next, hq => exact False.elim hq
  | .ok .brk, hq => exact False.elim hq
  | .ok .cont, hq => exact False.elim hq⟩
theorem own_names_mk {KF : PySem.W.Frag} {x qual : Str} {st : Stmt} (F : Fun KF x qual st f fd)
    (h : ∀ (kV doc pm : Value) (an : Option Addr) (cdv ct : Value) (a : Value) (us : List Value), us.length = ks.length → bindArgs (PySem.W.fnOf x qual (defArgs st) (defBody st) (defScope st) .none kV doc pm an cdv ct) ⟨[a], ks.zip us⟩ = pure (ps.zip (a :: perm π us))) : OwnNames KF fd ps ks π := fun s a us hl => by
  obtain ⟨oc, od, kV, doc, pm, an, cdv, ct, osl, rfl, lk, hcd⟩ := F.ex
  exact .of_eq (h kV doc pm an cdv ct a us hl)
end
end ML

namespace ML
open PySem Spec PyProof.Rows L2
/-! ### defs with defaults -/
structure FunD (K : PySem.W.Frag) (x qual : Str) (st : Stmt) (T f : Addr) (fd : FuncData) : Prop where
  ex : ∃ (oc : Value) (od : Option Addr) (kV doc pm : Value) (an : Option Addr) (cdv ct : Value) (osl : Array (Option Value)),
    fd = PySem.W.fnOf x qual (defArgs st) (defBody st) (defScope st) (.ref T) kV doc pm an cdv ct ∧ K.lookup f = some ⟨oc, od, .func fd, osl⟩ ∧ PySem.W.codeIn K cdv qual = true
  kp : PySem.W.keepIn K (.ref f) = true
theorem funD_mk {K : PySem.W.Frag} {x qual : Str} {st : Stmt} {T f : Addr} {oc : Value} {od an : Option Addr} {osl : Array (Option Value)} {kV doc pm cdv ct : Value} (l : K.lookup f = some ⟨oc, od, .func (PySem.W.fnOf x qual (defArgs st) (defBody st) (defScope st) (.ref T) kV doc pm an cdv ct), osl⟩)
    (c : PySem.W.codeIn K cdv qual = true) (k : PySem.W.keepIn K (.ref f) = true) : FunD K x qual st T f (PySem.W.fnOf x qual (defArgs st) (defBody st) (defScope st) (.ref T) kV doc pm an cdv ct) := ⟨⟨oc, od, kV, doc, pm, an, cdv, ct, osl, rfl, l, c⟩, k⟩
theorem okGD {P : Program} {w : World} {K : PySem.W.Frag} {mg : Str → Option Value} {base : Heap} {x qual : Str} {st : Stmt} {T f : Addr} {fd : FuncData} {N ps : List Str} {k : Nat} {sp : Sp} (F : FunD K x qual st T f fd) (S : FnScope N ps (defScope st)) (len : ∀ vs H Q E, sp vs H Q E → vs.length = ps.length)
    (hb : ∀ (cdv : Value) (A : Around) (ou : List Env) (s : Shared) (H : Hp) (vs : List V) (Q : VK) (E : XK), RoomG k (A.deeper (envOfC qual (defScope st) s.heap.objs.size f cdv)) → sp vs H Q E →
      ∃ t, PSs (cxOf CX0 P w K mg base N qual (defScope st) f cdv A ou s H E).nox (defBody st) t ∧ t { nx := fun _ H' => Q .non H', rt := Q } (L2.start N vs) H) : FnG P w K mg base CX0 (k + 1) f fd ps sp := by
  obtain ⟨oc, od, kV, doc, pm, an, cdv, ct, osl, rfl, lk, hcd⟩ := F.ex
  exact fn_G lk hcd S len fun A ou s H vs Q E hr hsp => let ⟨t, h, q⟩ := hb cdv A ou s H vs Q E hr hsp; ⟨t, h.nox, q⟩
/-- how its arguments bind, the last ones by default -/
theorem FunD.binds {K : PySem.W.Frag} {x qual : Str} {st : Stmt} {T f : Addr} {fd : FuncData} {ps : List Str} {ds : List Value} {o : Obj} {items : Array Value} {n : Nat} (F : FunD K x qual st T f fd) (lk : K.lookup T = some o) (hs : o.data = .seq items n)
    (h : ∀ (kV doc pm : Value) (an : Option Addr) (cdv ct : Value) (us : List Value), (us ++ ds).length = ps.length → ∃ k : Option (Array Value) → Sem (List (Str × Value)),
      bindArgs (PySem.W.fnOf x qual (defArgs st) (defBody st) (defScope st) (.ref T) kV doc pm an cdv ct) ⟨us, []⟩ = (seqItems? (.ref T) >>= k) ∧ k (some items) = pure (ps.zip (us ++ ds))) : Binds K fd ps ds := fun s us X hl => by
  obtain ⟨oc, od, kV, doc, pm, an, cdv, ct, osl, rfl, lk2, hcd⟩ := F.ex
  obtain ⟨k, h1, h2⟩ := h kV doc pm an cdv ct us hl
  exact PySem.W.binds_K X rfl lk hs h1 h2
/-- a call that leaves some to the defaults -/
theorem e_callD {W : Wd} {G : Gam} {T : Tms} {cs : Cells} {K : Sl → Cells → Prop} {t : TA} {ι β : Type} {A : ι → List Sl} {ci : ι → Cells} {m : ι → Option β} {res : ι → β → Sl} {co : ι → β → Cells} {E : XK} {dvs : List V} {dsl : List Sl} (hd : ∀ F, Args F dsl dvs)
    (h : EvA t W G T cs fun sls cs1 => ∃ (i : ι) (b : β) (rest : Cells), m i = some b ∧ sls ++ dsl = A i ∧ cs1 = ci i ++ rest ∧ K (res i b) (co i b ++ rest)) : Ev (tCall (spM A ci m res co) dvs E t) W G T cs K := fun s H st Q q => by
  refine h s H st _ fun sls cs1 ⟨i, b, rest, hm, e1, e2, k⟩ vs H1 ⟨F, c, sg, tm, ar⟩ => ?_
  subst e2
  exact call_gives hm c sg tm (e1 ▸ All2.app ar (hd F)) fun v H3 st3 => q _ _ k v H3 st3
end ML

namespace ML
open PySem Spec PyProof.Rows L2
/-! ## dicts whose keys are ints -/
section
variable {α β γ : Type}
def hasD (xs : List (Int × α)) (k : Int) : Bool := xs.any fun p => decide (p.1 = k)
def gotD (xs : List (Int × α)) (k : Int) : Option α := (xs.find? fun p => decide (p.1 = k)).map (·.2)
def putD (xs : List (Int × α)) (k : Int) (x : α) : List (Int × α) := if hasD xs k = true then xs.map (fun p => if p.1 = k then (p.1, x) else p) else xs ++ [(k, x)]
def oPut (xs : List (Int × α)) (k : Int) (x : α) : Option (List (Int × α)) := if xs.length < sizeLine then some (putD xs k x) else none
theorem len_putD (xs : List (Int × α)) (k : Int) (x : α) : (putD xs k x).length ≤ xs.length + 1 := by
  unfold putD
  split
  · rw [List.length_map]; omega
  · rw [List.length_append]; simp
/-- a table's rows -/
abbrev Row (r : R α) (F : Hp) : (Int × α) → (Key × V) → Prop := fun x y => y.1 = Sum.inl x.1 ∧ r.p x.2 F y.2
theorem rows_mono {r : R α} {F F' : Hp} {xs : List (Int × α)} {kvs : List (Key × V)} (e : Same F F') (h : All2 (Row r F) xs kvs) : All2 (Row r F') xs kvs := h.imp fun _ _ q => ⟨q.1, r.mono e q.2⟩
theorem rows_any {r : R α} {F : Hp} (k : Int) : ∀ {xs : List (Int × α)} {kvs : List (Key × V)}, All2 (Row r F) xs kvs → (kvs.any fun kv => decide (kv.1 = Sum.inl k)) = hasD xs k
  | _, _, .nil => rfl
  | _, _, .cons (a := x) (b := y) q t => by
    unfold hasD
    rw [List.any_cons, List.any_cons, rows_any k t, q.1]
    congr 1
    by_cases e : x.1 = k
    · rw [decide_eq_true e, decide_eq_true (by rw [e])]
    · rw [decide_eq_false e, decide_eq_false (fun z => e (Sum.inl.inj z))]
theorem rows_val {r : R α} {F : Hp} (k : Int) : ∀ {xs : List (Int × α)} {kvs : List (Key × V)}, All2 (Row r F) xs kvs → (gotD xs k = none ∧ valV kvs (Sum.inl k) = none) ∨ ∃ x v, gotD xs k = some x ∧ valV kvs (Sum.inl k) = some v ∧ r.p x F v
  | _, _, .nil => .inl ⟨rfl, rfl⟩
  | _, _, .cons (a := x) (b := y) (l := l) (m := m) q t => by
    by_cases e : x.1 = k
    · refine .inr ⟨x.2, y.2, ?_, valV_pos (q.1.trans (by rw [e])), q.2⟩
      unfold gotD
      rw [List.find?_cons, decide_eq_true e]
      rfl
    · have e1 : gotD (x :: l) k = gotD l k := by unfold gotD; rw [List.find?_cons, decide_eq_false e]
      have e2 : valV (y :: m) (Sum.inl k) = valV m (Sum.inl k) := valV_neg fun z => e (Sum.inl.inj (q.1.symm.trans z))
      rw [e1, e2]
      exact rows_val k t
theorem rows_map {r : R α} {F : Hp} {k : Int} {x : α} {v : V} (hv : r.p x F v) : ∀ {xs : List (Int × α)} {kvs : List (Key × V)}, All2 (Row r F) xs kvs →
    All2 (Row r F) (xs.map fun p => if p.1 = k then (p.1, x) else p) (kvs.map fun kv => if kv.1 = Sum.inl k then (kv.1, v) else kv)
  | _, _, .nil => .nil
  | _, _, .cons (a := a) q t => by
    rw [List.map_cons, List.map_cons]
    refine .cons ?_ (rows_map hv t)
    by_cases e : a.1 = k
    · rw [if_pos e, if_pos (q.1.trans (by rw [e]))]
      exact ⟨q.1, hv⟩
    · rw [if_neg e, if_neg fun z => e (Sum.inl.inj (q.1.symm.trans z))]
      exact q
theorem rows_put {r : R α} {F : Hp} {k : Int} {x : α} {v : V} (hv : r.p x F v) {xs : List (Int × α)} {kvs : List (Key × V)} (h : All2 (Row r F) xs kvs) : All2 (Row r F) (putD xs k x) (putK kvs (Sum.inl k) v) := by
  unfold putD putK
  rw [rows_any k h]
  split
  · exact rows_map hv h
  · exact h.app (.cons ⟨rfl, hv⟩ .nil)
/-- a dict that stands still (locked for good); a dict that changes -/
def rDic (r : R α) : R (List (Int × α)) := ⟨fun xs F v => xs.length ≤ sizeLine ∧ ∃ a od kvs, v = .ref a ∧ F a = some (.frz od (.dK kvs)) ∧ All2 (Row r F) xs kvs,
  fun {_ _ _ _} e ⟨h0, a, od, kvs, h1, h2, h3⟩ => ⟨h0, a, od, kvs, h1, e _ _ h2, rows_mono e h3⟩⟩
def cDic (r : R α) (xs : List (Int × α)) : Cl := ⟨fun F o => xs.length ≤ sizeLine ∧ ∃ kvs, o = .dK kvs ∧ All2 (Row r F) xs kvs, fun {_ _ _} e ⟨h0, kvs, h1, h2⟩ => ⟨h0, kvs, h1, rows_mono e h2⟩⟩
/-- the new dict of an expression is locked -/
def tFrz (t : TE) : TE := fun σ H Q => t σ H fun x H1 => ∃ d u, x = .ref d ∧ H1 d = some u ∧ Mut (some u) ∧ ∀ od, Q x (upd H1 d (.frz od u))
theorem pe_frz {X : Cx} {e : Expr} {t : TE} (h : PE X e t) : PE X e (tFrz t) := ⟨fun pins s σ H Q I hw => by
  refine thn (h.run pins s σ H _ I hw) fun u s1 ⟨x, H1, I1, rx, d, o, ex, hd, mu, q⟩ => ?_
  obtain ⟨od, I2⟩ := I1.lock hd mu
  exact ⟨x, _, I2, rx, q od⟩⟩
end
section
variable {nx bk ct : L2.St → Hp → Prop} {rt : VK}
variable {W : Wd} {G : Gam} {T : Tms} {cs : Cells} {K : Sl → Cells → Prop} {t : TA} {ta tb tc te to ti td tk : TE} {tt : TT} {KF : PySem.W.Frag}
/-- {} -/
theorem e_dict0C {α : Type} (r : R α) (k : ∀ p, K (sRef p) (cs ++ [(p, cDic r [])])) : Ev tDNewK W G T cs K := fun s H st Q q => fun p hp => by
  obtain ⟨F, c, sg, tm⟩ := st
  exact q _ _ (k p) _ _ ⟨F, c.newCell hp ⟨Nat.zero_le _, [], rfl, .nil⟩, sg, tm.cons rfl⟩
theorem Core.dic {α : Type} {F H : Hp} (c : Core W F cs H) {j : Nat} {p : Addr} {r : R α} {xs : List (Int × α)} (hj : cs[j]? = some (p, cDic r xs)) : xs.length ≤ sizeLine ∧ ∃ kvs, H p = some (.dK kvs) ∧ All2 (Row r F) xs kvs := by
  obtain ⟨_, _, o, h1, h0, kvs, e, h2⟩ := c.cell _ (List.mem_of_getElem? hj)
  subst e
  exact ⟨h0, kvs, h1, h2⟩
/-- d[k], d stands still -/
theorem e_dgetF (ha : Ev td W G T cs fun sa cs1 => ∀ va, Ev tk W G ((va, sa) :: T) cs1 fun sb cs2 => ∃ (α : Type) (r : R α) (xs : List (Int × α)) (i : Int) (x : α), sa = (rDic r).at xs ∧ sb = rInt.at i ∧ gotD xs i = some x ∧ K (r.at x) cs2) :
    Ev (tDGet td tk) W G T cs K := fun s H st Q q => by
  refine ha s H st _ fun sa cs1 h1 va H1 st1 => ?_
  refine h1 va s H1 st1 _ fun sb cs2 ⟨α, r, xs, i, x, e1, e2, hx, k⟩ vb H2 ⟨F, c, sg, tm⟩ => ?_
  subst e1 e2
  obtain ⟨hz, a, od, kvs, rfl, hF, hA⟩ := tm.tail.head
  have eb : vb = .int i := tm.head
  subst eb
  rcases rows_val i hA with ⟨z, _⟩ | ⟨y, v, z1, z2, pv⟩
  · rw [z] at hx; cases hx
  · rw [z1] at hx
    cases hx
    exact ⟨a, v, rfl, .inl ⟨kvs, Sum.inl i, .inr ⟨od, c.fh _ _ hF⟩, rfl, z2.symm⟩, q _ _ k _ H2 ⟨F, c, sg, tm.tail.tail.cons pv⟩⟩
/-- d[k], d a cell -/
theorem e_dgetC (j : Nat) (ha : Ev td W G T cs fun sa cs1 => ∀ va, Ev tk W G ((va, sa) :: T) cs1 fun sb cs2 => ∃ (α : Type) (p : Addr) (r : R α) (xs : List (Int × α)) (i : Int) (x : α), sa = sRef p ∧ cs2[j]? = some (p, cDic r xs) ∧ sb = rInt.at i ∧ gotD xs i = some x ∧ K (r.at x) cs2) :
    Ev (tDGet td tk) W G T cs K := fun s H st Q q => by
  refine ha s H st _ fun sa cs1 h1 va H1 st1 => ?_
  refine h1 va s H1 st1 _ fun sb cs2 ⟨α, p, r, xs, i, x, e1, hj, e2, hx, k⟩ vb H2 ⟨F, c, sg, tm⟩ => ?_
  subst e1 e2
  have ea : va = .ref p := tm.tail.head
  have eb : vb = .int i := tm.head
  subst ea eb
  obtain ⟨_, kvs, hH, hA⟩ := c.dic hj
  rcases rows_val i hA with ⟨z, _⟩ | ⟨y, v, z1, z2, pv⟩
  · rw [z] at hx; cases hx
  · rw [z1] at hx
    cases hx
    exact ⟨p, v, rfl, .inl ⟨kvs, Sum.inl i, .inl hH, rfl, z2.symm⟩, q _ _ k _ H2 ⟨F, c, sg, tm.tail.tail.cons pv⟩⟩
/-- k in d -/
theorem e_dinC (j : Nat) (ha : Ev tk W G T cs fun sa cs1 => ∀ va, Ev td W G ((va, sa) :: T) cs1 fun sb cs2 => ∃ (α : Type) (p : Addr) (r : R α) (xs : List (Int × α)) (i : Int), sa = rInt.at i ∧ sb = sRef p ∧ cs2[j]? = some (p, cDic r xs) ∧ K (rBool.at (gotD xs i).isSome) cs2) :
    Ev (tDIn tk td) W G T cs K := fun s H st Q q => by
  refine ha s H st _ fun sa cs1 h1 va H1 st1 => ?_
  refine h1 va s H1 st1 _ fun sb cs2 ⟨α, p, r, xs, i, e1, e2, hj, k⟩ vb H2 ⟨F, c, sg, tm⟩ => ?_
  subst e1 e2
  have ea : va = .int i := tm.tail.head
  have eb : vb = .ref p := tm.head
  subst ea eb
  obtain ⟨_, kvs, hH, hA⟩ := c.dic hj
  refine ⟨p, valV kvs (Sum.inl i), rfl, .inl ⟨kvs, Sum.inl i, .inl hH, rfl, rfl⟩, q _ _ k _ H2 ⟨F, c, sg, tm.tail.tail.cons ?_⟩⟩
  rcases rows_val i hA with ⟨z1, z2⟩ | ⟨y, v, z1, z2, pv⟩
  · rw [z1, z2]; rfl
  · rw [z1, z2]; rfl
/-- d.get(k, x), d a cell -/
theorem e_dget2C (j : Nat) (ha : Ev td W G T cs fun sa cs1 => ∃ (α : Type) (p : Addr) (r : R α) (xs0 : List (Int × α)), sa = sRef p ∧ cs1[j]? = some (p, cDic r xs0) ∧ ∀ va, Ev tk W G ((va, sa) :: T) cs1 fun sb cs2 => ∀ vb, Ev te W G ((vb, sb) :: (va, sa) :: T) cs2 fun sc cs3 =>
      ∃ (xs : List (Int × α)) (i : Int) (x : α), cs3[j]? = some (p, cDic r xs) ∧ sb = rInt.at i ∧ sc = r.at x ∧ K (r.at ((gotD xs i).getD x)) cs3) :
    Ev (tDGet2 td tk te) W G T cs K := fun s H st Q q => by
  refine ha s H st _ fun sa cs1 ⟨α, p, r, xs0, e1, hj0, h1⟩ va H1 st1 => ?_
  subst e1
  have ea : va = .ref p := ref_top st1
  subst ea
  refine ⟨p, rfl, ?_, ?_⟩
  · obtain ⟨F, c, sg, tm⟩ := id st1
    obtain ⟨_, kvs, hH, _⟩ := c.dic hj0
    exact .inl ⟨kvs, .inl hH⟩
  refine h1 _ s H1 st1 _ fun sb cs2 h2 vb H2 st2 => ?_
  refine h2 vb s H2 st2 _ fun sc cs3 ⟨xs, i, x, hj, e2, e3, k⟩ vc H3 ⟨F, c, sg, tm⟩ => ?_
  subst e2 e3
  have eb : vb = .int i := tm.tail.head
  subst eb
  obtain ⟨_, kvs, hH, hA⟩ := c.dic hj
  refine ⟨valV kvs (Sum.inl i), .inl ⟨kvs, Sum.inl i, .inl hH, rfl, rfl⟩, q _ _ k _ H3 ⟨F, c, sg, tm.tail.tail.tail.cons ?_⟩⟩
  rcases rows_val i hA with ⟨z1, z2⟩ | ⟨y, v, z1, z2, pv⟩
  · rw [z1, z2]; exact tm.head
  · rw [z1, z2]; exact pv
/-- d[k] = v, d a cell -/
theorem s_dput (j : Nat) (hv : Ev te W G T cs fun sv cs1 => ∀ vv, Ev td W G ((vv, sv) :: T) cs1 fun so cs2 => ∀ vo, Ev tk W G ((vo, so) :: (vv, sv) :: T) cs2 fun si cs3 =>
      ∃ (α : Type) (p : Addr) (r : R α) (xs ys : List (Int × α)) (i : Int) (x : α), so = sRef p ∧ cs3[j]? = some (p, cDic r xs) ∧ sv = r.at x ∧ si = rInt.at i ∧ oPut xs i x = some ys ∧ NxT nx W G T (cs3.set j (p, cDic r ys))) :
    NxT (sDPut td tk te ⟨nx, rt, bk, ct⟩) W G T cs := fun s H st => by
  refine hv s H st _ fun sv cs1 h1 vv H1 st1 => ?_
  refine h1 vv s H1 st1 _ fun so cs2 h2 vo H2 st2 => ?_
  refine h2 vo s H2 st2 _ fun si cs3 ⟨α, p, r, xs, ys, i, x, e1, hj, e2, e3, hy, k⟩ vi H3 ⟨F, c, sg, tm⟩ => ?_
  subst e1 e2 e3
  have ei : vi = .int i := tm.head
  have eo : vo = .ref p := tm.tail.head
  subst ei eo
  obtain ⟨hlt, ey⟩ := of_ite hy
  subst ey
  obtain ⟨_, kvs, hH, hA⟩ := c.dic hj
  have hl := hA.length
  refine ⟨p, _, rfl, .inl ⟨kvs, Sum.inl i, hH, rfl, by omega, rfl⟩, k s _ ⟨F, c.write (c' := cDic r (putD xs i x)) hj ⟨?_, _, rfl, rows_put tm.tail.tail.head hA⟩, sg, tm.tail.tail.tail⟩⟩
  have := len_putD xs i x
  omega
/-- for k in d, d stands still -/
theorem i_keys {KI : List Sl → Cells → Prop} (h : Ev td W G T cs fun sl cs1 => ∃ (α : Type) (r : R α) (xs : List (Int × α)), sl = (rDic r).at xs ∧ KI ((xs.map (·.1)).map rInt.at) cs1) : EvI (iKeys td) W G T cs KI := fun s H st R q => by
  refine h s H st _ fun sl cs1 ⟨α, r, xs, e, k⟩ v H1 st1 => ?_
  subst e
  obtain ⟨F, c, sg, t⟩ := id st1
  obtain ⟨hz, a, od, kvs, rfl, hF, hA⟩ := t.head
  have lk : kvs.length = xs.length := hA.length.symm
  have keys : ∀ {F : Hp}, Temps F [(V.ref a, Sl.mk (fun F v => ∃ a', v = .ref a' ∧ F a' = some (.frz od (.dK kvs))) fun e ⟨a', h1, h2⟩ => ⟨a', h1, e _ _ h2⟩)] → F a = some (.frz od (.dK kvs)) := fun {F} t => by
    obtain ⟨a', e, h2⟩ := t.head
    cases e
    exact h2
  have hk : ∀ (i : Nat) (x : Int), (xs.map (·.1))[i]? = some x → ∃ w, kvs[i]? = some (Sum.inl x, w) := fun i x hx => by
    rw [List.getElem?_map] at hx
    cases hy : xs[i]? with
    | none => rw [hy] at hx; cases hx
    | some y =>
      rw [hy] at hx
      cases hx
      obtain ⟨z, h1, h2, _⟩ := hA.get hy
      exact ⟨z.2, by rw [h1, ← h2]⟩
  refine ⟨a, od, rfl, .inl ⟨kvs, c.fh _ _ hF, q _ [(V.ref a, Sl.mk (fun F v => ∃ a', v = .ref a' ∧ F a' = some (.frz od (.dK kvs))) fun e ⟨a', h1, h2⟩ => ⟨a', h1, e _ _ h2⟩)] _ cs1 k (by rw [List.length_map, List.length_map]; exact hz) (fun B => ?_) H1 ⟨F, c, sg, t.tail.cons ⟨a, rfl, hF⟩⟩⟩⟩
  refine ⟨fun i F H cs hi c t => ⟨c.fh _ _ (keys t), by rw [List.length_map, List.length_map] at hi; omega⟩, fun i F H cs x H' sl hi c t y => ?_, fun F H cs c t => ⟨c.fh _ _ (keys t), by rw [List.length_map, List.length_map, lk]; exact Nat.le_refl _⟩⟩
  obtain ⟨e, kk, vv, y1, y2⟩ := y
  subst e
  rw [List.getElem?_map] at hi
  cases hx : (xs.map (·.1))[i]? with
  | none => rw [hx] at hi; cases hi
  | some z =>
    rw [hx] at hi
    cases hi
    obtain ⟨w, h1⟩ := hk i z hx
    rw [y1] at h1
    cases h1
    exact ⟨F, c, Same.refl F, y2⟩
/-- a cell goes to the background, and comes back -/
theorem Core.hide {F H : Hp} {p : Addr} {cl : Cl} (c : Core W F (cs ++ [(p, cl)]) H) :
    ∃ od, H p = some od ∧ cl.p F od ∧ Core ⟨F, upd W.B p od⟩ F cs H ∧ ∀ {F2 : Hp} {cs2 : Cells} {H2 : Hp}, Core ⟨F, upd W.B p od⟩ F2 cs2 H2 → Core W F2 (cs2 ++ [(p, cl)]) H2 := by
  obtain ⟨d1, d2, od, d3, d4⟩ := c.cell (p, cl) (List.mem_append_right _ (by simp))
  have nb : ∀ x ∈ cs, x.1 ≠ p := fun x hx e => by
    have nd := c.nd
    rw [List.map_append, List.nodup_append] at nd
    exact nd.2.2 x.1 (List.mem_map_of_mem hx) p (by simp) e
  refine ⟨od, d3, d4, ⟨Same.refl F, (c.drop (List.sublist_append_left _ _)).fh, fun a o e => ?_, fun a o e => ?_, (c.drop (List.sublist_append_left _ _)).nd, fun x hx => ?_⟩, fun {F2 cs2 H2} c2 => ⟨c.f0.trans c2.f0, c2.fh, fun a o e => c2.bh a o ?_, fun a o e => c2.bf a o ?_, ?_, fun x hx => ?_⟩⟩
  · have e : upd W.B p od a = some o := e
    by_cases ha : a = p
    · subst ha; rw [upd_same] at e; cases e; exact d3
    · rw [upd_ne ha] at e; exact c.bh a o e
  · have e : upd W.B p od a = some o := e
    by_cases ha : a = p
    · subst ha; exact d1
    · rw [upd_ne ha] at e; exact c.bf a o e
  · obtain ⟨a1, a2, a3⟩ := c.cell x (List.mem_append_left _ hx)
    exact ⟨a1, by show upd W.B p od x.1 = none; rw [upd_ne (nb x hx)]; exact a2, a3⟩
  · show upd W.B p od a = some o
    rw [upd_ne (ne_of_none e d2)]; exact e
  · show upd W.B p od a = some o
    rw [upd_ne (ne_of_none e d2)]; exact e
  · rw [List.map_append, List.nodup_append]
    refine ⟨c2.nd, by simp, fun a ha b hb e => ?_⟩
    have eb : b = p := by simpa using hb
    obtain ⟨x, hx, ex⟩ := List.mem_map.mp ha
    have h0 : upd W.B p od x.1 = none := (c2.cell x hx).2.1
    rw [ex, e, eb, upd_same] at h0
    cases h0
  · rcases List.mem_append.mp hx with hx | hx
    · obtain ⟨a1, a2, a3⟩ := c2.cell x hx
      have a2' : upd W.B p od x.1 = none := a2
      by_cases hxd : x.1 = p
      · rw [hxd, upd_same] at a2'; cases a2'
      · rw [upd_ne hxd] at a2'; exact ⟨a1, a2', a3⟩
    · have e : x = (p, cl) := by simpa using hx
      subst e
      exact ⟨c2.bf p od upd_same, d2, od, c2.bh p od upd_same, cl.mono c2.f0 d4⟩
/-- {k: v for x in ..}: nothing changes meanwhile -/
def dcO {α γ : Type} (f : α → Option (Int × γ)) : List α → List (Int × γ) → Option (List (Int × γ))
  | [], d => some d
  | x :: xs, d => match f x with
    | none => none
    | some (k, y) => dcO f xs (putD d k y)
theorem dcO_cons {α γ : Type} {f : α → Option (Int × γ)} {x : α} {xs : List α} {d e : List (Int × γ)} (h : dcO f (x :: xs) d = some e) : ∃ k y, f x = some (k, y) ∧ dcO f xs (putD d k y) = some e := by
  unfold dcO at h
  cases q : f x with
  | none => rw [q] at h; cases h
  | some p => rw [q] at h; exact ⟨p.1, p.2, rfl, h⟩
theorem dc_frz {wi : TI} {g : TG} {vs : List Nat} {is : List Nat} (hvs : ∀ i ∈ is, i ∈ vs) (h : EvI wi W G T cs fun items cs1 => ∃ (α γ : Type) (r : R α) (xs : List α) (f : α → Option (Int × γ)) (ys : List (Int × γ)) (rr : R γ),
      items = xs.map r.at ∧ dcO f xs [] = some ys ∧
      (∀ W' T' x k y, f x = some (k, y) →
        Tg g is W' (wipeG G vs) T' cs1 (r.at x) fun G' => Et tt W' G' T' cs1 fun c cs3 => c = true ∧ Ev tk W' G' T' cs3 fun sl cs4 => sl = rInt.at k ∧ cs4 = cs1 ∧ ∀ vk, Ev te W' G' ((vk, sl) :: T') cs1 fun sl2 cs5 => sl2 = rr.at y ∧ cs5 = cs1) ∧
      K ((rDic rr).at ys) cs1) : Ev (tFrz (tDc wi g tt tk te vs)) W G T cs K := fun s H st Q q => by
  refine h s H st _ fun J T0 items cs1 ⟨α, γ, r, xs, f, ys, rr, e1, hl, body, k⟩ hsz wk H1 ⟨F1, c1, sg1, t1⟩ => ?_
  subst e1
  rw [List.length_map] at hsz
  intro Dp hD
  refine ⟨fun i m H => i + m = xs.length ∧ ∃ (d : List (Int × γ)), dcO f (xs.drop i) d = some ys ∧ d.length ≤ i ∧ ∃ F, Core W F (cs1 ++ [(Dp, cDic rr d)]) H ∧ Slots F G s ∧ Temps F (T0 ++ T), ⟨xs.length, by omega, [], hl, Nat.le_refl _, F1, c1.newCell hD ⟨Nat.zero_le _, [], rfl, .nil⟩, sg1, t1⟩, ?_⟩
  rintro i m H ⟨em, d, hlo, hacc, F, c, sg, t⟩
  by_cases hi : i < xs.length
  · refine .inr ⟨(wk W.B).go i F H _ (by simpa using hi) c t.left, ?_⟩
    have hd : xs.drop i = xs[i] :: xs.drop (i + 1) := List.drop_eq_getElem_cons hi
    rw [hd] at hlo
    obtain ⟨ky, y, hf, hl'⟩ := dcO_cons hlo
    refine ⟨_, fun H' hN => hN, fun x H' yy => ?_⟩
    have hx : (xs.map r.at)[i]? = some (r.at xs[i]) := by rw [List.getElem?_map, List.getElem?_eq_getElem hi]; rfl
    obtain ⟨F', c', sF, px⟩ := (wk W.B).yld i F H _ x H' _ hx c t.left yy
    obtain ⟨od, d3, d4, cW, toW⟩ := c'.hide
    refine body ⟨F', upd W.B Dp od⟩ (T0 ++ T) xs[i] ky y hf x (wipe s vs) H' ⟨F', cW, (sg.mono sF).wipe vs, (t.mono sF).cons px⟩ _ fun G2 ht s2 st2 hw => ⟨by rw [hw vs hvs, wipe_wipe], ?_⟩
    refine ht s2 H' st2 _ fun cc cs3 ⟨k1, k2⟩ H3 st3 => ?_
    subst k1
    rw [if_pos rfl]
    refine k2 s2 H3 st3 _ fun sl cs4 ⟨es, e4, k3⟩ v4 H4 st4 => ?_
    subst es e4
    refine k3 v4 s2 H4 st4 _ fun sl2 cs5 ⟨es2, e5⟩ v5 H5 ⟨F5, c5, sg5, t5⟩ => ?_
    subst es2 e5
    have c6 := toW c5
    have e4 : v4 = .int ky := t5.tail.head
    subst e4
    obtain ⟨_, _, o5, d5, ⟨hz5, kvs, eo5, h5⟩⟩ := c6.cell (Dp, cDic rr d) (List.mem_append_right _ (by simp))
    subst eo5
    have hl5 := h5.length
    refine ⟨kvs, Sum.inl ky, rfl, d5, by omega, m - 1, by omega, by omega, putD d ky y, hl', ?_, F5, ?_, sg.mono (sF.trans c5.f0), t5.tail.tail⟩
    · have := len_putD d ky y
      omega
    · have hj : (cs5 ++ [(Dp, cDic rr d)])[cs5.length]? = some (Dp, cDic rr d) := by simp
      have := c6.write (c' := cDic rr (putD d ky y)) (o := .dK (putK kvs (Sum.inl ky) v5)) hj ⟨by have := len_putD d ky y; omega, _, rfl, rows_put t5.head h5⟩
      rw [show (cs5 ++ [(Dp, cDic rr d)]).set cs5.length (Dp, cDic rr (putD d ky y)) = cs5 ++ [(Dp, cDic rr (putD d ky y))] by simp [List.set_append]] at this
      exact this
  · have ei : i = xs.length := by omega
    subst ei
    refine .inl ⟨?_, ?_⟩
    · have := (wk W.B).stop F H _ c t.left
      rwa [List.length_map] at this
    · rw [List.drop_length] at hlo
      cases hlo
      obtain ⟨d1, d2, o5, d3, ⟨hz5, kvs, eo5, h5⟩⟩ := c.cell (Dp, cDic rr ys) (List.mem_append_right _ (by simp))
      subst eo5
      refine ⟨Dp, .dK kvs, rfl, d3, True.intro, fun od => ?_⟩
      -- the dict stands still, locked
      have hj : (cs1 ++ [(Dp, cDic rr ys)])[cs1.length]? = some (Dp, cDic rr ys) := by simp
      let cl' : Cl := ⟨fun F o => o = .frz od (.dK kvs) ∧ All2 (Row rr F) ys kvs, fun {_ _ _} e ⟨h1, h2⟩ => ⟨h1, rows_mono e h2⟩⟩
      have cw := c.write (c' := cl') (o := .frz od (.dK kvs)) hj ⟨rfl, h5⟩
      obtain ⟨o6, F6, g1, ⟨g2, g3⟩, g4, sF6, c7⟩ := cw.freeze (j := cs1.length) (p := Dp) (c := cl') (by simp)
      subst g2
      have ec : ((cs1 ++ [(Dp, cDic rr ys)]).set cs1.length (Dp, cl')).eraseIdx cs1.length = cs1 := by
        simp [List.set_append, List.eraseIdx_append]
      rw [ec] at c7
      exact q _ _ k _ _ ⟨F6, c7, sg.mono sF6, (t.right.mono sF6).cons ⟨hz5, Dp, od, kvs, rfl, g4, g3⟩⟩
end
end ML

namespace ML
open PySem Spec PyProof.Rows L2 StX
/-! ## objects that change: their instances and their lists and dicts are cells -/
section
variable {nx bk ct : L2.St → Hp → Prop} {rt : VK}
variable {W : Wd} {G : Gam} {T : Tms} {cs : Cells} {K : Sl → Cells → Prop} {t : TA} {ta tb tc te to ti td tk : TE} {tt : TT} {KF : PySem.W.Frag}
theorem Core.perm {F H : Hp} {cs' : Cells} (c : Core W F cs H) (p : cs.Perm cs') : Core W F cs' H :=
  ⟨c.f0, c.fh, c.bh, c.bf, ((p.map _).nodup_iff).mp c.nd, fun x hx => c.cell x (p.mem_iff.mpr hx)⟩
theorem Sta.perm {s : L2.St} {H : Hp} {cs' : Cells} (h : Sta W G T cs s H) (p : cs.Perm cs') : Sta W G T cs' s H := let ⟨F, c, a, b⟩ := h; ⟨F, c.perm p, a, b⟩
theorem len_ds {us ds : List Value} {n m : Nat} (h : (us ++ ds).length = n) (e : n = m + ds.length) : us.length = m := by rw [List.length_append] at h; omega
theorem perm_front {cs : Cells} {j : Nat} {x : Addr × Cl} (h : cs[j]? = some x) : cs.Perm (x :: cs.eraseIdx j) := by
  induction cs generalizing j with
  | nil => simp at h
  | cons y ys ih =>
    cases j with
    | zero => simp at h; subst h; exact List.Perm.refl _
    | succ j =>
      have h' : ys[j]? = some x := by simpa using h
      exact ((ih h').cons y).trans (List.Perm.swap x y _)
theorem _root_.ML.RoomG.u1 {k : Nat} {A : Around} (r : RoomG k A) : A.units + 1 < cLine := by have := r.units; omega
/-- o.m(..), o a cell -/
theorem e_methC {ι β : Type} {C : Addr} {mn : Str} {A : ι → List Sl} {ci : ι → Cells} {m : ι → Option β} {res : ι → β → Sl} {co : ι → β → Cells} {E : XK} (j : Nat)
    (ha : Ev ta W G T cs fun sa cs1 => ∃ p l, sa = sRef p ∧ cs1[j]? = some (p, cObj C l) ∧ mn ∉ l.map (·.1) ∧ ∀ va, EvA t W G ((va, sa) :: T) cs1 fun sls cs2 => ∃ (i : ι) (b : β) (rest : Cells), m i = some b ∧ sa :: sls = A i ∧ cs2.Perm (ci i ++ rest) ∧ K (res i b) (co i b ++ rest)) :
    Ev (tMeth C mn (spM A ci m res co) [] E ta t) W G T cs K := fun s H st Q q => by
  refine ha s H st _ fun sa cs1 ⟨p, l, e, hj, hn, h1⟩ va H1 st1 => ?_
  subst e
  have ev : va = .ref p := ref_top st1
  subst ev
  obtain ⟨F1, c1, sg1, tm1⟩ := id st1
  obtain ⟨dx, fs, hF, hf⟩ := c1.obj hj
  refine ⟨p, dx, fs, rfl, hF, look_none (hf.names ▸ hn), ?_⟩
  refine h1 _ s H1 st1 _ fun sls cs2 ⟨i, b, rest, hm, e1, e2, k⟩ vs H2 ⟨F, c, sg, tm, ar⟩ => ?_
  rw [List.append_nil]
  exact call_gives hm (c.perm e2) sg tm.tail (e1 ▸ .cons tm.head ar) fun v H3 st3 => q _ _ k v H3 st3
/-- a def's call, its cells anywhere -/
theorem e_callP {ι β : Type} {A : ι → List Sl} {ci : ι → Cells} {m : ι → Option β} {res : ι → β → Sl} {co : ι → β → Cells} {E : XK}
    (h : EvA t W G T cs fun sls cs1 => ∃ (i : ι) (b : β) (rest : Cells), m i = some b ∧ sls = A i ∧ cs1.Perm (ci i ++ rest) ∧ K (res i b) (co i b ++ rest)) :
    Ev (tCall (spM A ci m res co) [] E t) W G T cs K := fun s H st Q q => by
  refine h s H st _ fun sls cs1 ⟨i, b, rest, hm, e1, e2, k⟩ vs H1 ⟨F, c, sg, tm, ar⟩ => ?_
  rw [List.append_nil]
  exact call_gives hm (c.perm e2) sg tm (e1 ▸ ar) fun v H3 st3 => q _ _ k v H3 st3
/-- an __init__ that leaves the instance and one more cell -/
def spI {ι β : Type} (C : Addr) (A : Addr → ι → List Sl) (m : ι → Option β) (co : Addr → Addr → β → Cells) : Sp := fun vs H Q _ =>
  ∃ (i : Addr × ι) (b : β) (W : Wd), m i.2 = some b ∧ Core W W.F [(i.1, cObj C [])] H ∧ Args W.F (A i.1 i.2) vs ∧ ∀ d, Rt Q W (rNon.at ()) (co i.1 d b)
theorem spI_len {ι β : Type} {C : Addr} {A : Addr → ι → List Sl} {m : ι → Option β} {co : Addr → Addr → β → Cells} {n : Nat} {vs : List V} {H : Hp} {Q : VK} {E : XK} (h : spI C A m co vs H Q E) (hA : ∀ p i, (A p i).length = n) : vs.length = n := by
  obtain ⟨i, b, W, _, _, ar, _⟩ := h
  rw [← hA i.1 i.2]
  exact ar.length.symm
/-- C(..): the new instance is a cell -/
theorem e_makeC {ι β : Type} {C : Addr} {A : Addr → ι → List Sl} {m : ι → Option β} {co : Addr → Addr → β → Cells} {E : XK}
    (h : EvA t W G T cs fun sls cs1 => ∃ (i : ι) (b : β), m i = some b ∧ (∀ p, sRef p :: sls = A p i) ∧ ∀ x d, K (sRef x) (co x d b ++ cs1)) :
    Ev (tMake C (spI C A m co) [] E t) W G T cs K := fun s H st Q q => by
  refine h s H st _ fun sls cs1 ⟨i, b, hm, e1, k⟩ vs H1 ⟨F, c, sg, tm, ar⟩ => ?_
  intro x dx hx hdx hne
  rw [List.append_nil]
  have c1 := c.new (o := .own x) hdx
  have sF : Same F (upd F dx (.own x)) := same_upd (c.fh.free hdx)
  have hx1 : (upd H1 dx (.own x)) x = none := by rw [upd_ne (Ne.symm hne)]; exact hx
  have c2 := c1.newCell (c := cObj C []) hx1 ⟨dx, [], rfl, .nil⟩
  have c2' : Core W (upd F dx (.own x)) ([(x, cObj C [])] ++ cs1) (upd (upd H1 dx (.own x)) x (.ins C dx [])) := c2.perm List.perm_append_comm
  refine ⟨(x, i), b, Wd.sub (upd F dx (.own x)) _ [(x, cObj C [])], hm, c2'.sub, ?_, fun d v H2 ⟨F2, c3, pv⟩ => ⟨pv, ?_⟩⟩
  · show Args (upd F dx (.own x)) (A x i) _
    rw [← e1 x]
    exact .cons rfl (ar.imp fun sl _ z => sl.mono sF z)
  · have sF2 : Same (upd F dx (.own x)) F2 := c3.f0
    exact q _ _ (k x d) (.ref x) H2 ⟨F2, c2'.unsub c3, sg.mono (sF.trans sF2), (tm.mono (sF.trans sF2)).cons rfl⟩
/-! ## while (x := e) is None: .. -/
def walO {β γ : Type} (f : β → Option (Option γ × β)) (g : β → Option β) : Nat → β → Option (γ × β)
  | 0, _ => none
  | n + 1, b => match f b with
    | none => none
    | some (some x, b') => some (x, b')
    | some (none, b') => match g b' with
      | none => none
      | some b'' => walO f g n b''
theorem wal_sound {tbd : TS} {β γ : Type} {f : β → Option (Option γ × β)} {g : β → Option β} {n : Nat} {b0 b1 : β} {x : γ} {r : R γ} (nn : NN r) (i : Nat) (Gb : β → Gam) (cb : β → Cells) (hl : walO f g n b0 = some (x, b1)) (hw : Wkn G (Gb b0)) (hc : cs = cb b0)
    (hi : ∀ b, (Gb b)[i]? = some none)
    (test : ∀ b o b', f b = some (o, b') → Ev te W (Gb b) T (cb b) fun sl cs1 => sl = (rOpt r).at o ∧ Gb b' = Gb b ∧ cs1 = cb b')
    (body : ∀ b b', g b = some b' → ∀ N : L2.St → Hp → Prop, NxT N W (Gb b') T (cb b') → ∀ Bk : L2.St → Hp → Prop, NxT (tbd ⟨N, rt, Bk, N⟩) W (Gb b) T (cb b))
    (after : NxT nx W ((Gb b1).set i (some (r.at x))) T (cb b1)) : NxT (tWhileW (wCmp rIsNone (wNm (wE te) i) (tC .non)) tbd tNext ⟨nx, rt, bk, ct⟩) W G T cs := fun s H ⟨F, c, sg, t⟩ => by
  subst hc
  refine ⟨fun m s H => ∃ b, walO f g m b = some (x, b1) ∧ Sta W (Gb b) T (cb b) s H, ⟨n, b0, hl, F, c, sg.weak hw, t⟩, ?_⟩
  rintro m s H ⟨b, hm, st⟩
  cases m with
  | zero => cases hm
  | succ m =>
    unfold walO at hm
    cases ef : f b with
    | none => rw [ef] at hm; cases hm
    | some p =>
      obtain ⟨o, b'⟩ := p
      rw [ef] at hm
      refine test b o b' ef s H st _ fun sl cs1 ⟨e1, e2, e3⟩ v H1 st1 => ?_
      subst e1 e3
      obtain ⟨F1, c1, sg1, tm1⟩ := st1
      cases o with
      | none =>
        have ev : v = .non := tm1.head
        subst ev
        refine ⟨rfl, true, rfl, ?_⟩
        dsimp only
        rw [if_pos rfl]
        cases eg : g b' with
        | none => dsimp only at hm; rw [eg] at hm; cases hm
        | some b2 =>
          dsimp only at hm
          rw [eg] at hm
          refine ⟨fun s' H' => Sta W (Gb b2) T (cb b2) s' H', fun s' H' st' => ⟨m, Nat.lt_succ_self m, b2, hm, st'⟩, ?_⟩
          refine body b' b2 eg _ (fun s' H' st' => st') nx _ H1 ⟨F1, c1, ?_, tm1.tail⟩
          rw [e2]
          refine ⟨by rw [List.length_set]; exact sg1.1, fun j sl hj => ?_⟩
          by_cases e : i = j
          · subst e
            rw [hi] at hj
            cases hj
          · obtain ⟨w, h1, h2⟩ := sg1.2 j sl hj
            exact ⟨w, by rw [List.getElem?_set, if_neg e]; exact h1, h2⟩
      | some y =>
        dsimp only at hm
        have hm := Option.some.inj hm
        have e4 : y = x := (Prod.mk.inj hm).1
        have e5 : b' = b1 := (Prod.mk.inj hm).2
        subst e4 e5
        have pv : r.p y F1 v := tm1.head
        refine ⟨rfl, false, by rw [decide_eq_false (nn _ _ _ pv)], ?_⟩
        dsimp only
        rw [if_neg Bool.false_ne_true]
        refine after _ H1 ⟨F1, c1, ?_, tm1.tail⟩
        rw [e2]
        exact sg1.set pv
end
end ML

namespace ML
open PySem Spec PyProof.Rows L2 StX
/-! ## a, *b = a list -/
section
variable {prog : Program} {w : World} {A : Around} {E : Value → Shared → Prop} {s : Shared}
open PySem.W in
theorem star_items {l : Addr} {items : Array Value} {n i : Nat} {Q : List Value → Shared → Prop} (hl : s.heap.IsList l items) (hh : A.handled = none) (hi : i < n) (hn : n ≤ items.size + 1) (hz : items.size ≤ 16384)
    (h : ∀ (h2 : Heap) (tk : Nat), (∀ b o, s.heap.get? b = some o → h2.get? b = some o) → Q (items.toList.take i ++ [.ref h2.objs.size] ++ (items.toList.drop i).drop (items.size + 1 - n)) { s with heap := h2.push { cls := .type "list", data := .seq ((items.toList.drop i).take (items.size + 1 - n)).toArray }, toks := tk }) :
    wpAny (model prog w) A (unpackItems (.ref l) n (some i)) Q E s := by
  have hlt : l ≠ s.heap.objs.size := by obtain ⟨o, ho, _⟩ := hl; exact Nat.ne_of_lt (Heap.lt_size ho)
  unfold unpackItems
  refine wpAny_bind ?_
  unfold notIterableAtAll
  refine wpAny_bind (wpAny_specialOf hl.typeIs slot_list_iter.lookup ?_)
  refine wpAny_pure ?_
  simp only [Bool.false_eq_true, if_false]
  refine wpAny_bind (wpAny_holding (wpAny_pyIter_list hl ?_))
  refine wpAny_bind (wpAny_holding (kun_draw hlt i 0 _ _ ⟨_, Heap.get?_push_size _ rfl, rfl, rfl⟩ (hl.push _) (by omega) fun h₁ hit₁ hs₁ => ?_))
  have hl₁ : h₁.IsList l items := (hl.push _).extBut hs₁.extBut hlt
  rw [Nat.zero_add] at hit₁
  have hit₁' := hit₁
  obtain ⟨oi, hoi, _⟩ := hit₁'
  have hl₁' := hl₁
  obtain ⟨ol, hol, _⟩ := hl₁'
  rw [List.drop_zero]
  have hfl : (items.toList.take i).length = i := by rw [List.length_take, Array.length_toList]; omega
  rw [if_neg (show ¬ ((items.toList.take i).length < i) by rw [hfl]; omega)]
  refine wpAny_bind (wpAny_holding (kun_collect (s := { s with heap := h₁ }) (T := "list_iterator") (.inr (.inr (.inl rfl))) (Walks.list (A := A.in1) hh s.heap.objs.size l hlt items) (fun j u st => st.1.typeIs) (k := i) (by omega) ⟨hit₁, hl₁⟩ (Heap.lt_size hoi) (Heap.lt_size hol) (fun h₂ tk hk => ?_) (by rw [sizeLine_eq]; omega)))
  have hrl : (items.toList.drop i).length = items.size - i := by rw [List.length_drop, Array.length_toList]
  have hmid : (items.toList.drop i).length - (n - 1 - i) = items.size + 1 - n := by rw [hrl]; omega
  show wpAny _ _ (if (items.toList.drop i).length < n - 1 - i then _ else _) _ _ _
  rw [if_neg (by rw [hrl]; omega)]
  show wpAny _ _ (newList ((items.toList.drop i).take ((items.toList.drop i).length - (n - 1 - i))) >>= fun d => pure (items.toList.take i ++ [d] ++ (items.toList.drop i).drop ((items.toList.drop i).length - (n - 1 - i)))) _ _ _
  rw [hmid]
  refine wpAny_bind (wpAny_newList (s := { s with heap := h₂, toks := tk }) (wpAny_pure (h h₂ tk fun b o e => ?_)) (by rw [List.length_take, hrl, sizeLine_eq]; omega))
  have hb : b ≠ s.heap.objs.size := Nat.ne_of_lt (Heap.lt_size e)
  exact hk b o hb (hs₁.extBut b o hb (Heap.get?_push_of_some _ e))
end
/-- v is a list that n targets take, the one at i the rest -/
def gStar (K : PySem.W.Frag) (n i : Nat) (t : TGs) : TG := fun v σ H Q => ∃ a xs, v = .ref a ∧ SqL K H a xs ∧ n ≤ xs.length + 1 ∧ xs.length ≤ 16384 ∧ ∀ p, H p = none → t (xs.take i ++ [.ref p] ++ (xs.drop i).drop (xs.length + 1 - n)) σ (upd H p (.lst ((xs.drop i).take (xs.length + 1 - n)))) Q
section
variable {X : Cx} {pos : Pos}
theorem vals_take {xs : List V} {us : List Value} (r : Vals xs us) (n : Nat) : Vals (xs.take n) (us.take n) := Vals.take n r
theorem vals_drop {xs : List V} {us : List Value} (r : Vals xs us) (n : Nat) : Vals (xs.drop n) (us.drop n) := Vals.drop n r
theorem pg_star {es : List Expr} {k : Nat} {t : TGs} {n i : Nat} (hc : X.calm = true) (h : PGs X es t) (hi : i < n) (hn : (assignEach es X.env).length = n := by rfl) (hst : (assignEach es X.env).findIdx? (·.1) = some i := by rfl) : PG X (.Tuple es k pos) (gStar X.K n i t) := by
  refine ⟨fun pins s σ H v u Q I r hw => ?_⟩
  obtain ⟨a, xs, e1, hq, hl, hz, hw⟩ := hw
  subst e1
  cases r
  obtain ⟨its, rv, hls, _⟩ := I.list hq
  have lx := rv.length
  rw [assign_Tuple]
  refine wpAny_bind (wpAny_standAt ?_)
  unfold unpack
  rw [hn, hst]
  refine wpAny_bind (wpAny_holding (star_items hls.isList (I.ok.hd hc) hi (by rw [List.size_toArray]; omega) (by rw [List.size_toArray]; omega) fun h2 tk kp => ?_))
  have I1 : Inv X pins σ H { s with heap := h2, toks := tk } := I.kept (t' := tk) kp
  have hp : H h2.objs.size = none := I1.hok.fresh (Nat.le_refl _)
  have es' : its.toArray.size = xs.length := by rw [List.size_toArray, lx]
  have I2 := I1.laid (t' := tk) (a := h2.objs.size) (o := .lst ((xs.drop i).take (xs.length + 1 - n))) (h' := h2.push { cls := .type "list", data := .seq ((its.toArray.toList.drop i).take (its.toArray.size + 1 - n)).toArray }) (fun b o e => Heap.get?_push_of_some _ e) (Nat.le_refl _)
    ⟨by rw [List.length_take, List.length_drop, sizeLine_eq]; omega, (its.drop i).take (xs.length + 1 - n), _, vals_take (vals_drop rv i) _, by rw [es']; exact Heap.get?_push_size _ rfl⟩
  refine h.run pins _ σ _ _ _ Q I2 ?_ (hw _ hp)
  rw [es']
  have rr : Vals [V.ref h2.objs.size] [Value.ref h2.objs.size] := .cons rfl .nil
  exact (Vals.append (Vals.append (vals_take rv i) rr) (vals_drop (vals_drop rv i) _))
theorem pgs_star {e : Expr} {es : List Expr} {p : Pos} {t : TG} {u : TGs} (h1 : PG X e t) (h2 : PGs X es u)
    (hs : (assignEach (.Starred e p :: es) X.env).map (·.2) = assign e X.env :: (assignEach es X.env).map (·.2) := by rfl) : PGs X (.Starred e p :: es) (gCons t u) := by
  refine ⟨fun pins s σ H vs us Q I r h => ?_⟩
  obtain ⟨v, vr, e1, h⟩ := h
  subst e1
  cases r with
  | cons r rr =>
    rw [hs]
    refine assignInOrder_cons (thn (h1.run pins s σ H _ _ _ I r h) fun _ s1 ⟨σ1, H1, I1, q1⟩ => ?_)
    exact h2.run pins s1 σ1 H1 _ _ Q I1 rr q1
end
section
variable {nx bk ct : L2.St → Hp → Prop} {rt : VK}
variable {W : Wd} {G : Gam} {T : Tms} {cs : Cells} {te : TE} {KF : PySem.W.Frag}
/-- the first item and the others -/
def oFirst {α : Type} (xs : List α) : Option (α × List α) := match xs with
  | [] => none
  | x :: r => if xs.length ≤ 16384 then some (x, r) else none
theorem oFirst_ok {α : Type} {xs : List α} {x : α} {r : List α} (h : oFirst xs = some (x, r)) : xs = x :: r ∧ xs.length ≤ 16384 := by
  unfold oFirst at h
  cases xs with
  | nil => cases h
  | cons y ys =>
    dsimp only at h
    split at h
    · rename_i hz
      cases h
      exact ⟨rfl, hz⟩
    · cases h
theorem s_star {i j : Nat} (h : Ev te W G T cs fun sl cs1 => ∃ (α : Type) (r : R α) (xs : List α) (x : α) (ys : List α), sl = (rLst r).at xs ∧ oFirst xs = some (x, ys) ∧ NxT nx W ((G.set i (some (r.at x))).set j (some ((rLst r).at ys))) T cs1) :
    NxT (tAsg te (gStar KF 2 1 (gCons (gName i) (gCons (gName j) gNil))) ⟨nx, rt, bk, ct⟩) W G T cs := fun s H st => by
  refine h s H st _ fun sl cs1 ⟨α, r, xs, x, ys, e1, hf, k⟩ v H1 ⟨F, c, sg, tm⟩ => ?_
  subst e1
  obtain ⟨ex, hz⟩ := oFirst_ok hf
  subst ex
  obtain ⟨hs, a, vs, rfl, hF, hA⟩ := tm.head
  cases hA with
  | cons p q =>
    rename_i u us
    have lu := q.length
    refine ⟨a, u :: us, rfl, SqL.of (c.fh _ _ hF), by rw [List.length_cons]; omega, by rw [List.length_cons] at hz ⊢; omega, fun pp hpp => ?_⟩
    have e1 : ((u :: us).take 1 ++ [V.ref pp] ++ ((u :: us).drop 1).drop ((u :: us).length + 1 - 2)) = [u, .ref pp] := by
      show [u] ++ [V.ref pp] ++ us.drop (us.length + 1 + 1 - 2) = _
      rw [show us.length + 1 + 1 - 2 = us.length by omega, List.drop_length]
      rfl
    have e2 : ((u :: us).drop 1).take ((u :: us).length + 1 - 2) = us := by
      show us.take (us.length + 1 + 1 - 2) = us
      rw [show us.length + 1 + 1 - 2 = us.length by omega, List.take_length]
    rw [e1, e2]
    have sF : Same F (upd F pp (.lst us)) := same_upd (c.fh.free hpp)
    refine ⟨u, [.ref pp], rfl, .ref pp, [], rfl, rfl, ?_⟩
    refine k _ _ ⟨_, c.new hpp, ((sg.mono sF).set (r.mono sF p)).set (sl := (rLst r).at ys) ⟨?_, pp, us, rfl, upd_same, q.imp fun _ _ z => r.mono sF z⟩, tm.tail.mono sF⟩
    rw [List.length_cons] at hs
    exact Nat.le_trans (Nat.le_succ _) hs
end
end ML

namespace ML
open PySem Spec PyProof.Rows L2 StX
section
variable {P : Program} {w : World} {A : Around} {E : Value → Shared → Prop} {s : Shared}
theorem s_initT {l : Addr} {items : Array Value} (ks : Rows) {Q : Value → Shared → Prop} (hh : A.handled = none) (hl : s.heap.IsTuple l items) (hit : items.toList = ks.map fun p => Value.ref p.1)
    (hk : ∀ p ∈ ks, NI s.heap p.2 p.1) (few : ks.length < 1200) (hu : A.units + 12 < cLine)
    (q : ∀ (h' : Heap) (tk : Nat) L es ep t, STab w h' s.heap.objs.size L es ep t → Had ks ks.length L → (∀ b o, s.heap.get? b = some o → h'.get? b = some o) → Q (.ref s.heap.objs.size) { s with heap := h', toks := tk }) :
    wpAny (model P w) A (call (.type "set") [.ref l]) Q E s := by
  have isz : items.size = ks.length := by rw [← Array.length_toList, hit, List.length_map]
  have C := PySem.F.called_set
  obtain ⟨c, tl, hmro⟩ := C.mro
  have hmade := C.made
  have hsub := C.sub
  refine wpAny_call (codeAny_of_tree ?_)
  show wpAny _ _ (callAny (.type "set") _) _ _ _
  refine wpAny_pure ⟨Code.quiet_builtin _ (by decide +kernel), codeAny_builtin F.entry_type_call ?_⟩
  rw [Around.under_plain (weight_type_call_type "set" [.ref l] []) rfl]
  have h1 := C.notType
  have h2 := C.canCreate
  have hct := F.typeCall_set_1 (.ref l)
  repeat (any_goals (first | assumption | wp_step))
  refine codeAny_mono (code_set_led1 (.ref l) (E := E) (Q₁ := fun obj s₁ => obj = .ref s.heap.objs.size ∧ s₁ = { s with heap := s.heap.push (set0 w) }) ⟨rfl, rfl⟩) fun r s₁ hr => ?_
  match r, hr with
  | .error e, hr => exact hr
  | .ok .next, hr => exact hr.elim
  | .ok .brk, hr => exact hr.elim
  | .ok .cont, hr => exact hr.elim
  | .ok (.ret _), hr =>
    obtain ⟨rfl, rfl⟩ := hr
    have at0 : (s.heap.push (set0 w)).get? s.heap.objs.size = some (set0 w) := Heap.get?_push_size _ rfl
    have hT : Shared.TypeIs { s with heap := s.heap.push (set0 w) } (.ref s.heap.objs.size) "set" := ⟨_, at0, rfl⟩
    have hli := C.init.lookup
    have hbi := C.init.bind (.ref s.heap.objs.size)
    repeat (any_goals (first | assumption | wp_step))
    refine codeAny_mono (codeAny_call_builtin (R := wants (fun r s₂ => r = .none ∧ ∃ h' tk L es ep t, s₂ = { s with heap := h', toks := tk } ∧ STab w h' s.heap.objs.size L es ep t ∧ Had ks ks.length L ∧
        (∀ b o, s.heap.get? b = some o → h'.get? b = some o)) E) C.init.plain F.entry_set_init (check_set_init_1 hT ?_)) fun r₂ s₂ hr₂ => ?_
    · have hl' := hl
      obtain ⟨⟨ocls, odict, odata, oslots⟩, hol, hcl, nl, hdl⟩ := hl'
      simp only at hcl hdl
      subst hcl hdl
      have hol' : (s.heap.push (set0 w)).get? l = some { cls := .type "tuple", dict := odict, data := .seq items nl, slots := oslots } := Heap.get?_push_of_some _ hol
      have sub1 := F.sub_tuple_set
      have sub2 := F.sub_tuple_frozenset
      have ne : (Value.type "tuple" == Value.type "dict") = false := by decide
      have hl1 : (s.heap.push (set0 w)).IsTuple l items := ⟨_, hol', rfl, nl, rfl⟩
      have lt : l < s.heap.objs.size := Heap.lt_size hol
      unfold Builtin.«set.__init__» noKeywords Builtin.Frozenset.updateFrom
      generalize hPI : pyIter = PI
      wp_walk
      subst hPI
      refine wpAny_pyIter_tuple hl1 (wpAny_bind (wpAny_runValue ?_))
      have hh3 : A.in1.in1.in1.handled = none := by simp [hh]
      have ps : (s.heap.push (set0 w)).objs.size = s.heap.objs.size + 1 := Heap.size_push ..
      have lI : l ≠ (s.heap.push (set0 w)).objs.size := by rw [ps]; exact Nat.ne_of_lt (Nat.lt_succ_of_lt lt)
      have out : s.heap.objs.size ∉ [(s.heap.push (set0 w)).objs.size, l] := by
        rw [ps]
        simp only [List.mem_cons, List.mem_singleton, List.not_mem_nil, or_false, not_or]
        exact ⟨Nat.ne_of_lt (Nat.lt_succ_self _), Nat.ne_of_gt lt⟩
      have val : ∀ (i : Nat) (v : Value), items[i]? = some v → ∃ p, ks[i]? = some p ∧ v = .ref p.1 := fun i v hv => by
        rw [← Array.getElem?_toList, hit, List.getElem?_map] at hv
        obtain ⟨p, e1, e2⟩ := Option.map_eq_some_iff.mp hv
        exact ⟨p, e1, e2.symm⟩
      refine s_loop ((Walks.tuple hh3 _ l lI items).toS) s.heap.objs.size out ks isz few val s.heap hk (gone_at (Nat.le_refl _)) (fun b hb => gone_at (by rw [List.mem_singleton.mp hb, ps]; exact Nat.le_succ _)) (by show A.units + 1 + 1 + 1 + 8 < cLine; omega)
        (items.size - 0) 0 _ (by omega) (Nat.zero_le _) ⟨⟨_, Heap.get?_push_size _ rfl, rfl, rfl⟩, (hl1.push _)⟩ (fun b o e => Heap.get?_push_of_some _ (Heap.get?_push_of_some _ e)) ?start ?fin
      case start => exact ⟨[], #[], 0, _, STab.fresh (Heap.get?_push_of_some _ at0), Had.zero ks⟩
      case fin =>
        intro s' L es ep t hm T g kp
        obtain ⟨h', g2, d', tk', os'⟩ := s'
        obtain rfl : g2 = s.gens := hm.gens
        obtain rfl : d' = s.drawn := hm.drawn
        obtain rfl : os' = s.os := hm.os
        rw [isz] at g
        exact wpAny_pure (wpAny_pure ⟨rfl, h', tk', L, es, ep, t, rfl, T, g, kp⟩)
    · match r₂, hr₂ with
      | .error e, hr => exact hr
      | .ok .next, hr => exact hr.elim
      | .ok .brk, hr => exact hr.elim
      | .ok .cont, hr => exact hr.elim
      | .ok (.ret _), hr =>
        obtain ⟨rfl, h', tk, L, es, ep, t, rfl, T, g, kp⟩ := hr
        repeat (any_goals (first | assumption | wp_step))
        exact q _ _ _ _ _ _ T g kp
end
def tSortSetT (K : PySem.W.Frag) (t : TE) : TE := fun σ H Q => t σ H fun x H1 => ∃ (l : Addr) (L : Rows), x = V.ref l ∧ SqT K H1 l (L.map fun p => V.ref p.1) ∧ (∀ p ∈ L, Dp K H1 (.ref p.1) p.2.data ∧ numK p.2 = true ∧ p.2.depth ≤ 8) ∧ L.length < 1200 ∧ Alike (kys L) ∧
  ∀ (M : Rows) (p : Addr), (∀ q ∈ M, q ∈ L) → (∀ q ∈ L, q.2 ∈ kys M) → M.Pairwise (fun q r => ltK q.2 r.2 = true) → H1 p = none → Q (.ref p) (upd H1 p (.lst (M.map fun q => V.ref q.1)))

section
variable {X : Cx}
theorem pe_sortSetT {a : Expr} {ta : TE} {p p2 q pos : Pos} {k : Nat} (hc : X.calm = true) (hr : RoomG k X.A) (hg : Gl X "sorted") (hm : X.mg "sorted" = none) (hg2 : Gl X "set") (hm2 : X.mg "set" = none) (ha : PE X a ta)
    (na : starEach [a] X.env = (false, eval a X.env) :: starEach [] X.env := by rfl) : PE X (.Call (.Name "sorted" p) [.Call (.Name "set" p2) [a] [] q] [] pos) (tSortSetT X.K ta) := by
  refine ⟨fun pins s σ H Q I h => ?_⟩
  have hu := hr.units
  refine Call_ (ld_blt I hg hm boot_sorted' ?_)
  refine PyProof.Rows.callWith_builtin1 (PyProof.Rows.args_cons ?_ rfl) rfl rfl
  refine Call_ (ld_blt I hg2 hm2 PyProof.Rows.boot_set ?_)
  refine PyProof.Rows.callWith_type1 (PyProof.Rows.args_cons (thn (ha.run pins s σ H _ I h) fun v s1 ⟨x, H1, I1, r1, q1⟩ => PyProof.Rows.args_nil ?_) na) na rfl
  obtain ⟨l, L, rfl, hq, hL, few, al, q1⟩ := q1
  cases r1
  obtain ⟨its, r, pl, hz⟩ := I1.tuple hq
  have hk : ∀ p ∈ L, NI s1.heap p.2 p.1 := fun p hp => by
    obtain ⟨d, n, dp⟩ := hL p hp
    obtain ⟨as, rd⟩ := Dp.reads I1 _ _ _ d rfl
    exact ⟨PN.of rd n, dp, n⟩
  refine s_initT L (I1.ok.hd hc) pl (by simpa using rows_vals r) hk few (by omega) fun h' tk L2 es ep t T g kp => ?_
  refine PyProof.Rows.args_nil ?_
  have I2 : Inv X pins σ H1 { s1 with heap := h', toks := tk } := I1.kept kp
  have sub : ∀ q ∈ L2, q ∈ L := fun q hq => List.mem_of_mem_take (g.sub q hq)
  have al2 : Alike (kys L2) := by
    have mm : ∀ k ∈ kys L2, k ∈ kys L := fun k hk => by
      obtain ⟨q, hq, e⟩ := List.mem_map.mp hk
      exact List.mem_map.mpr ⟨q, sub q hq, e⟩
    exact ⟨al.1.imp (fun z k hk => z k (mm k hk)) (fun z k hk => z k (mm k hk)), fun x hx y hy => al.2 x (mm x hx) y (mm y hy)⟩
  refine s_sorted (s := { s1 with heap := h', toks := tk }) T (I1.ok.hd hc) (by omega) (fun _ => al2) fun s' p out c M k2 g2 o2 hp hg hout pm pw => ?_
  have hn : H1 p = none := I2.hok.fresh hp
  have hlen : (M.map fun q => V.ref q.1).length ≤ sizeLine := by
    have := T.fw
    rw [List.length_map, pm.length_eq, sizeLine_eq]
    omega
  have hv : Vals (M.map fun q => V.ref q.1) out := by rw [hout]; exact vals_rows M
  have J := I2.call (h' := s'.heap) (g' := s'.gens) (d' := s'.drawn) (t' := s'.toks) (H' := upd H1 p (.lst (M.map fun q => V.ref q.1))) (ch := []) (Un.laid k2 hp hn) (I2.hok.laid k2 hp ⟨hlen, out, c, hv, hg⟩) (by rw [g2]; exact I2.bare) (fun _ z => nomatch z)
  have e : s' = { s1 with heap := s'.heap, gens := s'.gens, drawn := s'.drawn, toks := s'.toks } := by
    cases s'
    cases s1
    cases o2
    rfl
  rw [e]
  refine ⟨.ref p, _, J, rfl, q1 M p (fun q hq => sub q (pm.mem_iff.mp hq)) (fun q hq => ?_) pw hn⟩
  have := g.all q (by rw [List.take_length]; exact hq)
  exact (pm.map (·.2)).mem_iff.mpr this
end
section
variable {nx bk ct : L2.St → Hp → Prop} {rt : VK}
variable {W : Wd} {G : Gam} {T : Tms} {cs : Cells} {K : Sl → Cells → Prop} {t : TA} {ta tb te : TE} {KF : PySem.W.Frag}
theorem sort_endT {α : Type} {r : R α} (e : RKey r) {xs : List α} {F H1 : Hp} {s : L2.St} {va : V} {l : Addr} {us : List V} {Q : V → Hp → Prop} (few : xs.length < 1200) (al : Alike (xs.map e.k)) (c : Core W F cs H1) (sg : Slots F G s) (tm : Temps F T)
    (ev : va = .ref l) (hl : SqT KF H1 l us) (hA : All2 (fun x u => r.p x F u) xs us) (q : ∀ p H', Sta W G ((V.ref p, (rLst r).at (sortK e.k xs)) :: T) cs s H' → Q (.ref p) H') :
    ∃ (l : Addr) (L : Rows), va = V.ref l ∧ SqT KF H1 l (L.map fun p => V.ref p.1) ∧ (∀ p ∈ L, Dp KF H1 (.ref p.1) p.2.data ∧ numK p.2 = true ∧ p.2.depth ≤ 8) ∧ L.length < 1200 ∧ Alike (kys L) ∧
      ∀ (M : Rows) (p : Addr), (∀ q ∈ M, q ∈ L) → (∀ q ∈ L, q.2 ∈ kys M) → M.Pairwise (fun q r => ltK q.2 r.2 = true) → H1 p = none → Q (.ref p) (upd H1 p (.lst (M.map fun q => V.ref q.1))) := by
  obtain ⟨L, e1, e2, e3, e4⟩ := all2_rows e (K := KF) c.fh hA
  subst e1
  have ll : L.length = xs.length := by
    have := congrArg List.length e2
    rwa [List.length_map, List.length_map] at this
  refine ⟨l, L, ev, hl, e4, by omega, by rw [e2]; exact al, fun M p m1 m2 m3 hp => ?_⟩
  have ek : kys M = (sortK e.k xs).map e.k := by
    refine up_unique (List.pairwise_map.mpr m3) (List.pairwise_map.mpr (sort_up e.nm xs)) fun k => ⟨fun hk => ?_, fun hk => ?_⟩
    · obtain ⟨z, hz, ez⟩ := List.mem_map.mp hk
      obtain ⟨x, hx, ex, _⟩ := e3 z (m1 z hz)
      rw [← ez, ex]
      exact sort_has x hx
    · obtain ⟨x, hx, ex⟩ := List.mem_map.mp hk
      have : e.k x ∈ kys L := by rw [e2]; exact List.mem_map.mpr ⟨x, sort_mem hx, rfl⟩
      obtain ⟨z, hz, ez⟩ := List.mem_map.mp this
      rw [← ex, ← ez]
      exact m2 z hz
  have A2 := rows_all2 e (F := F) (M := M) (sortK e.k xs) (fun z hz => let ⟨x, _, b⟩ := e3 z (m1 z hz); ⟨x, b⟩) ek
  have sF : Same F (upd F p (.lst (M.map fun q => V.ref q.1))) := same_upd (c.fh.free hp)
  have nl : (sortK e.k xs).length ≤ sizeLine := by
    have i1 : ∀ (x : α) (l : List α), (insK e.k x l).length ≤ l.length + 1 := fun x l => by
      induction l with
      | nil => exact Nat.le_refl _
      | cons y ys ih =>
        rw [insK]
        split
        · exact Nat.le_succ _
        · split
          · exact Nat.le_refl _
          · exact Nat.succ_le_succ ih
    have i2 : ∀ l : List α, (sortK e.k l).length ≤ l.length := fun l => by
      induction l with
      | nil => exact Nat.le_refl _
      | cons y ys ih => exact Nat.le_trans (i1 _ _) (Nat.succ_le_succ ih)
    have := i2 xs
    rw [sizeLine_eq]
    omega
  exact q p _ ⟨_, c.new hp, sg.mono sF, (tm.mono sF).cons ⟨nl, p, _, rfl, upd_same, A2.imp fun _ _ z => r.mono sF z⟩⟩

/-- sorted(set(t)), t a tuple of splits -/
theorem e_sortST (ha : Ev ta W G T cs fun sa cs1 => ∃ (xs z : List (List Int × Int)), sa = (rTup (rPair (rTup rInt) rInt)).at xs ∧ oSortS xs = some z ∧ K ((rLst (rPair (rTup rInt) rInt)).at z) cs1) :
    Ev (tSortSetT KF ta) W G T cs K := fun s H st Q q => by
  refine ha s H st _ fun sa cs1 ⟨xs, z, e1, ho, k⟩ va H1 ⟨F, c, sg, tm⟩ => ?_
  subst e1
  obtain ⟨few, ez⟩ := of_ite ho
  subst ez
  obtain ⟨hz, a, us, ev, hF, hA⟩ := tm.head
  exact sort_endT kSplit few (alike_split xs) c sg tm.tail ev (SqT.of (c.fh _ _ hF)) hA fun p' H' st' => q _ _ k _ H' st'
end
/-! ## x in data -/
mutual
theorem plain_of_lay : ∀ d : PyData, d.canLay0 = true → d.plain = true
  | .none, _ => rfl
  | .bool _, _ => rfl
  | .int _, _ => rfl
  | .str _, _ => rfl
  | .list xs, h => by
    have h : PyData.canLayAll0 xs = true := by simpa [PyData.canLay0] using h
    show PyData.plainAll xs = true
    exact plainAll_of_lay xs h
  | .tuple xs, h => by
    have h : PyData.canLayAll0 xs = true := by simpa [PyData.canLay0] using h
    show PyData.plainAll xs = true
    exact plainAll_of_lay xs h
  | .dict _, h => by simp [PyData.canLay0] at h
theorem plainAll_of_lay : ∀ xs : List PyData, PyData.canLayAll0 xs = true → PyData.plainAll xs = true
  | [], _ => rfl
  | x :: xs, h => by
    have h : x.canLay0 = true ∧ PyData.canLayAll0 xs = true := by simpa [PyData.canLayAll0] using h
    show (x.plain && PyData.plainAll xs) = true
    rw [plain_of_lay x h.1, plainAll_of_lay xs h.2]
    rfl
end
def rInDT (K : PySem.W.Frag) (ng : Bool) : R2 := fun x y H Q => ∃ d ds, Dp K H x d ∧ (Dp K H y (.tuple ds) ∨ Dp K H y (.list ds)) ∧ d.canLay0 = true ∧ PyData.canLayAll0 ds = true ∧ d.depth ≤ 60 ∧ Q (.bl (if ng = true then !ds.any fun z => PyData.eqv z d else ds.any fun z => PyData.eqv z d)) H
theorem op_inDT {X : Cx} {k : Nat} (hr : RoomG k X.A) : OpR X (compareOp .In) (rInDT X.K false) := by
  intro pins s σ H x y v u Q I rx ry h
  obtain ⟨d, ds, hd, he, sd, se, dep, q⟩ := h
  obtain ⟨as, r1⟩ := Dp.reads I d x v hd rx
  have hu := hr.units
  have hm : X.A.units + 1 + min (PyData.depthAll ds) d.depth < cLine := by
    have := Nat.min_le_right (PyData.depthAll ds) d.depth
    omega
  rcases he with he | he
  · obtain ⟨bs, r2⟩ := Dp.reads I _ y u he ry
    exact SeqAt.in_tuple_data r2 r1 (plainAll_of_lay ds se) (plain_of_lay d sd) hm ⟨.bl _, H, I, rfl, q⟩
  · obtain ⟨bs, r2⟩ := Dp.reads I _ y u he ry
    exact SeqAt.in_list_data r2 r1 (plainAll_of_lay ds se) (plain_of_lay d sd) hm ⟨.bl _, H, I, rfl, q⟩
theorem op_notInDT {X : Cx} {k : Nat} (hr : RoomG k X.A) : OpR X (compareOp .NotIn) (rInDT X.K true) := by
  intro pins s σ H x y v u Q I rx ry h
  obtain ⟨d, ds, hd, he, sd, se, dep, q⟩ := h
  obtain ⟨as, r1⟩ := Dp.reads I d x v hd rx
  have hu := hr.units
  have hm : X.A.units + 1 + min (PyData.depthAll ds) d.depth < cLine := by
    have := Nat.min_le_right (PyData.depthAll ds) d.depth
    omega
  rcases he with he | he
  · obtain ⟨bs, r2⟩ := Dp.reads I _ y u he ry
    exact SeqAt.notIn_tuple_data r2 r1 (plainAll_of_lay ds se) (plain_of_lay d sd) hm ⟨.bl _, H, I, rfl, q⟩
  · obtain ⟨bs, r2⟩ := Dp.reads I _ y u he ry
    exact SeqAt.notIn_list_data r2 r1 (plainAll_of_lay ds se) (plain_of_lay d sd) hm ⟨.bl _, H, I, rfl, q⟩
section
variable {W : Wd} {G : Gam} {T : Tms} {cs : Cells} {K : Sl → Cells → Prop} {ta tb te : TE} {KF : PySem.W.Frag}
theorem any_eqv {α : Type} [DecidableEq α] {r : R α} (e : REq r) (x : α) : ∀ xs : List α, ((xs.map e.d).any fun z => PyData.eqv z (e.d x)) = decide (x ∈ xs)
  | [] => by simp
  | y :: ys => by
    rw [List.map_cons, List.any_cons, any_eqv e x ys, e.eqv]
    by_cases h : y = x
    · simp [h]
    · have : ¬ x = y := fun z => h z.symm
      simp [h, this]
def inD {α : Type} [DecidableEq α] (x : α) (xs : List α) : Bool := decide (x ∈ xs)
theorem inD_iff {α : Type} [DecidableEq α] {x : α} {xs : List α} : inD x xs = true ↔ x ∈ xs := by simp [inD]
/-- x in xs, xs a tuple or a list that stands still -/
theorem e_inDT (ng : Bool) (ha : Ev ta W G T cs fun sa cs1 => ∀ va, Ev tb W G ((va, sa) :: T) cs1 fun sb cs2 => ∃ (α : Type) (_ : DecidableEq α) (r : R α) (e : REq r) (x : α) (xs : List α), e.n ≤ 60 ∧ sa = r.at x ∧ (sb = (rTup r).at xs ∨ sb = (rLst r).at xs) ∧ K (rBool.at (if ng = true then !inD x xs else inD x xs)) cs2) :
    Ev (tOp (rInDT KF ng) ta tb) W G T cs K := fun s H st Q q => by
  refine ha s H st _ fun sa cs1 h1 va H1 st1 => ?_
  refine h1 va s H1 st1 _ fun sb cs2 ⟨α, _, r, e, x, xs, hn, e1, e2, k⟩ vb H2 ⟨F, c, sg, tm⟩ => ?_
  subst e1
  refine ⟨e.d x, xs.map e.d, e.ok tm.tail.head c.fh, ?_, e.lay x, layAll e xs, Nat.le_trans (e.dep x) hn, ?_⟩
  · rcases e2 with e2 | e2
    · subst e2; exact .inl ((eTup e).ok tm.head c.fh)
    · subst e2; exact .inr ((eLst e).ok tm.head c.fh)
  · rw [any_eqv]
    exact q _ _ k _ H2 ⟨F, c, sg, tm.tail.tail.cons rfl⟩
/-- x in a list cell -/
theorem e_inDC (ng : Bool) (j : Nat) (ha : Ev ta W G T cs fun sa cs1 => ∀ va, Ev tb W G ((va, sa) :: T) cs1 fun sb cs2 => ∃ (α : Type) (_ : DecidableEq α) (r : R α) (e : REq r) (p : Addr) (x : α) (xs : List α), e.n ≤ 60 ∧ sa = r.at x ∧ sb = sRef p ∧ cs2[j]? = some (p, cLst r xs) ∧ K (rBool.at (if ng = true then !inD x xs else inD x xs)) cs2) :
    Ev (tOp (rInDT KF ng) ta tb) W G T cs K := fun s H st Q q => by
  refine ha s H st _ fun sa cs1 h1 va H1 st1 => ?_
  refine h1 va s H1 st1 _ fun sb cs2 ⟨α, _, r, e, p, x, xs, hn, e1, e2, hj, k⟩ vb H2 ⟨F, c, sg, tm⟩ => ?_
  subst e1 e2
  have eb : vb = .ref p := tm.head
  subst eb
  obtain ⟨hz, us, hH, hA⟩ := c.lst hj
  refine ⟨e.d x, xs.map e.d, e.ok tm.tail.head c.fh, .inr (Dp.lst (SqL.of hH) (dpAll e c.fh hA)), e.lay x, layAll e xs, Nat.le_trans (e.dep x) hn, ?_⟩
  rw [any_eqv]
  exact q _ _ k _ H2 ⟨F, c, sg, tm.tail.tail.cons rfl⟩
/-! ## bools are or are not the same -/
theorem e_isB (ha : Ev ta W G T cs fun sa cs1 => ∃ x, sa = rBool.at x ∧ ∀ va, Ev tb W G ((va, sa) :: T) cs1 fun sb cs2 => ∃ y, sb = rBool.at y ∧ K (rBool.at (decide (x = y))) cs2) :
    Ev (tOp rIsB ta tb) W G T cs K := fun s H st Q q => by
  refine ha s H st _ fun sa cs1 ⟨x, e, hb⟩ va H1 st1 => ?_
  subst e
  refine hb va s H1 st1 _ fun sb cs2 ⟨y, e, k⟩ vb H2 ⟨F, c, sg, tm⟩ => ?_
  subst e
  exact ⟨x, y, tm.tail.head, tm.head, q _ _ k _ H2 ⟨F, c, sg, tm.tail.tail.cons rfl⟩⟩
theorem e_notB (ha : Ev ta W G T cs fun sa cs1 => ∃ x, sa = rBool.at x ∧ ∀ va, Ev tb W G ((va, sa) :: T) cs1 fun sb cs2 => ∃ y, sb = rBool.at y ∧ K (rBool.at (!decide (x = y))) cs2) :
    Ev (tOp rNotB ta tb) W G T cs K := fun s H st Q q => by
  refine ha s H st _ fun sa cs1 ⟨x, e, hb⟩ va H1 st1 => ?_
  subst e
  refine hb va s H1 st1 _ fun sb cs2 ⟨y, e, k⟩ vb H2 ⟨F, c, sg, tm⟩ => ?_
  subst e
  exact ⟨x, y, tm.tail.head, tm.head, q _ _ k _ H2 ⟨F, c, sg, tm.tail.tail.cons rfl⟩⟩
/-! ## how many different ints -/
def dis : List Int → List Int
  | [] => []
  | x :: xs => if x ∈ xs then dis xs else x :: dis xs
theorem dis_mem {k : Int} : ∀ {xs : List Int}, k ∈ dis xs ↔ k ∈ xs
  | [] => Iff.rfl
  | x :: xs => by
    unfold dis
    split
    · rename_i h
      rw [dis_mem (xs := xs), List.mem_cons]
      exact ⟨.inr, fun z => z.elim (fun e => e ▸ h) id⟩
    · rw [List.mem_cons, List.mem_cons, dis_mem (xs := xs)]
theorem dis_nodup : ∀ xs : List Int, (dis xs).Nodup
  | [] => List.nodup_nil
  | x :: xs => by
    unfold dis
    split
    · exact dis_nodup xs
    · rename_i h
      exact List.nodup_cons.mpr ⟨fun z => h (dis_mem.mp z), dis_nodup xs⟩
def tLenSetT (K : PySem.W.Frag) (ta : TE) : TE := fun σ H Q => ta σ H fun x H1 => ∃ (l : Addr) (ns : List Int), x = .ref l ∧ SqT K H1 l (ns.map V.int) ∧ ns.length ≤ 4000 ∧ Q (.int ((dis ns).length : Nat)) H1
theorem pe_lenSetT {X : Cx} {a : Expr} {ta : TE} {p p2 q pos : Pos} (hg : Gl X "len") (hm : X.mg "len" = none) (hg2 : Gl X "set") (hm2 : X.mg "set" = none) (ha : PE X a ta) (hc : X.calm = true := by rfl)
    (na : starEach [a] X.env = (false, eval a X.env) :: starEach [] X.env := by rfl) : PE X (.Call (.Name "len" p) [.Call (.Name "set" p2) [a] [] q] [] pos) (tLenSetT X.K ta) := by
  refine ⟨fun pins s σ H Q I h => ?_⟩
  refine Call_ (ld_blt I hg hm boot_len ?_)
  refine PyProof.Rows.callWith_builtin1 (PyProof.Rows.args_cons ?_ rfl) rfl rfl
  refine Call_ (ld_blt I hg2 hm2 boot_set ?_)
  refine PyProof.Rows.callWith_type1 (PyProof.Rows.args_cons (thn (ha.run pins s σ H _ I h) fun v s1 ⟨x, H1, I1, r1, q1⟩ => PyProof.Rows.args_nil ?_) na) na rfl
  obtain ⟨l, ns, rfl, hq, hl, q1⟩ := q1
  cases r1
  obtain ⟨its, r, pl, hz⟩ := I1.tuple hq
  refine call_set_tupI ns (I1.ok.hd hc) pl (by simpa using RZ.intsAre_vals r) (by unfold scanBound; omega) fun h' tk c hS hk kp => ?_
  refine PyProof.Rows.args_nil ?_
  obtain ⟨o, es, ep, t, ho, hex, hd, hgd, nd, hmem, hb, hf, hn, _⟩ := hS
  have I2 : Inv X pins σ H1 { s1 with heap := h', toks := tk } := I1.kept kp
  have ec : c = (dis ns).length := by
    have pm : (es.toList.map keyOf).Perm (dis ns) := (List.perm_ext_iff_of_nodup nd (dis_nodup ns)).mpr fun k => by
      rw [← hmem k, dis_mem, decide_eq_true_eq]
    have := pm.length_eq
    rw [List.length_map, Array.length_toList, hn] at this
    exact this
  subst ec
  exact call_len_set ho hex hd hf (by rw [hn] <;> omega) ⟨.int (dis ns).length, H1, I2.tok _, ⟨_, by rw [hn]⟩, q1⟩
theorem e_lenSetT (ha : Ev ta W G T cs fun sa cs1 => ∃ ns, sa = (rTup rInt).at ns ∧ ns.length ≤ 4000 ∧ K (rInt.at ((dis ns).length : Int)) cs1) : Ev (tLenSetT KF ta) W G T cs K := fun s H st Q q => by
  refine ha s H st _ fun sa cs1 ⟨ns, e, hl, k⟩ va H1 ⟨F, c, sg, tm⟩ => ?_
  subst e
  obtain ⟨hz, a, us, rfl, hF, hA⟩ := tm.head
  have eu := all2_int hA
  subst eu
  exact ⟨a, ns, rfl, SqT.of (c.fh _ _ hF), hl, q _ _ k _ H1 ⟨F, c, sg, tm.tail.cons rfl⟩⟩
def oLenSet (ns : List Int) : Option Int := if ns.length ≤ 4000 then some ((dis ns).length : Int) else none
theorem e_lenSetO (ha : Ev ta W G T cs fun sa cs1 => ∃ ns z, sa = (rTup rInt).at ns ∧ oLenSet ns = some z ∧ K (rInt.at z) cs1) : Ev (tLenSetT KF ta) W G T cs K :=
  e_lenSetT fun s H st Q q => ha s H st Q fun sl cs1 ⟨ns, z, e1, e2, k⟩ => by
    unfold oLenSet at e2
    split at e2
    · rename_i hl
      cases e2
      exact q sl cs1 ⟨ns, e1, hl, k⟩
    · cases e2
/-- a pair has two items -/
theorem e_lenP (h : EvA t W G T cs fun sls cs1 => ∃ (α β : Type) (r : R α) (r2 : R β) (x : α × β), sls = [(rPair r r2).at x] ∧ K (rInt.at 2) cs1) : Ev (tCB (fun xs H Q => ∃ p ys, xs = [.ref p] ∧ (SqL KF H p ys ∨ SqT KF H p ys) ∧ Q (.int ys.length) H) t) W G T cs K := fun s H st Q q => by
  refine h s H st _ fun sls cs1 ⟨α, β, r, r2, x, e, k⟩ vs H1 ⟨F, c, sg, tm, ar⟩ => ?_
  subst e
  obtain ⟨v, rfl, a, u, w, rfl, hF, h3, h4⟩ := args1 ar
  exact ⟨a, [u, w], rfl, .inr (SqT.of (c.fh _ _ hF)), q _ _ k _ H1 ⟨F, c, sg, tm.cons rfl⟩⟩
end
end ML

namespace ML
open PySem Spec PyProof.Rows L2 StX
/-! ## sorted(set(t)), t a tuple of ints -/
def tSortSetI (K : PySem.W.Frag) (ta : TE) : TE := fun σ H Q => ta σ H fun x H1 => ∃ (l : Addr) (ns : List Int), x = .ref l ∧ SqT K H1 l (ns.map V.int) ∧ ns.length < 64 ∧
  ∀ (ms : List Int) (p : Addr), ms.Pairwise (· < ·) → (∀ k, k ∈ ms ↔ k ∈ ns) → H1 p = none → Q (.ref p) (upd H1 p (.lst (ms.map V.int)))
theorem pe_sortSetI {X : Cx} {a : Expr} {ta : TE} {p p2 q pos : Pos} (hc : X.calm = true) (hg : Gl X "sorted") (hm : X.mg "sorted" = none) (hg2 : Gl X "set") (hm2 : X.mg "set" = none) (ha : PE X a ta)
    (na : starEach [a] X.env = (false, eval a X.env) :: starEach [] X.env := by rfl) : PE X (.Call (.Name "sorted" p) [.Call (.Name "set" p2) [a] [] q] [] pos) (tSortSetI X.K ta) := by
  refine ⟨fun pins s σ H Q I h => ?_⟩
  refine Call_ (ld_blt I hg hm boot_sorted' ?_)
  refine PyProof.Rows.callWith_builtin1 (PyProof.Rows.args_cons ?_ rfl) rfl rfl
  refine Call_ (ld_blt I hg2 hm2 PyProof.Rows.boot_set ?_)
  refine PyProof.Rows.callWith_type1 (PyProof.Rows.args_cons (thn (ha.run pins s σ H _ I h) fun v s1 ⟨x, H1, I1, r1, q1⟩ => PyProof.Rows.args_nil ?_) na) na rfl
  obtain ⟨l, ns, rfl, hq, few, q1⟩ := q1
  cases r1
  obtain ⟨its, r, pl, hz⟩ := I1.tuple hq
  refine call_set_tupI ns (I1.ok.hd hc) pl (by simpa using RZ.intsAre_vals r) (by unfold scanBound; omega) fun h' tk c hS hcn kp => ?_
  refine PyProof.Rows.args_nil ?_
  have I2 : Inv X pins σ H1 { s1 with heap := h', toks := tk } := I1.kept kp
  refine sorted_set (s := { s1 with heap := h', toks := tk }) hS (I1.ok.hd hc) (by omega) fun s' p out c2 ms k2 g2 o2 hp hg hi hs hm hl => ?_
  have hn : H1 p = none := I2.hok.fresh hp
  have hlen : (ms.map V.int).length ≤ sizeLine := by rw [List.length_map, hl, sizeLine_eq]; omega
  have J := I2.call (h' := s'.heap) (g' := s'.gens) (d' := s'.drawn) (t' := s'.toks) (H' := upd H1 p (.lst (ms.map V.int))) (ch := []) (Un.laid k2 hp hn) (I2.hok.laid k2 hp ⟨hlen, out.toList, c2, vals_of_ints hi, hg⟩) (by rw [g2]; exact I2.bare) (fun _ z => nomatch z)
  have e : s' = { s1 with heap := s'.heap, gens := s'.gens, drawn := s'.drawn, toks := s'.toks } := by
    cases s'
    cases s1
    cases o2
    rfl
  rw [e]
  exact ⟨.ref p, _, J, rfl, q1 ms p hs (fun k => by rw [hm k, decide_eq_true_eq]) hn⟩
/-- ascending, each once -/
def SI (ns : List Int) : List Int := (dis ns).mergeSort fun a b => decide (a ≤ b)
theorem SI_mem {k : Int} {ns : List Int} : k ∈ SI ns ↔ k ∈ ns := by
  unfold SI
  rw [List.mem_mergeSort, dis_mem]
theorem SI_up (ns : List Int) : (SI ns).Pairwise (· < ·) := by
  unfold SI
  have p := List.pairwise_mergeSort (le := fun a b : Int => decide (a ≤ b)) (fun a b c h1 h2 => by simp only [decide_eq_true_eq] at *; omega) (fun a b => by simp only [Bool.or_eq_true, decide_eq_true_eq]; omega) (dis ns)
  have nd : ((dis ns).mergeSort fun a b => decide (a ≤ b)).Nodup := (List.mergeSort_perm _ _).nodup_iff.mpr (dis_nodup ns)
  refine (p.and nd).imp fun {a b} ⟨h1, h2⟩ => ?_
  have := of_decide_eq_true h1
  omega
theorem up_one : ∀ {xs ys : List Int}, xs.Pairwise (· < ·) → ys.Pairwise (· < ·) → (∀ z, z ∈ xs ↔ z ∈ ys) → xs = ys
  | [], [], _, _, _ => rfl
  | [], y :: ys, _, _, h => absurd ((h y).mpr List.mem_cons_self) (by simp)
  | x :: xs, [], _, _, h => absurd ((h x).mp List.mem_cons_self) (by simp)
  | x :: xs, y :: ys, hx, hy, h => by
    obtain ⟨x1, x2⟩ := List.pairwise_cons.mp hx
    obtain ⟨y1, y2⟩ := List.pairwise_cons.mp hy
    have a := (h x).mp List.mem_cons_self
    have b := (h y).mpr List.mem_cons_self
    have e : x = y := by
      rcases List.mem_cons.mp a with c | c
      · exact c
      rcases List.mem_cons.mp b with d | d
      · exact d.symm
      have := y1 x c
      have := x1 y d
      omega
    subst e
    rw [up_one x2 y2 fun z => ⟨fun hz => (List.mem_cons.mp ((h z).mp (List.mem_cons_of_mem _ hz))).resolve_left fun q => by have := x1 z hz; omega,
      fun hz => (List.mem_cons.mp ((h z).mpr (List.mem_cons_of_mem _ hz))).resolve_left fun q => by have := y1 z hz; omega⟩]
theorem ints_all2 {F : Hp} : ∀ l : List Int, All2 (fun x u => rInt.p x F u) l (l.map V.int)
  | [] => .nil
  | x :: xs => .cons rfl (ints_all2 xs)
def oSortI (ns : List Int) : Option (List Int) := if ns.length < 64 then some (SI ns) else none
section
variable {W : Wd} {G : Gam} {T : Tms} {cs : Cells} {K : Sl → Cells → Prop} {ta : TE} {KF : PySem.W.Frag}
theorem e_sortSI (ha : Ev ta W G T cs fun sa cs1 => ∃ ns z, sa = (rTup rInt).at ns ∧ oSortI ns = some z ∧ K ((rLst rInt).at z) cs1) : Ev (tSortSetI KF ta) W G T cs K := fun s H st Q q => by
  refine ha s H st _ fun sa cs1 ⟨ns, z, e1, ho, k⟩ va H1 ⟨F, c, sg, tm⟩ => ?_
  subst e1
  obtain ⟨few, ez⟩ := of_ite ho
  subst ez
  obtain ⟨hz, a, us, rfl, hF, hA⟩ := tm.head
  have eu := all2_int hA
  subst eu
  refine ⟨a, ns, rfl, SqT.of (c.fh _ _ hF), few, fun ms p m1 m2 hp => ?_⟩
  have em : ms = SI ns := up_one m1 (SI_up ns) fun z => by rw [m2, SI_mem]
  subst em
  have sF : Same F (upd F p (.lst ((SI ns).map V.int))) := same_upd (c.fh.free hp)
  have nl : (SI ns).length ≤ sizeLine := by
    have h1 : (SI ns).length ≤ ns.length := by
      unfold SI
      rw [List.length_mergeSort]
      have : ∀ xs : List Int, (dis xs).length ≤ xs.length := fun xs => by
        induction xs with
        | nil => exact Nat.le_refl _
        | cons x xs ih =>
          unfold dis
          split
          · exact Nat.le_succ_of_le ih
          · exact Nat.succ_le_succ ih
      exact this ns
    rw [sizeLine_eq]
    omega
  exact q _ _ k _ _ ⟨_, c.new hp, sg.mono sF, (tm.tail.mono sF).cons ⟨nl, p, _, rfl, upd_same, ints_all2 _⟩⟩
end
end ML

namespace ML
open PySem Spec PyProof.Rows PySem.Calls PySem.W L2
/-! ## sorted(t), t a tuple -/
section
variable {prog : Program} {w : World} {A : Around} {E : Value → Shared → Prop} {s : Shared} {β : Type} {vs : List Value} {bs : List β} {enc : β → PyData} {R : Value → β → Prop}
theorem sorted_tup {l : Addr} {o : Obj} {n : Nat} {Q : Value → Shared → Prop} (ho : s.heap.get? l = some o) (hc : o.cls = .type "tuple") (hd : o.data = .seq vs.toArray n) (e : EachIs R vs bs) (er : EachIs (fun v b => ∃ as, Reads s.heap v (enc b) as) vs bs)
    (hal : AllAlike (bs.map enc)) (hk : Sortable (bs.map enc)) (hL : bs.length ≤ sizeLine) (hu : ∀ b, b ∈ bs → A.units + 2 + (enc b).depth < cLine)
    (h : ∀ h' p out c, (∀ b o, s.heap.get? b = some o → h'.get? b = some o) → (∀ u, s.heap.get? p ≠ some u) → h'.get? p = some (seqObj "list" (List.toArray out) c) → out.length = bs.length → EachIs R out (bs.mergeSort (dataLe false enc)) → Q (.ref p) { s with heap := h' }) :
    wpAny (model prog w) A (call (.builtin "sorted") [.ref l]) Q E s := by
  have hvl : vs.length = bs.length := e.length
  refine Calls.call_function_entry kind_sorted plain_sorted entry_sorted (args_sorted1 _) ?_
  unfold Builtin.«sorted»
  refine wpAny_bind (m := checkCount "sorted" 1 1 _) (wpAny_pure ?_)
  refine wpAny_bind (wpAny_collect_seq (A := A.in1) l (.inr rfl) ho hc hd (fun h1 k1 => ?_) (by rw [List.size_toArray, hvl]; exact hL))
  refine wpAny_bind (wpAny_newList ?_ (by rw [List.toList_toArray, hvl]; exact hL))
  have hoL : (h1.push (seqObj "list" vs.toArray 0)).get? h1.objs.size = some (seqObj "list" vs.toArray 0) := Heap.get?_push_size _ rfl
  have old : ∀ b u, s.heap.get? b = some u → (sortingHeap (h1.push (seqObj "list" vs.toArray 0)) h1.objs.size vs).get? b = some u := fun b u q =>
    sortingHeap_old (Nat.ne_of_lt (Heap.lt_size (k1 b u q))) (Heap.get?_push_of_some _ (k1 b u q))
  have er' : EachIs (fun v b => ∃ as, Reads (sortingHeap (h1.push (seqObj "list" vs.toArray 0)) h1.objs.size vs) v (enc b) as) vs bs := er.mono fun _ _ ⟨as, r⟩ => ⟨as, PyProof.Rows.Reads.keeps old r⟩
  have S : SortsAt prog w A.in1.in1 { s with heap := sortingHeap (h1.push (seqObj "list" vs.toArray 0)) h1.objs.size vs } _ vs :=
    SortsAt.data (s := { s with heap := sortingHeap (h1.push (seqObj "list" vs.toArray 0)) h1.objs.size vs }) (each_map (R := fun v d => ∃ as, Reads (sortingHeap (h1.push (seqObj "list" vs.toArray 0)) h1.objs.size vs) v d as) enc er') hal hk (bound_map hu)
  refine wpAny_bind (wpAny_holding (wpAny_call_entry slot_list_sort ⟨_, hoL, rfl⟩ entry_list_sort (list_sort_vals (s := { s with heap := h1.push (seqObj "list" vs.toArray 0) }) hoL S (by rw [hvl]; exact hL) ⟨_, rfl, ?_⟩) (args_list_sort _)))
  obtain ⟨c, hc2⟩ := sortedHeap_at (vs := vs) (out := (sortVals (dataKind (sortingHeap (h1.push (seqObj "list" vs.toArray 0)) h1.objs.size vs) (bs.map enc)) false vs vs).toArray) hoL
  refine wpAny_pure ⟨_, rfl, h _ h1.objs.size _ c (fun b u q => ?_) (fun u q => absurd (Heap.lt_size (k1 _ _ q)) (Nat.lt_irrefl _)) hc2 (by rw [sortVals_length false rfl]; exact hvl) (sortVals_data false e er' hal)⟩
  have q1 := k1 b u q
  have hlt := Heap.lt_size q1
  show (sortedHeap (h1.push (seqObj "list" vs.toArray 0)) h1.objs.size vs _).get? b = some u
  rw [sortedHeap_old (Nat.ne_of_lt hlt) (by rw [size_push']; exact Nat.lt_succ_of_lt hlt)]
  exact Heap.get?_push_of_some _ q1
end
section
variable {P : Program} {w : World} {fs ex : List Addr} {H : Hp} {h h' : Heap} {a : Addr} {o : HO}
theorem un_new (k : ∀ b u, h.get? b = some u → h'.get? b = some u) (na : ∀ u, h.get? a ≠ some u) (hn : H a = none) : Un fs ex H (upd H a o) h h' :=
  have ne : ∀ b xs, H b = some xs → upd H a o b = H b := fun b xs q => upd_ne (ne_of_none q hn)
  ⟨fun b u q _ _ _ => k b u q, fun b u q _ _ _ => ⟨u.slots, k b u q⟩, fun b u q n _ => (upd_ne fun z => na u (by rw [← z]; exact q)).trans n, fun b u q _ => ⟨u, k b u q⟩, fun b xs q => (ne b _ q).trans q, fun b u xs q => (ne b _ q).trans q, fun b ps q => ⟨#[], by rw [ne b _ q, q]; simp⟩⟩
theorem hok_new (x : HOk P w H h) (k : ∀ b u, h.get? b = some u → h'.get? b = some u) (hn : H a = none) (new : ObjOk P w (upd H a o) h' a o) : HOk P w (upd H a o) h' := fun b u e => by
  rcases Classical.em (b = a) with c | c
  · rw [c, upd_same] at e
    cases e
    rw [c]
    exact new
  · rw [upd_ne c] at e
    exact (x b u e).stay (fun z v _ q => k z v q) (fun z q => (upd_ne (ne_of_none q hn)).trans q) fun z xs q => (upd_ne (ne_of_none q hn)).trans q
end
theorem obj_there {P : Program} {w : World} {H : Hp} {h : Heap} {a : Addr} {o : HO} (x : ObjOk P w H h a o) : ∃ u, h.get? a = some u := by
  cases o with
  | lst xs => exact let ⟨_, _, _, _, e⟩ := x; ⟨_, e⟩
  | tup xs => exact let ⟨_, _, _, ⟨u, e, _⟩⟩ := x; ⟨u, e⟩
  | dK kvs => exact let ⟨_, _, _, _, u, _, _, e, _⟩ := x; ⟨u, e⟩
  | dT kvs => exact let ⟨_, _, _, _, u, _, _, e, _⟩ := x; ⟨u, e⟩
  | set S n => exact let ⟨u, _, _, _, e, _⟩ := x; ⟨u, e⟩
  | ins C dx fs => exact let ⟨_, _, _, e, _⟩ := x; ⟨_, e⟩
  | own y => exact x
  | xd fs => exact let ⟨_, ⟨u, _, _, e, _⟩, _⟩ := x; ⟨u, e⟩
  | rng lo hi => exact let ⟨_, _, _, e⟩ := x; ⟨_, e⟩
  | frz ob u => exact ⟨ob, x.1⟩
  | tbl ps => exact ⟨_, (show h.get? a = some _ from x)⟩
  | met f y => exact ⟨_, (show h.get? a = some _ from x)⟩
  | ext φ => exact x.2.1
def rSortT (K : PySem.W.Frag) : List V → Hp → VK → Prop := fun vs H Q => ∃ (α : Type) (a : Addr) (us : List V) (bs : List α) (d : α → PyData), vs = [V.ref a] ∧ SqT K H a us ∧ DpAll K H us (bs.map d) ∧ SortOk (bs.map d) = true ∧ (∀ b ∈ bs, (d b).depth ≤ 60) ∧ bs.length ≤ sizeLine ∧
  ∀ (ws : List V) (p : Addr), All2 (fun b u => (u, b) ∈ us.zip bs) (bs.mergeSort (PySem.W.dataLe false d)) ws → H p = none → Q (.ref p) (upd H p (.lst ws))
theorem cr_sortTup {X : Cx} {k : Nat} (hr : RoomG k X.A) : CallR X (.builtin "sorted") (rSortT X.K) := by
  intro pins s σ H vs us Q I r h
  obtain ⟨α, a, ws, bs, d, rfl, hs, hd, hok, hdep, hz, q⟩ := h
  have hu := hr.units
  rw [Vals.ref1 r]
  obtain ⟨its, rv, ⟨o, ho, hc, n, hdt⟩, _⟩ := I.tuple hs
  obtain ⟨e1, e2⟩ := each_of I rv hd
  refine sorted_tup (n := n) ho hc (by simpa using hdt) e1 e2 (SortOk.alike hok) (SortOk.able hok) hz (fun b hb => by have := hdep b hb; omega) fun h' p out c kp na hp hlo eo => ?_
  obtain ⟨zs, v1, v2⟩ := vals_each eo
  have hlen : zs.length ≤ sizeLine := by rw [v1.length, hlo]; exact hz
  have hn : H p = none := by
    cases e : H p with
    | none => rfl
    | some u =>
      obtain ⟨o2, ho2⟩ := obj_there (I.hok p u e)
      exact absurd ho2 (na o2)
  have J := I.call (h' := h') (g' := s.gens) (d' := s.drawn) (t' := s.toks) (H' := upd H p (.lst zs)) (ch := []) (un_new kp na hn) (hok_new I.hok kp hn ⟨hlen, out, c, v1, hp⟩) I.bare (fun _ z => nomatch z)
  exact ⟨.ref p, _, J, rfl, q zs p v2 hn⟩
section
variable {W : Wd} {G : Gam} {T : Tms} {cs : Cells} {K : Sl → Cells → Prop} {KF : PySem.W.Frag} {t : TA} {ta : TE}
theorem e_sortedT (h : EvA t W G T cs fun sls cs1 => ∃ (α : Type) (_ : DecidableEq α) (r : R α) (e : REq r) (xs ys : List α), sls = [(rTup r).at xs] ∧ e.n ≤ 60 ∧ oSorted e.d xs = some ys ∧ K ((rLst r).at ys) cs1) : Ev (tCB (rSortT KF) t) W G T cs K := fun s H st Q q => by
  refine h s H st _ fun sls cs1 ⟨α, _, r, e, xs, ys, es, hn, ho, k⟩ vs H1 ⟨F, c, sg, tm, ar⟩ => ?_
  subst es
  obtain ⟨v, rfl, hz, a, us, rfl, hF, hA⟩ := args1 ar
  obtain ⟨⟨hok, hle⟩, ey⟩ := of_ite ho
  refine ⟨α, a, us, xs, e.d, rfl, SqT.of (c.fh _ _ hF), dpAll e c.fh hA, hok, fun b _ => Nat.le_trans (e.dep b) hn, hle, fun ws p hw hp => ?_⟩
  rw [← ey] at hw
  have sF : Same F (upd F p (.lst ws)) := same_upd (c.fh.free hp)
  have hl : ys.length ≤ sizeLine := by rw [ey, List.length_mergeSort]; exact hle
  exact q _ _ k _ _ ⟨_, c.new hp, sg.mono sF, (tm.mono sF).cons ⟨hl, p, ws, rfl, upd_same, hw.imp fun b u hm => r.mono sF (zip_rel hA u b hm)⟩⟩
/-! ## sorted(set(xs)), xs a list of pairs of ints -/
def kTwo : RKey (rPair rInt rInt) where
  k := fun x => .tup [.num x.1, .num x.2]
  ok := fun {K F H a v} h sm => ⟨by obtain ⟨p, u, w, rfl, _, _, _⟩ := h; exact ⟨p, rfl⟩, by
    have := (ePair eInt eInt).ok (K := K) h sm
    simp only [NestedKey.data, NestedKey.datas]
    exact this⟩
  nm := fun a => by simp only [numK, numKs, Bool.and_self]
  dp := fun a => by simp only [NestedKey.depth, NestedKey.depthAll]; decide
  inj := fun a b e => by
    injection e with e
    injection e with e1 e2
    injection e1 with e1
    injection e2 with e2 _
    injection e2 with e2
    exact Prod.ext e1 e2
theorem alike_two (xs : List (Int × Int)) : Alike (xs.map kTwo.k) := by
  refine ⟨.inl fun k hk => ?_, fun x hx y hy => ?_⟩
  · obtain ⟨a, _, e⟩ := List.mem_map.mp hk
    exact ⟨_, _, e.symm⟩
  · obtain ⟨a, _, e⟩ := List.mem_map.mp hx
    obtain ⟨b, _, e'⟩ := List.mem_map.mp hy
    subst e e'
    show cmpK (.tup [.num a.1, .num a.2]) (.tup [.num b.1, .num b.2]) = true
    simp [cmpK, cmpKs]
def oSortTwo (xs : List (Int × Int)) : Option (List (Int × Int)) := if xs.length < 1200 then some (sortK kTwo.k xs) else none
theorem e_sortTwo (ha : Ev ta W G T cs fun sa cs1 => ∃ (xs z : List (Int × Int)), sa = (rLst (rPair rInt rInt)).at xs ∧ oSortTwo xs = some z ∧ K ((rLst (rPair rInt rInt)).at z) cs1) : Ev (tSortSet KF ta) W G T cs K :=
  e_sortSetL (Ev.imp ha fun sa cs1 ⟨xs, z, e1, ho, k⟩ => by
    obtain ⟨few, ez⟩ := of_ite ho
    subst ez
    exact ⟨_, _, kTwo, xs, e1, few, alike_two xs, k⟩)
/-! ## list(xs), xs a list that stands still -/
theorem e_listLC {t : TA} (h : EvA t W G T cs fun sls cs1 => ∃ (α : Type) (r : R α) (xs : List α), sls = [(rLst r).at xs] ∧ ∀ p, K (sRef p) (cs1 ++ [(p, cLst r xs)])) : Ev (tCB (rListOf KF) t) W G T cs K := fun s H st Q q => by
  refine h s H st _ fun sls cs1 ⟨α, r, xs, e, k⟩ vs H1 ⟨F, c, sg, tm, ar⟩ => ?_
  subst e
  obtain ⟨v, rfl, hz, a, us, rfl, hF, hA⟩ := args1 ar
  exact ⟨a, us, rfl, .inl (SqL.of (c.fh _ _ hF)), fun l hl => q _ _ (k l) _ _ ⟨F, c.newCell hl ⟨hz, us, rfl, hA⟩, sg, tm.cons rfl⟩⟩
theorem e_listLV {t : TA} (h : EvA t W G T cs fun sls cs1 => ∃ (α : Type) (r : R α) (xs : List α), sls = [(rLst r).at xs] ∧ K ((rLst r).at xs) cs1) : Ev (tCB (rListOf KF) t) W G T cs K := fun s H st Q q => by
  refine h s H st _ fun sls cs1 ⟨α, r, xs, e, k⟩ vs H1 ⟨F, c, sg, tm, ar⟩ => ?_
  subst e
  obtain ⟨v, rfl, hz, a, us, rfl, hF, hA⟩ := args1 ar
  refine ⟨a, us, rfl, .inl (SqL.of (c.fh _ _ hF)), fun l hl => ?_⟩
  have sF : Same F (upd F l (.lst us)) := same_upd (c.fh.free hl)
  exact q _ _ k _ _ ⟨_, c.new hl, sg.mono sF, (tm.mono sF).cons ⟨hz, l, us, rfl, upd_same, hA.imp fun _ _ z => r.mono sF z⟩⟩
end
end ML

/-! a generator that sleeps while other code runs stays as it is -/
namespace ML
open PySem PySem.Spec PyProof.Rows L2
open Sem (wp)

/-- the same generator, whose code is stuck -/
def hush : GenState → GenState
  | .suspended _ l c p fs cl => .suspended (fun _ => .unsupported "asleep") l c p fs cl
  | x => x
abbrev noG (fs : List PySem.Frame) : Prop := splitAtGen fs = none
theorem noG_append : ∀ {a b : List PySem.Frame}, noG a → noG b → noG (a ++ b)
  | [], b, _, h => h
  | .gen .. :: _, _, h, _ => by cases h
  | .ret .. :: a, b, h, hb => by
    have ha : noG a := by
      show splitAtGen a = none
      have h' : (splitAtGen a).map _ = none := h
      simpa using h'
    have := noG_append ha hb
    show (splitAtGen (a ++ b)).map _ = none
    rw [show splitAtGen (a ++ b) = none from this]; rfl
theorem noG_tail {f : PySem.Frame} {a : List PySem.Frame} (h : noG (f :: a)) : noG a := by
  cases f with
  | gen => cases h
  | ret =>
    have h' : (splitAtGen a).map _ = none := h
    simpa using h'
theorem noG_ret {k h g l c p kp} {a : List PySem.Frame} (ha : noG a) : noG (.ret k h g l c p kp :: a) := by
  show (splitAtGen a).map _ = none
  rw [show splitAtGen a = none from ha]; rfl

abbrev Sleepers := Nat → Option GenState
def rouse (θ : Sleepers) (s : Shared) : Shared := { s with gens := s.gens.mapIdx fun i x => (θ i).getD x }
structure Hushed (θ : Sleepers) (s : Shared) : Prop where
  at' : ∀ i x, θ i = some x → s.gens[i]? = some (hush x)
  susp : ∀ i x, θ i = some x → x.status = .suspended
  fr : ∀ i k l c p fs cl, s.gens[i]? = some (.suspended k l c p fs cl) → θ i = none → noG fs
theorem rouse_get {θ : Sleepers} {s : Shared} {i : Nat} : (rouse θ s).gens[i]? = (s.gens[i]?).map fun x => (θ i).getD x := by
  show (s.gens.mapIdx _)[i]? = _
  rw [Array.getElem?_mapIdx]
theorem rouse_size {θ : Sleepers} {s : Shared} : (rouse θ s).gens.size = s.gens.size := by
  show (s.gens.mapIdx _).size = _
  rw [Array.size_mapIdx]
theorem hush_status (x : GenState) : (hush x).status = x.status := by cases x <;> rfl
theorem hush_seen (x : GenState) : (hush x).seen = x.seen := by cases x <;> rfl
theorem Hushed.none_of {θ : Sleepers} {s : Shared} (h : Hushed θ s) {i : Nat} {x : GenState} (e : s.gens[i]? = some x) (hx : x.status ≠ .suspended) : θ i = none := by
  cases q : θ i with
  | none => rfl
  | some y =>
    have := h.at' i y q
    rw [e] at this
    cases this
    exact absurd ((hush_status y).trans (h.susp i y q)) hx
theorem Hushed.out {θ : Sleepers} {s : Shared} (h : Hushed θ s) {i : Nat} (hi : s.gens.size ≤ i) : θ i = none := by
  cases q : θ i with
  | none => rfl
  | some y =>
    have := h.at' i y q
    rw [Array.getElem?_eq_none hi] at this
    cases this
theorem rouse_setGen {θ : Sleepers} {s : Shared} {g : Nat} {x : GenState} (hg : θ g = none) : rouse θ (s.setGen g x) = (rouse θ s).setGen g x := by
  unfold rouse Shared.setGen
  congr 1
  apply Array.ext_getElem?
  intro i
  rw [Array.getElem?_mapIdx, Array.getElem?_setIfInBounds, Array.getElem?_setIfInBounds, Array.getElem?_mapIdx, Array.size_mapIdx]
  by_cases e : g = i
  · subst e
    rw [if_pos rfl, if_pos rfl]
    split
    · simp [hg]
    · rfl
  · rw [if_neg e, if_neg e]
theorem Hushed.setGen {θ : Sleepers} {s : Shared} (h : Hushed θ s) {g : Nat} {x : GenState} (hg : θ g = none) (hx : ∀ k l c p fs cl, x = .suspended k l c p fs cl → noG fs) : Hushed θ (s.setGen g x) where
  at' i y e := by
    have ne : g ≠ i := fun z => by subst z; rw [hg] at e; cases e
    show (s.gens.setIfInBounds g x)[i]? = _
    rw [Array.getElem?_setIfInBounds_ne ne]
    exact h.at' i y e
  susp := h.susp
  fr i k l c p fs cl e n := by
    have e' : (s.gens.setIfInBounds g x)[i]? = some (.suspended k l c p fs cl) := e
    rw [Array.getElem?_setIfInBounds] at e'
    split at e'
    · split at e'
      · cases e'; exact hx _ _ _ _ _ _ rfl
      · cases e'
    · exact h.fr i k l c p fs cl e' n
theorem Hushed.push {θ : Sleepers} {s : Shared} (h : Hushed θ s) (c : Code) : Hushed θ { s with gens := s.gens.push (.fresh c) } where
  at' i y e := by
    have := h.at' i y e
    show (s.gens.push _)[i]? = _
    obtain ⟨hl, he⟩ := Array.getElem?_eq_some_iff.mp this
    rw [Array.getElem?_push_lt hl, he]
  susp := h.susp
  fr i k l c' p fs cl e n := by
    have e' : (s.gens.push (.fresh c))[i]? = some (.suspended k l c' p fs cl) := e
    rw [Array.getElem?_push] at e'
    split at e'
    · cases e'
    · exact h.fr i k l c' p fs cl e' n
theorem rouse_push {θ : Sleepers} {s : Shared} (h : Hushed θ s) (c : Code) : rouse θ { s with gens := s.gens.push (.fresh c) } = { rouse θ s with gens := (rouse θ s).gens.push (.fresh c) } := by
  unfold rouse
  congr 1
  show (s.gens.push (.fresh c)).mapIdx _ = (s.gens.mapIdx _).push _
  rw [Array.mapIdx_push, h.out (Nat.le_refl _)]
  rfl

theorem no_run {M : Model} {Γ : PySem.Ctx} {p : Pos} {t : Sem PySem.Fin} {fs : List PySem.Frame} {s s' : Shared} {e : PySem.End} (h : Runs M Γ p t fs s e s') : ∀ {w : String}, t = .unsupported w → False := by
  induction h <;> intro w q <;> (first | (cases q; done) | (exact ‹∀ {w : String}, _ = Sem.unsupported w → False› q))

def EndOk : PySem.End → Prop
  | .susp _ _ _ _ _ _ fs => noG fs
  | _ => True
theorem EndOk.gen {e : PySem.End} (h : EndOk e) : ∀ k l c p fs cl, e.genState = .suspended k l c p fs cl → noG fs := by
  intro k l c p fs cl q
  cases e with
  | ret r => cases q
  | susp v g l₀ k₀ c₀ p₀ fs₀ => cases q; exact h

theorem runs_rouse {M : Model} {θ : Sleepers} {Γ : PySem.Ctx} {p : Pos} {t : Sem PySem.Fin} {fs : List PySem.Frame} {s s' : Shared} {e : PySem.End} (h : Runs M Γ p t fs s e s') :
    Hushed θ s → noG fs → Hushed θ s' ∧ EndOk e ∧ Runs M Γ p t fs (rouse θ s) e (rouse θ s') := by
  induction h with
  | done => exact fun a _ => ⟨a, trivial, .done⟩
  | raise => exact fun a _ => ⟨a, trivial, .raise⟩
  | again q _ ih => exact fun a b => let ⟨x, y, z⟩ := ih a b; ⟨x, y, .again q z⟩
  | rule _ ih => exact fun a b => let ⟨x, y, z⟩ := ih a b; ⟨x, y, .rule z⟩
  | «at» _ ih => exact fun a b => let ⟨x, y, z⟩ := ih a b; ⟨x, y, .at z⟩
  | load q _ ih => exact fun a b => let ⟨x, y, z⟩ := ih a b; ⟨x, y, .load q z⟩
  | update q _ ih => exact fun a b => let ⟨x, y, z⟩ := ih ⟨a.at', a.susp, a.fr⟩ b; ⟨x, y, .update q z⟩
  | loadIfAlive _ ih => exact fun a b => let ⟨x, y, z⟩ := ih a b; ⟨x, y, .loadIfAlive z⟩
  | point _ ih => exact fun a b => let ⟨x, y, z⟩ := ih a b; ⟨x, y, .point z⟩
  | alloc _ ih => exact fun a b => let ⟨x, y, z⟩ := ih ⟨a.at', a.susp, a.fr⟩ b; ⟨x, y, .alloc z⟩
  | fresh _ ih => exact fun a b => let ⟨x, y, z⟩ := ih ⟨a.at', a.susp, a.fr⟩ b; ⟨x, y, .fresh z⟩
  | ask _ ih => exact fun a b => let ⟨x, y, z⟩ := ih a b; ⟨x, y, .ask z⟩
  | choose q _ ih => exact fun a b => let ⟨x, y, z⟩ := ih ⟨a.at', a.susp, a.fr⟩ b; ⟨x, y, .choose q z⟩
  | os _ ih => exact fun a b => let ⟨x, y, z⟩ := ih ⟨a.at', a.susp, a.fr⟩ b; ⟨x, y, .os z⟩
  | handled _ ih => exact fun a b => let ⟨x, y, z⟩ := ih a b; ⟨x, y, .handled z⟩
  | @genState g st Γ p k s e s' q _ ih =>
    intro a b
    obtain ⟨x, y, z⟩ := ih a b
    refine ⟨x, y, ?_⟩
    cases hq : θ g with
    | none => exact .genState (by rw [rouse_get, q]; simp [hq]) z
    | some u =>
      have h1 := a.at' g u hq
      rw [q] at h1
      cases h1
      rw [hush_seen] at z
      exact .genState (st := u) (by rw [rouse_get, q]; simp [hq]) z
  | stack _ ih => exact fun a b => let ⟨x, y, z⟩ := ih a b; ⟨x, y, .stack z⟩
  | thread _ ih => exact fun a b => let ⟨x, y, z⟩ := ih a b; ⟨x, y, .thread z⟩
  | newGen _ ih =>
    intro a b
    obtain ⟨x, y, z⟩ := ih (a.push _) b
    rw [rouse_push a] at z
    refine ⟨x, y, .newGen ?_⟩
    rw [rouse_size]
    exact z
  | call _ _ ih1 ih2 =>
    intro a b
    obtain ⟨x, y, z⟩ := ih1 a rfl
    obtain ⟨x2, y2, z2⟩ := ih2 x b
    exact ⟨x2, y2, .call z z2⟩
  | callSusp _ ih =>
    intro a b
    obtain ⟨x, y, z⟩ := ih a rfl
    exact ⟨x, noG_append y rfl, .callSusp z⟩
  | yield => exact fun a _ => ⟨a, rfl, .yield⟩
  | @resumeFresh Γ p g l k s c e₁ s₁ e s' q _ hq _ ih1 ih2 =>
    intro a b
    have hg := a.none_of q (by simp [GenState.status])
    obtain ⟨x, y, z⟩ := ih1 (a.setGen (x := .running) hg (fun _ _ _ _ _ _ w => by cases w)) rfl
    obtain ⟨x2, y2, z2⟩ := ih2 (x.setGen hg y.gen) b
    rw [rouse_setGen hg] at z z2
    exact ⟨x2, y2, .resumeFresh (by rw [rouse_get, q]; simp [hg]) z hq z2⟩
  | @resumeSuspended Γ p g r l k s k₀ l₀ c₀ p₀ fs cl e₁ s₁ e s' q hr hq _ ih1 ih2 =>
    intro a b
    cases hg : θ g with
    | none =>
      obtain ⟨x, y, z⟩ := ih1 (a.setGen (x := .running) hg (fun _ _ _ _ _ _ w => by cases w)) (a.fr _ _ _ _ _ _ _ q hg)
      obtain ⟨x2, y2, z2⟩ := ih2 (x.setGen hg y.gen) b
      rw [rouse_setGen hg] at z z2
      exact ⟨x2, y2, .resumeSuspended (by rw [rouse_get, q, hg]; rfl) z hq z2⟩
    | some u =>
      have h1 := a.at' g u hg
      have h2 := a.susp g u hg
      rw [q] at h1
      cases u with
      | suspended k l c p fs cl =>
        cases h1
        exact (no_run hr rfl).elim
      | fresh => cases h2
      | running => cases h2
      | finished => cases h2
  | resumeJustStarted q hv _ ih =>
    intro a b
    obtain ⟨x, y, z⟩ := ih a b
    exact ⟨x, y, .resumeJustStarted (by rw [rouse_get, q]; simp [a.none_of q (by simp [GenState.status])]; rfl) hv z⟩
  | resumeThrowFresh q _ ih =>
    intro a b
    have hg := a.none_of q (by simp [GenState.status])
    obtain ⟨x, y, z⟩ := ih (a.setGen (x := .finished) hg (fun _ _ _ _ _ _ w => by cases w)) b
    rw [rouse_setGen hg] at z
    exact ⟨x, y, .resumeThrowFresh (by rw [rouse_get, q]; simp [hg]; rfl) z⟩
  | resumeRunning q _ ih =>
    intro a b
    obtain ⟨x, y, z⟩ := ih a b
    exact ⟨x, y, .resumeRunning (by rw [rouse_get, q]; simp [a.none_of q (by simp [GenState.status])]) z⟩
  | resumeFinished q _ ih =>
    intro a b
    obtain ⟨x, y, z⟩ := ih a b
    exact ⟨x, y, .resumeFinished (by rw [rouse_get, q]; simp [a.none_of q (by simp [GenState.status])]) z⟩
  | segRet _ _ ih1 ih2 =>
    intro a b
    obtain ⟨x, y, z⟩ := ih1 a rfl
    obtain ⟨x2, y2, z2⟩ := ih2 x (noG_tail b)
    exact ⟨x2, y2, .segRet z z2⟩
  | segGen _ _ _ _ => exact fun _ b => by cases b
  | segSuspOut q _ ih =>
    intro a b
    obtain ⟨x, y, z⟩ := ih a rfl
    exact ⟨x, noG_append y q, .segSuspOut q z⟩
  | segSuspGen q _ _ _ _ _ => exact fun _ b => by rw [show splitAtGen _ = none from b] at q; cases q

theorem wakes_rouse {M : Model} {θ : Sleepers} {Γ : PySem.Ctx} {p : Pos} {g : Nat} {r : Resume} {s s' : Shared} {res : GenResult} (h : Wakes M Γ p g r s res s') (a : Hushed θ s) : Hushed θ s' ∧ Wakes M Γ p g r (rouse θ s) res (rouse θ s') := by
  unfold Wakes at h ⊢
  rw [rouse_get]
  cases q : s.gens[g]? with
  | none => rw [q] at h; exact h.elim
  | some st =>
    rw [q] at h
    cases st with
    | fresh c =>
      have hg := a.none_of q (by simp [GenState.status])
      simp only [Option.map_some, hg, Option.getD_none]
      simp only at h
      cases r with
      | throw x => obtain ⟨rfl, rfl⟩ := h; exact ⟨a.setGen hg (fun _ _ _ _ _ _ w => by cases w), rfl, rouse_setGen hg⟩
      | send v =>
        cases v with
        | none =>
          obtain ⟨e₁, s₁, hr, hq, rfl, rfl⟩ := h
          obtain ⟨x, y, z⟩ := runs_rouse hr (a.setGen (x := .running) hg (fun _ _ _ _ _ _ w => by cases w)) rfl
          rw [rouse_setGen hg] at z
          exact ⟨x.setGen hg y.gen, e₁, _, z, hq, rfl, rouse_setGen hg⟩
        | _ => obtain ⟨rfl, rfl⟩ := h; exact ⟨a, rfl, rfl⟩
    | suspended k₀ l₀ c₀ p₀ fs cl =>
      cases hg : θ g with
      | none =>
        simp only [Option.map_some, hg, Option.getD_none]
        simp only at h
        obtain ⟨e₁, s₁, hr, hq, rfl, rfl⟩ := h
        obtain ⟨x, y, z⟩ := runs_rouse hr (a.setGen (x := .running) hg (fun _ _ _ _ _ _ w => by cases w)) (a.fr _ _ _ _ _ _ _ q hg)
        rw [rouse_setGen hg] at z
        exact ⟨x.setGen hg y.gen, e₁, _, z, hq, rfl, rouse_setGen hg⟩
      | some u =>
        have h1 := a.at' g u hg
        have h2 := a.susp g u hg
        rw [q] at h1
        obtain ⟨e₁, s₁, hr, _⟩ := h
        cases u with
        | suspended k l c p fs cl => cases h1; exact (no_run hr rfl).elim
        | fresh => cases h2
        | running => cases h2
        | finished => cases h2
    | running =>
      have hg := a.none_of q (by simp [GenState.status])
      simp only [Option.map_some, hg, Option.getD_none]
      obtain ⟨rfl, rfl⟩ := h; exact ⟨a, rfl, rfl⟩
    | finished =>
      have hg := a.none_of q (by simp [GenState.status])
      simp only [Option.map_some, hg, Option.getD_none]
      obtain ⟨rfl, rfl⟩ := h; exact ⟨a, rfl, rfl⟩

theorem wp_rouse {α : Type} {M : Model} {Γ : PySem.Ctx} {θ : Sleepers} (t : Sem α) : ∀ (Q : α → Pos → Shared → Prop) (E : Value → Pos → Shared → Prop) (p : Pos) (s : Shared), Hushed θ s → wp M Γ t Q E p s →
    wp M Γ t (fun a p' s' => ∃ z, s' = rouse θ z ∧ Hushed θ z ∧ Q a p' z) (fun e p' s' => ∃ z, s' = rouse θ z ∧ Hushed θ z ∧ E e p' z) p (rouse θ s) := by
  induction t with
  | pure a => exact fun Q E p s n h => ⟨s, rfl, n, h⟩
  | raise e => exact fun Q E p s n h => ⟨s, rfl, n, h⟩
  | unsupported _ => exact fun Q E p s _ h => h
  | finish _ => exact fun Q E p s _ h => h
  | rule _ k ih => exact fun Q E p s n h => ih () Q E p s n h
  | «at» p' k ih => exact fun Q E p s n h => ih () Q E p' s n h
  | load a _ k ih => exact fun Q E p s n h => let ⟨o, ho, h⟩ := h; ⟨o, ho, ih o Q E p s n h⟩
  | update a _ f k ih => exact fun Q E p s n h => ⟨h.1, ih () Q E p { s with heap := s.heap.update a f } ⟨n.at', n.susp, n.fr⟩ h.2⟩
  | loadIfAlive a k ih => exact fun Q E p s n h => ih _ Q E p s n h
  | point _ k ih => exact fun Q E p s n h => ih () Q E p s n h
  | register _ _ => exact fun Q E p s _ h => h
  | alloc o k ih => exact fun Q E p s n h => ih _ Q E p { s with heap := s.heap.push o } ⟨n.at', n.susp, n.fr⟩ h
  | fresh k ih => exact fun Q E p s n h => ih _ Q E p { s with toks := s.toks + 1 } ⟨n.at', n.susp, n.fr⟩ h
  | ask k ih => exact fun Q E p s n h => ih _ Q E p s n h
  | choose src m k ih => exact fun Q E p s n h => ⟨h.1, ih _ Q E p { s with drawn := s.drawn.bump src } ⟨n.at', n.susp, n.fr⟩ h.2⟩
  | os q _ k ih => exact fun Q E p s n h => ih _ Q E p { s with os := (Os.step s.os q).1 } ⟨n.at', n.susp, n.fr⟩ h
  | call c hd _ _ k ih =>
    intro Q E p s n h
    obtain ⟨r, s', hr, h⟩ := h
    obtain ⟨a, _, b⟩ := runs_rouse hr n rfl
    exact ⟨r, rouse θ s', b, ih r Q E p s' a h⟩
  | handled own k ih => exact fun Q E p s n h => ih _ Q E p s n h
  | genState g k ih =>
    intro Q E p s n h
    obtain ⟨st, hs, h⟩ := h
    cases hg : θ g with
    | none => exact ⟨st, by rw [rouse_get, hs]; simp [hg], ih _ Q E p s n h⟩
    | some u =>
      have h1 := n.at' g u hg
      rw [hs] at h1
      cases h1
      rw [hush_seen] at h
      exact ⟨u, by rw [rouse_get, hs]; simp [hg], ih _ Q E p s n h⟩
  | newGen c k ih =>
    intro Q E p s n h
    have := ih s.gens.size Q E p { s with gens := s.gens.push (.fresh c) } (n.push c) h
    rw [rouse_push n] at this
    show wp M Γ (k (rouse θ s).gens.size) _ _ p _
    rw [rouse_size]
    exact this
  | resume g r _ k ih =>
    intro Q E p s n h
    obtain ⟨res, s', hw, h⟩ := h
    obtain ⟨a, b⟩ := wakes_rouse hw n
    exact ⟨res, rouse θ s', b, ih res Q E p s' a h⟩
  | yield _ _ _ _ => exact fun Q E p s _ h => h
  | stack k ih => exact fun Q E p s n h => ih _ Q E p s n h
  | fork _ _ => exact fun Q E p s _ h => h
  | thread k ih => exact fun Q E p s n h => ih _ Q E p s n h
  | await _ _ _ _ _ => exact fun Q E p s _ h => h

/-- all that sleep -/
def asleep (s : Shared) : Sleepers := fun i => match s.gens[i]? with
  | some (.suspended k l c p fs cl) => some (.suspended k l c p fs cl)
  | _ => none
def hushed (s : Shared) : Shared := { s with gens := s.gens.map hush }
theorem asleep_at {s : Shared} {i : Nat} {x : GenState} : asleep s i = some x ↔ s.gens[i]? = some x ∧ x.status = .suspended := by
  unfold asleep
  cases q : s.gens[i]? with
  | none => simp
  | some y =>
    cases y with
    | suspended k l c p fs cl =>
      simp only [Option.some.injEq]
      exact ⟨fun e => ⟨e, by rw [← e]; rfl⟩, fun e => e.1⟩
    | _ =>
      simp only [Option.some.injEq, reduceCtorEq, false_iff, not_and]
      intro e
      subst e
      simp [GenState.status]
theorem hushed_ok (s : Shared) : Hushed (asleep s) (hushed s) where
  at' i x e := by
    show (s.gens.map hush)[i]? = _
    rw [Array.getElem?_map, (asleep_at.mp e).1]; rfl
  susp i x e := (asleep_at.mp e).2
  fr i k l c p fs cl e n := by
    have e' : (s.gens.map hush)[i]? = some (.suspended k l c p fs cl) := e
    rw [Array.getElem?_map] at e'
    cases q : s.gens[i]? with
    | none => rw [q] at e'; cases e'
    | some y =>
      cases y with
      | suspended k l c p fs cl =>
        have := (asleep_at (s := s) (i := i)).mpr ⟨q, rfl⟩
        rw [n] at this; cases this
      | fresh => rw [q] at e'; cases e'
      | running => rw [q] at e'; cases e'
      | finished => rw [q] at e'; cases e'
theorem rouse_hushed (s : Shared) : rouse (asleep s) (hushed s) = s := by
  obtain ⟨hp, g, d, t, o⟩ := s
  unfold rouse hushed
  congr 1
  apply Array.ext_getElem?
  intro i
  rw [Array.getElem?_mapIdx, Array.getElem?_map]
  cases q : g[i]? with
  | none => rfl
  | some y =>
    cases y with
    | suspended k l c p fs cl =>
      have := (asleep_at (s := ⟨hp, g, d, t, o⟩) (i := i)).mpr ⟨q, rfl⟩
      simp [this]
    | _ =>
      have : asleep ⟨hp, g, d, t, o⟩ i = none := by unfold asleep; simp only [q]
      simp [this, hush]
/-- RULE: code that is right whatever the sleeping generators' code is leaves a sleeping generator as it is -/
theorem any_asleep {α : Type} {M : Model} {A : Around} {s : Shared} {t : Sem α} {Q : α → Shared → Prop} {E : Value → Shared → Prop} (h : wpAny M A t Q E (hushed s)) :
    wpAny M A t (fun a s' => ∃ z, s' = rouse (asleep s) z ∧ Hushed (asleep s) z ∧ Q a z) (fun e s' => ∃ z, s' = rouse (asleep s) z ∧ Hushed (asleep s) z ∧ E e z) s := fun Γ p hΓ => by
  have := wp_rouse t _ _ p (hushed s) (hushed_ok s) (h Γ p hΓ)
  rw [rouse_hushed] at this
  exact this
theorem rouse_asleep {s z : Shared} (h : Hushed (asleep s) z) {i : Nat} {x : GenState} (e : s.gens[i]? = some x) (hx : x.status = .suspended) : (rouse (asleep s) z).gens[i]? = some x := by
  have q := asleep_at.mpr ⟨e, hx⟩
  rw [rouse_get, h.at' i x q]
  simp [q]
theorem allBare_hushed {s : Shared} (h : AllBare s.gens) : AllBare (hushed s).gens := fun y hy => by
  obtain ⟨i, hi⟩ := Array.mem_iff_getElem?.mp hy
  have e' : (s.gens.map hush)[i]? = some y := hi
  rw [Array.getElem?_map] at e'
  cases q : s.gens[i]? with
  | none => rw [q] at e'; cases e'
  | some x =>
    rw [q] at e'
    cases e'
    have := h x (Array.mem_of_getElem? q)
    cases x <;> exact this
theorem allBare_rouse {s z : Shared} (h : AllBare s.gens) (hz : AllBare z.gens) : AllBare (rouse (asleep s) z).gens := fun y hy => by
  obtain ⟨i, hi⟩ := Array.mem_iff_getElem?.mp hy
  rw [rouse_get] at hi
  cases q : z.gens[i]? with
  | none => rw [q] at hi; cases hi
  | some x =>
    rw [q] at hi
    cases r : asleep s i with
    | none => simp [r] at hi; rw [← hi]; exact hz x (Array.mem_of_getElem? q)
    | some u => simp [r] at hi; rw [← hi]; exact h u (Array.mem_of_getElem? (asleep_at.mp r).1)
end ML

/-! a generator and its consumer: what each side knows when hands change -/
namespace ML
open PySem PySem.Spec PyProof.Rows L2

section
variable {P : Program} {w : World} {H H' G : Hp} {h h' : Heap} {a : Addr} {o : HO}
theorem ObjOk.there (x : ObjOk P w H h a o) : ∃ ob, h.get? a = some ob := by
  cases o with
  | lst xs => obtain ⟨_, _, _, _, e⟩ := x; exact ⟨_, e⟩
  | tup xs => obtain ⟨_, _, _, ob, e, _⟩ := x; exact ⟨_, e⟩
  | dK kvs => obtain ⟨_, _, _, _, ob, _, _, e, _⟩ := x; exact ⟨_, e⟩
  | dT kvs => obtain ⟨_, _, _, _, ob, _, _, e, _⟩ := x; exact ⟨_, e⟩
  | set S n => obtain ⟨ob, _, _, _, e, _⟩ := x; exact ⟨_, e⟩
  | ins C dx fs => obtain ⟨_, _, _, e, _⟩ := x; exact ⟨_, e⟩
  | own y => exact x
  | xd fs => obtain ⟨_, ⟨ob, _, _, e, _⟩, _⟩ := x; exact ⟨_, e⟩
  | rng lo hi => obtain ⟨_, _, _, e⟩ := x; exact ⟨_, e⟩
  | frz ob u => obtain ⟨e, _⟩ := x; exact ⟨_, e⟩
  | tbl ps => exact ⟨_, (show h.get? a = some _ from x)⟩
  | met f y => exact ⟨_, (show h.get? a = some _ from x)⟩
  | ext φ => obtain ⟨_, q, _⟩ := x; exact q
theorem ObjOk.swap (x : ObjOk P w H h a o) (hi : ∀ C dx fs, o = .ins C dx fs → H' dx = some (.own a)) (nT : ∀ kvs, o ≠ .dT kvs) (nF : ∀ ob u, o ≠ .frz ob u) : ObjOk P w H' h a o := by
  cases o with
  | lst xs => obtain ⟨z, its, n, r, e⟩ := x; exact ⟨z, its, n, r, e⟩
  | tup xs => obtain ⟨z, its, r, q⟩ := x; exact ⟨z, its, r, q⟩
  | dK kvs => obtain ⟨z, y, vs, r, q⟩ := x; exact ⟨z, y, vs, r, q⟩
  | dT kvs => exact absurd rfl (nT kvs)
  | set S n => exact x
  | ins C dx fs => obtain ⟨_, z, ne, e, q⟩ := x; exact ⟨hi C dx fs rfl, z, ne, e, q⟩
  | own y => exact x
  | xd fs => exact x
  | rng lo hi => exact x
  | frz ob u => exact absurd rfl (nF ob u)
  | tbl ps => exact x
  | met f y => exact x
  | ext φ => exact x
theorem HOk.there (x : HOk P w H h) (e : H a = some o) : ∃ ob, h.get? a = some ob := ObjOk.there (x a o e)

/-- known things that hang together -/
structure Whole (G : Hp) : Prop where
  noT : ∀ b kvs, G b ≠ some (.dT kvs)
  noF : ∀ b ob u, G b ≠ some (.frz ob u)
  own : ∀ b a, G b = some (.own a) → ∃ C fs, G a = some (.ins C b fs)
  ins : ∀ a C dx fs, G a = some (.ins C dx fs) → G dx = some (.own a)
theorem Whole.hok (q : Whole G) (sm : Same G H) (x : HOk P w H h) : HOk P w G h := fun a o e =>
  ObjOk.swap (x a o (sm a o e)) (fun C dx fs z => q.ins a C dx fs (by rw [e, z])) (fun kvs z => q.noT a kvs (by rw [e, z])) fun ob u z => q.noF a ob u (by rw [e, z])
/-- the part that hangs together -/
def lean (M : Hp) : Hp := fun b => match M b with
  | some (.dT _) => none
  | some (.frz _ _) => none
  | some (.own a) => match M a with
    | some (.ins _ d _) => if d = b then some (.own a) else none
    | _ => none
  | o => o
theorem lean_sub {M : Hp} : Same (lean M) M := fun b x e => by
  unfold lean at e
  split at e
  · cases e
  · cases e
  · rename_i a q
    split at e
    · split at e
      · cases e; exact q
      · cases e
    · cases e
  · exact e
theorem lean_ins {M : Hp} {a C dx fs} (e : M a = some (.ins C dx fs)) : lean M a = some (.ins C dx fs) := by unfold lean; simp only [e]
theorem lean_tup {M : Hp} {a xs} (e : M a = some (.tup xs)) : lean M a = some (.tup xs) := by unfold lean; simp only [e]
theorem lean_lst {M : Hp} {a xs} (e : M a = some (.lst xs)) : lean M a = some (.lst xs) := by unfold lean; simp only [e]
theorem lean_own {M : Hp} {a b C fs} (e : M b = some (.own a)) (e2 : M a = some (.ins C b fs)) : lean M b = some (.own a) := by unfold lean; simp only [e, e2, if_true]
theorem lean_whole {M : Hp} (h : ∀ a C dx fs, M a = some (.ins C dx fs) → M dx = some (.own a)) : Whole (lean M) where
  noT b kvs e := by
    have := lean_sub b _ e
    unfold lean at e
    simp only [this] at e
    cases e
  noF b ob u e := by
    have := lean_sub b _ e
    unfold lean at e
    simp only [this] at e
    cases e
  own b a e := by
    have q := lean_sub b _ e
    unfold lean at e
    simp only [q] at e
    split at e
    · rename_i C d fs q2
      split at e
      · rename_i z; subst z; exact ⟨C, fs, lean_ins q2⟩
      · cases e
    · cases e
  ins a C dx fs e := by
    have q := lean_sub a _ e
    exact lean_own (h a C dx fs q) q
theorem Whole.lean_of (q : Whole G) {M : Hp} (sm : Same G M) : Same G (lean M) := fun b x e => by
  have e2 := sm b x e
  cases x with
  | dT kvs => exact absurd e (q.noT b kvs)
  | frz ob u => exact absurd e (q.noF b ob u)
  | own a => obtain ⟨C, fs, z⟩ := q.own b a e; exact lean_own e2 (sm a _ z)
  | _ => unfold lean; simp only [e2]
end
def LeanS (sl : Sl) : Prop := ∀ M v, sl.p M v → sl.p (lean M) v
def LeanR {α : Type} (r : R α) : Prop := ∀ x, LeanS (r.at x)
def LeanG (G : Gam) : Prop := ∀ (i : Nat) (sl : Sl), G[i]? = some (some sl) → LeanS sl

/-! ### the generator's context -/
/-- the heap below L -/
def cut (L : Nat) (s : Shared) : Shared := { s with heap := { s.heap with objs := s.heap.objs.extract 0 L } }
theorem cut_size {L : Nat} {s : Shared} (h : L ≤ s.heap.objs.size) : (cut L s).heap.objs.size = L := by
  show (s.heap.objs.extract 0 L).size = L
  rw [Array.size_extract]; omega
theorem cut_get {L b : Nat} {s : Shared} (h : b < L) : (cut L s).heap.get? b = s.heap.get? b := by
  show (match (s.heap.objs.extract 0 L)[b]? with | some ⟨_, _, .freed, _⟩ => none | o => o) = (match s.heap.objs[b]? with | some ⟨_, _, .freed, _⟩ => none | o => o)
  have e : (s.heap.objs.extract 0 L)[b]? = s.heap.objs[b]? := by
    by_cases hb : b < s.heap.objs.size
    · rw [Array.getElem?_extract, if_pos (show b < min L s.heap.objs.size - 0 from by omega), Nat.zero_add]
    · rw [Array.getElem?_eq_none (show s.heap.objs.size ≤ b from by omega), Array.getElem?_eq_none (by rw [Array.size_extract]; omega)]
  rw [e]
theorem cut_lt {L b : Nat} {s : Shared} {o : Obj} (e : (cut L s).heap.get? b = some o) : b < L ∧ s.heap.get? b = some o := by
  have h := Heap.lt_size e
  have h' : b < (s.heap.objs.extract 0 L).size := h
  rw [Array.size_extract, Nat.sub_zero] at h'
  have hb : b < L := Nat.lt_of_lt_of_le h' (Nat.min_le_left _ _)
  rw [cut_get hb] at e
  exact ⟨hb, e⟩
/-- the others' young things, as they stand -/
def froz (G : Hp) (L : Nat) (O : List Addr) (s : Shared) : Hp := fun b => if (G b).isSome = true ∨ b < L ∨ b ∈ O then none else (s.heap.get? b).map fun o => .frz o (.own b)
def both (G B : Hp) : Hp := fun b => match G b with | some o => some o | none => B b
theorem both_l {G B : Hp} : Same G (both G B) := fun b x e => by unfold both; rw [e]
theorem both_r {G L O s} : Same (froz G L O s) (both G (froz G L O s)) := fun b x e => by
  have hG : G b = none := by
    unfold froz at e
    split at e
    · cases e
    · rename_i h; cases q : G b with
      | none => rfl
      | some y => exact absurd (.inl (by rw [q]; rfl)) h
  unfold both; rw [hG]; exact e
theorem froz_some {G : Hp} {L : Nat} {O : List Addr} {s : Shared} {b : Addr} {o : Obj} (hG : G b = none) (hL : L ≤ b) (hO : b ∉ O) (e : s.heap.get? b = some o) : froz G L O s b = some (.frz o (.own b)) := by
  unfold froz
  rw [if_neg (by rw [hG]; simp; exact ⟨hL, hO⟩), e]; rfl
theorem froz_of {G : Hp} {L : Nat} {O : List Addr} {s : Shared} {b : Addr} {x : HO} (e : froz G L O s b = some x) : G b = none ∧ L ≤ b ∧ b ∉ O ∧ ∃ o, s.heap.get? b = some o ∧ x = .frz o (.own b) := by
  unfold froz at e
  split at e
  · cases e
  · rename_i h
    cases q : s.heap.get? b with
    | none => rw [q] at e; cases e
    | some o =>
      rw [q] at e
      cases e
      refine ⟨?_, Nat.le_of_not_lt fun z => h (.inr (.inl z)), fun z => h (.inr (.inr z)), o, rfl, rfl⟩
      cases r : G b with
      | none => rfl
      | some y => exact absurd (.inl (by rw [r]; rfl)) h
def gx (P : Program) (w : World) (K : PySem.W.Frag) (mg : Str → Option Value) (base : Heap) (N : List Str) (qual : Str) (scope : Scope) (f : Addr) (cd : Value) (A : Around) (outer : List Env) (L : Addr) (sc : Shared) (H : Hp) : Cx where
  prog := P
  w := w
  K := K
  mg := mg
  base := base
  A := A.deeper (envOfC qual scope L f cd)
  N := N
  s_0 := sc
  H_0 := H
  env := envOfC qual scope L f cd
  outer := outer
  stack := envOfC qual scope L f cd :: outer
  ex := []
  fn := fun _ => true
  calm := true
  pn := []
  xe := fun _ _ => False
theorem gx_eq {P : Program} {w : World} {K : PySem.W.Frag} {mg : Str → Option Value} {base : Heap} {N : List Str} {qual : Str} {scope : Scope} {f : Addr} {cd : Value} {A : Around} {outer : List Env} {sc : Shared} {H : Hp} {E : XK} :
    gx P w K mg base N qual scope f cd A outer sc.heap.objs.size sc H = (cxOf CX0 P w K mg base N qual scope f cd A outer sc H E).nox := rfl
/-- a def's names, none of them in a cell -/
structure PlainScope (N ps : List Str) (sc : Scope) : Prop where
  g : GScope N ps sc
  flat : ∀ y ∈ sc.names, y.2 ≠ .cell
theorem cells_nil : ∀ {l : List (Str × NameKind)} {n : Nat}, (∀ y ∈ l, y.2 ≠ .cell) → cellsFrom n l [] = []
  | [], _, _ => rfl
  | (x, k) :: r, n, h => by
    have hk : (k == NameKind.cell) = false := by
      have := h (x, k) List.mem_cons_self
      cases k <;> first | rfl | exact absurd rfl this
    show (if (k == NameKind.cell) = true then _ else _) = _
    rw [hk]
    exact cells_nil fun y hy => h y (List.mem_cons_of_mem _ hy)
theorem PlainScope.nocell {N ps sc} (S : PlainScope N ps sc) {qual L f cd x} : (envOfC qual sc L f cd).cells.lookup x = none := by
  show (cellsFrom (L + 1) sc.names []).lookup x = none
  rw [cells_nil S.flat]; rfl
theorem PlainScope.kinds {N ps sc} (S : PlainScope N ps sc) {qual L f cd x} : (envOfC qual sc L f cd).kindOf x ≠ some .cell ∧ (envOfC qual sc L f cd).kindOf x ≠ some .free := by
  refine ⟨fun h => ?_, fun h => ?_⟩
  · exact absurd rfl (S.flat _ (PySem.mem_of_lookup (show sc.names.lookup x = some .cell from h)))
  · exact absurd rfl (S.g.nofree _ (PySem.mem_of_lookup (show sc.names.lookup x = some .free from h)))
end ML

/-! a generator and its consumer: hands change -/
namespace ML
open PySem PySem.Spec PyProof.Rows L2

def mix (s : Shared) (A B : Hp) : Hp := fun b => if (s.heap.get? b).isSome = true then A b else B b
theorem mix_old {s : Shared} {A B : Hp} {b : Addr} {o : Obj} (e : s.heap.get? b = some o) : mix s A B b = A b := by unfold mix; rw [e]; rfl
theorem mix_new {s : Shared} {A B : Hp} {b : Addr} (e : s.heap.get? b = none) : mix s A B b = B b := by unfold mix; rw [e]; rfl
theorem none_sub {A B : Hp} (h : Same A B) {b : Addr} (e : B b = none) : A b = none := by
  cases q : A b with
  | none => rfl
  | some x => rw [h b x q] at e; cases e
/-- the names of a frame whose object is o -/
def LocAt (N : List Str) (scope : Scope) (σ : L2.St) (o : Obj) : Prop :=
  ∃ es ep m, o.data = .dict es ep ∧ (∀ h : Heap, ∀ a, h.get? a = some o → h.Ns a m) ∧ ∀ (i : Nat) (x : Str) (v : V), N[i]? = some x → σ[i]? = some (some v) → Vis scope x → ∃ u, RelV v u ∧ m x = some u

/-- what never changes: the consumer, the generator's frame at L -/
structure Pact (X : Cx) (N ps : List Str) (scope : Scope) (A : Around) (L : Addr) : Prop where
  sc : PlainScope N ps scope
  hd : A.handled = none
  fr : A.frames = some X.stack
  old : L ∈ X.ex ∨ X.s_0.heap.objs.size ≤ L
  bl : X.base.objs.size ≤ L
  freed : ∀ b, L < b → X.s_0.heap.get? b = none → b ∈ X.ex ∨ X.s_0.heap.objs.size ≤ b
  low : ∀ b ∈ frs X.stack, b < L
structure Sleep (X : Cx) (pins : List (Addr × Obj)) (L : Addr) (G : Hp) (oL : Obj) (ip : List (Addr × Obj)) (σc : L2.St) (Hc : Hp) (s : Shared) : Prop where
  inv : Inv X (pins ++ (L, oL) :: ip) σc Hc s
  whole : Whole G
  sub : Same G Hc
  up : ∀ p ∈ ip, L < p.1
  late : ∀ p ∈ ip, p.1 ∈ X.ex ∨ X.s_0.heap.objs.size ≤ p.1
  apart : ∀ p ∈ (L, oL) :: ip, ∀ q ∈ X.pn ++ pins, q.1 ≠ p.1
abbrev ads (L : Addr) (ip : List (Addr × Obj)) : List Addr := L :: ip.map (·.1)
/-- the generator's heap when it wakes -/
abbrev wakeH (L : Addr) (G : Hp) (ip : List (Addr × Obj)) (s : Shared) : Hp := both G (froz G L (ads L ip) s)
section
variable {X : Cx} {N ps : List Str} {scope : Scope} {A : Around} {L : Addr} {pins : List (Addr × Obj)} {G : Hp} {oL : Obj} {ip : List (Addr × Obj)} {σc σ : L2.St} {Hc : Hp} {s : Shared} {qual : Str} {f : Addr} {cd : Value}
theorem Sleep.own (S : Sleep X pins L G oL ip σc Hc s) {p : Addr × Obj} (hp : p ∈ (L, oL) :: ip) : s.heap.get? p.1 = some p.2 ∧ Hc p.1 = none ∧ p.1 ≠ X.env.locals ∧ p.1 ∉ X.fs ∧ ∀ v, p.2.data ≠ .cell v :=
  S.inv.pin p (List.mem_append_right _ (List.mem_append_right _ hp))
theorem Sleep.ownA (S : Sleep X pins L G oL ip σc Hc s) {b : Addr} (hb : b ∈ ads L ip) : ∃ o, (b, o) ∈ (L, oL) :: ip := by
  rcases List.mem_cons.mp hb with e | hb
  · exact ⟨oL, by rw [e]; exact List.mem_cons_self⟩
  · obtain ⟨p, hp, e⟩ := List.mem_map.mp hb
    exact ⟨p.2, List.mem_cons_of_mem _ (by rw [← e]; exact hp)⟩
theorem Sleep.lt (S : Sleep X pins L G oL ip σc Hc s) : L < s.heap.objs.size := Heap.lt_size (S.own List.mem_cons_self).1
theorem Sleep.nfs (S : Sleep X pins L G oL ip σc Hc s) {b : Addr} (hb : b ∈ ads L ip) : b ∉ frs X.stack := fun hm => by
  obtain ⟨o, ho⟩ := S.ownA hb
  obtain ⟨_, _, h3, h4, _⟩ := S.own ho
  rcases List.mem_cons.mp (S.inv.stkSub b hm) with e | hm
  · exact h3 e
  · exact h4 hm
theorem funs_cut {X : Cx} {s : Shared} {L : Addr} {base : Heap} : ∀ {l : List Env}, (∀ b ∈ frs l, b < L) → s.heap.FunFrames base l → (cut L s).heap.FunFrames base l
  | [], _, _ => trivial
  | env :: r, hl, ⟨hk, ⟨L', o, hf, hn, ho, hd⟩, hr⟩ => by
    have hL : L' ∈ frs (env :: r) := by unfold frs; rw [List.filterMap_cons, hf]; exact List.mem_cons_self
    refine ⟨hk, ⟨L', o, hf, hn, (cut_get (hl L' hL)).trans ho, hd⟩, funs_cut (X := X) (fun b hb => hl b ?_) hr⟩
    unfold frs
    rw [List.filterMap_cons, hf]
    exact List.mem_cons_of_mem _ hb
/-- the generator wakes -/
theorem Sleep.wake (S : Sleep X pins L G oL ip σc Hc s) (Z : Pact X N ps scope A L) (loc : LocAt N scope σ oL) (len : σ.length = N.length) :
    Inv (gx X.prog X.w X.K X.mg X.base N qual scope f cd A X.stack L (cut L s) (wakeH L G ip s)) ip σ (wakeH L G ip s) s := by
  have I := S.inv
  have hL := S.lt
  have bl : ∀ b o, X.base.get? b = some o → b < L := fun b o e => Nat.lt_of_lt_of_le (Heap.lt_size e) Z.bl
  have nG : ∀ {b}, Hc b = none → G b = none := fun e => none_sub S.sub e
  have nlow : ∀ {b}, b < L → Hc b = none → wakeH L G ip s b = none := fun {b} hb e => by
    show both G _ b = none
    unfold both froz
    rw [nG e]
    simp [hb]
  have nown : ∀ {b}, b ∈ ads L ip → wakeH L G ip s b = none := fun {b} hb => by
    obtain ⟨o, ho⟩ := S.ownA hb
    show both G _ b = none
    unfold both froz
    rw [nG (S.own ho).2.1]
    simp only [hb, or_true, if_true]
  have nc : ∀ (x : Str) (c : Addr), (envOfC qual scope L f cd).cells.lookup x = some c → False := fun x c e => by rw [Z.sc.nocell] at e; cases e
  refine ⟨⟨I.ok.mod, Z.sc.g.kind, rfl, rfl, Nat.le_of_eq (cut_size (Nat.le_of_lt hL)), fun _ _ _ e _ => (nc _ _ e).elim, fun x hx => ?_, fun _ _ _ e => (nc _ _ e).elim, fun _ => Z.hd, Around.frames_deeper Z.fr, .inr ⟨rfl, rfl⟩, fun b hb => absurd (show b ∈ ([] : List Addr) from hb) (by simp),
    fun b o e => ⟨(cut_get (bl b o e)).trans (I.bs b o e).1, nlow (bl b o e) (I.bs b o e).2⟩, ?_, fun b o _ hb => absurd (show b ∈ ([] : List Addr) from hb) (by simp), fun b hb => absurd (show b ∈ ([] : List Addr) from hb) (by simp), funs_cut (X := X) Z.low I.stack, fun b hb => nlow (Z.low b hb) (I.stkFree b hb)⟩,
    rfl, I.bare, Un.kept fun b u e => (cut_lt e).2, ?_, fun _ _ e => (nc _ _ e).elim, nown List.mem_cons_self, fun _ _ e => (nc _ _ e).elim, fun p hp => ?_, fun b x e => ?_, len⟩
  · rcases hx with hx | hx
    · exact absurd hx Z.sc.kinds.1
    · exact absurd hx Z.sc.kinds.2
  · show X.base.objs.size ≤ (cut L s).heap.objs.size
    rw [cut_size (Nat.le_of_lt hL)]
    exact Z.bl
  · obtain ⟨es, ep, m, hd, hm, hv⟩ := loc
    refine ⟨m, hm _ _ (S.own List.mem_cons_self).1, fun i x v h1 h2 h3 => ?_⟩
    obtain ⟨u, r, e⟩ := hv i x v h1 h2 h3
    refine ⟨u, r, .inl ⟨?_, e⟩⟩
    rcases h3 with h3 | h3 | h3
    · exact h3
    · exact absurd h3 (Z.sc.kinds (qual := qual) (L := L) (f := f) (cd := cd)).1
    · exact absurd h3 (Z.sc.kinds (qual := qual) (L := L) (f := f) (cd := cd)).2
  · have hp' : p ∈ ip := hp
    obtain ⟨h1, h2, h3, h4, h5⟩ := S.own (List.mem_cons_of_mem _ hp')
    have ha : p.1 ∈ ads L ip := List.mem_cons_of_mem _ (List.mem_map.mpr ⟨p, hp', rfl⟩)
    exact ⟨h1, nown ha, Nat.ne_of_gt (S.up p hp'), S.nfs ha, h5⟩
  · cases q : G b with
    | some y =>
      have e' : both G (froz G L (ads L ip) s) b = some x := e
      rw [both_l b y q] at e'
      cases e'
      exact ObjOk.swap (S.whole.hok S.sub I.hok b _ q) (fun C dx fs z => both_l dx _ (S.whole.ins b C dx fs (by rw [q, z]))) (fun kvs z => S.whole.noT b kvs (by rw [q, z])) fun ob u z => S.whole.noF b ob u (by rw [q, z])
    | none =>
      have e' : both G (froz G L (ads L ip) s) b = some x := e
      unfold both at e'
      rw [q] at e'
      obtain ⟨_, _, _, o, ho, rfl⟩ := froz_of e'
      exact ⟨ho, o, ho⟩

/-- the consumer's turn again -/
structure Back (X : Cx) (pins : List (Addr × Obj)) (L : Addr) (G : Hp) (ip : List (Addr × Obj)) (σc : L2.St) (Hc H' : Hp) (s s1 : Shared) : Prop where
  inv : Inv X pins σc (mix s Hc H') s1
  whole : Whole (lean (mix s G H'))
  more : Same G (lean (mix s G H'))
  sub : Same (lean (mix s G H')) (mix s Hc H')
  know : ∀ b o x, s.heap.get? b = some o → H' b = some x → G b = some x ∨ froz G L (ads L ip) s b = some x
theorem Sleep.back (S : Sleep X pins L G oL ip σc Hc s) (Z : Pact X N ps scope A L) {ip' : List (Addr × Obj)} {σ' : L2.St} {H' : Hp} {s1 : Shared}
    (J : Inv (gx X.prog X.w X.K X.mg X.base N qual scope f cd A X.stack L (cut L s) (wakeH L G ip s)) ip' σ' H' s1) (sG : Same G H') (sB : Same (froz G L (ads L ip) s) H') (hO : ∀ b ∈ ads L ip, H' b = none) :
    Back X pins L G ip σc Hc H' s s1 := by
  have I := S.inv
  have nG : ∀ {b}, Hc b = none → G b = none := fun e => none_sub S.sub e
  have noA : ∀ b : Addr, b ∉ (gx X.prog X.w X.K X.mg X.base N qual scope f cd A X.stack L (cut L s) (wakeH L G ip s)).ex := fun b z => absurd (show b ∈ ([] : List Addr) from z) (by simp)
  have wlow : ∀ {b}, b < L → G b = none → wakeH L G ip s b = none := fun {b} hb e => by
    show both G _ b = none
    unfold both froz
    rw [e]; simp [hb]
  have kept : ∀ b o, s.heap.get? b = some o → G b = none → b ∉ frs X.stack → b ∉ ads L ip → s1.heap.get? b = some o ∧ (H' b = none ∨ H' b = some (.frz o (.own b))) := fun b o e n hb hx => by
    by_cases hl : b < L
    · have e0 : (cut L s).heap.get? b = some o := (cut_get hl).trans e
      exact ⟨J.base.keep b o e0 (wlow hl n) hb (noA b), .inl (J.base.free b o e0 (wlow hl n) (noA b))⟩
    · have q := sB b _ (froz_some n (Nat.le_of_not_lt hl) hx e)
      exact ⟨(J.hok b _ q).1, .inr q⟩
  have frame : ∀ b o, s.heap.get? b = some o → b ∈ frs X.stack → (∃ sl, s1.heap.get? b = some { o with slots := sl }) ∧ H' b = none := fun b o e hb => by
    have hl := Z.low b hb
    have n := nG (I.stkFree b hb)
    have e0 : (cut L s).heap.get? b = some o := (cut_get hl).trans e
    exact ⟨J.base.slot b o e0 (wlow hl n) hb (noA b), J.base.free b o e0 (wlow hl n) (noA b)⟩
  have known : ∀ b o x, s.heap.get? b = some o → H' b = some x → (∀ ob u, x ≠ .frz ob u) → G b = some x := fun b o x e q nf => by
    cases r : G b with
    | some z => rw [sG b z r] at q; exact q
    | none =>
      by_cases h1 : b ∈ ads L ip
      · rw [hO b h1] at q; cases q
      · by_cases h2 : b ∈ frs X.stack
        · rw [(frame b o e h2).2] at q; cases q
        · rcases (kept b o e r h2 h1).2 with z | z
          · rw [z] at q; cases q
          · rw [z] at q; cases q; exact absurd rfl (nf _ _)
  have hcIn : ∀ b x, Hc b = some x → mix s Hc H' b = some x := fun b x e => by
    obtain ⟨ob, eo⟩ := HOk.there I.hok e
    rw [mix_old eo]; exact e
  have ownNo : ∀ b ∈ ads L ip, Hc b = none := fun b hb => let ⟨o, ho⟩ := S.ownA hb; (S.own ho).2.1
  have hok : HOk X.prog X.w (mix s Hc H') s1.heap := fun b x e => by
    cases eo : s.heap.get? b with
    | some o =>
      rw [mix_old eo] at e
      cases r : G b with
      | some z =>
        have ez := S.sub b z r
        rw [e] at ez
        cases ez
        exact ObjOk.swap (J.hok b x (sG b x r)) (fun C dx fs q => hcIn dx _ (S.sub dx _ (S.whole.ins b C dx fs (by rw [r, q])))) (fun kvs q => S.whole.noT b kvs (by rw [r, q])) fun ob u q => S.whole.noF b ob u (by rw [r, q])
      | none =>
        refine ObjOk.stay (I.hok b x e) (fun c u hc ec => ?_) (fun c q => hcIn c _ q) fun c xs q => hcIn c _ q
        rcases hc with rfl | hc
        · refine (kept c u ec r (fun hm => ?_) fun hm => ?_).1
          · rw [I.stkFree c hm] at e; cases e
          · rw [ownNo c hm] at e; cases e
        · refine (kept c u ec ?_ (fun hm => ?_) fun hm => ?_).1
          · cases rc : G c with
            | none => rfl
            | some z =>
              have ez := S.sub c z rc
              rw [hc] at ez
              cases ez
              obtain ⟨C, fs, ew⟩ := S.whole.own c b rc
              rw [r] at ew; cases ew
          · rw [I.stkFree c hm] at hc; cases hc
          · rw [ownNo c hm] at hc; cases hc
    | none =>
      rw [mix_new eo] at e
      refine ObjOk.stay (J.hok b x e) (fun c u hc ec => ec) (fun c q => ?_) fun c xs q => ?_
      · cases ec : s.heap.get? c with
        | none => rw [mix_new ec]; exact q
        | some oc =>
          have z := known c oc _ ec q fun _ _ z => by cases z
          obtain ⟨C, fs, ew⟩ := S.whole.own c b z
          obtain ⟨ob, eb⟩ := HOk.there (S.whole.hok S.sub I.hok) ew
          rw [eo] at eb; cases eb
      · cases ec : s.heap.get? c with
        | none => rw [mix_new ec]; exact q
        | some oc => exact hcIn c _ (S.sub c _ (known c oc _ ec q fun _ _ z => by cases z))
  have I0 : Inv X pins σc Hc s := I.pins_of fun p hp => I.pin p (List.mem_append_right _ (List.mem_append_left _ hp))
  have sGm : Same G (mix s G H') := fun b x e => by
    obtain ⟨ob, eo⟩ := HOk.there (S.whole.hok S.sub I.hok) e
    rw [mix_old eo]; exact e
  refine ⟨I0.call' (ch := ads L ip) (J.os) ⟨fun b o e n hb hx => (kept b o e (nG n) hb hx).1, fun b o e n hb hx => (frame b o e hb).1, fun b o e n hx => (mix_old e).trans n, fun b o e hx => ?_, fun b xs e => hcIn b _ e, fun b o u e => hcIn b _ e, fun b pt e => ⟨#[], by rw [hcIn b _ e]; simp⟩⟩ hok J.bare fun b hb => ?_,
    lean_whole fun a C dx fs e => ?_, S.whole.lean_of sGm, fun b x e => ?_, fun b o x e q => ?_⟩
  · cases r : G b with
    | some z => exact HOk.there J.hok (sG b z r)
    | none =>
      by_cases h2 : b ∈ frs X.stack
      · obtain ⟨sl, q⟩ := (frame b o e h2).1
        exact ⟨_, q⟩
      · exact ⟨o, (kept b o e r h2 hx).1⟩
  · obtain ⟨o, ho⟩ := S.ownA hb
    obtain ⟨h1, h2, h3, h4, h5⟩ := S.own ho
    refine ⟨?_, h3, fun x c e z => ?_, fun p hp => S.apart _ ho p hp⟩
    · rcases List.mem_cons.mp hb with e | hb
      · rw [e]; exact Z.old
      · obtain ⟨p, hp, e⟩ := List.mem_map.mp hb
        rw [← e]; exact S.late p hp
    · obtain ⟨v, oc, hoc, hd⟩ := I.cell x c e
      rw [z, h1] at hoc
      cases hoc
      exact h5 v hd
  · cases ea : s.heap.get? a with
    | some oa =>
      rw [mix_old ea] at e
      exact sGm dx _ (S.whole.ins a C dx fs e)
    | none =>
      rw [mix_new ea] at e
      obtain ⟨q, _⟩ := J.hok a _ e
      cases ed : s.heap.get? dx with
      | none => rw [mix_new ed]; exact q
      | some od => rw [mix_old ed]; exact known dx od _ ed q fun _ _ z => by cases z
  · have e2 := lean_sub b x e
    cases eb : s.heap.get? b with
    | none => rw [mix_new eb] at e2 ⊢; exact e2
    | some ob => rw [mix_old eb] at e2 ⊢; exact S.sub b x e2
  · cases r : G b with
    | some z => rw [sG b z r] at q; exact .inl q
    | none =>
      by_cases h1 : b ∈ ads L ip
      · rw [hO b h1] at q; cases q
      · by_cases h2 : b ∈ frs X.stack
        · rw [(frame b o e h2).2] at q; cases q
        · rcases (kept b o e r h2 h1).2 with z | z
          · rw [z] at q; cases q
          · rw [z] at q; cases q
            by_cases hl : b < L
            · have e0 : (cut L s).heap.get? b = some o := (cut_get hl).trans e
              rw [J.base.free b o e0 (wlow hl r) (noA b)] at z; cases z
            · exact .inr (froz_some r (Nat.le_of_not_lt hl) h1 e)
end
end ML

/-! a generator's body -/
namespace ML
open PySem PySem.Spec PyProof.Rows L2 GenW

/-- what a run of the generator did to what its consumer knows -/
structure Grown (G Hc G' Hc' : Hp) : Prop where
  more : Same G G'
  ex : ∃ p : Addr → Bool, (∀ b, Hc b ≠ none → p b = true) ∧ (∀ b, p b = true → Hc' b = Hc b) ∧ (∀ b x, p b = false → G' b = some x → Hc' b = some x) ∧ ∀ b x, p b = true → G' b = some x → G b = some x
theorem Back.grown {X : Cx} {pins : List (Addr × Obj)} {L : Addr} {G : Hp} {ip : List (Addr × Obj)} {σc : L2.St} {Hc H' : Hp} {s s1 : Shared} (B : Back X pins L G ip σc Hc H' s s1) (hc : HOk X.prog X.w Hc s.heap) : Grown G Hc (lean (mix s G H')) (mix s Hc H') where
  more := B.more
  ex := ⟨fun b => (s.heap.get? b).isSome, fun b h => by
      cases q : Hc b with
      | none => exact absurd q h
      | some x => obtain ⟨o, e⟩ := HOk.there hc q; show (s.heap.get? b).isSome = true; rw [e]; rfl,
    fun b h => by unfold mix; rw [if_pos h], fun b x h e => B.sub b x e, fun b x h e => by
      have := lean_sub b x e
      unfold mix at this
      rwa [if_pos h] at this⟩

/-- all that is fixed in the walk of one generator by one consumer -/
structure GK {α : Type} where
  X : Cx
  pins : List (Addr × Obj)
  L : Addr
  N : List Str
  ps : List Str
  scope : Scope
  qual : Str
  f : Addr
  cd : Value
  A : Around
  ys : List α
  r : R α
  Wt : Nat → Hp → L2.St → Hp → Prop
section
variable {α : Type} (g : GK (α := α))
abbrev GK.M : Model := model g.X.prog g.X.w
abbrev GK.env : Env := envOfC g.qual g.scope g.L g.f g.cd
abbrev GK.cx (sc : Shared) (H : Hp) : Cx := gx g.X.prog g.X.w g.X.K g.X.mg g.X.base g.N g.qual g.scope g.f g.cd g.A g.X.stack g.L sc H
def GK.Y : Protocol := fun m s₀ v s kap => ∃ k G oL ip σc Hc y vv G' oL' ip' Hc', m + k = g.ys.length ∧ Sleep g.X g.pins g.L G oL ip σc Hc s₀ ∧ g.Wt k G σc Hc ∧ g.ys[k]? = some y ∧ RelV vv v ∧ g.r.p y G' vv ∧
  Sleep g.X g.pins g.L G' oL' ip' σc Hc' s ∧ Grown G Hc G' Hc' ∧ ∀ s' σ' H', Sleep g.X g.pins g.L G' oL' ip' σ' H' s' → g.Wt (k + 1) G' σ' H' → kap (.send .none) s'
def GK.F : Nat → Shared → Shared → Prop := fun n s₀ s => ∃ G oL ip σc Hc G' Hc', Sleep g.X g.pins g.L G oL ip σc Hc s₀ ∧ g.Wt g.ys.length G σc Hc ∧ Inv g.X g.pins σc Hc' s ∧ Grown G Hc G' Hc'
def GK.R : GenEnd := fun n s₀ r s₁ => ((r = .ok (.ret .none) ∨ r = .ok .next) ∧ g.F n s₀ s₁) ∨ ∃ e, r = .error e ∧ False
/-- the generator runs; it has handed out k things -/
structure Going (ex : List Addr) (k : Nat) (Gm : Gam) (T : Tms) (cs : Cells) (ip : List (Addr × Obj)) (s₀ s : Shared) (G : Hp) (oL : Obj) (ip0 : List (Addr × Obj)) (σc : L2.St) (Hc : Hp) (σ : L2.St) (H : Hp) : Prop where
  S : Sleep g.X g.pins g.L G oL ip0 σc Hc s₀
  wt : g.Wt k G σc Hc
  J : Inv (g.cx (cut g.L s₀) (wakeH g.L G ip0 s₀)) ip σ H s
  st : Sta ⟨G, froz G g.L (ads g.L ip0) s₀⟩ Gm T cs σ H
  sub : ∀ p ∈ ip0, p.1 ∈ ip.map (·.1) ∨ p.1 ∈ ex
  ex : ∀ b ∈ ex, H b = none
  up : ∀ p ∈ ip, g.L < p.1
def Gg (ex : List Addr) (k : Nat) (Gm : Gam) (T : Tms) (cs : Cells) (ip : List (Addr × Obj)) (c : Code) (t : Sem PySem.Fin) (fs : List PySem.Frame) : Prop :=
  ∀ n s₀ s G oL ip0 σc Hc σ H, n + k = g.ys.length + 1 → Going g ex k Gm T cs ip s₀ s G oL ip0 σc Hc σ H → Seg g.M g.A g.R g.Y n s₀ c t fs s
/-- where its code stands -/
structure GC' (c : Code) (fs : List PySem.Frame) (gd : Bool → Bool) : Prop where
  over : g.A.over c fs = g.A.deeper g.env
  split : splitAtGen fs = none
  guard : fs.any Frame.guarded = false
  gd : gd false = false
end
section
variable {α : Type} {g : GK (α := α)} {k : Nat} {Gm Gm' : Gam} {T : Tms} {cs cs' : Cells} {ip : List (Addr × Obj)} {ex : List Addr} {c : Code} {fs : List PySem.Frame} {K : Flow → Sem PySem.Fin} {J : Value → Sem PySem.Fin} {gd : Bool → Bool} {lv : List Value → List Value} {st : Stmt} {rest body orelse : List Stmt} {pos : Pos}
theorem Going.back {s₀ s : Shared} {G : Hp} {oL : Obj} {ip0 : List (Addr × Obj)} {σc σ : L2.St} {Hc H : Hp} (h : Going g ex k Gm T cs ip s₀ s G oL ip0 σc Hc σ H) (Z : Pact g.X g.N g.ps g.scope g.A g.L) : Back g.X g.pins g.L G ip0 σc Hc H s₀ s := by
  obtain ⟨F, c, _, _⟩ := h.st
  refine h.S.back Z h.J (c.f0.trans c.fh) c.bh fun b hb => ?_
  rcases List.mem_cons.mp hb with e | hb
  · rw [e]; exact h.J.free
  · obtain ⟨p, hp, e⟩ := List.mem_map.mp hb
    rcases h.sub p hp with z | z
    · obtain ⟨q, hq, eq⟩ := List.mem_map.mp z
      rw [← e, ← eq]
      exact (h.J.pin q (List.mem_append_right _ hq)).2.1
    · rw [← e]; exact h.ex _ z
theorem gg_nil (h : Gg g ex k Gm T cs ip c (K .next) fs) : Gg g ex k Gm T cs ip c ((execs [] g.env).wrap K J gd lv) fs := fun n s₀ s G oL ip0 σc Hc σ H hn hg =>
  seg_execs_nil (h n s₀ s G oL ip0 σc Hc σ H hn hg)
theorem gg_cons (h : Gg g ex k Gm T cs ip c ((exec st g.env).wrap (fun f => match f with | .next => (execs rest g.env).wrap K J gd lv | f => K f) J gd lv) fs) : Gg g ex k Gm T cs ip c ((execs (st :: rest) g.env).wrap K J gd lv) fs := fun n s₀ s G oL ip0 σc Hc σ H hn hg =>
  seg_execs_cons (h n s₀ s G oL ip0 σc Hc σ H hn hg)
theorem gg_weak {t : Sem PySem.Fin} (w : Wkn Gm Gm') (h : Gg g ex k Gm' T cs ip c t fs) : Gg g ex k Gm T cs ip c t fs := fun n s₀ s G oL ip0 σc Hc σ H hn hg =>
  h n s₀ s G oL ip0 σc Hc σ H hn ⟨hg.S, hg.wt, hg.J, let ⟨F, a, b, c⟩ := hg.st; ⟨F, a, b.weak w, c⟩, hg.sub, hg.ex, hg.up⟩
/-- a statement that hands out nothing -/
theorem gg_plain {t : TS} (hc : GC' g c fs gd) (hP : ∀ sc H, sc.heap.objs.size = g.L → PS (g.cx sc H) st t)
    (hN : ∀ W, NxT (t ⟨fun σ H => Sta W Gm' T cs' σ H, fun _ _ => False, fun _ _ => False, fun _ _ => False⟩) W Gm T cs)
    (hk : Gg g [] k Gm' T cs' ip c (K .next) fs) : Gg g [] k Gm T cs ip c ((exec st g.env).wrap K J gd lv) fs := fun n s₀ s G oL ip0 σc Hc σ H hn hg => by
  refine seg_wrap ?_
  rw [hc.over]
  refine wpAny_mono ((hP _ _ (cut_size (Nat.le_of_lt hg.S.lt))).run ip s σ H _ hg.J (hN _ σ H hg.st)) (fun f s' q => ?_) fun e s' q => q.elim
  cases f with
  | next =>
    obtain ⟨σ', H', J', st'⟩ := q
    exact hk n s₀ s' G oL ip0 σc Hc σ' H' hn ⟨hg.S, hg.wt, J', st', hg.sub, fun b hb => by simp at hb, hg.up⟩
  | brk => obtain ⟨_, _, _, q⟩ := q; exact q.elim
  | cont => obtain ⟨_, _, _, q⟩ := q; exact q.elim
  | ret u => obtain ⟨_, _, _, _, _, q⟩ := q; exact q.elim
theorem gg_if {test : Expr} {tc : TT} {b0 : Bool} (hc : GC' g c fs gd) (hP : ∀ sc H, sc.heap.objs.size = g.L → PT (g.cx sc H) test tc)
    (hT : ∀ W, Et tc W Gm T cs fun b cs1 => b = b0 ∧ cs1 = cs') (h1 : b0 = true → Gg g [] k Gm T cs' ip c ((execs body g.env).wrap K J gd lv) fs) (h2 : b0 = false → Gg g [] k Gm T cs' ip c ((execs orelse g.env).wrap K J gd lv) fs) :
    Gg g [] k Gm T cs ip c ((exec (.If test body orelse pos) g.env).wrap K J gd lv) fs := fun n s₀ s G oL ip0 σc Hc σ H hn hg => by
  rw [arm_exec_If]
  refine seg_at ?_
  show Seg _ _ _ _ n s₀ c ((isTrue test g.env (eval test g.env) >>= fun b => if b = true then execs body g.env else execs orelse g.env).wrap K J gd lv) fs s
  refine seg_bind_wrap ?_
  rw [hc.over]
  refine wpAny_mono ((hP _ _ (cut_size (Nat.le_of_lt hg.S.lt))).run ip s σ H _ hg.J (hT _ σ H hg.st (fun b H1 => b = b0 ∧ Sta ⟨G, froz G g.L (ads g.L ip0) s₀⟩ Gm T cs' σ H1) fun b cs1 ⟨e1, e2⟩ H1 st1 => by subst e2; exact ⟨e1, st1⟩)) (fun b s' q => ?_) fun e s' q => q.elim
  obtain ⟨H1, J1, e1, st1⟩ := q
  subst e1
  have hg' : Going g [] k Gm T cs' ip s₀ s' G oL ip0 σc Hc σ H1 := ⟨hg.S, hg.wt, J1, st1, hg.sub, fun b hb => by simp at hb, hg.up⟩
  cases b with
  | true => rw [if_pos rfl]; exact h1 rfl n s₀ s' G oL ip0 σc Hc σ H1 hn hg'
  | false => rw [if_neg Bool.false_ne_true]; exact h2 rfl n s₀ s' G oL ip0 σc Hc σ H1 hn hg'
theorem loc_of {X : Cx} {pins : List (Addr × Obj)} {σ : L2.St} {H : Hp} {s : Shared} (J : Inv X pins σ H s) (hk : ∀ x, X.env.kindOf x ≠ some .cell ∧ X.env.kindOf x ≠ some .free) : ∃ o, s.heap.get? X.env.locals = some o ∧ LocAt X.N X.env.scope σ o := by
  obtain ⟨m, ⟨o, es, ep, ho, hd, hs, hf⟩, hl⟩ := J.loc
  refine ⟨o, ho, es, ep, m, hd, fun h a e => ⟨o, es, ep, e, hd, hs, hf⟩, fun i x v h1 h2 h3 => ?_⟩
  obtain ⟨u, r, l⟩ := hl i x v h1 h2 h3
  rcases l with ⟨_, e⟩ | ⟨z | z, _⟩
  · exact ⟨u, r, e⟩
  · exact absurd z (hk x).1
  · exact absurd z (hk x).2
/-- it hands out y -/
theorem gg_yield {e : Expr} {yp : Pos} {te : TE} {y : α} (Z : Pact g.X g.N g.ps g.scope g.A g.L) (hc : GC' g c fs gd) (hP : ∀ sc H, sc.heap.objs.size = g.L → PE (g.cx sc H) e te)
    (hV : ∀ W, Ev te W Gm [] [] fun sl cs1 => sl = g.r.at y ∧ cs1 = []) (hy : g.ys[k]? = some y) (lr : LeanR g.r) (lg : LeanG Gm) (hk : Gg g [] (k + 1) Gm [] [] ip c (K .next) fs) :
    Gg g [] k Gm [] [] ip c ((exec (.Expr (.Yield (some e) yp) pos) g.env).wrap K J gd lv) fs := fun n s₀ s G oL ip0 σc Hc σ H hn hg => by
  have hkl : k < g.ys.length := (List.getElem?_eq_some_iff.mp hy).1
  obtain ⟨n, rfl⟩ : ∃ m, n = m + 1 := ⟨n - 1, by omega⟩
  refine seg_Expr_Yield hc.split hc.gd hc.guard ?_ Z.sc.g.co (by show (g.scope.kind == .module && _) = false; rw [Z.sc.g.kind]; rfl)
  rw [hc.over]
  refine wpAny_mono ((hP _ _ (cut_size (Nat.le_of_lt hg.S.lt))).run ip s σ H (fun v H1 => Sta ⟨G, froz G g.L (ads g.L ip0) s₀⟩ Gm [(v, g.r.at y)] [] σ H1) hg.J (hV _ σ H hg.st _ fun sl cs1 ⟨e1, e2⟩ v H1 st1 => by subst e1 e2; exact st1)) (fun u s' q => ?_) fun e s' q => q.elim
  obtain ⟨vv, H1, J1, rv, st1⟩ := q
  intro kap hkap
  have hg1 : Going g [] k Gm [(vv, g.r.at y)] [] ip s₀ s' G oL ip0 σc Hc σ H1 := ⟨hg.S, hg.wt, J1, st1, hg.sub, fun b hb => by simp at hb, hg.up⟩
  have B := hg1.back Z
  have S := hg.S
  obtain ⟨F, cr, sl, tm⟩ := st1
  have FM : Same F (mix s₀ G H1) := fun b x eb => by
    have e1 := cr.fh b x eb
    cases eo : s₀.heap.get? b with
    | none => rw [mix_new eo]; exact e1
    | some o =>
      rw [mix_old eo]
      rcases B.know b o x eo e1 with z | z
      · exact z
      · have := cr.bf b x z
        rw [eb] at this; cases this
  obtain ⟨oL', hoL, loc⟩ := loc_of J1 fun x => Z.sc.kinds
  have young : ∀ p ∈ ip, (s₀.heap.get? p.1 = none) ∨ p.1 ∈ ads g.L ip0 := fun p hp => by
    cases eo : s₀.heap.get? p.1 with
    | none => exact .inl rfl
    | some o =>
      right
      have hN := (J1.pin p (List.mem_append_right _ hp)).2.1
      cases r : G p.1 with
      | some z => rw [(cr.f0.trans cr.fh) p.1 z r] at hN; cases hN
      | none =>
        by_cases hin : p.1 ∈ ads g.L ip0
        · exact hin
        · rw [cr.bh p.1 _ (froz_some r (Nat.le_of_lt (hg.up p hp)) hin eo)] at hN; cases hN
  have S' : Sleep g.X g.pins g.L (lean (mix s₀ G H1)) oL' ip σc (mix s₀ Hc H1) s' := by
    refine ⟨B.inv.pins_of fun p hp => ?_, B.whole, B.sub, hg.up, fun p hp => ?_, fun p hp q hq => ?_⟩
    · rcases List.mem_append.mp hp with hp | hp
      · exact B.inv.pin p (List.mem_append_right _ hp)
      · have old : ∀ {b : Addr} {o : Obj}, (∀ v, o.data ≠ .cell v) → s'.heap.get? b = some o → b ∈ ads g.L ip0 → s'.heap.get? b = some o ∧ mix s₀ Hc H1 b = none ∧ b ≠ g.X.env.locals ∧ b ∉ g.X.fs ∧ ∀ v, o.data ≠ .cell v := fun {b o} hd eo hb => by
          obtain ⟨ob, hob⟩ := S.ownA hb
          obtain ⟨h1, h2, h3, h4, _⟩ := S.own hob
          exact ⟨eo, (mix_old h1).trans h2, h3, h4, hd⟩
        rcases List.mem_cons.mp hp with e | hp
        · subst e
          obtain ⟨es, ep, m, hd, _⟩ := loc
          exact old (fun v z => by rw [hd] at z; cases z) hoL List.mem_cons_self
        · obtain ⟨h1, h2, _, _, h5⟩ := J1.pin p (List.mem_append_right _ hp)
          rcases young p hp with z | z
          · refine ⟨h1, (mix_new z).trans h2, fun e => ?_, fun e => ?_, h5⟩
            · obtain ⟨m, ⟨o, _, _, ho, _⟩, _⟩ := S.inv.loc
              rw [← e, z] at ho; cases ho
            · obtain ⟨_, o, ho, _⟩ := S.inv.funs.mem e
              rw [z] at ho; cases ho
          · exact old h5 h1 z
    · rcases young p hp with z | z
      · cases e0 : g.X.s_0.heap.get? p.1 with
        | none => exact Z.freed p.1 (hg.up p hp) e0
        | some o =>
          by_cases hex : p.1 ∈ g.X.ex
          · exact .inl hex
          · obtain ⟨o', e1⟩ := S.inv.base.there p.1 o e0 hex
            rw [z] at e1; cases e1
      · rcases List.mem_cons.mp z with e | z
        · exact absurd e (Nat.ne_of_gt (hg.up p hp))
        · obtain ⟨q, hq, e⟩ := List.mem_map.mp z
          rw [← e]; exact S.late q hq
    · have oldA : p.1 ∈ ads g.L ip0 → q.1 ≠ p.1 := fun hb => by
        obtain ⟨ob, hob⟩ := S.ownA hb
        exact S.apart _ hob q hq
      rcases List.mem_cons.mp hp with e | hp
      · subst e; exact oldA List.mem_cons_self
      · rcases young p hp with z | z
        · intro e
          have := (S.inv.pin q (by rcases List.mem_append.mp hq with y | y
                                   · exact List.mem_append_left _ y
                                   · exact List.mem_append_right _ (List.mem_append_left _ y))).1
          rw [e, z] at this; cases this
        · exact oldA z
  refine ⟨k, G, oL, ip0, σc, Hc, y, vv, lean (mix s₀ G H1), oL', ip, mix s₀ Hc H1, by omega, S, hg.wt, hy, rv, lr y _ _ ((g.r.at y).mono FM (tm.head)), S', B.grown S.inv.hok, fun s'' σ'' H'' S'' W'' => hkap .none s'' ?_⟩
  refine hk n s'' s'' _ oL' ip σ'' H'' σ _ (by omega) ⟨S'', W'', S''.wake Z loc J1.len, ?_, fun p hp => .inl (List.mem_map.mpr ⟨p, hp, rfl⟩), fun b hb => by simp at hb, hg.up⟩
  refine ⟨lean (mix s₀ G H1), ⟨Same.refl _, both_l, both_r, fun b x e => (froz_of e).1, by simp, fun x hx => by simp at hx⟩, ?_, Temps.nil⟩
  refine ⟨sl.1, fun i s hi => ?_⟩
  obtain ⟨v, h1, h2⟩ := sl.2 i s hi
  exact ⟨v, h1, lg i s hi _ _ (s.mono FM h2)⟩
/-- it is done -/
theorem gg_end (Z : Pact g.X g.N g.ps g.scope g.A g.L) (hk : k = g.ys.length) : Gg g ex k Gm T cs ip c (.pure (.done (.ret .none))) [] := fun n s₀ s G oL ip0 σc Hc σ H hn hg =>
  seg_end (.ok (.ret .none)) (.inl ⟨.inl rfl, G, oL, ip0, σc, Hc, _, _, hg.S, hk ▸ hg.wt, (hg.back Z).inv, (hg.back Z).grown hg.S.inv.hok⟩)
end
end ML

/-! a generator's loop over a range -/
namespace ML
open PySem PySem.Spec PyProof.Rows L2 GenW
section
variable {α : Type} {g : GK (α := α)} {k : Nat} {Gm Gm' : Gam} {T : Tms} {cs cs' : Cells} {ip : List (Addr × Obj)} {ex : List Addr} {c : Code} {fs : List PySem.Frame} {K : Flow → Sem PySem.Fin} {J : Value → Sem PySem.Fin} {gd : Bool → Bool} {lv : List Value → List Value} {st : Stmt} {rest body orelse : List Stmt} {pos : Pos}
theorem gc_in {c' : Code} {kk : Result → Sem PySem.Fin} {l kp : List Value} {p : Pos} (hc : GC' g c fs gd) (hw : c'.weight = 0) (hu : c'.cUnits = 0) : GC' g c' (.ret kk none (gd false) l c p kp :: fs) id where
  over := (over_loop hw hu).trans hc.over
  split := by
    show (splitAtGen fs).map _ = none
    rw [hc.split]; rfl
  guard := by
    show (gd false || fs.any Frame.guarded) = false
    rw [hc.gd, hc.guard]; rfl
  gd := rfl
theorem gg_range {tg iter : Expr} {ta : TA} {i : Nat} {NN : Int} {kk : Nat → Nat} {GL : Gam} (Z : Pact g.X g.N g.ps g.scope g.A g.L) (hc : GC' g c fs gd)
    (hi : ∀ sc H, sc.heap.objs.size = g.L → PI (g.cx sc H) tg iter (iRng1 ta)) (hg : ∀ sc H, sc.heap.objs.size = g.L → PG (g.cx sc H) tg (gName i))
    (hn : ∀ W, EvA ta W Gm [] [] fun sls cs1 => sls = [rInt.at NN] ∧ cs1 = []) (hs : small62 NN) (h0 : kk 0 = k) (hw : Wkn Gm GL)
    (hb : ∀ (j : Nat) (ipb : List (Addr × Obj)) (c' : Code) (fs' : List PySem.Frame) (K' : Flow → Sem PySem.Fin) (J' : Value → Sem PySem.Fin), j < NN.toNat → GC' g c' fs' id →
      Gg g [] (kk (j + 1)) GL [] [] ipb c' (K' .next) fs' → Gg g [] (kk j) (GL.set i (some (rInt.at (j : Int)))) [] [] ipb c' ((execs body g.env).wrap K' J' id id) fs')
    (after : ∀ ex, Gg g ex (kk NN.toNat) GL [] [] ip c (K .next) fs) (hfs : ∀ x, foldedSetIterable iter g.env x = pure x := by intro _; rfl) :
    Gg g [] k Gm [] [] ip c ((exec (.For tg iter body [] pos) g.env).wrap K J gd lv) fs := fun n s₀ s G oL ip0 σc Hc σ H hnk hg0 => by
  subst h0
  rw [arm_exec_For]
  refine seg_at ?_
  show Seg _ _ _ _ n s₀ c ((eval iter g.env >>= fun v => foldedSetIterable iter g.env v >>= fun x => standAt iter.pos >>= fun _ => holding [x] (pyIter x) >>= fun it => runOwn (.forLoop tg it body [] g.env) g.env).wrap K J gd lv) fs s
  refine seg_bind_wrap ?_
  rw [hc.over]
  refine wpAny_mono ((hi _ _ (cut_size (Nat.le_of_lt hg0.S.lt))).run ip s σ H (fun J1 H1 => J1 = Itr 0 NN.toNat ∧ Sta ⟨G, froz G g.L (ads g.L ip0) s₀⟩ Gm [] [] σ H1) hg0.J ?_) (fun v s1 h1 => ?_) fun e s' q => q.elim
  · refine hn _ σ H hg0.st _ fun sls cs1 ⟨e1, e2⟩ vs H1 ⟨F, c1, sg, t1, ar⟩ => ?_
    subst e1 e2
    exact ⟨NN, args1i ar, hs.1, hs.2, rfl, F, c1, sg, t1⟩
  rw [hfs]
  show Seg _ _ _ _ n s₀ c ((standAt iter.pos >>= fun _ => holding [v] (pyIter v) >>= fun it => runOwn (.forLoop tg it body [] g.env) g.env).wrap K J gd lv) fs s1
  refine seg_at ?_
  show Seg _ _ _ _ n s₀ c ((holding [v] (pyIter v) >>= fun it => runOwn (.forLoop tg it body [] g.env) g.env).wrap K J gd lv) fs s1
  refine seg_bind_wrap (wpAny_holding ?_)
  rw [hc.over]
  refine wpAny_mono h1 (fun itv s2 h2 => ?_) fun e s' q => q.elim
  obtain ⟨it, fp, tn, J1, H2, rfl, I2, Tn, st2, f2, rfl, st20⟩ := h2
  refine seg_call fun p => ?_
  have stat : ∀ b ∈ fp, b ≠ g.L ∧ b ∉ frs g.X.stack ∧ g.L < b ∧ ∀ q ∈ ip, q.1 ≠ b := fun b hb => by
    obtain ⟨_, h2, h3, h4, _, h6⟩ := f2 b hb
    have h4' : g.L ≤ b := by
      rcases h4 with z | z
      · exact absurd (show b ∈ ([] : List Addr) from z) (by simp)
      · have z' : (cut g.L s₀).heap.objs.size ≤ b := z
        rwa [cut_size (Nat.le_of_lt hg0.S.lt)] at z'
    exact ⟨h2, h3, Nat.lt_of_le_of_ne h4' (Ne.symm h2), fun q hq => h6 q hq⟩
  have okf : ∀ {sc : Shared} {H0 H' : Hp} {b : Addr}, sc.heap.objs.size = g.L → b ∈ fp → H' b = none → FpOk (g.cx sc H0) ip H' b := fun {sc H0 H' b} hsz hb hn => by
    obtain ⟨h1, h2, h3, h4⟩ := stat b hb
    refine ⟨hn, h1, h2, .inr ?_, fun x c e => ?_, fun q hq => h4 q hq⟩
    · show sc.heap.objs.size ≤ b
      rw [hsz]; exact Nat.le_of_lt h3
    · have e' : (envOfC g.qual g.scope g.L g.f g.cd).cells.lookup x = some c := e
      rw [Z.sc.nocell] at e'; cases e'
  have gl := fun (kr : Result → Sem PySem.Fin) => gc_in (kk := kr) (c' := .forLoop tg (.ref it) body [] g.env) (l := lv []) (kp := []) (p := p) hc rfl rfl
  have loop : ∀ (m j n : Nat) (s₀ s : Shared) (G : Hp) (oL : Obj) (ip0 : List (Addr × Obj)) (σc : L2.St) (Hc : Hp) (σ : L2.St) (H : Hp), j + m = NN.toNat → n + kk j = g.ys.length + 1 → Going g fp (kk j) GL [] [] ip s₀ s G oL ip0 σc Hc σ H → tn j s.heap →
      Seg g.M g.A g.R g.Y n s₀ (.forLoop tg (.ref it) body [] g.env) (g.M.den (.forLoop tg (.ref it) body [] g.env))
        (.ret (fun r => ((match r with | .ok f => (.pure f : Sem Flow) | .error e => .raise e).onRaise (cameBack g.env)).wrap K J gd lv) none (gd false) (lv []) c p [] :: fs) s := by
    intro m
    induction m with
    | zero =>
      intro j n s₀ s G oL ip0 σc Hc σ H hj hnk hg1 ht
      have hsz := cut_size (Nat.le_of_lt hg1.S.lt)
      show Seg _ _ _ _ _ _ _ ((forTurn tg (.ref it) body [] g.env).onRaise (fun x => do noteFrame x g.env; theTreesLotGoes x)) _ s
      rw [Sem.onRaise_eq_wrap]
      unfold forTurn
      refine seg_bind_wrap (wpAny_standAt ?_)
      refine seg_bind_wrap (wpAny_onRaise ?_)
      rw [(gl _).over]
      refine wpAny_mono (Tn.done (g.cx (cut g.L s₀) (wakeH g.L G ip0 s₀)) rfl rfl rfl rfl j ip s σ H (fun _ _ => False) hg1.J (fun b hb => okf hsz hb (hg1.ex b hb)) ht (by show NN.toNat ≤ j; omega)) (fun r s3 ⟨er, I3⟩ => ?_) fun e s' q => q.elim
      subst er
      refine seg_again rfl ?_
      show Seg _ _ _ _ _ _ _ (leafOf (.ok .next)) _ s3
      refine seg_leaf (.ok .next) ?_
      have ej : j = NN.toNat := by omega
      subst ej
      exact after fp n s₀ s3 G oL ip0 σc Hc σ H hnk ⟨hg1.S, hg1.wt, I3, hg1.st, hg1.sub, hg1.ex, hg1.up⟩
    | succ m ih =>
      intro j n s₀ s G oL ip0 σc Hc σ H hj hnk hg1 ht
      have hsz := cut_size (Nat.le_of_lt hg1.S.lt)
      show Seg _ _ _ _ _ _ _ ((forTurn tg (.ref it) body [] g.env).onRaise (fun x => do noteFrame x g.env; theTreesLotGoes x)) _ s
      rw [Sem.onRaise_eq_wrap]
      unfold forTurn
      refine seg_bind_wrap (wpAny_standAt ?_)
      refine seg_bind_wrap (wpAny_onRaise ?_)
      rw [(gl _).over]
      refine wpAny_mono (Tn.item (g.cx (cut g.L s₀) (wakeH g.L G ip0 s₀)) rfl rfl rfl rfl j ip s σ H (fun _ _ => False) hg1.J (fun b hb => okf hsz hb (hg1.ex b hb)) ht (by show j < NN.toNat; omega)) (fun r s3 ⟨u, er, h3⟩ => ?_) fun e s' q => q.elim
      subst er
      refine seg_bind_wrap ?_
      rw [(gl _).over]
      refine wpAny_mono h3 (fun _ s4 h4 => ?_) fun e s' q => q.elim
      obtain ⟨x, H4, I4, rx, ⟨rfl, rfl⟩, st4, fr4⟩ := h4
      have I4' := I4.pinned (fun b hb => okf hsz hb (fr4 b hb)) (Tn.obj _ _ st4)
      refine seg_bind_wrap ?_
      rw [(gl _).over]
      refine wpAny_mono ((hg _ _ hsz).run _ s4 σ H4 _ u (fun σ' H' => σ' = σ.set i (some (.int (0 + j))) ∧ H' = H4) I4' rx ⟨rfl, rfl⟩) (fun _ s5 h5 => ?_) fun e s' q => q.elim
      obtain ⟨σ5, H5, I5, rfl, rfl⟩ := h5
      rw [Sem.bind_eq_wrap', Sem.wrap_wrap]
      have pin_fp : ∀ b ∈ fp, ∃ o, (b, o) ∈ ip ++ pinsAt fp s4.heap := fun b hb => by
        obtain ⟨o, e, _⟩ := Tn.obj _ _ st4 b hb
        exact ⟨o, List.mem_append_right _ (mem_pinsAt hb e)⟩
      refine hb j (ip ++ pinsAt fp s4.heap) _ _ _ _ (by omega) (gl _) (fun n' s₀' s' G' oL' ip0' σc' Hc' σ' H' hnk' hg' => ?_) n s₀ s5 G oL ip0 σc Hc _ H5 hnk ⟨hg1.S, hg1.wt, I5, ?_, fun q hq => ?_, fun b hb => by simp at hb, fun q hq => ?_⟩
      · refine seg_again rfl (ih (j + 1) n' s₀' s' G' oL' ip0' σc' Hc' σ' H' (by omega) hnk' ⟨hg'.S, hg'.wt, hg'.J.unpinned, hg'.st, fun q hq => ?_, fun b hb => ?_, fun q hq => hg'.up q (List.mem_append_left _ hq)⟩ ?_)
        · rcases hg'.sub q hq with z | z
          · obtain ⟨q', hq', e⟩ := List.mem_map.mp z
            rcases List.mem_append.mp hq' with y | y
            · exact .inl (List.mem_map.mpr ⟨q', y, e⟩)
            · exact .inr (by rw [← e]; exact (of_pinsAt y).1)
          · simp at z
        · obtain ⟨o, ho⟩ := pin_fp b hb
          exact (hg'.J.pin (b, o) (List.mem_append_right _ ho)).2.1
        · exact Tn.keep _ _ _ st4 fun b hb o e => (hg'.J.pin (b, o) (List.mem_append_right _ (List.mem_append_right _ (mem_pinsAt hb e)))).1
      · obtain ⟨F, c1, sg, t1⟩ := hg1.st
        refine ⟨F, c1, sg.set ?_, t1⟩
        show V.int (0 + (j : Int)) = V.int j
        rw [Int.zero_add]
      · rcases hg1.sub q hq with z | z
        · obtain ⟨q', hq', e⟩ := List.mem_map.mp z
          exact .inl (List.mem_map.mpr ⟨q', List.mem_append_left _ hq', e⟩)
        · obtain ⟨o, ho⟩ := pin_fp _ z
          exact .inl (List.mem_map.mpr ⟨_, ho, rfl⟩)
      · rcases List.mem_append.mp hq with y | y
        · exact hg1.up q y
        · exact (stat _ (of_pinsAt y).1).2.2.1
  exact loop NN.toNat 0 n s₀ s2 G oL ip0 σc Hc σ H2 (Nat.zero_add _) hnk ⟨hg0.S, hg0.wt, I2, (let ⟨F, a, b, c⟩ := st20; ⟨F, a, b.weak hw, c⟩), fun q hq => (hg0.sub q hq).elim .inl fun z => by simp at z, fun b hb => (f2 b hb).1, hg0.up⟩ st2
end
end ML

/-! a generator is made; the next thing of one -/
namespace ML
open PySem PySem.Spec PyProof.Rows L2 GenW
open Sem (wp)

section
variable {M : Model} {A : Around} {Re : GenEnd} {Yp : Protocol} {n : Nat} {E : Value → Shared → Prop} {s : Shared} {gi : Nat} {st : GenState}
theorem wakes_any {r : Resume} {l : List Value} {β : Type} {kk : GenResult → Sem β} {Q : β → Shared → Prop} (h0 : s.gens[gi]? = some st) (go : st.Goes M A Re Yp n r (s.setGen gi .running))
    (hr : ∀ x z, Re n (s.setGen gi .running) x z → wpAny M A (kk (End.ret x).result) Q E (z.setGen gi .finished))
    (hy : ∀ v z st', st'.bare = true → st'.status = .suspended → Yp (n - 1) (s.setGen gi .running) v z (fun r' z' => match n with | 0 => False | m + 1 => st'.Goes M A Re Yp m r' z') → wpAny M A (kk (.yielded v)) Q E (z.setGen gi st')) :
    wpAny M A (.resume gi r l kk) Q E s := fun Γ p hΓ => by
  rw [Sem.wp_resume]
  have seg : ∀ e z, SegEnd Re Yp n (Seg.next M A Re Yp n) (s.setGen gi .running) e z → e.quiet = true ∧ wp M Γ (kk e.result) (fun a _ z' => Q a z') (fun x _ z' => E x z') p (z.setGen gi e.genState) := fun e z h => by
    cases e with
    | ret x => exact ⟨rfl, hr x z h Γ p hΓ⟩
    | susp v q l1 k1 c1 p1 fs1 => exact ⟨h.1, hy v z (.suspended k1 l1 c1 p1 fs1 _) (End.bare_of_quiet h.1) rfl (by cases n with | zero => exact h.2 | succ m => exact h.2) Γ p hΓ⟩
  cases st with
  | fresh c =>
    obtain ⟨rfl, hs⟩ := go
    obtain ⟨e, z, run, h⟩ := seg_iff.mp hs (Γ.wake c p) p rfl (hΓ.wake c p)
    exact ⟨_, _, by unfold Wakes; rw [h0]; exact ⟨e, z, run, (seg e z h).1, rfl, rfl⟩, (seg e z h).2⟩
  | suspended k1 l1 c1 p1 fs1 cl =>
    obtain ⟨e, z, run, h⟩ := seg_iff.mp go (Γ.wake c1 p) p1 rfl (hΓ.wake c1 p)
    exact ⟨_, _, by unfold Wakes; rw [h0]; exact ⟨e, z, run, (seg e z h).1, rfl, rfl⟩, (seg e z h).2⟩
  | running => exact go.elim
  | finished => exact go.elim
end
section
variable {P : Program} {w : World} {A : Around} {E : Value → Shared → Prop} {s : Shared}
theorem nexts {a : Addr} {gi n : Nat} {st : GenState} {Fi : Nat → Shared → Shared → Prop} {Yp : Protocol} {Q : Option Value → Shared → Prop} (hh : A.handled = none) (hl : s.heap.NoLimit) (hd : A.depth < recursionLimit) (ha : s.heap.IsGen a gi) (h0 : s.gens[gi]? = some st)
    (go : st.Goes (model P w) A.in1 (fun n z r z' => ((r = .ok (.ret .none) ∨ r = .ok .next) ∧ Fi n z z') ∨ ∃ e, r = .error e ∧ False) Yp n (.send .none) (s.setGen gi .running))
    (hy : ∀ v z st', st'.bare = true → st'.status = .suspended → Yp (n - 1) (s.setGen gi .running) v z (fun r' z' => match n with | 0 => False | m + 1 => st'.Goes (model P w) A.in1 (fun n z r z' => ((r = .ok (.ret .none) ∨ r = .ok .next) ∧ Fi n z z') ∨ ∃ e, r = .error e ∧ False) Yp m r' z') → Q (some v) (z.setGen gi st'))
    (hf : ∀ z, Fi n (s.setGen gi .running) z → ∀ h', (∀ b o, z.heap.get? b = some o → h'.get? b = some o) → Q none { z.setGen gi .finished with heap := h' }) : wpAny (model P w) A (pyNext (.ref a)) Q E s := by
  unfold pyNext
  refine wpAny_bind (wpAny_attempt (wpAny_callSpecial?_slot (name := Str.ofString "__next__") ha.typeIs slot_gen_next (wpAny_call_entry slot_gen_next ha.typeIs entry_gen_next ?_ (args_gen_next _))))
  show wpAny (model P w) A.in1 (Builtin.Generator.genWake (.ref a) (.send .none)) _ _ s
  unfold Builtin.Generator.genWake
  refine wpAny_bind (wpAny_holding (wpAny_genNumber ha (wpAny_bind (wpAny_genState h0 ?_))))
  cases st with
  | running => exact go.elim
  | finished => exact go.elim
  | _ =>
    refine wpAny_bind (wpAny_roomToWake hl hd ?_)
    show wpAny (model P w) A.in1 (.resume gi (.send .none) [] _) _ _ s
    refine wakes_any h0 go (fun x z hx => ?_) fun v z st' hb hs hv => wpAny_pure ⟨v, rfl, wpAny_pure (hy v z st' hb hs hv)⟩
    rcases hx with ⟨hr, hp⟩ | ⟨e, _, z⟩
    · have res : End.result (.ret x) = .returned .none := by rcases hr with hr | hr <;> (rw [hr]; rfl)
      first | rw [res] | simp only [res]
      show wpAny (model P w) A.in1 (newExc (.type "StopIteration") [] >>= _) _ _ _
      refine wpAny_bind ?_
      simp only [newExc, newTuple]
      refine wpAny_bind (wpAny_newObj_type ?_ (by size_fits))
      refine wpAny_bind (m := firstArgMember _ _) (wpAny_of_eq (a := Value.none) (by first | exact rfl | (simp only [firstArgMember]; exact rfl)) ?_)
      refine wpAny_newObj_type ?_ (by size_fits)
      simp only [raiseNew]
      refine wpAny_bind (wpAny_bind (wpAny_handled ?_))
      first | rw [show A.in1.handled = none from hh] | rw [hh]
      refine wpAny_throw (wpAny_bind (wpAny_isInstance (T := "StopIteration") (b := true) ⟨_, Heap.get?_push_size _ rfl, rfl⟩ isSubtype_stop ?_))
      exact wpAny_pure (hf z hp _ fun b o hb => Heap.get?_push_of_some _ (Heap.get?_push_of_some _ hb))
    · exact z.elim
end

/-- a generator has been made: its object at a, its frame at L, its number gn -/
structure Made (N : List Str) (qual : Str) (scope : Scope) (f : Addr) (cd : Value) (body : List Stmt) (vs : List V) (s s' : Shared) (L a : Addr) (go oL : Obj) (gn : Nat) : Prop where
  low : s.heap.objs.size ≤ L
  lt : L < a
  at' : s'.heap.get? a = some go
  fr : s'.heap.get? L = some oL
  isg : ∀ h : Heap, h.get? a = some go → h.IsGen a gn
  flds : ∃ vs, go.cls = .type "generator" ∧ go.data = .fields vs
  gen : s'.gens[gn]? = some (.fresh (.func body (envOfC qual scope L f cd)))
  loc : LocAt N scope (L2.start N vs) oL
  len : (L2.start N vs).length = N.length
  os : s'.os = s.os
  bare : AllBare s'.gens
  keep : ∀ b o, s.heap.get? b = some o → s'.heap.get? b = some o
theorem made_by {P : Program} {w : World} {K : PySem.W.Frag} {mg : Str → Option Value} {base : Heap} {k : Nat} {f : Addr} {name qual : Str} {params : Arguments} {body : List Stmt} {scope : Scope} {dV kV doc pm cdv ct oc : Value} {an od : Option Addr}
    {osl : Array (Option Value)} {N ps : List Str} (lk : K.lookup f = some ⟨oc, od, .func (PySem.W.fnOf name qual params body scope dV kV doc pm an cdv ct), osl⟩) (hcd : PySem.W.codeIn K cdv qual = true) (S : PlainScope N ps scope)
    {A : Around} {ou : List Env} {s : Shared} {H : Hp} {ar : PySem.Args} {us : List Value} {vs : List V} (hr : RoomG (k + 1) A) (e0 : Env0 P w K mg base A ou s H) (hbd : BindsTo s (PySem.W.fnOf name qual params body scope dV kV doc pm an cdv ct) ar (ps.zip us)) (r : Vals vs us) (hl : vs.length = ps.length) :
    codeAny (model P w) A (.call (.ref f) ar) (fun r s' => match r with | .ok (.ret u) => ∃ L a go oL gn, u = .ref a ∧ Made N qual scope f cdv body vs s s' L a go oL gn | _ => False) s := by
  have old : ∀ b o, base.get? b = some o → s.heap.get? b = some o := fun b o e => (e0.bs b o e).1
  have KX : K.In s.heap := e0.mod.kin.keeps old
  have lim : s.heap.NoLimit := e0.mod.nolimit.keeps old
  have kinds : ∀ y ∈ ps.zip us, scope.names.lookup y.1 = some .local ∨ (scope.names.lookup y.1 = some .cell ∧ ((cellsFrom (s.heap.objs.size + 1) scope.names []).lookup y.1).isSome = true) := fun y hy =>
    (S.g.par y.1 (List.of_mem_zip hy).1).imp id fun q => ⟨q, PySem.W.cellsFrom_some _ _ _ (.inl q)⟩
  refine codeAny_call_generator hr.rm.depth (KX _ _ lk) rfl S.g.co S.g.gen rfl (PySem.W.codeRec_of KX hcd) (hbd _ _ _ _ ?_)
  refine wpAny_newFunctionEnv_cells S.g.kind kinds fun env he s1 x => ?_
  subst he
  refine ⟨lim.keeps x.toInCall.keep, ?_⟩
  have I1 := inv_startG (E := fun _ _ _ => False) S.g hr.rm.hd e0 hl r x
  obtain ⟨oL, hoL, loc⟩ := loc_of I1 fun x => S.kinds
  have hoL' : s1.heap.get? s.heap.objs.size = some oL := hoL
  obtain ⟨h1, tk, es1, hk1⟩ := x.done
  have eg : s1.gens = s.gens := by rw [es1]
  refine ⟨s.heap.objs.size, s1.heap.objs.size, _, oL, s1.gens.size, rfl, Nat.le_refl _, Heap.lt_size hoL', Heap.get?_push_size _ rfl, Heap.get?_push_of_some _ hoL', fun h e => ⟨_, _, _, e, rfl, rfl, rfl⟩, ⟨_, rfl, rfl⟩, Array.getElem?_push_size .., loc, I1.len, ?_, ?_, fun b o e => Heap.get?_push_of_some _ (x.toInCall.keep b o e)⟩
  · show s1.os = s.os
    rw [es1]
  · exact AllBare.push (by rw [eg]; exact e0.bare) rfl
end ML

/-! for x in g(..): the consumer -/
namespace ML
open PySem PySem.Spec PyProof.Rows L2 GenW

theorem inv_gens {X : Cx} {pins : List (Addr × Obj)} {σ : L2.St} {H : Hp} {s : Shared} {g' : Array GenState} (I : Inv X pins σ H s) (hb : AllBare g') : Inv X pins σ H { s with gens := g' } :=
  I.call (g' := g') (t' := s.toks) (d' := s.drawn) (h' := s.heap) (ch := []) Un.refl I.hok hb fun b z => by simp at z
theorem Sleep.gens {X : Cx} {pins : List (Addr × Obj)} {L : Addr} {G : Hp} {oL : Obj} {ip : List (Addr × Obj)} {σ : L2.St} {H : Hp} {s : Shared} {g' : Array GenState} (S : Sleep X pins L G oL ip σ H s) (hb : AllBare g') : Sleep X pins L G oL ip σ H { s with gens := g' } :=
  ⟨inv_gens S.inv hb, S.whole, S.sub, S.up, S.late, S.apart⟩
/-- a generator def's promise -/
structure GenFn (P : Program) (w : World) (K : PySem.W.Frag) (mg : Str → Option Value) (base : Heap) (k : Nat) (f : Addr) (fd : FuncData) (ps : List Str) {α : Type} (r : R α) (sp : List V → Hp → List α → Prop) : Prop where
  len : ∀ vs G ys, sp vs G ys → vs.length = ps.length
  go : ∃ (N : List Str) (qual : Str) (scope : Scope) (cd : Value) (body : List Stmt), PlainScope N ps scope ∧
    (∀ (A : Around) (ou : List Env) (s : Shared) (H : Hp) (ar : PySem.Args) (us : List Value) (vs : List V), RoomG (k + 1) A → Env0 P w K mg base A ou s H → BindsTo s fd ar (ps.zip us) → Vals vs us → vs.length = ps.length →
      codeAny (model P w) A (.call (.ref f) ar) (fun r s' => match r with | .ok (.ret u) => ∃ L a go oL gn, u = .ref a ∧ Made N qual scope f cd body vs s s' L a go oL gn | _ => False) s) ∧
    ∀ (X : Cx) (pins : List (Addr × Obj)) (L : Addr) (A : Around) (Wt : Nat → Hp → L2.St → Hp → Prop) (vs : List V) (G0 : Hp) (ys : List α), X.prog = P → X.w = w → X.K = K → X.mg = mg → X.base = base → sp vs G0 ys → RoomG (k + 1) A → Pact X N ps scope A L →
      ∃ Gm, Slots G0 Gm (L2.start N vs) ∧ Gg ⟨X, pins, L, N, ps, scope, qual, f, cd, A, ys, r, Wt⟩ [] 0 Gm [] [] [] (.func body (envOfC qual scope L f cd))
        ((execs body (envOfC qual scope L f cd)).wrap (fun f => .pure (.done (.ret (match f with | .ret v => v | _ => .none)))) (fun e => (leaving (envOfC qual scope L f cd) e).wrap (fun _ => .raise e) .raise id id) id id) []
def tForG {α : Type} (sp : List V → Hp → List α → Prop) (r : R α) (ta : TA) (tg : TG) (tb : TS) : TS := fun D σ H => ta σ H fun vs H1 => ∃ (ys : List α) (G0 : Hp), sp vs G0 ys ∧ Whole G0 ∧ Same G0 H1 ∧ ∃ Wt : Nat → Hp → L2.St → Hp → Prop, Wt 0 G0 σ H1 ∧
  (∀ G σ H G' H', Wt ys.length G σ H → Grown G H G' H' → D.nx σ H') ∧
  ∀ k y G σ H G' H' x, ys[k]? = some y → Wt k G σ H → Grown G H G' H' → r.p y G' x →
    tg x σ H' fun σ2 H2 => tb { D with nx := fun σ3 H3 => Same G' H3 ∧ Wt (k + 1) G' σ3 H3, ct := fun σ3 H3 => Same G' H3 ∧ Wt (k + 1) G' σ3 H3, bk := D.nx } σ2 H2
section
variable {X : Cx} {α : Type} {r : R α} {sp : List V → Hp → List α → Prop} {k : Nat} {f : Addr} {fd : FuncData} {ps : List Str} {x : Str} {p pos pos' : Pos} {e : Expr} {es : List Expr} {ta : TA} {tg : Expr} {tgt : TG} {body : List Stmt} {tb : TS}
theorem ps_forG (F : GenFn X.prog X.w X.K X.mg X.base k f fd ps r sp) (hr : RoomG (k + 2) X.A) (hx : ∀ e s, X.xe e s → False) (hc : X.calm = true) (hg : Gl X x) (hm : X.mg x = some (.ref f)) (hk : PySem.W.keepIn X.K (.ref f) = true) (hb : Binds X.K fd ps [])
    (ha : PA X (e :: es) ta) (ht : PG X tg tgt) (hbody : PSs X body tb) (h1 : (x == ("__debug__" : Str)) = false := by decide) (h2 : starEach (e :: es) X.env = (false, eval e X.env) :: starEach es X.env := by rfl) (h3 : (backTo pos' (starEach es X.env)).any (·.1) = false := by rfl)
    (hs : ∀ v, foldedSetIterable (.Call (.Name x p) (e :: es) [] pos') X.env v = pure v := by intro _; rfl) :
    PS X (.For tg (.Call (.Name x p) (e :: es) [] pos') body [] pos) (tForG sp r ta tgt tb) := by
  refine ⟨fun pins s σ H D I h => ?_⟩
  obtain ⟨N, qual, scope, cd, bG, Sc, mk, gbody⟩ := F.go
  refine wpAny_For ?_ hs
  refine wpAny_Call_Name_kw (ld_glob I hg hm (PySem.W.callWith_K (h₀ := X.base) I.ok.mod.kin hk (thn (ha.run pos' pins s σ H _ I h) fun us s1 h4 => ?_) h2 h3) h1)
  obtain ⟨vs, H1, I1, rv, ys, G0, hsp, wG, sG, Wt, w0, fin, turn⟩ := h4
  have hl := F.len vs G0 ys hsp
  have hbt : BindsTo s1 fd ⟨us, []⟩ (ps.zip us) := by
    have := hb s1 us I1.kIn (by rw [List.append_nil, ← rv.length]; exact hl)
    rwa [List.append_nil] at this
  refine ⟨I1.kIn, wpAny_call (codeAny_mono (mk X.A X.stack s1 H1 ⟨us, []⟩ us vs (hr.mono (by omega)) I1.env0 hbt rv hl) fun res s2 hq => ?_)⟩
  match res, hq with
  | .error e, hq => exact hq.elim
  | .ok .next, hq => exact False.elim hq
  | .ok .brk, hq => exact False.elim hq
  | .ok .cont, hq => exact False.elim hq
  | .ok (.ret u), hq =>
    obtain ⟨L, a, go, oL, gn, rfl, Mk⟩ := hq
    refine wpAny_pyIter_gen (Mk.isg _ Mk.at') ?_
    have hra : RoomG (k + 1) X.A.in1 := hr.in1
    have Z : Pact X N ps scope X.A.in1 L := ⟨Sc, I1.ok.hd hc, I1.ok.frames, .inr (Nat.le_trans I1.sz Mk.low), Nat.le_trans I1.ok.bsz (Nat.le_trans I1.sz Mk.low), fun b hb _ => .inr (Nat.le_trans (Nat.le_trans I1.sz Mk.low) (Nat.le_of_lt hb)), fun b hb => by
      obtain ⟨_, o, ho, _⟩ := I1.stack.mem hb
      exact Nat.lt_of_lt_of_le (Heap.lt_size ho) Mk.low⟩
    have I2 : Inv X pins σ H1 s2 := I1.call' (ch := []) Mk.os (Un.kept Mk.keep) (I1.hok.kept Mk.keep) Mk.bare fun b z => by simp at z
    have young : ∀ b, s1.heap.objs.size ≤ b → H1 b = none ∧ b ≠ X.env.locals ∧ b ∉ X.fs ∧ ∀ q ∈ X.pn ++ pins, q.1 ≠ b := fun b hb => ⟨I1.hok.fresh hb, Nat.ne_of_gt (Nat.lt_of_lt_of_le I1.lt hb), I1.nofs hb, fun q hq z => by
      have := Heap.lt_size (I1.pin q hq).1
      rw [z] at this
      exact absurd (Nat.lt_of_lt_of_le this hb) (Nat.lt_irrefl _)⟩
    obtain ⟨gfs, gcls, gdat⟩ := Mk.flds
    have hago : s1.heap.objs.size ≤ a := Nat.le_of_lt (Nat.lt_of_le_of_lt Mk.low Mk.lt)
    have S2 : Sleep X (pins ++ [(a, go)]) L G0 oL [] σ H1 s2 := by
      refine ⟨I2.pins_of fun q hq => ?_, wG, sG, fun q hq => (by simp at hq), fun q hq => (by simp at hq), fun q hq q' hq' => ?_⟩
      · rcases List.mem_append.mp hq with hq | hq
        · rcases List.mem_append.mp hq with hq | hq
          · exact I2.pin q (List.mem_append_right _ hq)
          · rw [List.mem_singleton.mp hq]
            obtain ⟨y1, y2, y3, _⟩ := young a hago
            exact ⟨Mk.at', y1, y2, y3, fun v z => by rw [gdat] at z; cases z⟩
        · rw [List.mem_singleton.mp hq]
          obtain ⟨y1, y2, y3, _⟩ := young L Mk.low
          obtain ⟨es1, ep1, m1, hd1, _⟩ := Mk.loc
          exact ⟨Mk.fr, y1, y2, y3, fun v z => by rw [hd1] at z; cases z⟩
      · rw [List.mem_singleton.mp hq]
        rw [← List.append_assoc] at hq'
        rcases List.mem_append.mp hq' with z | z
        · exact (young L Mk.low).2.2.2 q' z
        · rw [List.mem_singleton.mp z]
          exact Nat.ne_of_gt Mk.lt
    obtain ⟨Gm, slG, hgg⟩ := gbody X (pins ++ [(a, go)]) L X.A.in1 Wt vs G0 ys rfl rfl rfl rfl rfl hsp hra Z
    have gol : gn < s2.gens.size := (Array.getElem?_eq_some_iff.mp Mk.gen).1
    refine codeAny_forLoop_any (fun n s' => ∃ kk gs G oL ip σ' H', n + kk = ys.length + 1 ∧ Sleep X (pins ++ [(a, go)]) L G oL ip σ' H' s' ∧ Wt kk G σ' H' ∧ s'.gens[gn]? = some gs ∧
      gs.Goes (model X.prog X.w) X.A.in1 (GK.R ⟨X, pins ++ [(a, go)], L, N, ps, scope, qual, f, cd, X.A.in1, ys, r, Wt⟩) (GK.Y ⟨X, pins ++ [(a, go)], L, N, ps, scope, qual, f, cd, X.A.in1, ys, r, Wt⟩) n (.send .none) (s'.setGen gn .running)) ?_ (ys.length + 1)
      ⟨0, _, G0, oL, [], σ, H1, rfl, S2, w0, Mk.gen, rfl, seg_func ?_⟩
    · rintro n s3 ⟨kk, gs, G3, oL3, ip3, σ3, H3, hnk, S3, w3, hgs, hgo⟩
      have hgl := (Array.getElem?_eq_some_iff.mp hgs).1
      have ha3 : s3.heap.get? a = some go := (S3.inv.pin (a, go) (List.mem_append_right _ (List.mem_append_left _ (List.mem_append_right _ List.mem_cons_self)))).1
      refine wpAny_gsz (n := gn + 1) hgl (nexts (I1.ok.hd hc) S3.inv.nolimit hr.rm.depth (Mk.isg _ ha3) hgs hgo (fun v z st' hbare hsusp hY hsz => ?_) fun z hF h' hk' _ => ?_)
      · obtain ⟨k', G, oL4, ip4, σc, Hc, y, vv, G', oL', ip', Hc', hk', S0, wt0, hy', rvv, ry, S', gr, kap⟩ := hY
        have b5 : AllBare (z.setGen gn st').gens := allBare_setGen S'.inv.bare hbare
        have S5 : Sleep X (pins ++ [(a, go)]) L G' oL' ip' σc Hc' (z.setGen gn st') := S'.gens b5
        have hz : gn < z.gens.size := by
          have q : (z.setGen gn st').gens.size = z.gens.size := setGen_size _ _ _
          omega
        have at5 : (z.setGen gn st').gens[gn]? = some st' := setGen_at hz
        have ha5 : (z.setGen gn st').heap.get? a = some go := (S5.inv.pin (a, go) (List.mem_append_right _ (List.mem_append_left _ (List.mem_append_right _ List.mem_cons_self)))).1
        refine go_of ha5 gcls gdat (by decide) ?_
        refine wpAny_mono (any_asleep (ht.run _ (hushed (z.setGen gn st')) σc Hc' vv v _ (inv_gens S5.inv (allBare_hushed b5)) rvv (turn k' y G σc Hc G' Hc' vv hy' wt0 gr ry))) (fun _ s6 h6 => ?_) fun e s' ⟨_, _, _, q⟩ => (hx _ _ q).elim
        obtain ⟨z6, rfl, hu6, σ6, H6, I6, q6⟩ := h6
        have b6 : AllBare (rouse (asleep (z.setGen gn st')) z6).gens := allBare_rouse b5 I6.bare
        have at6 := rouse_asleep hu6 at5 hsusp
        generalize hs6 : rouse (asleep (z.setGen gn st')) z6 = s6 at b6 at6
        have I6' : Inv X ((pins ++ [(a, go)]) ++ (L, oL') :: ip') σ6 H6 s6 := by rw [← hs6]; exact inv_gens I6 (by rw [← hs6] at b6; exact b6)
        refine wpAny_mono (any_asleep (hbody.run _ (hushed s6) σ6 H6 _ (inv_gens I6' (allBare_hushed b6)) q6)) (fun fl s7 h7 => ?_) fun e s' ⟨_, _, _, q⟩ => (hx _ _ q).elim
        obtain ⟨z7, hs7, hu7, h7⟩ := h7
        have at7 : s7.gens[gn]? = some st' := by rw [hs7]; exact rouse_asleep hu7 at6 hsusp
        have toS : ∀ {σ7 : L2.St} {H7 : Hp}, Inv X ((pins ++ [(a, go)]) ++ (L, oL') :: ip') σ7 H7 z7 → Inv X ((pins ++ [(a, go)]) ++ (L, oL') :: ip') σ7 H7 s7 := fun {σ7 H7} I7 => by
          rw [hs7]; exact inv_gens I7 (allBare_rouse b6 I7.bare)
        have again : ∀ {σ7 : L2.St} {H7 : Hp}, Inv X ((pins ++ [(a, go)]) ++ (L, oL') :: ip') σ7 H7 z7 → (Same G' H7 ∧ Wt (k' + 1) G' σ7 H7) → ∃ m, m < n ∧ ∃ kk gs G oL ip σ' H', m + kk = ys.length + 1 ∧ Sleep X (pins ++ [(a, go)]) L G oL ip σ' H' s7 ∧ Wt kk G σ' H' ∧ s7.gens[gn]? = some gs ∧
            gs.Goes (model X.prog X.w) X.A.in1 (GK.R ⟨X, pins ++ [(a, go)], L, N, ps, scope, qual, f, cd, X.A.in1, ys, r, Wt⟩) (GK.Y ⟨X, pins ++ [(a, go)], L, N, ps, scope, qual, f, cd, X.A.in1, ys, r, Wt⟩) m (.send .none) (s7.setGen gn .running) := fun {σ7 H7} I7 ⟨w1, w2⟩ => by
          have S7 : Sleep X (pins ++ [(a, go)]) L G' oL' ip' σ7 H7 s7 := ⟨toS I7, S'.whole, w1, S'.up, S'.late, S'.apart⟩
          have q := kap (s7.setGen gn .running) σ7 H7 (S7.gens (allBare_setGen S7.inv.bare rfl)) w2
          cases n with
          | zero => exact q.elim
          | succ m => exact ⟨m, Nat.lt_succ_self _, k' + 1, st', G', oL', ip', σ7, H7, by have : m + k' = ys.length := hk'; omega, S7, w2, at7, q⟩
        cases fl with
        | next => obtain ⟨σ7, H7, I7, n7⟩ := h7; exact again I7 n7
        | cont => obtain ⟨σ7, H7, I7, n7⟩ := h7; exact again I7 n7
        | brk => obtain ⟨σ7, H7, I7, q7⟩ := h7; exact ⟨σ7, H7, (toS I7).unpinned.unpinned, q7⟩
        | ret v => obtain ⟨x7, σ7, H7, I7, r7, q7⟩ := h7; exact ⟨x7, σ7, H7, (toS I7).unpinned.unpinned, r7, q7⟩
      · obtain ⟨G, oL4, ip4, σc, Hc, G', Hc', S0, wt0, I4, gr⟩ := hF
        have I5 : Inv X (pins ++ [(a, go)]) σc Hc' (z.setGen gn .finished) := inv_gens I4 (allBare_setGen I4.bare rfl)
        exact wpAny_execs_nil ⟨σc, Hc', (I5.kept (t' := z.toks) hk').unpinned, fin G σc Hc G' Hc' wt0 gr⟩
    · have S2' := S2.gens (allBare_setGen (g := gn) (x := .running) S2.inv.bare rfl)
      refine hgg (ys.length + 1) _ _ G0 oL [] σ H1 _ _ rfl ⟨S2', w0, S2'.wake Z Mk.loc Mk.len, ?_, fun q hq => by simp at hq, fun b hb => by simp at hb, fun q hq => by simp at hq⟩
      exact ⟨G0, ⟨Same.refl _, both_l, both_r, fun b x e => (froz_of e).1, by simp, fun x hx => by simp at hx⟩, slG, Temps.nil⟩
end
end ML

/-! generators in the layer -/
namespace ML
open PySem PySem.Spec PyProof.Rows L2 GenW

/-- the tuples of F -/
def tups (F : Hp) : Hp := fun b => match F b with | some (.tup xs) => some (.tup xs) | _ => none
theorem tups_sub {F : Hp} : Same (tups F) F := fun b x e => by
  unfold tups at e
  split at e
  · rename_i q; cases e; exact q
  · cases e
theorem tups_is {F : Hp} {b : Addr} {x : HO} (e : tups F b = some x) : ∃ xs, x = .tup xs := by
  unfold tups at e
  split at e
  · cases e; exact ⟨_, rfl⟩
  · cases e
theorem tups_tup {F : Hp} {b : Addr} {xs : List V} (e : F b = some (.tup xs)) : tups F b = some (.tup xs) := by unfold tups; rw [e]
theorem tups_whole {F : Hp} : Whole (tups F) where
  noT b kvs e := by obtain ⟨xs, z⟩ := tups_is e; cases z
  noF b ob u e := by obtain ⟨xs, z⟩ := tups_is e; cases z
  own b a e := by obtain ⟨xs, z⟩ := tups_is e; cases z
  ins a C dx fs e := by obtain ⟨xs, z⟩ := tups_is e; cases z
def TupS (sl : Sl) : Prop := ∀ F v, sl.p F v → sl.p (tups F) v
theorem TupS.int {i : Int} : TupS (rInt.at i) := fun _ _ h => h
theorem TupS.bool {i : Bool} : TupS (rBool.at i) := fun _ _ h => h
theorem TupS.tup {α : Type} {r : R α} (h : ∀ x, TupS (r.at x)) {xs : List α} : TupS ((rTup r).at xs) := fun F v ⟨h0, a, vs, h1, h2, h3⟩ => ⟨h0, a, vs, h1, tups_tup h2, h3.imp fun x u q => h x F u q⟩
theorem LeanS.int {i : Int} : LeanS (rInt.at i) := fun _ _ h => h
theorem LeanS.bool {i : Bool} : LeanS (rBool.at i) := fun _ _ h => h
theorem LeanS.tup {α : Type} {r : R α} (h : LeanR r) {xs : List α} : LeanS ((rTup r).at xs) := fun M v ⟨h0, a, vs, h1, h2, h3⟩ => ⟨h0, a, vs, h1, lean_tup h2, h3.imp fun x u q => h x M u q⟩
theorem LeanG.nil : LeanG [] := fun i sl h => by simp at h
theorem LeanG.some {sl : Sl} {G : Gam} (h : LeanS sl) (t : LeanG G) : LeanG (some sl :: G) := fun i s e => by
  cases i with
  | zero => simp at e; rw [← e]; exact h
  | succ i => exact t i s (by simpa using e)
theorem LeanG.none {G : Gam} (t : LeanG G) : LeanG (none :: G) := fun i s e => by
  cases i with
  | zero => simp at e
  | succ i => exact t i s (by simpa using e)
def AllTup (sls : List Sl) : Prop := ∀ sl ∈ sls, TupS sl
theorem args_tups {F : Hp} : ∀ {sls : List Sl} {vs : List V}, (∀ sl ∈ sls, TupS sl) → Args F sls vs → Args (tups F) sls vs
  | _, _, _, .nil => .nil
  | _, _, h, .cons p q => .cons (h _ List.mem_cons_self _ _ p) (args_tups (fun sl hs => h sl (List.mem_cons_of_mem _ hs)) q)

/-- all that the turns hand out -/
def genO {α γ : Type} (f : α → Option (List γ)) : List α → Option (List γ)
  | [] => some []
  | x :: xs => match f x with
    | none => none
    | some zs => match genO f xs with
      | none => none
      | some ys => some (zs ++ ys)
theorem genO_cons {α γ : Type} {f : α → Option (List γ)} {x : α} {xs : List α} {out : List γ} (h : genO f (x :: xs) = some out) : ∃ zs ys, f x = some zs ∧ genO f xs = some ys ∧ out = zs ++ ys := by
  unfold genO at h
  cases e : f x with
  | none => rw [e] at h; cases h
  | some zs =>
    rw [e] at h
    cases e2 : genO f xs with
    | none => rw [e2] at h; cases h
    | some ys => rw [e2] at h; cases h; exact ⟨zs, ys, rfl, rfl, rfl⟩
theorem genO_parts {α γ : Type} {f : α → Option (List γ)} : ∀ {xs : List α} {out : List γ}, genO f xs = some out → ∃ kk : Nat → Nat, kk 0 = 0 ∧ kk xs.length = out.length ∧ ∀ (j : Nat) (x : α), xs[j]? = some x → ∃ zs, f x = some zs ∧ kk (j + 1) = kk j + zs.length ∧ ∀ i z, zs[i]? = some z → out[kk j + i]? = some z
  | [], out, h => by cases h; exact ⟨fun _ => 0, rfl, rfl, fun j x e => by simp at e⟩
  | x :: xs, out, h => by
    obtain ⟨zs, ys, h1, h2, rfl⟩ := genO_cons h
    obtain ⟨kk, k0, k1, k2⟩ := genO_parts h2
    refine ⟨fun j => match j with | 0 => 0 | j + 1 => zs.length + kk j, rfl, by show zs.length + kk xs.length = _; rw [k1, List.length_append], fun j y e => ?_⟩
    cases j with
    | zero =>
      have e' : x = y := by simpa using e
      subst e'
      refine ⟨zs, h1, by show zs.length + kk 0 = 0 + zs.length; rw [k0]; omega, fun i z q => ?_⟩
      show (zs ++ ys)[0 + i]? = _
      rw [Nat.zero_add, List.getElem?_append_left (List.getElem?_eq_some_iff.mp q).1]; exact q
    | succ j =>
      obtain ⟨us, q1, q2, q3⟩ := k2 j y (by simpa using e)
      refine ⟨us, q1, by show zs.length + kk (j + 1) = zs.length + kk j + us.length; rw [q2]; omega, fun i z q => ?_⟩
      show (zs ++ ys)[zs.length + kk j + i]? = _
      rw [List.getElem?_append_right (by omega), show zs.length + kk j + i - zs.length = kk j + i from by omega]
      exact q3 i z q
section
variable {α : Type} {g : GK (α := α)} {Gm : Gam} {ip : List (Addr × Obj)} {c : Code} {fs : List PySem.Frame} {K : Flow → Sem PySem.Fin} {J : Value → Sem PySem.Fin} {gd : Bool → Bool} {lv : List Value → List Value} {body : List Stmt} {pos : Pos}
theorem gg_rangeO {tg iter : Expr} {ta : TA} {i : Nat} {NN : Int} {xs : List Int} {f : Int → Option (List α)} {GL : Gam} (Z : Pact g.X g.N g.ps g.scope g.A g.L) (hc : GC' g c fs gd)
    (hi : ∀ sc H, PI (g.cx sc H) tg iter (iRng1 ta)) (hg : ∀ sc H, PG (g.cx sc H) tg (gName i))
    (hn : ∀ W, EvA ta W Gm [] [] fun sls cs1 => sls = [rInt.at NN] ∧ cs1 = []) (hx : oRange 0 NN = some xs) (hf : genO f xs = some g.ys) (hw : Wkn Gm GL)
    (hb : ∀ (x : Int) (zs : List α) (k : Nat), f x = some zs → (∀ i z, zs[i]? = some z → g.ys[k + i]? = some z) → ∀ (ipb : List (Addr × Obj)) (c' : Code) (fs' : List PySem.Frame) (K' : Flow → Sem PySem.Fin) (J' : Value → Sem PySem.Fin), GC' g c' fs' id →
      Gg g [] (k + zs.length) GL [] [] ipb c' (K' .next) fs' → Gg g [] k (GL.set i (some (rInt.at x))) [] [] ipb c' ((execs body g.env).wrap K' J' id id) fs')
    (after : ∀ ex, Gg g ex g.ys.length GL [] [] ip c (K .next) fs) (hfs : ∀ x, foldedSetIterable iter g.env x = pure x := by intro _; rfl) :
    Gg g [] 0 Gm [] [] ip c ((exec (.For tg iter body [] pos) g.env).wrap K J gd lv) fs := by
  obtain ⟨⟨_, hs, hz⟩, rfl⟩ := oRange_ok hx
  obtain ⟨kk, k0, k1, k2⟩ := genO_parts hf
  have hl : (rangeI 0 NN).length = NN.toNat := by rw [len_rangeI]; congr 1; omega
  refine gg_range (kk := kk) Z hc (fun sc H _ => hi sc H) (fun sc H _ => hg sc H) hn hs k0 hw (fun j ipb c' fs' K' J' hj hc' hk => ?_) (fun ex => by rw [← hl, k1]; exact after ex) hfs
  have hxj : (rangeI 0 NN)[j]? = some (j : Int) := by
    unfold rangeI
    rw [List.getElem?_map, List.getElem?_range (by omega)]
    simp
  obtain ⟨zs, q1, q2, q3⟩ := k2 j _ hxj
  rw [q2] at hk
  exact hb _ zs (kk j) q1 q3 ipb c' fs' K' J' hc' hk
end
theorem okGen {P : Program} {w : World} {K : PySem.W.Frag} {mg : Str → Option Value} {base : Heap} {x qual : Str} {st : Stmt} {f : Addr} {fd : FuncData} {N ps : List Str} {k : Nat} {α : Type} {r : R α} {sp : List V → Hp → List α → Prop} (F : Fun K x qual st f fd) (S : PlainScope N ps (defScope st)) (len : ∀ vs G ys, sp vs G ys → vs.length = ps.length)
    (hb : ∀ (X : Cx) (pins : List (Addr × Obj)) (L : Addr) (A : Around) (Wt : Nat → Hp → L2.St → Hp → Prop) (cdv : Value) (vs : List V) (G0 : Hp) (ys : List α), X.prog = P → X.w = w → X.K = K → X.mg = mg → X.base = base → sp vs G0 ys → RoomG k (A.deeper (envOfC qual (defScope st) L f cdv)) → Pact X N ps (defScope st) A L →
      ∃ Gm, Slots G0 Gm (L2.start N vs) ∧ ∀ (K' : Flow → Sem PySem.Fin) (J' : Value → Sem PySem.Fin) (c : Code), GC' (⟨X, pins, L, N, ps, defScope st, qual, f, cdv, A, ys, r, Wt⟩ : GK) c [] id → (∀ ex Gm' T cs ip, Gg (⟨X, pins, L, N, ps, defScope st, qual, f, cdv, A, ys, r, Wt⟩ : GK) ex ys.length Gm' T cs ip c (K' .next) []) →
        Gg (⟨X, pins, L, N, ps, defScope st, qual, f, cdv, A, ys, r, Wt⟩ : GK) [] 0 Gm [] [] [] c ((execs (defBody st) (envOfC qual (defScope st) L f cdv)).wrap K' J' id id) []) : GenFn P w K mg base k f fd ps r sp := by
  obtain ⟨oc, od, kV, doc, pm, an, cdv, ct, osl, rfl, lk, hcd⟩ := F.ex
  refine ⟨len, N, qual, defScope st, cdv, defBody st, S, fun A ou s H ar us vs hr e0 hbd rv hl => made_by lk hcd S hr e0 hbd rv hl, fun X pins L A Wt vs G0 ys e1 e2 e3 e4 e5 hsp hr Z => ?_⟩
  obtain ⟨Gm, h1, h2⟩ := hb X pins L A Wt cdv vs G0 ys e1 e2 e3 e4 e5 hsp (hr.deeper _) Z
  exact ⟨Gm, h1, h2 _ _ _ ⟨over_func, rfl, rfl, rfl⟩ fun ex Gm' T cs ip => gg_end Z rfl⟩
/-- the generator's slots at its start -/
theorem slots_start {N : List Str} {sls : List Sl} {vs : List V} {G0 : Hp} (ar : Args G0 sls vs) (hn : sls.length ≤ N.length) : Slots G0 (sls.map some ++ List.replicate (N.length - sls.length) none) (L2.start N vs) := by
  have c : Core ⟨G0, fun _ => none⟩ G0 [] G0 := ⟨Same.refl _, Same.refl _, fun b x e => (nomatch e), fun b x e => (nomatch e), by simp, fun x hx => (by simp at hx)⟩
  obtain ⟨F, cc, sl, _⟩ := Sta.enter (F := G0) (N := N) c ar hn
  exact ⟨sl.1, fun i s hi => by
    obtain ⟨v, h1, h2⟩ := sl.2 i s hi
    exact ⟨v, h1, s.mono (show Same F G0 from fun b x e => cc.fh b x e) h2⟩⟩

/-! ## the consumer -/
def sSame (G : Hp) : Sl := ⟨fun F _ => Same G F, fun e h => h.trans e⟩
section
variable {W : Wd} {G : Gam} {T : Tms} {cs : Cells} {nx bk ct : L2.St → Hp → Prop} {rt : VK} {α : Type} {r : R α} {sp : List V → Hp → List α → Prop} {ta : TA} {tgt : TG} {tb : TS} {is : List Nat}
theorem core_grown {G0 G' F Hc Hc' : Hp} (c : Core W F cs Hc) (sG : Same G0 F) (gr : Grown G0 Hc G' Hc') : ∃ F', Core W F' cs Hc' ∧ Same F F' ∧ Same G' F' := by
  obtain ⟨p, h1, h2, h3, h4⟩ := gr.ex
  have pH : ∀ {b x}, Hc b = some x → p b = true := fun e => h1 _ (by rw [e]; simp)
  have sF : Same F (fun b => if p b = true then F b else G' b) := fun b x e => by
    show (if p b = true then F b else G' b) = some x
    rw [if_pos (pH (c.fh b x e))]; exact e
  refine ⟨fun b => if p b = true then F b else G' b, ⟨c.f0.trans sF, fun b x e => ?_, fun b x e => ?_, fun b x e => ?_, c.nd, fun y hy => ?_⟩, sF, fun b x e => ?_⟩
  · by_cases hp : p b = true
    · have e' : F b = some x := by simpa [hp] using e
      rw [h2 b hp]; exact c.fh b x e'
    · have hp' : p b = false := by simpa using hp
      have e' : G' b = some x := by simpa [hp'] using e
      exact h3 b x hp' e'
  · have e1 := c.bh b x e
    rw [h2 b (pH e1)]; exact e1
  · have e1 := c.bh b x e
    show (if p b = true then F b else G' b) = none
    rw [if_pos (pH e1)]; exact c.bf b x e
  · obtain ⟨q1, q2, o, q3, q4⟩ := c.cell y hy
    refine ⟨?_, q2, o, ?_, y.2.mono sF q4⟩
    · show (if p y.1 = true then F y.1 else G' y.1) = none
      rw [if_pos (pH q3)]; exact q1
    · rw [h2 _ (pH q3)]; exact q3
  · show (if p b = true then F b else G' b) = some x
    by_cases hp : p b = true
    · rw [if_pos hp]; exact sG b x (h4 b x hp e)
    · rw [if_neg hp]; exact e
theorem forG_sound (h : EvA ta W G T cs fun sls cs1 => ∃ (β ρ : Type) (ys : List α) (b0 : β) (f : β → α → Option (Fl ρ β)) (out : Lo ρ β) (Gb : β → Gam) (cb : β → Cells),
      (∀ F vs, Args F sls vs → sp vs (tups F) ys) ∧ loopO f ys b0 = some out ∧ Wkn G (Gb b0) ∧ cs1 = cb b0 ∧
      (∀ T' b x fl, f b x = some fl → ∀ N Bk : L2.St → Hp → Prop, (∀ b', fl = .go b' → NxT N W (Gb b') T' (cb b')) → (∀ b', fl = .brk b' → NxT Bk W (Gb b') T' (cb b')) → (∀ z, fl = .ret z → out = .ret z) →
        Tg tgt is W (Gb b) T' (cb b) (r.at x) fun G' => NxT (tb ⟨N, rt, Bk, N⟩) W G' T' (cb b)) ∧
      (∀ b', out = .go b' → NxT nx W (Gb b') T (cb b'))) : NxT (tForG sp r ta tgt tb ⟨nx, rt, bk, ct⟩) W G T cs := fun s H st => by
  refine h s H st _ fun sls cs1 ⟨β, ρ, ys, b0, f, out, Gb, cb, hsp, hlo, hw, e2, hbody, after⟩ vs H1 ⟨F, c, sg, t, ar⟩ => ?_
  subst e2
  refine ⟨ys, tups F, hsp F vs ar, tups_whole, tups_sub.trans c.fh, fun k G0 σ H => ∃ b F, loopO f (ys.drop k) b = some out ∧ Core W F (cb b) H ∧ Slots F (Gb b) σ ∧ Temps F T ∧ Same G0 F, ⟨b0, F, hlo, c, sg.weak hw, t, tups_sub⟩, ?_, ?_⟩
  · rintro G0 σ H G' H' ⟨b, F, hl, c, sg, t, sG⟩ gr
    obtain ⟨F', c', sF, _⟩ := core_grown c sG gr
    rw [List.drop_length] at hl
    exact after b (Option.some.inj hl).symm σ H' ⟨F', c', sg.mono sF, t.mono sF⟩
  · rintro k y G0 σ H G' H' x hy ⟨b, F, hl, c, sg, t, sG⟩ gr px
    obtain ⟨F', c', sF, sG'⟩ := core_grown c sG gr
    have hk := (List.getElem?_eq_some_iff.mp hy)
    have hd : ys.drop k = y :: ys.drop (k + 1) := by
      obtain ⟨hk1, hk2⟩ := hk
      rw [← hk2]; exact List.drop_eq_getElem_cons hk1
    rw [hd] at hl
    unfold loopO at hl
    cases ef : f b y with
    | none => rw [ef] at hl; cases hl
    | some fl =>
      rw [ef] at hl
      have hN : ∀ b', fl = .go b' → NxT (fun σ3 H3 => Same G' H3 ∧ ∃ b F, loopO f (ys.drop (k + 1)) b = some out ∧ Core W F (cb b) H3 ∧ Slots F (Gb b) σ3 ∧ Temps F T ∧ Same G' F) W (Gb b') ((.non, sSame G') :: T) (cb b') := by
        intro b' e s3 H3 st3
        obtain ⟨F3, c3, sg3, t3⟩ := st3
        subst e
        have z : Same G' F3 := t3.head
        exact ⟨z.trans c3.fh, b', F3, hl, c3, sg3, t3.tail, z⟩
      have hB : ∀ b', fl = .brk b' → NxT nx W (Gb b') ((.non, sSame G') :: T) (cb b') := by
        intro b' e s3 H3 st3
        obtain ⟨F3, c3, sg3, t3⟩ := st3
        subst e
        exact after b' (Option.some.inj hl).symm s3 H3 ⟨F3, c3, sg3, t3.tail⟩
      have hR : ∀ z, fl = .ret z → out = .ret z := by
        intro z e
        subst e
        exact (Option.some.inj hl).symm
      exact hbody ((.non, sSame G') :: T) b y fl ef _ nx hN hB hR x σ H' ⟨F', c', sg.mono sF, (Temps.cons (sl := sSame G') sG' (t.mono sF)).cons (r.mono sG' px)⟩ _ fun G'' k s' st' _ => k s' H' st'
theorem foldG_sound (h : EvA ta W G T cs fun sls cs1 => ∃ (β : Type) (ys : List α) (b0 : β) (f : β → α → Option β) (out : β) (Gb : β → Gam) (cb : β → Cells),
      (∀ F vs, Args F sls vs → sp vs (tups F) ys) ∧ foldO f ys b0 = some out ∧ Wkn G (Gb b0) ∧ cs1 = cb b0 ∧
      (∀ T' b x b', f b x = some b' → ∀ N Bk : L2.St → Hp → Prop, NxT N W (Gb b') T' (cb b') → Tg tgt is W (Gb b) T' (cb b) (r.at x) fun G' => NxT (tb ⟨N, rt, Bk, N⟩) W G' T' (cb b)) ∧
      NxT nx W (Gb out) T (cb out)) : NxT (tForG sp r ta tgt tb ⟨nx, rt, bk, ct⟩) W G T cs := by
  refine forG_sound (is := is) ?_
  intro s H st Q q
  refine h s H st Q fun sls cs' ⟨β, ys, b0, f, out, Gb, cb, hsp, hl, hw, e2, hbody, after⟩ vs H' st' => q sls cs' ⟨β, Empty, ys, b0, _, .go out, Gb, cb, hsp, foldO_loop f ys b0 out hl, hw, e2, fun T' b x fl hf N Bk hN _ _ => ?_, fun b' e => ?_⟩ vs H' st'
  · cases ef : f b x with
    | none => rw [ef] at hf; cases hf
    | some b' =>
      rw [ef] at hf
      cases hf
      exact hbody T' b x b' ef N Bk (hN b' rfl)
  · cases e; exact after
end
end ML

namespace ML
open PySem PySem.Spec PyProof.Rows L2
theorem PlainScope.nd {N ps : List Str} {sc : Scope} (S : PlainScope N ps sc) : N.Nodup := S.g.nd
theorem allTup_nil : AllTup [] := fun _ h => by simp at h
theorem allTup_cons {sl : Sl} {l : List Sl} (h : TupS sl) (t : AllTup l) : AllTup (sl :: l) := fun s hs => by
  rcases List.mem_cons.mp hs with e | hs
  · rw [e]; exact h
  · exact t s hs
def LeanF (l : List (Str × Sl)) : Prop := ∀ x ∈ l, LeanS x.2
theorem leanF_nil : LeanF [] := fun _ h => by simp at h
theorem leanF_cons {n : Str} {sl : Sl} {l : List (Str × Sl)} (h : LeanS sl) (t : LeanF l) : LeanF ((n, sl) :: l) := fun x hx => by
  rcases List.mem_cons.mp hx with e | hx
  · rw [e]; exact h
  · exact t x hx
theorem fld_lean {M : Hp} : ∀ {l : List (Str × Sl)} {fs : List (Str × V)}, LeanF l → Fld M l fs → Fld (lean M) l fs
  | _, _, _, .nil => .nil
  | _, _, h, .cons q t => .cons ⟨q.1, h _ List.mem_cons_self _ _ q.2⟩ (fld_lean (fun x hx => h x (List.mem_cons_of_mem _ hx)) t)
theorem LeanR.own {α : Type} {C : Addr} {fl : α → List (Str × Sl)} (h : ∀ t, LeanF (fl t)) : LeanR (rRec C fl) := fun t M v ⟨p, dx, fs, h1, h2, h3⟩ => ⟨p, dx, fs, h1, lean_ins h2, fld_lean (h t) h3⟩
end ML

namespace ML
open PySem PySem.Spec PyProof.Rows L2
section
variable {W : Wd} {G : Gam} {T : Tms} {cs : Cells} {K : Sl → Cells → Prop} {ta tb : TE}
/-- a list some times, as a cell -/
theorem e_repZC (h0 : Ev ta W G T cs fun sa cs1 => ∀ va, Ev tb W G ((va, sa) :: T) cs1 fun sb cs2 => ∃ (α : Type) (r : R α) (xs ys : List α) (i : Int), sa = (rLst r).at xs ∧ sb = rInt.at i ∧ oRepZ xs i = some ys ∧ ∀ p, K (sRef p) (cs2 ++ [(p, cLst r ys)])) :
    Ev (tOp rRep ta tb) W G T cs K := fun s H st Q q => by
  refine h0 s H st _ fun sa cs1 h1 va H1 st1 => ?_
  refine h1 va s H1 st1 _ fun sb cs2 ⟨α, r, xs, ys, i, e1, e2, hy, k⟩ vb H2 ⟨F, c, sg, tm⟩ => ?_
  subst e1 e2
  obtain ⟨hz, a, vs, rfl, hF, hA⟩ := tm.tail.head
  have eb : vb = .int i := tm.head
  obtain ⟨⟨c2, c3, c4⟩, e⟩ := of_ite hy
  subst e eb
  have hl := hA.length
  have hs := repz_small c3 c4
  refine ⟨a, i, vs, rfl, rfl, c.fh _ _ hF, by omega, by omega, ?_, fun p hp => ?_⟩
  · rw [len_rep, Nat.mul_comm, hl] at hs
    exact hs
  · exact q _ _ (k p) _ _ ⟨F, c.newCell hp ⟨hs, _, rfl, hA.rep _⟩, sg, tm.tail.tail.cons rfl⟩
end
end ML

/-! [.. for x in g(..)] -/
namespace ML
open PySem PySem.Spec PyProof.Rows L2 GenW

theorem run_asleep {α : Type} {M : Model} {A : Around} {s : Shared} {t : Sem α} {Q : α → Shared → Prop} {Q' : α → Shared → Prop} {E : Value → Shared → Prop} {gn : Nat} {st : GenState} (b : AllBare s.gens) (e : s.gens[gn]? = some st) (hs : st.status = .suspended)
    (h : wpAny M A t Q (fun _ _ => False) (hushed s)) (hb : ∀ a z, Q a z → AllBare z.gens) (hQ : ∀ a z g', AllBare g' → g'[gn]? = some st → Q a z → Q' a { z with gens := g' }) : wpAny M A t Q' E s :=
  wpAny_mono (any_asleep h) (fun a s' ⟨z, hz, hu, q⟩ => by
    subst hz
    exact hQ a z _ (allBare_rouse b (hb a z q)) (rouse_asleep hu e hs) q) fun e s' ⟨_, _, _, q⟩ => q.elim
def tLcG {α : Type} (sp : List V → Hp → List α → Prop) (r : R α) (ta : TA) (tg : TG) (tt : TT) (te : TE) (vs : List Nat) : TE := fun σ H Q => ta σ H fun us H1 => ∃ (ys : List α) (G0 : Hp), sp us G0 ys ∧ Whole G0 ∧ Same G0 H1 ∧ ∀ D, H1 D = none → ∃ Wt : Nat → Hp → Hp → Prop, Wt 0 G0 (upd H1 D (.lst [])) ∧
  (∀ G H G' H', Wt ys.length G H → Grown G H G' H' → Q (.ref D) H') ∧
  ∀ k y G H G' H' x, ys[k]? = some y → Wt k G H → Grown G H G' H' → r.p y G' x → tg x (wipe σ vs) H' fun σ2 H2 => wipe σ2 vs = wipe σ vs ∧ tt σ2 H2 fun b H3 =>
    if b = true then te σ2 H3 fun yv H4 => ∃ acc, H4 D = some (.lst acc) ∧ acc.length < sizeLine ∧ Same G' (upd H4 D (.lst (acc ++ [yv]))) ∧ Wt (k + 1) G' (upd H4 D (.lst (acc ++ [yv]))) else Same G' H3 ∧ Wt (k + 1) G' H3
section
variable {X : Cx} {α : Type} {r : R α} {sp : List V → Hp → List α → Prop} {k : Nat} {f : Addr} {fd : FuncData} {ps : List Str} {x : Str} {p pos pos' : Pos} {e : Expr} {es : List Expr} {ta : TA} {tg : Expr} {tgt : TG}
theorem pe_lcG {elt : Expr} {ifs : List Expr} {scope : Scope} {own : List (Str × Nat)} {tt : TT} {te : TE} (F : GenFn X.prog X.w X.K X.mg X.base k f fd ps r sp) (hr : RoomG (k + 2) X.A) (hc : X.calm = true) (hN : X.N.Nodup) (hg : Gl X x) (hm : X.mg x = some (.ref f)) (hk : PySem.W.keepIn X.K (.ref f) = true) (hb : Binds X.K fd ps [])
    (ha : PA X (e :: es) ta) (ok : BlkOk X.N X.env.scope scope own)
    (ht0 : ∀ (s : Shared) (H : Hp) (C : Addr) (cl : List (Str × Addr)) (fp : List Addr), PG (X.blk s H scope (compEnvC scope cl C X.env) fp) tg tgt) (ht1 : ∀ (s : Shared) (H : Hp) (C : Addr) (cl : List (Str × Addr)) (fp : List Addr), PTs (X.blk s H scope (compEnvC scope cl C X.env) fp) ifs tt)
    (he : ∀ (s : Shared) (H : Hp) (C : Addr) (cl : List (Str × Addr)) (fp : List Addr), PE (X.blk s H scope (compEnvC scope cl C X.env) fp) elt te)
    (h1 : (x == ("__debug__" : Str)) = false := by decide) (h2 : starEach (e :: es) X.env = (false, eval e X.env) :: starEach es X.env := by rfl) (h3 : (backTo pos' (starEach es X.env)).any (·.1) = false := by rfl)
    (hs : ∀ v, foldedSetIterable (.Call (.Name x p) (e :: es) [] pos') X.env v = pure v := by intro _; rfl) :
    PE X (.ListComp elt [⟨tg, .Call (.Name x p) (e :: es) [] pos', ifs, 0⟩] scope pos) (tLcG sp r ta tgt tt te (own.map (·.2))) := by
  refine ⟨fun pins s σ H Q I h => ?_⟩
  rw [eval_ListComp]
  obtain ⟨N, qual, scG, cd, bG, Sc, mk, gbody⟩ := F.go
  have hfree : ∀ y ∈ scope.names, y.2 = .free → ∃ c, X.env.cells.lookup y.1 = some c := fun y hy e => (ok.free y hy e).elim (fun z => I.ok.has _ (.inl z)) fun z => I.ok.has _ (.inr z)
  refine wpAny_comprehension_free (use := none) rfl hs (closure_ok hfree) ok.kind (fun y hy e => by rw [ok.uniq y hy, e]) ?_
  refine wpAny_Call_Name_kw (ld_glob I hg hm (PySem.W.callWith_K (h₀ := X.base) I.ok.mod.kin hk (thn (ha.run pos' pins s σ H _ I h) fun us s1 h4 => ?_) h2 h3) h1)
  obtain ⟨vs, H1, I1, rv, ys, G0, hsp, wG, sG, hW⟩ := h4
  have hl := F.len vs G0 ys hsp
  have hbt : BindsTo s1 fd ⟨us, []⟩ (ps.zip us) := by
    have := hb s1 us I1.kIn (by rw [List.append_nil, ← rv.length]; exact hl)
    rwa [List.append_nil] at this
  refine ⟨I1.kIn, wpAny_call (codeAny_mono (mk X.A X.stack s1 H1 ⟨us, []⟩ us vs (hr.mono (by omega)) I1.env0 hbt rv hl) fun res s2 hq => ?_)⟩
  match res, hq with
  | .error e, hq => exact hq.elim
  | .ok .next, hq => exact False.elim hq
  | .ok .brk, hq => exact False.elim hq
  | .ok .cont, hq => exact False.elim hq
  | .ok (.ret u), hq =>
    obtain ⟨L, a, go, oL, gn, rfl, Mk⟩ := hq
    refine wpAny_pyIter_gen (Mk.isg _ Mk.at') ?_
    have I2 : Inv X pins σ H1 s2 := I1.call' (ch := []) Mk.os (Un.kept Mk.keep) (I1.hok.kept Mk.keep) Mk.bare fun b z => by simp at z
    have young : ∀ b, s1.heap.objs.size ≤ b → H1 b = none ∧ b ≠ X.env.locals ∧ b ∉ X.fs ∧ (∀ y c, X.env.cells.lookup y = some c → c ≠ b) ∧ ∀ q ∈ X.pn ++ pins, q.1 ≠ b := fun b hb => ⟨I1.hok.fresh hb, Nat.ne_of_gt (Nat.lt_of_lt_of_le I1.lt hb), I1.nofs hb, fun y c e z => by
      obtain ⟨v, oc, ho, _⟩ := I1.cell y c e
      have := Heap.lt_size ho
      rw [z] at this
      exact absurd (Nat.lt_of_lt_of_le this hb) (Nat.lt_irrefl _), fun q hq z => by
      have := Heap.lt_size (I1.pin q hq).1
      rw [z] at this
      exact absurd (Nat.lt_of_lt_of_le this hb) (Nat.lt_irrefl _)⟩
    obtain ⟨gfs, gcls, gdat⟩ := Mk.flds
    have hago : s1.heap.objs.size ≤ a := Nat.le_of_lt (Nat.lt_of_le_of_lt Mk.low Mk.lt)
    have lL := Heap.lt_size Mk.fr
    have la := Heap.lt_size Mk.at'
    refine wpAny_newObj_type (newEnv_comp ?_) (by show 0 ≤ sizeLine; decide)
    generalize hD : s2.heap.objs.size = D at lL la
    have hDn : H1 D = none := I2.hok.fresh (Nat.le_of_eq hD)
    obtain ⟨Wt, w0, fin, turn⟩ := hW D hDn
    generalize hs3 : ({ s2 with heap := s2.heap.push { cls := .type "list", data := .seq ([] : List Value).toArray } } : Shared) = s3
    have I3 : Inv X pins σ (upd H1 D (.lst [])) s3 := by
      rw [← hs3]
      refine I2.laid (t' := s2.toks) (fun b o e => Heap.get?_push_of_some _ e) (Nat.le_of_eq hD) ⟨Nat.zero_le _, [], 0, .nil, ?_⟩
      rw [← hD]
      exact Heap.get?_push_size _ rfl
    have h3 : s3.heap = s2.heap.push { cls := .type "list", data := .seq ([] : List Value).toArray } := by rw [← hs3]
    have g3 : s3.gens = s2.gens := by rw [← hs3]
    have k3 : ∀ b o, s2.heap.get? b = some o → s3.heap.get? b = some o := fun b o e => by rw [h3]; exact Heap.get?_push_of_some _ e
    have sz3 : D < s3.heap.objs.size := by rw [h3, Heap.size_push, hD]; exact Nat.lt_succ_self _
    -- the generator's own places, and what lies empty behind its frame
    generalize hfp : (L :: (List.range s3.heap.objs.size).filter fun b => decide (L < b) && (s3.heap.get? b).isNone) = fp
    have inL : L ∈ fp := by rw [← hfp]; exact List.mem_cons_self
    have f3 : ∀ b ∈ fp, FpOk X pins (upd H1 D (.lst [])) b ∧ b < s3.heap.objs.size := fun b hb => by
      rw [← hfp] at hb
      rcases List.mem_cons.mp hb with e | hb
      · subst e
        obtain ⟨y1, y2, y3, y4, y5⟩ := young b Mk.low
        exact ⟨⟨by rw [upd_ne (Nat.ne_of_lt lL)]; exact y1, y2, y3, .inr (Nat.le_trans I1.sz Mk.low), y4, y5⟩, Nat.lt_trans lL sz3⟩
      · obtain ⟨q1, q2⟩ := List.mem_filter.mp hb
        rw [Bool.and_eq_true, decide_eq_true_eq] at q2
        obtain ⟨q2, q3⟩ := q2
        have en : s3.heap.get? b = none := by simpa using q3
        obtain ⟨_, y2, y3, y4, y5⟩ := young b (Nat.le_trans Mk.low (Nat.le_of_lt q2))
        refine ⟨⟨?_, y2, y3, .inr (Nat.le_trans (Nat.le_trans I1.sz Mk.low) (Nat.le_of_lt q2)), y4, y5⟩, List.mem_range.mp q1⟩
        cases q : upd H1 D (.lst []) b with
        | none => rfl
        | some z => obtain ⟨o, eo⟩ := HOk.there I3.hok q; rw [en] at eo; cases eo
    have I4 := block_start I3 ok hN f3
    have pg := ht0 s3 (upd H1 D (.lst [])) s3.heap.objs.size (cellsFrom (s3.heap.objs.size + 1) scope.names (cloFrom X.env.cells scope.names [])) fp
    have pt := ht1 s3 (upd H1 D (.lst [])) s3.heap.objs.size (cellsFrom (s3.heap.objs.size + 1) scope.names (cloFrom X.env.cells scope.names [])) fp
    have pe := he s3 (upd H1 D (.lst [])) s3.heap.objs.size (cellsFrom (s3.heap.objs.size + 1) scope.names (cloFrom X.env.cells scope.names [])) fp
    show codeAny _ _ (.compStart (.ListComp elt [⟨tg, .Call (.Name x p) (e :: es) [] pos', ifs, 0⟩] scope pos) 0 (.ref a) (.ref D) (compEnvC scope (cellsFrom (s3.heap.objs.size + 1) scope.names (cloFrom X.env.cells scope.names [])) s3.heap.objs.size X.env)) (compPost (model X.prog X.w) X.A X.xe none (EP X pins σ Q) (.ref D) s3.heap.objs.size) { s3 with heap := pushCells (s3.heap.push { cls := .type "dict", data := .dict #[] }) scope.names }
    generalize hce : compEnvC scope (cellsFrom (s3.heap.objs.size + 1) scope.names (cloFrom X.env.cells scope.names [])) s3.heap.objs.size X.env = ce at I4 pg pt pe ⊢
    have cL : ce.locals = s3.heap.objs.size := by subst hce; rfl
    have hG0D : G0 D = none := none_sub sG hDn
    have sG3 : Same G0 (upd H1 D (.lst [])) := fun b z ez => by
      rw [upd_ne (fun q => by rw [q, hG0D] at ez; cases ez)]
      exact sG b z ez
    have n3 : ∀ b, s1.heap.objs.size ≤ b → b < D → upd H1 D (.lst []) b = none := fun b hb hlt => by rw [upd_ne (Nat.ne_of_lt hlt)]; exact (young b hb).1
    generalize hH3 : upd H1 D (.lst []) = H3 at I3 I4 pg pt pe w0 f3 sG3 n3
    generalize hs4 : ({ s3 with heap := pushCells (s3.heap.push { cls := .type "dict", data := .dict #[] }) scope.names } : Shared) = s4 at I4 ⊢
    have g4 : s4.gens = s2.gens := by rw [← hs4]; exact g3
    have k4 : ∀ b o, s2.heap.get? b = some o → s4.heap.get? b = some o := fun b o e => by rw [← hs4]; exact pushCells_keeps _ _ _ _ (Heap.get?_push_of_some _ (k3 b o e))
    generalize hXb : X.blk s3 H3 scope ce fp = Xb at I4 pg pt pe
    have xb0 : Xb.s_0 = s3 := by rw [← hXb]
    have xbl : Xb.env.locals = s3.heap.objs.size := by rw [← hXb]; exact cL
    have xbf : Xb.fs = frs X.stack := by rw [← hXb]
    have xbx : Xb.ex = fp := by rw [← hXb]
    have xbp : Xb.pn = [] := by rw [← hXb]
    have xbA : Xb.A = X.A := by rw [← hXb]
    have xbs : Xb.stack = X.stack := by rw [← hXb]
    have xbb : Xb.base = X.base := by rw [← hXb]
    have xbP : Xb.prog = X.prog ∧ Xb.w = X.w ∧ Xb.K = X.K ∧ Xb.mg = X.mg := by rw [← hXb]; exact ⟨rfl, rfl, rfl, rfl⟩
    have low : ∀ b ∈ frs X.stack, b < L := fun b hb => by
      obtain ⟨_, o, ho, _⟩ := I1.stack.mem hb
      exact Nat.lt_of_lt_of_le (Heap.lt_size ho) Mk.low
    have Z : Pact Xb N ps scG X.A.in1 L := by
      refine ⟨Sc, I1.ok.hd hc, by rw [xbs]; exact I1.ok.frames, .inl (by rw [xbx]; exact inL), by rw [xbb]; exact Nat.le_trans I1.ok.bsz (Nat.le_trans I1.sz Mk.low), fun b hb en => ?_, fun b hb => low b (by rw [xbs] at hb; exact hb)⟩
      rw [xb0] at en ⊢
      rw [xbx]
      rcases Nat.lt_or_ge b s3.heap.objs.size with q | q
      · refine .inl ?_
        rw [← hfp]
        exact List.mem_cons_of_mem _ (List.mem_filter.mpr ⟨List.mem_range.mpr q, by rw [Bool.and_eq_true, decide_eq_true_eq, en]; exact ⟨hb, rfl⟩⟩)
      · exact .inr q
    have nstk : ∀ b, s1.heap.objs.size ≤ b → b ∉ Xb.fs := fun b hb hm => by
      rw [xbf] at hm
      rcases List.mem_cons.mp (I1.stkSub b hm) with z | z
      · exact (young b hb).2.1 z
      · exact (young b hb).2.2.1 z
    have S4 : Sleep Xb [(a, go)] L G0 oL [] (wipe σ (own.map (·.2))) H3 s4 := by
      refine ⟨I4.pins_of fun q hq => ?_, wG, sG3, fun q hq => (by simp at hq), fun q hq => (by simp at hq), fun q hq q' hq' => ?_⟩
      · rcases List.mem_append.mp hq with hq | hq
        · rw [List.mem_singleton.mp hq]
          exact ⟨k4 _ _ Mk.at', n3 a hago la, by rw [xbl]; exact Nat.ne_of_lt (Nat.lt_trans la sz3), nstk a hago, fun v z => by rw [gdat] at z; cases z⟩
        · rw [List.mem_singleton.mp hq]
          obtain ⟨es1, ep1, m1, hd1, _⟩ := Mk.loc
          exact ⟨k4 _ _ Mk.fr, n3 L Mk.low lL, by rw [xbl]; exact Nat.ne_of_lt (Nat.lt_trans lL sz3), nstk L Mk.low, fun v z => by rw [hd1] at z; cases z⟩
      · rw [List.mem_singleton.mp hq]
        rw [xbp, List.nil_append, List.mem_singleton] at hq'
        rw [hq']
        exact Nat.ne_of_gt Mk.lt
    have hra : RoomG (k + 1) X.A.in1 := hr.in1
    obtain ⟨Gm, slG, hgg⟩ := gbody Xb [(a, go)] L X.A.in1 (fun kk G σ' H' => σ' = wipe σ (own.map (·.2)) ∧ Wt kk G H') vs G0 ys xbP.1 xbP.2.1 xbP.2.2.1 xbP.2.2.2 xbb hsp hra Z
    have Mg : s4.gens[gn]? = some (.fresh (.func bG (envOfC qual scG L f cd))) := by rw [g4]; exact Mk.gen
    have gol : gn < s4.gens.size := (Array.getElem?_eq_some_iff.mp Mg).1
    have loop : codeAny (model X.prog X.w) X.A (.compLoop (.ListComp elt [⟨tg, .Call (.Name x p) (e :: es) [] pos', ifs, 0⟩] scope pos) 0 (.ref a) (.ref D) ce) (compPost (model X.prog X.w) X.A X.xe none (EP X pins σ Q) (.ref D) s3.heap.objs.size) s4 := by
      refine compLoop_any (fun n s' => ∃ kk gs G oL ip H', n + kk = ys.length + 1 ∧ Sleep Xb [(a, go)] L G oL ip (wipe σ (own.map (·.2))) H' s' ∧ Wt kk G H' ∧ s'.gens[gn]? = some gs ∧
        gs.Goes (model X.prog X.w) X.A.in1 (GK.R ⟨Xb, [(a, go)], L, N, ps, scG, qual, f, cd, X.A.in1, ys, r, fun kk G σ' H' => σ' = wipe σ (own.map (·.2)) ∧ Wt kk G H'⟩) (GK.Y ⟨Xb, [(a, go)], L, N, ps, scG, qual, f, cd, X.A.in1, ys, r, fun kk G σ' H' => σ' = wipe σ (own.map (·.2)) ∧ Wt kk G H'⟩) n (.send .none) (s'.setGen gn .running)) ?_ (ys.length + 1)
        ⟨0, _, G0, oL, [], H3, rfl, S4, w0, Mg, rfl, seg_func ?_⟩
      · rintro n s5 ⟨kk, gs, G3, oL3, ip3, H5, hnk, S5, w5, hgs, hgo⟩
        have hgl := (Array.getElem?_eq_some_iff.mp hgs).1
        have ha5 : s5.heap.get? a = some go := (S5.inv.pin (a, go) (List.mem_append_right _ (List.mem_append_left _ List.mem_cons_self))).1
        refine wpAny_gsz (n := gn + 1) hgl (nexts (I1.ok.hd hc) S5.inv.nolimit hr.rm.depth (Mk.isg _ ha5) hgs hgo (fun v z st' hbare hsusp hY hsz => ?_) fun z hF h' hk' _ => ?_)
        · obtain ⟨k', G, oL4, ip4, σc, Hc, y, vv, G', oL', ip', Hc', hk', S0, ⟨eσ, wt0⟩, hy', rvv, ry, S', gr, kap⟩ := hY
          subst eσ
          have b6 : AllBare (z.setGen gn st').gens := allBare_setGen S'.inv.bare hbare
          have S6 : Sleep Xb [(a, go)] L G' oL' ip' (wipe σ (own.map (·.2))) Hc' (z.setGen gn st') := S'.gens b6
          have hz : gn < z.gens.size := by
            have q : (z.setGen gn st').gens.size = z.gens.size := setGen_size _ _ _
            omega
          have at6 : (z.setGen gn st').gens[gn]? = some st' := setGen_at hz
          have ha6 : (z.setGen gn st').heap.get? a = some go := (S6.inv.pin (a, go) (List.mem_append_right _ (List.mem_append_left _ List.mem_cons_self))).1
          refine go_of ha6 gcls gdat (by decide) ?_
          have r7 := pg.run _ (hushed (z.setGen gn st')) _ Hc' vv v _ (inv_gens S6.inv (allBare_hushed b6)) rvv (turn k' y G Hc G' Hc' vv hy' wt0 gr ry)
          rw [← hXb] at r7
          refine run_asleep b6 at6 hsusp r7 (fun _ z ⟨_, _, I, _⟩ => I.bare) fun _ z7 g7 b7 at7 ⟨σ7, H7, I7, hw7, q7⟩ => ?_
          have I7' := inv_gens I7 b7
          have r8 := pt.run _ (hushed { z7 with gens := g7 }) σ7 H7 _ (by rw [← hXb]; exact inv_gens I7' (allBare_hushed b7)) q7
          rw [← hXb] at r8
          refine run_asleep b7 at7 hsusp r8 (fun _ z ⟨_, I, _⟩ => I.bare) fun bb z8 g8 b8 at8 ⟨H8, I8, q8⟩ => ?_
          have I8' := inv_gens I8 b8
          have fin8 : ∀ {s' : Shared} {H' : Hp}, AllBare s'.gens → s'.gens[gn]? = some st' → Inv (X.blk s3 H3 scope ce fp) ([(a, go)] ++ (L, oL') :: ip') σ7 H' s' → Same G' H' → Wt (k' + 1) G' H' → ∃ m, m < n ∧ ∃ kk gs G oL ip H', m + kk = ys.length + 1 ∧ Sleep Xb [(a, go)] L G oL ip (wipe σ (own.map (·.2))) H' s' ∧ Wt kk G H' ∧ s'.gens[gn]? = some gs ∧
              gs.Goes (model X.prog X.w) X.A.in1 (GK.R ⟨Xb, [(a, go)], L, N, ps, scG, qual, f, cd, X.A.in1, ys, r, fun kk G σ' H' => σ' = wipe σ (own.map (·.2)) ∧ Wt kk G H'⟩) (GK.Y ⟨Xb, [(a, go)], L, N, ps, scG, qual, f, cd, X.A.in1, ys, r, fun kk G σ' H' => σ' = wipe σ (own.map (·.2)) ∧ Wt kk G H'⟩) m (.send .none) (s'.setGen gn .running) := fun {s' H'} bs ats I' w1 w2 => by
            have hlen : (wipe σ (own.map (·.2))).length = σ7.length := by rw [← hw7, wipe_length]
            have Iw : Inv Xb ([(a, go)] ++ (L, oL') :: ip') (wipe σ (own.map (·.2))) H' s' := by
              rw [← hXb]
              refine I'.weak hlen fun j v e => ?_
              rw [← hw7] at e
              exact (wipe_some e).1
            have S7 : Sleep Xb [(a, go)] L G' oL' ip' (wipe σ (own.map (·.2))) H' s' := ⟨Iw, S'.whole, w1, S'.up, S'.late, S'.apart⟩
            have q := kap (s'.setGen gn .running) _ H' (S7.gens (allBare_setGen S7.inv.bare rfl)) ⟨rfl, w2⟩
            cases n with
            | zero => exact q.elim
            | succ m => exact ⟨m, Nat.lt_succ_self _, k' + 1, st', G', oL', ip', H', by have : m + k' = ys.length := hk'; omega, S7, w2, ats, q⟩
          cases bb with
          | false =>
            simp only [Bool.false_eq_true, if_false] at q8 ⊢
            exact fin8 b8 at8 I8' q8.1 q8.2
          | true =>
            simp only [if_true] at q8 ⊢
            have r9 := pe.run _ (hushed { z8 with gens := g8 }) σ7 H8 _ (by rw [← hXb]; exact inv_gens I8' (allBare_hushed b8)) q8
            rw [← hXb] at r9
            refine run_asleep b8 at8 hsusp r9 (fun _ z ⟨_, _, I, _⟩ => I.bare) fun vz z9 g9 b9 at9 ⟨yv, H9, I9, ry9, acc, hD9, hz9, w1, w2⟩ => ?_
            have I9' := inv_gens I9 b9
            refine run_asleep (Q := fun _ s' => Inv (X.blk s3 H3 scope ce fp) ([(a, go)] ++ (L, oL') :: ip') σ7 (upd H9 D (.lst (acc ++ [yv]))) s') b9 at9 hsusp (app_ok (X := X.blk s3 H3 scope ce fp) (inv_gens I9' (allBare_hushed b9)) hD9 hz9 ry9 fun s11 I11 => I11) (fun _ z I => I.bare) fun _ z10 g10 b10 at10 I10 => ?_
            exact fin8 b10 at10 (inv_gens I10 b10) w1 w2
        · obtain ⟨G, oL4, ip4, σc, Hc, G', Hc', S0, ⟨eσ, wt0⟩, I6, gr⟩ := hF
          have I7 : Inv Xb [(a, go)] σc Hc' { z.setGen gn .finished with heap := h' } := (inv_gens I6 (allBare_setGen I6.bare rfl)).kept (t' := z.toks) hk'
          rw [← hXb] at I7
          have I8 : Inv X pins σ Hc' { z.setGen gn .finished with heap := h' } := I3.call' (ch := fp) I7.os I7.base I7.hok I7.bare fun b hb => ⟨(f3 b hb).1.2.2.2.1, (f3 b hb).1.2.1, (f3 b hb).1.2.2.2.2.1, (f3 b hb).1.2.2.2.2.2⟩
          have nC : Hc' s3.heap.objs.size = none := by
            have q : Hc' ce.locals = none := I7.free
            rw [cL] at q
            exact q
          obtain ⟨m, hn, _⟩ := I7.loc
          have hn : ({ z.setGen gn .finished with heap := h' } : Shared).heap.Ns ce.locals m := hn
          rw [cL] at hn
          obtain ⟨f0, f1, f2, f4, f5, f6⟩ := I3.fpOk (Nat.le_refl _) nC
          refine ⟨m, hn, fun h'' sb => ?_⟩
          exact ⟨.ref D, Hc', I8.turned (t' := z.toks) (fun b o hb e => (sb.2 b hb).trans e) f0 f1 f4 f5 f6, rfl, fin G Hc G' Hc' wt0 gr⟩
      · have S4' := S4.gens (allBare_setGen (g := gn) (x := .running) S4.inv.bare rfl)
        have := hgg (ys.length + 1) (s4.setGen gn .running) (s4.setGen gn .running) G0 oL [] (wipe σ (own.map (·.2))) H3 _ _ rfl ⟨S4', ⟨rfl, w0⟩, S4'.wake Z Mk.loc Mk.len, ⟨G0, ⟨Same.refl _, both_l, both_r, fun b x e => (froz_of e).1, by simp, fun x hx => (by simp at hx)⟩, slG, Temps.nil⟩, fun q hq => (by simp at hq), fun b hb => (by simp at hb), fun q hq => (by simp at hq)⟩
        have e1 : (GK.M (α := α) ⟨Xb, [(a, go)], L, N, ps, scG, qual, f, cd, X.A.in1, ys, r, fun kk G σ' H' => σ' = wipe σ (own.map (·.2)) ∧ Wt kk G H'⟩) = model X.prog X.w := by
          show model Xb.prog Xb.w = _
          rw [xbP.1, xbP.2.1]
        rw [e1] at this
        exact this
    have ia4 : s4.heap.IsGen a gn := Mk.isg _ (k4 _ _ Mk.at')
    exact codeAny_compStart_list loop (wpAny_pyIter_gen ia4 loop)
end
end ML

/-! comprehensions over generators in the layer -/
namespace ML
open PySem PySem.Spec PyProof.Rows L2

def oLim {α : Type} (xs : List α) : Option (List α) := if xs.length ≤ sizeLine then some xs else none
theorem oLim_ok {α : Type} {xs ys : List α} (h : oLim xs = some ys) : xs.length ≤ sizeLine ∧ ys = xs := by
  obtain ⟨a, b⟩ := of_ite h
  exact ⟨a, b⟩
section
variable {W : Wd} {G : Gam} {T : Tms} {cs : Cells} {K : Sl → Cells → Prop} {α : Type} {r : R α} {sp : List V → Hp → List α → Prop} {ta : TA} {g : TG} {tt : TT} {te : TE} {vs is : List Nat}
theorem lcG_cell (hvs : ∀ i ∈ is, i ∈ vs) (h : EvA ta W G T cs fun sls cs1 => ∃ (β γ : Type) (xs xz : List α) (b0 : β) (f : β → α → Option (Option γ × β)) (ys : List γ) (b1 : β) (rr : R γ) (cb : β → Cells),
      (∀ F us, Args F sls us → sp us (tups F) xs) ∧ oLim xs = some xz ∧ lcO f xz b0 = some (ys, b1) ∧ cs1 = cb b0 ∧
      (∀ W' T' b x o b', f b x = some (o, b') →
        Tg g is W' (wipeG G vs) T' (cb b) (r.at x) fun G' => Et tt W' G' T' (cb b) fun c cs3 => (c = true → Ev te W' G' T' cs3 fun sl cs4 => ∃ y, o = some y ∧ sl = rr.at y ∧ cs4 = cb b') ∧ (c = false → o = none ∧ cs3 = cb b')) ∧
      ∀ p, K (sRef p) (cb b1 ++ [(p, cLst rr ys)])) : Ev (tLcG sp r ta g tt te vs) W G T cs K := fun s H st Q q => by
  refine h s H st _ fun sls cs1 ⟨β, γ, xs, xz, b0, f, ys, b1, rr, cb, hsp, hlim, hl, e2, hbody, k⟩ us H1 ⟨F1, c1, sg1, t1, ar⟩ => ?_
  obtain ⟨hsz, ez⟩ := oLim_ok hlim
  subst e2 ez
  refine ⟨xz, tups F1, hsp F1 us ar, tups_whole, tups_sub.trans c1.fh, fun Dp hD => ?_⟩
  have bD : W.B Dp = none := c1.bh.free hD
  refine ⟨fun i G0 H => ∃ (b : β) (acc : List γ) (zs : List γ) (F : Hp), lcO f (xz.drop i) b = some (zs, b1) ∧ ys = acc ++ zs ∧ acc.length ≤ i ∧ Core W F (cb b ++ [(Dp, cLst rr acc)]) H ∧ Slots F G s ∧ Temps F T ∧ Same G0 F, ⟨b0, [], ys, F1, hl, rfl, Nat.le_refl _, c1.newCell hD ⟨Nat.zero_le _, [], rfl, .nil⟩, sg1, t1, tups_sub⟩, ?_, ?_⟩
  · rintro G0 H G' H' ⟨b, acc, zs, F, hlo, ey, hacc, c, sg, t, sG⟩ gr
    obtain ⟨F', c', sF, _⟩ := core_grown c sG gr
    rw [List.drop_length] at hlo
    have e := Option.some.inj hlo
    have e1 : zs = [] := (Prod.mk.inj e).1.symm
    have e2 : b = b1 := (Prod.mk.inj e).2
    subst e1 e2
    rw [List.append_nil] at ey
    subst ey
    exact q _ _ (k Dp) _ H' ⟨F', c', sg.mono sF, (t.mono sF).cons rfl⟩
  · rintro i y G0 H G' H' x hy ⟨b, acc, zs, F, hlo, ey, hacc, c, sg, t, sG⟩ gr px
    obtain ⟨F', c', sF, sG'⟩ := core_grown c sG gr
    obtain ⟨hi, hy'⟩ := List.getElem?_eq_some_iff.mp hy
    have hd : xz.drop i = y :: xz.drop (i + 1) := by rw [← hy']; exact List.drop_eq_getElem_cons hi
    rw [hd] at hlo
    obtain ⟨o, b', zs', hf, hl', ez⟩ := lcO_cons hlo
    obtain ⟨d1, d2, od, d3, d4⟩ := c'.cell (Dp, cLst rr acc) (List.mem_append_right _ (by simp))
    have nb : ∀ x ∈ cb b, x.1 ≠ Dp := fun x hx e => by
      have nd := c'.nd
      rw [List.map_append, List.nodup_append] at nd
      exact nd.2.2 x.1 (List.mem_map_of_mem hx) Dp (by simp) e
    have cW : Core ⟨F', upd W.B Dp od⟩ F' (cb b) H' := by
      have z : Core ⟨W.F, upd W.B Dp od⟩ F' (cb b) H' := by
        refine (c'.drop (List.sublist_append_left _ _)).B (upd W.B Dp od) (fun a o e => ?_) (fun a o e => ?_) fun x hx => ?_
        · by_cases ha : a = Dp
          · subst ha; rw [upd_same] at e; cases e; exact d3
          · rw [upd_ne ha] at e; exact c'.bh a o e
        · by_cases ha : a = Dp
          · subst ha; exact d1
          · rw [upd_ne ha] at e; exact c'.bf a o e
        · rw [upd_ne (nb x hx)]; exact (c'.cell x (List.mem_append_left _ hx)).2.1
      exact ⟨Same.refl F', z.fh, z.bh, z.bf, z.nd, z.cell⟩
    have toW : ∀ {F2 : Hp} {cs2 : Cells} {H2 : Hp}, Core ⟨F', upd W.B Dp od⟩ F2 cs2 H2 → Core W F2 (cs2 ++ [(Dp, cLst rr acc)]) H2 := fun {F2 cs2 H2} c2 => by
      refine ⟨c'.f0.trans c2.f0, c2.fh, fun a o e => c2.bh a o ?_, fun a o e => c2.bf a o ?_, ?_, fun x hx => ?_⟩
      · show upd W.B Dp od a = some o
        rw [upd_ne (ne_of_none e bD)]; exact e
      · show upd W.B Dp od a = some o
        rw [upd_ne (ne_of_none e bD)]; exact e
      · rw [List.map_append, List.nodup_append]
        refine ⟨c2.nd, by simp, fun a ha b hb e => ?_⟩
        have eb : b = Dp := by simpa using hb
        obtain ⟨x, hx, ex⟩ := List.mem_map.mp ha
        have h0 : upd W.B Dp od x.1 = none := (c2.cell x hx).2.1
        rw [ex, e, eb, upd_same] at h0
        cases h0
      · rcases List.mem_append.mp hx with hx | hx
        · obtain ⟨a1, a2, a3⟩ := c2.cell x hx
          have a2' : upd W.B Dp od x.1 = none := a2
          by_cases hxd : x.1 = Dp
          · rw [hxd, upd_same] at a2'; cases a2'
          · rw [upd_ne hxd] at a2'; exact ⟨a1, a2', a3⟩
        · have e : x = (Dp, cLst rr acc) := by simpa using hx
          subst e
          exact ⟨c2.bf Dp od (show upd W.B Dp od Dp = some od from upd_same), bD, od, c2.bh Dp od (show upd W.B Dp od Dp = some od from upd_same), (cLst rr acc).mono c2.f0 d4⟩
    refine hbody ⟨F', upd W.B Dp od⟩ T b y o b' hf x (wipe s vs) H' ⟨F', cW, (sg.mono sF).wipe vs, (t.mono sF).cons (r.mono sG' px)⟩ _ fun G2 ht s2 st2 hw => ⟨by rw [hw vs hvs, wipe_wipe], ?_⟩
    refine ht s2 H' st2 _ fun cc cs3 ⟨k1, k2⟩ H3 st3 => ?_
    cases cc with
    | true =>
      rw [if_pos rfl]
      refine k1 rfl s2 H3 st3 _ fun sl cs4 ⟨y', eo, es, e4⟩ v4 H4 ⟨F4, c4, sg4, t4⟩ => ?_
      subst eo es e4
      have c5 := toW c4
      obtain ⟨_, _, o5, d5, ⟨hz5, ws, eo5, h5⟩⟩ := c5.cell (Dp, cLst rr acc) (List.mem_append_right _ (by simp))
      subst eo5
      have hlt : ws.length < sizeLine := by
        have := h5.length
        omega
      have hj : (cb b' ++ [(Dp, cLst rr acc)])[(cb b').length]? = some (Dp, cLst rr acc) := by simp
      have c6 := c5.write (c' := cLst rr (acc ++ [y'])) (o := .lst (ws ++ [v4])) hj ⟨by rw [List.length_append, List.length_singleton, h5.length]; exact hlt, _, rfl, h5.app (.cons t4.head .nil)⟩
      rw [show (cb b' ++ [(Dp, cLst rr acc)]).set (cb b').length (Dp, cLst rr (acc ++ [y'])) = cb b' ++ [(Dp, cLst rr (acc ++ [y']))] by simp [List.set_append]] at c6
      exact ⟨ws, d5, hlt, (sG'.trans c4.f0).trans c6.fh, b', acc ++ [y'], zs', F4, hl', by rw [ey, ez]; simp, by rw [List.length_append, List.length_singleton]; omega, c6, sg.mono (sF.trans c4.f0), t4.tail, sG'.trans c4.f0⟩
    | false =>
      rw [if_neg Bool.false_ne_true]
      obtain ⟨eo, e3⟩ := k2 rfl
      subst eo e3
      obtain ⟨F4, c4, sg4, t4⟩ := st3
      have c5 := toW c4
      exact ⟨(sG'.trans c4.f0).trans c5.fh, b', acc, zs', F4, hl', by rw [ey, ez], by omega, c5, sg.mono (sF.trans c4.f0), t4, sG'.trans c4.f0⟩
/-- the list stands still -/
theorem lcG_sound (hvs : ∀ i ∈ is, i ∈ vs) (h : EvA ta W G T cs fun sls cs1 => ∃ (β γ : Type) (xs xz : List α) (b0 : β) (f : β → α → Option (Option γ × β)) (ys : List γ) (b1 : β) (rr : R γ) (cb : β → Cells),
      (∀ F us, Args F sls us → sp us (tups F) xs) ∧ oLim xs = some xz ∧ lcO f xz b0 = some (ys, b1) ∧ cs1 = cb b0 ∧
      (∀ W' T' b x o b', f b x = some (o, b') →
        Tg g is W' (wipeG G vs) T' (cb b) (r.at x) fun G' => Et tt W' G' T' (cb b) fun c cs3 => (c = true → Ev te W' G' T' cs3 fun sl cs4 => ∃ y, o = some y ∧ sl = rr.at y ∧ cs4 = cb b') ∧ (c = false → o = none ∧ cs3 = cb b')) ∧
      K ((rLst rr).at ys) (cb b1)) : Ev (tLcG sp r ta g tt te vs) W G T cs K := fun s H st Q q => by
  refine lcG_cell (K := fun sl cs' => ∃ (γ : Type) (rr : R γ) (ys : List γ) (c0 : Cells) (p : Addr), sl = sRef p ∧ cs' = c0 ++ [(p, cLst rr ys)] ∧ K ((rLst rr).at ys) c0) hvs ?_ s H st Q fun sl cs' ⟨γ, rr, ys, c0, p, e1, e2, k⟩ v H' ⟨F, c, sg, t⟩ => ?_
  · intro s H st R q
    exact h s H st R fun sls cs1 ⟨β, γ, xs, xz, b0, f, ys, b1, rr, cb, hsp, hlim, hl, e2, hbody, k⟩ us H1 st1 => q sls cs1 ⟨β, γ, xs, xz, b0, f, ys, b1, rr, cb, hsp, hlim, hl, e2, hbody, fun p => ⟨γ, rr, ys, cb b1, p, rfl, rfl, k⟩⟩ us H1 st1
  · subst e1 e2
    have hj : (c0 ++ [(p, cLst rr ys)])[c0.length]? = some (p, cLst rr ys) := by simp
    obtain ⟨o, F', h1, ⟨hz, ws, eo, h2⟩, h3, sF, c'⟩ := c.freeze hj
    subst eo
    have ee : (c0 ++ [(p, cLst rr ys)]).eraseIdx c0.length = c0 := by
      rw [List.eraseIdx_append_of_length_le (Nat.le_refl _)]; simp
    rw [ee] at c'
    have ev : v = .ref p := t.head
    exact q _ _ k v H' ⟨F', c', sg.mono sF, (t.tail.mono sF).cons ⟨hz, p, ws, ev, h3, h2⟩⟩
end
end ML

namespace ML
open PySem Spec PyProof.Rows L2
/-! ## a list in a cell is walked while nothing changes it: it stands in the background -/
/-- what its items are -/
def sItems {α : Type} (r : R α) (xs : List α) (us : List V) : Sl := ⟨fun F _ => All2 (fun x u => r.p x F u) xs us, fun {_ _ _} e h => h.imp fun _ _ q => r.mono e q⟩
section
variable {W : Wd} {G : Gam} {T : Tms} {cs : Cells} {K : Sl → Cells → Prop} {te : TE} {KF : PySem.W.Frag}
variable {nx bk ct : L2.St → Hp → Prop} {rt : VK}
theorem e_behindL {α : Type} {r : R α} {xs : List α} {p : Addr} (j : Nat) (hj : cs[j]? = some (p, cLst r xs))
    (h : ∀ us B, B p = some (.lst us) → xs.length ≤ sizeLine → Ev te ⟨W.F, B⟩ G ((.ref p, sItems r xs us) :: T) (cs.eraseIdx j) fun sl cs1 => cs1 = cs.eraseIdx j ∧ K sl cs) : Ev te W G T cs K := fun s H st Q q => by
  obtain ⟨F, c, sg, tm⟩ := st
  obtain ⟨f1, f2, o, f3, f4, us, eo, f5⟩ := c.cell (p, cLst r xs) (List.mem_of_getElem? hj)
  subst eo
  have sub : (cs.eraseIdx j).Sublist cs := List.eraseIdx_sublist _ _
  have other : ∀ x ∈ cs.eraseIdx j, x.1 ≠ p := fun x hx => by
    obtain ⟨i, hi⟩ := List.mem_iff_getElem?.mp hx
    rw [List.getElem?_eraseIdx] at hi
    split at hi
    · rename_i hlt; exact nodup_at c.nd hj hi (by omega)
    · rename_i hlt; exact nodup_at c.nd hj hi (by omega)
  have cB : Core ⟨W.F, upd W.B p (.lst us)⟩ F (cs.eraseIdx j) H := by
    refine (c.drop sub).B (upd W.B p (.lst us)) (fun a o e => ?_) (fun a o e => ?_) fun x hx => ?_
    · by_cases ha : a = p
      · subst ha; rw [upd_same] at e; cases e; exact f3
      · rw [upd_ne ha] at e; exact c.bh a o e
    · by_cases ha : a = p
      · subst ha; exact f1
      · rw [upd_ne ha] at e; exact c.bf a o e
    · rw [upd_ne (other x hx)]; exact (c.cell x (sub.subset hx)).2.1
  refine h us _ upd_same f4 s H ⟨F, cB, sg, tm.cons f5⟩ Q fun sl cs1 ⟨e, k⟩ v H1 ⟨F1, c1, sg1, tm1⟩ => ?_
  subst e
  have keep : ∀ a o, W.B a = some o → upd W.B p (.lst us) a = some o := fun a o e => by rw [upd_ne (ne_of_none e f2)]; exact e
  refine q sl cs k v H1 ⟨F1, ⟨c1.f0, c1.fh, fun a o e => c1.bh a o (keep a o e), fun a o e => c1.bf a o (keep a o e), c.nd, fun x hx => ?_⟩, sg1, tm1.tail.tail.cons tm1.head⟩
  obtain ⟨i, hi⟩ := List.mem_iff_getElem?.mp hx
  by_cases e : i = j
  · subst e
    rw [hj] at hi
    cases hi
    exact ⟨c1.bf p _ upd_same, f2, .lst us, c1.bh p _ upd_same, f4, us, rfl, tm1.tail.head⟩
  · have hm : x ∈ cs.eraseIdx j := List.mem_eraseIdx_iff_getElem?.mpr ⟨i, e, hi⟩
    obtain ⟨g1, _, g3⟩ := c1.cell x hm
    exact ⟨g1, (c.cell x hx).2.1, g3⟩
theorem i_lstB {KI : List Sl → Cells → Prop} {α : Type} {r : R α} {xs : List α} {p : Addr} {us : List V} (hB : W.B p = some (.lst us)) (hz : xs.length ≤ sizeLine) (ht : (V.ref p, sItems r xs us) ∈ T)
    (h : Ev te W G T cs fun sl cs1 => sl = sRef p ∧ KI (xs.map r.at) cs1) : EvIB (iList KF te) W G T cs KI := fun s H st R q => by
  refine h s H st _ fun sl cs1 ⟨e, k⟩ v H1 st1 => ?_
  subst e
  obtain ⟨F, c, sg, t⟩ := id st1
  have ev : v = .ref p := t.head
  subst ev
  have hA : All2 (fun x u => r.p x F u) xs us := t _ (List.mem_cons_of_mem _ ht)
  refine ⟨p, rfl, ⟨us, SqL.of (c.bh _ _ hB)⟩, q _ [(V.ref p, sItems r xs us)] _ cs1 k (by rw [List.length_map]; exact hz) (fun B hs => ?_) H1 ⟨F, c, sg, Temps.app (Temps.cons hA Temps.nil) t.tail⟩⟩
  have at_ : ∀ {F H cs}, Core ⟨W.F, B⟩ F cs H → H p = some (.lst us) := fun c => c.bh _ _ (hs _ _ hB)
  refine ⟨fun i F H cs hi c t => ?_, fun i F H cs x H' sl hi c t y => ?_, fun F H cs c t => ?_⟩
  · have h2 : All2 (fun x u => r.p x F u) xs us := t.head
    rw [List.length_map] at hi
    obtain ⟨u, h3, _⟩ := h2.get (List.getElem?_eq_getElem hi)
    exact ⟨us, u, SqL.of (at_ c), h3⟩
  · have h2 : All2 (fun x u => r.p x F u) xs us := t.head
    obtain ⟨e, y⟩ := y
    subst e
    have y' := y us (SqL.of (at_ c))
    rw [List.getElem?_map] at hi
    obtain ⟨z, hz', ez⟩ := h2.get' y'
    rw [hz'] at hi
    cases hi
    exact ⟨F, c, Same.refl F, ez⟩
  · have h2 : All2 (fun x u => r.p x F u) xs us := t.head
    exact ⟨us, SqL.of (at_ c), by rw [List.length_map, ← h2.length]; exact Nat.le_refl _⟩
/-- xs += ys, xs a list in a cell, ys one that stands still -/
theorem s_augL (i j : Nat) {p : Addr} (hi : G[i]? = some (some (sRef p))) (h : Ev te W G T cs fun sl cs1 => ∃ (α : Type) (r : R α) (xs ys zs : List α), sl = (rLst r).at ys ∧ cs1[j]? = some (p, cLst r xs) ∧ oExt xs ys = some zs ∧ NxT nx W (G.set i (some (sRef p))) T (cs1.set j (p, cLst r zs))) :
    NxT (tAug i te rExt2 ⟨nx, rt, bk, ct⟩) W G T cs := fun s H st => by
  obtain ⟨F, c, sg, tm⟩ := id st
  obtain ⟨v, hv, pv⟩ := sg.2 i _ hi
  have ev : v = .ref p := pv
  subst ev
  refine ⟨.ref p, hv, h s H st _ fun sl cs1 ⟨α, r, xs, ys, zs, e, hj, hy, k⟩ vb H1 ⟨F1, c1, sg1, tm1⟩ => ?_⟩
  subst e
  obtain ⟨hz2, b, ws, rfl, hF, hB⟩ := tm1.head
  obtain ⟨hz, us, hH, hA⟩ := c1.lst hj
  obtain ⟨hlt, e⟩ := of_ite hy
  subst e
  exact ⟨p, b, us, ws, rfl, rfl, hH, c1.fh _ _ hF, by rw [← hA.length, ← hB.length]; exact hlt, k _ _ ⟨F1, c1.write hj ⟨by rw [List.length_append]; exact hlt, _, rfl, hA.app hB⟩, sg1.set (sl := sRef p) rfl, tm1.tail⟩⟩
end
end ML

namespace ML
open PySem Spec PyProof.Rows L2
/-! ## a dict of lists: the keys 0, 1, .. ; a list for each -/
def keyed : Nat → List Addr → List (Key × V)
  | _, [] => []
  | i, p :: ps => (Sum.inl (i : Int), V.ref p) :: keyed (i + 1) ps
theorem keyed_app : ∀ (ps : List Addr) (i : Nat) (p : Addr), keyed i (ps ++ [p]) = keyed i ps ++ [(Sum.inl ((i + ps.length : Nat) : Int), V.ref p)]
  | [], i, p => rfl
  | q :: ps, i, p => by
    rw [List.cons_append, keyed, keyed_app ps, keyed, List.cons_append, List.length_cons, show i + 1 + ps.length = i + (ps.length + 1) by omega]
theorem keyed_len : ∀ (ps : List Addr) (i : Nat), (keyed i ps).length = ps.length
  | [], _ => rfl
  | _ :: ps, i => by rw [keyed, List.length_cons, List.length_cons, keyed_len ps]
theorem keyed_val : ∀ (ps : List Addr) (i j : Nat), valV (keyed i ps) (Sum.inl ((i + j : Nat) : Int) : Key) = (ps[j]?).map V.ref
  | [], i, j => rfl
  | p :: ps, i, 0 => valV_pos (p := ((Sum.inl (i : Int) : Key), V.ref p)) rfl
  | p :: ps, i, j + 1 => by
    rw [keyed, valV_neg fun e => by have : (i : Int) = ((i + (j + 1) : Nat) : Int) := Sum.inl.inj e; omega]
    have := keyed_val ps (i + 1) j
    rw [show i + 1 + j = i + (j + 1) by omega] at this
    rw [this]
    rfl
theorem keyed_fresh (ps : List Addr) : valV (keyed 0 ps) (Sum.inl ((ps.length : Nat) : Int) : Key) = none := by
  have := keyed_val ps 0 ps.length
  rw [Nat.zero_add] at this
  rw [this, List.getElem?_eq_none (Nat.le_refl _)]
  rfl
/-- the dict -/
def sDL (ps : List Addr) : Sl := ⟨fun F v => ∃ a od, v = .ref a ∧ F a = some (.frz od (.dK (keyed 0 ps))), fun {_ _ _} e ⟨a, od, h1, h2⟩ => ⟨a, od, h1, e _ _ h2⟩⟩
/-- its lists -/
def DLc : List Addr → List (List Int) → Cells
  | p :: ps, xs :: xss => (p, cLst rInt xs) :: DLc ps xss
  | _, _ => []
theorem DLc_get : ∀ {ps : List Addr} {xss : List (List Int)} {i : Nat} {p : Addr} {xs : List Int}, ps[i]? = some p → xss[i]? = some xs → (DLc ps xss)[i]? = some (p, cLst rInt xs)
  | [], _, _, _, _, h, _ => by simp at h
  | _ :: _, [], _, _, _, _, h => by simp at h
  | p :: ps, xs :: xss, 0, _, _, h1, h2 => by cases h1; cases h2; rfl
  | p :: ps, xs :: xss, i + 1, _, _, h1, h2 => DLc_get (ps := ps) (xss := xss) (i := i) h1 h2
theorem DLc_set : ∀ {ps : List Addr} {xss : List (List Int)} {i : Nat} {p : Addr} (ys : List Int), ps[i]? = some p → (DLc ps xss).set i (p, cLst rInt ys) = DLc ps (xss.set i ys)
  | [], _, _, _, _, h => by simp at h
  | _ :: _, [], _, _, _, _ => rfl
  | p :: ps, xs :: xss, 0, _, ys, h => by cases h; rfl
  | p :: ps, xs :: xss, i + 1, _, ys, h => congrArg _ (DLc_set (ps := ps) (xss := xss) (i := i) ys h)
theorem DLc_more : ∀ {ps : List Addr} {xss : List (List Int)} (p : Addr) (xs : List Int), ps.length = xss.length → DLc (ps ++ [p]) (xss ++ [xs]) = DLc ps xss ++ [(p, cLst rInt xs)]
  | [], [], _, _, _ => rfl
  | [], _ :: _, _, _, h => by cases h
  | _ :: _, [], _, _, h => by cases h
  | q :: ps, ys :: xss, p, xs, h => congrArg _ (DLc_more (ps := ps) (xss := xss) p xs (Nat.succ.inj h))
/-- d[k].append(x), n lists -/
def oDApp (n : Nat) (xss : List (List Int)) (k x : Int) : Option (List (List Int)) :=
  if xss.length = n ∧ 0 ≤ k ∧ k < n then (match xss[k.toNat]? with | some xs => (match oApp xs x with | some ys => some (xss.set k.toNat ys) | none => none) | none => none) else none
def enumD : Nat → List (List Int) → List (Int × List Int)
  | _, [] => []
  | i, xs :: xss => ((i : Int), xs) :: enumD (i + 1) xss
theorem enumD_len : ∀ (xss : List (List Int)) (i : Nat), (enumD i xss).length = xss.length
  | [], _ => rfl
  | _ :: xss, i => by rw [enumD, List.length_cons, List.length_cons, enumD_len xss]
/-- the dict, standing still from here on -/
def oDStill (n : Nat) (xss : List (List Int)) : Option (List (Int × List Int)) := if xss.length = n ∧ n ≤ 1000 then some (enumD 0 xss) else none
section
variable {nx bk ct : L2.St → Hp → Prop} {rt : VK}
variable {W : Wd} {G : Gam} {T : Tms} {cs : Cells} {K : Sl → Cells → Prop} {KF : PySem.W.Frag}
theorem e_dgetL {td tk : TE} {ps : List Addr} (ha : Ev td W G T cs fun sa cs1 => sa = sDL ps ∧ ∀ va, Ev tk W G ((va, sa) :: T) cs1 fun sb cs2 => ∃ (j : Nat) (p : Addr), sb = rInt.at (j : Int) ∧ ps[j]? = some p ∧ K (sRef p) cs2) : Ev (tDGet td tk) W G T cs K := fun s H st Q q => by
  refine ha s H st _ fun sa cs1 ⟨e1, h1⟩ va H1 st1 => ?_
  subst e1
  refine h1 va s H1 st1 _ fun sb cs2 ⟨j, p, e2, hp, k⟩ vb H2 ⟨F, c, sg, tm⟩ => ?_
  subst e2
  obtain ⟨a, od, rfl, hF⟩ := tm.tail.head
  have eb : vb = .int (j : Int) := tm.head
  subst eb
  have hv := keyed_val ps 0 j
  rw [Nat.zero_add, hp] at hv
  exact ⟨a, .ref p, rfl, .inl ⟨keyed 0 ps, Sum.inl (j : Int), .inr ⟨od, c.fh _ _ hF⟩, rfl, hv.symm⟩, q _ _ k _ H2 ⟨F, c, sg, tm.tail.tail.cons rfl⟩⟩
theorem e_dlApp (a b c : Nat) {n : Nat} {ps : List Addr} {xss xss' : List (List Int)} {i x : Int} (hps : ps.length = n) (h : oDApp n xss i x = some xss') (ha : G[a]? = some (some (sDL ps))) (hb : G[b]? = some (some (rInt.at i))) (hc : G[c]? = some (some (rInt.at x)))
    (k : K (rNon.at ()) (DLc ps xss')) : Ev (tBM KF "list" rAppend (tDGet (tVar a) (tVar b)) (tCons (tVar c) tNil)) W G T (DLc ps xss) K := by
  obtain ⟨⟨h1, h2, h3⟩, h4⟩ : (xss.length = n ∧ 0 ≤ i ∧ i < n) ∧ (match xss[i.toNat]? with | some xs => (match oApp xs x with | some ys => some (xss.set i.toNat ys) | none => none) | none => none) = some xss' := by
    unfold oDApp at h
    split at h
    · rename_i hc; exact ⟨hc, h⟩
    · cases h
  obtain ⟨j, rfl⟩ := Int.eq_ofNat_of_zero_le h2
  rw [Int.toNat_natCast] at h4
  have hj : j < ps.length := by omega
  have hx : j < xss.length := by omega
  rw [List.getElem?_eq_getElem hx] at h4
  dsimp only at h4
  cases e : oApp xss[j] x with
  | none => rw [e] at h4; cases h4
  | some ys =>
    rw [e] at h4
    cases h4
    have gp := List.getElem?_eq_getElem hj
    have gx := List.getElem?_eq_getElem hx
    refine e_append j (e_dgetL (ps := ps) (e_var ha ⟨rfl, fun _ => e_var hb ⟨j, _, rfl, gp, _, _, rInt, _, rfl, DLc_get gp gx, fun _ => ea_cons (e_var hc fun _ => ea_nil ⟨_, _, x, rfl, DLc_get gp gx, e, ?_⟩)⟩⟩))
    rw [DLc_set ys gp]
    exact k
/-- all lists stand still -/
theorem Core.stillL : ∀ {ps : List Addr} {xss : List (List Int)} {F H : Hp}, ps.length = xss.length → Core W F (DLc ps xss) H → ∃ F', Same F F' ∧ Core W F' [] H ∧ All2 (fun xs p => (rLst rInt).p xs F' (.ref p)) xss ps
  | [], [], F, H, _, c => ⟨F, Same.refl F, c, .nil⟩
  | [], _ :: _, _, _, h, _ => by cases h
  | _ :: _, [], _, _, h, _ => by cases h
  | p :: ps, xs :: xss, F, H, h, c => by
    obtain ⟨o, F1, h1, ⟨hz, us, e, h2⟩, h3, sF, c1⟩ := c.freeze (j := 0) (p := p) (c := cLst rInt xs) rfl
    subst e
    obtain ⟨F2, s2, c2, a2⟩ := Core.stillL (ps := ps) (xss := xss) (Nat.succ.inj h) c1
    exact ⟨F2, sF.trans s2, c2, .cons ⟨hz, p, us, rfl, s2 _ _ h3, h2.imp fun _ _ q => rInt.mono s2 q⟩ a2⟩
theorem rows_keyed {F : Hp} : ∀ {xss : List (List Int)} {ps : List Addr} (i : Nat), All2 (fun xs p => (rLst rInt).p xs F (.ref p)) xss ps → All2 (Row (rLst rInt) F) (enumD i xss) (keyed i ps)
  | _, _, _, .nil => .nil
  | _, _, i, .cons h t => .cons ⟨rfl, h⟩ (rows_keyed (i + 1) t)
theorem s_retDL (a : Nat) {n : Nat} {ps : List Addr} {xss : List (List Int)} {d : List (Int × List Int)} (ha : G[a]? = some (some (sDL ps))) (hps : ps.length = n) (h : oDStill n xss = some d) (k : Rt rt W ((rDic (rLst rInt)).at d) []) : NxT (tRet (tVar a) ⟨nx, rt, bk, ct⟩) W G T (DLc ps xss) := fun s H st => by
  obtain ⟨⟨h1, h2⟩, e⟩ := of_ite h
  subst e
  obtain ⟨F, c, sg, t⟩ := st
  obtain ⟨v, hv, aa, od, ev, hF⟩ := sg.2 a _ ha
  subst ev
  obtain ⟨F', sF, c', al⟩ := c.stillL (by omega)
  exact ⟨_, hv, k _ H ⟨F', c', by rw [enumD_len, sizeLine_eq]; omega, aa, od, _, rfl, sF _ _ hF, rows_keyed 0 al⟩⟩
def oRangeN (j : Int) : Option Nat := if small62 0 ∧ small62 j ∧ (j - 0).toNat ≤ sizeLine then some j.toNat else none
theorem i_rangeN {t : TA} {j : Int} {n : Nat} {KI : List Sl → Cells → Prop} (h : oRangeN j = some n) (ha : EvA t W G T cs fun sls cs1 => sls = [rInt.at j] ∧ KI ((rangeI 0 (n : Int)).map rInt.at) cs1) : EvI (iRng1 t) W G T cs KI := by
  obtain ⟨h1, e⟩ := of_ite h
  refine i_range1 fun s H st Q q => ha s H st Q fun sls cs1 ⟨e1, k⟩ => q sls cs1 ⟨j, rangeI 0 j, e1, if_pos h1, ?_⟩
  have : rangeI 0 (n : Int) = rangeI 0 j := by
    subst e
    unfold rangeI
    rw [show ((j.toNat : Int) - 0).toNat = (j - 0).toNat by omega]
  rw [← this]
  exact k
/-- {k: [] for k in range(n)} -/
theorem dl_new {wi : TI} {i0 : Nat} {vs : List Nat} (hvs : i0 ∈ vs) (hG : i0 < G.length) {n : Nat} (h : EvI wi W G T [] fun items cs1 => items = (rangeI 0 (n : Int)).map rInt.at ∧ cs1 = [] ∧ ∀ ps, ps.length = n → K (sDL ps) (DLc ps (List.replicate n []))) :
    Ev (tFrz (tDc wi (gName i0) tYes (tVar i0) (tLst tNil) vs)) W G T [] K := fun s H st Q q => by
  refine h s H st _ fun J T0 items cs1 ⟨e1, e2, k⟩ hsz wk H1 ⟨F1, c1, sg1, t1⟩ => ?_
  subst e1 e2
  have ln : ((rangeI 0 (n : Int)).map rInt.at).length = n := by rw [List.length_map, len_rangeI]; omega
  rw [ln] at hsz
  intro Dp hD
  let cK : List Addr → Cl := fun ps => ⟨fun _ o => o = .dK (keyed 0 ps), fun {_ _ _} _ h => h⟩
  refine ⟨fun i m H => i + m = n ∧ ∃ (ps : List Addr), ps.length = i ∧ ∃ F, Core W F (DLc ps (List.replicate i []) ++ [(Dp, cK ps)]) H ∧ Slots F G s ∧ Temps F (T0 ++ T), ⟨n, by omega, [], rfl, F1, c1.newCell hD rfl, sg1, t1⟩, ?_⟩
  rintro i m H ⟨em, ps, hps, F, c, sg, t⟩
  by_cases hi : i < n
  · refine .inr ⟨(wk W.B).go i F H _ (by rw [ln]; exact hi) c t.left, ?_⟩
    refine ⟨_, fun H' hN => hN, fun x H' yy => ?_⟩
    have hx : ((rangeI 0 (n : Int)).map rInt.at)[i]? = some (rInt.at (i : Int)) := by
      unfold rangeI
      rw [List.getElem?_map, List.getElem?_map, List.getElem?_range (by omega)]
      show some (rInt.at (0 + (i : Int))) = _
      rw [Int.zero_add]
    obtain ⟨F', c', sF, px⟩ := (wk W.B).yld i F H _ x H' _ hx c t.left yy
    have ex : x = .int (i : Int) := px
    subst ex
    have hlen : (wipe s vs).length = G.length := (wipe_length s vs).trans sg.1
    refine ⟨by rw [wipe_set _ _ _ _ hvs, wipe_wipe], ?_⟩
    dsimp only [tYes]
    rw [if_pos rfl]
    have at_ : ((wipe s vs).set i0 (some (V.int (i : Int))))[i0]? = some (some (V.int (i : Int))) := List.getElem?_set_self (by rw [hlen]; exact hG)
    refine ⟨.int (i : Int), at_, ?_⟩
    refine ⟨by decide, fun p hp => ?_⟩
    obtain ⟨_, _, o5, d5, e5⟩ := c'.cell (Dp, cK ps) (List.mem_append_right _ (by simp))
    have e5 : o5 = .dK (keyed 0 ps) := e5
    subst e5
    have pD : p ≠ Dp := fun e => by rw [e, d5] at hp; cases hp
    refine ⟨keyed 0 ps, Sum.inl (i : Int), rfl, by rw [upd_ne (Ne.symm pD)]; exact d5, by rw [keyed_len]; omega, m - 1, by omega, by omega, ps ++ [p], by rw [List.length_append, hps]; rfl, ?_⟩
    have c6 := c'.newCell (c := cLst rInt []) (o := .lst []) hp ⟨Nat.zero_le _, [], rfl, .nil⟩
    have c7 := c6.perm (cs' := DLc ps (List.replicate i []) ++ [(p, cLst rInt [])] ++ [(Dp, cK ps)]) (by
      rw [List.append_assoc, List.append_assoc]
      exact (List.Perm.refl _).append (List.Perm.swap _ _ _))
    have e8 : DLc (ps ++ [p]) (List.replicate (i + 1) []) = DLc ps (List.replicate i []) ++ [(p, cLst rInt [])] := by
      rw [List.replicate_succ']
      exact DLc_more p [] (by rw [hps, List.length_replicate])
    rw [← e8] at c7
    have c9 := c7.write (c' := cK (ps ++ [p])) (o := .dK (putK (keyed 0 ps) (Sum.inl (i : Int)) (.ref p))) (j := (DLc (ps ++ [p]) (List.replicate (i + 1) [])).length) (p := Dp) (c := cK ps) (by simp) (by
      show HO.dK _ = HO.dK _
      rw [← hps, putK_new _ (keyed_fresh ps), keyed_app, Nat.zero_add])
    rw [show (DLc (ps ++ [p]) (List.replicate (i + 1) []) ++ [(Dp, cK ps)]).set (DLc (ps ++ [p]) (List.replicate (i + 1) [])).length (Dp, cK (ps ++ [p])) = DLc (ps ++ [p]) (List.replicate (i + 1) []) ++ [(Dp, cK (ps ++ [p]))] by simp [List.set_append]] at c9
    exact ⟨F', c9, sg.mono sF, t.mono sF⟩
  · have ei : i = n := by omega
    subst ei
    refine .inl ⟨?_, ?_⟩
    · have := (wk W.B).stop F H _ c t.left
      rwa [ln] at this
    · obtain ⟨d1, d2, o5, d3, e5⟩ := c.cell (Dp, cK ps) (List.mem_append_right _ (by simp))
      have e5 : o5 = .dK (keyed 0 ps) := e5
      subst e5
      refine ⟨Dp, .dK (keyed 0 ps), rfl, d3, True.intro, fun od => ?_⟩
      let cl' : Cl := ⟨fun _ o => o = .frz od (.dK (keyed 0 ps)), fun {_ _ _} _ h => h⟩
      have cw := c.write (c' := cl') (o := .frz od (.dK (keyed 0 ps))) (j := (DLc ps (List.replicate i [])).length) (p := Dp) (c := cK ps) (by simp) rfl
      obtain ⟨o6, F6, g1, g2, g4, sF6, c7⟩ := cw.freeze (j := (DLc ps (List.replicate i [])).length) (p := Dp) (c := cl') (by simp)
      have g2 : o6 = .frz od (.dK (keyed 0 ps)) := g2
      subst g2
      have ec : ((DLc ps (List.replicate i []) ++ [(Dp, cK ps)]).set (DLc ps (List.replicate i [])).length (Dp, cl')).eraseIdx (DLc ps (List.replicate i [])).length = DLc ps (List.replicate i []) := by
        simp [List.set_append, List.eraseIdx_append]
      rw [ec] at c7
      exact q _ _ (k ps hps) _ _ ⟨F6, c7, sg.mono sF6, (t.right.mono sF6).cons ⟨Dp, od, rfl, g4⟩⟩
end
end ML

namespace ML
open PySem Spec PyProof.Rows L2
section
variable {nx bk ct : L2.St → Hp → Prop} {rt : VK}
variable {W : Wd} {G : Gam} {T : Tms} {cs : Cells} {K : Sl → Cells → Prop} {KF : PySem.W.Frag} {te ta tb : TE} {tt : TT}
/-- a dict in a cell stands still from here on: it is locked -/
theorem e_frzC (j : Nat) (h : Ev te W G T cs fun sa cs1 => ∃ (α : Type) (p : Addr) (r : R α) (xs : List (Int × α)), sa = sRef p ∧ cs1[j]? = some (p, cDic r xs) ∧ K ((rDic r).at xs) (cs1.eraseIdx j)) : Ev (tFrz te) W G T cs K := fun s H st Q q => by
  refine h s H st _ fun sa cs1 ⟨α, p, r, xs, e, hj, k⟩ va H1 ⟨F, c, sg, tm⟩ => ?_
  subst e
  have ev : va = .ref p := tm.head
  subst ev
  obtain ⟨hz, kvs, hH, hA⟩ := c.dic hj
  refine ⟨p, .dK kvs, rfl, hH, True.intro, fun od => ?_⟩
  let cl' : Cl := ⟨fun F o => o = .frz od (.dK kvs) ∧ All2 (Row r F) xs kvs, fun {_ _ _} e ⟨h1, h2⟩ => ⟨h1, rows_mono e h2⟩⟩
  have cw := c.write (c' := cl') (o := .frz od (.dK kvs)) hj ⟨rfl, hA⟩
  have hj' : (cs1.set j (p, cl'))[j]? = some (p, cl') := List.getElem?_set_self (List.getElem?_eq_some_iff.mp hj).1
  obtain ⟨o6, F6, g1, ⟨g2, g3⟩, g4, sF6, c7⟩ := cw.freeze hj'
  subst g2
  rw [List.eraseIdx_set_eq] at c7
  exact q _ _ k _ _ ⟨F6, c7, sg.mono sF6, (tm.tail.mono sF6).cons ⟨hz, p, od, kvs, rfl, g4, g3⟩⟩
/-- xs if c else ys, both new lists -/
theorem e_ifC {α : Type} {c : Bool} (r : R α) {xs ys : List α} (h : Et tt W G T cs fun b cs1 => b = c ∧ (c = true → Ev ta W G T cs1 fun sl cs' => ∃ p, sl = sRef p ∧ cs' = cs ++ [(p, cLst r xs)]) ∧ (c = false → Ev tb W G T cs1 fun sl cs' => ∃ p, sl = sRef p ∧ cs' = cs ++ [(p, cLst r ys)]))
    (k : ∀ p, K (sRef p) (cs ++ [(p, cLst r (bif c then xs else ys))])) : Ev (tIf tt ta tb) W G T cs K := fun s H st Q q => by
  refine h s H st _ fun b cs1 ⟨e, k1, k2⟩ H1 st1 => ?_
  subst e
  cases b with
  | true =>
    rw [if_pos rfl]
    exact k1 rfl s H1 st1 Q fun sl cs' ⟨p, e1, e2⟩ v H' st' => by subst e1 e2; exact q _ _ (k p) v H' st'
  | false =>
    rw [if_neg Bool.false_ne_true]
    exact k2 rfl s H1 st1 Q fun sl cs' ⟨p, e1, e2⟩ v H' st' => by subst e1 e2; exact q _ _ (k p) v H' st'
/-- d[i], e[j] = u, w -/
theorem s_dput2 (a b k1 k2 j1 j2 : Nat) {pa pb : Addr} {x1 x2 : Int} {t : TA} (ha : G[a]? = some (some (sRef pa))) (hk1 : G[k1]? = some (some (rInt.at x1))) (hb : G[b]? = some (some (sRef pb))) (hk2 : G[k2]? = some (some (rInt.at x2)))
    (h : EvA t W G T cs fun sls cs1 => ∃ (α β : Type) (r : R α) (q : R β) (u : α) (w : β) (xs xs' : List (Int × α)) (ys ys' : List (Int × β)), sls = [r.at u, q.at w] ∧ cs1[j1]? = some (pa, cDic r xs) ∧ oPut xs x1 u = some xs' ∧ (cs1.set j1 (pa, cDic r xs'))[j2]? = some (pb, cDic q ys) ∧ oPut ys x2 w = some ys' ∧
      NxT nx W G T ((cs1.set j1 (pa, cDic r xs')).set j2 (pb, cDic q ys'))) :
    NxT (tAsg (tTup t) (gTup KF 2 (gCons (gSub (tVar a) (tVar k1) rSetD) (gCons (gSub (tVar b) (tVar k2) rSetD) gNil))) ⟨nx, rt, bk, ct⟩) W G T cs := fun s H st => by
  refine h s H st _ fun sls cs1 ⟨α, β, r, q, u, w, xs, xs', ys, ys', e, h1, h2, h3, h4, k⟩ vs H1 ⟨F, c, sg, tm, ar⟩ => ?_
  subst e
  obtain ⟨v1, v2, rfl, p1, p2⟩ : ∃ v1 v2, vs = [v1, v2] ∧ r.p u F v1 ∧ q.p w F v2 := by
    cases ar with
    | cons a1 t1 => cases t1 with
      | cons a2 t2 => cases t2; exact ⟨_, _, rfl, a1, a2⟩
  refine ⟨by rw [sizeLine_eq]; show 2 ≤ _; decide, fun p hp => ?_⟩
  have sF : Same F (upd F p (.tup [v1, v2])) := same_upd (c.fh.free hp)
  have c1 := c.new (o := .tup [v1, v2]) hp
  have sg1 := sg.mono sF
  refine ⟨p, [v1, v2], rfl, SqT.of upd_same, rfl, v1, [v2], rfl, ?_⟩
  obtain ⟨_, g1, e1⟩ := sg1.2 a _ ha
  obtain ⟨_, g2, e2⟩ := sg1.2 k1 _ hk1
  obtain ⟨_, g3, e3⟩ := sg1.2 b _ hb
  obtain ⟨_, g4, e4⟩ := sg1.2 k2 _ hk2
  have e1 : _ = V.ref pa := e1
  have e2 : _ = V.int x1 := e2
  have e3 : _ = V.ref pb := e3
  have e4 : _ = V.int x2 := e4
  subst e1 e2 e3 e4
  obtain ⟨hl, e5⟩ := of_ite h2
  subst e5
  obtain ⟨hz, kvs, hH, hA⟩ := c1.dic h1
  refine ⟨_, g1, _, g2, pa, _, rfl, .inl ⟨kvs, Sum.inl x1, hH, rfl, by rw [← hA.length]; exact hl, rfl⟩, ?_⟩
  have c2 := c1.write (c' := cDic r (putD xs x1 u)) (o := .dK (putK kvs (Sum.inl x1) v1)) h1 ⟨by have := len_putD xs x1 u; omega, _, rfl, rows_put (r.mono sF p1) hA⟩
  obtain ⟨hl2, e6⟩ := of_ite h4
  subst e6
  obtain ⟨hz2, kvs2, hH2, hA2⟩ := c2.dic h3
  refine ⟨v2, [], rfl, _, g3, _, g4, pb, _, rfl, .inl ⟨kvs2, Sum.inl x2, hH2, rfl, by rw [← hA2.length]; exact hl2, rfl⟩, rfl, ?_⟩
  have c3 := c2.write (c' := cDic q (putD ys x2 w)) (o := .dK (putK kvs2 (Sum.inl x2) v2)) h3 ⟨by have := len_putD ys x2 w; omega, _, rfl, rows_put (q.mono sF p2) hA2⟩
  exact k s _ ⟨_, c3, sg1, tm.mono sF⟩
/-- k not in d -/
theorem e_dnotinC {td tk : TE} (j : Nat) (ha : Ev tk W G T cs fun sa cs1 => ∀ va, Ev td W G ((va, sa) :: T) cs1 fun sb cs2 => ∃ (α : Type) (p : Addr) (r : R α) (xs : List (Int × α)) (i : Int), sa = rInt.at i ∧ sb = sRef p ∧ cs2[j]? = some (p, cDic r xs) ∧ K (rBool.at (!(gotD xs i).isSome)) cs2) :
    Ev (tDNotIn tk td) W G T cs K := fun s H st Q q => by
  refine ha s H st _ fun sa cs1 h1 va H1 st1 => ?_
  refine h1 va s H1 st1 _ fun sb cs2 ⟨α, p, r, xs, i, e1, e2, hj, k⟩ vb H2 ⟨F, c, sg, tm⟩ => ?_
  subst e1 e2
  have ea : va = .int i := tm.tail.head
  have eb : vb = .ref p := tm.head
  subst ea eb
  obtain ⟨_, kvs, hH, hA⟩ := c.dic hj
  refine ⟨p, valV kvs (Sum.inl i), rfl, .inl ⟨kvs, Sum.inl i, .inl hH, rfl, rfl⟩, q _ _ k _ H2 ⟨F, c, sg, tm.tail.tail.cons ?_⟩⟩
  rcases rows_val i hA with ⟨z1, z2⟩ | ⟨y, v, z1, z2, pv⟩
  · rw [z1, z2]; rfl
  · rw [z1, z2]; rfl
/-- xs[::-1], xs a list that stands still -/
theorem e_revL (h : Ev te W G T cs fun sl cs1 => ∃ (α : Type) (r : R α) (xs : List α), sl = (rLst r).at xs ∧ K ((rLst r).at xs.reverse) cs1) : Ev (tRevL KF te) W G T cs K := fun s H st Q q => by
  refine h s H st _ fun sl cs1 ⟨α, r, xs, e, k⟩ va H1 ⟨F, c, sg, tm⟩ => ?_
  subst e
  obtain ⟨hz, a, us, rfl, hF, hA⟩ := tm.head
  refine ⟨a, us, rfl, SqL.of (c.fh _ _ hF), fun p hp => ?_⟩
  have sF : Same F (upd F p (.lst us.reverse)) := same_upd (c.fh.free hp)
  have rev : ∀ {xs : List α} {us : List V}, All2 (fun x u => r.p x F u) xs us → All2 (fun x u => r.p x F u) xs.reverse us.reverse := fun {xs us} h => by
    induction h with
    | nil => exact .nil
    | cons p q ih =>
      rw [List.reverse_cons, List.reverse_cons]
      exact ih.app (.cons p .nil)
  exact q _ _ k _ _ ⟨_, c.new hp, sg.mono sF, (tm.tail.mono sF).cons ⟨by rw [List.length_reverse]; exact hz, p, _, rfl, upd_same, (rev hA).imp fun _ _ z => r.mono sF z⟩⟩
/-- isinstance(None or a tuple, tuple) -/
theorem e_isiOT {t : TA} (h : EvA t W G T cs fun sls cs1 => ∃ (α : Type) (r : R α) (x : Option (List α)), sls = [(rOpt (rTup r)).at x, ⟨fun _ v => v = .ty "tuple", fun _ h => h⟩] ∧ K (rBool.at x.isSome) cs1) : Ev (tCB (rIsi KF) t) W G T cs K := fun s H st Q q => by
  refine h s H st _ fun sls cs1 ⟨α, r, x, e1, k⟩ vs H1 ⟨F, cc, sg, tm, ar⟩ => ?_
  subst e1
  obtain ⟨v, w, rfl, p1, p2⟩ := args2' ar
  have ew : w = .ty "tuple" := p2
  subst ew
  cases x with
  | none => exact ⟨v, _, _, _, false, rfl, .ty "tuple", tyNon.ty (a := ()) p1 cc.fh, by first | rfl | decide +kernel, q _ _ k _ H1 ⟨F, cc, sg, tm.cons rfl⟩⟩
  | some y => exact ⟨v, _, _, _, true, rfl, .ty "tuple", (tyTup (r := r)).ty p1 cc.fh, by first | rfl | decide +kernel, q _ _ k _ H1 ⟨F, cc, sg, tm.cons rfl⟩⟩
end
end ML

namespace ML
open PySem Spec PyProof.Rows L2 StX
/-! ## set(xs), xs a list of ints -/
section
variable {P : Program} {w : World} {A : Around} {E : Value → Shared → Prop} {s : Shared}
theorem s_initI {l : Addr} {items : Array Value} (ns : List Int) {Q : Value → Shared → Prop} (hh : A.handled = none) (hl : s.heap.IsList l items) (hit : IntsAre items.toList ns) (few : ns.length + 1 < scanBound)
    (q : ∀ (h' : Heap) (tk c : Nat), SetR w h' s.heap.objs.size (fun j => decide (j ∈ ns)) c → c ≤ ns.length → (∀ b o, s.heap.get? b = some o → h'.get? b = some o) → Q (.ref s.heap.objs.size) { s with heap := h', toks := tk }) :
    wpAny (model P w) A (call (.type "set") [.ref l]) Q E s := by
  have isz : items.size = ns.length := by rw [← Array.length_toList, IntsAre.length hit]
  have C := PySem.F.called_set
  obtain ⟨c, tl, hmro⟩ := C.mro
  have hmade := C.made
  have hsub := C.sub
  refine wpAny_call (codeAny_of_tree ?_)
  show wpAny _ _ (callAny (.type "set") _) _ _ _
  refine wpAny_pure ⟨Code.quiet_builtin _ (by decide +kernel), codeAny_builtin F.entry_type_call ?_⟩
  rw [Around.under_plain (weight_type_call_type "set" [.ref l] []) rfl]
  have h1 := C.notType
  have h2 := C.canCreate
  have hct := F.typeCall_set_1 (.ref l)
  repeat (any_goals (first | assumption | wp_step))
  refine codeAny_mono (code_set_led1 (.ref l) (E := E) (Q₁ := fun obj s₁ => obj = .ref s.heap.objs.size ∧ s₁ = { s with heap := s.heap.push (set0 w) }) ⟨rfl, rfl⟩) fun r s₁ hr => ?_
  match r, hr with
  | .error e, hr => exact hr
  | .ok .next, hr => exact hr.elim
  | .ok .brk, hr => exact hr.elim
  | .ok .cont, hr => exact hr.elim
  | .ok (.ret _), hr =>
    obtain ⟨rfl, rfl⟩ := hr
    have at0 : (s.heap.push (set0 w)).get? s.heap.objs.size = some (set0 w) := Heap.get?_push_size _ rfl
    have hT : Shared.TypeIs { s with heap := s.heap.push (set0 w) } (.ref s.heap.objs.size) "set" := ⟨_, at0, rfl⟩
    have hli := C.init.lookup
    have hbi := C.init.bind (.ref s.heap.objs.size)
    repeat (any_goals (first | assumption | wp_step))
    refine codeAny_mono (codeAny_call_builtin (R := wants (fun r s₂ => r = .none ∧ ∃ h' tk c, s₂ = { s with heap := h', toks := tk } ∧ SetR w h' s.heap.objs.size (fun j => decide (j ∈ ns)) c ∧ c ≤ ns.length ∧
        (∀ b o, s.heap.get? b = some o → h'.get? b = some o)) E) C.init.plain F.entry_set_init (check_set_init_1 hT ?_)) fun r₂ s₂ hr₂ => ?_
    · have hl' := hl
      obtain ⟨⟨ocls, odict, odata, oslots⟩, hol, hcl, nl, hdl⟩ := hl'
      simp only at hcl hdl
      subst hcl hdl
      have hol' : (s.heap.push (set0 w)).get? l = some { cls := .type "list", dict := odict, data := .seq items nl, slots := oslots } := Heap.get?_push_of_some _ hol
      have sub1 := F.sub_list_set
      have sub2 := F.sub_list_frozenset
      have ne : (Value.type "list" == Value.type "dict") = false := by decide
      have hl1 : (s.heap.push (set0 w)).IsList l items := ⟨_, hol', rfl, nl, rfl⟩
      have lt : l < s.heap.objs.size := Heap.lt_size hol
      unfold Builtin.«set.__init__» noKeywords Builtin.Frozenset.updateFrom
      generalize hPI : pyIter = PI
      wp_walk
      subst hPI
      refine wpAny_pyIter_list hl1 (wpAny_bind (wpAny_runValue ?_))
      have hh3 : A.in1.in1.in1.handled = none := by simp [hh]
      have ps : (s.heap.push (set0 w)).objs.size = s.heap.objs.size + 1 := Heap.size_push ..
      have lI : l ≠ (s.heap.push (set0 w)).objs.size := by rw [ps]; exact Nat.ne_of_lt (Nat.lt_succ_of_lt lt)
      have out : s.heap.objs.size ∉ [(s.heap.push (set0 w)).objs.size, l] := by
        rw [ps]
        simp only [List.mem_cons, List.mem_singleton, List.not_mem_nil, or_false, not_or]
        exact ⟨Nat.ne_of_lt (Nat.lt_succ_self _), Nat.ne_of_gt lt⟩
      have val : ∀ (i : Nat) (v : Value), items[i]? = some v → ∃ z t, ns[i]? = some z ∧ v = .int z t := fun i v hv => by
        have lt : i < ns.length := isz ▸ (Array.getElem?_eq_some_iff.mp hv).1
        obtain ⟨t, e⟩ := IntsAre.int_at hit i v ((Array.getElem?_toList ..).trans hv)
        exact ⟨_, t, List.getElem?_eq_getElem lt, by rw [e, List.getD_eq_getElem?_getD, List.getElem?_eq_getElem lt]; rfl⟩
      refine set_update_ints ((Walks.list hh3 _ l lI items).toS) s.heap.objs.size out ns isz few val
        (items.size - 0) 0 _ (by omega) (Nat.zero_le _) ⟨⟨_, Heap.get?_push_size _ rfl, rfl, rfl⟩, (hl1.push _)⟩ ?start ?fin
      case start => exact ⟨0, Nat.le_refl 0, setR_new_at (Heap.get?_push_of_some _ at0)⟩
      case fin =>
        intro s' c' hm hc' hS'
        obtain ⟨h', g2, d', tk', os'⟩ := s'
        obtain rfl : g2 = s.gens := hm.gens
        obtain rfl : d' = s.drawn := hm.drawn
        obtain rfl : os' = s.os := hm.os
        rw [isz] at hc'
        refine wpAny_pure (wpAny_pure ⟨rfl, h', tk', c', rfl, hS', hc', fun b o e => ?_⟩)
        have b0 : b < s.heap.objs.size := Heap.lt_size e
        refine hm.heap b o (fun hb => ?_) (Heap.get?_push_of_some _ (Heap.get?_push_of_some _ e))
        rcases List.mem_cons.mp hb with z | z
        · exact absurd z (Nat.ne_of_lt b0)
        · exact absurd ((List.mem_singleton.mp z).trans ps) (Nat.ne_of_lt (Nat.lt_succ_of_lt b0))
    · match r₂, hr₂ with
      | .error e, hr => exact hr
      | .ok .next, hr => exact hr.elim
      | .ok .brk, hr => exact hr.elim
      | .ok .cont, hr => exact hr.elim
      | .ok (.ret _), hr =>
        obtain ⟨rfl, h', tk, c, rfl, R, le, kp⟩ := hr
        repeat (any_goals (first | assumption | wp_step))
        exact q _ _ _ R le kp
end
/-! ## sorted(set(xs)), xs a list of ints -/
def tSortSetL (K : PySem.W.Frag) (ta : TE) : TE := fun σ H Q => ta σ H fun x H1 => ∃ (l : Addr) (ns : List Int), x = .ref l ∧ SqL K H1 l (ns.map V.int) ∧ ns.length < 64 ∧
  ∀ (ms : List Int) (p : Addr), ms.Pairwise (· < ·) → (∀ k, k ∈ ms ↔ k ∈ ns) → H1 p = none → Q (.ref p) (upd H1 p (.lst (ms.map V.int)))
theorem pe_sortSetL {X : Cx} {a : Expr} {ta : TE} {p p2 q pos : Pos} (hc : X.calm = true) (hg : Gl X "sorted") (hm : X.mg "sorted" = none) (hg2 : Gl X "set") (hm2 : X.mg "set" = none) (ha : PE X a ta)
    (na : starEach [a] X.env = (false, eval a X.env) :: starEach [] X.env := by rfl) : PE X (.Call (.Name "sorted" p) [.Call (.Name "set" p2) [a] [] q] [] pos) (tSortSetL X.K ta) := by
  refine ⟨fun pins s σ H Q I h => ?_⟩
  refine Call_ (ld_blt I hg hm boot_sorted' ?_)
  refine PyProof.Rows.callWith_builtin1 (PyProof.Rows.args_cons ?_ rfl) rfl rfl
  refine Call_ (ld_blt I hg2 hm2 PyProof.Rows.boot_set ?_)
  refine PyProof.Rows.callWith_type1 (PyProof.Rows.args_cons (thn (ha.run pins s σ H _ I h) fun v s1 ⟨x, H1, I1, r1, q1⟩ => PyProof.Rows.args_nil ?_) na) na rfl
  obtain ⟨l, ns, rfl, hq, few, q1⟩ := q1
  cases r1
  obtain ⟨its, r, pl, hz⟩ := I1.list hq
  refine s_initI ns (I1.ok.hd hc) pl.isList (by simpa using RZ.intsAre_vals r) (by unfold scanBound; omega) fun h' tk c hS hcn kp => ?_
  refine PyProof.Rows.args_nil ?_
  have I2 : Inv X pins σ H1 { s1 with heap := h', toks := tk } := I1.kept kp
  refine sorted_set (s := { s1 with heap := h', toks := tk }) hS (I1.ok.hd hc) (by omega) fun s' p out c2 ms k2 g2 o2 hp hg hi hs hm hl => ?_
  have hn : H1 p = none := I2.hok.fresh hp
  have hlen : (ms.map V.int).length ≤ sizeLine := by rw [List.length_map, hl, sizeLine_eq]; omega
  have J := I2.call (h' := s'.heap) (g' := s'.gens) (d' := s'.drawn) (t' := s'.toks) (H' := upd H1 p (.lst (ms.map V.int))) (ch := []) (Un.laid k2 hp hn) (I2.hok.laid k2 hp ⟨hlen, out.toList, c2, vals_of_ints hi, hg⟩) (by rw [g2]; exact I2.bare) (fun _ z => nomatch z)
  have e : s' = { s1 with heap := s'.heap, gens := s'.gens, drawn := s'.drawn, toks := s'.toks } := by
    cases s'
    cases s1
    cases o2
    rfl
  rw [e]
  exact ⟨.ref p, _, J, rfl, q1 ms p hs (fun k => by rw [hm k, decide_eq_true_eq]) hn⟩
theorem SI_len (ns : List Int) : (SI ns).length ≤ ns.length := by
  unfold SI
  rw [List.length_mergeSort]
  have : ∀ xs : List Int, (dis xs).length ≤ xs.length := fun xs => by
    induction xs with
    | nil => exact Nat.le_refl _
    | cons x xs ih =>
      unfold dis
      split
      · exact Nat.le_succ_of_le ih
      · exact Nat.succ_le_succ ih
  exact this ns
section
variable {W : Wd} {G : Gam} {T : Tms} {cs : Cells} {K : Sl → Cells → Prop} {ta : TE} {KF : PySem.W.Frag}
theorem e_sortSL_I (ha : Ev ta W G T cs fun sa cs1 => ∃ ns z, sa = (rLst rInt).at ns ∧ oSortI ns = some z ∧ K ((rLst rInt).at z) cs1) : Ev (tSortSetL KF ta) W G T cs K := fun s H st Q q => by
  refine ha s H st _ fun sa cs1 ⟨ns, z, e1, ho, k⟩ va H1 ⟨F, c, sg, tm⟩ => ?_
  subst e1
  obtain ⟨few, ez⟩ := of_ite ho
  subst ez
  obtain ⟨hz, a, us, rfl, hF, hA⟩ := tm.head
  have eu := all2_int hA
  subst eu
  refine ⟨a, ns, rfl, SqL.of (c.fh _ _ hF), few, fun ms p m1 m2 hp => ?_⟩
  have em : ms = SI ns := up_one m1 (SI_up ns) fun z => by rw [m2, SI_mem]
  subst em
  have sF : Same F (upd F p (.lst ((SI ns).map V.int))) := same_upd (c.fh.free hp)
  have nl : (SI ns).length ≤ sizeLine := by
    have := SI_len ns
    rw [sizeLine_eq]
    omega
  exact q _ _ k _ _ ⟨_, c.new hp, sg.mono sF, (tm.tail.mono sF).cons ⟨nl, p, _, rfl, upd_same, ints_all2 _⟩⟩
end
/-! ## == within a chain of comparisons of ints -/
abbrev rdEqI : R2 := rI0 fun i j => .bl (decide (i = j))
abbrev rdNeI : R2 := rI0 fun i j => .bl (!decide (i = j))
theorem op_eqI {X : Cx} : OpR X (compareOp .Eq) rdEqI := by
  intro pins s σ H x y v u Q I rx ry h
  obtain ⟨i, j, rfl, rfl, q⟩ := h
  refine op_eq pins s σ H _ _ v u Q I rx ry ⟨rfl, ?_⟩
  have e : decide (V.int i = V.int j) = decide (i = j) := by congr 1; simp
  rw [e]
  exact q
end ML

namespace ML
open PySem Spec PyProof.Rows L2 StX
/-! ## name = {k: v for ..}, the new dict locked -/
section
variable {X : Cx}
theorem sw_dict {kx vx : Expr} {gs : List Comprehension} {scope : Scope} {pos py : Pos} {y : Str} {l : Nat} {env : Env} (hk : env.scope.kind = .function) (hy : env.scope.names.lookup y = some .local) (hl : (py.line == pos.line) = true)
    (ha : (scope.names.any fun (n, k) => n == y && (k == .local || k == .cell)) = false) : swapsWith (.DictComp kx vx gs scope pos) (some (.Name y py)) l env = pure true := by
  have k1 : env.kindOf y = some .local := hy
  have k2 : env.blockKind = .function := by unfold Env.blockKind; rw [hk]; rfl
  unfold swapsWith
  simp only [k2, k1, ha, Expr.pos, hl]
  rfl
theorem ps_setDcF {i : Nat} {y : Str} {py : Pos} {kx vx tg iter : Expr} {ifs : List Expr} {scope : Scope} {own : List (Str × Nat)} {pos spos : Pos} {wi : TI} {g : TG} {tt : TT} {tk tv : TE}
    (hc : X.calm = true) (hN : X.N.Nodup) (hy : X.N[i]? = some y) (hyl : X.env.scope.names.lookup y = some .local) (hsw : swapsWith (.DictComp kx vx [⟨tg, iter, ifs, 0⟩] scope pos) (some (.Name y py)) spos.line X.env = pure true)
    (hi : PI X tg iter wi) (ok : BlkOk X.N X.env.scope scope own)
    (hg : ∀ (s : Shared) (H : Hp) (C : Addr) (cl : List (Str × Addr)) (fp : List Addr), PG (X.blk s H scope (compEnvC scope cl C X.env) fp) tg g)
    (ht : ∀ (s : Shared) (H : Hp) (C : Addr) (cl : List (Str × Addr)) (fp : List Addr), PTs (X.blk s H scope (compEnvC scope cl C X.env) fp) ifs tt)
    (hkx : ∀ (s : Shared) (H : Hp) (C : Addr) (cl : List (Str × Addr)) (fp : List Addr), PE (X.blk s H scope (compEnvC scope cl C X.env) fp) kx tk)
    (hvx : ∀ (s : Shared) (H : Hp) (C : Addr) (cl : List (Str × Addr)) (fp : List Addr), PE (X.blk s H scope (compEnvC scope cl C X.env) fp) vx tv) (hs : ∀ x, foldedSetIterable iter X.env x = pure x := by intro _; rfl) :
    PS X (.Assign [.Name y py] (.DictComp kx vx [⟨tg, iter, ifs, 0⟩] scope pos) spos) (tAsg (tFrz (tDc wi g tt tk tv (own.map (·.2)))) (gName i)) := by
  refine ⟨fun pins s σ H D I hw => ?_⟩
  rw [exec_Assign_Name_used _ _ _ _ hsw]
  refine wpAny_bind (wpAny_standAt (wpAny_bind ?_))
  show wpAny _ X.A (do let _ ← comprehension (.DictComp kx vx [⟨tg, iter, ifs, 0⟩] scope pos) scope X.env (firstIterPos [⟨tg, iter, ifs, 0⟩] pos) newDict false (eval iter X.env) (some (assign (.Name y py) X.env))) _ _ s
  have hw : tDc wi g tt tk tv (own.map (·.2)) σ H (fun x H1 => ∃ d u, x = V.ref d ∧ H1 d = some u ∧ Mut (some u) ∧ ∀ od, gName i x σ (upd H1 d (.frz od u)) D.nx) := hw
  refine wpAny_bind (thn (dc_core (Qf := fun _ s' => SP X pins D .next s') hc hN I hi ok hg ht hkx hvx hs hw fun L C s' m H' I' q hn f => ?_) fun _ s' hq => wpAny_pure (wpAny_pure hq))
  show wpAny _ _ (assign (.Name y py) X.env (.ref L)) _ _ _
  obtain ⟨d, u, e, hd, mu, q⟩ := q
  obtain rfl : L = d := by cases e; rfl
  obtain ⟨od, IL⟩ := I'.lock hd mu
  refine wpAny_assign_Name (store_ok2 (v := V.ref L) IL hN hy (.inl hyl) rfl (fun s2 I2 ⟨a, sb, ha⟩ => ?_) (.inr hyl))
  obtain ⟨f0, f1, f2, f3, f4, f5⟩ := f
  have Ca : C ≠ a := ha.elim (fun z => z ▸ f1) fun z e => f4 y a z e.symm
  have CL : C ≠ L := fun e => by rw [e, hd] at f0; cases f0
  refine ⟨m, hn.sameBut sb Ca, fun h3 sb3 => ?_⟩
  exact ⟨_, upd H' L (.frz od u), I2.turned (t' := s2.toks) (fun b o hb e => (sb3.2 b hb).trans e) (by rw [upd_ne CL]; exact f0) f1 f3 f4 f5, q od⟩
end
end ML

namespace ML
open PySem Spec PySem.Calls PyProof.Rows PyProof.V L2 StX
/-! ## sum(t), t a tuple of ints -/
def rSumT (K : PySem.W.Frag) : List V → Hp → VK → Prop := fun vs H Q => ∃ (l : Addr) (ns : List Int), vs = [V.ref l] ∧ SqT K H l (ns.map V.int) ∧ Q (.int ns.sum) H
theorem cr_sumT {X : Cx} (hc : X.calm = true) : CallR X (.builtin "sum") (rSumT X.K) := by
  intro pins s σ H vs us Q I r h
  obtain ⟨l, ns, rfl, hs, q⟩ := h
  obtain ⟨its, rv, ht, _⟩ := I.tuple hs
  have hi : IntsAre its ns := by simpa using RZ.intsAre_vals rv
  rw [Vals.ref1 r]
  have hl : s.heap.IsTuple l its.toArray := ht
  obtain ⟨xs, hx⟩ := hi.allInts.items
  have hn : numsOf its.toArray.toList = ns := by rw [show its.toArray.toList = its from rfl, hi.numsOf]
  rw [hx] at hl hn
  rw [nums_intItems] at hn
  refine PySem.W.ktm_sumG (I.ok.hd hc) hl fun h' tk t' hk => ?_
  rw [preSum_eq, List.take_of_length_le (by simp), hn]
  exact ⟨.int _, H, I.kept hk, ⟨_, rfl⟩, q⟩
section
variable {W : Wd} {G : Gam} {T : Tms} {cs : Cells} {K : Sl → Cells → Prop} {KF : PySem.W.Frag}
theorem e_sumT {t : TA} (h : EvA t W G T cs fun sls cs1 => ∃ xs : List Int, sls = [(rTup rInt).at xs] ∧ K (rInt.at xs.sum) cs1) : Ev (tCB (rSumT KF) t) W G T cs K := fun s H st Q q => by
  refine h s H st _ fun sls cs1 ⟨xs, e, k⟩ vs H1 ⟨F, c, sg, tm, ar⟩ => ?_
  subst e
  obtain ⟨v, rfl, hz, a, us, rfl, hF, hA⟩ := args1 ar
  exact ⟨a, xs, rfl, SqT.of (by rw [← all2_ints hA]; exact c.fh _ _ hF), q _ _ k _ H1 ⟨F, c, sg, tm.cons rfl⟩⟩
end
end ML

/-! [.. for x in g(a=..)] -/
namespace ML
open PySem PySem.Spec PyProof.Rows L2 GenW

section
variable {X : Cx} {α : Type} {r : R α} {sp : List V → Hp → List α → Prop} {k : Nat} {f : Addr} {fd : FuncData} {ps ks : List Str} {x : Str} {p pos pos' : Pos} {kws : List Keyword} {π : List Nat} {ta : TA} {tg : Expr} {tgt : TG}
theorem pe_lcGN {elt : Expr} {ifs : List Expr} {scope : Scope} {own : List (Str × Nat)} {tt : TT} {te : TE} (F : GenFn X.prog X.w X.K X.mg X.base k f fd ps r sp) (hr : RoomG (k + 2) X.A) (hc : X.calm = true) (hN : X.N.Nodup) (hg : Gl X x) (hm : X.mg x = some (.ref f)) (hk : PySem.W.keepIn X.K (.ref f) = true) (hb : NamesTo X.K fd ps ks π)
    (hkw : PK X kws ta) (ok : BlkOk X.N X.env.scope scope own)
    (ht0 : ∀ (s : Shared) (H : Hp) (C : Addr) (cl : List (Str × Addr)) (fp : List Addr), PG (X.blk s H scope (compEnvC scope cl C X.env) fp) tg tgt) (ht1 : ∀ (s : Shared) (H : Hp) (C : Addr) (cl : List (Str × Addr)) (fp : List Addr), PTs (X.blk s H scope (compEnvC scope cl C X.env) fp) ifs tt)
    (he : ∀ (s : Shared) (H : Hp) (C : Addr) (cl : List (Str × Addr)) (fp : List Addr), PE (X.blk s H scope (compEnvC scope cl C X.env) fp) elt te)
    (h1 : (x == ("__debug__" : Str)) = false := by decide) (hall : (backToKw pos' (keywordEach kws X.env)).all (·.1.isSome) = true := by rfl) (hks : (backToKw pos' (keywordEach kws X.env)).filterMap (·.1) = ks := by rfl)
    (hpl : ((backTo pos' (starEach [] X.env)).any (·.1) || (backToKw pos' (keywordEach kws X.env)).any (·.1.isNone)) = false := by rfl)
    (hs : ∀ v, foldedSetIterable (.Call (.Name x p) [] kws pos') X.env v = pure v := by intro _; rfl) :
    PE X (.ListComp elt [⟨tg, .Call (.Name x p) [] kws pos', ifs, 0⟩] scope pos) (tLcG sp r (tNames π ks.length ta) tgt tt te (own.map (·.2))) := by
  refine ⟨fun pins s σ H Q I h => ?_⟩
  rw [eval_ListComp]
  obtain ⟨N, qual, scG, cd, bG, Sc, mk, gbody⟩ := F.go
  have hfree : ∀ y ∈ scope.names, y.2 = .free → ∃ c, X.env.cells.lookup y.1 = some c := fun y hy e => (ok.free y hy e).elim (fun z => I.ok.has _ (.inl z)) fun z => I.ok.has _ (.inr z)
  refine wpAny_comprehension_free (use := none) rfl hs (closure_ok hfree) ok.kind (fun y hy e => by rw [ok.uniq y hy, e]) ?_
  refine wpAny_Call_Name_kw (ld_glob I hg hm (PySem.W.callWith_KW0 (h₀ := X.base) I.ok.mod.kin hk hall (thn (hkw.run pos' pins s σ H _ I h) fun us s1 h4 => ?_) hpl) h1)
  obtain ⟨vs0, H1, I1, rv0, e0, ys, G0, hsp, wG, sG, hW⟩ := h4
  have rv : Vals (perm π vs0) (perm π us) := perm_rel rv0
  generalize hvs : perm π vs0 = vs at hsp rv
  have hl := F.len vs G0 ys hsp
  have hbt : BindsTo s1 fd ⟨[], ks.zip us⟩ (ps.zip (perm π us)) := hb s1 us (rv0.length.symm.trans e0)
  rw [hks]
  refine ⟨I1.kIn, wpAny_call (codeAny_mono (mk X.A X.stack s1 H1 ⟨[], ks.zip us⟩ (perm π us) vs (hr.mono (by omega)) I1.env0 hbt rv hl) fun res s2 hq => ?_)⟩
  match res, hq with
  | .error e, hq => exact hq.elim
  | .ok .next, hq => exact False.elim hq
  | .ok .brk, hq => exact False.elim hq
  | .ok .cont, hq => exact False.elim hq
  | .ok (.ret u), hq =>
    obtain ⟨L, a, go, oL, gn, rfl, Mk⟩ := hq
    refine wpAny_pyIter_gen (Mk.isg _ Mk.at') ?_
    have I2 : Inv X pins σ H1 s2 := I1.call' (ch := []) Mk.os (Un.kept Mk.keep) (I1.hok.kept Mk.keep) Mk.bare fun b z => by simp at z
    have young : ∀ b, s1.heap.objs.size ≤ b → H1 b = none ∧ b ≠ X.env.locals ∧ b ∉ X.fs ∧ (∀ y c, X.env.cells.lookup y = some c → c ≠ b) ∧ ∀ q ∈ X.pn ++ pins, q.1 ≠ b := fun b hb => ⟨I1.hok.fresh hb, Nat.ne_of_gt (Nat.lt_of_lt_of_le I1.lt hb), I1.nofs hb, fun y c e z => by
      obtain ⟨v, oc, ho, _⟩ := I1.cell y c e
      have := Heap.lt_size ho
      rw [z] at this
      exact absurd (Nat.lt_of_lt_of_le this hb) (Nat.lt_irrefl _), fun q hq z => by
      have := Heap.lt_size (I1.pin q hq).1
      rw [z] at this
      exact absurd (Nat.lt_of_lt_of_le this hb) (Nat.lt_irrefl _)⟩
    obtain ⟨gfs, gcls, gdat⟩ := Mk.flds
    have hago : s1.heap.objs.size ≤ a := Nat.le_of_lt (Nat.lt_of_le_of_lt Mk.low Mk.lt)
    have lL := Heap.lt_size Mk.fr
    have la := Heap.lt_size Mk.at'
    refine wpAny_newObj_type (newEnv_comp ?_) (by show 0 ≤ sizeLine; decide)
    generalize hD : s2.heap.objs.size = D at lL la
    have hDn : H1 D = none := I2.hok.fresh (Nat.le_of_eq hD)
    obtain ⟨Wt, w0, fin, turn⟩ := hW D hDn
    generalize hs3 : ({ s2 with heap := s2.heap.push { cls := .type "list", data := .seq ([] : List Value).toArray } } : Shared) = s3
    have I3 : Inv X pins σ (upd H1 D (.lst [])) s3 := by
      rw [← hs3]
      refine I2.laid (t' := s2.toks) (fun b o e => Heap.get?_push_of_some _ e) (Nat.le_of_eq hD) ⟨Nat.zero_le _, [], 0, .nil, ?_⟩
      rw [← hD]
      exact Heap.get?_push_size _ rfl
    have h3 : s3.heap = s2.heap.push { cls := .type "list", data := .seq ([] : List Value).toArray } := by rw [← hs3]
    have g3 : s3.gens = s2.gens := by rw [← hs3]
    have k3 : ∀ b o, s2.heap.get? b = some o → s3.heap.get? b = some o := fun b o e => by rw [h3]; exact Heap.get?_push_of_some _ e
    have sz3 : D < s3.heap.objs.size := by rw [h3, Heap.size_push, hD]; exact Nat.lt_succ_self _
    -- the generator's own places, and what lies empty behind its frame
    generalize hfp : (L :: (List.range s3.heap.objs.size).filter fun b => decide (L < b) && (s3.heap.get? b).isNone) = fp
    have inL : L ∈ fp := by rw [← hfp]; exact List.mem_cons_self
    have f3 : ∀ b ∈ fp, FpOk X pins (upd H1 D (.lst [])) b ∧ b < s3.heap.objs.size := fun b hb => by
      rw [← hfp] at hb
      rcases List.mem_cons.mp hb with e | hb
      · subst e
        obtain ⟨y1, y2, y3, y4, y5⟩ := young b Mk.low
        exact ⟨⟨by rw [upd_ne (Nat.ne_of_lt lL)]; exact y1, y2, y3, .inr (Nat.le_trans I1.sz Mk.low), y4, y5⟩, Nat.lt_trans lL sz3⟩
      · obtain ⟨q1, q2⟩ := List.mem_filter.mp hb
        rw [Bool.and_eq_true, decide_eq_true_eq] at q2
        obtain ⟨q2, q3⟩ := q2
        have en : s3.heap.get? b = none := by simpa using q3
        obtain ⟨_, y2, y3, y4, y5⟩ := young b (Nat.le_trans Mk.low (Nat.le_of_lt q2))
        refine ⟨⟨?_, y2, y3, .inr (Nat.le_trans (Nat.le_trans I1.sz Mk.low) (Nat.le_of_lt q2)), y4, y5⟩, List.mem_range.mp q1⟩
        cases q : upd H1 D (.lst []) b with
        | none => rfl
        | some z => obtain ⟨o, eo⟩ := HOk.there I3.hok q; rw [en] at eo; cases eo
    have I4 := block_start I3 ok hN f3
    have pg := ht0 s3 (upd H1 D (.lst [])) s3.heap.objs.size (cellsFrom (s3.heap.objs.size + 1) scope.names (cloFrom X.env.cells scope.names [])) fp
    have pt := ht1 s3 (upd H1 D (.lst [])) s3.heap.objs.size (cellsFrom (s3.heap.objs.size + 1) scope.names (cloFrom X.env.cells scope.names [])) fp
    have pe := he s3 (upd H1 D (.lst [])) s3.heap.objs.size (cellsFrom (s3.heap.objs.size + 1) scope.names (cloFrom X.env.cells scope.names [])) fp
    show codeAny _ _ (.compStart (.ListComp elt [⟨tg, .Call (.Name x p) [] kws pos', ifs, 0⟩] scope pos) 0 (.ref a) (.ref D) (compEnvC scope (cellsFrom (s3.heap.objs.size + 1) scope.names (cloFrom X.env.cells scope.names [])) s3.heap.objs.size X.env)) (compPost (model X.prog X.w) X.A X.xe none (EP X pins σ Q) (.ref D) s3.heap.objs.size) { s3 with heap := pushCells (s3.heap.push { cls := .type "dict", data := .dict #[] }) scope.names }
    generalize hce : compEnvC scope (cellsFrom (s3.heap.objs.size + 1) scope.names (cloFrom X.env.cells scope.names [])) s3.heap.objs.size X.env = ce at I4 pg pt pe ⊢
    have cL : ce.locals = s3.heap.objs.size := by subst hce; rfl
    have hG0D : G0 D = none := none_sub sG hDn
    have sG3 : Same G0 (upd H1 D (.lst [])) := fun b z ez => by
      rw [upd_ne (fun q => by rw [q, hG0D] at ez; cases ez)]
      exact sG b z ez
    have n3 : ∀ b, s1.heap.objs.size ≤ b → b < D → upd H1 D (.lst []) b = none := fun b hb hlt => by rw [upd_ne (Nat.ne_of_lt hlt)]; exact (young b hb).1
    generalize hH3 : upd H1 D (.lst []) = H3 at I3 I4 pg pt pe w0 f3 sG3 n3
    generalize hs4 : ({ s3 with heap := pushCells (s3.heap.push { cls := .type "dict", data := .dict #[] }) scope.names } : Shared) = s4 at I4 ⊢
    have g4 : s4.gens = s2.gens := by rw [← hs4]; exact g3
    have k4 : ∀ b o, s2.heap.get? b = some o → s4.heap.get? b = some o := fun b o e => by rw [← hs4]; exact pushCells_keeps _ _ _ _ (Heap.get?_push_of_some _ (k3 b o e))
    generalize hXb : X.blk s3 H3 scope ce fp = Xb at I4 pg pt pe
    have xb0 : Xb.s_0 = s3 := by rw [← hXb]
    have xbl : Xb.env.locals = s3.heap.objs.size := by rw [← hXb]; exact cL
    have xbf : Xb.fs = frs X.stack := by rw [← hXb]
    have xbx : Xb.ex = fp := by rw [← hXb]
    have xbp : Xb.pn = [] := by rw [← hXb]
    have xbA : Xb.A = X.A := by rw [← hXb]
    have xbs : Xb.stack = X.stack := by rw [← hXb]
    have xbb : Xb.base = X.base := by rw [← hXb]
    have xbP : Xb.prog = X.prog ∧ Xb.w = X.w ∧ Xb.K = X.K ∧ Xb.mg = X.mg := by rw [← hXb]; exact ⟨rfl, rfl, rfl, rfl⟩
    have low : ∀ b ∈ frs X.stack, b < L := fun b hb => by
      obtain ⟨_, o, ho, _⟩ := I1.stack.mem hb
      exact Nat.lt_of_lt_of_le (Heap.lt_size ho) Mk.low
    have Z : Pact Xb N ps scG X.A.in1 L := by
      refine ⟨Sc, I1.ok.hd hc, by rw [xbs]; exact I1.ok.frames, .inl (by rw [xbx]; exact inL), by rw [xbb]; exact Nat.le_trans I1.ok.bsz (Nat.le_trans I1.sz Mk.low), fun b hb en => ?_, fun b hb => low b (by rw [xbs] at hb; exact hb)⟩
      rw [xb0] at en ⊢
      rw [xbx]
      rcases Nat.lt_or_ge b s3.heap.objs.size with q | q
      · refine .inl ?_
        rw [← hfp]
        exact List.mem_cons_of_mem _ (List.mem_filter.mpr ⟨List.mem_range.mpr q, by rw [Bool.and_eq_true, decide_eq_true_eq, en]; exact ⟨hb, rfl⟩⟩)
      · exact .inr q
    have nstk : ∀ b, s1.heap.objs.size ≤ b → b ∉ Xb.fs := fun b hb hm => by
      rw [xbf] at hm
      rcases List.mem_cons.mp (I1.stkSub b hm) with z | z
      · exact (young b hb).2.1 z
      · exact (young b hb).2.2.1 z
    have S4 : Sleep Xb [(a, go)] L G0 oL [] (wipe σ (own.map (·.2))) H3 s4 := by
      refine ⟨I4.pins_of fun q hq => ?_, wG, sG3, fun q hq => (by simp at hq), fun q hq => (by simp at hq), fun q hq q' hq' => ?_⟩
      · rcases List.mem_append.mp hq with hq | hq
        · rw [List.mem_singleton.mp hq]
          exact ⟨k4 _ _ Mk.at', n3 a hago la, by rw [xbl]; exact Nat.ne_of_lt (Nat.lt_trans la sz3), nstk a hago, fun v z => by rw [gdat] at z; cases z⟩
        · rw [List.mem_singleton.mp hq]
          obtain ⟨es1, ep1, m1, hd1, _⟩ := Mk.loc
          exact ⟨k4 _ _ Mk.fr, n3 L Mk.low lL, by rw [xbl]; exact Nat.ne_of_lt (Nat.lt_trans lL sz3), nstk L Mk.low, fun v z => by rw [hd1] at z; cases z⟩
      · rw [List.mem_singleton.mp hq]
        rw [xbp, List.nil_append, List.mem_singleton] at hq'
        rw [hq']
        exact Nat.ne_of_gt Mk.lt
    have hra : RoomG (k + 1) X.A.in1 := hr.in1
    obtain ⟨Gm, slG, hgg⟩ := gbody Xb [(a, go)] L X.A.in1 (fun kk G σ' H' => σ' = wipe σ (own.map (·.2)) ∧ Wt kk G H') vs G0 ys xbP.1 xbP.2.1 xbP.2.2.1 xbP.2.2.2 xbb hsp hra Z
    have Mg : s4.gens[gn]? = some (.fresh (.func bG (envOfC qual scG L f cd))) := by rw [g4]; exact Mk.gen
    have gol : gn < s4.gens.size := (Array.getElem?_eq_some_iff.mp Mg).1
    have loop : codeAny (model X.prog X.w) X.A (.compLoop (.ListComp elt [⟨tg, .Call (.Name x p) [] kws pos', ifs, 0⟩] scope pos) 0 (.ref a) (.ref D) ce) (compPost (model X.prog X.w) X.A X.xe none (EP X pins σ Q) (.ref D) s3.heap.objs.size) s4 := by
      refine compLoop_any (fun n s' => ∃ kk gs G oL ip H', n + kk = ys.length + 1 ∧ Sleep Xb [(a, go)] L G oL ip (wipe σ (own.map (·.2))) H' s' ∧ Wt kk G H' ∧ s'.gens[gn]? = some gs ∧
        gs.Goes (model X.prog X.w) X.A.in1 (GK.R ⟨Xb, [(a, go)], L, N, ps, scG, qual, f, cd, X.A.in1, ys, r, fun kk G σ' H' => σ' = wipe σ (own.map (·.2)) ∧ Wt kk G H'⟩) (GK.Y ⟨Xb, [(a, go)], L, N, ps, scG, qual, f, cd, X.A.in1, ys, r, fun kk G σ' H' => σ' = wipe σ (own.map (·.2)) ∧ Wt kk G H'⟩) n (.send .none) (s'.setGen gn .running)) ?_ (ys.length + 1)
        ⟨0, _, G0, oL, [], H3, rfl, S4, w0, Mg, rfl, seg_func ?_⟩
      · rintro n s5 ⟨kk, gs, G3, oL3, ip3, H5, hnk, S5, w5, hgs, hgo⟩
        have hgl := (Array.getElem?_eq_some_iff.mp hgs).1
        have ha5 : s5.heap.get? a = some go := (S5.inv.pin (a, go) (List.mem_append_right _ (List.mem_append_left _ List.mem_cons_self))).1
        refine wpAny_gsz (n := gn + 1) hgl (nexts (I1.ok.hd hc) S5.inv.nolimit hr.rm.depth (Mk.isg _ ha5) hgs hgo (fun v z st' hbare hsusp hY hsz => ?_) fun z hF h' hk' _ => ?_)
        · obtain ⟨k', G, oL4, ip4, σc, Hc, y, vv, G', oL', ip', Hc', hk', S0, ⟨eσ, wt0⟩, hy', rvv, ry, S', gr, kap⟩ := hY
          subst eσ
          have b6 : AllBare (z.setGen gn st').gens := allBare_setGen S'.inv.bare hbare
          have S6 : Sleep Xb [(a, go)] L G' oL' ip' (wipe σ (own.map (·.2))) Hc' (z.setGen gn st') := S'.gens b6
          have hz : gn < z.gens.size := by
            have q : (z.setGen gn st').gens.size = z.gens.size := setGen_size _ _ _
            omega
          have at6 : (z.setGen gn st').gens[gn]? = some st' := setGen_at hz
          have ha6 : (z.setGen gn st').heap.get? a = some go := (S6.inv.pin (a, go) (List.mem_append_right _ (List.mem_append_left _ List.mem_cons_self))).1
          refine go_of ha6 gcls gdat (by decide) ?_
          have r7 := pg.run _ (hushed (z.setGen gn st')) _ Hc' vv v _ (inv_gens S6.inv (allBare_hushed b6)) rvv (turn k' y G Hc G' Hc' vv hy' wt0 gr ry)
          rw [← hXb] at r7
          refine run_asleep b6 at6 hsusp r7 (fun _ z ⟨_, _, I, _⟩ => I.bare) fun _ z7 g7 b7 at7 ⟨σ7, H7, I7, hw7, q7⟩ => ?_
          have I7' := inv_gens I7 b7
          have r8 := pt.run _ (hushed { z7 with gens := g7 }) σ7 H7 _ (by rw [← hXb]; exact inv_gens I7' (allBare_hushed b7)) q7
          rw [← hXb] at r8
          refine run_asleep b7 at7 hsusp r8 (fun _ z ⟨_, I, _⟩ => I.bare) fun bb z8 g8 b8 at8 ⟨H8, I8, q8⟩ => ?_
          have I8' := inv_gens I8 b8
          have fin8 : ∀ {s' : Shared} {H' : Hp}, AllBare s'.gens → s'.gens[gn]? = some st' → Inv (X.blk s3 H3 scope ce fp) ([(a, go)] ++ (L, oL') :: ip') σ7 H' s' → Same G' H' → Wt (k' + 1) G' H' → ∃ m, m < n ∧ ∃ kk gs G oL ip H', m + kk = ys.length + 1 ∧ Sleep Xb [(a, go)] L G oL ip (wipe σ (own.map (·.2))) H' s' ∧ Wt kk G H' ∧ s'.gens[gn]? = some gs ∧
              gs.Goes (model X.prog X.w) X.A.in1 (GK.R ⟨Xb, [(a, go)], L, N, ps, scG, qual, f, cd, X.A.in1, ys, r, fun kk G σ' H' => σ' = wipe σ (own.map (·.2)) ∧ Wt kk G H'⟩) (GK.Y ⟨Xb, [(a, go)], L, N, ps, scG, qual, f, cd, X.A.in1, ys, r, fun kk G σ' H' => σ' = wipe σ (own.map (·.2)) ∧ Wt kk G H'⟩) m (.send .none) (s'.setGen gn .running) := fun {s' H'} bs ats I' w1 w2 => by
            have hlen : (wipe σ (own.map (·.2))).length = σ7.length := by rw [← hw7, wipe_length]
            have Iw : Inv Xb ([(a, go)] ++ (L, oL') :: ip') (wipe σ (own.map (·.2))) H' s' := by
              rw [← hXb]
              refine I'.weak hlen fun j v e => ?_
              rw [← hw7] at e
              exact (wipe_some e).1
            have S7 : Sleep Xb [(a, go)] L G' oL' ip' (wipe σ (own.map (·.2))) H' s' := ⟨Iw, S'.whole, w1, S'.up, S'.late, S'.apart⟩
            have q := kap (s'.setGen gn .running) _ H' (S7.gens (allBare_setGen S7.inv.bare rfl)) ⟨rfl, w2⟩
            cases n with
            | zero => exact q.elim
            | succ m => exact ⟨m, Nat.lt_succ_self _, k' + 1, st', G', oL', ip', H', by have : m + k' = ys.length := hk'; omega, S7, w2, ats, q⟩
          cases bb with
          | false =>
            simp only [Bool.false_eq_true, if_false] at q8 ⊢
            exact fin8 b8 at8 I8' q8.1 q8.2
          | true =>
            simp only [if_true] at q8 ⊢
            have r9 := pe.run _ (hushed { z8 with gens := g8 }) σ7 H8 _ (by rw [← hXb]; exact inv_gens I8' (allBare_hushed b8)) q8
            rw [← hXb] at r9
            refine run_asleep b8 at8 hsusp r9 (fun _ z ⟨_, _, I, _⟩ => I.bare) fun vz z9 g9 b9 at9 ⟨yv, H9, I9, ry9, acc, hD9, hz9, w1, w2⟩ => ?_
            have I9' := inv_gens I9 b9
            refine run_asleep (Q := fun _ s' => Inv (X.blk s3 H3 scope ce fp) ([(a, go)] ++ (L, oL') :: ip') σ7 (upd H9 D (.lst (acc ++ [yv]))) s') b9 at9 hsusp (app_ok (X := X.blk s3 H3 scope ce fp) (inv_gens I9' (allBare_hushed b9)) hD9 hz9 ry9 fun s11 I11 => I11) (fun _ z I => I.bare) fun _ z10 g10 b10 at10 I10 => ?_
            exact fin8 b10 at10 (inv_gens I10 b10) w1 w2
        · obtain ⟨G, oL4, ip4, σc, Hc, G', Hc', S0, ⟨eσ, wt0⟩, I6, gr⟩ := hF
          have I7 : Inv Xb [(a, go)] σc Hc' { z.setGen gn .finished with heap := h' } := (inv_gens I6 (allBare_setGen I6.bare rfl)).kept (t' := z.toks) hk'
          rw [← hXb] at I7
          have I8 : Inv X pins σ Hc' { z.setGen gn .finished with heap := h' } := I3.call' (ch := fp) I7.os I7.base I7.hok I7.bare fun b hb => ⟨(f3 b hb).1.2.2.2.1, (f3 b hb).1.2.1, (f3 b hb).1.2.2.2.2.1, (f3 b hb).1.2.2.2.2.2⟩
          have nC : Hc' s3.heap.objs.size = none := by
            have q : Hc' ce.locals = none := I7.free
            rw [cL] at q
            exact q
          obtain ⟨m, hn, _⟩ := I7.loc
          have hn : ({ z.setGen gn .finished with heap := h' } : Shared).heap.Ns ce.locals m := hn
          rw [cL] at hn
          obtain ⟨f0, f1, f2, f4, f5, f6⟩ := I3.fpOk (Nat.le_refl _) nC
          refine ⟨m, hn, fun h'' sb => ?_⟩
          exact ⟨.ref D, Hc', I8.turned (t' := z.toks) (fun b o hb e => (sb.2 b hb).trans e) f0 f1 f4 f5 f6, rfl, fin G Hc G' Hc' wt0 gr⟩
      · have S4' := S4.gens (allBare_setGen (g := gn) (x := .running) S4.inv.bare rfl)
        have := hgg (ys.length + 1) (s4.setGen gn .running) (s4.setGen gn .running) G0 oL [] (wipe σ (own.map (·.2))) H3 _ _ rfl ⟨S4', ⟨rfl, w0⟩, S4'.wake Z Mk.loc Mk.len, ⟨G0, ⟨Same.refl _, both_l, both_r, fun b x e => (froz_of e).1, by simp, fun x hx => (by simp at hx)⟩, slG, Temps.nil⟩, fun q hq => (by simp at hq), fun b hb => (by simp at hb), fun q hq => (by simp at hq)⟩
        have e1 : (GK.M (α := α) ⟨Xb, [(a, go)], L, N, ps, scG, qual, f, cd, X.A.in1, ys, r, fun kk G σ' H' => σ' = wipe σ (own.map (·.2)) ∧ Wt kk G H'⟩) = model X.prog X.w := by
          show model Xb.prog Xb.w = _
          rw [xbP.1, xbP.2.1]
        rw [e1] at this
        exact this
    have ia4 : s4.heap.IsGen a gn := Mk.isg _ (k4 _ _ Mk.at')
    exact codeAny_compStart_list loop (wpAny_pyIter_gen ia4 loop)
end
section
variable {W : Wd} {G : Gam} {T : Tms} {cs : Cells} {K : Sl → Cells → Prop} {te : TE} {KF : PySem.W.Frag}
/-- what reads as data, as data -/
theorem e_as {d : PyData} (h : Ev te W G T cs fun sl cs1 => As KF sl d ∧ K ((rData KF).at d) cs1) : Ev te W G T cs K := fun s H st Q q => by
  refine h s H st _ fun sl cs1 ⟨a, k⟩ v H1 ⟨F, c, sg, tm⟩ => ?_
  exact q _ _ k _ _ ⟨F, c, sg, tm.tail.cons (a F v tm.head)⟩
end
section
variable {X : Cx} {CX : CXT} {k : Nat} {C f : Addr} {fd : FuncData} {ps ks : List Str} {sp : Sp} {E : XK} {x : Str} {p pos : Pos} {kws : List Keyword} {t : TA} {π : List Nat}
/-- C(a=..) -/
theorem pe_makeGN (M : Mk X.K C f) (F : FnG X.prog X.w X.K X.mg X.base CX k f fd ps sp) (hr : RoomG (k + 1) X.A) (hg : Gl X x) (hm : X.mg x = some (.ref C)) (hb : OwnNames X.K fd ps ks π) (hx : Passes CX X E) (hkw : PK X kws t)
    (hall : (backToKw pos (keywordEach kws X.env)).all (·.1.isSome) = true := by rfl) (hks : (backToKw pos (keywordEach kws X.env)).filterMap (·.1) = ks := by rfl)
    (h1 : (x == ("__debug__" : Str)) = false := by decide) (hpl : ((backTo pos (starEach [] X.env)).any (·.1) || (backToKw pos (keywordEach kws X.env)).any (·.1.isNone)) = false := by rfl) :
    PE X (.Call (.Name x p) [] kws pos) (tMake C sp [] E (tNames π ks.length t)) := ⟨fun pins s σ H Q I h => by
  refine wpAny_Call_Name_kw (ld_glob I hg hm ?_ h1)
  refine PySem.W.callWith_KW0 (h₀ := X.base) I.ok.mod.kin M.kp hall (thn (hkw.run pos pins s σ H _ I h) fun us s1 ⟨vs, H1, I1, r, e, q⟩ => ⟨I1.kIn, ?_⟩) hpl
  rw [hks]
  dsimp only at q
  have wish := q (s1.heap.objs.size + 1) s1.heap.objs.size (I1.hok.fresh (Nat.le_succ _)) (I1.hok.fresh (Nat.le_refl _)) (Nat.ne_of_lt (Nat.lt_succ_self _))
  rw [List.append_nil] at wish
  have J := Inv.made (C := C) I1
  have r2 : Vals (V.ref (s1.heap.objs.size + 1) :: perm π vs) (Value.ref (s1.heap.objs.size + 1) :: perm π us) := .cons rfl (perm_rel r)
  have run := F.go _ X.stack _ _ ⟨[Value.ref (s1.heap.objs.size + 1)], ks.zip us⟩ _ _ _ E (hr.make C [] (ks.zip us)) (J.env0.make C [] (ks.zip us)) (hb _ (Value.ref (s1.heap.objs.size + 1)) us (r.length.symm.trans e)) r2 wish
  refine wpAny_call (make_map (f := f) I1.kIn M.makes M.init (beq_iff_eq.mp M.fn) (codeAny_mono run fun r s' hq => ?_))
  match r, hq with
  | .error e, hq => exact hx pins σ _ _ e s' J hq
  | .ok (.ret u), hq =>
    obtain ⟨v, H', J3, rv, ev, q3⟩ := J.after hq
    subst ev
    exact ⟨rv, ⟨V.ref (s1.heap.objs.size + 1), H', J3, rfl, q3⟩⟩
  | .ok .next, hq => exact False.elim hq
  | .ok .brk, hq => exact False.elim hq
  | .ok .cont, hq => exact False.elim hq⟩
end
end ML

/-! ## dicts whose keys are tuples, nested -/
namespace ML
open PySem PySem.Spec PyProof.Rows L2

mutual
/-- the value of the abstract heap is the key -/
inductive NestH (H : Hp) : NestedKey → V → Prop
  | bl (b : Bool) : NestH H (.num (if b = true then 1 else 0)) (.bl b)
  | int (i : Int) : NestH H (.num i) (.int i)
  | tup {a : Addr} {us : List V} {ks : List NestedKey} : H a = some (.tup us) → NestHs H ks us → NestH H (.tup ks) (.ref a)
inductive NestHs (H : Hp) : List NestedKey → List V → Prop
  | nil : NestHs H [] []
  | cons {k : NestedKey} {v : V} {ks : List NestedKey} {vs : List V} : NestH H k v → NestHs H ks vs → NestHs H (k :: ks) (v :: vs)
end
mutual
theorem NestH.mono {F F' : Hp} (e : Same F F') : ∀ {k : NestedKey} {v : V}, NestH F k v → NestH F' k v
  | _, _, .bl b => .bl b
  | _, _, .int i => .int i
  | _, _, .tup h t => .tup (e _ _ h) (NestHs.mono e t)
theorem NestHs.mono {F F' : Hp} (e : Same F F') : ∀ {ks : List NestedKey} {vs : List V}, NestHs F ks vs → NestHs F' ks vs
  | _, _, .nil => .nil
  | _, _, .cons h t => .cons (NestH.mono e h) (NestHs.mono e t)
end
mutual
theorem NestH.is {P : Program} {w : World} {H : Hp} {h : Heap} (ok : HOk P w H h) : ∀ {k : NestedKey} {v : V} {u : Value}, NestH H k v → RelV v u → NestedIs h k u
  | _, _, _, .bl b, r => by
    obtain rfl := (show _ = Value.bool b from r)
    exact .bool rfl
  | _, _, _, .int i, r => by
    obtain ⟨t, rfl⟩ := r
    exact .int i t
  | _, _, _, .tup (a := a) (us := us) e t, r => by
    obtain rfl := (show _ = Value.ref a from r)
    obtain ⟨_, its, rr, o, h1, h2, n, h3⟩ := (show ObjOk P w H h a (.tup us) from ok a _ e)
    exact .tup h1 h2 h3 (by simpa using NestHs.is ok t rr)
theorem NestHs.is {P : Program} {w : World} {H : Hp} {h : Heap} (ok : HOk P w H h) : ∀ {ks : List NestedKey} {vs : List V} {us : List Value}, NestHs H ks vs → Vals vs us → NestedAll h ks us
  | _, _, _, .nil, .nil => .nil
  | _, _, _, .cons p q, .cons r t => .cons (NestH.is ok p r) (NestHs.is ok q t)
end
mutual
/-- keys without texts: one hash in every world -/
theorem NestH.hash {H : Hp} (w w' : World) : ∀ {k : NestedKey} {v : V}, NestH H k v → k.hash w = k.hash w'
  | _, _, .bl b => rfl
  | _, _, .int i => rfl
  | _, _, .tup h t => by rw [NestedKey.hash, NestedKey.hash, NestHs.hash w w' t]
theorem NestHs.hash {H : Hp} (w w' : World) : ∀ {ks : List NestedKey} {vs : List V}, NestHs H ks vs → NestedKey.hashes w ks = NestedKey.hashes w' ks
  | _, _, .nil => rfl
  | _, _, .cons h t => by rw [NestedKey.hashes, NestedKey.hashes, NestH.hash w w' h, NestHs.hash w w' t]
end
/-- the entries: the key, its place, the value -/
abbrev NE := List (NestedKey × Addr × V)
def NEnt (x : NestedKey × Addr × V) (e : DictEntry) : Prop := (∀ w : World, e.hash = x.1.hash w) ∧ e.key = .ref x.2.1 ∧ RelV x.2.2 e.val
/-- the dict at d holds these -/
def nkO (d : Addr) (xs : NE) : HO := .ext fun h => (xs.length ≤ sizeLine ∧ (d == sysModules) = false) ∧ ∃ o es ep, h.get? d = some o ∧ o.ExactDict ∧ o.data = .dict es ep ∧ Paired NEnt xs es.toList
/-- the keys are keys -/
structure NKs (H : Hp) (xs : NE) : Prop where
  nd : (xs.map (·.1)).Nodup
  is : ∀ x ∈ xs, NestH H x.1 (.ref x.2.1) ∧ x.1.depth ≤ 8
theorem NKs.nil (H : Hp) : NKs H [] := ⟨List.nodup_nil, fun x h => nomatch h⟩
abbrev NV (x : NestedKey × Addr × V) (y : NestedKey × Addr × Value) : Prop := x.1 = y.1 ∧ x.2.1 = y.2.1 ∧ RelV x.2.2 y.2.2
section
variable {P : Program} {w : World} {H : Hp} {h : Heap} {d : Addr} {xs : NE}
theorem nk_ok (z : xs.length ≤ sizeLine) (hd : (d == sysModules) = false) {o : Obj} {es : Array DictEntry} {ep : Nat} (h1 : h.get? d = some o) (h2 : o.ExactDict) (h3 : o.data = .dict es ep) (h4 : Paired NEnt xs es.toList) : ObjOk P w H h d (nkO d xs) :=
  ⟨⟨⟨z, hd⟩, o, es, ep, h1, h2, h3, h4⟩, ⟨o, h1⟩, fun g1 g2 ⟨y, o', es', ep', k1, k2, k3, k4⟩ k => ⟨y, o', es', ep', k o' k1, k2, k3, k4⟩⟩
theorem ents_of : ∀ {xs : NE} {es : List DictEntry}, Paired NEnt xs es → ∃ ys : List (NestedKey × Addr × Value), Paired NV xs ys ∧ es = ys.map (entryOfKey (nestedKind P w))
  | _, _, .nil => ⟨[], .nil, rfl⟩
  | _, _, .cons (a := x) (b := e) q t => by
    obtain ⟨ys, r, ey⟩ := ents_of t
    refine ⟨(x.1, x.2.1, e.val) :: ys, .cons ⟨rfl, rfl, q.2.2⟩ r, ?_⟩
    rw [List.map_cons, ← ey]
    congr 1
    obtain ⟨hh, k, v⟩ := e
    obtain ⟨q1, q2, _⟩ := q
    have q1 : hh = x.1.hash w := q1 w
    have q2 : k = .ref x.2.1 := q2
    rw [q1, q2]
    rfl
theorem nv_keys : ∀ {xs : NE} {ys : List (NestedKey × Addr × Value)}, Paired NV xs ys → ys.map (·.1) = xs.map (·.1)
  | _, _, .nil => rfl
  | _, _, .cons q t => by rw [List.map_cons, List.map_cons, nv_keys t, q.1]
theorem nv_mem : ∀ {xs : NE} {ys : List (NestedKey × Addr × Value)}, Paired NV xs ys → ∀ y ∈ ys, ∃ x ∈ xs, NV x y
  | _, _, .nil => fun y h => nomatch h
  | _, _, .cons q t => fun y h => by
    rcases List.mem_cons.mp h with e | h
    · subst e; exact ⟨_, List.mem_cons_self, q⟩
    · obtain ⟨x, hx, r⟩ := nv_mem t y h
      exact ⟨x, List.mem_cons_of_mem _ hx, r⟩
theorem nk_rd (ok : HOk P w H h) (e : Rd H d (nkO d xs)) (ks : NKs H xs) : xs.length ≤ sizeLine ∧ (d == sysModules) = false ∧ ∃ ys, Paired NV xs ys ∧ h.DictOfH (nestedKind P w) d ys := by
  obtain ⟨⟨⟨z, hd⟩, o, es, ep, h1, h2, h3, h4⟩, _⟩ := (show ObjOk P w H h d (nkO d xs) from e.ok ok)
  obtain ⟨ys, r, ey⟩ := ents_of (P := P) (w := w) h4
  refine ⟨z, hd, ys, r, o, es, ep, h1, h2, h3, ey, fun y hy => ?_, by rw [nv_keys r]; exact ks.nd⟩
  obtain ⟨x, hx, e1, e2, _⟩ := nv_mem r y hy
  obtain ⟨k1, k2⟩ := ks.is x hx
  rw [← e1, ← e2]
  exact ⟨k1.is ok rfl, k2⟩
/-- what stands at a key -/
def valN (xs : NE) (k : NestedKey) : Option V := (xs.find? fun x => decide (x.1 = k)).map (·.2.2)
theorem nv_val (k : NestedKey) : ∀ {xs : NE} {ys : List (NestedKey × Addr × Value)}, Paired NV xs ys → RelO (valN xs k) ((atKey ys k).map (·.2))
  | _, _, .nil => True.intro
  | _, _, .cons (a := x) (b := y) (l₁ := l) (l₂ := m) q t => by
    by_cases e : x.1 = k
    · have e1 : valN (x :: l) k = some x.2.2 := by unfold valN; rw [List.find?_cons, decide_eq_true e]; rfl
      have e2 : atKey (y :: m) k = some y.2 := by unfold atKey; rw [List.find?_cons, decide_eq_true (q.1.symm.trans e)]; rfl
      rw [e1, e2]
      exact q.2.2
    · have e1 : valN (x :: l) k = valN l k := by unfold valN; rw [List.find?_cons, decide_eq_false e]
      have e2 : atKey (y :: m) k = atKey m k := by unfold atKey; rw [List.find?_cons, decide_eq_false fun z => e (q.1.trans z)]
      rw [e1, e2]
      exact nv_val k t
/-- d[k] = v -/
def putN (xs : NE) (k : NestedKey) (b : Addr) (v : V) : NE := if (valN xs k).isSome = true then xs.map fun x => if x.1 = k then (x.1, x.2.1, v) else x else xs ++ [(k, b, v)]
theorem len_putN (xs : NE) (k : NestedKey) (b : Addr) (v : V) : (putN xs k b v).length ≤ xs.length + 1 := by
  unfold putN
  split
  · rw [List.length_map]; omega
  · rw [List.length_append]; simp
theorem nv_map {k : NestedKey} {v : V} {u : Value} (r : RelV v u) : ∀ {xs : NE} {ys : List (NestedKey × Addr × Value)}, Paired NV xs ys → Paired NV (xs.map fun x => if x.1 = k then (x.1, x.2.1, v) else x) (ys.map (putAt k u))
  | _, _, .nil => .nil
  | _, _, .cons (a := x) (b := y) q t => by
    rw [List.map_cons, List.map_cons]
    refine .cons ?_ (nv_map r t)
    unfold putAt
    by_cases e : x.1 = k
    · rw [if_pos e, if_pos (q.1.symm.trans e)]
      exact ⟨q.1, q.2.1, r⟩
    · rw [if_neg e, if_neg fun z => e (q.1.trans z)]
      exact q
theorem paired_app {α β : Type} {F : α → β → Prop} : ∀ {l₁ : List α} {l₂ : List β} {m₁ : List α} {m₂ : List β}, Paired F l₁ l₂ → Paired F m₁ m₂ → Paired F (l₁ ++ m₁) (l₂ ++ m₂)
  | _, _, _, _, .nil, q => q
  | _, _, _, _, .cons r t, q => .cons r (paired_app t q)
theorem nv_put {k : NestedKey} {b : Addr} {v : V} {u : Value} (r : RelV v u) {xs : NE} {ys : List (NestedKey × Addr × Value)} (q : Paired NV xs ys) : Paired NV (putN xs k b v) (storedH ys k b u) := by
  have e : (atKey ys k).isSome = (valN xs k).isSome := by
    have := (nv_val k q).isSome_eq
    rw [Option.isSome_map] at this
    exact this.symm
  unfold putN storedH
  rw [e]
  split
  · exact nv_map r q
  · exact paired_app q (.cons ⟨rfl, rfl, r⟩ .nil)
theorem ents_to : ∀ {xs : NE} {ys : List (NestedKey × Addr × Value)}, Paired NV xs ys → (∀ x ∈ xs, ∀ w' : World, x.1.hash w = x.1.hash w') → Paired NEnt xs (ys.map (entryOfKey (nestedKind P w)))
  | _, _, .nil, _ => .nil
  | _, _, .cons (a := x) (b := y) q t, hh => by
    rw [List.map_cons]
    refine .cons ⟨fun w' => ?_, ?_, q.2.2⟩ (ents_to t fun z hz => hh z (List.mem_cons_of_mem _ hz))
    · show y.1.hash w = _
      rw [← q.1]
      exact hh x List.mem_cons_self w'
    · show Value.ref y.2.1 = _
      rw [q.2.1]
theorem putN_mem {xs : NE} {k : NestedKey} {b : Addr} {v : V} {x : NestedKey × Addr × V} (hx : x ∈ putN xs k b v) : (x.1 = k ∧ x.2.1 = b) ∨ ∃ y ∈ xs, y.1 = x.1 ∧ y.2.1 = x.2.1 := by
  unfold putN at hx
  split at hx
  · obtain ⟨y, hy, e⟩ := List.mem_map.mp hx
    refine .inr ⟨y, hy, ?_⟩
    subst e
    split <;> exact ⟨rfl, rfl⟩
  · rcases List.mem_append.mp hx with z | z
    · exact .inr ⟨x, z, rfl, rfl⟩
    · rw [List.mem_singleton.mp z]
      exact .inl ⟨rfl, rfl⟩
theorem valN_none {xs : NE} {k : NestedKey} (h : ¬ (valN xs k).isSome = true) : k ∉ xs.map (·.1) := fun hm => by
  obtain ⟨x, hx, e⟩ := List.mem_map.mp hm
  apply h
  unfold valN
  rw [Option.isSome_map, List.find?_isSome]
  exact ⟨x, hx, decide_eq_true e⟩
theorem NKs.put {xs : NE} {k : NestedKey} {b : Addr} {v : V} (h : NKs H xs) (hk : NestH H k (.ref b)) (hd : k.depth ≤ 8) : NKs H (putN xs k b v) := by
  refine ⟨?_, fun x hx => ?_⟩
  · unfold putN
    split
    · rw [List.map_map, show ((·.1) ∘ fun x : NestedKey × Addr × V => if x.1 = k then (x.1, x.2.1, v) else x) = (·.1) from funext fun x => by
        show (if x.1 = k then (x.1, x.2.1, v) else x).1 = x.1
        split <;> rfl]
      exact h.nd
    · rename_i c
      rw [List.map_append]
      exact List.nodup_append.mpr ⟨h.nd, by simp, fun a ha c' hc => by
        have hc : c' = k := by simpa using hc
        subst hc
        intro e
        subst e
        exact valN_none c ha⟩
  · rcases putN_mem hx with ⟨e1, e2⟩ | ⟨y, hy, e1, e2⟩
    · rw [e1, e2]; exact ⟨hk, hd⟩
    · rw [← e1, ← e2]; exact h.is y hy
theorem NKs.mono {H' : Hp} {xs : NE} (e : Same H H') (h : NKs H xs) : NKs H' xs := ⟨h.nd, fun x hx => ⟨(h.is x hx).1.mono e, (h.is x hx).2⟩⟩
end
/-- what the dict at a holds at the key y -/
def NGet (H : Hp) (a : Addr) (y : V) (r : Option V) : Prop := ∃ xs k b, Rd H a (nkO a xs) ∧ NKs H xs ∧ y = .ref b ∧ NestH H k (.ref b) ∧ k.depth ≤ 8 ∧ r = valN xs k
def NPut (H : Hp) (a : Addr) (y v : V) (H' : Hp) : Prop := ∃ xs k b, H a = some (nkO a xs) ∧ NKs H xs ∧ y = .ref b ∧ NestH H k (.ref b) ∧ k.depth ≤ 8 ∧ xs.length < sizeLine ∧ H' = upd H a (nkO a (putN xs k b v))
section
variable {X : Cx} {pins : List (Addr × Obj)} {σ : L2.St} {H : Hp} {s : Shared} {a : Addr} {y v : V} {u r : Value} {o : Option V} {A : Around} {E : Value → Shared → Prop}
theorem n_in {Q : Value → Shared → Prop} (hu : A.units + 9 < cLine) (I : Inv X pins σ H s) (g : NGet H a y o) (ry : RelV y u) (h : ∀ s', Inv X pins σ H s' → Q (.bool o.isSome) s') :
    wpAny (model X.prog X.w) A (compareOp .In u (.ref a)) Q E s := by
  obtain ⟨xs, k, b, e, ks, ey, hk, dp, l⟩ := g
  subst ey
  cases (show u = Value.ref b from ry)
  obtain ⟨z, hd, ys, rel, dd⟩ := nk_rd I.hok e ks
  refine wpAny_in_heap (knd := nestedKind X.prog X.w) (by show A.in1.units + 8 < cLine; exact hu) ⟨hk.is I.hok rfl, dp⟩ hd dd ?_
  have q := (nv_val k rel).isSome_eq
  rw [Option.isSome_map] at q
  rw [← q, ← l]
  exact h _ (I.tok _)
theorem n_notIn {Q : Value → Shared → Prop} (hu : A.units + 9 < cLine) (I : Inv X pins σ H s) (g : NGet H a y o) (ry : RelV y u) (h : ∀ s', Inv X pins σ H s' → Q (.bool (!o.isSome)) s') :
    wpAny (model X.prog X.w) A (compareOp .NotIn u (.ref a)) Q E s := by
  obtain ⟨xs, k, b, e, ks, ey, hk, dp, l⟩ := g
  subst ey
  cases (show u = Value.ref b from ry)
  obtain ⟨z, hd, ys, rel, dd⟩ := nk_rd I.hok e ks
  refine wpAny_notIn_heap (knd := nestedKind X.prog X.w) (by show A.in1.units + 8 < cLine; exact hu) ⟨hk.is I.hok rfl, dp⟩ hd dd ?_
  have q := (nv_val k rel).isSome_eq
  rw [Option.isSome_map] at q
  rw [← q, ← l]
  exact h _ (I.tok _)
theorem n_get2 {Q : Value → Shared → Prop} {z : V} {r : Value} (hu : A.units + 9 < cLine) (I : Inv X pins σ H s) (g : NGet H a y o) (ry : RelV y u) (rz : RelV z r) (h : ∀ w' s', Inv X pins σ H s' → RelV (o.getD z) w' → Q w' s') :
    wpAny (model X.prog X.w) A (call (.builtin "dict.get") [.ref a, u, r]) Q E s := by
  obtain ⟨xs, k, b, e, ks, ey, hk, dp, l⟩ := g
  subst ey
  cases (show u = Value.ref b from ry)
  obtain ⟨_, hd, ys, rel, dd⟩ := nk_rd I.hok e ks
  refine getOr_keyed (knd := nestedKind X.prog X.w) (k := k) (by show A.in1.units + 8 < cLine; exact hu) ⟨hk.is I.hok rfl, dp⟩ hd ⟨ys, dd, rfl⟩ ?_
  rw [valueAt_pairsH]
  have q := nv_val k rel
  rw [← l] at q
  refine h _ _ (I.tok _) ?_
  cases o with
  | none =>
    cases e2 : (atKey ys k).map (·.2) with
    | none => exact rz
    | some v0 => rw [e2] at q; exact False.elim q
  | some v0 =>
    cases e2 : (atKey ys k).map (·.2) with
    | none => rw [e2] at q; exact False.elim q
    | some u0 => rw [e2] at q; exact q
theorem n_setItem {H' : Hp} {Q : Unit → Shared → Prop} (hu : A.units + 9 < cLine) (I : Inv X pins σ H s) (g : NPut H a y v H') (ry : RelV y u) (rv : RelV v r) (h : ∀ s', Inv X pins σ H' s' → Q () s') :
    wpAny (model X.prog X.w) A (setItem (.ref a) u r) Q E s := by
  obtain ⟨xs, k, b, e, ks, ey, hk, dp, l, eH⟩ := g
  subst ey eH
  cases (show u = Value.ref b from ry)
  obtain ⟨z, hd, ys, rel, dd⟩ := nk_rd I.hok (.inl e) ks
  have hz : ys.length ≤ sizeLine := by rw [← Paired.length rel]; exact z
  refine wpAny_setItem_heap (knd := nestedKind X.prog X.w) (hsz := hz) (by show A.in1.units + 8 < cLine; exact hu) ⟨hk.is I.hok rfl, dp⟩ dd fun h' dd' hs => h _ ?_
  obtain ⟨q, es, ep, hq, h2, h3, h4, _, h5⟩ := dd'
  have ks2 : NKs H (putN xs k b v) := ks.put hk dp
  refine d_write I (by rw [e]; exact True.intro) hs ⟨q, hq⟩ (nk_ok ?_ hd hq h2 h3 ?_)
  · have := len_putN xs k b v
    omega
  · rw [h4]
    exact ents_to (nv_put rv rel) fun x hx w' => (ks2.is x hx).1.hash _ _
end
/-! ### the rules -/
/-- {} -/
def tNNew : TE := fun _ H Q => ∀ p, H p = none → Q (.ref p) (upd H p (nkO p []))
def tNIn (ty td : TE) : TE := fun σ H Q => ty σ H fun y H1 => td σ H1 fun x H2 => ∃ a o, x = .ref a ∧ NGet H2 a y o ∧ Q (.bl o.isSome) H2
def tNNotIn (ty td : TE) : TE := fun σ H Q => ty σ H fun y H1 => td σ H1 fun x H2 => ∃ a o, x = .ref a ∧ NGet H2 a y o ∧ Q (.bl (!o.isSome)) H2
def IsN (H : Hp) (a : Addr) : Prop := ∃ xs, Rd H a (nkO a xs)
def tNGet2 (td ty tx : TE) : TE := fun σ H Q => td σ H fun x H1 => ∃ a, x = .ref a ∧ IsN H1 a ∧ ty σ H1 fun y H2 => tx σ H2 fun z H3 => ∃ o, NGet H3 a y o ∧ Q (o.getD z) H3
def rSetN : TSet := fun o i v H Q => ∃ a H', o = .ref a ∧ NPut H a i v H' ∧ Q H'
section
variable {X : Cx} {o i e f : Expr} {pos apos cpos : Pos} {td ty tx : TE}
theorem isN_at {pins : List (Addr × Obj)} {σ : L2.St} {H : Hp} {s : Shared} {a : Addr} (I : Inv X pins σ H s) (d : IsN H a) :
    s.TypeIs (.ref a) "dict" ∧ (∀ b, Value.ref a = .ref b → ∃ ob, s.heap.get? b = some ob ∧ ob.dict = none) ∧ (a == sysModules) = false := by
  obtain ⟨xs, e⟩ := d
  obtain ⟨⟨⟨z, hd⟩, o, es, ep, h1, h2, h3, h4⟩, _⟩ := (show ObjOk X.prog X.w H s.heap a (nkO a xs) from e.ok I.hok)
  refine ⟨⟨o, h1, h2.1⟩, fun b q => ?_, hd⟩
  cases q
  exact ⟨o, h1, h2.2.1⟩
theorem pe_nnew : PE X (.Dict [] [] pos) tNNew := ⟨fun pins s σ H Q I h =>
  wpAny_Dict_empty ⟨.ref s.heap.objs.size, _, I.laid (a := s.heap.objs.size) (o := nkO s.heap.objs.size []) (t' := s.toks) (fun _ _ q => Heap.get?_push_of_some _ q) (Nat.le_refl _)
    (nk_ok (Nat.zero_le _) (beq_eq_false_iff_ne.mpr (Ne.symm (Nat.ne_of_lt I.big))) (Heap.get?_push_size _ rfl) ⟨rfl, rfl, rfl⟩ rfl .nil), rfl, h _ (I.hok.fresh (Nat.le_refl _))⟩⟩
theorem pc_nin (hu : X.A.units + 9 < cLine) (hi : PE X i ty) (ho : PE X o td) : PC X .In i o (tNIn ty td) := by
  refine ⟨fun pins s σ H Q I h => ?_⟩
  refine thn (hi.run pins s σ H _ I h) fun iv s1 ⟨y, H1, I1, ry, q1⟩ => thn (ho.run pins s1 σ H1 _ I1 q1) fun u s2 ⟨x, H2, I2, rx, a, ov, ex, g, q2⟩ => ?_
  subst ex
  obtain rfl : u = Value.ref a := rx
  exact n_in hu I2 g ry fun s3 I3 => ⟨.bl ov.isSome, H2, I3, rfl, q2⟩
theorem pc_nnotin (hu : X.A.units + 9 < cLine) (hi : PE X i ty) (ho : PE X o td) : PC X .NotIn i o (tNNotIn ty td) := by
  refine ⟨fun pins s σ H Q I h => ?_⟩
  refine thn (hi.run pins s σ H _ I h) fun iv s1 ⟨y, H1, I1, ry, q1⟩ => thn (ho.run pins s1 σ H1 _ I1 q1) fun u s2 ⟨x, H2, I2, rx, a, ov, ex, g, q2⟩ => ?_
  subst ex
  obtain rfl : u = Value.ref a := rx
  exact n_notIn hu I2 g ry fun s3 I3 => ⟨.bl (!ov.isSome), H2, I3, rfl, q2⟩
theorem pe_nget2 (hu : X.A.units + 9 < cLine) (ho : PE X o td) (he : PE X e ty) (hf : PE X f tx) (m : M2 X o "get" apos e f cpos) : PE X (.Call (.Attribute o "get" apos) [e, f] [] cpos) (tNGet2 td ty tx) := by
  refine ⟨fun pins s σ H Q I h => ?_⟩
  refine wpAny_Call_method m.base m.few m.line PySem.F.plainAttrs_dict PySem.F.slot_dict_get PySem.F.type_dict_get (thn (ho.run pins s σ H _ I h) fun u s1 ⟨x, H1, I1, rx, a, ex, d, q1⟩ => ?_)
  subst ex
  obtain rfl : u = Value.ref a := rx
  obtain ⟨t1, t2, _⟩ := isN_at I1 d
  refine ⟨t1, t2, ?_⟩
  rw [m.trees]
  refine Calls.callWith_builtin rfl (Calls.evalArgs_plain (Calls.spliced_cons (thn (he.run pins s1 σ H1 _ I1 q1) fun iv s2 ⟨y, H2, I2, ry, q2⟩ =>
    Calls.spliced_cons (thn (hf.run pins s2 σ H2 _ I2 q2) fun fv s3 ⟨z, H3, I3, rz, ov, g, q3⟩ => Calls.spliced_nil ?_))))
  exact n_get2 hu I3 g ry rz fun w' s4 I4 rw' => ⟨_, H3, I4, rw', q3⟩
theorem set_nest (hu : X.A.units + 9 < cLine) : PSet X rSetN := by
  intro pins s σ H o i v ov iv u Q I ro ri rv h
  obtain ⟨a, H', eo, g, q⟩ := h
  subst eo
  cases (show ov = Value.ref a from ro)
  exact n_setItem hu I g ri rv fun s' I' => ⟨H', I', q⟩
end
end ML

/-! ## dicts whose keys are nested: copies, updates, walks -/
namespace ML
open PySem PySem.Spec PyProof.Rows L2

theorem DictOfH.push' {P : Program} {w : World} {h : Heap} {d : Addr} {ys : List (NestedKey × Addr × Value)} (x : h.DictOfH (nestedKind P w) d ys) (o : Obj) : (h.push o).DictOfH (nestedKind P w) d ys := by
  obtain ⟨o', es, ep, h1, h2, h3, h4, h5, h6⟩ := x
  exact ⟨o', es, ep, Heap.get?_push_of_some _ h1, h2, h3, h4, fun y hy => nestedKind_stays.stays (fun b ob _ _ e _ => Heap.get?_push_of_some _ e) (h5 y hy), h6⟩
section
variable {P : Program} {w : World} {A : Around} {E : Value → Shared → Prop} {s : Shared}
theorem nk_call_dict {o : Addr} {more : List (NestedKey × Addr × Value)} {Q : Value → Shared → Prop} (hu : A.units + 32 < cLine) (hoS : (o == sysModules) = false) (ho : s.heap.DictOfH (nestedKind P w) o more) (hap : (more.map fun x => x.1.hash w).Nodup) (hsz : more.length ≤ sizeLine)
    (h : ∀ h', h'.DictOfH (nestedKind P w) s.heap.objs.size more → Heap.SameBut s.heap.objs.size (s.heap.push { cls := .type "dict", data := .dict #[] }) h' → Q (.ref s.heap.objs.size) { s with heap := h' }) :
    wpAny (model P w) A (call (.type "dict") [.ref o]) Q E s := by
  refine callType_codes (Q₁ := fun obj s₁ => obj = .ref s.heap.objs.size ∧ s₁ = { s with heap := s.heap.push { cls := .type "dict", data := .dict #[] } }) F.kt_called_dict (F.kt_typeCall_dict_1 _) F.entry_dict_init (kt_code_dict_new _ ⟨rfl, rfl⟩) ?_
  rintro obj s₁ ⟨rfl, rfl⟩
  have hnew : (s.heap.push { cls := .type "dict", data := .dict #[] }).DictOfH (nestedKind P w) s.heap.objs.size [] := Heap.DictOfH.new s.heap
  have ho' : (s.heap.push { cls := .type "dict", data := .dict #[] }).DictOfH (nestedKind P w) o more := DictOfH.push' ho _
  have hdo : s.heap.objs.size ≠ o := by
    obtain ⟨_, _, _, hg, _⟩ := ho
    exact fun e => absurd (Heap.lt_size hg) (by rw [e]; exact Nat.lt_irrefl _)
  have hT : Shared.TypeIs { s with heap := s.heap.push { cls := .type "dict", data := .dict #[] } } (.ref s.heap.objs.size) "dict" := ⟨_, Heap.get?_push_size _ rfl, rfl⟩
  refine ⟨hT, F.args_dict_init_2 _ _, ?_⟩
  unfold Builtin.«dict.__init__»
  refine wpAny_bind ?_
  unfold Builtin.Dict.selfAndRest
  refine wpAny_bind (wpAny_notOrdered_dict hT ?_)
  show wpAny _ _ (pure (s.heap.objs.size, [Value.ref o])) _ _ _
  refine wpAny_pure ?_
  show wpAny _ _ (Builtin.Dict.updateFrom "dict.__init__" s.heap.objs.size (.ref o) [] .none) _ _ _
  refine updateFrom_dictH (A := A.in1) (s := { s with heap := s.heap.push { cls := .type "dict", data := .dict #[] } }) .none ?_ hdo hoS hnew ho' (.inr ⟨keyed_apart nestedKind_stays ho', hap⟩) (by simpa using hsz) fun h' hd' _ hs' => ?_
  · show A.in1.in1.units + 8 < cLine
    have : A.in1.in1.units = A.units + 2 := rfl
    omega
  · have en : storedAllH [] more = more := storedAllH_nil_of_nodup more ho.nodup
    rw [en] at hd'
    exact ⟨rfl, h h' hd' hs'⟩
end
/-- dict(d), d of nested keys whose hashes differ -/
def rDictN : List V → Hp → VK → Prop := fun xs H Q => ∃ (a : Addr) (ps : NE), xs = [.ref a] ∧ Rd H a (nkO a ps) ∧ NKs H ps ∧ (∀ w : World, (ps.map fun x => x.1.hash w).Nodup) ∧ ∀ p, H p = none → Q (.ref p) (upd H p (nkO p ps))
section
variable {X : Cx}
theorem nv_hash {w : World} : ∀ {xs : NE} {ys : List (NestedKey × Addr × Value)}, Paired NV xs ys → (ys.map fun x => x.1.hash w) = xs.map fun x => x.1.hash w
  | _, _, .nil => rfl
  | _, _, .cons q t => by rw [List.map_cons, List.map_cons, nv_hash t, q.1]
theorem call_dictN (hu : X.A.units + 32 < cLine) : CallR X (.type "dict") rDictN := by
  intro pins s σ H xs us Q I r q
  obtain ⟨a, ps, ex, hd, ks, hap, q⟩ := q
  subst ex
  obtain ⟨u, eu, rx⟩ := vals1 r
  subst eu
  cases rx
  obtain ⟨z, lo, ys, rel, dd⟩ := nk_rd I.hok hd ks
  refine nk_call_dict hu lo dd (by rw [nv_hash rel]; exact hap _) (by rw [← Paired.length rel]; exact z) fun h' d' hs => ?_
  have hm : (s.heap.objs.size == sysModules) = false := beq_eq_false_iff_ne.mpr (Nat.ne_of_gt I.big)
  obtain ⟨o, es, ep, h1, h2, h3, h4, _, _⟩ := d'
  exact ⟨.ref s.heap.objs.size, upd H s.heap.objs.size (nkO s.heap.objs.size ps), I.laid (t' := s.toks) (fun b u e => (hs.2 b (Nat.ne_of_lt (Heap.lt_size e))).trans (Heap.get?_push_of_some _ e)) (Nat.le_refl _)
    (nk_ok z hm h1 h2 h3 (by rw [h4]; exact ents_to rel fun x hx w' => (ks.is x hx).1.hash _ _)), rfl, q _ (I.hok.fresh (Nat.le_refl _))⟩
end
end ML

/-! ## walks over dicts whose keys are nested -/
namespace ML
open PySem PySem.Spec PyProof.Rows L2

/-- the keys' own tuples -/
def Itnk (d : Addr) (o : Obj) (xs : NE) : It :=
  ⟨fun i H => H d = some (.frz o (nkO d xs)) ∧ i < xs.length, fun i H x H' => H' = H ∧ ∃ k b v, xs[i]? = some (k, b, v) ∧ x = .ref b, fun i H => H d = some (.frz o (nkO d xs)) ∧ xs.length ≤ i⟩
/-- the pairs, each new -/
def Itni (d : Addr) (o : Obj) (xs : NE) : It :=
  ⟨fun i H => H d = some (.frz o (nkO d xs)) ∧ i < xs.length, fun i H x H' => ∃ T k b v, xs[i]? = some (k, b, v) ∧ x = .ref T ∧ H T = none ∧ H' = upd H T (.tup [.ref b, v]), fun i H => H d = some (.frz o (nkO d xs)) ∧ xs.length ≤ i⟩
section
variable {X : Cx} {pins : List (Addr × Obj)} {σ : L2.St} {H : Hp} {s : Shared} {d : Addr} {o : Obj} {xs : NE}
theorem paired_at {α β : Type} {F : α → β → Prop} : ∀ {l₁ : List α} {l₂ : List β}, Paired F l₁ l₂ → ∀ {i : Nat} {a : α}, l₁[i]? = some a → ∃ b, l₂[i]? = some b ∧ F a b
  | _, _, .nil, i, a, e => by simp at e
  | _, _, .cons (a := x) (b := y) q t, 0, a, e => ⟨y, rfl, by simpa using (Option.some.inj e) ▸ q⟩
  | _, _, .cons q t, i + 1, a, e => by
    obtain ⟨b, hb, r⟩ := paired_at t (i := i) (by simpa using e)
    exact ⟨b, by simpa using hb, r⟩
theorem frzN (I : Inv X pins σ H s) (h : H d = some (.frz o (nkO d xs))) :
    (d == sysModules) = false ∧ s.heap.get? d = some o ∧ o.ExactDict ∧ ∃ (es : Array DictEntry) (ep : Nat), o.data = .dict es ep ∧ es.size = xs.length ∧ Paired NEnt xs es.toList := by
  obtain ⟨hd, ⟨⟨z, hs⟩, o', es, ep, ho, hx, hdt, he⟩, _⟩ := (show ObjOk X.prog X.w H s.heap d (.frz o (nkO d xs)) from I.hok d _ h)
  rw [hd] at ho
  cases ho
  refine ⟨hs, hd, hx, es, ep, hdt, ?_, he⟩
  have l1 := Paired.length he
  rw [Array.length_toList] at l1
  exact l1.symm
end
section
variable {P : Program} {w : World} {K : PySem.W.Frag} {tg : Expr} {d : Addr} {o : Obj} {es : Array DictEntry} {ep : Nat} {xs : NE}
theorem turn_keysN (it : Addr) (hod : o.data = .dict es ep) : Turn P w K tg (Itnk d o xs) [it] it (fun i h => h.IsKeyIter it d i xs.length ep) where
  mem := by simp
  obj := fun i h st b hb => by
    have e : b = it := by simpa using hb
    subst e
    obtain ⟨oi, e, c, dd⟩ := st
    exact ⟨oi, e, fun v z => by rw [dd] at z; cases z⟩
  keep := fun i h h' st k => st.at fun oi e => k it (by simp) oi e
  item := by
    intro X hP hw hK hc i pins s σ H E I hf st hg
    subst hP hw hK
    obtain ⟨hd, hi⟩ := hg
    obtain ⟨f0, f1, f2, f3, f4, f5⟩ := hf it (by simp)
    obtain ⟨hs, hgd, hx, es', ep', hdt, hsz, ent⟩ := frzN I hd
    obtain ⟨rfl, rfl⟩ := dict_ep hod hdt
    obtain ⟨⟨k, q, v⟩, hkv⟩ : ∃ p, xs[i]? = some p := ⟨xs[i], List.getElem?_eq_getElem hi⟩
    obtain ⟨en, hen, _, hkey, _⟩ := paired_at ent hkv
    rw [Array.getElem?_toList] at hen
    refine next_key_item st hgd hdt hsz hen fun h' st' sb => ?_
    have I1 : Inv X pins σ H { s with heap := h' } := I.turned (t' := s.toks) (fun b ob hb e => (sb.2 b hb).trans e) f0 f1 f3 f4 f5
    obtain ⟨oi, e, c, dd⟩ := id st'
    exact ⟨en.key, rfl, go_of (s := { s with heap := h' }) e c dd (by decide) ⟨.ref q, H, I1, hkey, ⟨rfl, k, q, v, hkv, rfl⟩, st', fun b hb => (hf b hb).1⟩⟩
  done := by
    intro X hP hw hK hc i pins s σ H E I hf st hg
    subst hP hw hK
    obtain ⟨hd, hi⟩ := hg
    obtain ⟨f0, f1, f2, f3, f4, f5⟩ := hf it (by simp)
    obtain ⟨hs, hgd, hx, es', ep', hdt, hsz, ent⟩ := frzN I hd
    obtain ⟨rfl, rfl⟩ := dict_ep hod hdt
    exact next_key_end (I.ok.hd hc) st hgd hdt hsz hi fun h' eb => ⟨rfl, I.turned (t' := s.toks) (fun b ob hb e => eb b ob hb e) f0 f1 f3 f4 f5⟩
  self := fun A i s Q E st h => by
    refine wpAny_pyIter_slot st.typeIs F.slot_dict_keyiterator_iter (wpAny_call_entry F.slot_dict_keyiterator_iter st.typeIs F.entry_dict_keyiterator_iter ?_ (F.args_dict_keyiterator_iter_1 _))
    show wpAny _ _ (ret (.ref it)) _ _ s
    exact wpAny_pure ⟨_, rfl, "dict_keyiterator", _, st.typeIs, F.slot_dict_keyiterator_next.lookup, h⟩
theorem turn_itemsN {elts : List Expr} {kk : Nat} {tpos : Pos} (it : Addr) (hod : o.data = .dict es ep) :
    Turn P w K (.Tuple elts kk tpos) (Itni d o xs) [it] it (fun i h => ∃ ok ov, IsItemIter h it d i xs.length ep ok ov) where
  mem := by simp
  obj := fun i h st b hb => by
    have e : b = it := by simpa using hb
    subst e
    obtain ⟨ok, ov, e⟩ := st
    exact ⟨_, e, fun v z => nomatch z⟩
  keep := fun i h h' st k => let ⟨ok, ov, e⟩ := st; ⟨ok, ov, k it (by simp) _ e⟩
  item := by
    intro X hP hw hK hc i pins s σ H E I hf st hg
    subst hP hw hK
    obtain ⟨hd, hi⟩ := hg
    obtain ⟨hs, hgd, hx, es', ep', hdt, hsz, ent⟩ := frzN I hd
    obtain ⟨rfl, rfl⟩ := dict_ep hod hdt
    obtain ⟨⟨k, q, v⟩, hkv⟩ : ∃ p, xs[i]? = some p := ⟨xs[i], List.getElem?_eq_getElem hi⟩
    obtain ⟨en, hen, _, hkey, hval⟩ := paired_at ent hkv
    rw [Array.getElem?_toList] at hen
    have hie : i < es'.size := by rw [hsz]; exact hi
    have een : es'[i] = en := by rw [Array.getElem?_eq_getElem hie] at hen; exact Option.some.inj hen
    obtain ⟨ok, ov, he⟩ := st
    rw [← hsz] at he
    have hlt : it < s.heap.objs.size := Heap.lt_size he
    refine wpAny_pyNext_items_item_raw he ⟨o, hgd, hx, hdt⟩ hie fun h' ho hT hz hk => ?_
    rw [een] at ho hT
    refine ⟨_, rfl, wpAny_letOwnedTupleGo_items (s := { s with heap := h' }) ho fun h'' he' sb => ?_⟩
    have hT2 : h''.get? s.heap.objs.size = some { cls := .type "tuple", data := .seq #[en.key, en.val] } := (sb.2 _ (Nat.ne_of_gt hlt)).trans hT
    have new : ObjOk X.prog X.w (upd H s.heap.objs.size (.tup [.ref q, v])) h'' s.heap.objs.size (.tup [.ref q, v]) :=
      ⟨by show 2 ≤ sizeLine; decide, [en.key, en.val], .cons hkey (.cons hval .nil), ⟨_, hT2, rfl, _, rfl⟩⟩
    have I1 : Inv X pins σ (upd H s.heap.objs.size (.tup [.ref q, v])) { s with heap := h'' } :=
      I.turnedNew (t' := s.toks) (ch := [it]) (fun b ob hb e => (sb.2 b (by simpa using hb)).trans (hk b ob (by simpa using hb) e)) hf (Nat.le_refl _) new
    refine ⟨.ref s.heap.objs.size, _, I1, rfl, ⟨_, k, q, v, hkv, rfl, I.hok.fresh (Nat.le_refl _), rfl⟩, ⟨en.key, en.val, ?_⟩, fun b hb => ?_⟩
    · rw [← hsz]; exact he'
    · have e : b = it := by simpa using hb
      rw [e, upd_ne (Nat.ne_of_lt hlt)]
      exact (hf it (by simp)).1
  done := by
    intro X hP hw hK hc i pins s σ H E I hf st hg
    subst hP hw hK
    obtain ⟨hd, hi⟩ := hg
    obtain ⟨f0, f1, f2, f3, f4, f5⟩ := hf it (by simp)
    obtain ⟨hs, hgd, hx, es', ep', hdt, hsz, ent⟩ := frzN I hd
    obtain ⟨rfl, rfl⟩ := dict_ep hod hdt
    obtain ⟨ok, ov, he⟩ := st
    rw [← hsz] at he
    exact wpAny_pyNext_items_end_raw (I.ok.hd hc) he ⟨o, hgd, hx, hdt⟩ (by omega) fun h' eb => ⟨rfl, I.turned (t' := s.toks) (fun b ob hb e => eb b ob hb e) f0 f1 f3 f4 f5⟩
  self := fun A i s Q E st h => let ⟨_, _, e⟩ := st; PySem.W.kcp_self e h
end
/-- the dict is locked -/
def iKeysN (td : TE) : TI := fun σ H R => td σ H fun x H1 => ∃ d o xs, x = .ref d ∧ H1 d = some (.frz o (nkO d xs)) ∧ R (Itnk d o xs) H1
def iItemsN (td : TE) : TI := fun σ H R => td σ H fun x H1 => ∃ d o xs, x = .ref d ∧ H1 d = some (.frz o (nkO d xs)) ∧ R (Itni d o xs) H1
section
variable {X : Cx} {tg e : Expr} {td : TE} {apos cpos : Pos}
theorem pi_keysN (he : PE X e td) : PI X tg e (iKeysN td) := by
  refine ⟨fun pins s σ H R I h => ?_⟩
  refine thn (he.run pins s σ H _ I h) fun u s1 ⟨x, H1, I1, rx, d, o, xs, ex, hd, q⟩ => ?_
  subst ex
  obtain rfl : u = Value.ref d := rx
  obtain ⟨hs, hgd, hx, es, ep, hdt, hsz, ent⟩ := frzN I1 hd
  refine iter_keys hs hgd hx hdt (pi_one (tk := s1.toks) I1 _ (turn_keysN _ hdt) ⟨_, Heap.get?_push_size _ rfl, rfl, ?_⟩ q)
  rw [hsz] <;> rfl
theorem pi_itemsN {elts : List Expr} {kk : Nat} {tpos : Pos} (he : PE X e td) (hbase : attributeBase e "items" X.env (eval e X.env) = eval e X.env := by rfl) (hline : (apos.endLine == cpos.line) = true := by rfl) :
    PI X (.Tuple elts kk tpos) (.Call (.Attribute e "items" apos) [] [] cpos) (iItemsN td) := by
  refine ⟨fun pins s σ H R I h => ?_⟩
  refine wpAny_Call_method (T := "dict") (id := "dict.items") hbase rfl hline F.plainAttrs_dict F.slot_dict_items F.type_dict_items (thn (he.run pins s σ H _ I h) fun u s1 ⟨x, H1, I1, rx, d, o, xs, ex, hd, q⟩ => ?_)
  subst ex
  obtain rfl : u = Value.ref d := rx
  obtain ⟨hs, hgd, hx, es, ep, hdt, hsz, ent⟩ := frzN I1 hd
  have raw : s1.heap.DictRaw d es ep := ⟨o, hgd, hx, hdt⟩
  refine ⟨raw.typeIs, (fun b q => by cases q; exact ⟨o, hgd, hx.2.1⟩), ?_⟩
  have I2 : Inv X pins σ H1 { s1 with heap := s1.heap.push { cls := .type "dict_items", data := .fields #[.ref d] } } := I1.kept (t' := s1.toks) fun b ob q => Heap.get?_push_of_some _ q
  have fin : wpAny (model X.prog X.w) X.A (pyIter (.ref s1.heap.objs.size)) (PIE X pins σ (.Tuple elts kk tpos) R) X.xe { s1 with heap := s1.heap.push { cls := .type "dict_items", data := .fields #[.ref d] } } := by
    refine wpAny_pyIter_items_raw (d := d) ⟨_, Heap.get?_push_size _ rfl, rfl, rfl⟩ (raw.at fun ob e => Heap.get?_push_of_some _ e) (pi_one (tk := s1.toks) I2 _ (turn_itemsN _ hdt) ⟨.none, .none, ?_⟩ q)
    rw [← hsz]
    exact Heap.get?_push_size _ rfl
  show wpAny _ _ (callWith cpos (.builtin "dict.items") [.ref d] [] []) _ X.xe s1
  exact method_meetsIn F.slot_dict_items F.entry_dict_items rfl (PySem.evalArgs_none ⟨rfl, raw.typeIs, F.args_dict_items_1 _, _, meets_dict_items_raw d hs, ⟨⟨es, ep, raw⟩, fin⟩⟩)
end
end ML

/-! ## dicts whose keys are nested, in the layer -/
namespace ML
open PySem PySem.Spec PyProof.Rows L2

/-- values that are keys -/
structure KR {κ : Type} (r : R κ) where
  nk : κ → NestedKey
  inj : ∀ x y, nk x = nk y → x = y
  dep : Nat
  low : ∀ x, (nk x).depth ≤ dep
  is : ∀ {x : κ} {F : Hp} {v : V}, r.p x F v → NestH F (nk x) v
def kInt : KR rInt := ⟨.num, fun x y e => by injection e, 0, fun x => Nat.le_refl _, fun {x F v} h => by
  have h : v = .int x := h
  subst h
  exact .int x⟩
def kBool : KR rBool := ⟨fun b => .num (if b = true then 1 else 0), fun x y e => by
  have e : (if x = true then (1 : Int) else 0) = if y = true then 1 else 0 := by injection e
  cases x <;> cases y <;> simp at e ⊢, 0, fun x => Nat.le_refl _, fun {x F v} h => by
  have h : v = .bl x := h
  subst h
  exact .bl x⟩
theorem nest_all {κ : Type} {r : R κ} (k : KR r) {F : Hp} : ∀ {xs : List κ} {us : List V}, All2 (fun x u => r.p x F u) xs us → NestHs F (xs.map k.nk) us
  | _, _, .nil => .nil
  | _, _, .cons q t => .cons (k.is q) (nest_all k t)
theorem depth_all {κ : Type} {f : κ → NestedKey} {n : Nat} (h : ∀ x, (f x).depth ≤ n) : ∀ xs : List κ, NestedKey.depthAll (xs.map f) ≤ n
  | [] => Nat.zero_le _
  | x :: xs => by
    rw [List.map_cons, NestedKey.depthAll]
    exact Nat.max_le.mpr ⟨h x, depth_all h xs⟩
theorem map_inj {α β : Type} {f : α → β} (h : ∀ x y, f x = f y → x = y) : ∀ xs ys : List α, xs.map f = ys.map f → xs = ys
  | [], [], _ => rfl
  | [], _ :: _, e => by cases e
  | _ :: _, [], e => by cases e
  | x :: xs, y :: ys, e => by
    rw [List.map_cons, List.map_cons] at e
    injection e with e1 e2
    rw [h x y e1, map_inj h xs ys e2]
def kTup {κ : Type} {r : R κ} (k : KR r) : KR (rTup r) := ⟨fun xs => .tup (xs.map k.nk), fun x y e => map_inj k.inj x y (by injection e), k.dep + 1, fun x => by
  rw [NestedKey.depth]
  have := depth_all k.low x
  omega, fun {x F v} h => by
  obtain ⟨hz, a, us, rfl, hF, hA⟩ := h
  exact .tup hF (nest_all k hA)⟩
section
variable {κ α : Type} {rk : R κ}
/-- a table's rows -/
abbrev RowN (kr : KR rk) (r : R α) (F : Hp) : (κ × α) → (NestedKey × Addr × V) → Prop := fun x y => y.1 = kr.nk x.1 ∧ rk.p x.1 F (.ref y.2.1) ∧ r.p x.2 F y.2.2
theorem rowsN_mono {kr : KR rk} {r : R α} {F F' : Hp} {xs : List (κ × α)} {ys : NE} (e : Same F F') (h : All2 (RowN kr r F) xs ys) : All2 (RowN kr r F') xs ys := h.imp fun _ _ q => ⟨q.1, rk.mono e q.2.1, r.mono e q.2.2⟩
theorem rowsN_keys {kr : KR rk} {r : R α} {F : Hp} : ∀ {xs : List (κ × α)} {ys : NE}, All2 (RowN kr r F) xs ys → ys.map (·.1) = xs.map fun x => kr.nk x.1
  | _, _, .nil => rfl
  | _, _, .cons q t => by rw [List.map_cons, List.map_cons, rowsN_keys t, q.1]
theorem rowsN_mem {kr : KR rk} {r : R α} {F : Hp} : ∀ {xs : List (κ × α)} {ys : NE}, All2 (RowN kr r F) xs ys → ∀ y ∈ ys, ∃ x ∈ xs, RowN kr r F x y
  | _, _, .nil => fun y h => nomatch h
  | _, _, .cons q t => fun y h => by
    rcases List.mem_cons.mp h with e | h
    · subst e; exact ⟨_, List.mem_cons_self, q⟩
    · obtain ⟨x, hx, z⟩ := rowsN_mem t y h
      exact ⟨x, List.mem_cons_of_mem _ hx, z⟩
theorem rowsN_ks {kr : KR rk} (dp : kr.dep ≤ 8) {r : R α} {F H : Hp} (e : Same F H) {xs : List (κ × α)} {ys : NE} (nd : (xs.map (·.1)).Nodup) (h : All2 (RowN kr r F) xs ys) : NKs H ys := by
  refine ⟨?_, fun y hy => ?_⟩
  · rw [rowsN_keys h, show (xs.map fun x => kr.nk x.1) = (xs.map (·.1)).map kr.nk by rw [List.map_map]; rfl]
    exact List.Pairwise.map _ (fun a b hab e => hab (kr.inj a b e)) nd
  · obtain ⟨x, hx, e1, e2, _⟩ := rowsN_mem h y hy
    rw [e1]
    exact ⟨(kr.is e2).mono e, Nat.le_trans (kr.low _) dp⟩
variable [DecidableEq κ]
def gotN (xs : List (κ × α)) (k : κ) : Option α := (xs.find? fun p => decide (p.1 = k)).map (·.2)
def putNN (xs : List (κ × α)) (k : κ) (x : α) : List (κ × α) := if (gotN xs k).isSome = true then xs.map (fun p => if p.1 = k then (p.1, x) else p) else xs ++ [(k, x)]
def oPutN (xs : List (κ × α)) (k : κ) (x : α) : Option (List (κ × α)) := if xs.length < sizeLine then some (putNN xs k x) else none
theorem len_putNN (xs : List (κ × α)) (k : κ) (x : α) : (putNN xs k x).length ≤ xs.length + 1 := by
  unfold putNN
  split
  · rw [List.length_map]; omega
  · rw [List.length_append]; simp
theorem gotN_none {xs : List (κ × α)} {k : κ} (h : ¬ (gotN xs k).isSome = true) : k ∉ xs.map (·.1) := fun hm => by
  obtain ⟨x, hx, e⟩ := List.mem_map.mp hm
  apply h
  unfold gotN
  rw [Option.isSome_map, List.find?_isSome]
  exact ⟨x, hx, decide_eq_true e⟩
theorem nodup_putNN {xs : List (κ × α)} {k : κ} {x : α} (nd : (xs.map (·.1)).Nodup) : ((putNN xs k x).map (·.1)).Nodup := by
  unfold putNN
  split
  · rw [List.map_map, show ((·.1) ∘ fun p : κ × α => if p.1 = k then (p.1, x) else p) = (·.1) from funext fun p => by
      show (if p.1 = k then (p.1, x) else p).1 = p.1
      split <;> rfl]
    exact nd
  · rename_i c
    rw [List.map_append]
    exact List.nodup_append.mpr ⟨nd, by simp, fun a ha c' hc => by
      have hc : c' = k := by simpa using hc
      subst hc
      intro e
      subst e
      exact gotN_none c ha⟩
theorem rowsN_val {kr : KR rk} {r : R α} {F : Hp} (k : κ) : ∀ {xs : List (κ × α)} {ys : NE}, All2 (RowN kr r F) xs ys → (gotN xs k = none ∧ valN ys (kr.nk k) = none) ∨ ∃ x v, gotN xs k = some x ∧ valN ys (kr.nk k) = some v ∧ r.p x F v
  | _, _, .nil => .inl ⟨rfl, rfl⟩
  | _, _, .cons (a := x) (b := y) (l := l) (m := m) q t => by
    by_cases e : x.1 = k
    · refine .inr ⟨x.2, y.2.2, ?_, ?_, q.2.2⟩
      · unfold gotN; rw [List.find?_cons, decide_eq_true e]; rfl
      · unfold valN; rw [List.find?_cons, decide_eq_true (q.1.trans (by rw [e]))]; rfl
    · have e1 : gotN (x :: l) k = gotN l k := by unfold gotN; rw [List.find?_cons, decide_eq_false e]
      have e2 : valN (y :: m) (kr.nk k) = valN m (kr.nk k) := by unfold valN; rw [List.find?_cons, decide_eq_false fun z => e (kr.inj _ _ (q.1.symm.trans z))]
      rw [e1, e2]
      exact rowsN_val k t
theorem rowsN_map {kr : KR rk} {r : R α} {F : Hp} {k : κ} {x : α} {v : V} (hv : r.p x F v) : ∀ {xs : List (κ × α)} {ys : NE}, All2 (RowN kr r F) xs ys →
    All2 (RowN kr r F) (xs.map fun p => if p.1 = k then (p.1, x) else p) (ys.map fun y => if y.1 = kr.nk k then (y.1, y.2.1, v) else y)
  | _, _, .nil => .nil
  | _, _, .cons (a := a) (b := b) q t => by
    rw [List.map_cons, List.map_cons]
    refine .cons ?_ (rowsN_map hv t)
    by_cases e : a.1 = k
    · rw [if_pos e, if_pos (q.1.trans (by rw [e]))]
      exact ⟨q.1, q.2.1, hv⟩
    · rw [if_neg e, if_neg fun z => e (kr.inj _ _ (q.1.symm.trans z))]
      exact q
theorem rowsN_put {kr : KR rk} {r : R α} {F : Hp} {k : κ} {x : α} {b : Addr} {v : V} (hk : rk.p k F (.ref b)) (hv : r.p x F v) {xs : List (κ × α)} {ys : NE} (h : All2 (RowN kr r F) xs ys) : All2 (RowN kr r F) (putNN xs k x) (putN ys (kr.nk k) b v) := by
  have e : (gotN xs k).isSome = (valN ys (kr.nk k)).isSome := by
    rcases rowsN_val k h with ⟨z1, z2⟩ | ⟨y, w, z1, z2, _⟩ <;> rw [z1, z2] <;> rfl
  unfold putNN putN
  rw [e]
  split
  · exact rowsN_map hv h
  · exact h.app (.cons ⟨rfl, hk, hv⟩ .nil)
end
/-- a dict that stands still (locked for good); a dict that changes -/
def rND {κ α : Type} {rk : R κ} (kr : KR rk) (r : R α) : R (List (κ × α)) := ⟨fun (xs : List (κ × α)) F v => (xs.length ≤ sizeLine ∧ kr.dep ≤ 8 ∧ (xs.map fun p : κ × α => p.1).Nodup) ∧ ∃ a od ys, v = .ref a ∧ F a = some (.frz od (nkO a ys)) ∧ All2 (RowN kr r F) xs ys,
  fun {_ _ _ _} e ⟨h0, a, od, ys, h1, h2, h3⟩ => ⟨h0, a, od, ys, h1, e _ _ h2, rowsN_mono e h3⟩⟩
def cND {κ α : Type} {rk : R κ} (p : Addr) (kr : KR rk) (r : R α) (xs : List (κ × α)) : Cl := ⟨fun F o => (xs.length ≤ sizeLine ∧ kr.dep ≤ 8 ∧ (xs.map fun p : κ × α => p.1).Nodup) ∧ ∃ ys, o = nkO p ys ∧ All2 (RowN kr r F) xs ys, fun {_ _ _} e ⟨h0, ys, h1, h2⟩ => ⟨h0, ys, h1, rowsN_mono e h2⟩⟩
section
variable {nx bk ct : L2.St → Hp → Prop} {rt : VK}
variable {W : Wd} {G : Gam} {T : Tms} {cs : Cells} {K : Sl → Cells → Prop} {t : TA} {ta tb tc te to ti td tk : TE} {tt : TT} {KF : PySem.W.Frag}
/-- {} -/
theorem e_nnewC {κ α : Type} {rk : R κ} (kr : KR rk) (r : R α) (dp : kr.dep ≤ 8) (k : ∀ p, K (sRef p) (cs ++ [(p, cND p kr r [])])) : Ev tNNew W G T cs K := fun s H st Q q => fun p hp => by
  obtain ⟨F, c, sg, tm⟩ := st
  exact q _ _ (k p) _ _ ⟨F, c.newCell hp ⟨⟨Nat.zero_le _, dp, List.nodup_nil⟩, [], rfl, .nil⟩, sg, tm.cons rfl⟩
theorem Core.ndict {κ α : Type} {rk : R κ} {kr : KR rk} {F H : Hp} (c : Core W F cs H) {j : Nat} {p : Addr} {r : R α} {xs : List (κ × α)} (hj : cs[j]? = some (p, cND p kr r xs)) : (xs.length ≤ sizeLine ∧ kr.dep ≤ 8 ∧ (xs.map (·.1)).Nodup) ∧ ∃ ys, H p = some (nkO p ys) ∧ All2 (RowN kr r F) xs ys := by
  obtain ⟨_, _, o, h1, h0, ys, e, h2⟩ := c.cell _ (List.mem_of_getElem? hj)
  subst e
  exact ⟨h0, ys, h1, h2⟩
theorem key_ref {F : Hp} {ks : List NestedKey} {v : V} (h : NestH F (.tup ks) v) : ∃ b, v = .ref b := by
  cases h
  exact ⟨_, rfl⟩
/-- what the layer asks: keys are tuples -/
def KTup {κ : Type} {rk : R κ} (kr : KR rk) : Prop := ∀ x, ∃ ks, kr.nk x = .tup ks
theorem ktup {κ : Type} {r : R κ} (k : KR r) : KTup (kTup k) := fun x => ⟨_, rfl⟩
theorem KTup.ref {κ : Type} {rk : R κ} {kr : KR rk} (h : KTup kr) {x : κ} {F : Hp} {v : V} (p : rk.p x F v) : ∃ b, v = .ref b := by
  obtain ⟨ks, e⟩ := h x
  have := kr.is p
  rw [e] at this
  exact key_ref this
/-- k in d, d a cell -/
theorem e_ninC {κ α : Type} [DecidableEq κ] {rk : R κ} (kr : KR rk) (kt : KTup kr) (j : Nat) (ha : Ev tk W G T cs fun sa cs1 => ∀ va, Ev td W G ((va, sa) :: T) cs1 fun sb cs2 => ∃ (p : Addr) (r : R α) (xs : List (κ × α)) (i : κ), sa = rk.at i ∧ sb = sRef p ∧ cs2[j]? = some (p, cND p kr r xs) ∧ K (rBool.at (gotN xs i).isSome) cs2) :
    Ev (tNIn tk td) W G T cs K := fun s H st Q q => by
  refine ha s H st _ fun sa cs1 h1 va H1 st1 => ?_
  refine h1 va s H1 st1 _ fun sb cs2 ⟨p, r, xs, i, e1, e2, hj, k⟩ vb H2 ⟨F, c, sg, tm⟩ => ?_
  subst e1 e2
  have pk : rk.p i F va := tm.tail.head
  have eb : vb = .ref p := tm.head
  subst eb
  obtain ⟨b, rfl⟩ := kt.ref pk
  obtain ⟨⟨_, dp, nd⟩, ys, hH, hA⟩ := c.ndict hj
  refine ⟨p, valN ys (kr.nk i), rfl, ⟨ys, kr.nk i, b, .inl hH, rowsN_ks dp c.fh nd hA, rfl, (kr.is pk).mono c.fh, Nat.le_trans (kr.low _) dp, rfl⟩, q _ _ k _ H2 ⟨F, c, sg, tm.tail.tail.cons ?_⟩⟩
  rcases rowsN_val i hA with ⟨z1, z2⟩ | ⟨y, v, z1, z2, _⟩ <;> rw [z1, z2] <;> rfl
theorem e_nnotinC {κ α : Type} [DecidableEq κ] {rk : R κ} (kr : KR rk) (kt : KTup kr) (j : Nat) (ha : Ev tk W G T cs fun sa cs1 => ∀ va, Ev td W G ((va, sa) :: T) cs1 fun sb cs2 => ∃ (p : Addr) (r : R α) (xs : List (κ × α)) (i : κ), sa = rk.at i ∧ sb = sRef p ∧ cs2[j]? = some (p, cND p kr r xs) ∧ K (rBool.at (!(gotN xs i).isSome)) cs2) :
    Ev (tNNotIn tk td) W G T cs K := fun s H st Q q => by
  refine ha s H st _ fun sa cs1 h1 va H1 st1 => ?_
  refine h1 va s H1 st1 _ fun sb cs2 ⟨p, r, xs, i, e1, e2, hj, k⟩ vb H2 ⟨F, c, sg, tm⟩ => ?_
  subst e1 e2
  have pk : rk.p i F va := tm.tail.head
  have eb : vb = .ref p := tm.head
  subst eb
  obtain ⟨b, rfl⟩ := kt.ref pk
  obtain ⟨⟨_, dp, nd⟩, ys, hH, hA⟩ := c.ndict hj
  refine ⟨p, valN ys (kr.nk i), rfl, ⟨ys, kr.nk i, b, .inl hH, rowsN_ks dp c.fh nd hA, rfl, (kr.is pk).mono c.fh, Nat.le_trans (kr.low _) dp, rfl⟩, q _ _ k _ H2 ⟨F, c, sg, tm.tail.tail.cons ?_⟩⟩
  rcases rowsN_val i hA with ⟨z1, z2⟩ | ⟨y, v, z1, z2, _⟩ <;> rw [z1, z2] <;> rfl
/-- d.get(k, x), d a cell -/
theorem e_nget2C {κ α : Type} [DecidableEq κ] {rk : R κ} (kr : KR rk) (kt : KTup kr) (j : Nat) (ha : Ev td W G T cs fun sa cs1 => ∃ (p : Addr) (r : R α) (xs0 : List (κ × α)), sa = sRef p ∧ cs1[j]? = some (p, cND p kr r xs0) ∧ ∀ va, Ev tk W G ((va, sa) :: T) cs1 fun sb cs2 => ∀ vb, Ev te W G ((vb, sb) :: (va, sa) :: T) cs2 fun sc cs3 =>
      ∃ (xs : List (κ × α)) (i : κ) (x : α), cs3[j]? = some (p, cND p kr r xs) ∧ sb = rk.at i ∧ sc = r.at x ∧ K (r.at ((gotN xs i).getD x)) cs3) :
    Ev (tNGet2 td tk te) W G T cs K := fun s H st Q q => by
  refine ha s H st _ fun sa cs1 ⟨p, r, xs0, e1, hj0, h1⟩ va H1 st1 => ?_
  subst e1
  have ea : va = .ref p := ref_top st1
  subst ea
  refine ⟨p, rfl, ?_, ?_⟩
  · obtain ⟨F, c, sg, tm⟩ := id st1
    obtain ⟨_, ys, hH, _⟩ := c.ndict hj0
    exact ⟨ys, .inl hH⟩
  refine h1 _ s H1 st1 _ fun sb cs2 h2 vb H2 st2 => ?_
  refine h2 vb s H2 st2 _ fun sc cs3 ⟨xs, i, x, hj, e2, e3, k⟩ vc H3 ⟨F, c, sg, tm⟩ => ?_
  subst e2 e3
  have pk : rk.p i F vb := tm.tail.head
  obtain ⟨b, rfl⟩ := kt.ref pk
  obtain ⟨⟨_, dp, nd⟩, ys, hH, hA⟩ := c.ndict hj
  refine ⟨valN ys (kr.nk i), ⟨ys, kr.nk i, b, .inl hH, rowsN_ks dp c.fh nd hA, rfl, (kr.is pk).mono c.fh, Nat.le_trans (kr.low _) dp, rfl⟩, q _ _ k _ H3 ⟨F, c, sg, tm.tail.tail.tail.cons ?_⟩⟩
  rcases rowsN_val i hA with ⟨z1, z2⟩ | ⟨y, v, z1, z2, pv⟩
  · rw [z1, z2]; exact tm.head
  · rw [z1, z2]; exact pv
/-- the new dict is locked -/
theorem e_frzN {κ α : Type} {rk : R κ} (kr : KR rk) (j : Nat) (h : Ev te W G T cs fun sa cs1 => ∃ (p : Addr) (r : R α) (xs : List (κ × α)), sa = sRef p ∧ cs1[j]? = some (p, cND p kr r xs) ∧ K ((rND kr r).at xs) (cs1.eraseIdx j)) : Ev (tFrz te) W G T cs K := fun s H st Q q => by
  refine h s H st _ fun sa cs1 ⟨p, r, xs, e, hj, k⟩ va H1 ⟨F, c, sg, tm⟩ => ?_
  subst e
  have ev : va = .ref p := tm.head
  subst ev
  obtain ⟨hz, ys, hH, hA⟩ := c.ndict hj
  refine ⟨p, nkO p ys, rfl, hH, True.intro, fun od => ?_⟩
  let cl' : Cl := ⟨fun F o => o = .frz od (nkO p ys) ∧ All2 (RowN kr r F) xs ys, fun {_ _ _} e ⟨h1, h2⟩ => ⟨h1, rowsN_mono e h2⟩⟩
  have cw := c.write (c' := cl') (o := .frz od (nkO p ys)) hj ⟨rfl, hA⟩
  have hj' : (cs1.set j (p, cl'))[j]? = some (p, cl') := List.getElem?_set_self (List.getElem?_eq_some_iff.mp hj).1
  obtain ⟨o6, F6, g1, ⟨g2, g3⟩, g4, sF6, c7⟩ := cw.freeze hj'
  subst g2
  rw [List.eraseIdx_set_eq] at c7
  exact q _ _ k _ _ ⟨F6, c7, sg.mono sF6, (tm.tail.mono sF6).cons ⟨hz, p, od, ys, rfl, g4, g3⟩⟩
/-- dict(d), d locked -/
theorem e_dictN {κ α : Type} {rk : R κ} (kr : KR rk) (h : EvA t W G T cs fun sls cs1 => ∃ (r : R α) (xs : List (κ × α)), sls = [(rND kr r).at xs] ∧ (∀ w : World, (xs.map fun x => (kr.nk x.1).hash w).Nodup) ∧ ∀ p, K (sRef p) (cs1 ++ [(p, cND p kr r xs)])) : Ev (tCB rDictN t) W G T cs K := fun s H st Q q => by
  refine h s H st _ fun sls cs1 ⟨r, xs, e, hap, k⟩ vs H1 ⟨F, c, sg, tm, ar⟩ => ?_
  subst e
  obtain ⟨v, rfl, p1⟩ := args1 ar
  obtain ⟨⟨hz, dp, nd⟩, a, od, ys, rfl, hF, hA⟩ := p1
  refine ⟨a, ys, rfl, .inr ⟨od, c.fh _ _ hF⟩, rowsN_ks dp c.fh nd hA, fun w => ?_, fun p hp => ?_⟩
  · have : (ys.map fun x => x.1.hash w) = xs.map fun x => (kr.nk x.1).hash w := by
      have e := congrArg (List.map fun z : NestedKey => z.hash w) (rowsN_keys hA)
      rw [List.map_map, List.map_map] at e
      exact e
    rw [this]
    exact hap w
  · exact q _ _ (k p) _ _ ⟨F, c.newCell hp ⟨⟨hz, dp, nd⟩, ys, rfl, hA⟩, sg, tm.cons rfl⟩
/-- for k in d, d locked -/
theorem i_keysN {κ α : Type} {rk : R κ} {kr : KR rk} {KI : List Sl → Cells → Prop} (h : Ev td W G T cs fun sl cs1 => ∃ (r : R α) (xs : List (κ × α)), sl = (rND kr r).at xs ∧ KI ((xs.map (·.1)).map rk.at) cs1) : EvI (iKeysN td) W G T cs KI := fun s H st R q => by
  refine h s H st _ fun sl cs1 ⟨r, xs, e, k⟩ v H1 st1 => ?_
  subst e
  obtain ⟨F, c, sg, t⟩ := id st1
  obtain ⟨⟨hz, _, _⟩, a, od, ys, rfl, hF, hA⟩ := t.head
  have lk : ys.length = xs.length := hA.length.symm
  let S : Sl := Sl.mk (fun F v => ∃ a', v = .ref a' ∧ F a' = some (.frz od (nkO a ys)) ∧ All2 (RowN kr r F) xs ys) fun e ⟨a', h1, h2, h3⟩ => ⟨a', h1, e _ _ h2, rowsN_mono e h3⟩
  have keys : ∀ {F : Hp}, Temps F [(V.ref a, S)] → F a = some (.frz od (nkO a ys)) ∧ All2 (RowN kr r F) xs ys := fun {F} t => by
    obtain ⟨a', e, h2, h3⟩ := t.head
    cases e
    exact ⟨h2, h3⟩
  refine ⟨a, od, ys, rfl, c.fh _ _ hF, q _ [(V.ref a, S)] _ cs1 k (by rw [List.length_map, List.length_map]; exact hz) (fun B => ?_) H1 ⟨F, c, sg, t.tail.cons ⟨a, rfl, hF, hA⟩⟩⟩
  refine ⟨fun i F H cs hi c t => ⟨c.fh _ _ (keys t).1, by rw [List.length_map, List.length_map] at hi; omega⟩, fun i F H cs x H' sl hi c t y => ?_, fun F H cs c t => ⟨c.fh _ _ (keys t).1, by rw [List.length_map, List.length_map, lk]; exact Nat.le_refl _⟩⟩
  obtain ⟨e, kk, b, vv, y1, y2⟩ := y
  subst e y2
  rw [List.getElem?_map] at hi
  cases hx : (xs.map (·.1))[i]? with
  | none => rw [hx] at hi; cases hi
  | some z =>
    rw [hx] at hi
    cases hi
    rw [List.getElem?_map] at hx
    cases hy : xs[i]? with
    | none => rw [hy] at hx; cases hx
    | some y =>
      rw [hy] at hx
      cases hx
      obtain ⟨w, h1, h2, h3, _⟩ := (keys t).2.get hy
      rw [y1] at h1
      cases h1
      exact ⟨F, c, Same.refl F, h3⟩
/-- for k, v in d.items(), d locked -/
theorem i_itemsN {κ α : Type} {rk : R κ} {kr : KR rk} {KI : List Sl → Cells → Prop} (h : Ev td W G T cs fun sl cs1 => ∃ (r : R α) (xs : List (κ × α)), sl = (rND kr r).at xs ∧ KI (xs.map (rPair rk r).at) cs1) : EvI (iItemsN td) W G T cs KI := fun s H st R q => by
  refine h s H st _ fun sl cs1 ⟨r, xs, e, k⟩ v H1 st1 => ?_
  subst e
  obtain ⟨F, c, sg, t⟩ := id st1
  obtain ⟨⟨hz, _, _⟩, a, od, ys, rfl, hF, hA⟩ := t.head
  have lk : ys.length = xs.length := hA.length.symm
  let S : Sl := Sl.mk (fun F v => ∃ a', v = .ref a' ∧ F a' = some (.frz od (nkO a ys)) ∧ All2 (RowN kr r F) xs ys) fun e ⟨a', h1, h2, h3⟩ => ⟨a', h1, e _ _ h2, rowsN_mono e h3⟩
  have keys : ∀ {F : Hp}, Temps F [(V.ref a, S)] → F a = some (.frz od (nkO a ys)) ∧ All2 (RowN kr r F) xs ys := fun {F} t => by
    obtain ⟨a', e, h2, h3⟩ := t.head
    cases e
    exact ⟨h2, h3⟩
  refine ⟨a, od, ys, rfl, c.fh _ _ hF, q _ [(V.ref a, S)] _ cs1 k (by rw [List.length_map]; exact hz) (fun B => ?_) H1 ⟨F, c, sg, t.tail.cons ⟨a, rfl, hF, hA⟩⟩⟩
  refine ⟨fun i F H cs hi c t => ⟨c.fh _ _ (keys t).1, by rw [List.length_map] at hi; omega⟩, fun i F H cs x H' sl hi c t y => ?_, fun F H cs c t => ⟨c.fh _ _ (keys t).1, by rw [List.length_map, lk]; exact Nat.le_refl _⟩⟩
  obtain ⟨T', kk, b, vv, y1, y2, hT, y3⟩ := y
  subst y2 y3
  rw [List.getElem?_map] at hi
  cases hy : xs[i]? with
  | none => rw [hy] at hi; cases hi
  | some y =>
    rw [hy] at hi
    cases hi
    obtain ⟨w, h1, h2, h3, h4⟩ := (keys t).2.get hy
    rw [y1] at h1
    cases h1
    have sF : Same F (upd F T' (.tup [.ref b, vv])) := same_upd (c.fh.free hT)
    exact ⟨_, c.new hT, sF, T', _, _, rfl, upd_same, rk.mono sF h3, r.mono sF h4⟩
end
end ML

/-! ## dicts whose keys are nested: displays, guarded copies, stores; xs[i] += e -/
namespace ML
open PySem PySem.Spec PyProof.Rows L2

mutual
/-- the hash of a key without texts -/
def keyH : NestedKey → Int
  | .none => 0
  | .num i => hashInt i
  | .text _ => 0
  | .tup ks => reduceHash (Builtin.Tuple.tupleHashOf (keyHs ks))
def keyHs : List NestedKey → List Int
  | [] => []
  | k :: ks => keyH k :: keyHs ks
end
mutual
theorem NestH.keyH {H : Hp} (w : World) : ∀ {k : NestedKey} {v : V}, NestH H k v → k.hash w = ML.keyH k
  | _, _, .bl b => rfl
  | _, _, .int i => rfl
  | _, _, .tup h t => by rw [NestedKey.hash, ML.keyH, NestHs.keyHs w t]
theorem NestHs.keyHs {H : Hp} (w : World) : ∀ {ks : List NestedKey} {vs : List V}, NestHs H ks vs → NestedKey.hashes w ks = ML.keyHs ks
  | _, _, .nil => rfl
  | _, _, .cons h t => by rw [NestedKey.hashes, ML.keyHs, NestH.keyH w h, NestHs.keyHs w t]
end
/-- a copy: the keys' hashes must differ -/
def oCopyN {κ α : Type} {rk : R κ} (kr : KR rk) (xs : List (κ × α)) : Option (List (κ × α)) := if (xs.map fun x => keyH (kr.nk x.1)).Nodup then some xs else none
/-- {k: v} -/
def tNDisp1 (tk tv : TE) : TE := fun σ H Q => ∀ p, H p = none → tk σ (upd H p (nkO p [])) fun x H1 => tv σ H1 fun y H2 => H2 p = some (nkO p []) ∧ ∃ k b, x = .ref b ∧ NestH H2 k (.ref b) ∧ k.depth ≤ 8 ∧ Q (.ref p) (upd H2 p (nkO p [(k, b, y)]))
theorem pe_ndisp1 {X : Cx} {pos : Pos} {k v : Expr} {tk tv : TE} (hu : X.A.units + 9 < cLine) (hk : PE X k tk) (hv : PE X v tv) : PE X (.Dict [some k] [v] pos) (tNDisp1 tk tv) := by
  refine ⟨fun pins s σ H Q I q => ?_⟩
  have hn := I.hok.fresh (Nat.le_refl s.heap.objs.size)
  have hsy : (s.heap.objs.size == sysModules) = false := beq_eq_false_iff_ne.mpr (Ne.symm (Nat.ne_of_lt I.big))
  have I1 := I.laid (a := s.heap.objs.size) (o := nkO s.heap.objs.size []) (h' := s.heap.push { cls := .type "dict", data := .dict #[] }) (t' := s.toks) (fun _ _ q => Heap.get?_push_of_some _ q) (Nat.le_refl _)
    (nk_ok (Nat.zero_le _) hsy (Heap.get?_push_size _ rfl) ⟨rfl, rfl, rfl⟩ rfl .nil)
  rw [arm_eval_Dict, zip_pairTrees [some k] [v] X.env pos rfl rfl, dictDisplay_pairs _ (by rw [← List.length_pos_iff, pairTrees_length [some k] [v] X.env pos rfl rfl]; exact Nat.zero_lt_one) (by rw [pairTrees_length [some k] [v] X.env pos rfl rfl]; exact Nat.le_of_ble_eq_true rfl)]
  refine wpAny_bind (wpAny_standAt (wpAny_bind (wpAny_subDictH (knd := nestedKind X.prog X.w) (Q := fun d s' => wpAny (model X.prog X.w) X.A (pure (Value.ref d)) (EP X pins σ Q) X.xe s') (by show X.A.units + 8 < cLine; omega) (by rw [pairTrees_length [some k] [v] X.env pos rfl rfl]; exact Nat.le_of_ble_eq_true rfl) ?_)))
  refine pairTrees_cons_walk (thn (hk.run pins _ σ _ _ I1 (q _ hn)) fun u s1 ⟨x, H1, I2, rx, q1⟩ => thn (hv.run pins s1 σ H1 _ I2 q1) fun w2 s2 ⟨y, H2, I3, ry, e, kk, b, ex, hkk, dp, q2⟩ => pairTrees_nil_walk ?_)
  subst ex
  obtain rfl : u = Value.ref b := rx
  obtain ⟨z, hd, ys, rel, dd⟩ := nk_rd I3.hok (.inl e) (NKs.nil H2)
  cases rel
  refine ⟨[(kk, b, w2)], ⟨rfl, rfl, ⟨hkk.is I3.hok rfl, dp⟩, True.intro⟩, dd, fun h' tk' dd' hs => wpAny_pure ⟨.ref s.heap.objs.size, _, ?_, rfl, q2⟩⟩
  obtain ⟨o, es, ep, h1, h2, h3, h4, _, _⟩ := dd'
  refine d_write I3 (by rw [e]; exact True.intro) hs ⟨o, h1⟩ (nk_ok (by rw [sizeLine_eq]; show 1 ≤ _; decide) hd h1 h2 h3 ?_)
  rw [h4]
  exact ents_to (xs := [(kk, b, y)]) (ys := storedAllH [] [(kk, b, w2)]) (.cons ⟨rfl, rfl, ry⟩ .nil) fun x hx w' => by
    rw [List.mem_singleton.mp hx]
    exact hkk.hash _ _
section
variable {nx bk ct : L2.St → Hp → Prop} {rt : VK}
variable {W : Wd} {G : Gam} {T : Tms} {cs : Cells} {K : Sl → Cells → Prop} {t : TA} {ta tb tc te to ti td tk tv : TE} {tt : TT} {KF : PySem.W.Frag}
/-- dict(d), d locked -/
theorem e_copyN {κ α : Type} {rk : R κ} (kr : KR rk) (h : EvA t W G T cs fun sls cs1 => ∃ (r : R α) (xs ys : List (κ × α)), sls = [(rND kr r).at xs] ∧ oCopyN kr xs = some ys ∧ ∀ p, K (sRef p) (cs1 ++ [(p, cND p kr r ys)])) : Ev (tCB rDictN t) W G T cs K := fun s H st Q q => by
  refine h s H st _ fun sls cs1 ⟨r, xs, ys0, e, hc, k⟩ vs H1 ⟨F, c, sg, tm, ar⟩ => ?_
  subst e
  obtain ⟨hap, e0⟩ := of_ite hc
  subst e0
  obtain ⟨v, rfl, p1⟩ := args1 ar
  obtain ⟨⟨hz, dp, nd⟩, a, od, ys, rfl, hF, hA⟩ := p1
  refine ⟨a, ys, rfl, .inr ⟨od, c.fh _ _ hF⟩, rowsN_ks dp c.fh nd hA, fun w => ?_, fun p hp => ?_⟩
  · have one : ∀ y ∈ ys, y.1.hash w = keyH y.1 := fun y hy => by
      obtain ⟨x, _, e1, e2, _⟩ := rowsN_mem hA y hy
      rw [e1]
      exact (kr.is e2).keyH w
    have e1 : (ys.map fun x => x.1.hash w) = ys.map fun x => keyH x.1 := List.map_congr_left one
    have e2 : (ys.map fun x => keyH x.1) = ys0.map fun x => keyH (kr.nk x.1) := by
      have e := congrArg (List.map keyH) (rowsN_keys hA)
      rw [List.map_map, List.map_map] at e
      exact e
    rw [e1, e2]
    exact hap
  · exact q _ _ (k p) _ _ ⟨F, c.newCell hp ⟨⟨hz, dp, nd⟩, ys, rfl, hA⟩, sg, tm.cons rfl⟩
/-- d[k] = v, d a cell -/
theorem s_nput {κ α : Type} [DecidableEq κ] {rk : R κ} (kr : KR rk) (kt : KTup kr) (j : Nat) (hv : Ev te W G T cs fun sv cs1 => ∀ vv, Ev to W G ((vv, sv) :: T) cs1 fun so cs2 => ∀ vo, Ev ti W G ((vo, so) :: (vv, sv) :: T) cs2 fun si cs3 =>
      ∃ (p : Addr) (r : R α) (xs ys : List (κ × α)) (i : κ) (x : α), sv = r.at x ∧ so = sRef p ∧ si = rk.at i ∧ cs3[j]? = some (p, cND p kr r xs) ∧ oPutN xs i x = some ys ∧ NxT nx W G T (cs3.set j (p, cND p kr r ys))) :
    NxT (tAsg te (gSub to ti rSetN) ⟨nx, rt, bk, ct⟩) W G T cs := fun s H st => by
  refine hv s H st _ fun sv cs1 h1 vv H1 st1 => ?_
  refine h1 vv s H1 st1 _ fun so cs2 h2 vo H2 st2 => ?_
  refine h2 vo s H2 st2 _ fun si cs3 ⟨p, r, xs, ys, i, x, e1, e2, e3, hj, hy, k⟩ vi H3 ⟨F, c, sg, tm⟩ => ?_
  subst e1 e2 e3
  have pk : rk.p i F vi := tm.head
  have eo : vo = .ref p := tm.tail.head
  have pv := tm.tail.tail.head
  subst eo
  obtain ⟨b, rfl⟩ := kt.ref pk
  obtain ⟨hlt, ey⟩ := of_ite hy
  subst ey
  obtain ⟨⟨_, dp, nd⟩, zs, hH, hA⟩ := c.ndict hj
  have hl := hA.length
  refine ⟨p, _, rfl, ⟨zs, kr.nk i, b, hH, rowsN_ks dp c.fh nd hA, rfl, (kr.is pk).mono c.fh, Nat.le_trans (kr.low _) dp, by omega, rfl⟩, k s _ ⟨F, c.write (c' := cND p kr r (putNN xs i x)) hj ⟨⟨?_, dp, nodup_putNN nd⟩, _, rfl, rowsN_put pk pv hA⟩, sg, tm.tail.tail.tail⟩⟩
  have := len_putNN xs i x
  omega
/-- {k: v} -/
theorem e_ndisp1 {κ α : Type} {rk : R κ} (kr : KR rk) (kt : KTup kr) (dp : kr.dep ≤ 8) (h : ∀ p, Ev tk W G T (cs ++ [(p, cND (α := α) p kr (R.mk (fun _ _ _ => False) fun _ h => h) [])]) fun sa cs1 => ∀ va, Ev tv W G ((va, sa) :: T) cs1 fun sb cs2 =>
      cs2 = cs ++ [(p, cND (α := α) p kr (R.mk (fun _ _ _ => False) fun _ h => h) [])] ∧ ∃ (r : R α) (i : κ) (x : α), sa = rk.at i ∧ sb = r.at x ∧ K (sRef p) (cs ++ [(p, cND p kr r [(i, x)])])) : Ev (tNDisp1 tk tv) W G T cs K := fun s H st Q q => fun p hp => by
  obtain ⟨F, c, sg, tm⟩ := st
  have st1 : Sta W G T (cs ++ [(p, cND (α := α) p kr (R.mk (fun _ _ _ => False) fun _ h => h) [])]) s (upd H p (nkO p [])) := ⟨F, c.newCell hp ⟨⟨Nat.zero_le _, dp, List.nodup_nil⟩, [], rfl, .nil⟩, sg, tm⟩
  refine h p s _ st1 _ fun sa cs1 h1 va H1 st2 => ?_
  refine h1 va s H1 st2 _ fun sb cs2 ⟨ec, r, i, x, e1, e2, k⟩ vb H2 ⟨F2, c2, sg2, tm2⟩ => ?_
  subst ec e1 e2
  have pk : rk.p i F2 va := tm2.tail.head
  have pv : r.p x F2 vb := tm2.head
  obtain ⟨b, rfl⟩ := kt.ref pk
  have hj : (cs ++ [(p, cND (α := α) p kr (R.mk (fun _ _ _ => False) fun _ h => h) [])])[cs.length]? = some (p, cND (α := α) p kr (R.mk (fun _ _ _ => False) fun _ h => h) []) := by simp
  obtain ⟨_, zs, hH, hA⟩ := c2.ndict hj
  cases hA
  refine ⟨hH, kr.nk i, b, rfl, (kr.is pk).mono c2.fh, Nat.le_trans (kr.low _) dp, ?_⟩
  have cw := c2.write (c' := cND p kr r [(i, x)]) (o := nkO p [(kr.nk i, b, vb)]) hj ⟨⟨by rw [sizeLine_eq]; show 1 ≤ _; decide, dp, by simp⟩, _, rfl, .cons ⟨rfl, pk, pv⟩ .nil⟩
  have es : (cs ++ [(p, cND (α := α) p kr (R.mk (fun _ _ _ => False) fun _ h => h) [])]).set cs.length (p, cND p kr r [(i, x)]) = cs ++ [(p, cND p kr r [(i, x)])] := by simp
  rw [es] at cw
  exact q _ _ k _ _ ⟨F2, cw, sg2, tm2.tail.tail.cons rfl⟩
end
end ML

/-! ## i *= e; xs[i] += e -/
namespace ML
open PySem PySem.Spec PyProof.Rows L2
theorem _root_.ML.RoomG.u9 {k : Nat} {A : Around} (r : RoomG k A) : A.units + 9 < cLine := by have := r.units; omega
theorem _root_.ML.RoomG.u32 {k : Nat} {A : Around} (r : RoomG k A) : A.units + 32 < cLine := by have := r.units; omega
def oLow (i : Int) : Option Unit := if 0 ≤ i then some () else none
theorem oLow_ok {i : Int} {u : Unit} (h : oLow i = some u) : 0 ≤ i := (of_ite h).1
section
variable {X : Cx}
theorem iop_mulX : OpR X (inplaceOp .Mult) (rI CMulX fun i j => .int (i * j)) := opI fun _ _ _ _ _ _ _ hc q => imul_int q hc.ok
/-- xs[i], i no less than 0 -/
def rGetL (K : PySem.W.Frag) : V → V → Hp → VK → Prop := fun x y H Q => ∃ p xs i v, x = .ref p ∧ y = .int i ∧ 0 ≤ i ∧ SqL K H p xs ∧ atI xs i = some v ∧ Q v H
theorem get_list : PGet X (rGetL X.K) := by
  intro pins s σ H x y v u Q I rx ry h
  obtain ⟨p, xs, i, z, rfl, rfl, h0, hq, he, q⟩ := h
  cases rx
  obtain ⟨t, rfl⟩ := ry
  obtain ⟨its, r, pl, hz⟩ := I.list hq
  obtain ⟨j, h1, h2, h3, h4, h5⟩ := atI_get he
  obtain ⟨w, ew, rw'⟩ := r.get h2
  have hl := r.length
  have hn := line63
  have hj : i.toNat = j := by
    rw [seqIndex_of h0 h5] at h1
    exact Option.some.inj h1
  exact wpAny_getItem_list pl.isList h0 (by omega) (by rw [hj]; simpa using ew) ⟨z, H, I, rw', q⟩
end
section
variable {nx bk ct : L2.St → Hp → Prop} {rt : VK}
variable {W : Wd} {G : Gam} {T : Tms} {cs : Cells} {K : Sl → Cells → Prop} {t : TA} {ta tb tc te to ti td tk tv : TE} {tt : TT} {KF : PySem.W.Frag}
theorem s_augMul {i : Nat} {a : Int} (hi : G[i]? = some (some (rInt.at a))) (h : Ev te W G T cs fun sl cs1 => ∃ j t, sl = rInt.at j ∧ oMul a j = some t ∧ NxT nx W (G.set i (some (rInt.at t))) T cs1) : NxT (tAug i te (rI CMulX fun i j => .int (i * j)) ⟨nx, rt, bk, ct⟩) W G T cs := fun s H st => by
  obtain ⟨F, c, sg, tm⟩ := id st
  obtain ⟨v, hv, pv⟩ := sg.2 i _ hi
  refine ⟨v, hv, h s H st _ fun sl cs1 ⟨j, t, e, ho, k⟩ vb H1 ⟨F1, c1, sg1, tm1⟩ => ?_⟩
  subst e
  have ev : v = .int a := pv
  have eb : vb = .int j := tm1.head
  obtain ⟨hc, et⟩ := oMul_ok _ _ _ ho
  subst et
  exact ⟨a, j, ev, eb, hc, k _ H1 ⟨F1, c1, sg1.set (sl := rInt.at (a * j)) rfl, tm1.tail⟩⟩
/-- xs[i] += e, xs a cell of ints -/
theorem s_augSub (j : Nat) {gg : Int → Int → Int} (h : Ev to W G T cs fun so cs1 => ∀ vo, Ev ti W G ((vo, so) :: T) cs1 fun si cs2 => ∃ (p : Addr) (xs : List Int) (i x : Int), so = sRef p ∧ si = rInt.at i ∧ cs2[j]? = some (p, cLst rInt xs) ∧ 0 ≤ i ∧ atI xs i = some x ∧
      ∀ vi, Ev te W G ((vi, si) :: (vo, so) :: T) cs2 fun sv cs3 => cs3 = cs2 ∧ ∃ (y : Int) (ys : List Int), sv = rInt.at y ∧ oSet xs i (gg x y) = some ys ∧ NxT nx W G T (cs3.set j (p, cLst rInt ys))) :
    NxT (tAugS to ti te (rGetL KF) (rI0 fun i j => .int (gg i j)) rSetL ⟨nx, rt, bk, ct⟩) W G T cs := fun s H st => by
  refine h s H st _ fun so cs1 h1 vo H1 st1 => ?_
  refine h1 vo s H1 st1 _ fun si cs2 ⟨p, xs, i, x, e1, e2, hj, h0, hx, h2⟩ vi H2 st2 => ?_
  subst e1 e2
  obtain ⟨F, c, sg, tm⟩ := id st2
  have ei : vi = .int i := tm.head
  have eo : vo = .ref p := tm.tail.head
  subst ei eo
  obtain ⟨hz, vs, hH, hA⟩ := c.lst hj
  obtain ⟨v, hv, pv⟩ := all2_atI hA hx
  refine ⟨p, vs, i, v, rfl, rfl, h0, SqL.of hH, hv, ?_⟩
  refine h2 _ s H2 st2 _ fun sv cs3 ⟨ec, y, ys, e3, hy, k⟩ vv H3 ⟨F3, c3, sg3, tm3⟩ => ?_
  subst ec e3
  have ev : v = .int x := pv
  have ey : vv = .int y := tm3.head
  subst ev ey
  refine ⟨x, y, rfl, rfl, ?_⟩
  obtain ⟨hz3, vs3, hH3, hA3⟩ := c3.lst hj
  unfold oSet at hy
  cases en : ixN xs.length i with
  | none => rw [en] at hy; cases hy
  | some n =>
    rw [en] at hy
    cases hy
    refine ⟨p, vs3, i, n, rfl, rfl, hH3, by rw [← hA3.length]; exact en, ?_⟩
    exact k s _ ⟨F3, c3.write hj ⟨by rw [List.length_set]; exact hz3, _, rfl, All2.set (P := fun x u => rInt.p x F3 u) (show rInt.p (gg x y) F3 (.int (gg x y)) from rfl) n hA3⟩, sg3, tm3.tail.tail.tail⟩
end
end ML

namespace LW
open PySem Spec PyProof.Rows L2 ML
def top (i : Nat) : Stmt := PySem.Challenge.pw_maskgroups_k35_powers_of_bases.main.body.getD i (.Pass ⟨0, 0, 0, 0⟩)
abbrev s_all_bits : Stmt := top 4
abbrev s_made_by : Stmt := top 6
abbrev s_implies : Stmt := top 7
abbrev s_is_stronger : Stmt := top 8
abbrev s_reduced : Stmt := top 9
abbrev s_powers : Stmt := top 12
abbrev s_l_cup : Stmt := top 14
abbrev s_l_dip : Stmt := top 15
abbrev s_l_group : Stmt := top 16
abbrev s_l_all_splits : Stmt := top 17
abbrev s_l_some_splits : Stmt := top 18
abbrev s_l_bit_makes : Stmt := top 19
abbrev s_l_all_bits : Stmt := top 20
abbrev s_l_due : Stmt := top 21
abbrev s_l_right : Stmt := top 22
abbrev s_law : Stmt := top 23
structure Tx (K : PySem.W.Frag) (mg : Str → Option Value) where
  f_all_bits : Addr
  d_all_bits : FuncData
  F_all_bits : Fun K "all_bits" "all_bits" s_all_bits f_all_bits d_all_bits
  g_all_bits : mg "all_bits" = some (.ref f_all_bits)
  b_all_bits : Binds K d_all_bits ["count"] []
  f_made_by : Addr
  d_made_by : FuncData
  F_made_by : Fun K "made_by" "made_by" s_made_by f_made_by d_made_by
  g_made_by : mg "made_by" = some (.ref f_made_by)
  b_made_by : Binds K d_made_by ["numbers", "split"] []
  f_implies : Addr
  d_implies : FuncData
  F_implies : Fun K "implies" "implies" s_implies f_implies d_implies
  g_implies : mg "implies" = some (.ref f_implies)
  b_implies : Binds K d_implies ["one", "other"] []
  f_is_stronger : Addr
  d_is_stronger : FuncData
  F_is_stronger : Fun K "is_stronger" "is_stronger" s_is_stronger f_is_stronger d_is_stronger
  g_is_stronger : mg "is_stronger" = some (.ref f_is_stronger)
  b_is_stronger : Binds K d_is_stronger ["one", "other"] []
  f_reduced : Addr
  d_reduced : FuncData
  F_reduced : Fun K "reduced" "reduced" s_reduced f_reduced d_reduced
  g_reduced : mg "reduced" = some (.ref f_reduced)
  b_reduced : Binds K d_reduced ["splits"] []
  f_powers : Addr
  d_powers : FuncData
  F_powers : Fun K "powers" "powers" s_powers f_powers d_powers
  g_powers : mg "powers" = some (.ref f_powers)
  b_powers : Binds K d_powers ["count", "splits"] []
  f_l_cup : Addr
  d_l_cup : FuncData
  F_l_cup : Fun K "_law_cup" "_law_cup" s_l_cup f_l_cup d_l_cup
  g_l_cup : mg "_law_cup" = some (.ref f_l_cup)
  b_l_cup : Binds K d_l_cup ["_law_script", "_law_k"] []
  f_l_dip : Addr
  d_l_dip : FuncData
  F_l_dip : Fun K "_law_dip" "_law_dip" s_l_dip f_l_dip d_l_dip
  g_l_dip : mg "_law_dip" = some (.ref f_l_dip)
  b_l_dip : Binds K d_l_dip ["_law_cup_here", "_law_many"] []
  f_l_group : Addr
  d_l_group : FuncData
  F_l_group : Fun K "_law_group" "_law_group" s_l_group f_l_group d_l_group
  g_l_group : mg "_law_group" = some (.ref f_l_group)
  b_l_group : Binds K d_l_group ["_law_cup_here", "_law_count"] []
  f_l_all_splits : Addr
  d_l_all_splits : FuncData
  F_l_all_splits : Fun K "_law_all_splits" "_law_all_splits" s_l_all_splits f_l_all_splits d_l_all_splits
  g_l_all_splits : mg "_law_all_splits" = some (.ref f_l_all_splits)
  b_l_all_splits : Binds K d_l_all_splits ["_law_count", "_law_groups"] []
  f_l_some_splits : Addr
  d_l_some_splits : FuncData
  F_l_some_splits : Fun K "_law_some_splits" "_law_some_splits" s_l_some_splits f_l_some_splits d_l_some_splits
  g_l_some_splits : mg "_law_some_splits" = some (.ref f_l_some_splits)
  b_l_some_splits : Binds K d_l_some_splits ["_law_cup_here", "_law_count", "_law_most"] []
  f_l_bit_makes : Addr
  d_l_bit_makes : FuncData
  F_l_bit_makes : Fun K "_law_bit_makes" "_law_bit_makes" s_l_bit_makes f_l_bit_makes d_l_bit_makes
  g_l_bit_makes : mg "_law_bit_makes" = some (.ref f_l_bit_makes)
  b_l_bit_makes : Binds K d_l_bit_makes ["_law_numbers", "_law_split"] []
  f_l_all_bits : Addr
  d_l_all_bits : FuncData
  F_l_all_bits : Fun K "_law_all_bits" "_law_all_bits" s_l_all_bits f_l_all_bits d_l_all_bits
  g_l_all_bits : mg "_law_all_bits" = some (.ref f_l_all_bits)
  b_l_all_bits : Binds K d_l_all_bits ["_law_count"] []
  f_l_due : Addr
  d_l_due : FuncData
  F_l_due : Fun K "_law_due" "_law_due" s_l_due f_l_due d_l_due
  g_l_due : mg "_law_due" = some (.ref f_l_due)
  b_l_due : Binds K d_l_due ["_law_count", "_law_lot"] []
  f_l_right : Addr
  d_l_right : FuncData
  F_l_right : Fun K "_law_right" "_law_right" s_l_right f_l_right d_l_right
  g_l_right : mg "_law_right" = some (.ref f_l_right)
  b_l_right : Binds K d_l_right ["_law_cup_here"] []
  f_law : Addr
  d_law : FuncData
  F_law : Fun K "law" "law" s_law f_law d_law
  g_law : mg "law" = some (.ref f_law)
  b_law : Binds K d_law ["_law_script"] []
  t_MOST_KINDS : Tok
  c_MOST_KINDS : mg "MOST_KINDS" = some (.int 4 t_MOST_KINDS)
  z_abs : mg "abs" = none
  z_all : mg "all" = none
  z_any : mg "any" = none
  z_dict : mg "dict" = none
  z_enumerate : mg "enumerate" = none
  z_int : mg "int" = none
  z_len : mg "len" = none
  z_max : mg "max" = none
  z_min : mg "min" = none
  z_range : mg "range" = none
  z_repr : mg "repr" = none
  z_set : mg "set" = none
  z_sorted : mg "sorted" = none
  z_tuple : mg "tuple" = none
def m_all_bits (v_count : Int) : Option (List (List Int)) :=
  bind (oRange 0 (v_count - (1 : Int))) fun t1 =>
  bind (foldO (fun (b3 : ((List (List Int)))) (x2 : Int) => (((bind (flatS (fun (x4 : (List Int)) => (((mapO (fun (x5 : Int) => (((bind (oSmall (x4 ++ (x5 :: ([] : List Int)))) fun t6 => pure (some t6))) : Option (Option (List Int)))) ([(0 : Int), (1 : Int)] : List Int))) : Option (List (List Int)))) b3) fun t7 => pure (t7))) : Option ((List (List Int))))) t1 (([([(0 : Int)] : List Int)] : List (List Int)))) fun o10 =>
  pure o10
abbrev sp_all_bits (K : PySem.W.Frag) : Sp := spM (ι := Int) (β := (List (List Int))) (fun i => [rInt.at i]) (fun i => []) (fun i => m_all_bits i) (fun i b => (rLst (rTup rInt)).at b) (fun i b => [])
abbrev N_all_bits : List Str := ["count", "found", "turn", "numbers", "bit"]
theorem sc_all_bits : FnScope N_all_bits ["count"] (defScope s_all_bits) := ⟨rfl, rfl, rfl, by decide +kernel, rfl, by decide +kernel, by decide +kernel⟩
theorem ok_all_bits {P : Program} {w : World} {K : PySem.W.Frag} {mg : Str → Option Value} {base : Heap} (X : Tx K mg) : FnG P w K mg base CX0 1 X.f_all_bits X.d_all_bits ["count"] (sp_all_bits K) := by
  refine okG X.F_all_bits sc_all_bits (fun vs H Q E h => spM_len h fun _ => rfl) (fun cdv A outer s H vs Q E hr h => ?_)
  refine ⟨(tSeq (tAsg (tLst (tCons (tTup (tCons (tC (.int 0)) tNil)) tNil)) (gName 1)) (tSeq (tFor (iRng1 (tCons (tOp rdSub (tVar 0) (tC (.int 1))) tNil)) (gName 2) (tAsg (tLc2 (iList K (tVar 1)) (gName 3) tYes (iTup K (tTup (tCons (tC (.int 0)) (tCons (tC (.int 1)) tNil)))) (gName 4) tYes (tTup (StX.tStar K (tVar 3) (tCons (tVar 4) tNil))) [3, 4] [4]) (gName 1))) (tRet (tVar 1)))), (pss_cons (ps_set (i := 1) sc_all_bits.nd rfl (Or.inl rfl) (pe_lst (pa_cons (pe_tup (pa_cons pe_int pa_nil)) pa_nil))) (pss_cons (ps_for PassesOwn.never rfl (pi_range1 (by rfl) X.z_range (pa_cons (pe_op op_sub (pv 0) pe_int) pa_nil)) (pg_name (i := 2) sc_all_bits.nd rfl (Or.inl rfl)) (pss_one (ps_setLc2 (i := 1) (own := [("numbers", 3), ("bit", 4)]) (vs1 := [4]) (g := (gName 3)) (tt := tYes) (g1 := (gName 4)) (tt1 := tYes) (te := (tTup (StX.tStar K (tVar 3) (tCons (tVar 4) tNil)))) rfl sc_all_bits.nd rfl rfl (sw_true rfl rfl rfl (by decide +kernel)) (pi_list (pv 1)) (blkOk_by (N := N_all_bits) (sc := (defScope s_all_bits)) (by decide +kernel)) (by decide) (fun _ _ _ _ _ => (pg_name (i := 3) sc_all_bits.nd rfl (Or.inl rfl))) (fun _ _ _ _ _ => pts_nil) (fun _ _ _ _ _ => (pi_tup (pe_tup (pa_cons pe_int (pa_cons pe_int pa_nil))))) (fun _ _ _ _ _ => (pg_name (i := 4) sc_all_bits.nd rfl (Or.inl rfl))) (fun _ _ _ _ _ => pts_nil) (fun _ _ _ _ _ => (pe_tup (StX.pa_star (pv 3) (pa_cons (pv 4) pa_nil))))))) (pss_one (ps_ret (pv 1))))), ?_⟩
  obtain ⟨v_count, r, W, h, hcore, har, hrt⟩ := h
  refine body hcore har (Nat.le_of_ble_eq_true rfl) ?_
  clear hcore har
  change m_all_bits v_count = some r at h
  unfold m_all_bits at h
  change NxT _ _ [some (rInt.at v_count), none, none, none, none] _ []
  refine s_seq (s_set (e_lst (ea_cons (e_tup (ea_cons (e_int fun _ => (ea_nil ⟨_, rInt, ([(0 : Int)] : List Int), rfl, Nat.le_of_ble_eq_true rfl, fun _ => (ea_nil ⟨_, (rTup rInt), ([([(0 : Int)] : List Int)] : List (List Int)), rfl, Nat.le_of_ble_eq_true rfl, ?_⟩)⟩)))))))
  change NxT _ _ [some (rInt.at v_count), some ((rLst (rTup rInt)).at ([([(0 : Int)] : List Int)] : List (List Int))), none, none, none] _ []
  replace h := bindE h
  obtain ⟨t1, ht1, h⟩ := h
  replace h := bindE h
  obtain ⟨o10, ho10, h⟩ := h
  refine s_seq (fold_sound (is := [2]) (i_range1 (ea_cons (e_opI0 (g := fun i j => i - j) (e_var (sl := (rInt.at v_count)) rfl ⟨_, rfl, (e_int ⟨_, rfl, fun _ => (ea_nil ⟨_, _, rfl, ht1, ⟨_, _, rInt, t1, (([([(0 : Int)] : List Int)] : List (List Int))), _, o10, fun (b3 : ((List (List Int)))) => [some (rInt.at v_count), some ((rLst (rTup rInt)).at b3), none, none, none], fun (b3 : ((List (List Int)))) => [], rfl, ho10, (by exact (And.intro rfl (And.intro rfl True.intro))), rfl, ?b11, ?_⟩⟩)⟩)⟩)))))
  case b11 =>
    clear h
    intro T1 b3 x2 b1 h N Bk hN
    refine g_name ?_
    change NxT _ _ [some (rInt.at v_count), some ((rLst (rTup rInt)).at b3), some (rInt.at x2), none, none] _ []
    replace h := bindE h
    obtain ⟨t7, ht7, h⟩ := h
    refine (s_set (lc2_sound (is := [3]) (is1 := [4]) (by decide) (by decide) (by decide) (i_lst (e_var (sl := ((rLst (rTup rInt)).at b3)) rfl ⟨_, (rTup rInt), _, rfl, ⟨(List Int), Int, (List Int), (rTup rInt), b3, _, _, (rTup rInt), rfl, ht7, ?b8, ?_⟩⟩))))
    case b8 =>
      intro W1 T1 x4 zs h
      refine g_name ?_
      refine t_yes ⟨rfl, (fun z => nomatch z), fun _ => ?_⟩
      refine (i_tup (e_tup (ea_cons (e_int fun _ => (ea_cons (e_int fun _ => (ea_nil ⟨_, rInt, ([(0 : Int), (1 : Int)] : List Int), rfl, Nat.le_of_ble_eq_true rfl, ⟨_, rInt, _, rfl, ⟨rfl, rInt, _, _, rfl, h, ?b9⟩⟩⟩)))))))
      case b9 =>
        clear h
        intro W2 T2 x5 o h
        refine g_name ?_
        replace h := bindE h
        obtain ⟨t6, ht6, h⟩ := h
        replace h := pureE h
        subst h
        refine t_yes ⟨fun _ => ?_, fun z => nomatch z⟩
        refine (e_tupX (r := rInt) (ex_starT (e_var (sl := ((rTup rInt).at x4)) rfl ⟨_, rfl, fun _ _ => (ex_cons (e_var (sl := (rInt.at x5)) rfl ⟨x5, rfl, fun _ => (ex_nil ⟨_, ht6, ⟨_, rfl, rfl, rfl⟩⟩)⟩))⟩)))
    change NxT _ _ [some (rInt.at v_count), some ((rLst (rTup rInt)).at t7), some (rInt.at x2), none, none] _ []
    replace h := pureE h
    subst h
    exact s_weak (by exact (And.intro rfl (And.intro rfl True.intro))) .slnil hN
  change NxT _ _ [some (rInt.at v_count), some ((rLst (rTup rInt)).at o10), none, none, none] _ []
  replace h := pureE h
  subst h
  refine s_ret (e_var (sl := ((rLst (rTup rInt)).at o10)) rfl ?_)
  exact Rt.drop hrt .slnil
def m_made_by (v_numbers : (List Int)) (v_split : ((List Int) × Int)) : Option Bool :=
  bind (atI v_split.1 (0 : Int)) fun t1 =>
  bind (atI v_numbers t1) fun t2 =>
  bind (atI v_numbers v_split.2) fun t3 =>
  bind (((bif (!decide (t3 = t2)) then ((bind (mapO (fun (x4 : Int) => (((bind (atI v_numbers x4) fun t6 => pure (some (decide (t6 = t2))))) : Option (Option Bool))) v_split.1) fun t8 => pure (t8.all id))) else (pure false)) : Option Bool)) fun t9 =>
  pure t9
abbrev sp_made_by (K : PySem.W.Frag) : Sp := spM (ι := (List Int) × ((List Int) × Int)) (β := Bool) (fun i => [(rTup rInt).at i.1, (rPair (rTup rInt) rInt).at i.2]) (fun i => []) (fun i => m_made_by i.1 i.2) (fun i b => rBool.at b) (fun i b => [])
abbrev N_made_by : List Str := ["numbers", "split", "group", "kind", "first", "one"]
theorem sc_made_by : FnScope N_made_by ["numbers", "split"] (defScope s_made_by) := ⟨rfl, rfl, rfl, by decide +kernel, rfl, by decide +kernel, by decide +kernel⟩
theorem ok_made_by {P : Program} {w : World} {K : PySem.W.Frag} {mg : Str → Option Value} {base : Heap} (X : Tx K mg) : FnG P w K mg base CX0 1 X.f_made_by X.d_made_by ["numbers", "split"] (sp_made_by K) := by
  refine okG X.F_made_by sc_made_by (fun vs H Q E h => spM_len h fun _ => rfl) (fun cdv A outer s H vs Q E hr h => ?_)
  refine ⟨(tSeq (tAsg (tVar 1) (gTup K 2 (gCons (gName 2) (gCons (gName 3) gNil)))) (tSeq (tAsg (tOp (rIxT K) (tVar 0) (tOp (rIxT K) (tVar 2) (tC (.int 0)))) (gName 4)) (tRet (tAndV (tOp rNe (tOp (rIxT K) (tVar 0) (tVar 3)) (tVar 4)) (tCB (rAll K) (tCons (tLc (iTup K (tVar 2)) (gName 5) tYes (tOp rEq (tOp (rIxT K) (tVar 0) (tVar 5)) (tVar 4)) [5]) tNil)))))), (pss_cons (ps_asg (pv 1) (pg_tup rfl (pgs_cons (pg_name (i := 2) sc_made_by.nd rfl (Or.inl rfl)) (pgs_cons (pg_name (i := 3) sc_made_by.nd rfl (Or.inl rfl)) pgs_nil)))) (pss_cons (ps_set (i := 4) sc_made_by.nd rfl (Or.inr rfl) (pe_ix ix_tup (pv 0) (pe_ix ix_tup (pv 2) pe_int (fun _ _ => rfl)) (fun _ _ => rfl))) (pss_one (ps_ret (pe_and (pe_cmpR op_ne (pe_ix ix_tup (pv 0) (pv 3) (fun _ _ => rfl)) (pv 4) (nomark _)) (pe_one (pe_callB (cr_all rfl) (by rfl) X.z_all bt_all (pa_cons (pe_lc (own := [("one", 5)]) (g := (gName 5)) (tt := tYes) (te := (tOp rEq (tOp (rIxT K) (tVar 0) (tVar 5)) (tVar 4))) rfl sc_made_by.nd (pi_tup (pv 2)) (blkOk_by (N := N_made_by) (sc := (defScope s_made_by)) (by decide +kernel)) (fun _ _ _ _ _ => (pg_name (i := 5) sc_made_by.nd rfl (Or.inl rfl))) (fun _ _ _ _ _ => pts_nil) (fun _ _ _ _ _ => (pe_cmpR op_eq (pe_ix ix_tup (pv 0) (pv 5) (fun _ _ => rfl)) (pv 4) (nomark _)))) pa_nil)))))))), ?_⟩
  obtain ⟨⟨v_numbers, v_split⟩, r, W, h, hcore, har, hrt⟩ := h
  refine body hcore har (Nat.le_of_ble_eq_true rfl) ?_
  clear hcore har
  change m_made_by v_numbers v_split = some r at h
  unfold m_made_by at h
  change NxT _ _ [some ((rTup rInt).at v_numbers), some ((rPair (rTup rInt) rInt).at v_split), none, none, none, none] _ []
  refine s_seq (s_asg (is := [2, 3]) (e_var (sl := ((rPair (rTup rInt) rInt).at v_split)) rfl (g_pair ?_)))
  change NxT _ _ [some ((rTup rInt).at v_numbers), some ((rPair (rTup rInt) rInt).at v_split), some ((rTup rInt).at v_split.1), some (rInt.at v_split.2), none, none] _ []
  replace h := bindE h
  obtain ⟨t1, ht1, h⟩ := h
  replace h := bindE h
  obtain ⟨t2, ht2, h⟩ := h
  refine s_seq (s_set (e_ixT (e_var (sl := ((rTup rInt).at v_numbers)) rfl fun _ => (e_ixT (e_var (sl := ((rTup rInt).at v_split.1)) rfl fun _ => (e_int ⟨_, rInt, _, _, _, rfl, rfl, ht1, ⟨_, rInt, _, _, _, rfl, rfl, ht2, ?_⟩⟩))))))
  change NxT _ _ [some ((rTup rInt).at v_numbers), some ((rPair (rTup rInt) rInt).at v_split), some ((rTup rInt).at v_split.1), some (rInt.at v_split.2), some (rInt.at t2), none] _ []
  replace h := bindE h
  obtain ⟨t3, ht3, h⟩ := h
  replace h := bindE h
  obtain ⟨t9, ht9, h⟩ := h
  replace h := pureE h
  subst h
  refine s_ret (e_and (c := (!decide (t3 = t2))) (d := t9) (e_neI (e_ixT (e_var (sl := ((rTup rInt).at v_numbers)) rfl fun _ => (e_var (sl := (rInt.at v_split.2)) rfl ⟨_, rInt, _, _, _, rfl, rfl, ht3, ⟨_, rfl, (e_var (sl := (rInt.at t2)) rfl ⟨_, rfl, ⟨rfl, ?b10, fun hc => ⟨pureE' (condF hc ht9), rfl⟩⟩⟩)⟩⟩)))) ?_)
  case b10 =>
    intro hc
    have h := condT hc ht9
    replace h := bindE h
    obtain ⟨t8, ht8, h⟩ := h
    replace h := pureE h
    subst h
    refine (e_all (ea_cons (lc_sound (is := [5]) (by decide) (i_tup (e_var (sl := ((rTup rInt).at v_split.1)) rfl ⟨_, rInt, _, rfl, ⟨_, _, _, rInt, v_split.1, (), _, t8, (), rBool, fun _ => [], rfl, lcO_mapO _ _ _ ht8, rfl, ?b7, fun _ => (ea_nil ⟨_, rfl, ⟨rfl, rfl⟩⟩)⟩⟩)))))
    case b7 =>
      intro W1 T1 k5 x4 o u1 h
      obtain ⟨h, _⟩ := mapU h
      refine g_name ?_
      replace h := bindE h
      obtain ⟨t6, ht6, h⟩ := h
      replace h := pureE h
      subst h
      refine t_yes ⟨fun _ => ?_, fun z => nomatch z⟩
      refine (e_eqI (e_ixT (e_var (sl := ((rTup rInt).at v_numbers)) rfl fun _ => (e_var (sl := (rInt.at x4)) rfl ⟨_, rInt, _, _, _, rfl, rfl, ht6, ⟨_, rfl, (e_var (sl := (rInt.at t2)) rfl ⟨_, rfl, ⟨_, rfl, rfl, rfl⟩⟩)⟩⟩))))
  exact Rt.drop hrt .slnil
def m_implies (v_one : ((List Int) × Int)) (v_other : ((List Int) × Int)) : Option Bool :=
  (bif ((decide ((v_one, v_other).1.2 = (v_one, v_other).2.2)) && (((v_one, v_other).2.1.map fun (x1 : Int) => (decide (x1 ∈ (v_one, v_other).1.1))).all id)) then (pure true) else (pure ((decide ((v_one, v_other).2.1 = ([(v_one, v_other).1.2] : List Int))) && (decide ((v_one, v_other).2.2 ∈ (v_one, v_other).1.1)))))
abbrev sp_implies (K : PySem.W.Frag) : Sp := spM (ι := ((List Int) × Int) × ((List Int) × Int)) (β := Bool) (fun i => [(rPair (rTup rInt) rInt).at i.1, (rPair (rTup rInt) rInt).at i.2]) (fun i => []) (fun i => m_implies i.1 i.2) (fun i b => rBool.at b) (fun i b => [])
abbrev N_implies : List Str := ["one", "other", "group", "kind", "less", "single", "member"]
theorem sc_implies : FnScope N_implies ["one", "other"] (defScope s_implies) := ⟨rfl, rfl, rfl, by decide +kernel, rfl, by decide +kernel, by decide +kernel⟩
theorem ok_implies {P : Program} {w : World} {K : PySem.W.Frag} {mg : Str → Option Value} {base : Heap} (X : Tx K mg) : FnG P w K mg base CX0 1 X.f_implies X.d_implies ["one", "other"] (sp_implies K) := by
  refine okG X.F_implies sc_implies (fun vs H Q E h => spM_len h fun _ => rfl) (fun cdv A outer s H vs Q E hr h => ?_)
  refine ⟨(tSeq (tAsg (tTup (tCons (tVar 0) (tCons (tVar 1) tNil))) (gTup K 2 (gCons (gTup K 2 (gCons (gName 2) (gCons (gName 3) gNil))) (gCons (gTup K 2 (gCons (gName 4) (gCons (gName 5) gNil))) gNil)))) (tSeq (tIfS (tAnd (tTest (tOp rEq (tVar 3) (tVar 5))) (tB (tCB (rAll K) (tCons (tLc (iTup K (tVar 4)) (gName 6) tYes (tOp (rIn K false) (tVar 6) (tVar 2)) [6]) tNil)))) (tRet (tC (.bl true))) tNext) (tRet (tAndV (tOp (rEqD K) (tVar 4) (tTup (tCons (tVar 3) tNil))) (tOp (rIn K false) (tVar 5) (tVar 2)))))), (pss_cons (ps_asg (pe_tup (pa_cons (pv 0) (pa_cons (pv 1) pa_nil))) (pg_tup rfl (pgs_cons (pg_tup rfl (pgs_cons (pg_name (i := 2) sc_implies.nd rfl (Or.inr rfl)) (pgs_cons (pg_name (i := 3) sc_implies.nd rfl (Or.inl rfl)) pgs_nil))) (pgs_cons (pg_tup rfl (pgs_cons (pg_name (i := 4) sc_implies.nd rfl (Or.inl rfl)) (pgs_cons (pg_name (i := 5) sc_implies.nd rfl (Or.inl rfl)) pgs_nil))) pgs_nil)))) (pss_cons (ps_if (PW.pt (pw_and (pt_cmpR op_eq (pv 3) (pv 5) (nomark _)) (pw_and1 (pt_val (pe_callB (cr_all rfl) (by rfl) X.z_all bt_all (pa_cons (pe_lc (own := [("member", 6)]) (g := (gName 6)) (tt := tYes) (te := (tOp (rIn K false) (tVar 6) (tVar 2))) rfl sc_implies.nd (pi_tup (pv 4)) (blkOk_by (N := N_implies) (sc := (defScope s_implies)) (by decide +kernel)) (fun _ _ _ _ _ => (pg_name (i := 6) sc_implies.nd rfl (Or.inl rfl))) (fun _ _ _ _ _ => pts_nil) (fun _ _ _ _ _ => (pe_cmpR op_in_seq (pv 6) (pv 2) (by with_unfolding_all rfl)))) pa_nil)))))) (pss_one (ps_ret pe_bl)) pss_nil) (pss_one (ps_ret (pe_and (pe_cmpR (op_eqD hr.units) (pv 4) (pe_tup (pa_cons (pv 3) pa_nil)) (nomark _)) (pe_one (pe_cmpR op_in_seq (pv 5) (pv 2) (by with_unfolding_all rfl)))))))), ?_⟩
  obtain ⟨⟨v_one, v_other⟩, r, W, h, hcore, har, hrt⟩ := h
  refine body hcore har (Nat.le_of_ble_eq_true rfl) ?_
  clear hcore har
  change m_implies v_one v_other = some r at h
  unfold m_implies at h
  change NxT _ _ [some ((rPair (rTup rInt) rInt).at v_one), some ((rPair (rTup rInt) rInt).at v_other), none, none, none, none, none] _ []
  refine s_seq (s_asg (is := [2, 3, 4, 5]) (e_pair (ea_cons (e_var (sl := ((rPair (rTup rInt) rInt).at v_one)) rfl fun _ => (ea_cons (e_var (sl := ((rPair (rTup rInt) rInt).at v_other)) rfl fun _ => (ea_nil ⟨_, _, (rPair (rTup rInt) rInt), (rPair (rTup rInt) rInt), _, _, rfl, (g_pairPP ?_)⟩)))))))
  change NxT _ _ [some ((rPair (rTup rInt) rInt).at v_one), some ((rPair (rTup rInt) rInt).at v_other), some ((rTup rInt).at (v_one, v_other).1.1), some (rInt.at (v_one, v_other).1.2), some ((rTup rInt).at (v_one, v_other).2.1), some (rInt.at (v_one, v_other).2.2), none] _ []
  refine s_seq (s_if (t_and (c := (decide ((v_one, v_other).1.2 = (v_one, v_other).2.2))) (d := ((decide ((v_one, v_other).1.2 = (v_one, v_other).2.2)) && (((v_one, v_other).2.1.map fun (x1 : Int) => (decide (x1 ∈ (v_one, v_other).1.1))).all id))) (t_test (e_eqI (e_var (sl := (rInt.at (v_one, v_other).1.2)) rfl ⟨_, rfl, (e_var (sl := (rInt.at (v_one, v_other).2.2)) rfl ⟨_, rfl, ⟨_, rfl, ⟨rfl, fun hc => (t_val (e_all (ea_cons (lc_sound (is := [6]) (by decide) (i_tup (e_var (sl := ((rTup rInt).at (v_one, v_other).2.1)) rfl ⟨_, rInt, _, rfl, ⟨_, _, _, rInt, (v_one, v_other).2.1, (), fun (u : Unit) (x1 : Int) => some (some (decide (x1 ∈ (v_one, v_other).1.1)), u), ((v_one, v_other).2.1.map fun (x1 : Int) => (decide (x1 ∈ (v_one, v_other).1.1))), (), rBool, fun _ => [], rfl, lcO_map _ _, rfl, ?b3, fun _ => (ea_nil ⟨_, rfl, ⟨_, rfl, ⟨(andT hc).symm, rfl⟩⟩⟩)⟩⟩)))))), fun hc => ⟨andF hc, rfl⟩⟩⟩⟩)⟩))) ⟨fun hc => ?_, fun hc => ?_⟩))
  case b3 =>
    intro W1 T1 k2 x1 o u1 h
    refine g_name ?_
    cases h
    refine t_yes ⟨fun _ => ?_, fun z => nomatch z⟩
    refine (e_inT false (e_var (sl := (rInt.at x1)) rfl ⟨_, rfl, fun _ => (e_var (sl := ((rTup rInt).at (v_one, v_other).1.1)) rfl ⟨_, rfl, ⟨_, rfl, rfl, rfl⟩⟩)⟩))
  · replace h := condT hc h
    replace h := pureE h
    subst h
    refine s_ret (e_bl ?_)
    exact Rt.drop hrt .slnil
  · replace h := condF hc h
    refine s_next ?_
    replace h := pureE h
    subst h
    refine s_ret (e_and (c := (decide ((v_one, v_other).2.1 = ([(v_one, v_other).1.2] : List Int)))) (d := ((decide ((v_one, v_other).2.1 = ([(v_one, v_other).1.2] : List Int))) && (decide ((v_one, v_other).2.2 ∈ (v_one, v_other).1.1)))) (e_eqD (e_var (sl := ((rTup rInt).at (v_one, v_other).2.1)) rfl fun _ => (e_tup (ea_cons (e_var (sl := (rInt.at (v_one, v_other).1.2)) rfl fun _ => (ea_nil ⟨_, rInt, ([(v_one, v_other).1.2] : List Int), rfl, Nat.le_of_ble_eq_true rfl, ⟨_, inferInstance, _, (eTup eInt), _, _, by decide, rfl, rfl, ⟨rfl, fun hc => (e_inT false (e_var (sl := (rInt.at (v_one, v_other).2.2)) rfl ⟨_, rfl, fun _ => (e_var (sl := ((rTup rInt).at (v_one, v_other).1.1)) rfl ⟨_, rfl, ⟨congrArg rBool.at (andT hc).symm, rfl⟩⟩)⟩)), fun hc => ⟨andF hc, rfl⟩⟩⟩⟩)))))) ?_)
    exact Rt.drop hrt .slnil
def m_is_stronger (v_one : ((List Int) × Int)) (v_other : ((List Int) × Int)) : Option Bool :=
  bind (((bif (!(decide (v_one = v_other))) then ((bind (m_implies v_one v_other) fun r1 => (bind (((bif r1 then ((bind (((bif (ltK (kSplit.k v_one) (kSplit.k v_other)) then (pure true) else ((bind (m_implies v_other v_one) fun r2 => pure (!r2)))) : Option Bool)) fun t3 => pure t3)) else (pure false)) : Option Bool)) fun t5 => pure t5))) else (pure false)) : Option Bool)) fun t7 =>
  pure t7
abbrev sp_is_stronger (K : PySem.W.Frag) : Sp := spM (ι := ((List Int) × Int) × ((List Int) × Int)) (β := Bool) (fun i => [(rPair (rTup rInt) rInt).at i.1, (rPair (rTup rInt) rInt).at i.2]) (fun i => []) (fun i => m_is_stronger i.1 i.2) (fun i b => rBool.at b) (fun i b => [])
abbrev N_is_stronger : List Str := ["one", "other"]
theorem sc_is_stronger : FnScope N_is_stronger ["one", "other"] (defScope s_is_stronger) := ⟨rfl, rfl, rfl, by decide +kernel, rfl, by decide +kernel, by decide +kernel⟩
theorem ok_is_stronger {P : Program} {w : World} {K : PySem.W.Frag} {mg : Str → Option Value} {base : Heap} (X : Tx K mg) (G_implies : FnG P w K mg base CX0 1 X.f_implies X.d_implies ["one", "other"] (sp_implies K)) : FnG P w K mg base CX0 2 X.f_is_stronger X.d_is_stronger ["one", "other"] (sp_is_stronger K) := by
  refine okG X.F_is_stronger sc_is_stronger (fun vs H Q E h => spM_len h fun _ => rfl) (fun cdv A outer s H vs Q E hr h => ?_)
  refine ⟨(tRet (tAndV (tOp (rNeD K) (tVar 0) (tVar 1)) (tAndV (tCall (sp_implies K) [] E0 (tCons (tVar 0) (tCons (tVar 1) tNil))) (tOrV (tOp (rLtK K) (tVar 0) (tVar 1)) (tNotV (tCall (sp_implies K) [] E0 (tCons (tVar 1) (tCons (tVar 0) tNil)))))))), (pss_one (ps_ret (pe_and (pe_cmpR (op_neD hr.units) (pv 0) (pv 1) (nomark _)) (pe_and (pe_callG (G_implies) (hr.mono (by decide)) (by rfl) X.g_implies X.F_implies.kp X.b_implies .nil pass0 (pa_cons (pv 0) (pa_cons (pv 1) pa_nil))) (pe_one (pe_or (pe_cmpR (op_ltK hr) (pv 0) (pv 1) (nomark _)) (pe_one (pe_not (pe_callG (G_implies) (hr.mono (by decide)) (by rfl) X.g_implies X.F_implies.kp X.b_implies .nil pass0 (pa_cons (pv 1) (pa_cons (pv 0) pa_nil))))))))))), ?_⟩
  obtain ⟨⟨v_one, v_other⟩, r, W, h, hcore, har, hrt⟩ := h
  refine body hcore har (Nat.le_of_ble_eq_true rfl) ?_
  clear hcore har
  change m_is_stronger v_one v_other = some r at h
  unfold m_is_stronger at h
  change NxT _ _ [some ((rPair (rTup rInt) rInt).at v_one), some ((rPair (rTup rInt) rInt).at v_other)] _ []
  replace h := bindE h
  obtain ⟨t7, ht7, h⟩ := h
  replace h := pureE h
  subst h
  refine s_ret (e_and (c := (!(decide (v_one = v_other)))) (d := t7) (e_neD (e_var (sl := ((rPair (rTup rInt) rInt).at v_one)) rfl fun _ => (e_var (sl := ((rPair (rTup rInt) rInt).at v_other)) rfl ⟨_, inferInstance, _, (ePair (eTup eInt) eInt), _, _, by decide, rfl, rfl, ⟨rfl, ?b8, fun hc => ⟨pureE' (condF hc ht7), rfl⟩⟩⟩))) ?_)
  case b8 =>
    intro hc
    have h := condT hc ht7
    replace h := bindE h
    obtain ⟨r1, hr1, h⟩ := h
    replace h := bindE h
    obtain ⟨t5, ht5, h⟩ := h
    replace h := pureE h
    subst h
    refine (e_and (c := r1) (d := t5) (e_call (ea_cons (e_var (sl := ((rPair (rTup rInt) rInt).at v_one)) rfl fun _ => (ea_cons (e_var (sl := ((rPair (rTup rInt) rInt).at v_other)) rfl fun _ => (ea_nil ⟨(v_one, v_other), r1, [], hr1, rfl, rfl, ⟨rfl, ?b6, fun hc => ⟨pureE' (condF hc ht5), rfl⟩⟩⟩)))))) ⟨rfl, rfl⟩)
    case b6 =>
      intro hc
      have h := condT hc ht5
      replace h := bindE h
      obtain ⟨t3, ht3, h⟩ := h
      replace h := pureE h
      subst h
      refine (e_or (c := (ltK (kSplit.k v_one) (kSplit.k v_other))) (d := t3) (e_ltK (e_var (sl := ((rPair (rTup rInt) rInt).at v_one)) rfl fun _ => (e_var (sl := ((rPair (rTup rInt) rInt).at v_other)) rfl ⟨_, _, kSplit, _, _, rfl, rfl, cmp_split _ _, ⟨rfl, ?b4, fun hc => ⟨pureE' (condT hc ht3), rfl⟩⟩⟩))) ⟨rfl, rfl⟩)
      case b4 =>
        intro hc
        have h := condF hc ht3
        replace h := bindE h
        obtain ⟨r2, hr2, h⟩ := h
        replace h := pureE h
        subst h
        refine (e_not (e_call (ea_cons (e_var (sl := ((rPair (rTup rInt) rInt).at v_other)) rfl fun _ => (ea_cons (e_var (sl := ((rPair (rTup rInt) rInt).at v_one)) rfl fun _ => (ea_nil ⟨(v_other, v_one), r2, [], hr2, rfl, rfl, ⟨_, rfl, ⟨rfl, rfl⟩⟩⟩)))))))
  exact Rt.drop hrt .slnil
def m_reduced (v_splits : (List ((List Int) × Int))) : Option (List ((List Int) × Int)) :=
  bind (mapO (fun (x1 : ((List Int) × Int)) => (((bind (mapO (fun (x3 : ((List Int) × Int)) => (((bind (m_is_stronger x3 x1) fun r5 => pure (some r5))) : Option (Option Bool))) v_splits) fun t7 => (bif (!(t7.any id)) then (pure (some x1)) else pure none))) : Option (Option ((List Int) × Int)))) v_splits) fun t9 =>
  pure t9
abbrev sp_reduced (K : PySem.W.Frag) : Sp := spM (ι := (List ((List Int) × Int))) (β := (List ((List Int) × Int))) (fun i => [(rTup (rPair (rTup rInt) rInt)).at i]) (fun i => []) (fun i => m_reduced i) (fun i b => (rTup (rPair (rTup rInt) rInt)).at b) (fun i b => [])
abbrev N_reduced : List Str := ["splits", "split", "other"]
theorem sc_reduced : FnScope N_reduced ["splits"] (defScope s_reduced) := ⟨rfl, rfl, rfl, by decide +kernel, rfl, by decide +kernel, by decide +kernel⟩
theorem ok_reduced {P : Program} {w : World} {K : PySem.W.Frag} {mg : Str → Option Value} {base : Heap} (X : Tx K mg) (G_is_stronger : FnG P w K mg base CX0 2 X.f_is_stronger X.d_is_stronger ["one", "other"] (sp_is_stronger K)) : FnG P w K mg base CX0 3 X.f_reduced X.d_reduced ["splits"] (sp_reduced K) := by
  refine okG X.F_reduced sc_reduced (fun vs H Q E h => spM_len h fun _ => rfl) (fun cdv A outer s H vs Q E hr h => ?_)
  refine ⟨(tRet (tCB (rdTupleOf K) (tCons (tLc (iTup K (tVar 0)) (gName 1) (tNot (tB (tCB (rAny K) (tCons (tLc (iTup K (tVar 0)) (gName 2) tYes (tCall (sp_is_stronger K) [] E0 (tCons (tVar 2) (tCons (tVar 1) tNil))) [2]) tNil)))) (tVar 1) [1]) tNil))), (pss_one (ps_ret (pe_callTy call_tuple_of (by rfl) X.z_tuple bt_tuple (pa_cons (pe_lc (own := [("split", 1)]) (g := (gName 1)) (tt := (tNot (tB (tCB (rAny K) (tCons (tLc (iTup K (tVar 0)) (gName 2) tYes (tCall (sp_is_stronger K) [] E0 (tCons (tVar 2) (tCons (tVar 1) tNil))) [2]) tNil))))) (te := (tVar 1)) rfl sc_reduced.nd (pi_tup (pv 0)) (blkOk_by (N := N_reduced) (sc := (defScope s_reduced)) (by decide +kernel)) (fun _ _ _ _ _ => (pg_name (i := 1) sc_reduced.nd rfl (Or.inr rfl))) (fun _ _ _ _ _ => (pts_one (pt_not (pt_val (pe_callB (cr_any rfl) (by rfl) X.z_any bt_any (pa_cons (pe_lc (own := [("other", 2)]) (g := (gName 2)) (tt := tYes) (te := (tCall (sp_is_stronger K) [] E0 (tCons (tVar 2) (tCons (tVar 1) tNil)))) rfl sc_reduced.nd (pi_tup (pv 0)) (blkOk_by (N := N_reduced) (sc := { kind := .function, names := [(PySem.Str.ofString ".0", NameKind.local), (PySem.Str.ofString "split", NameKind.cell), (PySem.Str.ofString "any", NameKind.globalImplicit), (PySem.Str.ofString "splits", NameKind.cell)], isGenerator := false, isCoroutine := false, more := [] : Scope }) (by decide +kernel)) (fun _ _ _ _ _ => (pg_name (i := 2) sc_reduced.nd rfl (Or.inl rfl))) (fun _ _ _ _ _ => pts_nil) (fun _ _ _ _ _ => (pe_callG (G_is_stronger) (hr.mono (by decide)) (by rfl) X.g_is_stronger X.F_is_stronger.kp X.b_is_stronger .nil pass0 (pa_cons (pv 2) (pa_cons (pv 1) pa_nil))))) pa_nil)))))) (fun _ _ _ _ _ => (pv 1))) pa_nil)))), ?_⟩
  obtain ⟨v_splits, r, W, h, hcore, har, hrt⟩ := h
  refine body hcore har (Nat.le_of_ble_eq_true rfl) ?_
  clear hcore har
  change m_reduced v_splits = some r at h
  unfold m_reduced at h
  change NxT _ _ [some ((rTup (rPair (rTup rInt) rInt)).at v_splits), none, none] _ []
  replace h := bindE h
  obtain ⟨t9, ht9, h⟩ := h
  replace h := pureE h
  subst h
  refine s_ret (e_tupL (ea_cons (lc_sound (is := [1]) (by decide) (i_tup (e_var (sl := ((rTup (rPair (rTup rInt) rInt)).at v_splits)) rfl ⟨_, (rPair (rTup rInt) rInt), _, rfl, ⟨_, _, _, (rPair (rTup rInt) rInt), v_splits, (), _, t9, (), (rPair (rTup rInt) rInt), fun _ => [], rfl, lcO_mapO _ _ _ ht9, rfl, ?b8, fun _ => (ea_nil ⟨_, (rPair (rTup rInt) rInt), _, rfl, ?_⟩)⟩⟩)))))
  case b8 =>
    intro W1 T1 k2 x1 o u1 h
    obtain ⟨h, _⟩ := mapU h
    refine g_name ?_
    replace h := bindE h
    obtain ⟨t7, ht7, h⟩ := h
    refine (t_not (t_val (e_any (ea_cons (lc_sound (is := [2]) (by decide) (i_tup (e_var (sl := ((rTup (rPair (rTup rInt) rInt)).at v_splits)) rfl ⟨_, (rPair (rTup rInt) rInt), _, rfl, ⟨_, _, _, (rPair (rTup rInt) rInt), v_splits, (), _, t7, (), rBool, fun _ => [], rfl, lcO_mapO _ _ _ ht7, rfl, ?b6, fun _ => (ea_nil ⟨_, rfl, ⟨_, rfl, ⟨fun hc => ?_, fun hc => ?_⟩⟩⟩)⟩⟩)))))))
    case b6 =>
      intro W1 T1 k4 x3 o u1 h
      obtain ⟨h, _⟩ := mapU h
      refine g_name ?_
      replace h := bindE h
      obtain ⟨r5, hr5, h⟩ := h
      replace h := pureE h
      subst h
      refine t_yes ⟨fun _ => ?_, fun z => nomatch z⟩
      refine (e_call (ea_cons (e_var (sl := ((rPair (rTup rInt) rInt).at x3)) rfl fun _ => (ea_cons (e_var (sl := ((rPair (rTup rInt) rInt).at x1)) rfl fun _ => (ea_nil ⟨(x3, x1), r5, [], hr5, rfl, rfl, ⟨_, rfl, rfl, rfl⟩⟩))))))
    · replace h := condT hc h
      replace h := pureE h
      subst h
      refine (e_var (sl := ((rPair (rTup rInt) rInt).at x1)) rfl ⟨_, rfl, rfl, rfl⟩)
    · replace h := condF hc h
      replace h := pureE h
      subst h
      exact ⟨rfl, rfl⟩
  exact Rt.drop hrt .slnil
def m_powers (v_count : Int) (v_splits : (List ((List Int) × Int))) : Option (List Int) :=
  (bif (decide ((4 : Int) < v_count)) then (none) else ((bind (m_all_bits v_count) fun r2 => (bind (m_reduced v_splits) fun r3 => (bind (foldO (fun (b5 : ((List ((List (List Int)) × Int)))) (x4 : ((List Int) × Int)) => (((bind (oCopyN (kTup (kTup kInt)) b5) fun d6 => (bind (foldO (fun (b9 : ((List ((List (List Int)) × Int)))) (x8 : ((List (List Int)) × Int)) => (((bind (mapO (fun (x10 : (List Int)) => (((bind (m_made_by x10 x4) fun r12 => (bif (!r12) then (pure (some x10)) else pure none))) : Option (Option (List Int)))) x8.1) fun t14 => (bind (oPutN b9 t14 (((gotN b9 t14).getD (0 : Int)) - x8.2)) fun l15 => pure (l15)))) : Option ((List ((List (List Int)) × Int))))) b5 (d6)) fun o16 => pure (o16)))) : Option ((List ((List (List Int)) × Int))))) r3 (([(r2, (1 : Int))] : (List ((List (List Int)) × Int))))) fun o18 => (bind (oShl (1 : Int) v_count) fun t20 => (bind (oRepZ ([(0 : Int)] : List Int) (t20 + (1 : Int))) fun t21 => (bind (foldO (fun (b23 : ((List Int))) (x22 : ((List (List Int)) × Int)) => (((bind (oMul (2 : Int) (x22.1.length : Int)) fun t24 => (bind (oLow t24) fun n25 => (bind (atI b23 t24) fun t26 => (bind (oSet b23 t24 (t26 + x22.2)) fun l27 => pure (l27)))))) : Option ((List Int)))) o18 (t21)) fun o28 => pure o28))))))))
abbrev sp_powers (K : PySem.W.Frag) : Sp := spM (ι := Int × (List ((List Int) × Int))) (β := (List Int)) (fun i => [rInt.at i.1, (rTup (rPair (rTup rInt) rInt)).at i.2]) (fun i => []) (fun i => m_powers i.1 i.2) (fun i b => (rTup rInt).at b) (fun i b => [])
abbrev N_powers : List Str := ["count", "splits", "signs", "split", "later", "some", "sign", "left", "found", "numbers"]
theorem sc_powers : FnScope N_powers ["count", "splits"] (defScope s_powers) := ⟨rfl, rfl, rfl, by decide +kernel, rfl, by decide +kernel, by decide +kernel⟩
theorem ok_powers {P : Program} {w : World} {K : PySem.W.Frag} {mg : Str → Option Value} {base : Heap} (X : Tx K mg) (G_all_bits : FnG P w K mg base CX0 1 X.f_all_bits X.d_all_bits ["count"] (sp_all_bits K)) (G_made_by : FnG P w K mg base CX0 1 X.f_made_by X.d_made_by ["numbers", "split"] (sp_made_by K)) (G_reduced : FnG P w K mg base CX0 3 X.f_reduced X.d_reduced ["splits"] (sp_reduced K)) : FnG P w K mg base CX0 4 X.f_powers X.d_powers ["count", "splits"] (sp_powers K) := by
  refine okG X.F_powers sc_powers (fun vs H Q E h => spM_len h fun _ => rfl) (fun cdv A outer s H vs Q E hr h => ?_)
  refine ⟨(tSeq (tIfS (tTest (tOp rdGt (tVar 0) (tC (.int 4)))) tNo tNext) (tSeq (tAsg (tFrz (tNDisp1 (tCB (rdTupleOf K) (tCons (tCall (sp_all_bits K) [] E0 (tCons (tVar 0) tNil)) tNil)) (tC (.int 1)))) (gName 2)) (tSeq (tFor (iTup K (tCall (sp_reduced K) [] E0 (tCons (tVar 1) tNil))) (gName 3) (tSeq (tAsg (tCB rDictN (tCons (tVar 2) tNil)) (gName 4)) (tSeq (tFor (iItemsN (tVar 2)) (gTup K 2 (gCons (gName 5) (gCons (gName 6) gNil))) (tSeq (tAsg (tCB (rdTupleOf K) (tCons (tLc (iTup K (tVar 5)) (gName 9) (tNot (tB (tCall (sp_made_by K) [] E0 (tCons (tVar 9) (tCons (tVar 3) tNil))))) (tVar 9) [9]) tNil)) (gName 7)) (tAsg (tOp rdSub (tNGet2 (tVar 4) (tVar 7) (tC (.int 0))) (tVar 6)) (gSub (tVar 4) (tVar 7) rSetN)))) (tAsg (tFrz (tVar 4)) (gName 2))))) (tSeq (tAsg (tOp rRep (tLst (tCons (tC (.int 0)) tNil)) (tOp rdAdd (tOp rdShl (tC (.int 1)) (tVar 0)) (tC (.int 1)))) (gName 8)) (tSeq (tFor (iItemsN (tVar 2)) (gTup K 2 (gCons (gName 5) (gCons (gName 6) gNil))) (tAugS (tVar 8) (tOp rdMul (tC (.int 2)) (tCB (rdLen K) (tCons (tVar 5) tNil))) (tVar 6) (rGetL K) rdAdd rSetL)) (tRet (tCB (rdTupleOf K) (tCons (tVar 8) tNil)))))))), (pss_cons (ps_if (pt_cmpR op_gt (pv 0) (pe_glob rfl X.c_MOST_KINDS ⟨_, rfl⟩) (nomark _)) (pss_one ps_no) pss_nil) (pss_cons (ps_set (i := 2) sc_powers.nd rfl (Or.inl rfl) (pe_frz (pe_ndisp1 hr.u9 (pe_callTy call_tuple_of (by rfl) X.z_tuple bt_tuple (pa_cons (pe_callG (G_all_bits) (hr.mono (by decide)) (by rfl) X.g_all_bits X.F_all_bits.kp X.b_all_bits .nil pass0 (pa_cons (pv 0) pa_nil)) pa_nil)) pe_int))) (pss_cons (ps_for PassesOwn.never rfl (pi_tup (pe_callG (G_reduced) (hr.mono (by decide)) (by rfl) X.g_reduced X.F_reduced.kp X.b_reduced .nil pass0 (pa_cons (pv 1) pa_nil))) (pg_name (i := 3) sc_powers.nd rfl (Or.inr rfl)) (pss_cons (ps_set (i := 4) sc_powers.nd rfl (Or.inl rfl) (pe_callTy (call_dictN hr.u32) (by rfl) X.z_dict bt_dict (pa_cons (pv 2) pa_nil))) (pss_cons (ps_for PassesOwn.never rfl (pi_itemsN (pv 2)) (pg_tup rfl (pgs_cons (pg_name (i := 5) sc_powers.nd rfl (Or.inl rfl)) (pgs_cons (pg_name (i := 6) sc_powers.nd rfl (Or.inl rfl)) pgs_nil))) (pss_cons (ps_set (i := 7) sc_powers.nd rfl (Or.inl rfl) (pe_callTy call_tuple_of (by rfl) X.z_tuple bt_tuple (pa_cons (pe_lc (own := [("numbers", 9)]) (g := (gName 9)) (tt := (tNot (tB (tCall (sp_made_by K) [] E0 (tCons (tVar 9) (tCons (tVar 3) tNil)))))) (te := (tVar 9)) rfl sc_powers.nd (pi_tup (pv 5)) (blkOk_by (N := N_powers) (sc := (defScope s_powers)) (by decide +kernel)) (fun _ _ _ _ _ => (pg_name (i := 9) sc_powers.nd rfl (Or.inl rfl))) (fun _ _ _ _ _ => (pts_one (pt_not (pt_val (pe_callG (G_made_by) (hr.mono (by decide)) (by rfl) X.g_made_by X.F_made_by.kp X.b_made_by .nil pass0 (pa_cons (pv 9) (pa_cons (pv 3) pa_nil))))))) (fun _ _ _ _ _ => (pv 9))) pa_nil))) (pss_one (ps_asg (pe_op op_sub (pe_nget2 hr.u9 (pv 4) (pv 7) pe_int ⟨rfl, rfl, rfl, rfl⟩) (pv 6)) (pg_sub (pv 4) (pv 7) (set_nest hr.u9)))))) (pss_one (ps_set (i := 2) sc_powers.nd rfl (Or.inl rfl) (pe_frz (pv 4))))))) (pss_cons (ps_set (i := 8) sc_powers.nd rfl (Or.inl rfl) (pe_op op_rep (pe_lst (pa_cons pe_int pa_nil)) (pe_op op_add (pe_op op_shlW pe_int (pv 0)) pe_int))) (pss_cons (ps_for PassesOwn.never rfl (pi_itemsN (pv 2)) (pg_tup rfl (pgs_cons (pg_name (i := 5) sc_powers.nd rfl (Or.inl rfl)) (pgs_cons (pg_name (i := 6) sc_powers.nd rfl (Or.inl rfl)) pgs_nil))) (pss_one (ps_augS (pv 8) (pe_op op_mulX pe_int (pe_callB call_len_seq (by rfl) X.z_len bt_len (pa_cons (pv 5) pa_nil))) get_list (pv 6) iop_add set_list))) (pss_one (ps_ret (pe_callTy call_tuple_of (by rfl) X.z_tuple bt_tuple (pa_cons (pv 8) pa_nil))))))))), ?_⟩
  obtain ⟨⟨v_count, v_splits⟩, r, W, h, hcore, har, hrt⟩ := h
  refine body hcore har (Nat.le_of_ble_eq_true rfl) ?_
  clear hcore har
  change m_powers v_count v_splits = some r at h
  unfold m_powers at h
  change NxT _ _ [some (rInt.at v_count), some ((rTup (rPair (rTup rInt) rInt)).at v_splits), none, none, none, none, none, none, none, none] _ []
  refine s_seq (s_if (t_test (e_opB0 (g := fun i j => decide (j < i)) (e_var (sl := (rInt.at v_count)) rfl ⟨_, rfl, (e_int ⟨_, rfl, ⟨_, rfl, ⟨fun hc => ?_, fun hc => ?_⟩⟩⟩)⟩))))
  · replace h := condT hc h
    cases h
  · replace h := condF hc h
    refine s_next ?_
    replace h := bindE h
    obtain ⟨r2, hr2, h⟩ := h
    refine s_seq (s_set (e_frzN (kTup (kTup kInt)) 0 (e_ndisp1 (α := Int) (kTup (kTup kInt)) (ktup _) (by decide) fun pn1 => (e_tupL (ea_cons (e_call (ea_cons (e_var (sl := (rInt.at v_count)) rfl fun _ => (ea_nil ⟨v_count, r2, [(pn1, cND (α := Int) pn1 (kTup (kTup kInt)) (R.mk (fun _ _ _ => False) fun _ h => h) [])], hr2, rfl, rfl, fun _ => (ea_nil ⟨_, (rTup rInt), _, rfl, fun _ => (e_int ⟨rfl, rInt, _, _, rfl, rfl, ⟨_, rInt, _, rfl, rfl, ?_⟩⟩)⟩)⟩)))))))))
    change NxT _ _ [some (rInt.at v_count), some ((rTup (rPair (rTup rInt) rInt)).at v_splits), some ((rND (kTup (kTup kInt)) rInt).at ([(r2, (1 : Int))] : (List ((List (List Int)) × Int)))), none, none, none, none, none, none, none] _ []
    replace h := bindE h
    obtain ⟨r3, hr3, h⟩ := h
    replace h := bindE h
    obtain ⟨o18, ho18, h⟩ := h
    refine s_seq (fold_sound (is := [3]) (i_tup (e_call (ea_cons (e_var (sl := ((rTup (rPair (rTup rInt) rInt)).at v_splits)) rfl fun _ => (ea_nil ⟨v_splits, r3, [], hr3, rfl, rfl, ⟨_, (rPair (rTup rInt) rInt), _, rfl, ⟨_, _, (rPair (rTup rInt) rInt), r3, (([(r2, (1 : Int))] : (List ((List (List Int)) × Int)))), _, o18, fun (b5 : ((List ((List (List Int)) × Int)))) => [some (rInt.at v_count), some ((rTup (rPair (rTup rInt) rInt)).at v_splits), some ((rND (kTup (kTup kInt)) rInt).at b5), none, none, none, none, none, none, none], fun (b5 : ((List ((List (List Int)) × Int)))) => [], rfl, ho18, (by exact (And.intro rfl (And.intro rfl (And.intro rfl True.intro)))), rfl, ?b19, ?_⟩⟩⟩))))))
    case b19 =>
      clear h
      intro T1 b5 x4 b1 h N Bk hN
      refine g_name ?_
      change NxT _ _ [some (rInt.at v_count), some ((rTup (rPair (rTup rInt) rInt)).at v_splits), some ((rND (kTup (kTup kInt)) rInt).at b5), some ((rPair (rTup rInt) rInt).at x4), none, none, none, none, none, none] _ []
      replace h := bindE h
      obtain ⟨d6, hd6, h⟩ := h
      refine s_seq (s_set (e_copyN (kTup (kTup kInt)) (ea_cons (e_var (sl := ((rND (kTup (kTup kInt)) rInt).at b5)) rfl fun _ => (ea_nil ⟨rInt, _, _, rfl, hd6, fun pn7 => ?_⟩)))))
      change NxT _ _ [some (rInt.at v_count), some ((rTup (rPair (rTup rInt) rInt)).at v_splits), some ((rND (kTup (kTup kInt)) rInt).at b5), some ((rPair (rTup rInt) rInt).at x4), some (sRef pn7), none, none, none, none, none] _ [(pn7, cND pn7 (kTup (kTup kInt)) rInt d6)]
      replace h := bindE h
      obtain ⟨o16, ho16, h⟩ := h
      refine s_seq (fold_sound (is := [5, 6]) (i_itemsN (e_var (sl := ((rND (kTup (kTup kInt)) rInt).at b5)) rfl ⟨rInt, _, rfl, ⟨_, _, (rPair (rTup (rTup rInt)) rInt), b5, (d6), _, o16, fun (b9 : ((List ((List (List Int)) × Int)))) => [some (rInt.at v_count), some ((rTup (rPair (rTup rInt) rInt)).at v_splits), some ((rND (kTup (kTup kInt)) rInt).at b5), some ((rPair (rTup rInt) rInt).at x4), some (sRef pn7), none, none, none, none, none], fun (b9 : ((List ((List (List Int)) × Int)))) => [(pn7, cND pn7 (kTup (kTup kInt)) rInt b9)], rfl, ho16, (by exact (And.intro rfl (And.intro rfl (And.intro rfl (And.intro rfl (And.intro rfl True.intro)))))), rfl, ?b17, ?_⟩⟩)))
      case b17 =>
        clear h
        intro T1 b9 x8 b1 h N Bk hN
        refine g_pair ?_
        change NxT _ _ [some (rInt.at v_count), some ((rTup (rPair (rTup rInt) rInt)).at v_splits), some ((rND (kTup (kTup kInt)) rInt).at b5), some ((rPair (rTup rInt) rInt).at x4), some (sRef pn7), some ((rTup (rTup rInt)).at x8.1), some (rInt.at x8.2), none, none, none] _ [(pn7, cND pn7 (kTup (kTup kInt)) rInt b9)]
        replace h := bindE h
        obtain ⟨t14, ht14, h⟩ := h
        refine s_seq (s_set (e_tupL (ea_cons (lc_sound (is := [9]) (by decide) (i_tup (e_var (sl := ((rTup (rTup rInt)).at x8.1)) rfl ⟨_, (rTup rInt), _, rfl, ⟨_, _, _, (rTup rInt), x8.1, (), _, t14, (), (rTup rInt), fun _ => [(pn7, cND pn7 (kTup (kTup kInt)) rInt b9)], rfl, lcO_mapO _ _ _ ht14, rfl, ?b13, fun _ => (ea_nil ⟨_, (rTup rInt), _, rfl, ?_⟩)⟩⟩))))))
        case b13 =>
          intro W1 T1 k11 x10 o u1 h
          obtain ⟨h, _⟩ := mapU h
          refine g_name ?_
          replace h := bindE h
          obtain ⟨r12, hr12, h⟩ := h
          refine (t_not (t_val (e_call (ea_cons (e_var (sl := ((rTup rInt).at x10)) rfl fun _ => (ea_cons (e_var (sl := ((rPair (rTup rInt) rInt).at x4)) rfl fun _ => (ea_nil ⟨(x10, x4), r12, [(pn7, cND pn7 (kTup (kTup kInt)) rInt b9)], hr12, rfl, rfl, ⟨_, rfl, ⟨fun hc => ?_, fun hc => ?_⟩⟩⟩))))))))
          · replace h := condT hc h
            replace h := pureE h
            subst h
            refine (e_var (sl := ((rTup rInt).at x10)) rfl ⟨_, rfl, rfl, rfl⟩)
          · replace h := condF hc h
            replace h := pureE h
            subst h
            exact ⟨rfl, rfl⟩
        change NxT _ _ [some (rInt.at v_count), some ((rTup (rPair (rTup rInt) rInt)).at v_splits), some ((rND (kTup (kTup kInt)) rInt).at b5), some ((rPair (rTup rInt) rInt).at x4), some (sRef pn7), some ((rTup (rTup rInt)).at x8.1), some (rInt.at x8.2), some ((rTup (rTup rInt)).at t14), none, none] _ [(pn7, cND pn7 (kTup (kTup kInt)) rInt b9)]
        replace h := bindE h
        obtain ⟨l15, hl15, h⟩ := h
        refine (s_nput (kTup (kTup kInt)) (ktup _) 0 (e_opI0 (g := fun i j => i - j) (e_nget2C (kTup (kTup kInt)) (ktup _) 0 (e_var (sl := (sRef pn7)) rfl ⟨_, rInt, _, rfl, rfl, fun _ => (e_var (sl := ((rTup (rTup rInt)).at t14)) rfl fun _ => (e_int ⟨_, _, _, rfl, rfl, rfl, ⟨_, rfl, (e_var (sl := (rInt.at x8.2)) rfl ⟨_, rfl, fun _ => (e_var (sl := (sRef pn7)) rfl fun _ => (e_var (sl := ((rTup (rTup rInt)).at t14)) rfl ⟨_, rInt, _, _, _, _, rfl, rfl, rfl, rfl, hl15, ?_⟩))⟩)⟩⟩))⟩))))
        change NxT _ _ [some (rInt.at v_count), some ((rTup (rPair (rTup rInt) rInt)).at v_splits), some ((rND (kTup (kTup kInt)) rInt).at b5), some ((rPair (rTup rInt) rInt).at x4), some (sRef pn7), some ((rTup (rTup rInt)).at x8.1), some (rInt.at x8.2), some ((rTup (rTup rInt)).at t14), none, none] _ [(pn7, cND pn7 (kTup (kTup kInt)) rInt l15)]
        replace h := pureE h
        subst h
        exact s_weak (by exact (And.intro rfl (And.intro rfl (And.intro rfl (And.intro rfl (And.intro rfl True.intro)))))) (.cons₂ _ .slnil) hN
      change NxT _ _ [some (rInt.at v_count), some ((rTup (rPair (rTup rInt) rInt)).at v_splits), some ((rND (kTup (kTup kInt)) rInt).at b5), some ((rPair (rTup rInt) rInt).at x4), some (sRef pn7), none, none, none, none, none] _ [(pn7, cND pn7 (kTup (kTup kInt)) rInt o16)]
      refine (s_set (e_frzN (kTup (kTup kInt)) 0 (e_var (sl := (sRef pn7)) rfl ⟨_, rInt, _, rfl, rfl, ?_⟩)))
      change NxT _ _ [some (rInt.at v_count), some ((rTup (rPair (rTup rInt) rInt)).at v_splits), some ((rND (kTup (kTup kInt)) rInt).at o16), some ((rPair (rTup rInt) rInt).at x4), some (sRef pn7), none, none, none, none, none] _ []
      replace h := pureE h
      subst h
      exact s_weak (by exact (And.intro rfl (And.intro rfl (And.intro rfl True.intro)))) .slnil hN
    change NxT _ _ [some (rInt.at v_count), some ((rTup (rPair (rTup rInt) rInt)).at v_splits), some ((rND (kTup (kTup kInt)) rInt).at o18), none, none, none, none, none, none, none] _ []
    replace h := bindE h
    obtain ⟨t20, ht20, h⟩ := h
    replace h := bindE h
    obtain ⟨t21, ht21, h⟩ := h
    refine s_seq (s_set (e_repZC (e_lst (ea_cons (e_int fun _ => (ea_nil ⟨_, rInt, ([(0 : Int)] : List Int), rfl, Nat.le_of_ble_eq_true rfl, fun _ => (e_opI0 (g := fun i j => i + j) (e_opO oShl_ok (e_int ⟨_, rfl, (e_var (sl := (rInt.at v_count)) rfl ⟨_, _, rfl, ht20, ⟨_, rfl, (e_int ⟨_, rfl, ⟨_, _, _, _, _, rfl, rfl, ht21, fun p_found => ?_⟩⟩)⟩⟩)⟩)))⟩))))))
    change NxT _ _ [some (rInt.at v_count), some ((rTup (rPair (rTup rInt) rInt)).at v_splits), some ((rND (kTup (kTup kInt)) rInt).at o18), none, none, none, none, none, some (sRef p_found), none] _ [(p_found, cLst rInt t21)]
    replace h := bindE h
    obtain ⟨o28, ho28, h⟩ := h
    refine s_seq (fold_sound (is := [5, 6]) (i_itemsN (e_var (sl := ((rND (kTup (kTup kInt)) rInt).at o18)) rfl ⟨rInt, _, rfl, ⟨_, _, (rPair (rTup (rTup rInt)) rInt), o18, (t21), _, o28, fun (b23 : ((List Int))) => [some (rInt.at v_count), some ((rTup (rPair (rTup rInt) rInt)).at v_splits), some ((rND (kTup (kTup kInt)) rInt).at o18), none, none, none, none, none, some (sRef p_found), none], fun (b23 : ((List Int))) => [(p_found, cLst rInt b23)], rfl, ho28, (by exact (And.intro rfl (And.intro rfl (And.intro rfl (And.intro rfl True.intro))))), rfl, ?b29, ?_⟩⟩)))
    case b29 =>
      clear h
      intro T1 b23 x22 b1 h N Bk hN
      refine g_pair ?_
      change NxT _ _ [some (rInt.at v_count), some ((rTup (rPair (rTup rInt) rInt)).at v_splits), some ((rND (kTup (kTup kInt)) rInt).at o18), none, none, some ((rTup (rTup rInt)).at x22.1), some (rInt.at x22.2), none, some (sRef p_found), none] _ [(p_found, cLst rInt b23)]
      replace h := bindE h
      obtain ⟨t24, ht24, h⟩ := h
      replace h := bindE h
      obtain ⟨n25, hn25, h⟩ := h
      replace h := bindE h
      obtain ⟨t26, ht26, h⟩ := h
      replace h := bindE h
      obtain ⟨l27, hl27, h⟩ := h
      refine (s_augSub (gg := fun i j => i + j) 0 (e_var (sl := (sRef p_found)) rfl fun _ => (e_opO oMul_ok (e_int ⟨_, rfl, (e_lenT (ea_cons (e_var (sl := ((rTup (rTup rInt)).at x22.1)) rfl fun _ => (ea_nil ⟨_, (rTup rInt), _, rfl, ⟨_, _, rfl, ht24, ⟨_, _, _, _, rfl, rfl, rfl, oLow_ok hn25, ht26, fun _ => (e_var (sl := (rInt.at x22.2)) rfl ⟨rfl, _, _, rfl, hl27, ?_⟩)⟩⟩⟩))))⟩))))
      change NxT _ _ [some (rInt.at v_count), some ((rTup (rPair (rTup rInt) rInt)).at v_splits), some ((rND (kTup (kTup kInt)) rInt).at o18), none, none, some ((rTup (rTup rInt)).at x22.1), some (rInt.at x22.2), none, some (sRef p_found), none] _ [(p_found, cLst rInt l27)]
      replace h := pureE h
      subst h
      exact s_weak (by exact (And.intro rfl (And.intro rfl (And.intro rfl (And.intro rfl True.intro))))) (.cons₂ _ .slnil) hN
    change NxT _ _ [some (rInt.at v_count), some ((rTup (rPair (rTup rInt) rInt)).at v_splits), some ((rND (kTup (kTup kInt)) rInt).at o18), none, none, none, none, none, some (sRef p_found), none] _ [(p_found, cLst rInt o28)]
    replace h := pureE h
    subst h
    refine s_ret (e_tupC 0 (ea_cons (e_var (sl := (sRef p_found)) rfl fun _ => (ea_nil ⟨_, _, rInt, _, rfl, rfl, ?_⟩))))
    exact Rt.drop hrt (.cons _ .slnil)
def m_l_cup (v_script : (List Int)) (v_k : Int) : Option Cup :=
  bind (((bif (decide (v_k < (v_script.length : Int))) then ((bind (atI v_script v_k) fun t1 => pure t1)) else ((bind (oMul (41 : Int) v_k) fun t2 => pure (t2 + (12 : Int))))) : Option Int)) fun t3 =>
  bind (oPow (10 : Int) (60 : Int)) fun t6 =>
  bind (oPow t6 (4 : Int)) fun t7 =>
  bind (oMod (t3.natAbs : Int) t7) fun t8 =>
  bind (oPow (10 : Int) (18 : Int)) fun t9 =>
  bind (oMul t8 (if (decide (t9 ≤ (t3.natAbs : Int))) then (1 : Int) else 0)) fun t10 =>
  bind (oMod t3 (2305843009213693951 : Int)) fun t11 =>
  bind (oMul t11 (59333 : Int)) fun t12 =>
  bind (oMul (6689 : Int) v_k) fun t13 =>
  bind (oMul t13 v_k) fun t14 =>
  bind (oMod ((t12 + t14) + (61 : Int)) (2305843009213693921 : Int)) fun t15 =>
  pure (t10, t15, (0 : Int))
abbrev sp_l_cup (K : PySem.W.Frag) : Sp := spC (ι := (List Int) × Int) (β := Cup) (fun i => [(rScr K).at i.1, rInt.at i.2]) (fun i => []) (fun i => m_l_cup i.1 i.2) (fun b => cCup b) (fun i b => [])
abbrev N_l_cup : List Str := ["_law_script", "_law_k", "_law_cell", "_law_own"]
theorem sc_l_cup : FnScope N_l_cup ["_law_script", "_law_k"] (defScope s_l_cup) := ⟨rfl, rfl, rfl, by decide +kernel, rfl, by decide +kernel, by decide +kernel⟩
theorem ok_l_cup {P : Program} {w : World} {K : PySem.W.Frag} {mg : Str → Option Value} {base : Heap} (X : Tx K mg) : FnG P w K mg base CX0 1 X.f_l_cup X.d_l_cup ["_law_script", "_law_k"] (sp_l_cup K) := by
  refine okG X.F_l_cup sc_l_cup (fun vs H Q E h => spC_len h fun _ => rfl) (fun cdv A outer s H vs Q E hr h => ?_)
  refine ⟨(tSeq (tAsg (tIf (tTest (tOp rdLt (tVar 1) (tCB (rdLen K) (tCons (tVar 0) tNil)))) (tOp (rIxL K) (tVar 0) (tVar 1)) (tOp rdAdd (tOp rdMul (tC (.int 41)) (tVar 1)) (tC (.int 12)))) (gName 2)) (tSeq (tAsg (tOp rdMul (tOp rdMod (tCB rdAbs (tCons (tVar 2) tNil)) (tOp rdPow (tOp rdPow (tC (.int 10)) (tC (.int 60))) (tC (.int 4)))) (tCB rdInt1 (tCons (tOp rdGe (tCB rdAbs (tCons (tVar 2) tNil)) (tOp rdPow (tC (.int 10)) (tC (.int 18)))) tNil))) (gName 3)) (tRet (tLst (tCons (tVar 3) (tCons (tOp rdMod (tOp rdAdd (tOp rdAdd (tOp rdMul (tOp rdMod (tVar 2) (tC (.int 2305843009213693951))) (tC (.int 59333))) (tOp rdMul (tOp rdMul (tC (.int 6689)) (tVar 1)) (tVar 1))) (tC (.int 61))) (tC (.int 2305843009213693921))) (tCons (tC (.int 0)) tNil))))))), (pss_cons (ps_set (i := 2) sc_l_cup.nd rfl (Or.inl rfl) (pe_ifExp (pt_cmpR op_lt (pv 1) (pe_callB call_len_seq (by rfl) X.z_len bt_len (pa_cons (pv 0) pa_nil)) (nomark _)) (pe_ix ix_list (pv 0) (pv 1) (fun _ _ => rfl)) (pe_op op_add (pe_op op_mulX pe_int (pv 1)) pe_int))) (pss_cons (ps_set (i := 3) sc_l_cup.nd rfl (Or.inl rfl) (pe_op op_mulX (pe_op op_mod (pe_callB call_abs (by rfl) X.z_abs bt_abs (pa_cons (pv 2) pa_nil)) (pe_op op_powW (pe_op op_powW pe_int pe_int) pe_int)) (pe_callTy call_int1 (by rfl) X.z_int bt_int (pa_cons (pe_cmpR op_ge (pe_callB call_abs (by rfl) X.z_abs bt_abs (pa_cons (pv 2) pa_nil)) (pe_op op_powW pe_int pe_int) (nomark _)) pa_nil)))) (pss_one (ps_ret (pe_lst (pa_cons (pv 3) (pa_cons (pe_op op_mod (pe_op op_add (pe_op op_add (pe_op op_mulX (pe_op op_mod (pv 2) pe_int) pe_int) (pe_op op_mulX (pe_op op_mulX pe_int (pv 1)) (pv 1))) pe_int) pe_int) (pa_cons pe_int pa_nil)))))))), ?_⟩
  obtain ⟨⟨v_script, v_k⟩, r, W, h, hcore, har, hrt⟩ := h
  refine body hcore har (Nat.le_of_ble_eq_true rfl) ?_
  clear hcore har
  change m_l_cup v_script v_k = some r at h
  unfold m_l_cup at h
  change NxT _ _ [some ((rScr K).at v_script), some (rInt.at v_k), none, none] _ []
  replace h := bindE h
  obtain ⟨t3, ht3, h⟩ := h
  refine s_seq (s_set (e_if (c := (decide (v_k < (v_script.length : Int)))) (sl := rInt.at t3) (cs' := []) (t_test (e_opB0 (g := fun i j => decide (i < j)) (e_var (sl := (rInt.at v_k)) rfl ⟨_, rfl, (e_lenS (ea_cons (e_var (sl := ((rScr K).at v_script)) rfl fun _ => (ea_nil ⟨_, rfl, ⟨_, rfl, ⟨_, rfl, ⟨rfl, ?b4, ?b5⟩⟩⟩⟩))))⟩))) ?_))
  case b4 =>
    intro hc
    have h := condT hc ht3
    replace h := bindE h
    obtain ⟨t1, ht1, h⟩ := h
    replace h := pureE h
    subst h
    refine (e_ixS (e_var (sl := ((rScr K).at v_script)) rfl fun _ => (e_var (sl := (rInt.at v_k)) rfl ⟨_, _, _, rfl, rfl, ht1, ⟨rfl, rfl⟩⟩)))
  case b5 =>
    intro hc
    have h := condF hc ht3
    replace h := bindE h
    obtain ⟨t2, ht2, h⟩ := h
    replace h := pureE h
    subst h
    refine (e_opI0 (g := fun i j => i + j) (e_opO oMul_ok (e_int ⟨_, rfl, (e_var (sl := (rInt.at v_k)) rfl ⟨_, _, rfl, ht2, ⟨_, rfl, (e_int ⟨_, rfl, ⟨rfl, rfl⟩⟩)⟩⟩)⟩)))
  change NxT _ _ [some ((rScr K).at v_script), some (rInt.at v_k), some (rInt.at t3), none] _ []
  replace h := bindE h
  obtain ⟨t6, ht6, h⟩ := h
  replace h := bindE h
  obtain ⟨t7, ht7, h⟩ := h
  replace h := bindE h
  obtain ⟨t8, ht8, h⟩ := h
  replace h := bindE h
  obtain ⟨t9, ht9, h⟩ := h
  replace h := bindE h
  obtain ⟨t10, ht10, h⟩ := h
  refine s_seq (s_set (e_opO oMul_ok (e_opO oMod_ok (e_abs (ea_cons (e_var (sl := (rInt.at t3)) rfl fun _ => (ea_nil ⟨_, rfl, ⟨_, rfl, (e_opO oPow_ok (e_opO oPow_ok (e_int ⟨_, rfl, (e_int ⟨_, _, rfl, ht6, ⟨_, rfl, (e_int ⟨_, _, rfl, ht7, ⟨_, _, rfl, ht8, ⟨_, rfl, (e_intB (ea_cons (e_opB0 (g := fun i j => decide (j ≤ i)) (e_abs (ea_cons (e_var (sl := (rInt.at t3)) rfl fun _ => (ea_nil ⟨_, rfl, ⟨_, rfl, (e_opO oPow_ok (e_int ⟨_, rfl, (e_int ⟨_, _, rfl, ht9, ⟨_, rfl, fun _ => (ea_nil ⟨_, rfl, ⟨_, _, rfl, ht10, ?_⟩⟩)⟩⟩)⟩))⟩⟩)))))))⟩⟩⟩)⟩⟩)⟩)))⟩⟩)))))))
  change NxT _ _ [some ((rScr K).at v_script), some (rInt.at v_k), some (rInt.at t3), some (rInt.at t10)] _ []
  replace h := bindE h
  obtain ⟨t11, ht11, h⟩ := h
  replace h := bindE h
  obtain ⟨t12, ht12, h⟩ := h
  replace h := bindE h
  obtain ⟨t13, ht13, h⟩ := h
  replace h := bindE h
  obtain ⟨t14, ht14, h⟩ := h
  replace h := bindE h
  obtain ⟨t15, ht15, h⟩ := h
  replace h := pureE h
  subst h
  refine s_ret (e_lstC (ea_cons (e_var (sl := (rInt.at t10)) rfl fun _ => (ea_cons (e_opO oMod_ok (e_opI0 (g := fun i j => i + j) (e_opI0 (g := fun i j => i + j) (e_opO oMul_ok (e_opO oMod_ok (e_var (sl := (rInt.at t3)) rfl ⟨_, rfl, (e_int ⟨_, _, rfl, ht11, ⟨_, rfl, (e_int ⟨_, _, rfl, ht12, ⟨_, rfl, (e_opO oMul_ok (e_opO oMul_ok (e_int ⟨_, rfl, (e_var (sl := (rInt.at v_k)) rfl ⟨_, _, rfl, ht13, ⟨_, rfl, (e_var (sl := (rInt.at v_k)) rfl ⟨_, _, rfl, ht14, ⟨_, rfl, ⟨_, rfl, (e_int ⟨_, rfl, ⟨_, rfl, (e_int ⟨_, _, rfl, ht15, fun _ => (ea_cons (e_int fun _ => (ea_nil ⟨_, rInt, ([t10, t15, (0 : Int)] : List Int), rfl, Nat.le_of_ble_eq_true rfl, fun pr => ?_⟩)))⟩)⟩⟩)⟩⟩⟩)⟩⟩)⟩)))⟩⟩)⟩⟩)⟩))))))))))
  exact hrt pr
def m_l_dip (k : Cup) (v_many : Int) : Option (Int × Cup) :=
  bind (atI [k.1, k.2.1, k.2.2] (0 : Int)) fun t1 =>
  (bif (decide ((0 : Int) < t1)) then ((bind (atI [k.1, k.2.1, k.2.2] (0 : Int)) fun t2 => (bind (oMod t2 v_many) fun t3 => (bind (atI [k.1, k.2.1, k.2.2] (0 : Int)) fun t4 => (bind (oDiv t4 v_many) fun t5 => pure (t3, (t5, k.2.1, k.2.2))))))) else ((bind (atI [k.1, k.2.1, k.2.2] (2 : Int)) fun t6 => (bind (atI [(k.1, k.2.1, (t6 + (1 : Int))).1, (k.1, k.2.1, (t6 + (1 : Int))).2.1, (k.1, k.2.1, (t6 + (1 : Int))).2.2] (2 : Int)) fun t7 => (bind (oMod t7 (5 : Int)) fun t8 => (bind (atI ([(2147483647 : Int), (2147483629 : Int), (2147483587 : Int), (2147483579 : Int), (2147483563 : Int)] : List Int) t8) fun t9 => (bind (atI [(k.1, k.2.1, (t6 + (1 : Int))).1, (k.1, k.2.1, (t6 + (1 : Int))).2.1, (k.1, k.2.1, (t6 + (1 : Int))).2.2] (1 : Int)) fun t10 => (bind (atI [(k.1, k.2.1, (t6 + (1 : Int))).1, (k.1, k.2.1, (t6 + (1 : Int))).2.1, (k.1, k.2.1, (t6 + (1 : Int))).2.2] (2 : Int)) fun t11 => (bind (oMul (77003 : Int) t11) fun t12 => (bind (atI [(k.1, k.2.1, (t6 + (1 : Int))).1, (k.1, k.2.1, (t6 + (1 : Int))).2.1, (k.1, k.2.1, (t6 + (1 : Int))).2.2] (2 : Int)) fun t13 => (bind (oMul t12 t13) fun t14 => (bind (oPow ((t10 + t14) + (47 : Int)) (3 : Int)) fun t15 => (bind (oMod t15 t9) fun t16 => (bind (oMod t16 (10037 : Int)) fun t17 => (bind (atI [(k.1, k.2.1, (t6 + (1 : Int))).1, (k.1, k.2.1, (t6 + (1 : Int))).2.1, (k.1, k.2.1, (t6 + (1 : Int))).2.2] (2 : Int)) fun t18 => (bind (oMul (71 : Int) t18) fun t19 => (bind (oMul t16 (t17 + t19)) fun t20 => (bind (oMod t20 (2305843009213693907 : Int)) fun t21 => (bind (oDiv t21 (101 : Int)) fun t22 => (bind (oMod t22 v_many) fun t23 => pure (t23, (k.1, k.2.1, (t6 + (1 : Int))))))))))))))))))))))))
abbrev sp_l_dip (K : PySem.W.Frag) : Sp := spM (ι := Addr × Cup × Int) (β := (Int × Cup)) (fun i => [sRef i.1, rInt.at i.2.2]) (fun i => [(i.1, cCup i.2.1)]) (fun i => m_l_dip i.2.1 i.2.2) (fun i b => rInt.at b.1) (fun i b => [(i.1, cCup b.2)])
abbrev N_l_dip : List Str := ["_law_cup_here", "_law_many", "_law_digit", "_law_prime", "_law_mixed"]
theorem sc_l_dip : FnScope N_l_dip ["_law_cup_here", "_law_many"] (defScope s_l_dip) := ⟨rfl, rfl, rfl, by decide +kernel, rfl, by decide +kernel, by decide +kernel⟩
theorem ok_l_dip {P : Program} {w : World} {K : PySem.W.Frag} {mg : Str → Option Value} {base : Heap} (X : Tx K mg) : FnG P w K mg base CX0 1 X.f_l_dip X.d_l_dip ["_law_cup_here", "_law_many"] (sp_l_dip K) := by
  refine okG X.F_l_dip sc_l_dip (fun vs H Q E h => spM_len h fun _ => rfl) (fun cdv A outer s H vs Q E hr h => ?_)
  refine ⟨(tSeq (tIfS (tTest (tOp rdGt (tOp (rIxL K) (tVar 0) (tC (.int 0))) (tC (.int 0)))) (tSeq (tAsg (tOp rdMod (tOp (rIxL K) (tVar 0) (tC (.int 0))) (tVar 1)) (gName 2)) (tSeq (tAsg (tOp rdDiv (tOp (rIxL K) (tVar 0) (tC (.int 0))) (tVar 1)) (gSub (tVar 0) (tC (.int 0)) rSetL)) (tRet (tVar 2)))) tNext) (tSeq (tAsg (tOp rdAdd (tOp (rIxL K) (tVar 0) (tC (.int 2))) (tC (.int 1))) (gSub (tVar 0) (tC (.int 2)) rSetL)) (tSeq (tAsg (tOp (rIxL K) (tLst (tCons (tC (.int 2147483647)) (tCons (tC (.int 2147483629)) (tCons (tC (.int 2147483587)) (tCons (tC (.int 2147483579)) (tCons (tC (.int 2147483563)) tNil)))))) (tOp rdMod (tOp (rIxL K) (tVar 0) (tC (.int 2))) (tC (.int 5)))) (gName 3)) (tSeq (tAsg (tOp rdMod (tOp rdPow (tOp rdAdd (tOp rdAdd (tOp (rIxL K) (tVar 0) (tC (.int 1))) (tOp rdMul (tOp rdMul (tC (.int 77003)) (tOp (rIxL K) (tVar 0) (tC (.int 2)))) (tOp (rIxL K) (tVar 0) (tC (.int 2))))) (tC (.int 47))) (tC (.int 3))) (tVar 3)) (gName 4)) (tRet (tOp rdMod (tOp rdDiv (tOp rdMod (tOp rdMul (tVar 4) (tOp rdAdd (tOp rdMod (tVar 4) (tC (.int 10037))) (tOp rdMul (tC (.int 71)) (tOp (rIxL K) (tVar 0) (tC (.int 2)))))) (tC (.int 2305843009213693907))) (tC (.int 101))) (tVar 1))))))), (pss_cons (ps_if (pt_cmpR op_gt (pe_ix ix_list (pv 0) pe_int (fun _ _ => rfl)) pe_int (nomark _)) (pss_cons (ps_set (i := 2) sc_l_dip.nd rfl (Or.inl rfl) (pe_op op_mod (pe_ix ix_list (pv 0) pe_int (fun _ _ => rfl)) (pv 1))) (pss_cons (ps_asg (pe_op op_fdivW (pe_ix ix_list (pv 0) pe_int (fun _ _ => rfl)) (pv 1)) (pg_sub (pv 0) pe_int set_list)) (pss_one (ps_ret (pv 2))))) pss_nil) (pss_cons (ps_asg (pe_op op_add (pe_ix ix_list (pv 0) pe_int (fun _ _ => rfl)) pe_int) (pg_sub (pv 0) pe_int set_list)) (pss_cons (ps_set (i := 3) sc_l_dip.nd rfl (Or.inl rfl) (pe_ix ix_list (pe_lst (pa_cons pe_int (pa_cons pe_int (pa_cons pe_int (pa_cons pe_int (pa_cons pe_int pa_nil)))))) (pe_op op_mod (pe_ix ix_list (pv 0) pe_int (fun _ _ => rfl)) pe_int) (fun _ _ => rfl))) (pss_cons (ps_set (i := 4) sc_l_dip.nd rfl (Or.inl rfl) (pe_op op_mod (pe_op op_powW (pe_op op_add (pe_op op_add (pe_ix ix_list (pv 0) pe_int (fun _ _ => rfl)) (pe_op op_mulX (pe_op op_mulX pe_int (pe_ix ix_list (pv 0) pe_int (fun _ _ => rfl))) (pe_ix ix_list (pv 0) pe_int (fun _ _ => rfl)))) pe_int) pe_int) (pv 3))) (pss_one (ps_ret (pe_op op_mod (pe_op op_fdivW (pe_op op_mod (pe_op op_mulX (pv 4) (pe_op op_add (pe_op op_mod (pv 4) pe_int) (pe_op op_mulX pe_int (pe_ix ix_list (pv 0) pe_int (fun _ _ => rfl))))) pe_int) pe_int) (pv 1)))))))), ?_⟩
  obtain ⟨⟨c, k, v_many⟩, r, W, h, hcore, har, hrt⟩ := h
  refine body hcore har (Nat.le_of_ble_eq_true rfl) ?_
  clear hcore har
  change m_l_dip k v_many = some r at h
  unfold m_l_dip at h
  change NxT _ _ [some (sRef c), some (rInt.at v_many), none, none, none] _ [(c, cCup k)]
  replace h := bindE h
  obtain ⟨t1, ht1, h⟩ := h
  refine s_seq (s_if (t_test (e_opB0 (g := fun i j => decide (j < i)) (e_ixC 0 (e_var (sl := (sRef c)) rfl fun _ => (e_int ⟨_, _, rInt, _, _, _, rfl, rfl, rfl, ht1, ⟨_, rfl, (e_int ⟨_, rfl, ⟨_, rfl, ⟨fun hc => ?_, fun hc => ?_⟩⟩⟩)⟩⟩))))))
  · replace h := condT hc h
    replace h := bindE h
    obtain ⟨t2, ht2, h⟩ := h
    replace h := bindE h
    obtain ⟨t3, ht3, h⟩ := h
    refine s_seq (s_set (e_opO oMod_ok (e_ixC 0 (e_var (sl := (sRef c)) rfl fun _ => (e_int ⟨_, _, rInt, _, _, _, rfl, rfl, rfl, ht2, ⟨_, rfl, (e_var (sl := (rInt.at v_many)) rfl ⟨_, _, rfl, ht3, ?_⟩)⟩⟩)))))
    change NxT _ _ [some (sRef c), some (rInt.at v_many), some (rInt.at t3), none, none] _ [(c, cCup k)]
    replace h := bindE h
    obtain ⟨t4, ht4, h⟩ := h
    replace h := bindE h
    obtain ⟨t5, ht5, h⟩ := h
    refine s_seq (s_setitem 0 (e_opO oDiv_ok (e_ixC 0 (e_var (sl := (sRef c)) rfl fun _ => (e_int ⟨_, _, rInt, _, _, _, rfl, rfl, rfl, ht4, ⟨_, rfl, (e_var (sl := (rInt.at v_many)) rfl ⟨_, _, rfl, ht5, fun _ => (e_var (sl := (sRef c)) rfl fun _ => (e_int ⟨_, _, rInt, _, _, _, _, rfl, rfl, rfl, rfl, rfl, ?_⟩))⟩)⟩⟩)))))
    change NxT _ _ [some (sRef c), some (rInt.at v_many), some (rInt.at t3), none, none] _ [(c, cCup (t5, k.2.1, k.2.2))]
    replace h := pureE h
    subst h
    refine s_ret (e_var (sl := (rInt.at t3)) rfl ?_)
    exact Rt.drop hrt (.cons₂ _ .slnil)
  · replace h := condF hc h
    refine s_next ?_
    replace h := bindE h
    obtain ⟨t6, ht6, h⟩ := h
    refine s_seq (s_setitem 0 (e_opI0 (g := fun i j => i + j) (e_ixC 0 (e_var (sl := (sRef c)) rfl fun _ => (e_int ⟨_, _, rInt, _, _, _, rfl, rfl, rfl, ht6, ⟨_, rfl, (e_int ⟨_, rfl, fun _ => (e_var (sl := (sRef c)) rfl fun _ => (e_int ⟨_, _, rInt, _, _, _, _, rfl, rfl, rfl, rfl, rfl, ?_⟩))⟩)⟩⟩)))))
    change NxT _ _ [some (sRef c), some (rInt.at v_many), none, none, none] _ [(c, cCup (k.1, k.2.1, (t6 + (1 : Int))))]
    replace h := bindE h
    obtain ⟨t7, ht7, h⟩ := h
    replace h := bindE h
    obtain ⟨t8, ht8, h⟩ := h
    replace h := bindE h
    obtain ⟨t9, ht9, h⟩ := h
    refine s_seq (s_set (e_ixL (e_lst (ea_cons (e_int fun _ => (ea_cons (e_int fun _ => (ea_cons (e_int fun _ => (ea_cons (e_int fun _ => (ea_cons (e_int fun _ => (ea_nil ⟨_, rInt, ([(2147483647 : Int), (2147483629 : Int), (2147483587 : Int), (2147483579 : Int), (2147483563 : Int)] : List Int), rfl, Nat.le_of_ble_eq_true rfl, fun _ => (e_opO oMod_ok (e_ixC 0 (e_var (sl := (sRef c)) rfl fun _ => (e_int ⟨_, _, rInt, _, _, _, rfl, rfl, rfl, ht7, ⟨_, rfl, (e_int ⟨_, _, rfl, ht8, ⟨_, rInt, _, _, _, rfl, rfl, ht9, ?_⟩⟩)⟩⟩))))⟩))))))))))))))
    change NxT _ _ [some (sRef c), some (rInt.at v_many), none, some (rInt.at t9), none] _ [(c, cCup (k.1, k.2.1, (t6 + (1 : Int))))]
    replace h := bindE h
    obtain ⟨t10, ht10, h⟩ := h
    replace h := bindE h
    obtain ⟨t11, ht11, h⟩ := h
    replace h := bindE h
    obtain ⟨t12, ht12, h⟩ := h
    replace h := bindE h
    obtain ⟨t13, ht13, h⟩ := h
    replace h := bindE h
    obtain ⟨t14, ht14, h⟩ := h
    replace h := bindE h
    obtain ⟨t15, ht15, h⟩ := h
    replace h := bindE h
    obtain ⟨t16, ht16, h⟩ := h
    refine s_seq (s_set (e_opO oMod_ok (e_opO oPow_ok (e_opI0 (g := fun i j => i + j) (e_opI0 (g := fun i j => i + j) (e_ixC 0 (e_var (sl := (sRef c)) rfl fun _ => (e_int ⟨_, _, rInt, _, _, _, rfl, rfl, rfl, ht10, ⟨_, rfl, (e_opO oMul_ok (e_opO oMul_ok (e_int ⟨_, rfl, (e_ixC 0 (e_var (sl := (sRef c)) rfl fun _ => (e_int ⟨_, _, rInt, _, _, _, rfl, rfl, rfl, ht11, ⟨_, _, rfl, ht12, ⟨_, rfl, (e_ixC 0 (e_var (sl := (sRef c)) rfl fun _ => (e_int ⟨_, _, rInt, _, _, _, rfl, rfl, rfl, ht13, ⟨_, _, rfl, ht14, ⟨_, rfl, ⟨_, rfl, (e_int ⟨_, rfl, ⟨_, rfl, (e_int ⟨_, _, rfl, ht15, ⟨_, rfl, (e_var (sl := (rInt.at t9)) rfl ⟨_, _, rfl, ht16, ?_⟩)⟩⟩)⟩⟩)⟩⟩⟩⟩)))⟩⟩⟩)))⟩)))⟩⟩))))))))
    change NxT _ _ [some (sRef c), some (rInt.at v_many), none, some (rInt.at t9), some (rInt.at t16)] _ [(c, cCup (k.1, k.2.1, (t6 + (1 : Int))))]
    replace h := bindE h
    obtain ⟨t17, ht17, h⟩ := h
    replace h := bindE h
    obtain ⟨t18, ht18, h⟩ := h
    replace h := bindE h
    obtain ⟨t19, ht19, h⟩ := h
    replace h := bindE h
    obtain ⟨t20, ht20, h⟩ := h
    replace h := bindE h
    obtain ⟨t21, ht21, h⟩ := h
    replace h := bindE h
    obtain ⟨t22, ht22, h⟩ := h
    replace h := bindE h
    obtain ⟨t23, ht23, h⟩ := h
    replace h := pureE h
    subst h
    refine s_ret (e_opO oMod_ok (e_opO oDiv_ok (e_opO oMod_ok (e_opO oMul_ok (e_var (sl := (rInt.at t16)) rfl ⟨_, rfl, (e_opI0 (g := fun i j => i + j) (e_opO oMod_ok (e_var (sl := (rInt.at t16)) rfl ⟨_, rfl, (e_int ⟨_, _, rfl, ht17, ⟨_, rfl, (e_opO oMul_ok (e_int ⟨_, rfl, (e_ixC 0 (e_var (sl := (sRef c)) rfl fun _ => (e_int ⟨_, _, rInt, _, _, _, rfl, rfl, rfl, ht18, ⟨_, _, rfl, ht19, ⟨_, rfl, ⟨_, _, rfl, ht20, ⟨_, rfl, (e_int ⟨_, _, rfl, ht21, ⟨_, rfl, (e_int ⟨_, _, rfl, ht22, ⟨_, rfl, (e_var (sl := (rInt.at v_many)) rfl ⟨_, _, rfl, ht23, ?_⟩)⟩⟩)⟩⟩)⟩⟩⟩⟩⟩)))⟩))⟩⟩)⟩)))⟩)))))
    exact Rt.drop hrt (.cons₂ _ .slnil)
def m_l_group (k : Cup) (v_count : Int) : Option ((List Int) × Cup) :=
  bind (oRange 0 v_count) fun t1 =>
  bind (lcO (fun (k3 : Cup) (x2 : Int) => (((bind (m_l_dip k3 (2 : Int)) fun r5 => (bif (decide (r5.1 = (0 : Int))) then (pure (some x2, r5.2)) else pure (none, r5.2)))) : Option (Option Int × Cup))) t1 k) fun t7 =>
  bind (((bif (!(decide (t7.1 = ([] : List Int)))) then (pure (t7.1, t7.2)) else ((bind (m_l_dip t7.2 v_count) fun r8 => pure (([r8.1] : List Int), r8.2)))) : Option ((List Int) × Cup))) fun t9 =>
  pure (t9.1, t9.2)
abbrev sp_l_group (K : PySem.W.Frag) : Sp := spM (ι := Addr × Cup × Int) (β := ((List Int) × Cup)) (fun i => [sRef i.1, rInt.at i.2.2]) (fun i => [(i.1, cCup i.2.1)]) (fun i => m_l_group i.2.1 i.2.2) (fun i b => (rTup rInt).at b.1) (fun i b => [(i.1, cCup b.2)])
abbrev N_l_group : List Str := ["_law_cup_here", "_law_count", "_law_found", "_law_kind"]
theorem sc_l_group : FnScope N_l_group ["_law_cup_here", "_law_count"] (defScope s_l_group) := ⟨rfl, rfl, rfl, by decide +kernel, rfl, by decide +kernel, by decide +kernel⟩
theorem ok_l_group {P : Program} {w : World} {K : PySem.W.Frag} {mg : Str → Option Value} {base : Heap} (X : Tx K mg) (G_l_dip : FnG P w K mg base CX0 1 X.f_l_dip X.d_l_dip ["_law_cup_here", "_law_many"] (sp_l_dip K)) : FnG P w K mg base CX0 2 X.f_l_group X.d_l_group ["_law_cup_here", "_law_count"] (sp_l_group K) := by
  refine okG X.F_l_group sc_l_group (fun vs H Q E h => spM_len h fun _ => rfl) (fun cdv A outer s H vs Q E hr h => ?_)
  refine ⟨(tSeq (tAsg (tLc (iRng1 (tCons (tVar 1) tNil)) (gName 3) (tTest (tOp rEq (tCall (sp_l_dip K) [] E0 (tCons (tVar 0) (tCons (tC (.int 2)) tNil))) (tC (.int 0)))) (tVar 3) [3]) (gName 2)) (tRet (tIf (tTest (tOp (rNeD K) (tVar 2) (tLst tNil))) (tCB (rdTupleOf K) (tCons (tVar 2) tNil)) (tTup (tCons (tCall (sp_l_dip K) [] E0 (tCons (tVar 0) (tCons (tVar 1) tNil))) tNil))))), (pss_cons (ps_setLc (i := 2) (own := [("_law_kind", 3)]) (g := (gName 3)) (tt := (tTest (tOp rEq (tCall (sp_l_dip K) [] E0 (tCons (tVar 0) (tCons (tC (.int 2)) tNil))) (tC (.int 0))))) (te := (tVar 3)) rfl sc_l_group.nd rfl rfl (sw_true rfl rfl rfl (by decide +kernel)) (pi_range1 (by rfl) X.z_range (pa_cons (pv 1) pa_nil)) (blkOk_by (N := N_l_group) (sc := (defScope s_l_group)) (by decide +kernel)) (fun _ _ _ _ _ => (pg_name (i := 3) sc_l_group.nd rfl (Or.inl rfl))) (fun _ _ _ _ _ => (pts_one (pt_cmpR op_eq (pe_callG (G_l_dip) (hr.mono (by decide)) (by rfl) X.g_l_dip X.F_l_dip.kp X.b_l_dip .nil pass0 (pa_cons (pv 0) (pa_cons pe_int pa_nil))) pe_int (nomark _)))) (fun _ _ _ _ _ => (pv 3))) (pss_one (ps_ret (pe_ifExp (pt_cmpR (op_neD hr.units) (pv 2) (pe_lst pa_nil) (nomark _)) (pe_callTy call_tuple_of (by rfl) X.z_tuple bt_tuple (pa_cons (pv 2) pa_nil)) (pe_tup (pa_cons (pe_callG (G_l_dip) (hr.mono (by decide)) (by rfl) X.g_l_dip X.F_l_dip.kp X.b_l_dip .nil pass0 (pa_cons (pv 0) (pa_cons (pv 1) pa_nil))) pa_nil)))))), ?_⟩
  obtain ⟨⟨c, k, v_count⟩, r, W, h, hcore, har, hrt⟩ := h
  refine body hcore har (Nat.le_of_ble_eq_true rfl) ?_
  clear hcore har
  change m_l_group k v_count = some r at h
  unfold m_l_group at h
  change NxT _ _ [some (sRef c), some (rInt.at v_count), none, none] _ [(c, cCup k)]
  replace h := bindE h
  obtain ⟨t1, ht1, h⟩ := h
  replace h := bindE h
  obtain ⟨t7, ht7, h⟩ := h
  refine s_seq (s_set (lc_sound (is := [3]) (by decide) (i_range1 (ea_cons (e_var (sl := (rInt.at v_count)) rfl fun _ => (ea_nil ⟨_, _, rfl, ht1, ⟨_, _, _, rInt, t1, k, _, t7.1, t7.2, rInt, fun k => [(c, cCup k)], rfl, ht7, rfl, ?b6, ?_⟩⟩))))))
  case b6 =>
    intro W1 T1 k3 x2 o u1 h
    refine g_name ?_
    replace h := bindE h
    obtain ⟨r5, hr5, h⟩ := h
    refine (t_test (e_eqI (e_call (ea_cons (e_var (sl := (sRef c)) rfl fun _ => (ea_cons (e_int fun _ => (ea_nil ⟨(c, k3, (2 : Int)), r5, [], hr5, rfl, rfl, ⟨_, rfl, (e_int ⟨_, rfl, ⟨_, rfl, ⟨fun hc => ?_, fun hc => ?_⟩⟩⟩)⟩⟩))))))))
    · replace h := condT hc h
      replace h := pureE h
      cases h
      refine (e_var (sl := (rInt.at x2)) rfl ⟨_, rfl, rfl, rfl⟩)
    · replace h := condF hc h
      replace h := pureE h
      cases h
      exact ⟨rfl, rfl⟩
  change NxT _ _ [some (sRef c), some (rInt.at v_count), some ((rLst rInt).at t7.1), none] _ [(c, cCup t7.2)]
  replace h := bindE h
  obtain ⟨t9, ht9, h⟩ := h
  replace h := pureE h
  subst h
  refine s_ret (e_if (c := (!(decide (t7.1 = ([] : List Int))))) (sl := (rTup rInt).at t9.1) (cs' := [(c, cCup t9.2)]) (t_test (e_neD (e_var (sl := ((rLst rInt).at t7.1)) rfl fun _ => (e_lst (ea_nil ⟨_, rInt, ([] : List Int), rfl, Nat.le_of_ble_eq_true rfl, ⟨_, inferInstance, _, (eLst eInt), _, _, by decide, rfl, rfl, ⟨_, rfl, ⟨rfl, ?b10, ?b11⟩⟩⟩⟩))))) ?_)
  case b10 =>
    intro hc
    have h := condT hc ht9
    replace h := pureE h
    subst h
    refine (e_tupL (ea_cons (e_var (sl := ((rLst rInt).at t7.1)) rfl fun _ => (ea_nil ⟨_, rInt, _, rfl, ⟨rfl, rfl⟩⟩))))
  case b11 =>
    intro hc
    have h := condF hc ht9
    replace h := bindE h
    obtain ⟨r8, hr8, h⟩ := h
    replace h := pureE h
    subst h
    refine (e_tup (ea_cons (e_call (ea_cons (e_var (sl := (sRef c)) rfl fun _ => (ea_cons (e_var (sl := (rInt.at v_count)) rfl fun _ => (ea_nil ⟨(c, t7.2, v_count), r8, [], hr8, rfl, rfl, fun _ => (ea_nil ⟨_, rInt, ([r8.1] : List Int), rfl, Nat.le_of_ble_eq_true rfl, ⟨rfl, rfl⟩⟩)⟩))))))))
  exact Rt.drop hrt (.cons₂ _ .slnil)
def m_l_all_splits (v_count : Int) (v_groups : (List (List Int))) : Option (List ((List Int) × Int)) :=
  bind (oRange 0 v_count) fun t1 =>
  bind (foldO (fun (b3 : ((List ((List Int) × Int)))) (x2 : Int) => (((bind (oRange 0 x2) fun t4 => (bind (oExt b3 (t4.map fun (x5 : Int) => (([x5] : List Int), x2))) fun l8 => pure (l8)))) : Option ((List ((List Int) × Int))))) t1 (([] : List ((List Int) × Int)))) fun o9 =>
  bind (foldO (fun (b12 : ((List ((List Int) × Int)))) (x11 : (List Int)) => (((bind (oRange 0 v_count) fun t13 => (bind (oExt b12 ((t13.filter fun (x14 : Int) => (!decide (x14 ∈ x11))).map fun (x14 : Int) => (x11, x14))) fun l17 => pure (l17)))) : Option ((List ((List Int) × Int))))) v_groups (o9)) fun o18 =>
  bind (oSortS o18) fun l20 =>
  pure l20
abbrev sp_l_all_splits (K : PySem.W.Frag) : Sp := spM (ι := Int × (List (List Int))) (β := (List ((List Int) × Int))) (fun i => [rInt.at i.1, (rTup (rTup rInt)).at i.2]) (fun i => []) (fun i => m_l_all_splits i.1 i.2) (fun i b => (rTup (rPair (rTup rInt) rInt)).at b) (fun i b => [])
abbrev N_l_all_splits : List Str := ["_law_count", "_law_groups", "_law_found", "_law_other", "_law_group_here", "_law_one", "_law_kind"]
theorem sc_l_all_splits : FnScope N_l_all_splits ["_law_count", "_law_groups"] (defScope s_l_all_splits) := ⟨rfl, rfl, rfl, by decide +kernel, rfl, by decide +kernel, by decide +kernel⟩
theorem ok_l_all_splits {P : Program} {w : World} {K : PySem.W.Frag} {mg : Str → Option Value} {base : Heap} (X : Tx K mg) : FnG P w K mg base CX0 1 X.f_l_all_splits X.d_l_all_splits ["_law_count", "_law_groups"] (sp_l_all_splits K) := by
  refine okG X.F_l_all_splits sc_l_all_splits (fun vs H Q E h => spM_len h fun _ => rfl) (fun cdv A outer s H vs Q E hr h => ?_)
  refine ⟨(tSeq (tAsg (tLst tNil) (gName 2)) (tSeq (tFor (iRng1 (tCons (tVar 0) tNil)) (gName 3) (tDrop (tBM K "list" rExtend (tVar 2) (tCons (tLc (iRng1 (tCons (tVar 3) tNil)) (gName 5) tYes (tTup (tCons (tTup (tCons (tVar 5) tNil)) (tCons (tVar 3) tNil))) [5]) tNil)))) (tSeq (tFor (iTup K (tVar 1)) (gName 4) (tDrop (tBM K "list" rExtend (tVar 2) (tCons (tLc (iRng1 (tCons (tVar 0) tNil)) (gName 6) (tTest (tOp (rIn K true) (tVar 6) (tVar 4))) (tTup (tCons (tVar 4) (tCons (tVar 6) tNil))) [6]) tNil)))) (tRet (tCB (rdTupleOf K) (tCons (tSortSet K (tVar 2)) tNil)))))), (pss_cons (ps_set (i := 2) sc_l_all_splits.nd rfl (Or.inl rfl) (pe_lst pa_nil)) (pss_cons (ps_for PassesOwn.never rfl (pi_range1 (by rfl) X.z_range (pa_cons (pv 0) pa_nil)) (pg_name (i := 3) sc_l_all_splits.nd rfl (Or.inr rfl)) (pss_one (ps_expr (pe_bm PySem.F.plainAttrs_list PySem.F.slot_list_extend PySem.F.type_list_extend mt_extend (pv 2) (pa_cons (pe_lc (own := [("_law_one", 5)]) (g := (gName 5)) (tt := tYes) (te := (tTup (tCons (tTup (tCons (tVar 5) tNil)) (tCons (tVar 3) tNil)))) rfl sc_l_all_splits.nd (pi_range1 (by rfl) X.z_range (pa_cons (pv 3) pa_nil)) (blkOk_by (N := N_l_all_splits) (sc := (defScope s_l_all_splits)) (by decide +kernel)) (fun _ _ _ _ _ => (pg_name (i := 5) sc_l_all_splits.nd rfl (Or.inl rfl))) (fun _ _ _ _ _ => pts_nil) (fun _ _ _ _ _ => (pe_tup (pa_cons (pe_tup (pa_cons (pv 5) pa_nil)) (pa_cons (pv 3) pa_nil))))) pa_nil))))) (pss_cons (ps_for PassesOwn.never rfl (pi_tup (pv 1)) (pg_name (i := 4) sc_l_all_splits.nd rfl (Or.inr rfl)) (pss_one (ps_expr (pe_bm PySem.F.plainAttrs_list PySem.F.slot_list_extend PySem.F.type_list_extend mt_extend (pv 2) (pa_cons (pe_lc (own := [("_law_kind", 6)]) (g := (gName 6)) (tt := (tTest (tOp (rIn K true) (tVar 6) (tVar 4)))) (te := (tTup (tCons (tVar 4) (tCons (tVar 6) tNil)))) rfl sc_l_all_splits.nd (pi_range1 (by rfl) X.z_range (pa_cons (pv 0) pa_nil)) (blkOk_by (N := N_l_all_splits) (sc := (defScope s_l_all_splits)) (by decide +kernel)) (fun _ _ _ _ _ => (pg_name (i := 6) sc_l_all_splits.nd rfl (Or.inl rfl))) (fun _ _ _ _ _ => (pts_one (pt_cmpR op_notIn_seq (pv 6) (pv 4) (by with_unfolding_all rfl)))) (fun _ _ _ _ _ => (pe_tup (pa_cons (pv 4) (pa_cons (pv 6) pa_nil))))) pa_nil))))) (pss_one (ps_ret (pe_callTy call_tuple_of (by rfl) X.z_tuple bt_tuple (pa_cons (pe_sortSet rfl hr (by rfl) X.z_sorted (by rfl) X.z_set (pv 2)) pa_nil))))))), ?_⟩
  obtain ⟨⟨v_count, v_groups⟩, r, W, h, hcore, har, hrt⟩ := h
  refine body hcore har (Nat.le_of_ble_eq_true rfl) ?_
  clear hcore har
  change m_l_all_splits v_count v_groups = some r at h
  unfold m_l_all_splits at h
  change NxT _ _ [some (rInt.at v_count), some ((rTup (rTup rInt)).at v_groups), none, none, none, none, none] _ []
  refine s_seq (s_set (e_lstC (ea_nil ⟨_, (rPair (rTup rInt) rInt), ([] : List ((List Int) × Int)), rfl, Nat.le_of_ble_eq_true rfl, fun p__law_found => ?_⟩)))
  change NxT _ _ [some (rInt.at v_count), some ((rTup (rTup rInt)).at v_groups), some (sRef p__law_found), none, none, none, none] _ [(p__law_found, cLst (rPair (rTup rInt) rInt) ([] : List ((List Int) × Int)))]
  replace h := bindE h
  obtain ⟨t1, ht1, h⟩ := h
  replace h := bindE h
  obtain ⟨o9, ho9, h⟩ := h
  refine s_seq (fold_sound (is := [3]) (i_range1 (ea_cons (e_var (sl := (rInt.at v_count)) rfl fun _ => (ea_nil ⟨_, _, rfl, ht1, ⟨_, _, rInt, t1, (([] : List ((List Int) × Int))), _, o9, fun (b3 : ((List ((List Int) × Int)))) => [some (rInt.at v_count), some ((rTup (rTup rInt)).at v_groups), some (sRef p__law_found), none, none, none, none], fun (b3 : ((List ((List Int) × Int)))) => [(p__law_found, cLst (rPair (rTup rInt) rInt) b3)], rfl, ho9, (by exact (And.intro rfl (And.intro rfl (And.intro rfl True.intro)))), rfl, ?b10, ?_⟩⟩)))))
  case b10 =>
    clear h
    intro T1 b3 x2 b1 h N Bk hN
    refine g_name ?_
    change NxT _ _ [some (rInt.at v_count), some ((rTup (rTup rInt)).at v_groups), some (sRef p__law_found), some (rInt.at x2), none, none, none] _ [(p__law_found, cLst (rPair (rTup rInt) rInt) b3)]
    replace h := bindE h
    obtain ⟨t4, ht4, h⟩ := h
    replace h := bindE h
    obtain ⟨l8, hl8, h⟩ := h
    refine (s_drop (e_extend 0 (e_var (sl := (sRef p__law_found)) rfl ⟨_, _, (rPair (rTup rInt) rInt), _, rfl, rfl, fun _ => (ea_cons (lc_sound (is := [5]) (by decide) (i_range1 (ea_cons (e_var (sl := (rInt.at x2)) rfl fun _ => (ea_nil ⟨_, _, rfl, ht4, ⟨_, _, _, rInt, t4, (), fun (u : Unit) (x5 : Int) => some (some (([x5] : List Int), x2), u), (t4.map fun (x5 : Int) => (([x5] : List Int), x2)), (), (rPair (rTup rInt) rInt), fun _ => [(p__law_found, cLst (rPair (rTup rInt) rInt) b3)], rfl, lcO_map _ _, rfl, ?b7, fun _ => (ea_nil ⟨_, _, _, rfl, rfl, hl8, ?_⟩)⟩⟩))))))⟩)))
    case b7 =>
      intro W1 T1 k6 x5 o u1 h
      refine g_name ?_
      cases h
      refine t_yes ⟨fun _ => ?_, fun z => nomatch z⟩
      refine (e_pair (ea_cons (e_tup (ea_cons (e_var (sl := (rInt.at x5)) rfl fun _ => (ea_nil ⟨_, rInt, ([x5] : List Int), rfl, Nat.le_of_ble_eq_true rfl, fun _ => (ea_cons (e_var (sl := (rInt.at x2)) rfl fun _ => (ea_nil ⟨_, _, (rTup rInt), rInt, _, _, rfl, ⟨_, rfl, rfl, rfl⟩⟩)))⟩))))))
    change NxT _ _ [some (rInt.at v_count), some ((rTup (rTup rInt)).at v_groups), some (sRef p__law_found), some (rInt.at x2), none, none, none] _ [(p__law_found, cLst (rPair (rTup rInt) rInt) l8)]
    replace h := pureE h
    subst h
    exact s_weak (by exact (And.intro rfl (And.intro rfl (And.intro rfl True.intro)))) (.cons₂ _ .slnil) hN
  change NxT _ _ [some (rInt.at v_count), some ((rTup (rTup rInt)).at v_groups), some (sRef p__law_found), none, none, none, none] _ [(p__law_found, cLst (rPair (rTup rInt) rInt) o9)]
  replace h := bindE h
  obtain ⟨o18, ho18, h⟩ := h
  refine s_seq (fold_sound (is := [4]) (i_tup (e_var (sl := ((rTup (rTup rInt)).at v_groups)) rfl ⟨_, (rTup rInt), _, rfl, ⟨_, _, (rTup rInt), v_groups, (o9), _, o18, fun (b12 : ((List ((List Int) × Int)))) => [some (rInt.at v_count), some ((rTup (rTup rInt)).at v_groups), some (sRef p__law_found), none, none, none, none], fun (b12 : ((List ((List Int) × Int)))) => [(p__law_found, cLst (rPair (rTup rInt) rInt) b12)], rfl, ho18, (by exact (And.intro rfl (And.intro rfl (And.intro rfl True.intro)))), rfl, ?b19, ?_⟩⟩)))
  case b19 =>
    clear h
    intro T1 b12 x11 b1 h N Bk hN
    refine g_name ?_
    change NxT _ _ [some (rInt.at v_count), some ((rTup (rTup rInt)).at v_groups), some (sRef p__law_found), none, some ((rTup rInt).at x11), none, none] _ [(p__law_found, cLst (rPair (rTup rInt) rInt) b12)]
    replace h := bindE h
    obtain ⟨t13, ht13, h⟩ := h
    replace h := bindE h
    obtain ⟨l17, hl17, h⟩ := h
    refine (s_drop (e_extend 0 (e_var (sl := (sRef p__law_found)) rfl ⟨_, _, (rPair (rTup rInt) rInt), _, rfl, rfl, fun _ => (ea_cons (lc_sound (is := [6]) (by decide) (i_range1 (ea_cons (e_var (sl := (rInt.at v_count)) rfl fun _ => (ea_nil ⟨_, _, rfl, ht13, ⟨_, _, _, rInt, t13, (), fun (u : Unit) (x14 : Int) => bif (!decide (x14 ∈ x11)) then some (some (x11, x14), u) else some (none, u), ((t13.filter fun (x14 : Int) => (!decide (x14 ∈ x11))).map fun (x14 : Int) => (x11, x14)), (), (rPair (rTup rInt) rInt), fun _ => [(p__law_found, cLst (rPair (rTup rInt) rInt) b12)], rfl, lcO_filter _ _ _, rfl, ?b16, fun _ => (ea_nil ⟨_, _, _, rfl, rfl, hl17, ?_⟩)⟩⟩))))))⟩)))
    case b16 =>
      intro W1 T1 k15 x14 o u1 h
      refine g_name ?_
      refine (t_test (e_inT true (e_var (sl := (rInt.at x14)) rfl ⟨_, rfl, fun _ => (e_var (sl := ((rTup rInt).at x11)) rfl ⟨_, rfl, ⟨_, rfl, ⟨fun hc => ?_, fun hc => ?_⟩⟩⟩)⟩)))
      · replace h := condT hc h
        cases h
        refine (e_pair (ea_cons (e_var (sl := ((rTup rInt).at x11)) rfl fun _ => (ea_cons (e_var (sl := (rInt.at x14)) rfl fun _ => (ea_nil ⟨_, _, (rTup rInt), rInt, _, _, rfl, ⟨_, rfl, rfl, rfl⟩⟩))))))
      · replace h := condF hc h
        cases h
        exact ⟨rfl, rfl⟩
    change NxT _ _ [some (rInt.at v_count), some ((rTup (rTup rInt)).at v_groups), some (sRef p__law_found), none, some ((rTup rInt).at x11), none, none] _ [(p__law_found, cLst (rPair (rTup rInt) rInt) l17)]
    replace h := pureE h
    subst h
    exact s_weak (by exact (And.intro rfl (And.intro rfl (And.intro rfl True.intro)))) (.cons₂ _ .slnil) hN
  change NxT _ _ [some (rInt.at v_count), some ((rTup (rTup rInt)).at v_groups), some (sRef p__law_found), none, none, none, none] _ [(p__law_found, cLst (rPair (rTup rInt) rInt) o18)]
  replace h := bindE h
  obtain ⟨l20, hl20, h⟩ := h
  replace h := pureE h
  subst h
  refine s_ret (e_tupL (ea_cons (e_sortS 0 (e_var (sl := (sRef p__law_found)) rfl ⟨_, _, _, rfl, rfl, hl20, fun _ => (ea_nil ⟨_, (rPair (rTup rInt) rInt), _, rfl, ?_⟩)⟩))))
  exact Rt.drop hrt (.cons _ .slnil)
def m_l_some_splits (k : Cup) (v_count : Int) (v_most : Int) : Option ((List ((List Int) × Int)) × Cup) :=
  bind (((bif (decide ((1 : Int) < v_count)) then ((bind (m_l_dip k (v_most + (1 : Int))) fun r1 => pure (r1.1, r1.2))) else (pure ((0 : Int), k))) : Option (Int × Cup))) fun t2 =>
  bind (oRange 0 t2.1) fun t5 =>
  bind (foldO (fun (b7 : (Cup × (List ((List Int) × Int)))) (x6 : Int) => (((bind (m_l_dip b7.1 v_count) fun r8 => (bind (m_l_group r8.2 v_count) fun r9 => (bind (((bif (!(decide (((r9.1.filter fun (x10 : Int) => (!decide (x10 = r8.1))).map fun (x10 : Int) => x10) = ([] : List Int)))) then (pure ((r9.1.filter fun (x10 : Int) => (!decide (x10 = r8.1))).map fun (x10 : Int) => x10)) else ((bind (oMod (r8.1 + (1 : Int)) v_count) fun t13 => pure ([t13] : List Int)))) : Option (List Int))) fun t14 => (bind (oApp b7.2 (t14, r8.1)) fun l17 => pure (r9.2, l17)))))) : Option (Cup × (List ((List Int) × Int))))) t5 (t2.2, ([] : List ((List Int) × Int)))) fun o18 =>
  bind (oSortS o18.2) fun l20 =>
  pure (l20, o18.1)
abbrev sp_l_some_splits (K : PySem.W.Frag) : Sp := spM (ι := Addr × Cup × Int × Int) (β := ((List ((List Int) × Int)) × Cup)) (fun i => [sRef i.1, rInt.at i.2.2.1, rInt.at i.2.2.2]) (fun i => [(i.1, cCup i.2.1)]) (fun i => m_l_some_splits i.2.1 i.2.2.1 i.2.2.2) (fun i b => (rTup (rPair (rTup rInt) rInt)).at b.1) (fun i b => [(i.1, cCup b.2)])
abbrev N_l_some_splits : List Str := ["_law_cup_here", "_law_count", "_law_most", "_law_found", "_law_turn", "_law_kind", "_law_group_here", "_law_one"]
theorem sc_l_some_splits : FnScope N_l_some_splits ["_law_cup_here", "_law_count", "_law_most"] (defScope s_l_some_splits) := ⟨rfl, rfl, rfl, by decide +kernel, rfl, by decide +kernel, by decide +kernel⟩
theorem ok_l_some_splits {P : Program} {w : World} {K : PySem.W.Frag} {mg : Str → Option Value} {base : Heap} (X : Tx K mg) (G_l_dip : FnG P w K mg base CX0 1 X.f_l_dip X.d_l_dip ["_law_cup_here", "_law_many"] (sp_l_dip K)) (G_l_group : FnG P w K mg base CX0 2 X.f_l_group X.d_l_group ["_law_cup_here", "_law_count"] (sp_l_group K)) : FnG P w K mg base CX0 3 X.f_l_some_splits X.d_l_some_splits ["_law_cup_here", "_law_count", "_law_most"] (sp_l_some_splits K) := by
  refine okG X.F_l_some_splits sc_l_some_splits (fun vs H Q E h => spM_len h fun _ => rfl) (fun cdv A outer s H vs Q E hr h => ?_)
  refine ⟨(tSeq (tAsg (tLst tNil) (gName 3)) (tSeq (tFor (iRng1 (tCons (tIf (tTest (tOp rdGt (tVar 1) (tC (.int 1)))) (tCall (sp_l_dip K) [] E0 (tCons (tVar 0) (tCons (tOp rdAdd (tVar 2) (tC (.int 1))) tNil))) (tC (.int 0))) tNil)) (gName 4) (tSeq (tAsg (tCall (sp_l_dip K) [] E0 (tCons (tVar 0) (tCons (tVar 1) tNil))) (gName 5)) (tSeq (tAsg (tLc (iTup K (tCall (sp_l_group K) [] E0 (tCons (tVar 0) (tCons (tVar 1) tNil)))) (gName 7) (tTest (tOp rNe (tVar 7) (tVar 5))) (tVar 7) [7]) (gName 6)) (tDrop (tBM K "list" rAppend (tVar 3) (tCons (tTup (tCons (tIf (tTest (tOp (rNeD K) (tVar 6) (tLst tNil))) (tCB (rdTupleOf K) (tCons (tVar 6) tNil)) (tTup (tCons (tOp rdMod (tOp rdAdd (tVar 5) (tC (.int 1))) (tVar 1)) tNil))) (tCons (tVar 5) tNil))) tNil)))))) (tRet (tCB (rdTupleOf K) (tCons (tSortSet K (tVar 3)) tNil))))), (pss_cons (ps_set (i := 3) sc_l_some_splits.nd rfl (Or.inl rfl) (pe_lst pa_nil)) (pss_cons (ps_for PassesOwn.never rfl (pi_range1 (by rfl) X.z_range (pa_cons (pe_ifExp (pt_cmpR op_gt (pv 1) pe_int (nomark _)) (pe_callG (G_l_dip) (hr.mono (by decide)) (by rfl) X.g_l_dip X.F_l_dip.kp X.b_l_dip .nil pass0 (pa_cons (pv 0) (pa_cons (pe_op op_add (pv 2) pe_int) pa_nil))) pe_int) pa_nil)) (pg_name (i := 4) sc_l_some_splits.nd rfl (Or.inl rfl)) (pss_cons (ps_set (i := 5) sc_l_some_splits.nd rfl (Or.inr rfl) (pe_callG (G_l_dip) (hr.mono (by decide)) (by rfl) X.g_l_dip X.F_l_dip.kp X.b_l_dip .nil pass0 (pa_cons (pv 0) (pa_cons (pv 1) pa_nil)))) (pss_cons (ps_setLc (i := 6) (own := [("_law_one", 7)]) (g := (gName 7)) (tt := (tTest (tOp rNe (tVar 7) (tVar 5)))) (te := (tVar 7)) rfl sc_l_some_splits.nd rfl rfl (sw_true rfl rfl rfl (by decide +kernel)) (pi_tup (pe_callG (G_l_group) (hr.mono (by decide)) (by rfl) X.g_l_group X.F_l_group.kp X.b_l_group .nil pass0 (pa_cons (pv 0) (pa_cons (pv 1) pa_nil)))) (blkOk_by (N := N_l_some_splits) (sc := (defScope s_l_some_splits)) (by decide +kernel)) (fun _ _ _ _ _ => (pg_name (i := 7) sc_l_some_splits.nd rfl (Or.inl rfl))) (fun _ _ _ _ _ => (pts_one (pt_cmpR op_ne (pv 7) (pv 5) (nomark _)))) (fun _ _ _ _ _ => (pv 7))) (pss_one (ps_expr (pe_bm PySem.F.plainAttrs_list PySem.F.slot_list_append PySem.F.type_list_append mt_append (pv 3) (pa_cons (pe_tup (pa_cons (pe_ifExp (pt_cmpR (op_neD hr.units) (pv 6) (pe_lst pa_nil) (nomark _)) (pe_callTy call_tuple_of (by rfl) X.z_tuple bt_tuple (pa_cons (pv 6) pa_nil)) (pe_tup (pa_cons (pe_op op_mod (pe_op op_add (pv 5) pe_int) (pv 1)) pa_nil))) (pa_cons (pv 5) pa_nil))) pa_nil))))))) (pss_one (ps_ret (pe_callTy call_tuple_of (by rfl) X.z_tuple bt_tuple (pa_cons (pe_sortSet rfl hr (by rfl) X.z_sorted (by rfl) X.z_set (pv 3)) pa_nil)))))), ?_⟩
  obtain ⟨⟨c, k, v_count, v_most⟩, r, W, h, hcore, har, hrt⟩ := h
  refine body hcore har (Nat.le_of_ble_eq_true rfl) ?_
  clear hcore har
  change m_l_some_splits k v_count v_most = some r at h
  unfold m_l_some_splits at h
  change NxT _ _ [some (sRef c), some (rInt.at v_count), some (rInt.at v_most), none, none, none, none, none] _ [(c, cCup k)]
  refine s_seq (s_set (e_lstC (ea_nil ⟨_, (rPair (rTup rInt) rInt), ([] : List ((List Int) × Int)), rfl, Nat.le_of_ble_eq_true rfl, fun p__law_found => ?_⟩)))
  change NxT _ _ [some (sRef c), some (rInt.at v_count), some (rInt.at v_most), some (sRef p__law_found), none, none, none, none] _ [(c, cCup k), (p__law_found, cLst (rPair (rTup rInt) rInt) ([] : List ((List Int) × Int)))]
  replace h := bindE h
  obtain ⟨t2, ht2, h⟩ := h
  replace h := bindE h
  obtain ⟨t5, ht5, h⟩ := h
  replace h := bindE h
  obtain ⟨o18, ho18, h⟩ := h
  refine s_seq (fold_sound (is := [4]) (i_range1 (ea_cons (e_if (c := (decide ((1 : Int) < v_count))) (sl := rInt.at t2.1) (cs' := [(c, cCup t2.2), (p__law_found, cLst (rPair (rTup rInt) rInt) ([] : List ((List Int) × Int)))]) (t_test (e_opB0 (g := fun i j => decide (j < i)) (e_var (sl := (rInt.at v_count)) rfl ⟨_, rfl, (e_int ⟨_, rfl, ⟨_, rfl, ⟨rfl, ?b3, ?b4⟩⟩⟩)⟩))) fun _ => (ea_nil ⟨_, _, rfl, ht5, ⟨_, _, rInt, t5, (t2.2, ([] : List ((List Int) × Int))), _, o18, fun (b7 : (Cup × (List ((List Int) × Int)))) => [some (sRef c), some (rInt.at v_count), some (rInt.at v_most), some (sRef p__law_found), none, none, none, none], fun (b7 : (Cup × (List ((List Int) × Int)))) => [(c, cCup b7.1), (p__law_found, cLst (rPair (rTup rInt) rInt) b7.2)], rfl, ho18, (by exact (And.intro rfl (And.intro rfl (And.intro rfl (And.intro rfl True.intro))))), rfl, ?b19, ?_⟩⟩)))))
  case b3 =>
    intro hc
    have h := condT hc ht2
    replace h := bindE h
    obtain ⟨r1, hr1, h⟩ := h
    replace h := pureE h
    subst h
    refine (e_call (ea_cons (e_var (sl := (sRef c)) rfl fun _ => (ea_cons (e_opI0 (g := fun i j => i + j) (e_var (sl := (rInt.at v_most)) rfl ⟨_, rfl, (e_int ⟨_, rfl, fun _ => (ea_nil ⟨(c, k, (v_most + (1 : Int))), r1, [(p__law_found, cLst (rPair (rTup rInt) rInt) ([] : List ((List Int) × Int)))], hr1, rfl, rfl, ⟨rfl, rfl⟩⟩)⟩)⟩))))))
  case b4 =>
    intro hc
    have h := condF hc ht2
    replace h := pureE h
    subst h
    refine (e_int ⟨rfl, rfl⟩)
  case b19 =>
    clear h
    intro T1 b7 x6 b1 h N Bk hN
    refine g_name ?_
    change NxT _ _ [some (sRef c), some (rInt.at v_count), some (rInt.at v_most), some (sRef p__law_found), some (rInt.at x6), none, none, none] _ [(c, cCup b7.1), (p__law_found, cLst (rPair (rTup rInt) rInt) b7.2)]
    replace h := bindE h
    obtain ⟨r8, hr8, h⟩ := h
    refine s_seq (s_set (e_call (ea_cons (e_var (sl := (sRef c)) rfl fun _ => (ea_cons (e_var (sl := (rInt.at v_count)) rfl fun _ => (ea_nil ⟨(c, b7.1, v_count), r8, [(p__law_found, cLst (rPair (rTup rInt) rInt) b7.2)], hr8, rfl, rfl, ?_⟩)))))))
    change NxT _ _ [some (sRef c), some (rInt.at v_count), some (rInt.at v_most), some (sRef p__law_found), some (rInt.at x6), some (rInt.at r8.1), none, none] _ [(c, cCup r8.2), (p__law_found, cLst (rPair (rTup rInt) rInt) b7.2)]
    replace h := bindE h
    obtain ⟨r9, hr9, h⟩ := h
    refine s_seq (s_set (lc_sound (is := [7]) (by decide) (i_tup (e_call (ea_cons (e_var (sl := (sRef c)) rfl fun _ => (ea_cons (e_var (sl := (rInt.at v_count)) rfl fun _ => (ea_nil ⟨(c, r8.2, v_count), r9, [(p__law_found, cLst (rPair (rTup rInt) rInt) b7.2)], hr9, rfl, rfl, ⟨_, rInt, _, rfl, ⟨_, _, _, rInt, r9.1, (), fun (u : Unit) (x10 : Int) => bif (!decide (x10 = r8.1)) then some (some x10, u) else some (none, u), ((r9.1.filter fun (x10 : Int) => (!decide (x10 = r8.1))).map fun (x10 : Int) => x10), (), rInt, fun _ => [(c, cCup r9.2), (p__law_found, cLst (rPair (rTup rInt) rInt) b7.2)], rfl, lcO_filter _ _ _, rfl, ?b12, ?_⟩⟩⟩)))))))))
    case b12 =>
      intro W1 T1 k11 x10 o u1 h
      refine g_name ?_
      refine (t_test (e_neI (e_var (sl := (rInt.at x10)) rfl ⟨_, rfl, (e_var (sl := (rInt.at r8.1)) rfl ⟨_, rfl, ⟨_, rfl, ⟨fun hc => ?_, fun hc => ?_⟩⟩⟩)⟩)))
      · replace h := condT hc h
        cases h
        refine (e_var (sl := (rInt.at x10)) rfl ⟨_, rfl, rfl, rfl⟩)
      · replace h := condF hc h
        cases h
        exact ⟨rfl, rfl⟩
    change NxT _ _ [some (sRef c), some (rInt.at v_count), some (rInt.at v_most), some (sRef p__law_found), some (rInt.at x6), some (rInt.at r8.1), some ((rLst rInt).at ((r9.1.filter fun (x10 : Int) => (!decide (x10 = r8.1))).map fun (x10 : Int) => x10)), none] _ [(c, cCup r9.2), (p__law_found, cLst (rPair (rTup rInt) rInt) b7.2)]
    replace h := bindE h
    obtain ⟨t14, ht14, h⟩ := h
    replace h := bindE h
    obtain ⟨l17, hl17, h⟩ := h
    refine (s_drop (e_append 1 (e_var (sl := (sRef p__law_found)) rfl ⟨_, _, (rPair (rTup rInt) rInt), _, rfl, rfl, fun _ => (ea_cons (e_pair (ea_cons (e_if (c := (!(decide (((r9.1.filter fun (x10 : Int) => (!decide (x10 = r8.1))).map fun (x10 : Int) => x10) = ([] : List Int))))) (sl := (rTup rInt).at t14) (cs' := [(c, cCup r9.2), (p__law_found, cLst (rPair (rTup rInt) rInt) b7.2)]) (t_test (e_neD (e_var (sl := ((rLst rInt).at ((r9.1.filter fun (x10 : Int) => (!decide (x10 = r8.1))).map fun (x10 : Int) => x10))) rfl fun _ => (e_lst (ea_nil ⟨_, rInt, ([] : List Int), rfl, Nat.le_of_ble_eq_true rfl, ⟨_, inferInstance, _, (eLst eInt), _, _, by decide, rfl, rfl, ⟨_, rfl, ⟨rfl, ?b15, ?b16⟩⟩⟩⟩))))) fun _ => (ea_cons (e_var (sl := (rInt.at r8.1)) rfl fun _ => (ea_nil ⟨_, _, (rTup rInt), rInt, _, _, rfl, fun _ => (ea_nil ⟨_, _, _, rfl, rfl, hl17, ?_⟩)⟩)))))))⟩)))
    case b15 =>
      intro hc
      have h := condT hc ht14
      replace h := pureE h
      subst h
      refine (e_tupL (ea_cons (e_var (sl := ((rLst rInt).at ((r9.1.filter fun (x10 : Int) => (!decide (x10 = r8.1))).map fun (x10 : Int) => x10))) rfl fun _ => (ea_nil ⟨_, rInt, _, rfl, ⟨rfl, rfl⟩⟩))))
    case b16 =>
      intro hc
      have h := condF hc ht14
      replace h := bindE h
      obtain ⟨t13, ht13, h⟩ := h
      replace h := pureE h
      subst h
      refine (e_tup (ea_cons (e_opO oMod_ok (e_opI0 (g := fun i j => i + j) (e_var (sl := (rInt.at r8.1)) rfl ⟨_, rfl, (e_int ⟨_, rfl, ⟨_, rfl, (e_var (sl := (rInt.at v_count)) rfl ⟨_, _, rfl, ht13, fun _ => (ea_nil ⟨_, rInt, ([t13] : List Int), rfl, Nat.le_of_ble_eq_true rfl, ⟨rfl, rfl⟩⟩)⟩)⟩⟩)⟩)))))
    change NxT _ _ [some (sRef c), some (rInt.at v_count), some (rInt.at v_most), some (sRef p__law_found), some (rInt.at x6), some (rInt.at r8.1), some ((rLst rInt).at ((r9.1.filter fun (x10 : Int) => (!decide (x10 = r8.1))).map fun (x10 : Int) => x10)), none] _ [(c, cCup r9.2), (p__law_found, cLst (rPair (rTup rInt) rInt) l17)]
    replace h := pureE h
    subst h
    exact s_weak (by exact (And.intro rfl (And.intro rfl (And.intro rfl (And.intro rfl True.intro))))) (.cons₂ _ (.cons₂ _ .slnil)) hN
  change NxT _ _ [some (sRef c), some (rInt.at v_count), some (rInt.at v_most), some (sRef p__law_found), none, none, none, none] _ [(c, cCup o18.1), (p__law_found, cLst (rPair (rTup rInt) rInt) o18.2)]
  replace h := bindE h
  obtain ⟨l20, hl20, h⟩ := h
  replace h := pureE h
  subst h
  refine s_ret (e_tupL (ea_cons (e_sortS 1 (e_var (sl := (sRef p__law_found)) rfl ⟨_, _, _, rfl, rfl, hl20, fun _ => (ea_nil ⟨_, (rPair (rTup rInt) rInt), _, rfl, ?_⟩)⟩))))
  exact Rt.drop hrt (.cons₂ _ (.cons _ .slnil))
def m_l_bit_makes (v_numbers : (List Int)) (v_split : ((List Int) × Int)) : Option Bool :=
  bind (mapO (fun (x1 : Int) => (((bind (atI v_numbers x1) fun t3 => (bind (atI v_split.1 (0 : Int)) fun t4 => (bind (atI v_numbers t4) fun t5 => (bind (((bif (decide (t3 = t5)) then ((bind (atI v_numbers x1) fun t6 => (bind (atI v_numbers v_split.2) fun t7 => pure (!decide (t6 = t7))))) else (pure false)) : Option Bool)) fun t8 => pure (some t8)))))) : Option (Option Bool))) v_split.1) fun t11 =>
  pure (t11.all id)
abbrev sp_l_bit_makes (K : PySem.W.Frag) : Sp := spM (ι := (List Int) × ((List Int) × Int)) (β := Bool) (fun i => [(rTup rInt).at i.1, (rPair (rTup rInt) rInt).at i.2]) (fun i => []) (fun i => m_l_bit_makes i.1 i.2) (fun i b => rBool.at b) (fun i b => [])
abbrev N_l_bit_makes : List Str := ["_law_numbers", "_law_split", "_law_group_here", "_law_kind", "_law_one"]
theorem sc_l_bit_makes : FnScope N_l_bit_makes ["_law_numbers", "_law_split"] (defScope s_l_bit_makes) := ⟨rfl, rfl, rfl, by decide +kernel, rfl, by decide +kernel, by decide +kernel⟩
theorem ok_l_bit_makes {P : Program} {w : World} {K : PySem.W.Frag} {mg : Str → Option Value} {base : Heap} (X : Tx K mg) : FnG P w K mg base CX0 1 X.f_l_bit_makes X.d_l_bit_makes ["_law_numbers", "_law_split"] (sp_l_bit_makes K) := by
  refine okG X.F_l_bit_makes sc_l_bit_makes (fun vs H Q E h => spM_len h fun _ => rfl) (fun cdv A outer s H vs Q E hr h => ?_)
  refine ⟨(tSeq (tAsg (tVar 1) (gTup K 2 (gCons (gName 2) (gCons (gName 3) gNil)))) (tRet (tCB (rAll K) (tCons (tLc (iTup K (tVar 2)) (gName 4) tYes (tAndV (tOp rEq (tOp (rIxT K) (tVar 0) (tVar 4)) (tOp (rIxT K) (tVar 0) (tOp (rIxT K) (tVar 2) (tC (.int 0))))) (tOp rNe (tOp (rIxT K) (tVar 0) (tVar 4)) (tOp (rIxT K) (tVar 0) (tVar 3)))) [4]) tNil)))), (pss_cons (ps_asg (pv 1) (pg_tup rfl (pgs_cons (pg_name (i := 2) sc_l_bit_makes.nd rfl (Or.inr rfl)) (pgs_cons (pg_name (i := 3) sc_l_bit_makes.nd rfl (Or.inr rfl)) pgs_nil)))) (pss_one (ps_ret (pe_callB (cr_all rfl) (by rfl) X.z_all bt_all (pa_cons (pe_lc (own := [("_law_one", 4)]) (g := (gName 4)) (tt := tYes) (te := (tAndV (tOp rEq (tOp (rIxT K) (tVar 0) (tVar 4)) (tOp (rIxT K) (tVar 0) (tOp (rIxT K) (tVar 2) (tC (.int 0))))) (tOp rNe (tOp (rIxT K) (tVar 0) (tVar 4)) (tOp (rIxT K) (tVar 0) (tVar 3))))) rfl sc_l_bit_makes.nd (pi_tup (pv 2)) (blkOk_by (N := N_l_bit_makes) (sc := (defScope s_l_bit_makes)) (by decide +kernel)) (fun _ _ _ _ _ => (pg_name (i := 4) sc_l_bit_makes.nd rfl (Or.inl rfl))) (fun _ _ _ _ _ => pts_nil) (fun _ _ _ _ _ => (pe_and (pe_cmpR op_eq (pe_ix ix_tup (pv 0) (pv 4) (fun _ _ => rfl)) (pe_ix ix_tup (pv 0) (pe_ix ix_tup (pv 2) pe_int (fun _ _ => rfl)) (fun _ _ => rfl)) (nomark _)) (pe_one (pe_cmpR op_ne (pe_ix ix_tup (pv 0) (pv 4) (fun _ _ => rfl)) (pe_ix ix_tup (pv 0) (pv 3) (fun _ _ => rfl)) (nomark _)))))) pa_nil))))), ?_⟩
  obtain ⟨⟨v_numbers, v_split⟩, r, W, h, hcore, har, hrt⟩ := h
  refine body hcore har (Nat.le_of_ble_eq_true rfl) ?_
  clear hcore har
  change m_l_bit_makes v_numbers v_split = some r at h
  unfold m_l_bit_makes at h
  change NxT _ _ [some ((rTup rInt).at v_numbers), some ((rPair (rTup rInt) rInt).at v_split), none, none, none] _ []
  refine s_seq (s_asg (is := [2, 3]) (e_var (sl := ((rPair (rTup rInt) rInt).at v_split)) rfl (g_pair ?_)))
  change NxT _ _ [some ((rTup rInt).at v_numbers), some ((rPair (rTup rInt) rInt).at v_split), some ((rTup rInt).at v_split.1), some (rInt.at v_split.2), none] _ []
  replace h := bindE h
  obtain ⟨t11, ht11, h⟩ := h
  replace h := pureE h
  subst h
  refine s_ret (e_all (ea_cons (lc_sound (is := [4]) (by decide) (i_tup (e_var (sl := ((rTup rInt).at v_split.1)) rfl ⟨_, rInt, _, rfl, ⟨_, _, _, rInt, v_split.1, (), _, t11, (), rBool, fun _ => [], rfl, lcO_mapO _ _ _ ht11, rfl, ?b10, fun _ => (ea_nil ⟨_, rfl, ?_⟩)⟩⟩)))))
  case b10 =>
    intro W1 T1 k2 x1 o u1 h
    obtain ⟨h, _⟩ := mapU h
    refine g_name ?_
    replace h := bindE h
    obtain ⟨t3, ht3, h⟩ := h
    replace h := bindE h
    obtain ⟨t4, ht4, h⟩ := h
    replace h := bindE h
    obtain ⟨t5, ht5, h⟩ := h
    replace h := bindE h
    obtain ⟨t8, ht8, h⟩ := h
    replace h := pureE h
    subst h
    refine t_yes ⟨fun _ => ?_, fun z => nomatch z⟩
    refine (e_and (c := (decide (t3 = t5))) (d := t8) (e_eqI (e_ixT (e_var (sl := ((rTup rInt).at v_numbers)) rfl fun _ => (e_var (sl := (rInt.at x1)) rfl ⟨_, rInt, _, _, _, rfl, rfl, ht3, ⟨_, rfl, (e_ixT (e_var (sl := ((rTup rInt).at v_numbers)) rfl fun _ => (e_ixT (e_var (sl := ((rTup rInt).at v_split.1)) rfl fun _ => (e_int ⟨_, rInt, _, _, _, rfl, rfl, ht4, ⟨_, rInt, _, _, _, rfl, rfl, ht5, ⟨_, rfl, ⟨rfl, ?b9, fun hc => ⟨pureE' (condF hc ht8), rfl⟩⟩⟩⟩⟩)))))⟩⟩)))) ⟨_, rfl, rfl, rfl⟩)
    case b9 =>
      intro hc
      have h := condT hc ht8
      replace h := bindE h
      obtain ⟨t6, ht6, h⟩ := h
      replace h := bindE h
      obtain ⟨t7, ht7, h⟩ := h
      replace h := pureE h
      subst h
      refine (e_neI (e_ixT (e_var (sl := ((rTup rInt).at v_numbers)) rfl fun _ => (e_var (sl := (rInt.at x1)) rfl ⟨_, rInt, _, _, _, rfl, rfl, ht6, ⟨_, rfl, (e_ixT (e_var (sl := ((rTup rInt).at v_numbers)) rfl fun _ => (e_var (sl := (rInt.at v_split.2)) rfl ⟨_, rInt, _, _, _, rfl, rfl, ht7, ⟨_, rfl, ⟨rfl, rfl⟩⟩⟩)))⟩⟩))))
  exact Rt.drop hrt .slnil
def m_l_all_bits (v_count : Int) : Option (List (List Int)) :=
  bind (oRange 0 v_count) fun t1 =>
  bind (foldO (fun (b3 : ((List (List Int)))) (x2 : Int) => (((bind (mapO (fun (x4 : (List Int)) => (((bind (oCat x4 ([(0 : Int)] : List Int)) fun t6 => pure (some t6))) : Option (Option (List Int)))) b3) fun t8 => (bind (mapO (fun (x9 : (List Int)) => (((bind (oCat x9 ([(1 : Int)] : List Int)) fun t11 => pure (some t11))) : Option (Option (List Int)))) b3) fun t13 => (bind (oCat t8 t13) fun t14 => pure (t14))))) : Option ((List (List Int))))) t1 (([([] : List Int)] : List (List Int)))) fun o15 =>
  pure o15
abbrev sp_l_all_bits (K : PySem.W.Frag) : Sp := spM (ι := Int) (β := (List (List Int))) (fun i => [rInt.at i]) (fun i => []) (fun i => m_l_all_bits i) (fun i b => (rLst (rTup rInt)).at b) (fun i b => [])
abbrev N_l_all_bits : List Str := ["_law_count", "_law_found", "_law_turn", "_law_some"]
theorem sc_l_all_bits : FnScope N_l_all_bits ["_law_count"] (defScope s_l_all_bits) := ⟨rfl, rfl, rfl, by decide +kernel, rfl, by decide +kernel, by decide +kernel⟩
theorem ok_l_all_bits {P : Program} {w : World} {K : PySem.W.Frag} {mg : Str → Option Value} {base : Heap} (X : Tx K mg) : FnG P w K mg base CX0 1 X.f_l_all_bits X.d_l_all_bits ["_law_count"] (sp_l_all_bits K) := by
  refine okG X.F_l_all_bits sc_l_all_bits (fun vs H Q E h => spM_len h fun _ => rfl) (fun cdv A outer s H vs Q E hr h => ?_)
  refine ⟨(tSeq (tAsg (tLst (tCons (tTup tNil) tNil)) (gName 1)) (tSeq (tFor (iRng1 (tCons (tVar 0) tNil)) (gName 2) (tAsg (tOp rCat (tLc (iList K (tVar 1)) (gName 3) tYes (tOp (rCatA K) (tVar 3) (tTup (tCons (tC (.int 0)) tNil))) [3]) (tLc (iList K (tVar 1)) (gName 3) tYes (tOp (rCatA K) (tVar 3) (tTup (tCons (tC (.int 1)) tNil))) [3])) (gName 1))) (tRet (tVar 1)))), (pss_cons (ps_set (i := 1) sc_l_all_bits.nd rfl (Or.inl rfl) (pe_lst (pa_cons (pe_tup pa_nil) pa_nil))) (pss_cons (ps_for PassesOwn.never rfl (pi_range1 (by rfl) X.z_range (pa_cons (pv 0) pa_nil)) (pg_name (i := 2) sc_l_all_bits.nd rfl (Or.inl rfl)) (pss_one (ps_set (i := 1) sc_l_all_bits.nd rfl (Or.inl rfl) (pe_op op_cat (pe_lc (own := [("_law_some", 3)]) (g := (gName 3)) (tt := tYes) (te := (tOp (rCatA K) (tVar 3) (tTup (tCons (tC (.int 0)) tNil)))) rfl sc_l_all_bits.nd (pi_list (pv 1)) (blkOk_by (N := N_l_all_bits) (sc := (defScope s_l_all_bits)) (by decide +kernel)) (fun _ _ _ _ _ => (pg_name (i := 3) sc_l_all_bits.nd rfl (Or.inl rfl))) (fun _ _ _ _ _ => pts_nil) (fun _ _ _ _ _ => (pe_op op_catA (pv 3) (pe_tup (pa_cons pe_int pa_nil))))) (pe_lc (own := [("_law_some", 3)]) (g := (gName 3)) (tt := tYes) (te := (tOp (rCatA K) (tVar 3) (tTup (tCons (tC (.int 1)) tNil)))) rfl sc_l_all_bits.nd (pi_list (pv 1)) (blkOk_by (N := N_l_all_bits) (sc := (defScope s_l_all_bits)) (by decide +kernel)) (fun _ _ _ _ _ => (pg_name (i := 3) sc_l_all_bits.nd rfl (Or.inl rfl))) (fun _ _ _ _ _ => pts_nil) (fun _ _ _ _ _ => (pe_op op_catA (pv 3) (pe_tup (pa_cons pe_int pa_nil))))))))) (pss_one (ps_ret (pv 1))))), ?_⟩
  obtain ⟨v_count, r, W, h, hcore, har, hrt⟩ := h
  refine body hcore har (Nat.le_of_ble_eq_true rfl) ?_
  clear hcore har
  change m_l_all_bits v_count = some r at h
  unfold m_l_all_bits at h
  change NxT _ _ [some (rInt.at v_count), none, none, none] _ []
  refine s_seq (s_set (e_lst (ea_cons (e_tup (ea_nil ⟨_, rInt, ([] : List Int), rfl, Nat.le_of_ble_eq_true rfl, fun _ => (ea_nil ⟨_, (rTup rInt), ([([] : List Int)] : List (List Int)), rfl, Nat.le_of_ble_eq_true rfl, ?_⟩)⟩)))))
  change NxT _ _ [some (rInt.at v_count), some ((rLst (rTup rInt)).at ([([] : List Int)] : List (List Int))), none, none] _ []
  replace h := bindE h
  obtain ⟨t1, ht1, h⟩ := h
  replace h := bindE h
  obtain ⟨o15, ho15, h⟩ := h
  refine s_seq (fold_sound (is := [2]) (i_range1 (ea_cons (e_var (sl := (rInt.at v_count)) rfl fun _ => (ea_nil ⟨_, _, rfl, ht1, ⟨_, _, rInt, t1, (([([] : List Int)] : List (List Int))), _, o15, fun (b3 : ((List (List Int)))) => [some (rInt.at v_count), some ((rLst (rTup rInt)).at b3), none, none], fun (b3 : ((List (List Int)))) => [], rfl, ho15, (by exact (And.intro rfl (And.intro rfl True.intro))), rfl, ?b16, ?_⟩⟩)))))
  case b16 =>
    clear h
    intro T1 b3 x2 b1 h N Bk hN
    refine g_name ?_
    change NxT _ _ [some (rInt.at v_count), some ((rLst (rTup rInt)).at b3), some (rInt.at x2), none] _ []
    replace h := bindE h
    obtain ⟨t8, ht8, h⟩ := h
    replace h := bindE h
    obtain ⟨t13, ht13, h⟩ := h
    replace h := bindE h
    obtain ⟨t14, ht14, h⟩ := h
    refine (s_set (e_catL (lc_sound (is := [3]) (by decide) (i_lst (e_var (sl := ((rLst (rTup rInt)).at b3)) rfl ⟨_, (rTup rInt), _, rfl, ⟨_, _, _, (rTup rInt), b3, (), _, t8, (), (rTup rInt), fun _ => [], rfl, lcO_mapO _ _ _ ht8, rfl, ?b7, fun _ => (lc_sound (is := [3]) (by decide) (i_lst (e_var (sl := ((rLst (rTup rInt)).at b3)) rfl ⟨_, (rTup rInt), _, rfl, ⟨_, _, _, (rTup rInt), b3, (), _, t13, (), (rTup rInt), fun _ => [], rfl, lcO_mapO _ _ _ ht13, rfl, ?b12, ⟨_, _, _, _, _, rfl, rfl, ht14, ?_⟩⟩⟩)))⟩⟩)))))
    case b7 =>
      intro W1 T1 k5 x4 o u1 h
      obtain ⟨h, _⟩ := mapU h
      refine g_name ?_
      replace h := bindE h
      obtain ⟨t6, ht6, h⟩ := h
      replace h := pureE h
      subst h
      refine t_yes ⟨fun _ => ?_, fun z => nomatch z⟩
      refine (e_catT (e_var (sl := ((rTup rInt).at x4)) rfl fun _ => (e_tup (ea_cons (e_int fun _ => (ea_nil ⟨_, rInt, ([(0 : Int)] : List Int), rfl, Nat.le_of_ble_eq_true rfl, ⟨_, _, _, _, _, rfl, rfl, ht6, ⟨_, rfl, rfl, rfl⟩⟩⟩))))))
    case b12 =>
      intro W1 T1 k10 x9 o u1 h
      obtain ⟨h, _⟩ := mapU h
      refine g_name ?_
      replace h := bindE h
      obtain ⟨t11, ht11, h⟩ := h
      replace h := pureE h
      subst h
      refine t_yes ⟨fun _ => ?_, fun z => nomatch z⟩
      refine (e_catT (e_var (sl := ((rTup rInt).at x9)) rfl fun _ => (e_tup (ea_cons (e_int fun _ => (ea_nil ⟨_, rInt, ([(1 : Int)] : List Int), rfl, Nat.le_of_ble_eq_true rfl, ⟨_, _, _, _, _, rfl, rfl, ht11, ⟨_, rfl, rfl, rfl⟩⟩⟩))))))
    change NxT _ _ [some (rInt.at v_count), some ((rLst (rTup rInt)).at t14), some (rInt.at x2), none] _ []
    replace h := pureE h
    subst h
    exact s_weak (by exact (And.intro rfl (And.intro rfl True.intro))) .slnil hN
  change NxT _ _ [some (rInt.at v_count), some ((rLst (rTup rInt)).at o15), none, none] _ []
  replace h := pureE h
  subst h
  refine s_ret (e_var (sl := ((rLst (rTup rInt)).at o15)) rfl ?_)
  exact Rt.drop hrt .slnil
def m_l_due (v_count : Int) (v_lot : (List ((List Int) × Int))) : Option (List Int) :=
  bind (m_l_all_bits v_count) fun r1 =>
  bind (oShl (1 : Int) v_count) fun t2 =>
  bind (oRepZ ([(0 : Int)] : List Int) (t2 + (1 : Int))) fun t3 =>
  bind (oShl (1 : Int) (v_lot.length : Int)) fun t4 =>
  bind (oRange 0 t4) fun t5 =>
  bind (foldO (fun (b7 : ((List Int))) (x6 : Int) => (((bind (mapO (fun (x8 : (Int × ((List Int) × Int))) => (((bind (oShr x6 x8.1) fun t10 => (bif (decide ((Builtin.bitAnd t10 (1 : Int)) = (1 : Int))) then (pure (some x8.2)) else pure none))) : Option (Option ((List Int) × Int)))) (enumI v_lot)) fun t12 => (bind (mapO (fun (x13 : (List Int)) => (((bind (mapO (fun (x15 : ((List Int) × Int)) => (((bind (m_l_bit_makes x13 x15) fun r17 => pure (some r17))) : Option (Option Bool))) t12) fun t19 => (bif (!(t19.any id)) then (pure (some x13)) else pure none))) : Option (Option (List Int)))) r1) fun t21 => (bind (atI b7 (t21.length : Int)) fun t22 => (bind (oMod (t12.length : Int) (2 : Int)) fun t23 => (bind (oSet b7 (t21.length : Int) (t22 + (bif (decide (t23 = (0 : Int))) then (1 : Int) else (-(1 : Int))))) fun l24 => pure (l24))))))) : Option ((List Int)))) t5 (t3)) fun o25 =>
  pure o25
abbrev sp_l_due (K : PySem.W.Frag) : Sp := spM (ι := Int × (List ((List Int) × Int))) (β := (List Int)) (fun i => [rInt.at i.1, (rTup (rPair (rTup rInt) rInt)).at i.2]) (fun i => []) (fun i => m_l_due i.1 i.2) (fun i b => (rTup rInt).at b) (fun i b => [])
abbrev N_l_due : List Str := ["_law_count", "_law_lot", "_law_every", "_law_found", "_law_choice", "_law_some", "_law_left", "_law_at", "_law_split", "_law_numbers"]
theorem sc_l_due : FnScope N_l_due ["_law_count", "_law_lot"] (defScope s_l_due) := ⟨rfl, rfl, rfl, by decide +kernel, rfl, by decide +kernel, by decide +kernel⟩
theorem ok_l_due {P : Program} {w : World} {K : PySem.W.Frag} {mg : Str → Option Value} {base : Heap} (X : Tx K mg) (G_l_all_bits : FnG P w K mg base CX0 1 X.f_l_all_bits X.d_l_all_bits ["_law_count"] (sp_l_all_bits K)) (G_l_bit_makes : FnG P w K mg base CX0 1 X.f_l_bit_makes X.d_l_bit_makes ["_law_numbers", "_law_split"] (sp_l_bit_makes K)) : FnG P w K mg base CX0 2 X.f_l_due X.d_l_due ["_law_count", "_law_lot"] (sp_l_due K) := by
  refine okG X.F_l_due sc_l_due (fun vs H Q E h => spM_len h fun _ => rfl) (fun cdv A outer s H vs Q E hr h => ?_)
  refine ⟨(tSeq (tPar 2 3 (tCons (tCall (sp_l_all_bits K) [] E0 (tCons (tVar 0) tNil)) (tCons (tOp rRep (tLst (tCons (tC (.int 0)) tNil)) (tOp rdAdd (tOp rdShl (tC (.int 1)) (tVar 0)) (tC (.int 1)))) tNil))) (tSeq (tFor (iRng1 (tCons (tOp rdShl (tC (.int 1)) (tCB (rdLen K) (tCons (tVar 1) tNil))) tNil)) (gName 4) (tSeq (tAsg (tLc (iEnumT K (tCons (tVar 1) tNil)) (gTup K 2 (gCons (gName 7) (gCons (gName 8) gNil))) (tTest (tOp rEq (tOp rdAnd (tOp rdShr (tVar 4) (tVar 7)) (tC (.int 1))) (tC (.int 1)))) (tVar 8) [7, 8]) (gName 5)) (tSeq (tAsg (tLc (iList K (tVar 2)) (gName 9) (tNot (tB (tCB (rAny K) (tCons (tLc (iList K (tVar 5)) (gName 8) tYes (tCall (sp_l_bit_makes K) [] E0 (tCons (tVar 9) (tCons (tVar 8) tNil))) [8]) tNil)))) (tVar 9) [9]) (gName 6)) (tAsg (tOp rdAdd (tOp (rIxL K) (tVar 3) (tCB (rdLen K) (tCons (tVar 6) tNil))) (tIf (tTest (tOp rEq (tOp rdMod (tCB (rdLen K) (tCons (tVar 5) tNil)) (tC (.int 2))) (tC (.int 0)))) (tC (.int 1)) (tUn rdNeg (tC (.int 1))))) (gSub (tVar 3) (tCB (rdLen K) (tCons (tVar 6) tNil)) rSetL))))) (tRet (tCB (rdTupleOf K) (tCons (tVar 3) tNil))))), (pss_cons (ps_par rfl sc_l_due.nd rfl rfl (by decide) rfl rfl (pa_cons (pe_callG (G_l_all_bits) (hr.mono (by decide)) (by rfl) X.g_l_all_bits X.F_l_all_bits.kp X.b_l_all_bits .nil pass0 (pa_cons (pv 0) pa_nil)) (pa_cons (pe_op op_rep (pe_lst (pa_cons pe_int pa_nil)) (pe_op op_add (pe_op op_shlW pe_int (pv 0)) pe_int)) pa_nil)) (by rfl)) (pss_cons (ps_for PassesOwn.never rfl (pi_range1 (by rfl) X.z_range (pa_cons (pe_op op_shlW pe_int (pe_callB call_len_seq (by rfl) X.z_len bt_len (pa_cons (pv 1) pa_nil))) pa_nil)) (pg_name (i := 4) sc_l_due.nd rfl (Or.inr rfl)) (pss_cons (ps_set (i := 5) sc_l_due.nd rfl (Or.inr rfl) (pe_lc (own := [("_law_at", 7), ("_law_split", 8)]) (g := (gTup K 2 (gCons (gName 7) (gCons (gName 8) gNil)))) (tt := (tTest (tOp rEq (tOp rdAnd (tOp rdShr (tVar 4) (tVar 7)) (tC (.int 1))) (tC (.int 1))))) (te := (tVar 8)) rfl sc_l_due.nd (pi_enumT (by rfl) X.z_enumerate (pa_cons (pv 1) pa_nil)) (blkOk_by (N := N_l_due) (sc := (defScope s_l_due)) (by decide +kernel)) (fun _ _ _ _ _ => (pg_tup rfl (pgs_cons (pg_name (i := 7) sc_l_due.nd rfl (Or.inl rfl)) (pgs_cons (pg_name (i := 8) sc_l_due.nd rfl (Or.inl rfl)) pgs_nil)))) (fun _ _ _ _ _ => (pts_one (pt_cmpR op_eq (pe_op op_and (pe_op op_shr (pv 4) (pv 7)) pe_int) pe_int (nomark _)))) (fun _ _ _ _ _ => (pv 8)))) (pss_cons (ps_setLc (i := 6) (own := [("_law_numbers", 9)]) (g := (gName 9)) (tt := (tNot (tB (tCB (rAny K) (tCons (tLc (iList K (tVar 5)) (gName 8) tYes (tCall (sp_l_bit_makes K) [] E0 (tCons (tVar 9) (tCons (tVar 8) tNil))) [8]) tNil))))) (te := (tVar 9)) rfl sc_l_due.nd rfl rfl (sw_true rfl rfl rfl (by decide +kernel)) (pi_list (pv 2)) (blkOk_by (N := N_l_due) (sc := (defScope s_l_due)) (by decide +kernel)) (fun _ _ _ _ _ => (pg_name (i := 9) sc_l_due.nd rfl (Or.inr rfl))) (fun _ _ _ _ _ => (pts_one (pt_not (pt_val (pe_callB (cr_any rfl) (by rfl) X.z_any bt_any (pa_cons (pe_lc (own := [("_law_split", 8)]) (g := (gName 8)) (tt := tYes) (te := (tCall (sp_l_bit_makes K) [] E0 (tCons (tVar 9) (tCons (tVar 8) tNil)))) rfl sc_l_due.nd (pi_list (pv 5)) (blkOk_by (N := N_l_due) (sc := { kind := .function, names := [(PySem.Str.ofString ".0", NameKind.local), (PySem.Str.ofString "_law_numbers", NameKind.cell), (PySem.Str.ofString "any", NameKind.globalImplicit), (PySem.Str.ofString "_law_some", NameKind.cell)], isGenerator := false, isCoroutine := false, more := [] : Scope }) (by decide +kernel)) (fun _ _ _ _ _ => (pg_name (i := 8) sc_l_due.nd rfl (Or.inl rfl))) (fun _ _ _ _ _ => pts_nil) (fun _ _ _ _ _ => (pe_callG (G_l_bit_makes) (hr.mono (by decide)) (by rfl) X.g_l_bit_makes X.F_l_bit_makes.kp X.b_l_bit_makes .nil pass0 (pa_cons (pv 9) (pa_cons (pv 8) pa_nil))))) pa_nil)))))) (fun _ _ _ _ _ => (pv 9))) (pss_one (ps_asg (pe_op op_add (pe_ix ix_list (pv 3) (pe_callB call_len_seq (by rfl) X.z_len bt_len (pa_cons (pv 6) pa_nil)) (fun _ _ => rfl)) (pe_ifExp (pt_cmpR op_eq (pe_op op_mod (pe_callB call_len_seq (by rfl) X.z_len bt_len (pa_cons (pv 5) pa_nil)) pe_int) pe_int (nomark _)) pe_int (pe_un un_neg pe_int))) (pg_sub (pv 3) (pe_callB call_len_seq (by rfl) X.z_len bt_len (pa_cons (pv 6) pa_nil)) set_list)))))) (pss_one (ps_ret (pe_callTy call_tuple_of (by rfl) X.z_tuple bt_tuple (pa_cons (pv 3) pa_nil)))))), ?_⟩
  obtain ⟨⟨v_count, v_lot⟩, r, W, h, hcore, har, hrt⟩ := h
  refine body hcore har (Nat.le_of_ble_eq_true rfl) ?_
  clear hcore har
  change m_l_due v_count v_lot = some r at h
  unfold m_l_due at h
  change NxT _ _ [some (rInt.at v_count), some ((rTup (rPair (rTup rInt) rInt)).at v_lot), none, none, none, none, none, none, none, none] _ []
  replace h := bindE h
  obtain ⟨r1, hr1, h⟩ := h
  replace h := bindE h
  obtain ⟨t2, ht2, h⟩ := h
  replace h := bindE h
  obtain ⟨t3, ht3, h⟩ := h
  refine s_seq (s_par (ea_cons (e_call (ea_cons (e_var (sl := (rInt.at v_count)) rfl fun _ => (ea_nil ⟨v_count, r1, [], hr1, rfl, rfl, fun _ => (ea_cons (e_repZC (e_lst (ea_cons (e_int fun _ => (ea_nil ⟨_, rInt, ([(0 : Int)] : List Int), rfl, Nat.le_of_ble_eq_true rfl, fun _ => (e_opI0 (g := fun i j => i + j) (e_opO oShl_ok (e_int ⟨_, rfl, (e_var (sl := (rInt.at v_count)) rfl ⟨_, _, rfl, ht2, ⟨_, rfl, (e_int ⟨_, rfl, ⟨_, _, _, _, _, rfl, rfl, ht3, fun p__law_found => fun _ => (ea_nil ⟨_, _, rfl, ?_⟩)⟩⟩)⟩⟩)⟩)))⟩))))))⟩))))))
  change NxT _ _ [some (rInt.at v_count), some ((rTup (rPair (rTup rInt) rInt)).at v_lot), some ((rLst (rTup rInt)).at r1), some (sRef p__law_found), none, none, none, none, none, none] _ [(p__law_found, cLst rInt t3)]
  replace h := bindE h
  obtain ⟨t4, ht4, h⟩ := h
  replace h := bindE h
  obtain ⟨t5, ht5, h⟩ := h
  replace h := bindE h
  obtain ⟨o25, ho25, h⟩ := h
  refine s_seq (fold_sound (is := [4]) (i_range1 (ea_cons (e_opO oShl_ok (e_int ⟨_, rfl, (e_lenT (ea_cons (e_var (sl := ((rTup (rPair (rTup rInt) rInt)).at v_lot)) rfl fun _ => (ea_nil ⟨_, (rPair (rTup rInt) rInt), _, rfl, ⟨_, _, rfl, ht4, fun _ => (ea_nil ⟨_, _, rfl, ht5, ⟨_, _, rInt, t5, (t3), _, o25, fun (b7 : ((List Int))) => [some (rInt.at v_count), some ((rTup (rPair (rTup rInt) rInt)).at v_lot), some ((rLst (rTup rInt)).at r1), some (sRef p__law_found), none, none, none, none, none, none], fun (b7 : ((List Int))) => [(p__law_found, cLst rInt b7)], rfl, ho25, (by exact (And.intro rfl (And.intro rfl (And.intro rfl (And.intro rfl True.intro))))), rfl, ?b26, ?_⟩⟩)⟩⟩))))⟩)))))
  case b26 =>
    clear h
    intro T1 b7 x6 b1 h N Bk hN
    refine g_name ?_
    change NxT _ _ [some (rInt.at v_count), some ((rTup (rPair (rTup rInt) rInt)).at v_lot), some ((rLst (rTup rInt)).at r1), some (sRef p__law_found), some (rInt.at x6), none, none, none, none, none] _ [(p__law_found, cLst rInt b7)]
    replace h := bindE h
    obtain ⟨t12, ht12, h⟩ := h
    refine s_seq (s_set (lc_sound (is := [7, 8]) (by decide) (i_enumT (ea_cons (e_var (sl := ((rTup (rPair (rTup rInt) rInt)).at v_lot)) rfl fun _ => (ea_nil ⟨_, (rPair (rTup rInt) rInt), _, rfl, ⟨_, _, _, (rPair rInt (rPair (rTup rInt) rInt)), (enumI v_lot), (), _, t12, (), (rPair (rTup rInt) rInt), fun _ => [(p__law_found, cLst rInt b7)], rfl, lcO_mapO _ _ _ ht12, rfl, ?b11, ?_⟩⟩))))))
    case b11 =>
      intro W1 T1 k9 x8 o u1 h
      obtain ⟨h, _⟩ := mapU h
      refine g_pair ?_
      replace h := bindE h
      obtain ⟨t10, ht10, h⟩ := h
      refine (t_test (e_eqI (e_opI0 (g := Builtin.bitAnd) (e_opO oShr_ok (e_var (sl := (rInt.at x6)) rfl ⟨_, rfl, (e_var (sl := (rInt.at x8.1)) rfl ⟨_, _, rfl, ht10, ⟨_, rfl, (e_int ⟨_, rfl, ⟨_, rfl, (e_int ⟨_, rfl, ⟨_, rfl, ⟨fun hc => ?_, fun hc => ?_⟩⟩⟩)⟩⟩)⟩⟩)⟩)))))
      · replace h := condT hc h
        replace h := pureE h
        subst h
        refine (e_var (sl := ((rPair (rTup rInt) rInt).at x8.2)) rfl ⟨_, rfl, rfl, rfl⟩)
      · replace h := condF hc h
        replace h := pureE h
        subst h
        exact ⟨rfl, rfl⟩
    change NxT _ _ [some (rInt.at v_count), some ((rTup (rPair (rTup rInt) rInt)).at v_lot), some ((rLst (rTup rInt)).at r1), some (sRef p__law_found), some (rInt.at x6), some ((rLst (rPair (rTup rInt) rInt)).at t12), none, none, none, none] _ [(p__law_found, cLst rInt b7)]
    replace h := bindE h
    obtain ⟨t21, ht21, h⟩ := h
    refine s_seq (s_set (lc_sound (is := [9]) (by decide) (i_lst (e_var (sl := ((rLst (rTup rInt)).at r1)) rfl ⟨_, (rTup rInt), _, rfl, ⟨_, _, _, (rTup rInt), r1, (), _, t21, (), (rTup rInt), fun _ => [(p__law_found, cLst rInt b7)], rfl, lcO_mapO _ _ _ ht21, rfl, ?b20, ?_⟩⟩))))
    case b20 =>
      intro W1 T1 k14 x13 o u1 h
      obtain ⟨h, _⟩ := mapU h
      refine g_name ?_
      replace h := bindE h
      obtain ⟨t19, ht19, h⟩ := h
      refine (t_not (t_val (e_any (ea_cons (lc_sound (is := [8]) (by decide) (i_lst (e_var (sl := ((rLst (rPair (rTup rInt) rInt)).at t12)) rfl ⟨_, (rPair (rTup rInt) rInt), _, rfl, ⟨_, _, _, (rPair (rTup rInt) rInt), t12, (), _, t19, (), rBool, fun _ => [(p__law_found, cLst rInt b7)], rfl, lcO_mapO _ _ _ ht19, rfl, ?b18, fun _ => (ea_nil ⟨_, rfl, ⟨_, rfl, ⟨fun hc => ?_, fun hc => ?_⟩⟩⟩)⟩⟩)))))))
      case b18 =>
        intro W1 T1 k16 x15 o u1 h
        obtain ⟨h, _⟩ := mapU h
        refine g_name ?_
        replace h := bindE h
        obtain ⟨r17, hr17, h⟩ := h
        replace h := pureE h
        subst h
        refine t_yes ⟨fun _ => ?_, fun z => nomatch z⟩
        refine (e_call (ea_cons (e_var (sl := ((rTup rInt).at x13)) rfl fun _ => (ea_cons (e_var (sl := ((rPair (rTup rInt) rInt).at x15)) rfl fun _ => (ea_nil ⟨(x13, x15), r17, [(p__law_found, cLst rInt b7)], hr17, rfl, rfl, ⟨_, rfl, rfl, rfl⟩⟩))))))
      · replace h := condT hc h
        replace h := pureE h
        subst h
        refine (e_var (sl := ((rTup rInt).at x13)) rfl ⟨_, rfl, rfl, rfl⟩)
      · replace h := condF hc h
        replace h := pureE h
        subst h
        exact ⟨rfl, rfl⟩
    change NxT _ _ [some (rInt.at v_count), some ((rTup (rPair (rTup rInt) rInt)).at v_lot), some ((rLst (rTup rInt)).at r1), some (sRef p__law_found), some (rInt.at x6), some ((rLst (rPair (rTup rInt) rInt)).at t12), some ((rLst (rTup rInt)).at t21), none, none, none] _ [(p__law_found, cLst rInt b7)]
    replace h := bindE h
    obtain ⟨t22, ht22, h⟩ := h
    replace h := bindE h
    obtain ⟨t23, ht23, h⟩ := h
    replace h := bindE h
    obtain ⟨l24, hl24, h⟩ := h
    refine (s_setitem 0 (e_opI0 (g := fun i j => i + j) (e_ixC 0 (e_var (sl := (sRef p__law_found)) rfl fun _ => (e_lenL (ea_cons (e_var (sl := ((rLst (rTup rInt)).at t21)) rfl fun _ => (ea_nil ⟨_, (rTup rInt), _, rfl, ⟨_, _, rInt, _, _, _, rfl, rfl, rfl, ht22, ⟨_, rfl, (e_if (c := (decide (t23 = (0 : Int)))) (sl := rInt.at (bif (decide (t23 = (0 : Int))) then (1 : Int) else (-(1 : Int)))) (cs' := [(p__law_found, cLst rInt b7)]) (t_test (e_eqI (e_opO oMod_ok (e_lenL (ea_cons (e_var (sl := ((rLst (rPair (rTup rInt) rInt)).at t12)) rfl fun _ => (ea_nil ⟨_, (rPair (rTup rInt) rInt), _, rfl, ⟨_, rfl, (e_int ⟨_, _, rfl, ht23, ⟨_, rfl, (e_int ⟨_, rfl, ⟨_, rfl, ⟨rfl, fun hc => (e_int ⟨congrArg rInt.at (condT' hc).symm, rfl⟩), fun hc => (e_un (g := fun i => -i) (e_int ⟨_, rfl, ⟨congrArg rInt.at (condF' hc).symm, rfl⟩⟩))⟩⟩⟩)⟩⟩)⟩⟩))))))) ⟨_, rfl, fun _ => (e_var (sl := (sRef p__law_found)) rfl fun _ => (e_lenL (ea_cons (e_var (sl := ((rLst (rTup rInt)).at t21)) rfl fun _ => (ea_nil ⟨_, (rTup rInt), _, rfl, ⟨_, _, rInt, _, _, _, _, rfl, rfl, rfl, rfl, hl24, ?_⟩⟩)))))⟩)⟩⟩⟩))))))))
    change NxT _ _ [some (rInt.at v_count), some ((rTup (rPair (rTup rInt) rInt)).at v_lot), some ((rLst (rTup rInt)).at r1), some (sRef p__law_found), some (rInt.at x6), some ((rLst (rPair (rTup rInt) rInt)).at t12), some ((rLst (rTup rInt)).at t21), none, none, none] _ [(p__law_found, cLst rInt l24)]
    replace h := pureE h
    subst h
    exact s_weak (by exact (And.intro rfl (And.intro rfl (And.intro rfl (And.intro rfl True.intro))))) (.cons₂ _ .slnil) hN
  change NxT _ _ [some (rInt.at v_count), some ((rTup (rPair (rTup rInt) rInt)).at v_lot), some ((rLst (rTup rInt)).at r1), some (sRef p__law_found), none, none, none, none, none, none] _ [(p__law_found, cLst rInt o25)]
  replace h := pureE h
  subst h
  refine s_ret (e_tupC 0 (ea_cons (e_var (sl := (sRef p__law_found)) rfl fun _ => (ea_nil ⟨_, _, rInt, _, rfl, rfl, ?_⟩))))
  exact Rt.drop hrt (.cons _ .slnil)
def m_l_right (k : Cup) : Option (Bool × Cup) :=
  bind (m_l_dip k (4 : Int)) fun r1 =>
  bind (m_l_some_splits r1.2 ((1 : Int) + r1.1) (7 : Int)) fun r2 =>
  bind (m_l_dip r2.2 (3 : Int)) fun r3 =>
  bind (((bif (decide (r3.1 = (0 : Int))) then ((bind (m_l_group r3.2 ((1 : Int) + r1.1)) fun r7 => (bind (m_l_all_splits ((1 : Int) + r1.1) ([r7.1] : List (List Int))) fun r8 => pure ((cutL r8 none (some (7 : Int))), r7.2)))) else (pure (r2.1, r3.2))) : Option ((List ((List Int) × Int)) × Cup))) fun j6 =>
  bind (oRepr ((eTup (ePair (eTup eInt) eInt)).d j6.1)) fun t9 =>
  bind (m_powers ((1 : Int) + r1.1) j6.1) fun r10 =>
  bind (oRepr ((eTup eInt).d r10)) fun t11 =>
  bind (m_l_due ((1 : Int) + r1.1) j6.1) fun r12 =>
  bind (oRepr ((eTup eInt).d r12)) fun t13 =>
  bind (((bif (decide (t11 = t13)) then ((bind (oRepr ((eTup (ePair (eTup eInt) eInt)).d j6.1)) fun t14 => pure (decide (t14 = t9)))) else (pure false)) : Option Bool)) fun t15 =>
  pure (t15, j6.2)
abbrev sp_l_right (K : PySem.W.Frag) : Sp := spM (ι := Addr × Cup) (β := (Bool × Cup)) (fun i => [sRef i.1]) (fun i => [(i.1, cCup i.2)]) (fun i => m_l_right i.2) (fun i b => rBool.at b.1) (fun i b => [(i.1, cCup b.2)])
abbrev N_l_right : List Str := ["_law_cup_here", "_law_count", "_law_lot", "_law_kept"]
theorem sc_l_right : FnScope N_l_right ["_law_cup_here"] (defScope s_l_right) := ⟨rfl, rfl, rfl, by decide +kernel, rfl, by decide +kernel, by decide +kernel⟩
theorem ok_l_right {P : Program} {w : World} {K : PySem.W.Frag} {mg : Str → Option Value} {base : Heap} (X : Tx K mg) (G_l_all_splits : FnG P w K mg base CX0 1 X.f_l_all_splits X.d_l_all_splits ["_law_count", "_law_groups"] (sp_l_all_splits K)) (G_l_dip : FnG P w K mg base CX0 1 X.f_l_dip X.d_l_dip ["_law_cup_here", "_law_many"] (sp_l_dip K)) (G_l_due : FnG P w K mg base CX0 2 X.f_l_due X.d_l_due ["_law_count", "_law_lot"] (sp_l_due K)) (G_l_group : FnG P w K mg base CX0 2 X.f_l_group X.d_l_group ["_law_cup_here", "_law_count"] (sp_l_group K)) (G_l_some_splits : FnG P w K mg base CX0 3 X.f_l_some_splits X.d_l_some_splits ["_law_cup_here", "_law_count", "_law_most"] (sp_l_some_splits K)) (G_powers : FnG P w K mg base CX0 4 X.f_powers X.d_powers ["count", "splits"] (sp_powers K)) : FnG P w K mg base CX0 5 X.f_l_right X.d_l_right ["_law_cup_here"] (sp_l_right K) := by
  refine okG X.F_l_right sc_l_right (fun vs H Q E h => spM_len h fun _ => rfl) (fun cdv A outer s H vs Q E hr h => ?_)
  refine ⟨(tSeq (tAsg (tOp rdAdd (tC (.int 1)) (tCall (sp_l_dip K) [] E0 (tCons (tVar 0) (tCons (tC (.int 4)) tNil)))) (gName 1)) (tSeq (tAsg (tCall (sp_l_some_splits K) [] E0 (tCons (tVar 0) (tCons (tVar 1) (tCons (tC (.int 7)) tNil)))) (gName 2)) (tSeq (tIfS (tTest (tOp rEq (tCall (sp_l_dip K) [] E0 (tCons (tVar 0) (tCons (tC (.int 3)) tNil))) (tC (.int 0)))) (tAsg (tSl (rSlA K) (tCall (sp_l_all_splits K) [] E0 (tCons (tVar 1) (tCons (tTup (tCons (tCall (sp_l_group K) [] E0 (tCons (tVar 0) (tCons (tVar 1) tNil))) tNil)) tNil))) tNoPart (tPart (tC (.int 7)))) (gName 2)) tNext) (tSeq (tAsg (tCB (rRepr K) (tCons (tVar 2) tNil)) (gName 3)) (tRet (tAndV (tOp rEq (tCB (rRepr K) (tCons (tCall (sp_powers K) [] E0 (tCons (tVar 1) (tCons (tVar 2) tNil))) tNil)) (tCB (rRepr K) (tCons (tCall (sp_l_due K) [] E0 (tCons (tVar 1) (tCons (tVar 2) tNil))) tNil))) (tOp rEq (tCB (rRepr K) (tCons (tVar 2) tNil)) (tVar 3)))))))), (pss_cons (ps_set (i := 1) sc_l_right.nd rfl (Or.inl rfl) (pe_op op_add pe_int (pe_callG (G_l_dip) (hr.mono (by decide)) (by rfl) X.g_l_dip X.F_l_dip.kp X.b_l_dip .nil pass0 (pa_cons (pv 0) (pa_cons pe_int pa_nil))))) (pss_cons (ps_set (i := 2) sc_l_right.nd rfl (Or.inl rfl) (pe_callG (G_l_some_splits) (hr.mono (by decide)) (by rfl) X.g_l_some_splits X.F_l_some_splits.kp X.b_l_some_splits .nil pass0 (pa_cons (pv 0) (pa_cons (pv 1) (pa_cons pe_int pa_nil))))) (pss_cons (ps_if (pt_cmpR op_eq (pe_callG (G_l_dip) (hr.mono (by decide)) (by rfl) X.g_l_dip X.F_l_dip.kp X.b_l_dip .nil pass0 (pa_cons (pv 0) (pa_cons pe_int pa_nil))) pe_int (nomark _)) (pss_one (ps_set (i := 2) sc_l_right.nd rfl (Or.inl rfl) (pe_slice sl_tupA (pe_callG (G_l_all_splits) (hr.mono (by decide)) (by rfl) X.g_l_all_splits X.F_l_all_splits.kp X.b_l_all_splits .nil pass0 (pa_cons (pv 1) (pa_cons (pe_tup (pa_cons (pe_callG (G_l_group) (hr.mono (by decide)) (by rfl) X.g_l_group X.F_l_group.kp X.b_l_group .nil pass0 (pa_cons (pv 0) (pa_cons (pv 1) pa_nil))) pa_nil)) pa_nil))) po_none (po_some pe_int)))) pss_nil) (pss_cons (ps_set (i := 3) sc_l_right.nd rfl (Or.inl rfl) (pe_callB (cr_repr hr) (by rfl) X.z_repr bt_repr (pa_cons (pv 2) pa_nil))) (pss_one (ps_ret (pe_and (pe_cmpR op_eq (pe_callB (cr_repr hr) (by rfl) X.z_repr bt_repr (pa_cons (pe_callG (G_powers) (hr.mono (by decide)) (by rfl) X.g_powers X.F_powers.kp X.b_powers .nil pass0 (pa_cons (pv 1) (pa_cons (pv 2) pa_nil))) pa_nil)) (pe_callB (cr_repr hr) (by rfl) X.z_repr bt_repr (pa_cons (pe_callG (G_l_due) (hr.mono (by decide)) (by rfl) X.g_l_due X.F_l_due.kp X.b_l_due .nil pass0 (pa_cons (pv 1) (pa_cons (pv 2) pa_nil))) pa_nil)) (nomark _)) (pe_one (pe_cmpR op_eq (pe_callB (cr_repr hr) (by rfl) X.z_repr bt_repr (pa_cons (pv 2) pa_nil)) (pv 3) (nomark _)))))))))), ?_⟩
  obtain ⟨⟨c, k⟩, r, W, h, hcore, har, hrt⟩ := h
  refine body hcore har (Nat.le_of_ble_eq_true rfl) ?_
  clear hcore har
  change m_l_right k = some r at h
  unfold m_l_right at h
  change NxT _ _ [some (sRef c), none, none, none] _ [(c, cCup k)]
  replace h := bindE h
  obtain ⟨r1, hr1, h⟩ := h
  refine s_seq (s_set (e_opI0 (g := fun i j => i + j) (e_int ⟨_, rfl, (e_call (ea_cons (e_var (sl := (sRef c)) rfl fun _ => (ea_cons (e_int fun _ => (ea_nil ⟨(c, k, (4 : Int)), r1, [], hr1, rfl, rfl, ⟨_, rfl, ?_⟩⟩))))))⟩)))
  change NxT _ _ [some (sRef c), some (rInt.at ((1 : Int) + r1.1)), none, none] _ [(c, cCup r1.2)]
  replace h := bindE h
  obtain ⟨r2, hr2, h⟩ := h
  refine s_seq (s_set (e_call (ea_cons (e_var (sl := (sRef c)) rfl fun _ => (ea_cons (e_var (sl := (rInt.at ((1 : Int) + r1.1))) rfl fun _ => (ea_cons (e_int fun _ => (ea_nil ⟨(c, r1.2, ((1 : Int) + r1.1), (7 : Int)), r2, [], hr2, rfl, rfl, ?_⟩)))))))))
  change NxT _ _ [some (sRef c), some (rInt.at ((1 : Int) + r1.1)), some ((rTup (rPair (rTup rInt) rInt)).at r2.1), none] _ [(c, cCup r2.2)]
  replace h := bindE h
  obtain ⟨r3, hr3, h⟩ := h
  replace h := bindE h
  obtain ⟨j6, hj6, h⟩ := h
  refine s_seq (s_ifJ [some (sRef c), some (rInt.at ((1 : Int) + r1.1)), some ((rTup (rPair (rTup rInt) rInt)).at j6.1), none] [(c, cCup j6.2)] (t_test (e_eqI (e_call (ea_cons (e_var (sl := (sRef c)) rfl fun _ => (ea_cons (e_int fun _ => (ea_nil ⟨(c, r2.2, (3 : Int)), r3, [], hr3, rfl, rfl, ⟨_, rfl, (e_int ⟨_, rfl, ⟨_, rfl, ⟨fun hc N hN => ?_, fun hc N hN => ?_⟩⟩⟩)⟩⟩)))))))) ?_)
  · clear h
    have h := condT hc hj6
    replace h := bindE h
    obtain ⟨r7, hr7, h⟩ := h
    replace h := bindE h
    obtain ⟨r8, hr8, h⟩ := h
    refine (s_set (e_slT (e_call (ea_cons (e_var (sl := (rInt.at ((1 : Int) + r1.1))) rfl fun _ => (ea_cons (e_tup (ea_cons (e_call (ea_cons (e_var (sl := (sRef c)) rfl fun _ => (ea_cons (e_var (sl := (rInt.at ((1 : Int) + r1.1))) rfl fun _ => (ea_nil ⟨(c, r3.2, ((1 : Int) + r1.1)), r7, [], hr7, rfl, rfl, fun _ => (ea_nil ⟨_, (rTup rInt), ([r7.1] : List (List Int)), rfl, Nat.le_of_ble_eq_true rfl, fun _ => (ea_nil ⟨(((1 : Int) + r1.1), ([r7.1] : List (List Int))), r8, [(c, cCup r7.2)], hr8, rfl, rfl, fun _ => (eo_none (eo_some (e_int ⟨_, rfl, ⟨_, (rPair (rTup rInt) rInt), _, rfl, ?_⟩⟩)))⟩)⟩)⟩))))))))))))))
    change NxT _ _ [some (sRef c), some (rInt.at ((1 : Int) + r1.1)), some ((rTup (rPair (rTup rInt) rInt)).at (cutL r8 none (some (7 : Int)))), none] _ [(c, cCup r7.2)]
    replace h := pureE h
    subst h
    exact s_weak (by exact (And.intro rfl (And.intro rfl (And.intro rfl True.intro)))) (.cons₂ _ .slnil) hN
  · clear h
    have h := condF hc hj6
    refine s_next ?_
    replace h := pureE h
    subst h
    exact s_weak (by exact (And.intro rfl (And.intro rfl (And.intro rfl True.intro)))) (.cons₂ _ .slnil) hN
  change NxT _ _ [some (sRef c), some (rInt.at ((1 : Int) + r1.1)), some ((rTup (rPair (rTup rInt) rInt)).at j6.1), none] _ [(c, cCup j6.2)]
  replace h := bindE h
  obtain ⟨t9, ht9, h⟩ := h
  refine s_seq (s_set (e_repr (ea_cons (e_var (sl := ((rTup (rPair (rTup rInt) rInt)).at j6.1)) rfl fun _ => (ea_nil ⟨_, inferInstance, _, (eTup (ePair (eTup eInt) eInt)), _, _, rfl, by decide, ht9, ?_⟩)))))
  change NxT _ _ [some (sRef c), some (rInt.at ((1 : Int) + r1.1)), some ((rTup (rPair (rTup rInt) rInt)).at j6.1), some (rStr.at t9)] _ [(c, cCup j6.2)]
  replace h := bindE h
  obtain ⟨r10, hr10, h⟩ := h
  replace h := bindE h
  obtain ⟨t11, ht11, h⟩ := h
  replace h := bindE h
  obtain ⟨r12, hr12, h⟩ := h
  replace h := bindE h
  obtain ⟨t13, ht13, h⟩ := h
  replace h := bindE h
  obtain ⟨t15, ht15, h⟩ := h
  replace h := pureE h
  subst h
  refine s_ret (e_and (c := (decide (t11 = t13))) (d := t15) (e_eqS (e_repr (ea_cons (e_call (ea_cons (e_var (sl := (rInt.at ((1 : Int) + r1.1))) rfl fun _ => (ea_cons (e_var (sl := ((rTup (rPair (rTup rInt) rInt)).at j6.1)) rfl fun _ => (ea_nil ⟨(((1 : Int) + r1.1), j6.1), r10, [(c, cCup j6.2)], hr10, rfl, rfl, fun _ => (ea_nil ⟨_, inferInstance, _, (eTup eInt), _, _, rfl, by decide, ht11, ⟨_, rfl, fun _ => (e_repr (ea_cons (e_call (ea_cons (e_var (sl := (rInt.at ((1 : Int) + r1.1))) rfl fun _ => (ea_cons (e_var (sl := ((rTup (rPair (rTup rInt) rInt)).at j6.1)) rfl fun _ => (ea_nil ⟨(((1 : Int) + r1.1), j6.1), r12, [(c, cCup j6.2)], hr12, rfl, rfl, fun _ => (ea_nil ⟨_, inferInstance, _, (eTup eInt), _, _, rfl, by decide, ht13, ⟨_, rfl, ⟨rfl, ?b16, fun hc => ⟨pureE' (condF hc ht15), rfl⟩⟩⟩⟩)⟩))))))))⟩⟩)⟩))))))))) ?_)
  case b16 =>
    intro hc
    have h := condT hc ht15
    replace h := bindE h
    obtain ⟨t14, ht14, h⟩ := h
    replace h := pureE h
    subst h
    refine (e_eqS (e_repr (ea_cons (e_var (sl := ((rTup (rPair (rTup rInt) rInt)).at j6.1)) rfl fun _ => (ea_nil ⟨_, inferInstance, _, (eTup (ePair (eTup eInt) eInt)), _, _, rfl, by decide, ht14, ⟨_, rfl, fun _ => (e_var (sl := (rStr.at t9)) rfl ⟨_, rfl, ⟨rfl, rfl⟩⟩)⟩⟩)))))
  exact Rt.drop hrt (.cons₂ _ .slnil)
def m_law (v_script : (List Int)) : Option Bool :=
  bind (oRange 0 (max (1 : Int) (min (3 : Int) (v_script.length : Int)))) fun t1 =>
  bind (loopO (fun (b3 : Unit) (x2 : Int) => (((bind (m_l_cup v_script x2) fun r4 => (bind (oRange 0 (5 : Int)) fun t6 => (bind (lcO (fun (k8 : Cup) (x7 : Int) => (((bind (m_l_right k8) fun r10 => pure (some r10.1, r10.2))) : Option (Option Bool × Cup))) t6 r4) fun t12 => (bif (!(t12.1.all id)) then (pure (Fl.ret false)) else (pure (Fl.go ()))))))) : Option (Fl Bool Unit))) t1 ()) fun o13 =>
  (match o13 with | .ret z => (pure z) | .go g15 => (pure true))
abbrev sp_law (K : PySem.W.Frag) : Sp := spM (ι := (List Int)) (β := Bool) (fun i => [(rScr K).at i]) (fun i => []) (fun i => m_law i) (fun i b => rBool.at b) (fun i b => [])
abbrev N_law : List Str := ["_law_script", "_law_k", "_law_cup_here", "_law_turn"]
theorem sc_law : FnScope N_law ["_law_script"] (defScope s_law) := ⟨rfl, rfl, rfl, by decide +kernel, rfl, by decide +kernel, by decide +kernel⟩
theorem ok_law {P : Program} {w : World} {K : PySem.W.Frag} {mg : Str → Option Value} {base : Heap} (X : Tx K mg) (G_l_cup : FnG P w K mg base CX0 1 X.f_l_cup X.d_l_cup ["_law_script", "_law_k"] (sp_l_cup K)) (G_l_right : FnG P w K mg base CX0 5 X.f_l_right X.d_l_right ["_law_cup_here"] (sp_l_right K)) : FnG P w K mg base CX0 6 X.f_law X.d_law ["_law_script"] (sp_law K) := by
  refine okG X.F_law sc_law (fun vs H Q E h => spM_len h fun _ => rfl) (fun cdv A outer s H vs Q E hr h => ?_)
  refine ⟨(tSeq (tFor (iRng1 (tCons (tCB rdMax2 (tCons (tC (.int 1)) (tCons (tCB rdMin2 (tCons (tC (.int 3)) (tCons (tCB (rdLen K) (tCons (tVar 0) tNil)) tNil))) tNil))) tNil)) (gName 1) (tSeq (tAsg (tCall (sp_l_cup K) [] E0 (tCons (tVar 0) (tCons (tVar 1) tNil))) (gName 2)) (tIfS (tNot (tB (tCB (rAll K) (tCons (tLc (iRng1 (tCons (tC (.int 5)) tNil)) (gName 3) tYes (tCall (sp_l_right K) [] E0 (tCons (tVar 2) tNil)) [3]) tNil)))) (tRet (tC (.bl false))) tNext))) (tRet (tC (.bl true)))), (pss_cons (ps_for PassesOwn.never rfl (pi_range1 (by rfl) X.z_range (pa_cons (pe_callB (call_max2 rfl) (by rfl) X.z_max bt_max (pa_cons pe_int (pa_cons (pe_callB (call_min2 rfl) (by rfl) X.z_min bt_min (pa_cons pe_int (pa_cons (pe_callB call_len_seq (by rfl) X.z_len bt_len (pa_cons (pv 0) pa_nil)) pa_nil))) pa_nil))) pa_nil)) (pg_name (i := 1) sc_law.nd rfl (Or.inl rfl)) (pss_cons (ps_set (i := 2) sc_law.nd rfl (Or.inr rfl) (pe_callG (G_l_cup) (hr.mono (by decide)) (by rfl) X.g_l_cup X.F_l_cup.kp X.b_l_cup .nil pass0 (pa_cons (pv 0) (pa_cons (pv 1) pa_nil)))) (pss_one (ps_if (pt_not (pt_val (pe_callB (cr_all rfl) (by rfl) X.z_all bt_all (pa_cons (pe_lc (own := [("_law_turn", 3)]) (g := (gName 3)) (tt := tYes) (te := (tCall (sp_l_right K) [] E0 (tCons (tVar 2) tNil))) rfl sc_law.nd (pi_range1 (by rfl) X.z_range (pa_cons pe_int pa_nil)) (blkOk_by (N := N_law) (sc := (defScope s_law)) (by decide +kernel)) (fun _ _ _ _ _ => (pg_name (i := 3) sc_law.nd rfl (Or.inl rfl))) (fun _ _ _ _ _ => pts_nil) (fun _ _ _ _ _ => (pe_callG (G_l_right) (hr.mono (by decide)) (by rfl) X.g_l_right X.F_l_right.kp X.b_l_right .nil pass0 (pa_cons (pv 2) pa_nil)))) pa_nil)))) (pss_one (ps_ret pe_bl)) pss_nil)))) (pss_one (ps_ret pe_bl))), ?_⟩
  obtain ⟨v_script, r, W, h, hcore, har, hrt⟩ := h
  refine body hcore har (Nat.le_of_ble_eq_true rfl) ?_
  clear hcore har
  change m_law v_script = some r at h
  unfold m_law at h
  change NxT _ _ [some ((rScr K).at v_script), none, none, none] _ []
  replace h := bindE h
  obtain ⟨t1, ht1, h⟩ := h
  replace h := bindE h
  obtain ⟨o13, ho13, h⟩ := h
  refine s_seq (for_sound (is := [1]) (i_range1 (ea_cons (e_max2 (ea_cons (e_int fun _ => (ea_cons (e_min2 (ea_cons (e_int fun _ => (ea_cons (e_lenS (ea_cons (e_var (sl := ((rScr K).at v_script)) rfl fun _ => (ea_nil ⟨_, rfl, fun _ => (ea_nil ⟨_, _, rfl, fun _ => (ea_nil ⟨_, _, rfl, fun _ => (ea_nil ⟨_, _, rfl, ht1, ⟨_, _, _, rInt, t1, (), _, o13, fun (b3 : Unit) => [some ((rScr K).at v_script), none, none, none], fun (b3 : Unit) => [], rfl, ho13, (by exact (And.intro rfl True.intro)), rfl, ?b14, ?_⟩⟩)⟩)⟩)⟩)))))))))))))))
  case b14 =>
    have hR : ∀ z, o13 = .ret z → Rt Q W ((fun z => rBool.at z) z) ((fun z => []) z) := fun z ez => by subst ez; have h := pureE h; subst h; exact hrt
    clear h
    intro T1 b3 x2 fl h N Bk hN hBk hz
    refine g_name ?_
    change NxT _ _ [some ((rScr K).at v_script), some (rInt.at x2), none, none] _ []
    replace h := bindE h
    obtain ⟨r4, hr4, h⟩ := h
    refine s_seq (s_set (e_callC (ea_cons (e_var (sl := ((rScr K).at v_script)) rfl fun _ => (ea_cons (e_var (sl := (rInt.at x2)) rfl fun _ => (ea_nil ⟨(v_script, x2), r4, [], hr4, rfl, rfl, fun p5 => ?_⟩)))))))
    change NxT _ _ [some ((rScr K).at v_script), some (rInt.at x2), some (sRef p5), none] _ [(p5, cCup r4)]
    replace h := bindE h
    obtain ⟨t6, ht6, h⟩ := h
    replace h := bindE h
    obtain ⟨t12, ht12, h⟩ := h
    refine (s_if (t_not (t_val (e_all (ea_cons (lc_sound (is := [3]) (by decide) (i_range1 (ea_cons (e_int fun _ => (ea_nil ⟨_, _, rfl, ht6, ⟨_, _, _, rInt, t6, r4, _, t12.1, t12.2, rBool, fun k => [(p5, cCup k)], rfl, ht12, rfl, ?b11, fun _ => (ea_nil ⟨_, rfl, ⟨_, rfl, ⟨fun hc => ?_, fun hc => ?_⟩⟩⟩)⟩⟩))))))))))
    case b11 =>
      intro W1 T1 k8 x7 o u1 h
      refine g_name ?_
      replace h := bindE h
      obtain ⟨r10, hr10, h⟩ := h
      replace h := pureE h
      cases h
      refine t_yes ⟨fun _ => ?_, fun z => nomatch z⟩
      refine (e_call (ea_cons (e_var (sl := (sRef p5)) rfl fun _ => (ea_nil ⟨(p5, k8), r10, [], hr10, rfl, rfl, ⟨_, rfl, rfl, rfl⟩⟩))))
    · replace h := condT hc h
      replace h := pureE h
      subst h
      refine s_ret (e_bl ?_)
      exact Rt.drop (hR _ (hz _ rfl)) (.cons _ .slnil)
    · replace h := condF hc h
      refine s_next ?_
      replace h := pureE h
      subst h
      exact s_weak (by exact (And.intro rfl True.intro)) (.cons _ .slnil) (hN () rfl)
  intro g15 eg15
  subst eg15
  try dsimp only at h
  change NxT _ _ [some ((rScr K).at v_script), none, none, none] _ []
  replace h := pureE h
  subst h
  refine s_ret (e_bl ?_)
  exact Rt.drop hrt .slnil
theorem all_ok {P : Program} {w : World} {K : PySem.W.Frag} {mg : Str → Option Value} {base : Heap} (X : Tx K mg) : FnG P w K mg base CX0 6 X.f_law X.d_law ["_law_script"] (sp_law K) := by
  have G_all_bits : FnG P w K mg base CX0 1 X.f_all_bits X.d_all_bits ["count"] (sp_all_bits K) := ok_all_bits X
  have G_made_by : FnG P w K mg base CX0 1 X.f_made_by X.d_made_by ["numbers", "split"] (sp_made_by K) := ok_made_by X
  have G_implies : FnG P w K mg base CX0 1 X.f_implies X.d_implies ["one", "other"] (sp_implies K) := ok_implies X
  have G_is_stronger : FnG P w K mg base CX0 2 X.f_is_stronger X.d_is_stronger ["one", "other"] (sp_is_stronger K) := ok_is_stronger X G_implies
  have G_reduced : FnG P w K mg base CX0 3 X.f_reduced X.d_reduced ["splits"] (sp_reduced K) := ok_reduced X G_is_stronger
  have G_powers : FnG P w K mg base CX0 4 X.f_powers X.d_powers ["count", "splits"] (sp_powers K) := ok_powers X G_all_bits G_made_by G_reduced
  have G_l_cup : FnG P w K mg base CX0 1 X.f_l_cup X.d_l_cup ["_law_script", "_law_k"] (sp_l_cup K) := ok_l_cup X
  have G_l_dip : FnG P w K mg base CX0 1 X.f_l_dip X.d_l_dip ["_law_cup_here", "_law_many"] (sp_l_dip K) := ok_l_dip X
  have G_l_group : FnG P w K mg base CX0 2 X.f_l_group X.d_l_group ["_law_cup_here", "_law_count"] (sp_l_group K) := ok_l_group X G_l_dip
  have G_l_all_splits : FnG P w K mg base CX0 1 X.f_l_all_splits X.d_l_all_splits ["_law_count", "_law_groups"] (sp_l_all_splits K) := ok_l_all_splits X
  have G_l_some_splits : FnG P w K mg base CX0 3 X.f_l_some_splits X.d_l_some_splits ["_law_cup_here", "_law_count", "_law_most"] (sp_l_some_splits K) := ok_l_some_splits X G_l_dip G_l_group
  have G_l_bit_makes : FnG P w K mg base CX0 1 X.f_l_bit_makes X.d_l_bit_makes ["_law_numbers", "_law_split"] (sp_l_bit_makes K) := ok_l_bit_makes X
  have G_l_all_bits : FnG P w K mg base CX0 1 X.f_l_all_bits X.d_l_all_bits ["_law_count"] (sp_l_all_bits K) := ok_l_all_bits X
  have G_l_due : FnG P w K mg base CX0 2 X.f_l_due X.d_l_due ["_law_count", "_law_lot"] (sp_l_due K) := ok_l_due X G_l_all_bits G_l_bit_makes
  have G_l_right : FnG P w K mg base CX0 5 X.f_l_right X.d_l_right ["_law_cup_here"] (sp_l_right K) := ok_l_right X G_l_all_splits G_l_dip G_l_due G_l_group G_l_some_splits G_powers
  have G_law : FnG P w K mg base CX0 6 X.f_law X.d_law ["_law_script"] (sp_law K) := ok_law X G_l_cup G_l_right
  exact G_law
theorem all_mk {l : PySem.W.OpenLaw} {w : World} {K : PySem.W.Frag} {h : Heap} {mg : Str → Option Value} {fa : Addr} (X : K.In h) (G : h.Ns mainGlobals mg) (hfa : mg "law" = some (.ref fa))
    {f0 : Addr} {od0 an0 : Option Addr} {sl0 : Array (Option Value)} {oc0 kV0 dc0 pm0 cd0 ct0 : Value}
    {f1 : Addr} {od1 an1 : Option Addr} {sl1 : Array (Option Value)} {oc1 kV1 dc1 pm1 cd1 ct1 : Value}
    {f2 : Addr} {od2 an2 : Option Addr} {sl2 : Array (Option Value)} {oc2 kV2 dc2 pm2 cd2 ct2 : Value}
    {f3 : Addr} {od3 an3 : Option Addr} {sl3 : Array (Option Value)} {oc3 kV3 dc3 pm3 cd3 ct3 : Value}
    {f4 : Addr} {od4 an4 : Option Addr} {sl4 : Array (Option Value)} {oc4 kV4 dc4 pm4 cd4 ct4 : Value}
    {f5 : Addr} {od5 an5 : Option Addr} {sl5 : Array (Option Value)} {oc5 kV5 dc5 pm5 cd5 ct5 : Value}
    {f6 : Addr} {od6 an6 : Option Addr} {sl6 : Array (Option Value)} {oc6 kV6 dc6 pm6 cd6 ct6 : Value}
    {f7 : Addr} {od7 an7 : Option Addr} {sl7 : Array (Option Value)} {oc7 kV7 dc7 pm7 cd7 ct7 : Value}
    {f8 : Addr} {od8 an8 : Option Addr} {sl8 : Array (Option Value)} {oc8 kV8 dc8 pm8 cd8 ct8 : Value}
    {f9 : Addr} {od9 an9 : Option Addr} {sl9 : Array (Option Value)} {oc9 kV9 dc9 pm9 cd9 ct9 : Value}
    {f10 : Addr} {od10 an10 : Option Addr} {sl10 : Array (Option Value)} {oc10 kV10 dc10 pm10 cd10 ct10 : Value}
    {f11 : Addr} {od11 an11 : Option Addr} {sl11 : Array (Option Value)} {oc11 kV11 dc11 pm11 cd11 ct11 : Value}
    {f12 : Addr} {od12 an12 : Option Addr} {sl12 : Array (Option Value)} {oc12 kV12 dc12 pm12 cd12 ct12 : Value}
    {f13 : Addr} {od13 an13 : Option Addr} {sl13 : Array (Option Value)} {oc13 kV13 dc13 pm13 cd13 ct13 : Value}
    {f14 : Addr} {od14 an14 : Option Addr} {sl14 : Array (Option Value)} {oc14 kV14 dc14 pm14 cd14 ct14 : Value}
    {f15 : Addr} {od15 an15 : Option Addr} {sl15 : Array (Option Value)} {oc15 kV15 dc15 pm15 cd15 ct15 : Value}
    (a0 : PySem.W.nsIn K mainGlobals "all_bits" = some (some (.ref f0)))
    (l0 : K.lookup f0 = some ⟨oc0, od0, .func (PySem.W.fnOf "all_bits" "all_bits" (defArgs s_all_bits) (defBody s_all_bits) (defScope s_all_bits) .none kV0 dc0 pm0 an0 cd0 ct0), sl0⟩) (c0 : PySem.W.codeIn K cd0 "all_bits" = true) (k0 : PySem.W.keepIn K (.ref f0) = true)
    (a1 : PySem.W.nsIn K mainGlobals "made_by" = some (some (.ref f1)))
    (l1 : K.lookup f1 = some ⟨oc1, od1, .func (PySem.W.fnOf "made_by" "made_by" (defArgs s_made_by) (defBody s_made_by) (defScope s_made_by) .none kV1 dc1 pm1 an1 cd1 ct1), sl1⟩) (c1 : PySem.W.codeIn K cd1 "made_by" = true) (k1 : PySem.W.keepIn K (.ref f1) = true)
    (a2 : PySem.W.nsIn K mainGlobals "implies" = some (some (.ref f2)))
    (l2 : K.lookup f2 = some ⟨oc2, od2, .func (PySem.W.fnOf "implies" "implies" (defArgs s_implies) (defBody s_implies) (defScope s_implies) .none kV2 dc2 pm2 an2 cd2 ct2), sl2⟩) (c2 : PySem.W.codeIn K cd2 "implies" = true) (k2 : PySem.W.keepIn K (.ref f2) = true)
    (a3 : PySem.W.nsIn K mainGlobals "is_stronger" = some (some (.ref f3)))
    (l3 : K.lookup f3 = some ⟨oc3, od3, .func (PySem.W.fnOf "is_stronger" "is_stronger" (defArgs s_is_stronger) (defBody s_is_stronger) (defScope s_is_stronger) .none kV3 dc3 pm3 an3 cd3 ct3), sl3⟩) (c3 : PySem.W.codeIn K cd3 "is_stronger" = true) (k3 : PySem.W.keepIn K (.ref f3) = true)
    (a4 : PySem.W.nsIn K mainGlobals "reduced" = some (some (.ref f4)))
    (l4 : K.lookup f4 = some ⟨oc4, od4, .func (PySem.W.fnOf "reduced" "reduced" (defArgs s_reduced) (defBody s_reduced) (defScope s_reduced) .none kV4 dc4 pm4 an4 cd4 ct4), sl4⟩) (c4 : PySem.W.codeIn K cd4 "reduced" = true) (k4 : PySem.W.keepIn K (.ref f4) = true)
    (a5 : PySem.W.nsIn K mainGlobals "powers" = some (some (.ref f5)))
    (l5 : K.lookup f5 = some ⟨oc5, od5, .func (PySem.W.fnOf "powers" "powers" (defArgs s_powers) (defBody s_powers) (defScope s_powers) .none kV5 dc5 pm5 an5 cd5 ct5), sl5⟩) (c5 : PySem.W.codeIn K cd5 "powers" = true) (k5 : PySem.W.keepIn K (.ref f5) = true)
    (a6 : PySem.W.nsIn K mainGlobals "_law_cup" = some (some (.ref f6)))
    (l6 : K.lookup f6 = some ⟨oc6, od6, .func (PySem.W.fnOf "_law_cup" "_law_cup" (defArgs s_l_cup) (defBody s_l_cup) (defScope s_l_cup) .none kV6 dc6 pm6 an6 cd6 ct6), sl6⟩) (c6 : PySem.W.codeIn K cd6 "_law_cup" = true) (k6 : PySem.W.keepIn K (.ref f6) = true)
    (a7 : PySem.W.nsIn K mainGlobals "_law_dip" = some (some (.ref f7)))
    (l7 : K.lookup f7 = some ⟨oc7, od7, .func (PySem.W.fnOf "_law_dip" "_law_dip" (defArgs s_l_dip) (defBody s_l_dip) (defScope s_l_dip) .none kV7 dc7 pm7 an7 cd7 ct7), sl7⟩) (c7 : PySem.W.codeIn K cd7 "_law_dip" = true) (k7 : PySem.W.keepIn K (.ref f7) = true)
    (a8 : PySem.W.nsIn K mainGlobals "_law_group" = some (some (.ref f8)))
    (l8 : K.lookup f8 = some ⟨oc8, od8, .func (PySem.W.fnOf "_law_group" "_law_group" (defArgs s_l_group) (defBody s_l_group) (defScope s_l_group) .none kV8 dc8 pm8 an8 cd8 ct8), sl8⟩) (c8 : PySem.W.codeIn K cd8 "_law_group" = true) (k8 : PySem.W.keepIn K (.ref f8) = true)
    (a9 : PySem.W.nsIn K mainGlobals "_law_all_splits" = some (some (.ref f9)))
    (l9 : K.lookup f9 = some ⟨oc9, od9, .func (PySem.W.fnOf "_law_all_splits" "_law_all_splits" (defArgs s_l_all_splits) (defBody s_l_all_splits) (defScope s_l_all_splits) .none kV9 dc9 pm9 an9 cd9 ct9), sl9⟩) (c9 : PySem.W.codeIn K cd9 "_law_all_splits" = true) (k9 : PySem.W.keepIn K (.ref f9) = true)
    (a10 : PySem.W.nsIn K mainGlobals "_law_some_splits" = some (some (.ref f10)))
    (l10 : K.lookup f10 = some ⟨oc10, od10, .func (PySem.W.fnOf "_law_some_splits" "_law_some_splits" (defArgs s_l_some_splits) (defBody s_l_some_splits) (defScope s_l_some_splits) .none kV10 dc10 pm10 an10 cd10 ct10), sl10⟩) (c10 : PySem.W.codeIn K cd10 "_law_some_splits" = true) (k10 : PySem.W.keepIn K (.ref f10) = true)
    (a11 : PySem.W.nsIn K mainGlobals "_law_bit_makes" = some (some (.ref f11)))
    (l11 : K.lookup f11 = some ⟨oc11, od11, .func (PySem.W.fnOf "_law_bit_makes" "_law_bit_makes" (defArgs s_l_bit_makes) (defBody s_l_bit_makes) (defScope s_l_bit_makes) .none kV11 dc11 pm11 an11 cd11 ct11), sl11⟩) (c11 : PySem.W.codeIn K cd11 "_law_bit_makes" = true) (k11 : PySem.W.keepIn K (.ref f11) = true)
    (a12 : PySem.W.nsIn K mainGlobals "_law_all_bits" = some (some (.ref f12)))
    (l12 : K.lookup f12 = some ⟨oc12, od12, .func (PySem.W.fnOf "_law_all_bits" "_law_all_bits" (defArgs s_l_all_bits) (defBody s_l_all_bits) (defScope s_l_all_bits) .none kV12 dc12 pm12 an12 cd12 ct12), sl12⟩) (c12 : PySem.W.codeIn K cd12 "_law_all_bits" = true) (k12 : PySem.W.keepIn K (.ref f12) = true)
    (a13 : PySem.W.nsIn K mainGlobals "_law_due" = some (some (.ref f13)))
    (l13 : K.lookup f13 = some ⟨oc13, od13, .func (PySem.W.fnOf "_law_due" "_law_due" (defArgs s_l_due) (defBody s_l_due) (defScope s_l_due) .none kV13 dc13 pm13 an13 cd13 ct13), sl13⟩) (c13 : PySem.W.codeIn K cd13 "_law_due" = true) (k13 : PySem.W.keepIn K (.ref f13) = true)
    (a14 : PySem.W.nsIn K mainGlobals "_law_right" = some (some (.ref f14)))
    (l14 : K.lookup f14 = some ⟨oc14, od14, .func (PySem.W.fnOf "_law_right" "_law_right" (defArgs s_l_right) (defBody s_l_right) (defScope s_l_right) .none kV14 dc14 pm14 an14 cd14 ct14), sl14⟩) (c14 : PySem.W.codeIn K cd14 "_law_right" = true) (k14 : PySem.W.keepIn K (.ref f14) = true)
    (a15 : PySem.W.nsIn K mainGlobals "law" = some (some (.ref f15)))
    (l15 : K.lookup f15 = some ⟨oc15, od15, .func (PySem.W.fnOf "law" "law" (defArgs s_law) (defBody s_law) (defScope s_law) .none kV15 dc15 pm15 an15 cd15 ct15), sl15⟩) (c15 : PySem.W.codeIn K cd15 "law" = true) (k15 : PySem.W.keepIn K (.ref f15) = true)
    {tk_MOST_KINDS : Tok} (c_MOST_KINDS : PySem.W.nsIn K mainGlobals "MOST_KINDS" = some (some (.int 4 tk_MOST_KINDS)))
    (z_abs : PySem.W.nsIn K mainGlobals "abs" = some none)
    (z_all : PySem.W.nsIn K mainGlobals "all" = some none)
    (z_any : PySem.W.nsIn K mainGlobals "any" = some none)
    (z_dict : PySem.W.nsIn K mainGlobals "dict" = some none)
    (z_enumerate : PySem.W.nsIn K mainGlobals "enumerate" = some none)
    (z_int : PySem.W.nsIn K mainGlobals "int" = some none)
    (z_len : PySem.W.nsIn K mainGlobals "len" = some none)
    (z_max : PySem.W.nsIn K mainGlobals "max" = some none)
    (z_min : PySem.W.nsIn K mainGlobals "min" = some none)
    (z_range : PySem.W.nsIn K mainGlobals "range" = some none)
    (z_repr : PySem.W.nsIn K mainGlobals "repr" = some none)
    (z_set : PySem.W.nsIn K mainGlobals "set" = some none)
    (z_sorted : PySem.W.nsIn K mainGlobals "sorted" = some none)
    (z_tuple : PySem.W.nsIn K mainGlobals "tuple" = some none)
    : ∃ fd : FuncData, (∀ (s : Shared) (v : Value), BindsTo s fd ⟨[v], []⟩ [("_law_script", v)]) ∧ ∀ base : Heap, K.In base → base.Ns mainGlobals mg → FnG l.prog w K mg base CX0 6 fa fd ["_law_script"] (sp_law K) := by
  have e := hfa.symm.trans (PySem.W.mg_of X G a15)
  cases e
  have F0 := fun_mk (st := s_all_bits) l0 c0 k0
  have b0 := F0.binds (ps := ["count"]) fun _ _ _ _ _ _ us hl => match us, hl with | [_], _ => rfl
  have F1 := fun_mk (st := s_made_by) l1 c1 k1
  have b1 := F1.binds (ps := ["numbers", "split"]) fun _ _ _ _ _ _ us hl => match us, hl with | [_, _], _ => rfl
  have F2 := fun_mk (st := s_implies) l2 c2 k2
  have b2 := F2.binds (ps := ["one", "other"]) fun _ _ _ _ _ _ us hl => match us, hl with | [_, _], _ => rfl
  have F3 := fun_mk (st := s_is_stronger) l3 c3 k3
  have b3 := F3.binds (ps := ["one", "other"]) fun _ _ _ _ _ _ us hl => match us, hl with | [_, _], _ => rfl
  have F4 := fun_mk (st := s_reduced) l4 c4 k4
  have b4 := F4.binds (ps := ["splits"]) fun _ _ _ _ _ _ us hl => match us, hl with | [_], _ => rfl
  have F5 := fun_mk (st := s_powers) l5 c5 k5
  have b5 := F5.binds (ps := ["count", "splits"]) fun _ _ _ _ _ _ us hl => match us, hl with | [_, _], _ => rfl
  have F6 := fun_mk (st := s_l_cup) l6 c6 k6
  have b6 := F6.binds (ps := ["_law_script", "_law_k"]) fun _ _ _ _ _ _ us hl => match us, hl with | [_, _], _ => rfl
  have F7 := fun_mk (st := s_l_dip) l7 c7 k7
  have b7 := F7.binds (ps := ["_law_cup_here", "_law_many"]) fun _ _ _ _ _ _ us hl => match us, hl with | [_, _], _ => rfl
  have F8 := fun_mk (st := s_l_group) l8 c8 k8
  have b8 := F8.binds (ps := ["_law_cup_here", "_law_count"]) fun _ _ _ _ _ _ us hl => match us, hl with | [_, _], _ => rfl
  have F9 := fun_mk (st := s_l_all_splits) l9 c9 k9
  have b9 := F9.binds (ps := ["_law_count", "_law_groups"]) fun _ _ _ _ _ _ us hl => match us, hl with | [_, _], _ => rfl
  have F10 := fun_mk (st := s_l_some_splits) l10 c10 k10
  have b10 := F10.binds (ps := ["_law_cup_here", "_law_count", "_law_most"]) fun _ _ _ _ _ _ us hl => match us, hl with | [_, _, _], _ => rfl
  have F11 := fun_mk (st := s_l_bit_makes) l11 c11 k11
  have b11 := F11.binds (ps := ["_law_numbers", "_law_split"]) fun _ _ _ _ _ _ us hl => match us, hl with | [_, _], _ => rfl
  have F12 := fun_mk (st := s_l_all_bits) l12 c12 k12
  have b12 := F12.binds (ps := ["_law_count"]) fun _ _ _ _ _ _ us hl => match us, hl with | [_], _ => rfl
  have F13 := fun_mk (st := s_l_due) l13 c13 k13
  have b13 := F13.binds (ps := ["_law_count", "_law_lot"]) fun _ _ _ _ _ _ us hl => match us, hl with | [_, _], _ => rfl
  have F14 := fun_mk (st := s_l_right) l14 c14 k14
  have b14 := F14.binds (ps := ["_law_cup_here"]) fun _ _ _ _ _ _ us hl => match us, hl with | [_], _ => rfl
  have F15 := fun_mk (st := s_law) l15 c15 k15
  have b15 := F15.binds (ps := ["_law_script"]) fun _ _ _ _ _ _ us hl => match us, hl with | [_], _ => rfl
  exact ⟨_, fun s v => .of_eq rfl, fun base _ _ => all_ok ⟨_, _, F0, PySem.W.mg_of X G a0, b0, _, _, F1, PySem.W.mg_of X G a1, b1, _, _, F2, PySem.W.mg_of X G a2, b2, _, _, F3, PySem.W.mg_of X G a3, b3, _, _, F4, PySem.W.mg_of X G a4, b4, _, _, F5, PySem.W.mg_of X G a5, b5, _, _, F6, PySem.W.mg_of X G a6, b6, _, _, F7, PySem.W.mg_of X G a7, b7, _, _, F8, PySem.W.mg_of X G a8, b8, _, _, F9, PySem.W.mg_of X G a9, b9, _, _, F10, PySem.W.mg_of X G a10, b10, _, _, F11, PySem.W.mg_of X G a11, b11, _, _, F12, PySem.W.mg_of X G a12, b12, _, _, F13, PySem.W.mg_of X G a13, b13, _, _, F14, PySem.W.mg_of X G a14, b14, _, _, F15, PySem.W.mg_of X G a15, b15, _, PySem.W.mg_of X G c_MOST_KINDS, PySem.W.mg_none_of X G z_abs, PySem.W.mg_none_of X G z_all, PySem.W.mg_none_of X G z_any, PySem.W.mg_none_of X G z_dict, PySem.W.mg_none_of X G z_enumerate, PySem.W.mg_none_of X G z_int, PySem.W.mg_none_of X G z_len, PySem.W.mg_none_of X G z_max, PySem.W.mg_none_of X G z_min, PySem.W.mg_none_of X G z_range, PySem.W.mg_none_of X G z_repr, PySem.W.mg_none_of X G z_set, PySem.W.mg_none_of X G z_sorted, PySem.W.mg_none_of X G z_tuple⟩⟩
/-! ## plain: a value that is there and keeps P -/
def Tot {α : Type} (m : Option α) (P : α → Prop) : Prop := ∃ a, m = some a ∧ P a
section
variable {α β γ ρ : Type} {P : α → Prop} {Q : β → Prop}
theorem Tot.bind {m : Option α} {f : α → Option β} (h : Tot m P) (k : ∀ a, P a → Tot (f a) Q) : Tot (bind m f) Q := by
  obtain ⟨a, e, p⟩ := h
  obtain ⟨b, e2, q⟩ := k a p
  refine ⟨b, ?_, q⟩
  rw [e]
  exact e2
theorem Tot.ret {a : α} (h : P a) : Tot (pure a) P := ⟨a, rfl, h⟩
theorem Tot.some {a : α} (h : P a) : Tot (some a) P := ⟨a, rfl, h⟩
theorem Tot.imp {m : Option α} {P' : α → Prop} (h : Tot m P) (k : ∀ a, P a → P' a) : Tot m P' := let ⟨a, e, p⟩ := h; ⟨a, e, k a p⟩
theorem Tot.cond {c : Bool} {a b : Option α} (h1 : c = true → Tot a P) (h2 : c = false → Tot b P) : Tot (bif c then a else b) P := by
  cases c with
  | true => exact h1 rfl
  | false => exact h2 rfl
theorem Tot.of {m : Option α} {a : α} (e : m = Option.some a) (p : P a) : Tot m P := ⟨a, e, p⟩
theorem Tot.get {m : Option α} {a : α} (h : Tot m (· = a)) : m = Option.some a := by obtain ⟨b, e, rfl⟩ := h; exact e
theorem Tot.ite {c : Prop} [Decidable c] {a : α} (hc : c) (p : P a) : Tot (if c then Option.some a else none) P := ⟨a, by rw [if_pos hc], p⟩
/-! loops -/
theorem Tot.fold {f : β → α → Option β} {I : Nat → β → Prop} : ∀ (xs : List α) (b : β) (i : Nat), I i b → (∀ j x b, xs[j]? = Option.some x → I (i + j) b → Tot (f b x) (I (i + j + 1))) → Tot (foldO f xs b) (I (i + xs.length))
  | [], b, i, h, _ => ⟨b, rfl, h⟩
  | x :: xs, b, i, h, hs => by
    obtain ⟨b', e, h'⟩ := hs 0 x b rfl h
    have ih := Tot.fold (f := f) (I := I) xs b' (i + 1) h' fun j y c hj hc => by
      have := hs (j + 1) y c (by simpa using hj) (by rw [show i + (j + 1) = i + 1 + j by omega]; exact hc)
      rw [show i + (j + 1) + 1 = i + 1 + j + 1 by omega] at this
      exact this
    unfold foldO
    rw [e]
    rw [show i + (x :: xs).length = i + 1 + xs.length by rw [List.length_cons]; omega]
    exact ih
/-- a loop that may be left: B behind a break, R behind a return -/
theorem Tot.loop {f : β → α → Option (Fl ρ β)} {I : Nat → β → Prop} {B : β → Prop} {R : ρ → Prop} : ∀ (xs : List α) (b : β) (i : Nat), I i b →
    (∀ j x b, xs[j]? = Option.some x → I (i + j) b → Tot (f b x) fun fl => match fl with | .go b' => I (i + j + 1) b' | .brk b' => B b' | .ret r => R r) →
    Tot (loopO f xs b) fun o => match o with | .go b => I (i + xs.length) b ∨ B b | .ret r => R r
  | [], b, i, h, _ => ⟨_, rfl, .inl h⟩
  | x :: xs, b, i, h, hs => by
    obtain ⟨fl, e, h'⟩ := hs 0 x b rfl h
    unfold loopO
    rw [e]
    cases fl with
    | go b' =>
      have ih := Tot.loop (f := f) (I := I) (B := B) (R := R) xs b' (i + 1) h' fun j y c hj hc => by
        have := hs (j + 1) y c (by simpa using hj) (by rw [show i + (j + 1) = i + 1 + j by omega]; exact hc)
        rw [show i + (j + 1) + 1 = i + 1 + j + 1 by omega] at this
        exact this
      rw [show i + (x :: xs).length = i + 1 + xs.length by rw [List.length_cons]; omega]
      exact ih
    | brk b' => exact ⟨_, rfl, .inr h'⟩
    | ret r => exact ⟨_, rfl, h'⟩
/-- a loop in which each turn goes on -/
theorem Tot.loopGo {f : β → α → Option (Fl ρ β)} {I : Nat → β → Prop} (xs : List α) (b : β) (h : I 0 b) (hs : ∀ j x b, xs[j]? = Option.some x → I j b → Tot (f b x) fun fl => ∃ b', fl = .go b' ∧ I (j + 1) b') :
    Tot (loopO f xs b) fun o => ∃ b', o = .go b' ∧ I xs.length b' := by
  have := Tot.loop (f := f) (I := I) (B := fun _ => False) (R := fun _ => False) xs b 0 h fun j x b hj hb => by
    rw [Nat.zero_add] at hb ⊢
    exact (hs j x b hj hb).imp fun fl ⟨b', e, h'⟩ => by subst e; exact h'
  refine this.imp fun o ho => ?_
  cases o with
  | go b' => rw [Nat.zero_add] at ho; exact ⟨b', rfl, ho.elim id False.elim⟩
  | ret r => exact ho.elim
theorem Tot.lc {f : β → α → Option (Option γ × β)} {I : Nat → List γ → β → Prop} : ∀ (xs : List α) (b : β) (i : Nat) (acc : List γ), I i acc b →
    (∀ j x b acc, xs[j]? = Option.some x → I (i + j) acc b → Tot (f b x) fun r => I (i + j + 1) (acc ++ (match r.1 with | Option.some y => [y] | none => [])) r.2) → Tot (lcO f xs b) fun r => I (i + xs.length) (acc ++ r.1) r.2
  | [], b, i, acc, h, _ => ⟨_, rfl, by show I i (acc ++ []) b; rw [List.append_nil]; exact h⟩
  | x :: xs, b, i, acc, h, hs => by
    obtain ⟨⟨o, b'⟩, e, h'⟩ := hs 0 x b acc rfl h
    obtain ⟨⟨ys, b2⟩, e2, h2⟩ := Tot.lc (f := f) (I := I) xs b' (i + 1) _ h' fun j y c acc hj hc => by
      have := hs (j + 1) y c acc (by simpa using hj) (by rw [show i + (j + 1) = i + 1 + j by omega]; exact hc)
      rw [show i + (j + 1) + 1 = i + 1 + j + 1 by omega] at this
      exact this
    unfold lcO
    rw [e]
    dsimp only
    rw [e2]
    refine ⟨_, rfl, ?_⟩
    rw [show i + (x :: xs).length = i + 1 + xs.length by rw [List.length_cons]; omega]
    cases o with
    | none => simpa using h2
    | some y => simpa using h2
theorem mapO_some {f : α → Option (Option γ)} {g : α → Option γ} : ∀ {xs : List α}, (∀ x ∈ xs, f x = Option.some (g x)) → mapO f xs = Option.some (xs.filterMap g)
  | [], _ => rfl
  | x :: xs, h => by
    unfold mapO
    rw [h x List.mem_cons_self, mapO_some (xs := xs) fun y hy => h y (List.mem_cons_of_mem _ hy)]
    cases e : g x with
    | none => rw [List.filterMap_cons_none e]
    | some y => rw [List.filterMap_cons_some e]
theorem mapO_map {f : α → Option (Option γ)} {g : α → γ} {xs : List α} (h : ∀ x ∈ xs, f x = Option.some (Option.some (g x))) : mapO f xs = Option.some (xs.map g) := by
  rw [mapO_some (g := fun x => Option.some (g x)) h]
  congr 1
  induction xs with
  | nil => rfl
  | cons x xs ih => rw [List.filterMap_cons_some (f := fun x => Option.some (g x)) (b := g x) rfl, List.map_cons, ih fun y hy => h y (List.mem_cons_of_mem _ hy)]
end
theorem loop_one {ρ : Type} {m : Option (Lo ρ Unit)} {P : Prop} (h : Tot m fun o => ∃ b', o = .go b' ∧ P) : m = some (.go ()) ∧ P := by
  obtain ⟨o, e, b', rfl, p⟩ := h
  exact ⟨e, p⟩
/-! ints -/
theorem sml64 {i : Int} (h1 : -18446744073709551616 < i) (h2 : i < 18446744073709551616) : Sml i := sml_of (n := 64) (by decide) (by show i.natAbs < 18446744073709551616; omega)
theorem tot_shl {i j : Int} {P : Int → Prop} (h0 : 0 ≤ j) (h1 : j ≤ 100000) (h2 : Sml i) (p : P (i * 2 ^ j.toNat)) : Tot (oShl i j) P := Tot.ite ⟨h0, h1, h2⟩ p
theorem tot_shr {i j : Int} {P : Int → Prop} (h0 : 0 ≤ j) (p : P (i / 2 ^ j.toNat)) : Tot (oShr i j) P := Tot.ite h0 p
theorem tot_mul {i j : Int} {P : Int → Prop} (h1 : Sml i) (h2 : Sml j) (p : P (i * j)) : Tot (oMul i j) P := Tot.ite ⟨h1, h2⟩ p
theorem tot_div {i j : Int} {P : Int → Prop} (h1 : 0 < j) (h2 : Sml j) (p : P (i / j)) : Tot (oDiv i j) P := Tot.ite ⟨h1, h2⟩ p
theorem tot_mod {i j : Int} {P : Int → Prop} (h1 : 0 < j) (p : P (i % j)) : Tot (oMod i j) P := Tot.ite h1 p
theorem tot_pow {i j : Int} {P : Int → Prop} (h1 : 0 ≤ j) (h2 : j ≤ 1000) (h3 : Sml i) (p : P (i ^ j.toNat)) : Tot (oPow i j) P := Tot.ite ⟨h1, h2, h3⟩ p
theorem tot_app {α : Type} {xs : List α} {x : α} {P : List α → Prop} (h : xs.length < 16777216) (p : P (xs ++ [x])) : Tot (oApp xs x) P := Tot.ite (by rw [sizeLine_eq]; exact h) p
theorem tot_range {i j : Int} {P : List Int → Prop} (h1 : -4611686018427387904 ≤ i) (h2 : i < 4611686018427387904) (h3 : -4611686018427387904 ≤ j) (h4 : j < 4611686018427387904) (h5 : j - i ≤ 16777216) (p : P (rangeI i j)) : Tot (oRange i j) P := by
  refine Tot.ite ⟨⟨?_, ?_⟩, ⟨?_, ?_⟩, ?_⟩ p
  · show -4611686018427387904 ≤ i; exact h1
  · show i < 4611686018427387904; exact h2
  · show -4611686018427387904 ≤ j; exact h3
  · show j < 4611686018427387904; exact h4
  · rw [sizeLine_eq]; omega
theorem rangeI_get {i j : Int} {k : Nat} {x : Int} (h : (rangeI i j)[k]? = some x) : x = i + (k : Int) ∧ (k : Int) < j - i := by
  unfold rangeI at h
  rw [List.getElem?_map] at h
  by_cases hk : k < (j - i).toNat
  · rw [List.getElem?_range hk] at h
    cases h
    exact ⟨rfl, by omega⟩
  · rw [List.getElem?_eq_none (by rw [List.length_range]; omega)] at h
    cases h
theorem at_nat {α : Type} {xs : List α} {j : Nat} {x : α} {P : α → Prop} (h : xs[j]? = some x) (p : P x) : Tot (atI xs (j : Int)) P := ⟨x, atI_nat h, p⟩
theorem at_int {α : Type} {xs : List α} {i : Int} {P : α → Prop} (h0 : 0 ≤ i) (h1 : i < xs.length) (p : ∀ x, xs[i.toNat]? = some x → P x) : Tot (atI xs i) P := by
  obtain ⟨j, rfl⟩ := Int.eq_ofNat_of_zero_le h0
  have hj : j < xs.length := by omega
  have hx := List.getElem?_eq_getElem hj
  exact ⟨xs[j], atI_nat hx, p _ (by rw [Int.toNat_natCast]; exact hx)⟩
theorem int_pow_pos {a : Int} (h : 0 < a) : ∀ n : Nat, 0 < a ^ n
  | 0 => by rw [Int.pow_zero]; decide
  | n + 1 => by rw [Int.pow_succ]; exact Int.mul_pos (int_pow_pos h n) h
theorem two_pow_pos (n : Nat) : (0 : Int) < 2 ^ n := int_pow_pos (by decide) n
theorem cast_two_pow (n : Nat) : ((2 ^ n : Nat) : Int) = 2 ^ n := by
  induction n with
  | zero => rfl
  | succ n ih => rw [Nat.pow_succ, Int.pow_succ, Int.natCast_mul, ih]; rfl
theorem bitAnd_mask (i : Int) (k : Nat) : Builtin.bitAnd i (2 ^ k - 1) = i % 2 ^ k := PySem.W.kbt_mask i k

/-! ## the cup -/
def CupOk (k : Cup) (n : Int) : Prop := 0 ≤ k.2.1 ∧ k.2.1 < 2305843009213693921 ∧ 0 ≤ k.2.2 ∧ k.2.2 ≤ n
theorem CupOk.mono {k : Cup} {n m : Int} (h : CupOk k n) (l : n ≤ m) : CupOk k m := ⟨h.1, h.2.1, h.2.2.1, Int.le_trans h.2.2.2 l⟩
theorem three_at (a b c : Int) : atI [a, b, c] 0 = some a ∧ atI [a, b, c] 2 = some c ∧ atI [a, b, c] 1 = some b := ⟨rfl, rfl, rfl⟩
theorem five_at (a b c d e : Int) (i : Int) (h0 : 0 ≤ i) (h1 : i < 5) : ∃ x, atI [a, b, c, d, e] i = some x ∧ (x = a ∨ x = b ∨ x = c ∨ x = d ∨ x = e) := by
  have : i = 0 ∨ i = 1 ∨ i = 2 ∨ i = 3 ∨ i = 4 := by omega
  rcases this with e | e | e | e | e <;> subst e
  · exact ⟨_, rfl, .inl rfl⟩
  · exact ⟨_, rfl, .inr (.inl rfl)⟩
  · exact ⟨_, rfl, .inr (.inr (.inl rfl))⟩
  · exact ⟨_, rfl, .inr (.inr (.inr (.inl rfl)))⟩
  · exact ⟨_, rfl, .inr (.inr (.inr (.inr rfl)))⟩
theorem dip_ok {k : Cup} {many N : Int} (hk : CupOk k N) (hN : N ≤ 1000000) (h0 : 0 < many) (hs : Sml many) : Tot (m_l_dip k many) fun r => 0 ≤ r.1 ∧ r.1 < many ∧ CupOk r.2 (N + 1) := by
  obtain ⟨k0, k1, k2⟩ := k
  obtain ⟨a1, a2, a3, a4⟩ := hk
  dsimp only at a1 a2 a3 a4
  unfold m_l_dip
  refine Tot.bind (P := (· = k0)) (Tot.of rfl rfl) fun t1 e1 => ?_
  subst e1
  refine Tot.cond (fun hc => ?_) fun hc => ?_
  · refine Tot.bind (P := (· = t1)) (Tot.of rfl rfl) fun t2 e => ?_
    subst e
    refine Tot.bind (P := fun r => 0 ≤ r ∧ r < many) (tot_mod h0 ⟨Int.emod_nonneg _ (by omega), Int.emod_lt_of_pos _ h0⟩) fun t3 h3 => ?_
    refine Tot.bind (P := (· = t2)) (Tot.of rfl rfl) fun t4 e => ?_
    subst e
    refine Tot.bind (P := fun _ => True) (tot_div h0 hs trivial) fun t5 _ => ?_
    exact Tot.ret ⟨h3.1, h3.2, a1, a2, a3, show k2 ≤ N + 1 by omega⟩
  · refine Tot.bind (P := (· = k2)) (Tot.of rfl rfl) fun t e => ?_
    subst e
    refine Tot.bind (P := (· = t + 1)) (Tot.of rfl rfl) fun u e => ?_
    subst e
    refine Tot.bind (P := fun r => 0 ≤ r ∧ r < 5) (tot_mod (by decide) ⟨Int.emod_nonneg _ (by decide), Int.emod_lt_of_pos _ (by decide)⟩) fun t3 h3 => ?_
    obtain ⟨p, ep, hp⟩ := five_at 2147483647 2147483629 2147483587 2147483579 2147483563 t3 h3.1 h3.2
    refine Tot.bind (P := fun r => 2147483563 ≤ r ∧ r ≤ 2147483647) (Tot.of ep (by omega)) fun q hq => ?_
    refine Tot.bind (P := (· = k1)) (Tot.of rfl rfl) fun t5 e => ?_
    subst e
    refine Tot.bind (P := (· = t + 1)) (Tot.of rfl rfl) fun t6 e => ?_
    subst e
    refine Tot.bind (P := fun r => 0 ≤ r ∧ r ≤ 77003 * 1000001) (tot_mul (sml64 (by decide) (by decide)) (sml64 (by omega) (by omega)) ⟨by omega, by omega⟩) fun t7 h7 => ?_
    refine Tot.bind (P := (· = t + 1)) (Tot.of rfl rfl) fun t8 e => ?_
    subst e
    refine Tot.bind (P := fun r => 0 ≤ r ∧ r ≤ 77003 * 1000001 * 1000001) (tot_mul (sml64 (by omega) (by omega)) (sml64 (by omega) (by omega)) ⟨Int.mul_nonneg h7.1 (by omega), Int.mul_le_mul h7.2 (by omega) (by omega) (by decide)⟩) fun t9 h9 => ?_
    refine Tot.bind (P := fun _ => True) (tot_pow (by decide) (by decide) (sml64 (by omega) (by omega)) trivial) fun t10 _ => ?_
    refine Tot.bind (P := fun r => 0 ≤ r ∧ r ≤ 2147483647) (tot_mod (by omega) ⟨Int.emod_nonneg _ (by omega), by have := Int.emod_lt_of_pos t10 (show 0 < q by omega); omega⟩) fun t11 h11 => ?_
    refine Tot.bind (P := fun r => 0 ≤ r ∧ r < 10037) (tot_mod (by decide) ⟨Int.emod_nonneg _ (by decide), Int.emod_lt_of_pos _ (by decide)⟩) fun t12 h12 => ?_
    refine Tot.bind (P := (· = t + 1)) (Tot.of rfl rfl) fun t13 e => ?_
    subst e
    refine Tot.bind (P := fun r => 0 ≤ r ∧ r ≤ 71 * 1000001) (tot_mul (sml64 (by decide) (by decide)) (sml64 (by omega) (by omega)) ⟨by omega, by omega⟩) fun t14 h14 => ?_
    refine Tot.bind (P := fun _ => True) (tot_mul (sml64 (by omega) (by omega)) (sml64 (by omega) (by omega)) trivial) fun t15 _ => ?_
    refine Tot.bind (P := fun _ => True) (tot_mod (by decide) trivial) fun t16 _ => ?_
    refine Tot.bind (P := fun _ => True) (tot_div (by decide) (sml64 (by decide) (by decide)) trivial) fun t17 _ => ?_
    refine Tot.bind (P := fun r => 0 ≤ r ∧ r < many) (tot_mod h0 ⟨Int.emod_nonneg _ (by omega), Int.emod_lt_of_pos _ h0⟩) fun t18 h18 => ?_
    exact Tot.ret ⟨h18.1, h18.2, a1, a2, show 0 ≤ t + 1 by omega, show t + 1 ≤ N + 1 by omega⟩
theorem cup_ok {ns : List Int} {k : Int} (h0 : 0 ≤ k) (h1 : k < 1000) : Tot (m_l_cup ns k) fun c => CupOk c 0 := by
  unfold m_l_cup
  refine Tot.bind (P := fun _ => True) (Tot.cond (fun hc => ?_) fun hc => ?_) fun t3 _ => ?_
  · exact Tot.bind (P := fun _ => True) (at_int h0 (of_decide_eq_true hc) fun _ _ => trivial) fun _ _ => Tot.ret trivial
  · exact Tot.bind (P := fun _ => True) (tot_mul (sml64 (by decide) (by decide)) (sml64 (by omega) (by omega)) trivial) fun _ _ => Tot.ret trivial
  refine Tot.bind (P := fun r => r = 10 ^ 60) (tot_pow (by decide) (by decide) (sml64 (by decide) (by decide)) rfl) fun t6 e6 => ?_
  have s6 : Sml t6 := by subst e6; exact sml_of (n := 200) (by decide) (by decide +kernel)
  refine Tot.bind (P := fun r => 0 < r ∧ r.natAbs < 2 ^ 800) (tot_pow (by decide) (by decide) s6 (by subst e6; exact ⟨by decide +kernel, by decide +kernel⟩)) fun t7 h7 => ?_
  refine Tot.bind (P := fun r => Sml r) (tot_mod h7.1 (sml_of (n := 800) (by decide) (by
    have a := Int.emod_nonneg (t3.natAbs : Int) (show t7 ≠ 0 by omega)
    have b := Int.emod_lt_of_pos (t3.natAbs : Int) h7.1
    exact Nat.lt_of_lt_of_le (by omega : _ < t7.natAbs) (Nat.le_of_lt h7.2)))) fun t8 h8 => ?_
  refine Tot.bind (P := fun _ => True) (tot_pow (by decide) (by decide) (sml64 (by decide) (by decide)) trivial) fun t9 _ => ?_
  refine Tot.bind (P := fun _ => True) (tot_mul h8 (by split <;> exact sml64 (by decide) (by decide)) trivial) fun t10 _ => ?_
  refine Tot.bind (P := fun r => 0 ≤ r ∧ r < 2305843009213693951) (tot_mod (by decide) ⟨Int.emod_nonneg _ (by decide), Int.emod_lt_of_pos _ (by decide)⟩) fun t11 h11 => ?_
  refine Tot.bind (P := fun _ => True) (tot_mul (sml64 (by omega) (by omega)) (sml64 (by decide) (by decide)) trivial) fun t12 _ => ?_
  refine Tot.bind (P := fun r => 0 ≤ r ∧ r ≤ 6689 * 1000) (tot_mul (sml64 (by decide) (by decide)) (sml64 (by omega) (by omega)) ⟨by omega, by omega⟩) fun t13 h13 => ?_
  refine Tot.bind (P := fun _ => True) (tot_mul (sml64 (by omega) (by omega)) (sml64 (by omega) (by omega)) trivial) fun t14 _ => ?_
  refine Tot.bind (P := fun r => 0 ≤ r ∧ r < 2305843009213693921) (tot_mod (by decide) ⟨Int.emod_nonneg _ (by decide), Int.emod_lt_of_pos _ (by decide)⟩) fun t15 h15 => ?_
  exact Tot.ret ⟨h15.1, h15.2, (by show (0 : Int) ≤ 0; decide), (by show (0 : Int) ≤ 0; decide)⟩
/-- the law's own end -/
theorem law_of {K : PySem.W.Frag} {H : Hp} {a : Addr} {ns : List Int} {E : XK} (hl : ns.length ≤ 63) (hS : SqL K H a (ns.map V.int)) (h : m_law ns = some true) : sp_law K [.ref a] H (fun v _ => v = .bl true) E :=
  ⟨ns, true, ⟨H, fun _ => none⟩, h, only_core hS, .cons ⟨hl, a, rfl, hS⟩ .nil, fun v H ⟨F, c, e⟩ => e⟩

/-! ## drawn numbers -/
theorem two_pow_le {n m : Nat} (h : n ≤ m) : (2 : Int) ^ n ≤ 2 ^ m := by
  rw [← cast_two_pow, ← cast_two_pow]
  exact Int.ofNat_le.mpr (Nat.pow_le_pow_right (by decide) h)
theorem sml_two_pow {n : Nat} (h : n ≤ 4000) : Sml (2 ^ n) := sml_of (n := n + 1) (by omega) (by
  rw [← cast_two_pow, Int.natAbs_natCast]
  exact Nat.pow_lt_pow_right (by decide) (by omega))
theorem sml_below {i : Int} {n : Nat} (h : n ≤ 4000) (h0 : 0 ≤ i) (h1 : i ≤ 2 ^ n) : Sml i := sml_of (n := n + 1) (by omega) (by
  obtain ⟨m, rfl⟩ := Int.eq_ofNat_of_zero_le h0
  rw [Int.natAbs_natCast]
  rw [← cast_two_pow] at h1
  exact Nat.lt_of_le_of_lt (Int.ofNat_le.mp h1) (Nat.pow_lt_pow_right (by decide) (by omega)))

/-! ## groups and splits that are drawn -/
def gv (xs : List Int) (i : Int) : Int := xs.getD i.toNat 0
theorem at_gv {xs : List Int} {i : Int} (h0 : 0 ≤ i) (h1 : i < xs.length) : atI xs i = some (gv xs i) := by
  obtain ⟨x, e, h⟩ := at_int (P := fun x => x = gv xs i) h0 h1 fun x hx => by unfold gv; rw [List.getD_eq_getElem?_getD, hx]; rfl
  rw [e, h]
def GrpOk (count : Int) (g : List Int) : Prop := (g ≠ [] ∧ g.length ≤ 1000 ∧ g.Nodup) ∧ ∀ x ∈ g, 0 ≤ x ∧ x < count
theorem group_ok {k : Cup} {count N : Int} (hk : CupOk k N) (hN : N ≤ 990000) (hc0 : 1 ≤ count) (hc1 : count ≤ 100) : Tot (m_l_group k count) fun r => GrpOk count r.1 ∧ CupOk r.2 (N + count + 1) := by
  unfold m_l_group
  refine Tot.bind (P := (· = rangeI 0 count)) (tot_range (by omega) (by omega) (by omega) (by omega) (by omega) rfl) fun t1 e1 => ?_
  subst e1
  have len : (rangeI 0 count).length = count.toNat := by rw [len_rangeI]; omega
  refine Tot.bind (Tot.lc (I := fun i (acc : List Int) c => ((∀ x ∈ acc, 0 ≤ x ∧ x < count) ∧ acc.length ≤ i ∧ acc.Nodup ∧ ∀ x ∈ acc, x < (i : Int)) ∧ CupOk c (N + (i : Int))) _ _ 0 [] ⟨⟨fun x hx => absurd hx (by simp), Nat.le_refl _, List.nodup_nil, fun x hx => absurd hx (by simp)⟩, hk.mono (by omega)⟩ fun j x b acc hx ⟨⟨h1, hl, hn, hb⟩, h2⟩ => ?_) fun r ⟨⟨h1, hl, hn, _⟩, h2⟩ => ?_
  · obtain ⟨ex, hj⟩ := rangeI_get hx
    rw [Nat.zero_add] at h2 hl hb ⊢
    refine Tot.bind (dip_ok h2 (by omega) (by decide) (sml64 (by decide) (by decide))) fun r5 ⟨_, _, f3⟩ => ?_
    refine Tot.cond (fun _ => Tot.ret ⟨⟨fun y hy => ?_, by rw [List.length_append]; exact Nat.add_le_add_right hl 1, List.nodup_append.mpr ⟨hn, by simp, fun a ha c hc e => by
        have : c = x := by simpa using hc
        have := hb a ha
        omega⟩, fun y hy => by
        rcases List.mem_append.mp hy with g | g
        · have := hb y g; omega
        · have : y = x := by simpa using g
          omega⟩, f3.mono (by omega)⟩) fun _ => Tot.ret ⟨⟨fun y hy => ?_, by rw [List.append_nil]; omega, by rw [List.append_nil]; exact hn, fun y hy => by have := hb y (by simpa using hy); omega⟩, f3.mono (by omega)⟩
    · rcases List.mem_append.mp hy with h | h
      · exact h1 y h
      · have : y = x := by simpa using h
        omega
    · exact h1 y (by simpa using hy)
  · rw [len, Nat.zero_add] at h2 hl
    rw [List.nil_append] at h1 hl hn
    refine Tot.bind (P := fun r => GrpOk count r.1 ∧ CupOk r.2 (N + count + 1)) (Tot.cond (fun hc => Tot.ret ⟨⟨⟨?_, by show r.1.length ≤ 1000; omega, hn⟩, h1⟩, h2.mono (by omega)⟩) fun hc => ?_) fun t9 h => Tot.ret h
    · intro e
      rw [show r.1 = [] from e] at hc
      simp at hc
    · refine Tot.bind (dip_ok h2 (by omega) (by omega) (sml64 (by omega) (by omega))) fun r8 ⟨f1, f2, f3⟩ => Tot.ret ⟨⟨⟨by simp, by simp, by simp⟩, fun x hx => ?_⟩, f3.mono (by omega)⟩
      have : x = r8.1 := by simpa using hx
      omega
def SplOk (count : Int) (s : List Int × Int) : Prop := GrpOk count s.1 ∧ 0 ≤ s.2 ∧ s.2 < count ∧ s.2 ∉ s.1
theorem insK_len {α : Type} {e : α → NestedKey} {x : α} : ∀ l : List α, (insK e x l).length ≤ l.length + 1
  | [] => Nat.le_refl _
  | y :: ys => by
    rw [insK]
    split
    · exact Nat.le_succ _
    · split
      · exact Nat.le_refl _
      · exact Nat.succ_le_succ (insK_len ys)
theorem sortK_len {α : Type} {e : α → NestedKey} : ∀ l : List α, (sortK e l).length ≤ l.length
  | [] => Nat.le_refl _
  | x :: xs => Nat.le_trans (insK_len _) (Nat.succ_le_succ (sortK_len xs))
theorem splits_ok {k : Cup} {count most N : Int} (hk : CupOk k N) (hN : N ≤ 980000) (hc0 : 1 ≤ count) (hc1 : count ≤ 100) (hm0 : 0 ≤ most) (hm1 : most ≤ 60) :
    Tot (m_l_some_splits k count most) fun r => (∀ s ∈ r.1, SplOk count s) ∧ (r.1.length : Int) ≤ most ∧ CupOk r.2 (N + 1 + most * (count + 2)) := by
  unfold m_l_some_splits
  refine Tot.bind (P := fun r => (0 ≤ r.1 ∧ r.1 ≤ most ∧ (0 < r.1 → 1 < count)) ∧ CupOk r.2 (N + 1)) (Tot.cond (fun hc => ?_) fun _ => Tot.ret ⟨⟨Int.le_refl _, hm0, fun z => absurd z (Int.lt_irrefl 0)⟩, hk.mono (by omega)⟩) fun t2 ⟨⟨h0, h1', hcc⟩, h2⟩ => ?_
  · exact Tot.bind (dip_ok hk (by omega) (by omega) (sml64 (by omega) (by omega))) fun r1 ⟨f1, f2, f3⟩ => Tot.ret ⟨⟨f1, by show r1.1 ≤ most; omega, fun _ => of_decide_eq_true hc⟩, f3⟩
  have h1 : 0 ≤ t2.1 ∧ t2.1 ≤ most := ⟨h0, h1'⟩
  refine Tot.bind (P := (· = rangeI 0 t2.1)) (tot_range (by omega) (by omega) (by omega) (by omega) (by omega) rfl) fun t5 e5 => ?_
  subst e5
  have len : (rangeI 0 t2.1).length = t2.1.toNat := by rw [len_rangeI]; omega
  have mul : ∀ j : Nat, (j : Int) < t2.1 → ((j : Int) + 1) * (count + 2) ≤ 60 * (count + 2) := fun j hj => Int.mul_le_mul_of_nonneg_right (by omega) (by omega)
  refine Tot.bind (Tot.fold (I := fun j (b : Cup × List (List Int × Int)) => (∀ s ∈ b.2, SplOk count s) ∧ b.2.length = j ∧ CupOk b.1 (N + 1 + (j : Int) * (count + 2))) _ _ 0 ⟨fun s hs => absurd hs (by simp), rfl, h2.mono (by omega)⟩ fun j x b hx ⟨i1, i2, i3⟩ => ?_) fun o ⟨o1, o2, o3⟩ => ?_
  · obtain ⟨ex, hj⟩ := rangeI_get hx
    rw [Nat.zero_add] at i2 i3 ⊢
    have hm := mul j (by omega)
    have e1 : ((j : Int) + 1) * (count + 2) = (j : Int) * (count + 2) + (count + 2) := by rw [Int.add_mul, Int.one_mul]
    refine Tot.bind (dip_ok i3 (by omega) (by omega) (sml64 (by omega) (by omega))) fun r8 ⟨f1, f2, f3⟩ => ?_
    refine Tot.bind (group_ok f3 (by omega) hc0 hc1) fun r9 ⟨⟨⟨_, gl, gn⟩, g1⟩, g2⟩ => ?_
    have one : 1 < count := hcc (by omega)
    refine Tot.bind (P := fun g => GrpOk count g ∧ r8.1 ∉ g) (Tot.cond (fun hc => Tot.ret ⟨⟨⟨?_, by rw [List.length_map]; exact Nat.le_trans (List.length_filter_le _ _) gl, by rw [List.map_id']; exact gn.filter _⟩, fun y hy => ?_⟩, fun hy => ?_⟩) fun hc => ?_) fun t14 ⟨h14, n14⟩ => ?_
    · intro e
      rw [e] at hc
      simp at hc
    · obtain ⟨z, hz, ez⟩ := List.mem_map.mp hy
      have := g1 z (List.mem_filter.mp hz).1
      omega
    · obtain ⟨z, hz, ez⟩ := List.mem_map.mp hy
      have := (List.mem_filter.mp hz).2
      rw [ez] at this
      simp at this
    · refine Tot.bind (P := fun r => 0 ≤ r ∧ r < count ∧ r ≠ r8.1) (tot_mod (by omega) ⟨Int.emod_nonneg _ (by omega), Int.emod_lt_of_pos _ (by omega), ?_⟩) fun t13 h13 => Tot.ret ⟨⟨⟨by simp, by simp, by simp⟩, fun y hy => ?_⟩, fun hy => ?_⟩
      · rcases Int.lt_or_le (r8.1 + 1) count with z | z
        · rw [Int.emod_eq_of_lt (by omega) z]; omega
        · have : r8.1 + 1 = count := by omega
          rw [this, Int.emod_self]; omega
      · have : y = t13 := by simpa using hy
        omega
      · have : r8.1 = t13 := by simpa using hy
        omega
    refine Tot.bind (P := (· = b.2 ++ [(t14, r8.1)])) (tot_app (by omega) rfl) fun l17 e => ?_
    subst e
    refine Tot.ret ⟨fun s hs => ?_, by rw [List.length_append, i2]; rfl, g2.mono (by show _ ≤ N + 1 + ((j + 1 : Nat) : Int) * (count + 2); rw [Int.natCast_add]; show _ ≤ N + 1 + ((j : Int) + 1) * (count + 2); omega)⟩
    rcases List.mem_append.mp hs with h | h
    · exact i1 s h
    · have : s = (t14, r8.1) := by simpa using h
      rw [this]
      exact ⟨h14, f1, f2, n14⟩
  · rw [len, Nat.zero_add] at o2 o3
    have hm : t2.1 * (count + 2) ≤ most * (count + 2) := Int.mul_le_mul_of_nonneg_right h1.2 (by omega)
    have et : (t2.1.toNat : Int) = t2.1 := Int.toNat_of_nonneg h1.1
    rw [et] at o3
    refine Tot.bind (P := fun l => (∀ s ∈ l, SplOk count s) ∧ (l.length : Int) ≤ most) (Tot.ite (by omega) ⟨fun s hs => o1 s (sort_mem hs), ?_⟩) fun l ⟨l1, l2⟩ => Tot.ret ⟨l1, l2, o3.mono (by omega)⟩
    have := sortK_len (e := kSplit.k) o.2
    omega
/-! ## texts of data -/
theorem repr_there {d : PyData} (h1 : d.showable = true) (h2 : d.shown.length ≤ sizeLine) : oRepr d = some d.shown := by
  unfold oRepr
  rw [if_pos ⟨h1, h2⟩]
theorem int_shown {i : Int} (h : i.natAbs.log2 < 1920) : (eInt.d i).showable = true ∧ (eInt.d i).shown.length ≤ 2000 := by
  refine ⟨by show decide _ = true; exact decide_eq_true h, ?_⟩
  show (Str.ofString (toString i)).length ≤ 2000
  have e := int_text_length_le (k := 1920) (by decide) h
  rw [PySem.ofString_length]
  omega
theorem all_showable : ∀ {xs : List Int}, (∀ x ∈ xs, x.natAbs.log2 < 1920) → PyData.showableAll (xs.map eInt.d) = true ∧ piled (PyData.shownAll (xs.map eInt.d)) ≤ 2002 * xs.length
  | [], _ => ⟨rfl, Nat.le_refl _⟩
  | x :: xs, h => by
    obtain ⟨a, b⟩ := int_shown (h x List.mem_cons_self)
    obtain ⟨c, d⟩ := all_showable (xs := xs) fun y hy => h y (List.mem_cons_of_mem _ hy)
    refine ⟨by rw [List.map_cons, PyData.showableAll, a, c]; rfl, ?_⟩
    rw [List.map_cons, PyData.shownAll, piled_cons, List.length_cons]
    omega
theorem tuple_text_le (ts : List Str) : (tupleText ts).length ≤ piled ts + 4 := by
  unfold tupleText
  rw [strLen_append, strLen_append]
  have e1 : ((("(" : String) : Str)).length = 1 := rfl
  have e3 : (((if ts.length == 1 then ",)" else ")" : String) : Str)).length ≤ 2 := by split <;> decide +kernel
  have e2 : (Str.join ", " ts).length ≤ piled ts := by
    by_cases h : ts = []
    · subst h; decide +kernel
    · have := join_length_add ts h
      omega
  omega
theorem repr_ints {xs : List Int} (h : ∀ x ∈ xs, x.natAbs.log2 < 1920) (hl : xs.length ≤ 1000) : oRepr ((eTup eInt).d xs) = some ((eTup eInt).d xs).shown := by
  obtain ⟨a, b⟩ := all_showable h
  refine repr_there a ?_
  have := tuple_text_le (PyData.shownAll (xs.map eInt.d))
  rw [sizeLine_eq]
  show (tupleText (PyData.shownAll (xs.map eInt.d))).length ≤ _
  omega
theorem repr_bool (b : Bool) : oRepr (eBool.d b) = some (eBool.d b).shown := repr_there rfl (by rw [sizeLine_eq]; cases b <;> decide +kernel)
theorem log2_small {x : Int} {n : Nat} (h0 : 0 ≤ x) (h1 : x < 2 ^ n) (hn : n < 1920) : x.natAbs.log2 < 1920 := by
  obtain ⟨m, rfl⟩ := Int.eq_ofNat_of_zero_le h0
  rw [Int.natAbs_natCast]
  rw [← cast_two_pow] at h1
  have h2 : m < 2 ^ n := Int.ofNat_lt.mp h1
  by_cases e : m = 0
  · subst e; decide
  · exact Nat.lt_of_lt_of_le ((Nat.log2_lt e).mpr h2) (Nat.le_of_lt hn)

/-! ## what is in a range -/
theorem rangeI_mem {a b x : Int} : x ∈ rangeI a b ↔ a ≤ x ∧ x < b := by
  unfold rangeI
  rw [List.mem_map]
  constructor
  · rintro ⟨k, hk, e⟩
    have := List.mem_range.mp hk
    omega
  · rintro ⟨h1, h2⟩
    exact ⟨(x - a).toNat, List.mem_range.mpr (by omega), by omega⟩
theorem rangeI_nodup (a b : Int) : (rangeI a b).Nodup := by
  unfold rangeI
  exact List.pairwise_map.mpr (List.nodup_range.imp fun {x y} h e => h (by omega))
theorem rangeI_up (a b : Int) : (rangeI a b).Pairwise (· < ·) := by
  unfold rangeI
  exact List.pairwise_map.mpr (List.pairwise_lt_range.imp fun {x y} h => by omega)

theorem at_last_of {α : Type} {xs : List α} (h : xs ≠ []) : ∃ y, atI xs (-1) = some y ∧ y ∈ xs := by
  obtain ⟨ys, y, e⟩ : ∃ ys y, xs = ys ++ [y] := ⟨_, _, (List.dropLast_concat_getLast h).symm⟩
  rw [e]
  exact ⟨y, atI_last ys y, by simp⟩

/-! ## lots of groups, all their splits -/
theorem grp_range {count m : Int} (h1 : 1 ≤ m) (h2 : m ≤ count) (h3 : count ≤ 1000) : GrpOk count (rangeI 0 m) := by
  refine ⟨⟨fun e => ?_, by rw [len_rangeI]; omega, rangeI_nodup _ _⟩, fun x hx => by have := rangeI_mem.mp hx; omega⟩
  have : (0 : Int) ∈ rangeI 0 m := rangeI_mem.mpr (by omega)
  rw [e] at this
  cases this
theorem tot_ext {α : Type} {xs zs : List α} {P : List α → Prop} (h : xs.length + zs.length ≤ 16777216) (p : P (xs ++ zs)) : Tot (oExt xs zs) P := Tot.ite (by rw [sizeLine_eq]; exact h) p
/-- the pairs below n, one other after another -/
def lowPairs : Nat → List (List Int × Int)
  | 0 => []
  | n + 1 => lowPairs n ++ (rangeI 0 (n : Int)).map fun x => ([x], (n : Int))
/-- all splits as they are listed: the pairs, then those of each group -/
def listed (count : Int) (groups : List (List Int)) : List (List Int × Int) := lowPairs count.toNat ++ groups.flatMap fun g => ((rangeI 0 count).filter fun x => !decide (x ∈ g)).map fun x => (g, x)
theorem lowPairs_len : ∀ n : Nat, (lowPairs n).length ≤ n * n
  | 0 => Nat.le_refl _
  | n + 1 => by
    rw [lowPairs, List.length_append, List.length_map, len_rangeI]
    have := lowPairs_len n
    have e : (n + 1) * (n + 1) = n * n + n + n + 1 := by rw [Nat.add_mul, Nat.mul_add]; omega
    have : ((n : Int) - 0).toNat = n := by omega
    omega
theorem lowPairs_twice : ∀ n : Nat, 2 * (lowPairs n).length + n = n * n
  | 0 => rfl
  | n + 1 => by
    rw [lowPairs, List.length_append, List.length_map, len_rangeI]
    have := lowPairs_twice n
    have e : (n + 1) * (n + 1) = n * n + n + n + 1 := by rw [Nat.add_mul, Nat.mul_add]; omega
    have : ((n : Int) - 0).toNat = n := by omega
    omega
theorem lowPairs_mem : ∀ {n : Nat} {s : List Int × Int}, s ∈ lowPairs n ↔ ∃ a b : Int, s = ([a], b) ∧ 0 ≤ a ∧ a < b ∧ b < n
  | 0, s => by
    constructor
    · intro h; cases h
    · rintro ⟨a, b, _, h1, h2, h3⟩; omega
  | n + 1, s => by
    rw [lowPairs, List.mem_append, lowPairs_mem, List.mem_map]
    constructor
    · rintro (⟨a, b, e, h1, h2, h3⟩ | ⟨x, hx, e⟩)
      · exact ⟨a, b, e, h1, h2, by omega⟩
      · have := rangeI_mem.mp hx
        exact ⟨x, (n : Int), e.symm, by omega, by omega, by omega⟩
    · rintro ⟨a, b, e, h1, h2, h3⟩
      rcases Int.lt_or_le b n with h | h
      · exact .inl ⟨a, b, e, h1, h2, h⟩
      · refine .inr ⟨a, rangeI_mem.mpr (by omega), ?_⟩
        rw [e]
        have : b = n := by omega
        rw [this]
theorem listed_ok {count : Int} {groups : List (List Int)} (hg : ∀ g ∈ groups, GrpOk count g) : ∀ s ∈ listed count groups, SplOk count s := by
  intro s hs
  unfold listed at hs
  rcases List.mem_append.mp hs with h | h
  · obtain ⟨a, b, e, h1, h2, h3⟩ := lowPairs_mem.mp h
    rw [e]
    refine ⟨⟨⟨by simp, by simp, by simp⟩, fun x hx => ?_⟩, by show 0 ≤ b; omega, by show b < count; omega, fun hx => ?_⟩
    · have : x = a := by simpa using hx
      omega
    · have : b = a := by simpa using hx
      omega
  · obtain ⟨g, hgm, h⟩ := List.mem_flatMap.mp h
    obtain ⟨x, hx, e⟩ := List.mem_map.mp h
    obtain ⟨hx1, hx2⟩ := List.mem_filter.mp hx
    have hr := rangeI_mem.mp hx1
    rw [← e]
    exact ⟨hg g hgm, hr.1, hr.2, by simpa using hx2⟩
theorem flat_len {α β : Type} {f : α → List β} {n : Nat} : ∀ {xs : List α}, (∀ x ∈ xs, (f x).length ≤ n) → (xs.flatMap f).length ≤ xs.length * n
  | [], _ => Nat.zero_le _
  | x :: xs, h => by
    rw [List.flatMap_cons, List.length_append, List.length_cons, Nat.succ_mul]
    have := h x List.mem_cons_self
    have := flat_len (xs := xs) fun y hy => h y (List.mem_cons_of_mem _ hy)
    omega
theorem part_len {count : Int} (g : List Int) : (((rangeI 0 count).filter fun x => !decide (x ∈ g)).map fun x => (g, x)).length ≤ count.toNat := by
  rw [List.length_map]
  refine Nat.le_trans (List.length_filter_le _ _) ?_
  rw [len_rangeI]
  omega
theorem listed_len {count : Int} {groups : List (List Int)} : 2 * (listed count groups).length + count.toNat ≤ count.toNat * count.toNat + 2 * (groups.length * count.toNat) := by
  unfold listed
  rw [List.length_append]
  have := lowPairs_twice count.toNat
  have := flat_len (xs := groups) (n := count.toNat) fun g _ => part_len (count := count) g
  omega
theorem all_splits_ok {count : Int} {groups : List (List Int)} (hc0 : 1 ≤ count) (hc1 : count ≤ 100) (hm : groups.length ≤ 1000) {P : List (List Int × Int) → Prop} (p : Tot (oSortS (listed count groups)) P) : Tot (m_l_all_splits count groups) P := by
  unfold m_l_all_splits
  refine Tot.bind (P := (· = rangeI 0 count)) (tot_range (by omega) (by omega) (by omega) (by omega) (by omega) rfl) fun t1 e1 => ?_
  subst e1
  have len : (rangeI 0 count).length = count.toNat := by rw [len_rangeI]; omega
  refine Tot.bind (Tot.fold (I := fun j (b : List (List Int × Int)) => b = lowPairs j) _ _ 0 rfl fun j x b hx hb => ?_) fun o9 h9 => ?_
  · obtain ⟨ex, hj⟩ := rangeI_get hx
    rw [Nat.zero_add] at hb ⊢
    have exj : x = (j : Int) := by omega
    subst hb exj
    refine Tot.bind (P := (· = rangeI 0 (j : Int))) (tot_range (by omega) (by omega) (by omega) (by omega) (by omega) rfl) fun t4 e4 => ?_
    subst e4
    refine Tot.bind (P := (· = lowPairs (j + 1))) (tot_ext ?_ rfl) fun l8 e8 => Tot.ret e8
    have := lowPairs_len j
    have : j * j ≤ 100 * 100 := Nat.mul_le_mul (by omega) (by omega)
    rw [List.length_map, len_rangeI]
    omega
  rw [Nat.zero_add, len] at h9
  subst h9
  refine Tot.bind (Tot.fold (I := fun j (b : List (List Int × Int)) => b = lowPairs count.toNat ++ (groups.take j).flatMap fun g => ((rangeI 0 count).filter fun x => !decide (x ∈ g)).map fun x => (g, x)) _ _ 0 (by simp) fun j g b hx hb => ?_) fun o18 h18 => ?_
  · rw [Nat.zero_add] at hb ⊢
    subst hb
    refine Tot.bind (P := (· = rangeI 0 count)) (tot_range (by omega) (by omega) (by omega) (by omega) (by omega) rfl) fun t13 e13 => ?_
    subst e13
    have hj := (List.getElem?_eq_some_iff.mp hx).1
    refine Tot.bind (P := (· = lowPairs count.toNat ++ (groups.take (j + 1)).flatMap fun g => ((rangeI 0 count).filter fun x => !decide (x ∈ g)).map fun x => (g, x))) (tot_ext ?_ ?_) fun l17 e17 => Tot.ret e17
    · rw [List.length_append]
      have a1 := lowPairs_len count.toNat
      have a2 : count.toNat * count.toNat ≤ 100 * 100 := Nat.mul_le_mul (by omega) (by omega)
      have a3 := flat_len (xs := groups.take j) (n := count.toNat) fun g _ => part_len (count := count) g
      have a4 : (groups.take j).length * count.toNat ≤ 1000 * 100 := Nat.mul_le_mul (by rw [List.length_take]; omega) (by omega)
      have a5 := part_len (count := count) g
      omega
    · rw [List.take_succ, hx, List.flatMap_append]
      simp [List.append_assoc]
  rw [Nat.zero_add, List.take_length] at h18
  subst h18
  exact Tot.bind p fun l20 h => Tot.ret h
/-! ## texts of splits -/
theorem int_shown2 {i : Int} (h0 : 0 ≤ i) (h1 : i < 4294967296) : (eInt.d i).showable = true ∧ (eInt.d i).shown.length ≤ 40 := by
  have hl : i.natAbs.log2 < 32 := by
    by_cases e : i.natAbs = 0
    · rw [e]; decide
    · exact (Nat.log2_lt e).mpr (by omega)
  refine ⟨by show decide _ = true; exact decide_eq_true (by omega), ?_⟩
  show (Str.ofString (toString i)).length ≤ 40
  have e := int_text_length_le (k := 32) (by decide) hl
  rw [PySem.ofString_length]
  omega
theorem all_shown2 : ∀ {xs : List Int}, (∀ x ∈ xs, 0 ≤ x ∧ x < 4294967296) → PyData.showableAll (xs.map eInt.d) = true ∧ piled (PyData.shownAll (xs.map eInt.d)) ≤ 42 * xs.length
  | [], _ => ⟨rfl, Nat.le_refl _⟩
  | x :: xs, h => by
    obtain ⟨a0, a1⟩ := h x List.mem_cons_self
    obtain ⟨a, b⟩ := int_shown2 a0 a1
    obtain ⟨c, d⟩ := all_shown2 (xs := xs) fun y hy => h y (List.mem_cons_of_mem _ hy)
    refine ⟨by rw [List.map_cons, PyData.showableAll, a, c]; rfl, ?_⟩
    rw [List.map_cons, PyData.shownAll, piled_cons, List.length_cons]
    omega
theorem grp_shown {xs : List Int} (h : ∀ x ∈ xs, 0 ≤ x ∧ x < 4294967296) : ((eTup eInt).d xs).showable = true ∧ ((eTup eInt).d xs).shown.length ≤ 42 * xs.length + 4 := by
  obtain ⟨a, b⟩ := all_shown2 h
  refine ⟨a, ?_⟩
  have := tuple_text_le (PyData.shownAll (xs.map eInt.d))
  show (tupleText (PyData.shownAll (xs.map eInt.d))).length ≤ _
  omega
theorem spl_shown {s : List Int × Int} (h : ∀ x ∈ s.1, 0 ≤ x ∧ x < 4294967296) (h0 : 0 ≤ s.2) (h1 : s.2 < 4294967296) : ((ePair (eTup eInt) eInt).d s).showable = true ∧ ((ePair (eTup eInt) eInt).d s).shown.length ≤ 42 * s.1.length + 60 := by
  obtain ⟨a, b⟩ := grp_shown h
  obtain ⟨c, d⟩ := int_shown2 h0 h1
  refine ⟨by show PyData.showableAll [(eTup eInt).d s.1, eInt.d s.2] = true; rw [PyData.showableAll, PyData.showableAll, PyData.showableAll, a, c]; rfl, ?_⟩
  show (tupleText (PyData.shownAll [(eTup eInt).d s.1, eInt.d s.2])).length ≤ _
  have := tuple_text_le (PyData.shownAll [(eTup eInt).d s.1, eInt.d s.2])
  rw [PyData.shownAll, PyData.shownAll, PyData.shownAll, piled_cons, piled_cons] at this
  have e0 : piled ([] : List Str) = 0 := rfl
  rw [PyData.shownAll, PyData.shownAll, PyData.shownAll]
  omega
theorem spls_shown {count : Int} (hc : count ≤ 4294967296) : ∀ {xs : List (List Int × Int)}, (∀ s ∈ xs, SplOk count s) → PyData.showableAll (xs.map (ePair (eTup eInt) eInt).d) = true ∧ piled (PyData.shownAll (xs.map (ePair (eTup eInt) eInt).d)) ≤ 42070 * xs.length
  | [], _ => ⟨rfl, Nat.le_refl _⟩
  | s :: xs, h => by
    obtain ⟨⟨⟨_, g1, _⟩, g2⟩, g3, g4, _⟩ := h s List.mem_cons_self
    obtain ⟨a, b⟩ := spl_shown (s := s) (fun x hx => by have := g2 x hx; omega) g3 (by omega)
    obtain ⟨c, d⟩ := spls_shown hc (xs := xs) fun y hy => h y (List.mem_cons_of_mem _ hy)
    refine ⟨by rw [List.map_cons, PyData.showableAll, a, c]; rfl, ?_⟩
    rw [List.map_cons, PyData.shownAll, piled_cons, List.length_cons]
    omega
theorem repr_spls {count : Int} {xs : List (List Int × Int)} (h : ∀ s ∈ xs, SplOk count s) (hc : count ≤ 4294967296) (hl : xs.length ≤ 390) : oRepr ((eTup (ePair (eTup eInt) eInt)).d xs) = some ((eTup (ePair (eTup eInt) eInt)).d xs).shown := by
  obtain ⟨a, b⟩ := spls_shown hc h
  refine repr_there a ?_
  have := tuple_text_le (PyData.shownAll (xs.map (ePair (eTup eInt) eInt).d))
  rw [sizeLine_eq]
  show (tupleText (PyData.shownAll (xs.map (ePair (eTup eInt) eInt).d))).length ≤ _
  omega

/-! ## what the bits make -/
def bt (i : Nat) (x : Int) : Int := x / 2 ^ i % 2
theorem bit_one (x : Int) : Builtin.bitAnd x 1 = x % 2 := bitAnd_mask x 1
theorem bits_map {xs : List Int} {i : Int} (h : 0 ≤ i) : mapO (fun (x : Int) => (bind (oShr x i) fun t => pure (some (Builtin.bitAnd t (1 : Int))) : Option (Option Int))) xs = some (xs.map (bt i.toNat)) := by
  refine mapO_map fun x _ => ?_
  have a : Tot (oShr x i) (· = x / 2 ^ i.toNat) := tot_shr h rfl
  rw [a.get]
  show some (some (Builtin.bitAnd _ 1)) = _
  rw [bit_one]
  rfl
/-- the numbers split so -/
def mk1 (ns : List Int) (s : List Int × Int) : Bool := s.1.all fun x => decide (gv ns x = gv ns (gv s.1 0)) && !decide (gv ns x = gv ns s.2)
def Fits (ns : List Int) (s : List Int × Int) : Prop := s.1 ≠ [] ∧ (∀ x ∈ s.1, 0 ≤ x ∧ x < ns.length) ∧ 0 ≤ s.2 ∧ s.2 < ns.length
theorem SplOk.fits {count : Int} {s : List Int × Int} {ns : List Int} (h : SplOk count s) (l : (ns.length : Int) = count) : Fits ns s := by
  obtain ⟨⟨⟨a, _⟩, b⟩, c, d, _⟩ := h
  exact ⟨a, fun x hx => by have := b x hx; omega, c, by omega⟩
theorem first_at {s : List Int × Int} (h : s.1 ≠ []) : atI s.1 (0 : Int) = some (gv s.1 0) ∧ gv s.1 0 ∈ s.1 := by
  obtain ⟨g, k⟩ := s
  cases g with
  | nil => exact absurd rfl h
  | cons x xs => exact ⟨at_gv (xs := x :: xs) (Int.le_refl 0) (by rw [List.length_cons]; omega), List.mem_cons_self⟩
theorem gv_map {f : Int → Int} {ns : List Int} {i : Int} (h0 : 0 ≤ i) (h1 : i < ns.length) : gv (ns.map f) i = f (gv ns i) := by
  unfold gv
  have hi : i.toNat < ns.length := by omega
  rw [List.getD_eq_getElem?_getD, List.getD_eq_getElem?_getD, List.getElem?_map, List.getElem?_eq_getElem hi]
  rfl
theorem Fits.map {f : Int → Int} {ns : List Int} {s : List Int × Int} (h : Fits ns s) : Fits (ns.map f) s := by
  unfold Fits
  rw [List.length_map]
  exact h
/-- the code of so many bits makes the split -/
def mkB (ns : List Int) (n : Nat) (s : List Int × Int) : Bool := (List.range n).any fun i => mk1 (ns.map (bt i)) s
theorem any_range {n : Int} {f : Nat → Bool} {g : Int → Bool} (h0 : 0 ≤ n) (h : ∀ i : Nat, (i : Int) < n → g i = f i) : (rangeI 0 n).any g = (List.range n.toNat).any f := by
  rw [Bool.eq_iff_iff, List.any_eq_true, List.any_eq_true]
  constructor
  · rintro ⟨x, hx, e⟩
    obtain ⟨k, hk⟩ := List.mem_iff_getElem?.mp hx
    obtain ⟨ex, hk⟩ := rangeI_get hk
    have : x = (k : Int) := by omega
    subst this
    exact ⟨k, List.mem_range.mpr (by omega), by rw [← h k (by omega)]; exact e⟩
  · rintro ⟨k, hk, e⟩
    have hk := List.mem_range.mp hk
    refine ⟨(k : Int), ?_, by rw [h k (by omega)]; exact e⟩
    unfold rangeI
    exact List.mem_map.mpr ⟨k, List.mem_range.mpr (by omega), by omega⟩

/-! ## what a row makes, by the package -/
theorem made_by_ok {ns : List Int} {s : List Int × Int} (f : Fits ns s) : m_made_by ns s = some (mk1 ns s) := by
  obtain ⟨f1, f2, f3, f4⟩ := f
  obtain ⟨e0, m0⟩ := first_at f1
  obtain ⟨c, d⟩ := f2 _ m0
  unfold m_made_by
  rw [e0]
  show bind (atI ns (gv s.1 0)) _ = _
  rw [at_gv c d]
  show bind (atI ns s.2) _ = _
  rw [at_gv f3 f4]
  show bind ((bif (!decide (gv ns s.2 = gv ns (gv s.1 0))) then _ else (some false : Option Bool)) : Option Bool) (fun t9 : Bool => (some t9 : Option Bool)) = _
  rw [mapO_map (g := fun x => decide (gv ns x = gv ns (gv s.1 0))) fun x hx => ?_]
  · unfold mk1
    by_cases e : gv ns s.2 = gv ns (gv s.1 0)
    · rw [decide_eq_true e]
      show some false = _
      congr 1
      symm
      rw [List.all_eq_false]
      exact ⟨_, m0, by rw [e]; simp⟩
    · rw [decide_eq_false e]
      show some ((List.map _ s.1).all id) = _
      rw [List.all_map]
      congr 1
      rw [Bool.eq_iff_iff, List.all_eq_true, List.all_eq_true]
      refine ⟨fun h x hx => ?_, fun h x hx => ?_⟩
      · have h1 : gv ns x = gv ns (gv s.1 0) := of_decide_eq_true (h x hx)
        have h2 : ¬ gv ns x = gv ns s.2 := fun z => e (z.symm.trans h1)
        simp [h1, h2, fun z => e (Eq.symm z)]
        exact fun z => e z.symm
      · have := h x hx
        rw [Bool.and_eq_true] at this
        exact this.1
  · obtain ⟨a, b⟩ := f2 x hx
    rw [at_gv a b]
    rfl

/-! ## vectors of 0 and 1 -/
def vec (P : Int → Bool) (n : Nat) : List Int := (List.range n).map fun (i : Nat) => if P (i : Int) = true then (1 : Int) else 0
theorem vec_gv (P : Int → Bool) {n : Nat} {x : Int} (h0 : 0 ≤ x) (h1 : x < n) : gv (vec P n) x = if P x = true then 1 else 0 := by
  obtain ⟨m, rfl⟩ := Int.eq_ofNat_of_zero_le h0
  unfold gv vec
  rw [Int.toNat_natCast, List.getD_eq_getElem?_getD, List.getElem?_map, List.getElem?_range (by omega)]
  rfl
theorem vec_len (P : Int → Bool) (n : Nat) : (vec P n).length = n := by unfold vec; rw [List.length_map, List.length_range]
theorem two_to {n : Nat} (h : n ≤ 20) : 2 ^ n ≤ 1048576 := Nat.pow_le_pow_right (n := 2) (by decide) h
theorem mk1_iff {v : List Int} {s : List Int × Int} (h : s.1 ≠ []) : mk1 v s = true ↔ ∃ c, (∀ x ∈ s.1, gv v x = c) ∧ gv v s.2 ≠ c := by
  obtain ⟨_, m0⟩ := first_at h
  unfold mk1
  rw [List.all_eq_true]
  constructor
  · intro a
    refine ⟨gv v (gv s.1 0), fun x hx => ?_, fun e => ?_⟩
    · have := a x hx
      rw [Bool.and_eq_true] at this
      exact of_decide_eq_true this.1
    · have := a _ m0
      rw [Bool.and_eq_true] at this
      rw [e] at this
      simp at this
  · rintro ⟨c, a, b⟩ x hx
    rw [a x hx, a _ m0]
    have : ¬ c = gv v s.2 := fun e => b e.symm
    simp [this]

/-! ## bits of ints -/
def TB (x : Int) (i : Nat) : Bool := decide (x / 2 ^ i % 2 = 1)
theorem TB_zero (x : Int) : TB x 0 = decide (x % 2 = 1) := by unfold TB; rw [Int.pow_zero, Int.ediv_one]
theorem TB_succ (x : Int) (i : Nat) : TB x (i + 1) = TB (x / 2) i := by
  unfold TB
  have e : (2 : Int) ^ (i + 1) = 2 * 2 ^ i := by rw [Int.pow_succ, Int.mul_comm]
  rw [e, ← Int.ediv_ediv_of_nonneg (by decide)]
theorem and_half (x y : Int) : Builtin.bitAnd x y / 2 = Builtin.bitAnd (x / 2) (y / 2) ∧ Builtin.bitAnd x y % 2 = (if x % 2 = 1 ∧ y % 2 = 1 then 1 else 0) := by
  have h := PySem.W.kbt_halves x y
  split at h
  · rename_i c; rw [if_pos c]; omega
  · rename_i c; rw [if_neg c]; omega
theorem TB_and : ∀ (i : Nat) (x y : Int), TB (Builtin.bitAnd x y) i = (TB x i && TB y i)
  | 0, x, y => by
    rw [TB_zero, TB_zero, TB_zero, (and_half x y).2]
    by_cases a : x % 2 = 1 <;> by_cases b : y % 2 = 1 <;> simp [a, b]
  | i + 1, x, y => by rw [TB_succ, TB_succ, TB_succ, (and_half x y).1, TB_and i]
theorem not_half (x : Int) : Builtin.bitNot x / 2 = Builtin.bitNot (x / 2) ∧ Builtin.bitNot x % 2 = 1 - x % 2 := by
  show (-x - 1) / 2 = -(x / 2) - 1 ∧ (-x - 1) % 2 = 1 - x % 2
  omega
theorem TB_not : ∀ (i : Nat) (x : Int), TB (Builtin.bitNot x) i = !TB x i
  | 0, x => by
    rw [TB_zero, TB_zero, (not_half x).2]
    have : x % 2 = 0 ∨ x % 2 = 1 := by omega
    rcases this with h | h <;> rw [h] <;> rfl
  | i + 1, x => by rw [TB_succ, TB_succ, (not_half x).1, TB_not i]
theorem or_eq (x y : Int) : Builtin.bitOr x y = Builtin.bitNot (Builtin.bitAnd (Builtin.bitNot x) (Builtin.bitNot y)) := rfl
theorem xor_eq (x y : Int) : Builtin.bitXor x y = Builtin.bitOr x y - Builtin.bitAnd x y := rfl
theorem TB_or (i : Nat) (x y : Int) : TB (Builtin.bitOr x y) i = (TB x i || TB y i) := by
  rw [or_eq, TB_not, TB_and, TB_not, TB_not]
  cases TB x i <;> cases TB y i <;> rfl
theorem or_half (x y : Int) : Builtin.bitOr x y / 2 = Builtin.bitOr (x / 2) (y / 2) ∧ Builtin.bitOr x y % 2 = (if x % 2 = 1 ∨ y % 2 = 1 then 1 else 0) := by
  rw [or_eq, or_eq, (not_half _).1, (not_half _).2, (and_half _ _).1, (and_half _ _).2, (not_half x).1, (not_half y).1, (not_half x).2, (not_half y).2]
  refine ⟨rfl, ?_⟩
  have a : x % 2 = 0 ∨ x % 2 = 1 := by omega
  have b : y % 2 = 0 ∨ y % 2 = 1 := by omega
  rcases a with a | a <;> rcases b with b | b <;> simp [a, b]
theorem xor_half (x y : Int) : Builtin.bitXor x y / 2 = Builtin.bitXor (x / 2) (y / 2) ∧ Builtin.bitXor x y % 2 = (if (x % 2 = 1) ↔ (y % 2 = 1) then 0 else 1) := by
  rw [xor_eq, xor_eq]
  obtain ⟨a1, a2⟩ := or_half x y
  obtain ⟨b1, b2⟩ := and_half x y
  rw [← a1, ← b1]
  have a : x % 2 = 0 ∨ x % 2 = 1 := by omega
  have b : y % 2 = 0 ∨ y % 2 = 1 := by omega
  generalize Builtin.bitOr x y = p at *
  generalize Builtin.bitAnd x y = q at *
  rcases a with a | a <;> rcases b with b | b <;> simp [a, b] at a2 b2 ⊢ <;> omega
theorem TB_xor : ∀ (i : Nat) (x y : Int), TB (Builtin.bitXor x y) i = (TB x i ^^ TB y i)
  | 0, x, y => by
    rw [TB_zero, TB_zero, TB_zero, (xor_half x y).2]
    by_cases a : x % 2 = 1 <;> by_cases b : y % 2 = 1 <;> simp [a, b]
  | i + 1, x, y => by rw [TB_succ, TB_succ, TB_succ, (xor_half x y).1, TB_xor i]
theorem TB_ext : ∀ {n : Nat} {x y : Int}, 0 ≤ x → x < 2 ^ n → 0 ≤ y → y < 2 ^ n → (∀ i, i < n → TB x i = TB y i) → x = y
  | 0, x, y, h0, h1, g0, g1, _ => by rw [Int.pow_zero] at h1 g1; omega
  | n + 1, x, y, h0, h1, g0, g1, h => by
    have e : (2 : Int) ^ (n + 1) = 2 ^ n * 2 := Int.pow_succ _ _
    rw [e] at h1 g1
    have b0 := h 0 (Nat.succ_pos _)
    rw [TB_zero, TB_zero] at b0
    have ih := TB_ext (n := n) (x := x / 2) (y := y / 2) (by omega) (by omega) (by omega) (by omega) fun i hi => by rw [← TB_succ, ← TB_succ]; exact h (i + 1) (Nat.succ_lt_succ hi)
    have ex : x % 2 = 0 ∨ x % 2 = 1 := by omega
    have ey : y % 2 = 0 ∨ y % 2 = 1 := by omega
    have : (x % 2 = 1) ↔ (y % 2 = 1) := by simpa using b0
    omega
theorem nat_below (x : Int) (h : 0 ≤ x) : ∃ n : Nat, x < 2 ^ n := ⟨x.toNat, by
  rw [← cast_two_pow]
  have := Nat.lt_two_pow_self (n := x.toNat)
  omega⟩
theorem pow_mono {a b : Nat} (h : a ≤ b) : (2 : Int) ^ a ≤ 2 ^ b := by
  rw [← cast_two_pow, ← cast_two_pow]
  exact Int.ofNat_le.mpr (Nat.pow_le_pow_right (by decide) h)
theorem TB_ext' {x y : Int} (h0 : 0 ≤ x) (g0 : 0 ≤ y) (h : ∀ i, TB x i = TB y i) : x = y := by
  obtain ⟨n, hn⟩ := nat_below x h0
  obtain ⟨m, hm⟩ := nat_below y g0
  exact TB_ext (n := max n m) h0 (Int.lt_of_lt_of_le hn (pow_mono (Nat.le_max_left _ _))) g0 (Int.lt_of_lt_of_le hm (pow_mono (Nat.le_max_right _ _))) fun i _ => h i
theorem TB_high {x : Int} {n i : Nat} (h0 : 0 ≤ x) (h1 : x < 2 ^ n) (h : n ≤ i) : TB x i = false := by
  unfold TB
  rw [Int.ediv_eq_zero_of_lt h0 (Int.lt_of_lt_of_le h1 (pow_mono h))]
  rfl
theorem TB_lt : ∀ {n : Nat} {x : Int}, 0 ≤ x → (∀ i, n ≤ i → TB x i = false) → x < 2 ^ n
  | 0, x, h0, h => by
    have : x = 0 := TB_ext' h0 (by decide) fun i => by rw [h i (Nat.zero_le _), TB_high (n := 0) (by decide) (by decide) (Nat.zero_le _)]
    rw [this, Int.pow_zero]
    decide
  | n + 1, x, h0, h => by
    have ih := TB_lt (n := n) (x := x / 2) (by omega) fun i hi => by rw [← TB_succ]; exact h (i + 1) (Nat.succ_le_succ hi)
    have e : (2 : Int) ^ (n + 1) = 2 ^ n * 2 := Int.pow_succ _ _
    omega
theorem and_nn {x y : Int} (h : 0 ≤ x ∨ 0 ≤ y) : 0 ≤ Builtin.bitAnd x y := by
  unfold Builtin.bitAnd
  by_cases a : 0 ≤ x <;> by_cases b : 0 ≤ y
  · simp [a, b]
  · simp only [a, b, decide_true, decide_false]
    have := Nat.and_le_left (n := x.toNat) (m := (Builtin.bitNot y).toNat)
    omega
  · simp only [a, b, decide_true, decide_false]
    have := Nat.and_le_left (n := y.toNat) (m := (Builtin.bitNot x).toNat)
    omega
  · exact absurd h (by simp [a, b])
theorem and_neg {x y : Int} (h : x < 0 ∧ y < 0) : Builtin.bitAnd x y < 0 := by
  unfold Builtin.bitAnd
  have a : ¬ 0 ≤ x := by omega
  have b : ¬ 0 ≤ y := by omega
  simp only [a, b, decide_false]
  show -(((Builtin.bitNot x).toNat ||| (Builtin.bitNot y).toNat : Nat) : Int) - 1 < 0
  omega
theorem or_nn {x y : Int} (h0 : 0 ≤ x) (h1 : 0 ≤ y) : 0 ≤ Builtin.bitOr x y := by
  rw [or_eq]
  have := and_neg (x := Builtin.bitNot x) (y := Builtin.bitNot y) ⟨by show -x - 1 < 0; omega, by show -y - 1 < 0; omega⟩
  show 0 ≤ -(Builtin.bitAnd (Builtin.bitNot x) (Builtin.bitNot y)) - 1
  omega
theorem or_le {x y : Int} {n : Nat} (h0 : 0 ≤ x) (h1 : 0 ≤ y) (hx : x < 2 ^ n) (hy : y < 2 ^ n) : Builtin.bitOr x y < 2 ^ n := TB_lt (or_nn h0 h1) fun i hi => by rw [TB_or, TB_high h0 hx hi, TB_high h1 hy hi]; rfl
theorem and_lt {x y : Int} {n : Nat} (h0 : 0 ≤ x) (hx : x < 2 ^ n) : Builtin.bitAnd x y < 2 ^ n := TB_lt (and_nn (.inl h0)) fun i hi => by rw [TB_and, TB_high h0 hx hi]; rfl
theorem xor_nn {x y : Int} (h0 : 0 ≤ x) (h1 : 0 ≤ y) : 0 ≤ Builtin.bitXor x y := by
  rw [xor_eq]
  have h : ∀ (n : Nat) (x y : Int), 0 ≤ x → 0 ≤ y → x < 2 ^ n → y < 2 ^ n → Builtin.bitAnd x y ≤ Builtin.bitOr x y := by
    intro n
    induction n with
    | zero =>
      intro x y a b c d
      rw [Int.pow_zero] at c d
      have e1 : x = 0 := by omega
      have e2 : y = 0 := by omega
      subst e1 e2
      decide
    | succ n ih =>
      intro x y a b c d
      have e : (2 : Int) ^ (n + 1) = 2 ^ n * 2 := Int.pow_succ _ _
      have := ih (x / 2) (y / 2) (by omega) (by omega) (by omega) (by omega)
      obtain ⟨a1, a2⟩ := or_half x y
      obtain ⟨b1, b2⟩ := and_half x y
      rw [← a1, ← b1] at this
      generalize Builtin.bitOr x y = p at *
      generalize Builtin.bitAnd x y = q at *
      split at b2
      · rename_i z
        rw [if_pos (.inl z.1)] at a2
        omega
      · split at a2 <;> omega
  obtain ⟨n, hn⟩ := nat_below x h0
  obtain ⟨m, hm⟩ := nat_below y h1
  have := h (max n m) x y h0 h1 (Int.lt_of_lt_of_le hn (pow_mono (Nat.le_max_left _ _))) (Int.lt_of_lt_of_le hm (pow_mono (Nat.le_max_right _ _)))
  omega
theorem TB_zero_all (i : Nat) : TB 0 i = false := TB_high (n := 0) (by decide) (by decide) (Nat.zero_le _)
theorem TB_ones (n i : Nat) : TB (2 ^ n - 1) i = decide (i < n) := by
  have hp := two_pow_pos n
  have e : Builtin.bitAnd (2 ^ n - 1) (2 ^ n - 1) = 2 ^ n - 1 := by
    rw [bitAnd_mask, Int.emod_eq_of_lt (by omega) (by omega)]
  by_cases h : i < n
  · rw [decide_eq_true h]
    unfold TB
    refine decide_eq_true ?_
    have e2 : (2 : Int) ^ n = 2 ^ i * (2 ^ (n - i - 1) * 2) := by
      rw [← Int.pow_succ, ← Int.pow_add]
      congr 1
      omega
    have hq := two_pow_pos i
    have e3 : (2 : Int) ^ n - 1 = 2 ^ i * (2 ^ (n - i - 1) * 2 - 1) + (2 ^ i - 1) := by
      rw [Int.mul_sub, ← e2]
      omega
    rw [e3, Int.add_comm, Int.add_mul_ediv_left _ _ (by omega), Int.ediv_eq_zero_of_lt (by omega) (by omega)]
    omega
  · rw [decide_eq_false h]
    exact TB_high (by omega) (by omega : (2 : Int) ^ n - 1 < 2 ^ n) (by omega)
theorem TB_pow (n i : Nat) : TB (2 ^ n) i = decide (i = n) := by
  have hp := two_pow_pos n
  have h1 := TB_ones n i
  have h2 := TB_ones (n + 1) i
  have hx : TB (Builtin.bitXor (2 ^ (n + 1) - 1) (2 ^ n - 1)) i = decide (i = n) := by
    rw [TB_xor, h1, h2]
    by_cases a : i < n
    · simp [a, show i < n + 1 by omega, show i ≠ n by omega]
    · by_cases b : i = n
      · simp [b]
      · simp [a, b, show ¬ i < n + 1 by omega]
  rw [← hx]
  congr 1
  rw [xor_eq]
  have e1 : Builtin.bitAnd (2 ^ (n + 1) - 1) (2 ^ n - 1) = 2 ^ n - 1 := by
    rw [bitAnd_mask, Int.pow_succ]
    have : (2 : Int) ^ n * 2 - 1 = (2 ^ n - 1) + 2 ^ n * 1 := by omega
    rw [this, Int.add_mul_emod_self_left, Int.emod_eq_of_lt (by omega) (by omega)]
  have e2 : Builtin.bitOr (2 ^ (n + 1) - 1) (2 ^ n - 1) = 2 ^ (n + 1) - 1 := by
    have hq := two_pow_pos (n + 1)
    refine TB_ext' (or_nn (by omega) (by omega)) (by omega) fun j => ?_
    rw [TB_or, TB_ones, TB_ones]
    by_cases a : j < n
    · simp [a, show j < n + 1 by omega]
    · simp [a]
  rw [e1, e2, Int.pow_succ]
  omega

/-! ## which splits imply others -/
def IR (x y : List Int × Int) : Bool := if (decide (x.2 = y.2) && (y.1.map fun z => decide (z ∈ x.1)).all id) = true then true else decide (y.1 = [x.2]) && decide (y.2 ∈ x.1)
theorem implies_ok {x y : List Int × Int} : m_implies x y = some (IR x y) := by
  unfold m_implies IR
  show (bif (decide (x.2 = y.2) && (y.1.map fun z => decide (z ∈ x.1)).all id) then (some true : Option Bool) else some _) = _
  cases (decide (x.2 = y.2) && (y.1.map fun z => decide (z ∈ x.1)).all id) <;> rfl
theorem IR_mk1 {x y : List Int × Int} {v : List Int} (hx : x.1 ≠ []) (hy : y.1 ≠ []) (h : IR x y = true) (m : mk1 v x = true) : mk1 v y = true := by
  obtain ⟨c, a, b⟩ := (mk1_iff hx).mp m
  rw [mk1_iff hy]
  unfold IR at h
  split at h
  · rename_i hc
    rw [Bool.and_eq_true, List.all_map, List.all_eq_true] at hc
    have c1 := of_decide_eq_true hc.1
    exact ⟨c, fun z hz => a z (by have := hc.2 z hz; simpa using this), by rw [← c1]; exact b⟩
  · rw [Bool.and_eq_true] at h
    have h1 := of_decide_eq_true h.1
    have h2 := of_decide_eq_true h.2
    refine ⟨gv v x.2, fun z hz => ?_, ?_⟩
    · rw [h1] at hz
      rw [List.mem_singleton.mp hz]
    · rw [a _ h2]; exact Ne.symm b

/-! ## reduced splits -/
theorem IR_iff {x y : List Int × Int} : IR x y = true ↔ (x.2 = y.2 ∧ ∀ z ∈ y.1, z ∈ x.1) ∨ (y.1 = [x.2] ∧ y.2 ∈ x.1) := by
  have e1 : (decide (x.2 = y.2) && (y.1.map fun z => decide (z ∈ x.1)).all id) = true ↔ x.2 = y.2 ∧ ∀ z ∈ y.1, z ∈ x.1 := by
    rw [Bool.and_eq_true, List.all_map, List.all_eq_true]
    constructor
    · rintro ⟨a, b⟩; exact ⟨of_decide_eq_true a, fun z hz => by have := b z hz; simpa using this⟩
    · rintro ⟨a, b⟩; exact ⟨decide_eq_true a, fun z hz => by have := b z hz; simpa using this⟩
  unfold IR
  split
  · rename_i h; exact ⟨fun _ => .inl (e1.mp h), fun _ => rfl⟩
  · rename_i h
    rw [Bool.and_eq_true, decide_eq_true_eq, decide_eq_true_eq]
    exact ⟨.inr, fun z => z.resolve_left fun z => h (e1.mpr z)⟩
theorem IR_refl (x : List Int × Int) : IR x x = true := IR_iff.mpr (.inl ⟨rfl, fun _ h => h⟩)
theorem IR_trans {n : Int} {x y z : List Int × Int} (hz : SplOk n z) (h1 : IR x y = true) (h2 : IR y z = true) : IR x z = true := by
  rw [IR_iff] at h1 h2 ⊢
  rcases h1 with ⟨a1, a2⟩ | ⟨a1, a2⟩
  · rcases h2 with ⟨b1, b2⟩ | ⟨b1, b2⟩
    · exact .inl ⟨a1.trans b1, fun u hu => a2 u (b2 u hu)⟩
    · exact .inr ⟨by rw [b1, a1], a2 _ b2⟩
  · rcases h2 with ⟨b1, b2⟩ | ⟨b1, b2⟩
    · refine .inr ⟨?_, by rw [← b1]; exact a2⟩
      obtain ⟨⟨⟨z1, _, z3⟩, _⟩, _⟩ := hz
      have k : ∀ u ∈ z.1, u = x.2 := fun u hu => by
        have := b2 u hu
        rw [a1] at this
        exact List.mem_singleton.mp this
      match h : z.1, z1, k, z3 with
      | [], e, _, _ => exact absurd rfl e
      | [u], _, k, _ => rw [k u (by simp)]
      | u :: w :: r, _, k, nd =>
        have := k u (by simp)
        have := k w (by simp)
        simp at nd
        omega
    · rw [a1] at b2
      have e := List.mem_singleton.mp b2
      exact .inl ⟨e.symm, fun u hu => by rw [b1] at hu; rw [List.mem_singleton.mp hu]; exact a2⟩
def LT (x y : List Int × Int) : Bool := ltK (kSplit.k x) (kSplit.k y)
theorem LT_irr (x : List Int × Int) : LT x x = false := ltK_irr _
theorem LT_asym {x y : List Int × Int} (h : LT x y = true) : LT y x = false := ltK_asym _ _ h
theorem LT_tr {x y z : List Int × Int} (h : LT x y = true) (h2 : LT y z = true) : LT x z = true := ltK_tr _ _ _ h h2
/-- x stands for y -/
def ST (x y : List Int × Int) : Bool := !decide (x = y) && (IR x y && (LT x y || !IR y x))
theorem is_stronger_ok {x y : List Int × Int} : m_is_stronger x y = some (ST x y) := by
  unfold m_is_stronger ST
  rw [implies_ok, implies_ok]
  show (bind ((bif !decide (x = y) then _ else _ : Option Bool)) fun t7 : Bool => (some t7 : Option Bool)) = _
  cases decide (x = y) with
  | true => rfl
  | false =>
    show (bind (bind (some (IR x y)) fun r1 => (bind ((bif r1 then (bind ((bif ltK (kSplit.k x) (kSplit.k y) then some true else (bind (some (IR y x)) fun r2 => some (!r2)) : Option Bool)) fun t3 => some t3) else some false : Option Bool)) fun t5 => some t5)) fun t7 : Bool => (some t7 : Option Bool)) = _
    unfold LT
    cases IR x y <;> cases ltK (kSplit.k x) (kSplit.k y) <;> rfl
theorem ST_iff {x y : List Int × Int} : ST x y = true ↔ x ≠ y ∧ IR x y = true ∧ (LT x y = true ∨ IR y x = false) := by
  unfold ST
  rw [Bool.and_eq_true, Bool.and_eq_true, Bool.or_eq_true, Bool.not_eq_true', Bool.not_eq_true', decide_eq_false_iff_not]
theorem ST_irr (x : List Int × Int) : ST x x = false := by
  unfold ST
  simp
theorem ST_trans {n : Int} {x y z : List Int × Int} (hx : SplOk n x) (hy : SplOk n y) (hz : SplOk n z) (h1 : ST x y = true) (h2 : ST y z = true) : ST x z = true := by
  rw [ST_iff] at h1 h2 ⊢
  obtain ⟨a1, a2, a3⟩ := h1
  obtain ⟨b1, b2, b3⟩ := h2
  have e : IR x z = true := IR_trans hz a2 b2
  have back : IR z x = true → LT x y = true ∧ LT y z = true := fun h => by
    have q1 : IR z y = true := IR_trans hy h a2
    have q2 : IR y x = true := IR_trans hx b2 h
    refine ⟨a3.resolve_right fun z => ?_, b3.resolve_right fun z => ?_⟩
    · rw [q2] at z; cases z
    · rw [q1] at z; cases z
  refine ⟨fun h => ?_, e, ?_⟩
  · subst h
    obtain ⟨c1, c2⟩ := back (IR_refl x)
    rw [LT_asym c1] at c2
    cases c2
  · cases h : IR z x with
    | false => exact .inr rfl
    | true => exact .inl (LT_tr (back h).1 (back h).2)
def RED (xs : List (List Int × Int)) : List (List Int × Int) := xs.filter fun s => !(xs.any fun o => ST o s)
theorem RED_mem {xs : List (List Int × Int)} {s : List Int × Int} : s ∈ RED xs ↔ s ∈ xs ∧ ∀ o ∈ xs, ST o s = false := by
  unfold RED
  rw [List.mem_filter, Bool.not_eq_true', List.any_eq_false]
  simp
theorem mapO_cond {α : Type} {f : α → Option (Option α)} {g : α → Bool} {xs : List α} (h : ∀ x ∈ xs, f x = some (if g x = true then some x else none)) : mapO f xs = some (xs.filter g) := by
  rw [mapO_some (g := fun x => if g x = true then some x else none) h]
  congr 1
  rw [← List.filterMap_eq_filter]
  congr 1
theorem reduced_ok {xs : List (List Int × Int)} : m_reduced xs = some (RED xs) := by
  unfold m_reduced
  rw [mapO_cond (g := fun s => !(xs.any fun o => ST o s)) fun s hs => ?_]
  · rfl
  · rw [mapO_map (g := fun o => ST o s) fun o ho => by rw [is_stronger_ok]; rfl]
    show (bif !((xs.map fun o => ST o s).any id) then (some (some s) : Option (Option (List Int × Int))) else some none) = _
    rw [List.any_map]
    show (bif !(xs.any fun o => ST o s) then (some (some s) : Option (Option (List Int × Int))) else some none) = _
    cases xs.any fun o => ST o s <;> rfl
theorem RED_RED (xs : List (List Int × Int)) : RED (RED xs) = RED xs := by
  show (RED xs).filter _ = RED xs
  rw [List.filter_eq_self]
  intro s hs
  rw [Bool.not_eq_true', List.any_eq_false]
  intro o ho
  have := (RED_mem.mp hs).2 o (RED_mem.mp ho).1
  rw [this]
  exact Bool.false_ne_true
theorem filter_lt {α : Type} {p q : α → Bool} {xs : List α} {a : α} (ha : a ∈ xs) (h1 : p a = true) (h2 : q a = false) (h : ∀ x ∈ xs, q x = true → p x = true) : (xs.filter q).length < (xs.filter p).length := by
  induction xs with
  | nil => cases ha
  | cons x xs ih =>
    have le : (xs.filter q).length ≤ (xs.filter p).length := by
      clear ih ha
      have h' : ∀ y ∈ xs, q y = true → p y = true := fun y hy => h y (List.mem_cons_of_mem _ hy)
      clear h
      induction xs with
      | nil => exact Nat.le_refl _
      | cons y ys ih =>
        have := ih fun z hz => h' z (List.mem_cons_of_mem _ hz)
        have hy := h' y List.mem_cons_self
        rw [List.filter_cons, List.filter_cons]
        cases hq : q y with
        | true => rw [hy hq, if_pos rfl, if_pos rfl]; simpa using this
        | false =>
          rw [if_neg Bool.false_ne_true]
          split <;> simp <;> omega
    rcases List.mem_cons.mp ha with e | e
    · subst e
      rw [List.filter_cons, List.filter_cons, h1, h2, if_pos rfl, if_neg Bool.false_ne_true, List.length_cons]
      omega
    · have := ih e fun y hy => h y (List.mem_cons_of_mem _ hy)
      have hx := h x List.mem_cons_self
      rw [List.filter_cons, List.filter_cons]
      cases hq : q x with
      | true => rw [hx hq, if_pos rfl, if_pos rfl]; simpa using this
      | false =>
        rw [if_neg Bool.false_ne_true]
        split <;> simp <;> omega
/-- each split is implied by one that stays -/
theorem RED_above {n : Int} {xs : List (List Int × Int)} (hx : ∀ s ∈ xs, SplOk n s) : ∀ (m : Nat) (s : List Int × Int), s ∈ xs → (xs.filter fun o => ST o s).length ≤ m → ∃ o ∈ RED xs, IR o s = true
  | m, s, hs, hm => by
    by_cases c : ∃ o ∈ xs, ST o s = true
    · obtain ⟨o, ho, e⟩ := c
      have lt : (xs.filter fun z => ST z o).length < (xs.filter fun z => ST z s).length := filter_lt (a := o) ho e (ST_irr o) fun z hz h => ST_trans (hx z hz) (hx o ho) (hx s hs) h e
      match m, hm with
      | 0, hm => omega
      | m + 1, hm =>
        obtain ⟨r, hr, er⟩ := RED_above hx m o ho (by omega)
        exact ⟨r, hr, IR_trans (hx s hs) er (ST_iff.mp e).2.1⟩
    · refine ⟨s, RED_mem.mpr ⟨hs, fun o ho => ?_⟩, IR_refl s⟩
      cases h : ST o s with
      | false => rfl
      | true => exact absurd ⟨o, ho, h⟩ c
theorem RED_covers {n : Int} {xs : List (List Int × Int)} (hx : ∀ s ∈ xs, SplOk n s) {s : List Int × Int} (hs : s ∈ xs) : ∃ o ∈ RED xs, IR o s = true := RED_above hx _ s hs (Nat.le_refl _)

theorem mapO_pick {α γ : Type} {f : α → Option (Option γ)} {p : α → Bool} {g : α → γ} : ∀ {xs : List α}, (∀ x ∈ xs, f x = some (if p x = true then some (g x) else none)) → mapO f xs = some ((xs.filter p).map g)
  | [], _ => rfl
  | x :: xs, h => by
    unfold mapO
    rw [h x List.mem_cons_self, mapO_pick (xs := xs) fun y hy => h y (List.mem_cons_of_mem _ hy)]
    cases e : p x with
    | true => rw [if_pos rfl, List.filter_cons_of_pos e]; rfl
    | false => rw [if_neg Bool.false_ne_true, List.filter_cons_of_neg (by rw [e]; exact Bool.false_ne_true)]

theorem cut_to {α : Type} {xs : List α} {i : Int} (h : 0 ≤ i) : cutL xs none (some i) = xs.take i.toNat := by
  obtain ⟨m, rfl⟩ := Int.eq_ofNat_of_zero_le h
  unfold cutL
  rw [HT.sIx_none, HT.sIx_nat, List.drop_zero, Nat.sub_zero, Int.toNat_natCast]
  rcases Nat.le_total m xs.length with h | h
  · rw [Nat.min_eq_left h]
  · rw [Nat.min_eq_right h, List.take_of_length_le (Nat.le_refl _), List.take_of_length_le h]

/-! ## what a bit makes, by the law -/
theorem bit_makes_ok {ns : List Int} {s : List Int × Int} (f : Fits ns s) : m_l_bit_makes ns s = some (mk1 ns s) := by
  obtain ⟨f1, f2, f3, f4⟩ := f
  obtain ⟨e0, m0⟩ := first_at f1
  unfold m_l_bit_makes
  rw [mapO_map (g := fun x => decide (gv ns x = gv ns (gv s.1 0)) && !decide (gv ns x = gv ns s.2)) fun x hx => ?_]
  · show some ((List.map _ s.1).all id) = _
    rw [List.all_map]
    rfl
  · obtain ⟨a, b⟩ := f2 x hx
    obtain ⟨c, d⟩ := f2 _ m0
    rw [at_gv a b, e0]
    show bind (atI ns (gv s.1 0)) _ = _
    rw [at_gv c d, at_gv f3 f4]
    show (bind (bif decide (gv ns x = gv ns (gv s.1 0)) then (some (!decide (gv ns x = gv ns s.2)) : Option Bool) else some false) fun t8 : Bool => (some (some t8) : Option (Option Bool))) = _
    cases decide (gv ns x = gv ns (gv s.1 0)) <;> rfl

/-- the law asks a given number of times -/
theorem all_right {f : Cup → Int → Option (Option Bool × Cup)} {n : Int} {k : Cup} (h0 : 0 ≤ n) (h1 : n ≤ 100) (hk : CupOk k 0) (d : Int) (hd : 0 ≤ d ∧ d ≤ 5000) (hf : ∀ c x (N : Int), CupOk c N → N ≤ 600000 → Tot (f c x) fun r => r.1 = some true ∧ CupOk r.2 (N + d)) :
    Tot (lcO f (rangeI 0 n) k) fun r => r.1.all id = true := by
  have hb : ∀ j : Nat, (j : Int) < n → (j : Int) * d ≤ 100 * 5000 := fun j hj => Int.mul_le_mul (by omega) hd.2 hd.1 (by omega)
  refine (Tot.lc (I := fun i (acc : List Bool) c => acc.all id = true ∧ CupOk c ((i : Int) * d)) _ _ 0 [] ⟨rfl, by rw [show ((0 : Nat) : Int) * d = 0 from Int.zero_mul d]; exact hk⟩ fun j x b acc hx ⟨a1, a2⟩ => ?_).imp fun r h => ?_
  · obtain ⟨ex, hj⟩ := rangeI_get hx
    rw [Nat.zero_add] at a2 ⊢
    have := hb j (by omega)
    refine (hf b x _ a2 (by omega)).imp fun r ⟨e, c⟩ => ?_
    rw [e]
    refine ⟨by rw [List.all_append, a1]; rfl, ?_⟩
    rw [Int.natCast_add, Int.add_mul]
    show CupOk r.2 ((j : Int) * d + 1 * d)
    rw [Int.one_mul]
    exact c
  · simpa using h.1

/-! ## powers: how often each base occurs -/
def subs {α : Type} : List α → List (List α)
  | [] => [[]]
  | x :: xs => subs xs ++ (subs xs).map (x :: ·)
theorem mem_subs {α : Type} : ∀ {s l : List α}, s.Sublist l → s ∈ subs l
  | _, _, .slnil => List.mem_singleton.mpr rfl
  | _, _, .cons a h => List.mem_append_left _ (mem_subs h)
  | _, _, .cons₂ a h => List.mem_append_right _ (List.mem_map.mpr ⟨_, mem_subs h, rfl⟩)
theorem inj_of_nodup {α β : Type} {f : α → β} : ∀ {l : List α}, (l.map f).Nodup → ∀ a ∈ l, ∀ b ∈ l, f a = f b → a = b
  | [], _ => fun a h => nomatch h
  | x :: l, nd => by
    rw [List.map_cons] at nd
    obtain ⟨n1, n2⟩ := List.pairwise_cons.mp nd
    intro a ha b hb e
    rcases List.mem_cons.mp ha with ea | ha
    · rcases List.mem_cons.mp hb with eb | hb
      · rw [ea, eb]
      · rw [ea] at e
        exact absurd e (n1 _ (List.mem_map_of_mem hb))
    · rcases List.mem_cons.mp hb with eb | hb
      · rw [eb] at e
        exact absurd e.symm (n1 _ (List.mem_map_of_mem ha))
      · exact inj_of_nodup n2 a ha b hb e
abbrev kTT : KR (rTup (rTup rInt)) := kTup (kTup kInt)
/-- the rows of so many kinds -/
def ABL (n : Nat) : List (List Int) := (m_all_bits (n : Int)).getD []
structure ABok (n : Nat) : Prop where
  all : m_all_bits (n : Int) = some (ABL n)
  len : 2 * (ABL n).length = 2 ^ n
  row : ∀ v ∈ ABL n, v.length = n
  few : (ABL n).length ≤ 8
  apart : ((subs (ABL n)).map fun s => keyH (kTT.nk s)).Nodup
theorem ab1 : ABok 1 := ⟨by decide +kernel, by decide +kernel, by decide +kernel, by decide +kernel, by decide +kernel⟩
theorem ab2 : ABok 2 := ⟨by decide +kernel, by decide +kernel, by decide +kernel, by decide +kernel, by decide +kernel⟩
theorem ab3 : ABok 3 := ⟨by decide +kernel, by decide +kernel, by decide +kernel, by decide +kernel, by decide +kernel⟩
theorem ab4 : ABok 4 := ⟨by decide +kernel, by decide +kernel, by decide +kernel, by decide +kernel, by decide +kernel⟩
theorem ab_ok {n : Nat} (h1 : 1 ≤ n) (h4 : n ≤ 4) : ABok n := by
  match n, h1, h4 with
  | 1, _, _ => exact ab1
  | 2, _, _ => exact ab2
  | 3, _, _ => exact ab3
  | 4, _, _ => exact ab4
/-- the signs so far: keys are parts of the rows, unlike; few; values below M -/
structure SgOk (B : List (List Int)) (L M : Nat) (sg : List (List (List Int) × Int)) : Prop where
  len : sg.length ≤ L
  nd : (sg.map (·.1)).Nodup
  sub : ∀ p ∈ sg, p.1.Sublist B
  low : ∀ p ∈ sg, p.2.natAbs ≤ M
theorem put_mem {κ α : Type} [DecidableEq κ] {xs : List (κ × α)} {k : κ} {x : α} {p : κ × α} (h : p ∈ putNN xs k x) : p = (k, x) ∨ p ∈ xs := by
  unfold putNN at h
  split at h
  · obtain ⟨q, hq, e⟩ := List.mem_map.mp h
    by_cases c : q.1 = k
    · rw [if_pos c] at e
      exact .inl (by rw [← e, c])
    · rw [if_neg c] at e
      exact .inr (by rw [← e]; exact hq)
  · rcases List.mem_append.mp h with z | z
    · exact .inr z
    · exact .inl (List.mem_singleton.mp z)
theorem got_mem {κ α : Type} [DecidableEq κ] {xs : List (κ × α)} {k : κ} {x : α} (h : gotN xs k = some x) : (k, x) ∈ xs := by
  unfold gotN at h
  obtain ⟨p, hp, e⟩ := Option.map_eq_some_iff.mp h
  have h1 := List.find?_some hp
  have h2 := List.mem_of_find?_eq_some hp
  have h1 := of_decide_eq_true h1
  rw [← h1, ← e]
  exact h2
theorem SgOk.put {B : List (List Int)} {L M N : Nat} {sg : List (List (List Int) × Int)} (h : SgOk B L M sg) {k : List (List Int)} {x : Int} (hk : k.Sublist B) (hx : x.natAbs ≤ N) : SgOk B (L + 1) (M + N) (putNN sg k ((gotN sg k).getD 0 - x)) := by
  have hv : ((gotN sg k).getD 0 - x).natAbs ≤ M + N := by
    cases e : gotN sg k with
    | none => show ((0 : Int) - x).natAbs ≤ _; omega
    | some y =>
      have := h.low _ (got_mem e)
      show (y - x).natAbs ≤ _
      have : y.natAbs ≤ M := this
      omega
  refine ⟨Nat.le_trans (len_putNN _ _ _) (Nat.succ_le_succ h.len), nodup_putNN h.nd, fun p hp => ?_, fun p hp => ?_⟩
  · rcases put_mem hp with e | hp
    · rw [e]; exact hk
    · exact h.sub p hp
  · rcases put_mem hp with e | hp
    · rw [e]; exact hv
    · exact Nat.le_trans (h.low p hp) (Nat.le_add_right _ _)
theorem copy_ok {n : Nat} (ab : ABok n) {L M : Nat} {sg : List (List (List Int) × Int)} (h : SgOk (ABL n) L M sg) : oCopyN kTT sg = some sg := by
  refine if_pos ?_
  have e : (sg.map fun x => keyH (kTT.nk x.1)) = (sg.map (·.1)).map fun s => keyH (kTT.nk s) := by rw [List.map_map]; rfl
  rw [e]
  have inj := inj_of_nodup ab.apart
  have hm : ∀ a ∈ sg.map (·.1), a ∈ subs (ABL n) := fun a ha => by
    obtain ⟨p, hp, e⟩ := List.mem_map.mp ha
    rw [← e]
    exact mem_subs (h.sub p hp)
  exact List.pairwise_map.mpr (List.Pairwise.imp_of_mem (fun {a b} ha hb ne e => ne (inj a (hm a ha) b (hm b hb) e)) h.nd)
theorem step_arith {j : Nat} (hj : j < 5) {l : Nat} (hl : l ≤ 2 ^ j) : l + l ≤ 2 ^ (j + 1) ∧ 33 ^ j + l * 33 ^ j ≤ 33 ^ (j + 1) := by
  have p : 2 ^ j ≤ 32 := Nat.le_trans (Nat.pow_le_pow_right (by decide) (Nat.le_of_lt_succ (Nat.lt_succ_of_lt hj))) (by decide)
  have m : l * 33 ^ j ≤ 32 * 33 ^ j := Nat.mul_le_mul_right _ (by omega)
  rw [Nat.pow_succ, Nat.pow_succ]
  omega
theorem signs_ok {n : Nat} (ab : ABok n) {l : List (List Int × Int)} (hs : ∀ s ∈ l, SplOk (n : Int) s) (hl : l.length ≤ 5) :
    Tot (foldO (fun (b5 : ((List ((List (List Int)) × Int)))) (x4 : ((List Int) × Int)) => (((bind (oCopyN (kTup (kTup kInt)) b5) fun d6 => (bind (foldO (fun (b9 : ((List ((List (List Int)) × Int)))) (x8 : ((List (List Int)) × Int)) => (((bind (mapO (fun (x10 : (List Int)) => (((bind (m_made_by x10 x4) fun r12 => (bif (!r12) then (pure (some x10)) else pure none))) : Option (Option (List Int)))) x8.1) fun t14 => (bind (oPutN b9 t14 (((gotN b9 t14).getD (0 : Int)) - x8.2)) fun l15 => pure (l15)))) : Option ((List ((List (List Int)) × Int))))) b5 (d6)) fun o16 => pure (o16)))) : Option ((List ((List (List Int)) × Int))))) l (([(ABL n, (1 : Int))] : (List ((List (List Int)) × Int)))))
      (SgOk (ABL n) (2 ^ l.length) (33 ^ l.length)) := by
  refine (Tot.fold (I := fun j sg => SgOk (ABL n) (2 ^ j) (33 ^ j) sg) _ _ 0 ⟨Nat.le_refl _, by simp, fun p hp => ?_, fun p hp => ?_⟩ fun j x sg hj hI => ?_).imp fun sg h => by rw [Nat.zero_add] at h; exact h
  · rw [List.mem_singleton.mp hp]; exact List.Sublist.refl _
  · rw [List.mem_singleton.mp hp]; exact Nat.le_refl _
  rw [Nat.zero_add] at hI ⊢
  have hjl := (List.getElem?_eq_some_iff.mp hj).1
  have hx := hs x (List.mem_of_getElem? hj)
  refine Tot.bind (P := (· = sg)) (Tot.of (copy_ok ab hI) rfl) fun d6 e => ?_
  subst e
  refine Tot.bind (Tot.fold (I := fun i lt => SgOk (ABL n) (d6.length + i) (33 ^ j + i * 33 ^ j) lt) _ _ 0 ⟨Nat.le_refl _, hI.nd, hI.sub, fun p hp => Nat.le_trans (hI.low p hp) (Nat.le_add_right _ _)⟩ fun i y lt hi hl2 => ?_) fun o16 ho => Tot.ret ?_
  · rw [Nat.zero_add] at hl2 ⊢
    have hy := List.mem_of_getElem? hi
    have hsub := hI.sub y hy
    have hil := (List.getElem?_eq_some_iff.mp hi).1
    refine Tot.bind (P := (· = y.1.filter fun v => !mk1 v x)) (Tot.of (mapO_cond (g := fun v => !mk1 v x) fun v hv => ?_) rfl) fun t14 e => ?_
    · rw [made_by_ok (hx.fits (by rw [ab.row v (hsub.subset hv)]))]
      show (bif (!mk1 v x) then _ else _) = _
      cases (!mk1 v x) <;> rfl
    subst e
    have fs : (y.1.filter fun v => !mk1 v x).Sublist (ABL n) := List.filter_sublist.trans hsub
    have hp := hl2.put fs (hI.low y hy)
    refine Tot.bind (P := fun r => SgOk (ABL n) (d6.length + (i + 1)) (33 ^ j + (i + 1) * 33 ^ j) r) (Tot.ite ?_ ?_) fun l15 h => Tot.ret h
    · have := hl2.len
      have p : 2 ^ j ≤ 32 := Nat.le_trans (Nat.pow_le_pow_right (by decide) (by omega : j ≤ 5)) (by decide)
      have := hI.len
      rw [sizeLine_eq]
      omega
    · have e : 33 ^ j + (i + 1) * 33 ^ j = 33 ^ j + i * 33 ^ j + 33 ^ j := by rw [Nat.add_mul, Nat.one_mul]; omega
      rw [e]
      exact hp
  · rw [Nat.zero_add] at ho
    obtain ⟨a1, a2⟩ := step_arith (j := j) (by omega) hI.len
    exact ⟨Nat.le_trans ho.len a1, ho.nd, ho.sub, fun p hp => Nat.le_trans (ho.low p hp) a2⟩
theorem tot_set {xs : List Int} {i x : Int} {P : List Int → Prop} (h0 : 0 ≤ i) (h1 : i < (xs.length : Int)) (p : P (xs.set i.toNat x)) : Tot (oSet xs i x) P := by
  have e : ixN xs.length i = some i.toNat := by
    unfold ixN
    split
    · rename_i h
      first
        | rfl
        | (congr 1; omega)
    · rename_i h
      exfalso
      omega
  refine ⟨_, ?_, p⟩
  unfold oSet
  rw [e]
theorem pow33 {j : Nat} (h : j ≤ 5) : 33 ^ j ≤ 39135393 := Nat.le_trans (Nat.pow_le_pow_right (by decide) h) (by decide)
theorem pow2 {j : Nat} (h : j ≤ 5) : 2 ^ j ≤ 32 := Nat.le_trans (Nat.pow_le_pow_right (by decide) h) (by decide)
theorem powers_ok {n : Nat} (h1 : 1 ≤ n) (h4 : n ≤ 4) {l : List (List Int × Int)} (hs : ∀ s ∈ l, SplOk (n : Int) s) (hl : l.length ≤ 5) : ∃ ps, m_powers (n : Int) l = some ps ∧ ps.length ≤ 17 ∧ ∀ x ∈ ps, x.natAbs ≤ 1252332576 := by
  have ab := ab_ok h1 h4
  have rl : (RED l).length ≤ 5 := Nat.le_trans (List.length_filter_le _ _) hl
  have t : Tot (m_powers (n : Int) l) fun ps => ps.length ≤ 17 ∧ ∀ x ∈ ps, x.natAbs ≤ 1252332576 := by
    unfold m_powers
    refine Tot.cond (fun c => absurd (of_decide_eq_true c) (by omega)) fun _ => ?_
    refine Tot.bind (P := (· = ABL n)) (Tot.of ab.all rfl) fun r2 e => ?_
    subst e
    refine Tot.bind (P := (· = RED l)) (Tot.of reduced_ok rfl) fun r3 e => ?_
    subst e
    refine Tot.bind (signs_ok ab (fun s h => hs s (RED_mem.mp h).1) rl) fun sg hsg => ?_
    refine Tot.bind (P := (· = (2 : Int) ^ n)) (tot_shl (by omega) (by omega) (sml64 (by decide) (by decide)) (by rw [Int.one_mul, Int.toNat_natCast])) fun t20 e => ?_
    subst e
    have p16 : (2 : Int) ^ n ≤ 16 := by
      have : (2 : Int) ^ n ≤ 2 ^ 4 := two_pow_le h4
      have : (2 : Int) ^ 4 = 16 := by decide
      omega
    have p0 := two_pow_pos n
    refine Tot.bind (P := fun t21 : List Int => t21.length = 2 ^ n + 1 ∧ ∀ x ∈ t21, x = 0) (Tot.ite ⟨by omega, by omega, by simp⟩ ⟨?_, ?_⟩) fun t21 ⟨q1, q2⟩ => ?_
    · rw [len_rep]
      have := cast_two_pow n
      show ((2 : Int) ^ n + 1).toNat * 1 = _
      omega
    · intro x hx
      obtain ⟨r, hr, hx⟩ := List.mem_flatten.mp hx
      rw [(List.mem_replicate.mp hr).2] at hx
      exact List.mem_singleton.mp hx
    refine Tot.bind (Tot.fold (I := fun i (f : List Int) => f.length = 2 ^ n + 1 ∧ ∀ x ∈ f, x.natAbs ≤ i * 39135393) _ _ 0 ⟨q1, fun x hx => by rw [q2 x hx]; exact Nat.zero_le _⟩ fun i p f hi ⟨i1, i2⟩ => ?_) fun o28 ⟨o1, o2⟩ => Tot.ret ?_
    · rw [Nat.zero_add] at i2 ⊢
      have hp := List.mem_of_getElem? hi
      have sl := (hsg.sub p hp).length_le
      have lw := Nat.le_trans (hsg.low p hp) (pow33 rl)
      have b8 := ab.few
      have bl := ab.len
      refine Tot.bind (P := (· = 2 * (p.1.length : Int))) (tot_mul (sml64 (by decide) (by decide)) (sml64 (by omega) (by omega)) rfl) fun t24 e => ?_
      subst e
      refine Tot.bind (P := fun _ => True) (Tot.ite (by omega) trivial) fun _ _ => ?_
      have ix : (2 * (p.1.length : Int)).toNat < f.length := by omega
      refine Tot.bind (at_int (P := fun x => x ∈ f) (by omega) (by omega) fun x hx => List.mem_of_getElem? hx) fun t26 h26 => ?_
      refine Tot.bind (P := (· = f.set (2 * (p.1.length : Int)).toNat (t26 + p.2))) (tot_set (by omega) (by omega) rfl) fun l27 e => Tot.ret ?_
      subst e
      refine ⟨by rw [List.length_set]; exact i1, fun x hx => ?_⟩
      rw [Nat.add_mul, Nat.one_mul]
      rcases List.mem_or_eq_of_mem_set hx with z | z
      · exact Nat.le_trans (i2 x z) (Nat.le_add_right _ _)
      · have := i2 t26 h26
        rw [z]
        omega
    · rw [Nat.zero_add] at o2
      refine ⟨?_, fun x hx => Nat.le_trans (o2 x hx) ?_⟩
      · rw [o1]
        have : (2 : Nat) ^ n ≤ 2 ^ 4 := Nat.pow_le_pow_right (by decide) h4
        omega
      · have := Nat.le_trans hsg.len (pow2 rl)
        have : sg.length * 39135393 ≤ 32 * 39135393 := Nat.mul_le_mul_right _ this
        omega
  obtain ⟨ps, e, h⟩ := t
  exact ⟨ps, e, h⟩

/-! ## sums over all choices of a list's items, with signs -/
def W {α : Type} : (List α → Int) → List α → Int
  | φ, [] => φ []
  | φ, s :: l => W φ l - W (fun S => φ (s :: S)) l
theorem W_snoc {α : Type} (x : α) : ∀ (l : List α) (φ : List α → Int), W φ (l ++ [x]) = W φ l - W (fun S => φ (S ++ [x])) l
  | [], φ => rfl
  | s :: l, φ => by
    have a := W_snoc x l φ
    have b := W_snoc x l fun S => φ (s :: S)
    show W φ (l ++ [x]) - W (fun S => φ (s :: S)) (l ++ [x]) = (W φ l - W (fun S => φ (s :: S)) l) - (W (fun S => φ (S ++ [x])) l - W (fun S => φ ((s :: S) ++ [x])) l)
    rw [a, b]
    show _ - (W (fun S => φ (s :: S)) l - W (fun S => φ (s :: (S ++ [x]))) l) = _ - (_ - W (fun S => φ (s :: (S ++ [x]))) l)
    omega
/-- the order of the items does not matter -/
def Sym {α : Type} (φ : List α → Int) : Prop := ∀ (a : List α) (s : α) (b : List α), φ (a ++ s :: b) = φ (s :: (a ++ b))
theorem Sym.cons {α : Type} {φ : List α → Int} (h : Sym φ) (u : α) : Sym fun S => φ (u :: S) := fun a s b => by
  have e1 := h (u :: a) s b
  have e2 := h [u] s (a ++ b)
  show φ ((u :: a) ++ s :: b) = φ ([u] ++ s :: (a ++ b))
  rw [e1, e2]
  rfl
theorem W_mid {α : Type} {t : α} {b : List α} : ∀ (a : List α) {φ : List α → Int}, Sym φ → W φ (a ++ t :: b) = W φ (a ++ b) - W (fun S => φ (t :: S)) (a ++ b)
  | [], φ, _ => rfl
  | u :: a, φ, h => by
    have e1 := W_mid (t := t) (b := b) a h
    have e2 := W_mid (t := t) (b := b) a (h.cons u)
    show W φ (a ++ t :: b) - W (fun S => φ (u :: S)) (a ++ t :: b) = (W φ (a ++ b) - W (fun S => φ (u :: S)) (a ++ b)) - (W (fun S => φ (t :: S)) (a ++ b) - W (fun S => φ (t :: u :: S)) (a ++ b))
    have e3 : (fun S => φ (u :: t :: S)) = fun S => φ (t :: u :: S) := funext fun S => h [u] t S
    rw [e1, e2]
    show _ - (_ - W (fun S => φ (u :: t :: S)) (a ++ b)) = _
    rw [e3]
    omega
theorem W_vanish {α : Type} {ψ : List α → Int} (h : Sym ψ) {o : α} (ho : ∀ S, ψ (o :: S) = ψ S) {l : List α} (hl : o ∈ l) : W ψ l = 0 := by
  obtain ⟨a, b, e⟩ := List.append_of_mem hl
  rw [e, W_mid a h, show (fun S => ψ (o :: S)) = ψ from funext ho]
  omega
theorem W_drop {α : Type} {φ : List α → Int} (h : Sym φ) {t o : α} {a b : List α} (ho : ∀ S, φ (t :: o :: S) = φ (t :: S)) (hl : o ∈ a ++ b) : W φ (a ++ t :: b) = W φ (a ++ b) := by
  rw [W_mid a h, W_vanish (h.cons t) ho hl]
  omega
theorem W_keep {α : Type} {φ : List α → Int} (h : Sym φ) {p : α → Bool} : ∀ (l K : List α), (∀ t ∈ l, p t = false → ∃ o ∈ K ++ l, p o = true ∧ ∀ S, φ (t :: o :: S) = φ (t :: S)) → W φ (K ++ l) = W φ (K ++ l.filter p)
  | [], K, _ => rfl
  | t :: l, K, hd => by
    cases c : p t with
    | true =>
      have ih := W_keep h (p := p) l (K ++ [t]) fun u hu hp => by
        obtain ⟨o, ho, q⟩ := hd u (List.mem_cons_of_mem _ hu) hp
        exact ⟨o, by simpa using ho, q⟩
      rw [List.filter_cons, c]
      simpa using ih
    | false =>
      obtain ⟨o, ho, po, q⟩ := hd t List.mem_cons_self c
      have ne : o ≠ t := fun e => by rw [e, c] at po; cases po
      have ho2 : o ∈ K ++ l := by
        rcases List.mem_append.mp ho with z | z
        · exact List.mem_append_left _ z
        · rcases List.mem_cons.mp z with z | z
          · exact absurd z ne
          · exact List.mem_append_right _ z
      rw [W_drop h q ho2, List.filter_cons, c]
      refine W_keep h l K fun u hu hp => ?_
      obtain ⟨o', ho', po', q'⟩ := hd u (List.mem_cons_of_mem _ hu) hp
      refine ⟨o', ?_, po', q'⟩
      have ne' : o' ≠ t := fun e => by rw [e, c] at po'; cases po'
      rcases List.mem_append.mp ho' with z | z
      · exact List.mem_append_left _ z
      · rcases List.mem_cons.mp z with z | z
        · exact absurd z ne'
        · exact List.mem_append_right _ z
/-- the rows that none of the chosen makes -/
def left {α β : Type} (mk : α → β → Bool) (S : List α) (B : List β) : List β := B.filter fun v => !(S.any fun s => mk s v)
theorem left_snoc {α β : Type} {mk : α → β → Bool} {S : List α} {x : α} {B : List β} : left mk (S ++ [x]) B = (left mk S B).filter fun v => !mk x v := by
  unfold left
  rw [List.filter_filter]
  congr 1
  funext v
  rw [List.any_append, Bool.not_or, Bool.and_comm]
  simp
theorem left_sym {α β : Type} {mk : α → β → Bool} {B : List β} (f : List β → Int) : Sym fun S : List α => f (left mk S B) := fun a s b => by
  show f (left mk (a ++ s :: b) B) = f (left mk (s :: (a ++ b)) B)
  congr 1
  unfold left
  congr 1
  funext v
  simp only [List.any_append, List.any_cons]
  cases a.any (fun s => mk s v) <;> cases mk s v <;> cases b.any (fun s => mk s v) <;> rfl
theorem left_implied {α β : Type} {mk : α → β → Bool} {B : List β} {t o : α} (h : ∀ v ∈ B, mk o v = true → mk t v = true) (S : List α) : left mk (t :: o :: S) B = left mk (t :: S) B := by
  unfold left
  refine List.filter_congr fun v hv => ?_
  simp only [List.any_cons]
  cases c : mk o v with
  | false => rfl
  | true => rw [h v hv c]; rfl
/-- what a dict's values make of its keys -/
def E {κ : Type} (f : κ → Int) (sg : List (κ × Int)) : Int := (sg.map fun p => p.2 * f p.1).sum
theorem E_cons {κ : Type} (f : κ → Int) (p : κ × Int) (sg : List (κ × Int)) : E f (p :: sg) = p.2 * f p.1 + E f sg := by
  unfold E
  rw [List.map_cons, List.sum_cons]
theorem map_none {κ : Type} [DecidableEq κ] {k : κ} {z : Int} : ∀ {sg : List (κ × Int)}, k ∉ sg.map (·.1) → (sg.map fun p => if p.1 = k then (p.1, z) else p) = sg
  | [], _ => rfl
  | p :: sg, h => by
    rw [List.map_cons] at h
    have h1 : p.1 ≠ k := fun e => h (by rw [e]; exact List.mem_cons_self)
    rw [List.map_cons, if_neg h1, map_none fun hm => h (List.mem_cons_of_mem _ hm)]
theorem E_map {κ : Type} [DecidableEq κ] (f : κ → Int) {k : κ} {y d : Int} : ∀ {sg : List (κ × Int)}, (sg.map (·.1)).Nodup → gotN sg k = some y → E f (sg.map fun p => if p.1 = k then (p.1, y + d) else p) = E f sg + d * f k
  | [], _, h => by cases h
  | p :: sg, nd, h => by
    rw [List.map_cons] at nd
    obtain ⟨n1, n2⟩ := List.pairwise_cons.mp nd
    rw [List.map_cons, E_cons, E_cons]
    by_cases c : p.1 = k
    · have ep : p.2 = y := by
        unfold gotN at h
        rw [List.find?_cons, decide_eq_true c] at h
        exact Option.some.inj h
      rw [if_pos c, map_none fun hm => n1 k hm c, ep, c]
      show (y + d) * f k + E f sg = y * f k + E f sg + d * f k
      rw [Int.add_mul]
      omega
    · have hg : gotN sg k = some y := by
        unfold gotN at h ⊢
        rw [List.find?_cons, decide_eq_false c] at h
        exact h
      rw [if_neg c, E_map f n2 hg]
      omega
theorem E_put {κ : Type} [DecidableEq κ] (f : κ → Int) {k : κ} {d : Int} {sg : List (κ × Int)} (nd : (sg.map (·.1)).Nodup) : E f (putNN sg k ((gotN sg k).getD 0 + d)) = E f sg + d * f k := by
  cases h : gotN sg k with
  | none =>
    unfold putNN
    rw [h]
    show E f (sg ++ [(k, 0 + d)]) = _
    unfold E
    rw [List.map_append, List.sum_append, Int.zero_add]
    simp
  | some y =>
    unfold putNN
    rw [h]
    exact E_map f nd h

/-! ## powers: exactly -/
abbrev mkd (s : List Int × Int) (v : List Int) : Bool := mk1 v s
theorem pow7 {j : Nat} (hj : j < 7) {l : Nat} (hl : l ≤ 2 ^ j) : l + l ≤ 2 ^ (j + 1) ∧ 129 ^ j + l * 129 ^ j ≤ 129 ^ (j + 1) := by
  have p : 2 ^ j ≤ 64 := Nat.le_trans (Nat.pow_le_pow_right (by decide) (by omega : j ≤ 6)) (by decide)
  have m : l * 129 ^ j ≤ 64 * 129 ^ j := Nat.mul_le_mul_right _ (by omega)
  rw [Nat.pow_succ, Nat.pow_succ]
  omega
theorem E_snoc {κ : Type} (f : κ → Int) (p : κ × Int) (sg : List (κ × Int)) : E f (sg ++ [p]) = E f sg + p.2 * f p.1 := by
  unfold E
  rw [List.map_append, List.sum_append]
  simp
theorem taken {α : Type} {xs : List α} {j : Nat} {x : α} (h : xs[j]? = some x) : xs.take (j + 1) = xs.take j ++ [x] := by rw [List.take_add_one, h]; rfl
theorem signs_W {n : Nat} (ab : ABok n) {l : List (List Int × Int)} (hs : ∀ s ∈ l, SplOk (n : Int) s) (hl : l.length ≤ 7) :
    Tot (foldO (fun (b5 : ((List ((List (List Int)) × Int)))) (x4 : ((List Int) × Int)) => (((bind (oCopyN (kTup (kTup kInt)) b5) fun d6 => (bind (foldO (fun (b9 : ((List ((List (List Int)) × Int)))) (x8 : ((List (List Int)) × Int)) => (((bind (mapO (fun (x10 : (List Int)) => (((bind (m_made_by x10 x4) fun r12 => (bif (!r12) then (pure (some x10)) else pure none))) : Option (Option (List Int)))) x8.1) fun t14 => (bind (oPutN b9 t14 (((gotN b9 t14).getD (0 : Int)) - x8.2)) fun l15 => pure (l15)))) : Option ((List ((List (List Int)) × Int))))) b5 (d6)) fun o16 => pure (o16)))) : Option ((List ((List (List Int)) × Int))))) l (([(ABL n, (1 : Int))] : (List ((List (List Int)) × Int)))))
      fun sg => SgOk (ABL n) (2 ^ l.length) (129 ^ l.length) sg ∧ ∀ f : List (List Int) → Int, E f sg = W (fun S => f (left mkd S (ABL n))) l := by
  refine (Tot.fold (I := fun j sg => SgOk (ABL n) (2 ^ j) (129 ^ j) sg ∧ ∀ f : List (List Int) → Int, E f sg = W (fun S => f (left mkd S (ABL n))) (l.take j)) _ _ 0 ⟨⟨Nat.le_refl _, by simp, fun p hp => ?_, fun p hp => ?_⟩, fun f => ?_⟩ fun j x sg hj ⟨hI, hE⟩ => ?_).imp fun sg h => by rw [Nat.zero_add, List.take_length] at h; exact h
  · rw [List.mem_singleton.mp hp]; exact List.Sublist.refl _
  · rw [List.mem_singleton.mp hp]; exact Nat.le_refl _
  · show E f [(ABL n, 1)] = f (left mkd [] (ABL n))
    have e : left mkd [] (ABL n) = ABL n := List.filter_eq_self.mpr fun _ _ => rfl
    rw [e]
    unfold E
    simp
  rw [Nat.zero_add] at hI hE ⊢
  have hjl := (List.getElem?_eq_some_iff.mp hj).1
  have hx := hs x (List.mem_of_getElem? hj)
  refine Tot.bind (P := (· = sg)) (Tot.of (copy_ok ab hI) rfl) fun d6 e => ?_
  subst e
  refine Tot.bind (Tot.fold (I := fun i lt => SgOk (ABL n) (d6.length + i) (129 ^ j + i * 129 ^ j) lt ∧ ∀ f : List (List Int) → Int, E f lt = E f d6 - E (fun k => f (k.filter fun v => !mk1 v x)) (d6.take i)) _ _ 0 ⟨⟨Nat.le_refl _, hI.nd, hI.sub, fun p hp => Nat.le_trans (hI.low p hp) (Nat.le_add_right _ _)⟩, fun f => ?_⟩ fun i y lt hi ⟨hl2, hE2⟩ => ?_) fun o16 ⟨ho, hoE⟩ => Tot.ret ?_
  · show E f d6 = E f d6 - 0
    omega
  · rw [Nat.zero_add] at hl2 hE2 ⊢
    have hy := List.mem_of_getElem? hi
    have hsub := hI.sub y hy
    have hil := (List.getElem?_eq_some_iff.mp hi).1
    refine Tot.bind (P := (· = y.1.filter fun v => !mk1 v x)) (Tot.of (mapO_cond (g := fun v => !mk1 v x) fun v hv => ?_) rfl) fun t14 e => ?_
    · rw [made_by_ok (hx.fits (by rw [ab.row v (hsub.subset hv)]))]
      show (bif (!mk1 v x) then _ else _) = _
      cases (!mk1 v x) <;> rfl
    subst e
    have fs : (y.1.filter fun v => !mk1 v x).Sublist (ABL n) := List.filter_sublist.trans hsub
    have hp := hl2.put fs (hI.low y hy)
    refine Tot.bind (P := (· = putNN lt (y.1.filter fun v => !mk1 v x) ((gotN lt (y.1.filter fun v => !mk1 v x)).getD 0 - y.2))) (Tot.ite ?_ rfl) fun l15 e => Tot.ret ⟨?_, fun f => ?_⟩
    · have := hl2.len
      have p : 2 ^ j ≤ 128 := Nat.le_trans (Nat.pow_le_pow_right (by decide) (by omega : j ≤ 7)) (by decide)
      have := hI.len
      rw [sizeLine_eq]
      omega
    · have e2 : 129 ^ j + (i + 1) * 129 ^ j = 129 ^ j + i * 129 ^ j + 129 ^ j := by rw [Nat.add_mul, Nat.one_mul]; omega
      rw [e, e2]
      exact hp
    · have ep := E_put f (k := y.1.filter fun v => !mk1 v x) (d := -y.2) hl2.nd
      rw [← Int.sub_eq_add_neg] at ep
      rw [e, ep, hE2 f, taken hi, E_snoc, Int.neg_mul]
      omega
  · rw [Nat.zero_add] at ho
    rw [Nat.zero_add, List.take_length] at hoE
    obtain ⟨a1, a2⟩ := pow7 (j := j) (by omega) hI.len
    refine ⟨⟨Nat.le_trans ho.len a1, ho.nd, ho.sub, fun p hp => Nat.le_trans (ho.low p hp) a2⟩, fun f => ?_⟩
    rw [hoE f, taken hj, W_snoc, hE f, hE fun k => f (k.filter fun v => !mk1 v x)]
    congr 1
    congr 1
    funext S
    rw [left_snoc]
/-- so many rows are left -/
def chi (i : Nat) (k : List (List Int)) : Int := if 2 * k.length = i then 1 else 0
theorem lowpow {j : Nat} (h : j ≤ 7) : 129 ^ j ≤ 594467302491009 := Nat.le_trans (Nat.pow_le_pow_right (by decide) h) (by decide)
theorem twopow {j : Nat} (h : j ≤ 7) : 2 ^ j ≤ 128 := Nat.le_trans (Nat.pow_le_pow_right (by decide) h) (by decide)
theorem flat_ones (k : Nat) (x : Int) : (List.replicate k [x]).flatten = List.replicate k x := by
  induction k with
  | zero => rfl
  | succ k ih => rw [List.replicate_succ, List.replicate_succ, List.flatten_cons, ih]; rfl
theorem powers_W {n : Nat} (h1 : 1 ≤ n) (h4 : n ≤ 4) {l : List (List Int × Int)} (hs : ∀ s ∈ l, SplOk (n : Int) s) (hl : l.length ≤ 7) : ∃ ps, m_powers (n : Int) l = some ps ∧ ps.length = 2 ^ n + 1 ∧ (∀ x ∈ ps, x.natAbs ≤ 2 ^ 64) ∧
    ∀ i, i < 2 ^ n + 1 → ps[i]? = some (W (fun S => chi i (left mkd S (ABL n))) (RED l)) := by
  have ab := ab_ok h1 h4
  have rl : (RED l).length ≤ 7 := Nat.le_trans (List.length_filter_le _ _) hl
  have t : Tot (m_powers (n : Int) l) fun ps => ps.length = 2 ^ n + 1 ∧ (∀ x ∈ ps, x.natAbs ≤ 2 ^ 64) ∧ ∀ i, i < 2 ^ n + 1 → ps[i]? = some (W (fun S => chi i (left mkd S (ABL n))) (RED l)) := by
    unfold m_powers
    refine Tot.cond (fun c => absurd (of_decide_eq_true c) (by omega)) fun _ => ?_
    refine Tot.bind (P := (· = ABL n)) (Tot.of ab.all rfl) fun r2 e => ?_
    subst e
    refine Tot.bind (P := (· = RED l)) (Tot.of reduced_ok rfl) fun r3 e => ?_
    subst e
    refine Tot.bind (signs_W ab (fun s h => hs s (RED_mem.mp h).1) rl) fun sg ⟨hsg, hE⟩ => ?_
    refine Tot.bind (P := (· = (2 : Int) ^ n)) (tot_shl (by omega) (by omega) (sml64 (by decide) (by decide)) (by rw [Int.one_mul, Int.toNat_natCast])) fun t20 e => ?_
    subst e
    have p16 : (2 : Int) ^ n ≤ 16 := by
      have : (2 : Int) ^ n ≤ 2 ^ 4 := two_pow_le h4
      have : (2 : Int) ^ 4 = 16 := by decide
      omega
    have p0 := two_pow_pos n
    have cp := cast_two_pow n
    refine Tot.bind (P := (· = List.replicate (2 ^ n + 1) (0 : Int))) (Tot.ite ⟨by omega, by omega, by simp⟩ ?_) fun t21 e => ?_
    · have : ((2 : Int) ^ n + 1).toNat = 2 ^ n + 1 := by omega
      rw [this]
      exact flat_ones _ _
    subst e
    refine Tot.bind (Tot.fold (I := fun i (f : List Int) => f.length = 2 ^ n + 1 ∧ (∀ x ∈ f, x.natAbs ≤ i * 594467302491009) ∧ ∀ q, q < 2 ^ n + 1 → f[q]? = some (E (chi q) (sg.take i))) _ _ 0 ⟨List.length_replicate, fun x hx => by rw [(List.mem_replicate.mp hx).2]; exact Nat.zero_le _, fun q hq => by rw [List.getElem?_replicate, if_pos hq]; rfl⟩ fun i p f hi ⟨i1, i2, i3⟩ => ?_) fun o28 ⟨o1, o2, o3⟩ => Tot.ret ?_
    · rw [Nat.zero_add] at i2 i3 ⊢
      have hp := List.mem_of_getElem? hi
      have sl := (hsg.sub p hp).length_le
      have lw := Nat.le_trans (hsg.low p hp) (lowpow rl)
      have b8 := ab.few
      have bl := ab.len
      refine Tot.bind (P := (· = 2 * (p.1.length : Int))) (tot_mul (sml64 (by decide) (by decide)) (sml64 (by omega) (by omega)) rfl) fun t24 e => ?_
      subst e
      refine Tot.bind (P := fun _ => True) (Tot.ite (by omega) trivial) fun _ _ => ?_
      refine Tot.bind (at_int (P := fun x => f[2 * p.1.length]? = some x) (by omega) (by omega) fun x hx => by rw [show (2 * (p.1.length : Int)).toNat = 2 * p.1.length by omega] at hx; exact hx) fun t26 h26 => ?_
      refine Tot.bind (P := (· = f.set (2 * p.1.length) (t26 + p.2))) (tot_set (by omega) (by omega) (by rw [show (2 * (p.1.length : Int)).toNat = 2 * p.1.length by omega])) fun l27 e => Tot.ret ?_
      subst e
      have hv : t26 = E (chi (2 * p.1.length)) (sg.take i) := Option.some.inj (h26.symm.trans (i3 _ (by omega)))
      refine ⟨by rw [List.length_set]; exact i1, fun x hx => ?_, fun q hq => ?_⟩
      · rw [Nat.add_mul, Nat.one_mul]
        rcases List.mem_or_eq_of_mem_set hx with z | z
        · exact Nat.le_trans (i2 x z) (Nat.le_add_right _ _)
        · have := i2 t26 (List.mem_of_getElem? h26)
          rw [z]
          omega
      · rw [taken hi, E_snoc, List.getElem?_set]
        by_cases c : 2 * p.1.length = q
        · rw [if_pos c, if_pos (by omega), hv, c]
          unfold chi
          rw [if_pos c, Int.mul_one]
        · rw [if_neg c, i3 q hq]
          unfold chi
          rw [if_neg c, Int.mul_zero, Int.add_zero]
    · rw [Nat.zero_add] at o2
      rw [Nat.zero_add, List.take_length] at o3
      refine ⟨o1, fun x hx => Nat.le_trans (o2 x hx) ?_, fun i hi => by rw [o3 i hi, hE (chi i)]⟩
      have := Nat.le_trans hsg.len (twopow rl)
      have q : sg.length * 594467302491009 ≤ 128 * 594467302491009 := Nat.mul_le_mul_right _ this
      exact Nat.le_trans q (by decide)
  obtain ⟨ps, e, h⟩ := t
  exact ⟨ps, e, h⟩

/-! ## the law's own sum over all choices -/
def ABA (n : Nat) : List (List Int) := (m_l_all_bits (n : Int)).getD []
def cpl (v : List Int) : List Int := v.map fun x => 1 - x
structure AAok (n : Nat) : Prop where
  all : m_l_all_bits (n : Int) = some (ABA n)
  two : (ABA n).Perm (ABL n ++ (ABL n).map cpl)
  row : ∀ v ∈ ABA n, v.length = n
theorem aa1 : AAok 1 := ⟨by decide +kernel, by decide +kernel, by decide +kernel⟩
theorem aa2 : AAok 2 := ⟨by decide +kernel, by decide +kernel, by decide +kernel⟩
theorem aa3 : AAok 3 := ⟨by decide +kernel, by decide +kernel, by decide +kernel⟩
theorem aa4 : AAok 4 := ⟨by decide +kernel, by decide +kernel, by decide +kernel⟩
theorem aa_ok {n : Nat} (h1 : 1 ≤ n) (h4 : n ≤ 4) : AAok n := by
  match n, h1, h4 with
  | 1, _, _ => exact aa1
  | 2, _, _ => exact aa2
  | 3, _, _ => exact aa3
  | 4, _, _ => exact aa4
theorem gv_cpl {v : List Int} {i : Int} (h0 : 0 ≤ i) (h1 : i < (v.length : Int)) : gv (cpl v) i = 1 - gv v i := by
  unfold gv cpl
  have hi : i.toNat < v.length := by omega
  rw [List.getD_eq_getElem?_getD, List.getD_eq_getElem?_getD, List.getElem?_map, List.getElem?_eq_getElem hi]
  rfl
theorem mk1_cpl {v : List Int} {s : List Int × Int} (f : Fits v s) : mk1 (cpl v) s = mk1 v s := by
  obtain ⟨f1, f2, f3, f4⟩ := f
  obtain ⟨e0, m0⟩ := first_at f1
  obtain ⟨c, d⟩ := f2 _ m0
  unfold mk1
  rw [Bool.eq_iff_iff, List.all_eq_true, List.all_eq_true]
  refine forall_congr' fun x => forall_congr' fun hx => ?_
  obtain ⟨a, b⟩ := f2 x hx
  rw [gv_cpl a b, gv_cpl c d, gv_cpl f3 f4]
  simp only [Bool.and_eq_true, decide_eq_true_eq, Bool.not_eq_true', decide_eq_false_iff_not]
  omega
theorem left_two {n : Nat} (aa : AAok n) (ab : ABok n) {S : List (List Int × Int)} (hS : ∀ s ∈ S, SplOk (n : Int) s) : (left mkd S (ABA n)).length = 2 * (left mkd S (ABL n)).length := by
  have p : (left mkd S (ABA n)).Perm (left mkd S (ABL n ++ (ABL n).map cpl)) := List.Perm.filter _ aa.two
  rw [p.length_eq]
  unfold left
  rw [List.filter_append, List.length_append, List.filter_map, List.length_map]
  have e : (ABL n).filter ((fun v => !S.any fun s => mkd s v) ∘ cpl) = (ABL n).filter fun v => !S.any fun s => mkd s v := List.filter_congr fun v hv => by
    show (!S.any fun s => mkd s (cpl v)) = !S.any fun s => mkd s v
    congr 1
    rw [Bool.eq_iff_iff, List.any_eq_true, List.any_eq_true]
    refine exists_congr fun s => and_congr_right fun hs => ?_
    show mk1 (cpl v) s = true ↔ mk1 v s = true
    rw [mk1_cpl ((hS s hs).fits (by rw [ab.row v hv]))]
  rw [e]
  omega
theorem W_congr {α : Type} {l : List α} : ∀ {φ ψ : List α → Int}, (∀ S, (∀ s ∈ S, s ∈ l) → φ S = ψ S) → W φ l = W ψ l := by
  have go : ∀ (m : List α) {φ ψ : List α → Int}, (∀ s ∈ m, s ∈ l) → (∀ S, (∀ s ∈ S, s ∈ l) → φ S = ψ S) → W φ m = W ψ m := fun m => by
    induction m with
    | nil => exact fun _ h => h [] fun _ z => nomatch z
    | cons s m ih =>
      intro φ ψ hm h
      have e1 := ih (φ := φ) (ψ := ψ) (fun u hu => hm u (List.mem_cons_of_mem _ hu)) h
      have e2 := ih (φ := fun S => φ (s :: S)) (ψ := fun S => ψ (s :: S)) (fun u hu => hm u (List.mem_cons_of_mem _ hu)) fun S hS => h _ fun u hu => by
        rcases List.mem_cons.mp hu with e | hu
        · rw [e]; exact hm s List.mem_cons_self
        · exact hS u hu
      show W φ m - W (fun S => φ (s :: S)) m = W ψ m - W (fun S => ψ (s :: S)) m
      rw [e1, e2]
  intro φ ψ h
  exact go l (fun _ z => z) h
/-- only the splits that no other one implies count -/
theorem W_red {n : Nat} {l : List (List Int × Int)} (hs : ∀ s ∈ l, SplOk (n : Int) s) (f : List (List Int) → Int) (B : List (List Int)) : W (fun S => f (left mkd S B)) l = W (fun S => f (left mkd S B)) (RED l) := by
  refine W_keep (left_sym f) (p := fun s => !(l.any fun o => ST o s)) l [] fun t ht _ => ?_
  obtain ⟨o, ho, hi⟩ := RED_covers hs ht
  have hm := List.mem_filter.mp ho
  refine ⟨o, hm.1, hm.2, fun S => ?_⟩
  have e : left mkd (t :: o :: S) B = left mkd (t :: S) B := left_implied (fun v _ (m : mk1 v o = true) => (IR_mk1 (hs o hm.1).1.1.1 (hs t ht).1.1.1 hi m : mk1 v t = true)) S
  exact congrArg f e
/-- the splits that a number chooses -/
def pick {α : Type} (l : List α) (c : Nat) : List α := ((enumI l).filter fun p => decide (c / 2 ^ p.1.toNat % 2 = 1)).map (·.2)
theorem enum_snoc {α : Type} (l : List α) (x : α) : enumI (l ++ [x]) = enumI l ++ [((l.length : Int), x)] := by
  refine List.ext_getElem? fun i => ?_
  rcases Nat.lt_trichotomy i l.length with h | h | h
  · rw [List.getElem?_append_left (by rw [enumI_len]; exact h), enumI_get (List.getElem?_eq_getElem h), enumI_get (by rw [List.getElem?_append_left h]; exact List.getElem?_eq_getElem h)]
  · subst h
    rw [enumI_get (x := x) (by simp), List.getElem?_append_right (by rw [enumI_len]; exact Nat.le_refl _), enumI_len, Nat.sub_self]
    rfl
  · rw [List.getElem?_eq_none (by rw [enumI_len, List.length_append]; simp; omega), List.getElem?_eq_none (by rw [List.length_append, enumI_len]; simp; omega)]
theorem pick_low {α : Type} {l : List α} {x : α} {c : Nat} (h : c < 2 ^ l.length) : pick (l ++ [x]) c = pick l c := by
  unfold pick
  rw [enum_snoc, List.filter_append, List.map_append]
  have e : ([((l.length : Int), x)] : List (Int × α)).filter (fun p => decide (c / 2 ^ p.1.toNat % 2 = 1)) = [] := by
    rw [List.filter_cons]
    have : c / 2 ^ l.length = 0 := Nat.div_eq_of_lt h
    rw [Int.toNat_natCast, this]
    rfl
  rw [e]
  simp
theorem pick_high {α : Type} {l : List α} {x : α} {c : Nat} (h : c < 2 ^ l.length) : pick (l ++ [x]) (2 ^ l.length + c) = pick l c ++ [x] := by
  unfold pick
  rw [enum_snoc, List.filter_append, List.map_append]
  have e : ([((l.length : Int), x)] : List (Int × α)).filter (fun p => decide ((2 ^ l.length + c) / 2 ^ p.1.toNat % 2 = 1)) = [((l.length : Int), x)] := by
    rw [List.filter_cons]
    have h0 : c / 2 ^ l.length = 0 := Nat.div_eq_of_lt h
    have : (2 ^ l.length + c) / 2 ^ l.length = 1 := by rw [Nat.add_div_left _ (Nat.two_pow_pos _), h0]
    rw [Int.toNat_natCast, this]
    rfl
  rw [e]
  congr 2
  refine List.filter_congr fun p hp => ?_
  obtain ⟨i, hi⟩ := List.mem_iff_getElem?.mp hp
  have hil : i < l.length := by have := (List.getElem?_eq_some_iff.mp hi).1; rw [enumI_len] at this; exact this
  rw [enumI_get (List.getElem?_eq_getElem hil)] at hi
  have e1 : p.1 = (i : Int) := by rw [← Option.some.inj hi]
  rw [e1, Int.toNat_natCast]
  have e2 : 2 ^ l.length = 2 ^ i * (2 * 2 ^ (l.length - i - 1)) := by
    rw [← Nat.mul_assoc, ← Nat.pow_succ, ← Nat.pow_add]
    congr 1
    omega
  rw [e2, Nat.mul_add_div (Nat.two_pow_pos i), Nat.add_comm, Nat.add_mul_mod_self_left]
def sg1 {α : Type} (S : List α) : Int := if S.length % 2 = 0 then 1 else -1
theorem sg1_snoc {α : Type} (S : List α) (x : α) : sg1 (S ++ [x]) = - sg1 S := by
  unfold sg1
  rw [List.length_append]
  show (if (S.length + 1) % 2 = 0 then (1 : Int) else -1) = _
  split <;> split <;> omega
theorem sum_map_neg : ∀ l : List Nat, ∀ f : Nat → Int, (l.map fun c => - f c).sum = - (l.map f).sum
  | [], _ => rfl
  | x :: l, f => by rw [List.map_cons, List.map_cons, List.sum_cons, List.sum_cons, sum_map_neg l f]; omega
theorem D_W {α : Type} : ∀ (m : Nat) (l : List α), l.length = m → ∀ φ : List α → Int, ((List.range (2 ^ m)).map fun c => sg1 (pick l c) * φ (pick l c)).sum = W φ l
  | 0, l, h, φ => by
    rw [List.length_eq_zero_iff.mp h]
    show ([0].map _).sum = φ []
    show sg1 (pick ([] : List α) 0) * φ (pick [] 0) + 0 = φ []
    show (1 : Int) * φ [] + 0 = φ []
    omega
  | m + 1, l, h, φ => by
    obtain ⟨k, x, e⟩ : ∃ k x, l = k ++ [x] := ⟨l.dropLast, l.getLast (fun z => by rw [z] at h; cases h), (List.dropLast_concat_getLast _).symm⟩
    subst e
    have hk : k.length = m := by rw [List.length_append] at h; simpa using h
    rw [W_snoc, ← D_W m k hk φ, ← D_W m k hk fun S => φ (S ++ [x])]
    have two : 2 ^ (m + 1) = 2 ^ m + 2 ^ m := by rw [Nat.pow_succ]; omega
    rw [two, List.range_add, List.map_append, List.sum_append, List.map_map, Int.sub_eq_add_neg, ← sum_map_neg]
    congr 1
    · congr 1
      refine List.map_congr_left fun c hc => ?_
      have hc : c < 2 ^ k.length := by rw [hk]; exact List.mem_range.mp hc
      rw [pick_low hc]
    · congr 1
      refine List.map_congr_left fun c hc => ?_
      have hc : c < 2 ^ k.length := by rw [hk]; exact List.mem_range.mp hc
      show sg1 (pick (k ++ [x]) (2 ^ m + c)) * φ (pick (k ++ [x]) (2 ^ m + c)) = - (sg1 (pick k c) * φ (pick k c ++ [x]))
      rw [← hk, pick_high hc, sg1_snoc, Int.neg_mul]
theorem pick_mem {α : Type} {l : List α} {c : Nat} : ∀ s ∈ pick l c, s ∈ l := fun s hs => by
  obtain ⟨p, hp, e⟩ := List.mem_map.mp hs
  obtain ⟨i, hi⟩ := List.mem_iff_getElem?.mp (List.mem_filter.mp hp).1
  have hil : i < l.length := by have := (List.getElem?_eq_some_iff.mp hi).1; rw [enumI_len] at this; exact this
  rw [enumI_get (List.getElem?_eq_getElem hil)] at hi
  rw [← e, ← Option.some.inj hi]
  exact List.getElem_mem hil
def chi' (i : Nat) (k : List (List Int)) : Int := if k.length = i then 1 else 0
theorem chi_two {n : Nat} (aa : AAok n) (ab : ABok n) {S : List (List Int × Int)} (hS : ∀ s ∈ S, SplOk (n : Int) s) (i : Nat) : chi' i (left mkd S (ABA n)) = chi i (left mkd S (ABL n)) := by
  unfold chi chi'
  rw [left_two aa ab hS]
theorem bit_nat (j k : Nat) : Builtin.bitAnd ((j : Int) / 2 ^ k) 1 = ((j / 2 ^ k % 2 : Nat) : Int) := by
  rw [show Builtin.bitAnd ((j : Int) / 2 ^ k) 1 = (j : Int) / 2 ^ k % 2 from bitAnd_mask _ 1, ← cast_two_pow, ← Int.natCast_ediv]
  rfl
theorem due_ok {n : Nat} (h1 : 1 ≤ n) (h4 : n ≤ 4) {l : List (List Int × Int)} (hs : ∀ s ∈ l, SplOk (n : Int) s) (hl : l.length ≤ 7) : ∃ qs, m_l_due (n : Int) l = some qs ∧ qs.length = 2 ^ n + 1 ∧ ∀ i, i < 2 ^ n + 1 → qs[i]? = some (W (fun S => chi' i (left mkd S (ABA n))) l) := by
  have ab := ab_ok h1 h4
  have aa := aa_ok h1 h4
  have al : (ABA n).length = 2 ^ n := by
    rw [aa.two.length_eq, List.length_append, List.length_map]
    have := ab.len
    omega
  have t : Tot (m_l_due (n : Int) l) fun qs => qs.length = 2 ^ n + 1 ∧ ∀ i, i < 2 ^ n + 1 → qs[i]? = some (W (fun S => chi' i (left mkd S (ABA n))) l) := by
    unfold m_l_due
    refine Tot.bind (P := (· = ABA n)) (Tot.of aa.all rfl) fun r1 e => ?_
    rw [e]
    refine Tot.bind (P := (· = (2 : Int) ^ n)) (tot_shl (by omega) (by omega) (sml64 (by decide) (by decide)) (by rw [Int.one_mul, Int.toNat_natCast])) fun t2 e => ?_
    subst e
    have p16 : (2 : Int) ^ n ≤ 16 := by
      have : (2 : Int) ^ n ≤ 2 ^ 4 := two_pow_le h4
      have : (2 : Int) ^ 4 = 16 := by decide
      omega
    have p0 := two_pow_pos n
    have cp := cast_two_pow n
    refine Tot.bind (P := (· = List.replicate (2 ^ n + 1) (0 : Int))) (Tot.ite ⟨by omega, by omega, by simp⟩ ?_) fun t21 e => ?_
    · have : ((2 : Int) ^ n + 1).toNat = 2 ^ n + 1 := by omega
      rw [this]
      exact flat_ones _ _
    subst e
    refine Tot.bind (P := (· = (2 : Int) ^ l.length)) (tot_shl (by omega) (by omega) (sml64 (by decide) (by decide)) (by rw [Int.one_mul, Int.toNat_natCast])) fun t4 e => ?_
    subst e
    have p128 : (2 : Int) ^ l.length ≤ 128 := by
      have : (2 : Int) ^ l.length ≤ 2 ^ 7 := two_pow_le hl
      have : (2 : Int) ^ 7 = 128 := by decide
      omega
    have q0 := two_pow_pos l.length
    have cq := cast_two_pow l.length
    refine Tot.bind (P := (· = rangeI 0 ((2 : Int) ^ l.length))) (tot_range (by omega) (by omega) (by omega) (by omega) (by omega) rfl) fun t5 e => ?_
    subst e
    have len : (rangeI 0 ((2 : Int) ^ l.length)).length = 2 ^ l.length := by rw [len_rangeI]; omega
    refine Tot.bind (Tot.fold (I := fun c (f : List Int) => f.length = 2 ^ n + 1 ∧ ∀ q, q < 2 ^ n + 1 → f[q]? = some (((List.range c).map fun c' => sg1 (pick l c') * chi' q (left mkd (pick l c') (ABA n))).sum)) _ _ 0 ⟨List.length_replicate, fun q hq => by rw [List.getElem?_replicate, if_pos hq]; rfl⟩ fun j x f hj ⟨i1, i3⟩ => ?_) fun o25 ⟨o1, o3⟩ => Tot.ret ?_
    · rw [Nat.zero_add] at i3 ⊢
      obtain ⟨ex, _⟩ := rangeI_get hj
      have ex : x = (j : Int) := by omega
      subst ex
      refine Tot.bind (P := (· = pick l j)) (Tot.of (mapO_pick (p := fun p : Int × (List Int × Int) => decide (j / 2 ^ p.1.toNat % 2 = 1)) (g := fun p => p.2) fun p hp => ?_) rfl) fun t12 e => ?_
      · obtain ⟨i, hi⟩ := List.mem_iff_getElem?.mp hp
        have hil : i < l.length := by have := (List.getElem?_eq_some_iff.mp hi).1; rw [enumI_len] at this; exact this
        rw [enumI_get (List.getElem?_eq_getElem hil)] at hi
        have e1 : p.1 = (i : Int) := by rw [← Option.some.inj hi]
        refine Tot.get (Tot.bind (P := (· = (j : Int) / 2 ^ p.1.toNat)) (tot_shr (by omega) rfl) fun t10 e => ?_)
        subst e
        rw [bit_nat]
        by_cases c : j / 2 ^ p.1.toNat % 2 = 1
        · rw [if_pos (decide_eq_true c)]
          exact Tot.cond (fun _ => Tot.ret rfl) fun z => absurd (of_decide_eq_false z) (by omega)
        · rw [if_neg (by simpa using c)]
          exact Tot.cond (fun z => absurd (of_decide_eq_true z) (by omega)) fun _ => Tot.ret rfl
      subst e
      refine Tot.bind (P := (· = left mkd (pick l j) (ABA n))) (Tot.of (mapO_cond (g := fun v => !((pick l j).any fun s => mkd s v)) fun v hv => ?_) rfl) fun t21 e => ?_
      · refine Tot.get (Tot.bind (P := (· = (pick l j).map fun s => mk1 v s)) (Tot.of (mapO_map fun s hsp => ?_) rfl) fun t19 e => ?_)
        · rw [bit_makes_ok ((hs s (pick_mem s hsp)).fits (by rw [aa.row v hv]))]
          rfl
        · subst e
          rw [List.any_map]
          show Tot (bif !((pick l j).any fun s => mkd s v) then _ else _) _
          cases ((pick l j).any fun s => mkd s v) <;> exact Tot.ret rfl
      rw [e]
      have lle : (left mkd (pick l j) (ABA n)).length ≤ 2 ^ n := by rw [← al]; exact List.length_filter_le _ _
      refine Tot.bind (at_int (P := fun x => f[(left mkd (pick l j) (ABA n)).length]? = some x) (by omega) (by omega) fun x hx => by rw [Int.toNat_natCast] at hx; exact hx) fun t22 h22 => ?_
      refine Tot.bind (P := (· = ((pick l j).length : Int) % 2)) (tot_mod (by decide) rfl) fun t23 e => ?_
      subst e
      have es : (bif (decide (((pick l j).length : Int) % 2 = 0)) then (1 : Int) else (-(1 : Int))) = sg1 (pick l j) := by
        unfold sg1
        by_cases c : (pick l j).length % 2 = 0
        · rw [if_pos c, decide_eq_true (by omega)]; rfl
        · rw [if_neg c, decide_eq_false (by omega)]; rfl
      rw [es]
      refine Tot.bind (P := (· = f.set (left mkd (pick l j) (ABA n)).length (t22 + sg1 (pick l j)))) (tot_set (by omega) (by omega) (by rw [Int.toNat_natCast])) fun l24 e => Tot.ret ?_
      subst e
      have hv := Option.some.inj (h22.symm.trans (i3 _ (by omega)))
      refine ⟨by rw [List.length_set]; exact i1, fun q hq => ?_⟩
      rw [List.range_succ, List.map_append, List.sum_append, List.getElem?_set]
      by_cases c : (left mkd (pick l j) (ABA n)).length = q
      · rw [if_pos c, if_pos (by omega), hv, c]
        have ec : chi' q (left mkd (pick l j) (ABA n)) = 1 := if_pos c
        show some (_ + _) = some (_ + (sg1 (pick l j) * chi' q (left mkd (pick l j) (ABA n)) + 0))
        rw [ec, Int.mul_one, Int.add_zero]
      · rw [if_neg c, i3 q hq]
        have ec : chi' q (left mkd (pick l j) (ABA n)) = 0 := if_neg c
        show some _ = some (_ + (sg1 (pick l j) * chi' q (left mkd (pick l j) (ABA n)) + 0))
        rw [ec, Int.mul_zero, Int.add_zero, Int.add_zero]
    · rw [Nat.zero_add, len] at o3
      exact ⟨o1, fun i hi => by rw [o3 i hi, D_W l.length l rfl fun S => chi' i (left mkd S (ABA n))]⟩
  obtain ⟨qs, e, h⟩ := t
  exact ⟨qs, e, h⟩
theorem same {n : Nat} (h1 : 1 ≤ n) (h4 : n ≤ 4) {l : List (List Int × Int)} (hs : ∀ s ∈ l, SplOk (n : Int) s) (hl : l.length ≤ 7) : ∃ ps, m_powers (n : Int) l = some ps ∧ m_l_due (n : Int) l = some ps ∧ ps.length ≤ 17 ∧ ∀ x ∈ ps, x.natAbs ≤ 2 ^ 64 := by
  obtain ⟨ps, e1, l1, b1, v1⟩ := powers_W h1 h4 hs hl
  obtain ⟨qs, e2, l2, v2⟩ := due_ok h1 h4 hs hl
  have e : qs = ps := List.ext_getElem? fun i => by
    rcases Nat.lt_or_ge i (2 ^ n + 1) with h | h
    · rw [v1 i h, v2 i h, W_congr (ψ := fun S => chi i (left mkd S (ABL n))) fun S hS => chi_two (aa_ok h1 h4) (ab_ok h1 h4) (fun s z => hs s (hS s z)) i, W_red hs (chi i) (ABL n)]
    · rw [List.getElem?_eq_none (by omega), List.getElem?_eq_none (by omega)]
  subst e
  refine ⟨qs, e1, e2, ?_, b1⟩
  have : 2 ^ n ≤ 2 ^ 4 := Nat.pow_le_pow_right (by decide) h4
  omega
theorem log_small {x : Int} (h : x.natAbs ≤ 2 ^ 64) : x.natAbs.log2 < 1920 := by
  by_cases e : x.natAbs = 0
  · rw [e]; decide
  · exact (Nat.log2_lt e).mpr (Nat.lt_of_le_of_lt h (Nat.pow_lt_pow_right (a := 2) (m := 64) (n := 1920) (by decide) (by decide)))
theorem sort_spl {n : Int} {xs : List (List Int × Int)} (hx : ∀ s ∈ xs, SplOk n s) (hl : xs.length < 64) : Tot (oSortS xs) fun l => (∀ s ∈ l, SplOk n s) ∧ l.length ≤ xs.length :=
  Tot.ite (by omega) ⟨fun s hs => hx s (sort_mem hs), sortK_len _⟩
theorem right_ok {k : Cup} {N : Int} (hk : CupOk k N) (hN : N ≤ 900000) : Tot (m_l_right k) fun r => r.1 = true ∧ CupOk r.2 (N + 400) := by
  unfold m_l_right
  refine Tot.bind (dip_ok hk (by omega) (by decide) (sml64 (by decide) (by decide))) fun r1 ⟨a1, a2, c1⟩ => ?_
  obtain ⟨n, en, h1, h4⟩ : ∃ n : Nat, (1 : Int) + r1.1 = (n : Int) ∧ 1 ≤ n ∧ n ≤ 4 := ⟨(1 + r1.1).toNat, by omega, by omega, by omega⟩
  rw [en]
  refine Tot.bind (splits_ok (count := (n : Int)) (most := 7) c1 (by omega) (by omega) (by omega) (by decide) (by decide)) fun r2 ⟨hs, ll, c2⟩ => ?_
  refine Tot.bind (dip_ok c2 (by omega) (by decide) (sml64 (by decide) (by decide))) fun r3 ⟨b1, b2, c3⟩ => ?_
  refine Tot.bind (P := fun u : List (List Int × Int) × Cup => ((∀ s ∈ u.1, SplOk (n : Int) s) ∧ u.1.length ≤ 7) ∧ CupOk u.2 (N + 400)) (Tot.cond (fun _ => ?_) fun _ => Tot.ret ⟨⟨hs, by show r2.1.length ≤ 7; omega⟩, c3.mono (by omega)⟩) fun j6 ⟨⟨hj, lj⟩, cj⟩ => ?_
  · refine Tot.bind (group_ok (count := (n : Int)) c3 (by omega) (by omega) (by omega)) fun r7 ⟨hg, c7⟩ => ?_
    have hgs : ∀ g ∈ [r7.1], GrpOk (n : Int) g := fun g h => by rw [List.mem_singleton.mp h]; exact hg
    have hll := listed_len (count := (n : Int)) (groups := [r7.1])
    have hq : ((n : Int)).toNat * ((n : Int)).toNat ≤ 4 * 4 := Nat.mul_le_mul (by omega) (by omega)
    have hr : [r7.1].length * ((n : Int)).toNat ≤ 1 * 4 := Nat.mul_le_mul (Nat.le_refl _) (by omega)
    refine Tot.bind (all_splits_ok (by omega) (by omega) (by simp) (sort_spl (listed_ok hgs) (by omega))) fun r8 ⟨q1, q2⟩ => Tot.ret ⟨⟨fun s h => ?_, ?_⟩, c7.mono (by omega)⟩
    · have h : s ∈ cutL r8 none (some 7) := h
      rw [cut_to (by decide)] at h
      exact q1 s (List.mem_of_mem_take h)
    · show (cutL r8 none (some 7)).length ≤ 7
      rw [cut_to (by decide), List.length_take]
      exact Nat.min_le_left _ _
  obtain ⟨ps, e1, e2, pl, pb⟩ := same h1 h4 hj lj
  have rp := repr_spls hj (by omega) (by omega)
  have rr : oRepr ((eTup eInt).d ps) = some ((eTup eInt).d ps).shown := repr_ints (fun x hx => log_small (pb x hx)) (by omega)
  refine Tot.bind (P := (· = ((eTup (ePair (eTup eInt) eInt)).d j6.1).shown)) (Tot.of rp rfl) fun t9 e9 => ?_
  refine Tot.bind (P := (· = ps)) (Tot.of e1 rfl) fun r10 e => ?_
  subst e
  refine Tot.bind (P := (· = ((eTup eInt).d r10).shown)) (Tot.of rr rfl) fun t11 e11 => ?_
  refine Tot.bind (P := (· = r10)) (Tot.of e2 rfl) fun r12 e => ?_
  subst e
  refine Tot.bind (P := (· = t11)) (Tot.of (by rw [e11]; exact rr) rfl) fun t13 e13 => ?_
  refine Tot.bind (P := (· = true)) (Tot.cond (fun _ => ?_) fun hc => absurd hc (by rw [e13]; simp)) fun t15 e => Tot.ret ⟨e, cj⟩
  refine Tot.bind (P := (· = t9)) (Tot.of (by rw [e9]; exact rp) rfl) fun t14 e14 => Tot.ret ?_
  rw [e14]
  exact decide_eq_true rfl
theorem law_true (ns : List Int) (hl : ns.length ≤ 63) : m_law ns = some true := by
  refine Tot.get ?_
  unfold m_law
  refine Tot.bind (P := (· = rangeI 0 (max 1 (min 3 (ns.length : Int))))) (tot_range (by omega) (by omega) (by omega) (by omega) (by omega) rfl) fun t1 e1 => ?_
  subst e1
  refine Tot.bind (Tot.loopGo (I := fun _ _ => True) _ _ trivial fun j x b hj _ => ?_) fun o ⟨b, eo, _⟩ => ?_
  · obtain ⟨ex, hj⟩ := rangeI_get hj
    refine Tot.bind (cup_ok (by omega) (by omega)) fun c hc => ?_
    refine Tot.bind (P := (· = rangeI 0 5)) (tot_range (by decide) (by decide) (by decide) (by decide) (by decide) rfl) fun t6 e6 => ?_
    subst e6
    refine Tot.bind (all_right (by decide) (by decide) hc 400 (by decide) fun c x N hc hN => ?_) fun r hr => ?_
    · exact Tot.bind (right_ok hc (by omega)) fun r10 ⟨e, h⟩ => Tot.ret ⟨by rw [e], h⟩
    · rw [hr]
      exact Tot.cond (fun h => by cases h) fun _ => Tot.ret ⟨(), rfl, trivial⟩
  · subst eo
    exact Tot.ret rfl
theorem law_end {K : PySem.W.Frag} {H : Hp} {a : Addr} {ns : List Int} {E : XK} (hl : ns.length ≤ 63) (hO : Only H) (hS : SqL K H a (ns.map V.int)) : sp_law K [.ref a] H (fun v _ => v = .bl true) E := law_of hl hS (law_true ns hl)

end LW
open PySem PySem.W PyProof.Rows in
set_option maxHeartbeats 0 in
theorem PySem.Challenge.cw_maskgroups_k35_powers_of_bases_holds : PySem.Challenge.rw_maskgroups_k35_powers_of_bases.Holds := by
  w_on; o_law; k_head; (case hw => w_witness2)
  k_fill
  refine ML.walk_G (l := PySem.Challenge.rw_maskgroups_k35_powers_of_bases) (n := 63) (k := 6) (x := "_law_script") (CX := fun _ => L2.CX0) (sp := fun w => LW.sp_law _) rfl (by decide) rfl ⟨⟨rfl, by decide, by decide⟩, rfl⟩ (fun w h Y => PySem.W.kIn_of Y) ?F (fun w H a ns hl hO hS => LW.law_end hl hO hS) (fun _ _ _ _ _ h => h)
  case F =>
    intro w mg fa h KX G hmg
    refine' LW.all_mk KX G hmg ?a0 ?l0 ?c0 ?k0 ?a1 ?l1 ?c1 ?k1 ?a2 ?l2 ?c2 ?k2 ?a3 ?l3 ?c3 ?k3 ?a4 ?l4 ?c4 ?k4 ?a5 ?l5 ?c5 ?k5 ?a6 ?l6 ?c6 ?k6 ?a7 ?l7 ?c7 ?k7 ?a8 ?l8 ?c8 ?k8 ?a9 ?l9 ?c9 ?k9 ?a10 ?l10 ?c10 ?k10 ?a11 ?l11 ?c11 ?k11 ?a12 ?l12 ?c12 ?k12 ?a13 ?l13 ?c13 ?k13 ?a14 ?l14 ?c14 ?k14 ?a15 ?l15 ?c15 ?k15 ?c_MOST_KINDS ?z_abs ?z_all ?z_any ?z_dict ?z_enumerate ?z_int ?z_len ?z_max ?z_min ?z_range ?z_repr ?z_set ?z_sorted ?z_tuple
    (case a0 => k_is); (case l0 => k_is); (case c0 => k_is); (case k0 => k_is); (case a1 => k_is); (case l1 => k_is); (case c1 => k_is); (case k1 => k_is); (case a2 => k_is); (case l2 => k_is); (case c2 => k_is); (case k2 => k_is); (case a3 => k_is); (case l3 => k_is); (case c3 => k_is); (case k3 => k_is); (case a4 => k_is); (case l4 => k_is); (case c4 => k_is); (case k4 => k_is); (case a5 => k_is); (case l5 => k_is); (case c5 => k_is); (case k5 => k_is); (case a6 => k_is); (case l6 => k_is); (case c6 => k_is); (case k6 => k_is); (case a7 => k_is); (case l7 => k_is); (case c7 => k_is); (case k7 => k_is); (case a8 => k_is); (case l8 => k_is); (case c8 => k_is); (case k8 => k_is); (case a9 => k_is); (case l9 => k_is); (case c9 => k_is); (case k9 => k_is); (case a10 => k_is); (case l10 => k_is); (case c10 => k_is); (case k10 => k_is); (case a11 => k_is); (case l11 => k_is); (case c11 => k_is); (case k11 => k_is); (case a12 => k_is); (case l12 => k_is); (case c12 => k_is); (case k12 => k_is); (case a13 => k_is); (case l13 => k_is); (case c13 => k_is); (case k13 => k_is); (case a14 => k_is); (case l14 => k_is); (case c14 => k_is); (case k14 => k_is); (case a15 => k_is); (case l15 => k_is); (case c15 => k_is); (case k15 => k_is); (case c_MOST_KINDS => k_is); (case z_abs => k_is); (case z_all => k_is); (case z_any => k_is); (case z_dict => k_is); (case z_enumerate => k_is); (case z_int => k_is); (case z_len => k_is); (case z_max => k_is); (case z_min => k_is); (case z_range => k_is); (case z_repr => k_is); (case z_set => k_is); (case z_sorted => k_is); (case z_tuple => k_is)
