import PyProof.Rows.All
import Wide.All
import OpenK.AllK
import Wide.FinOn
import HandS.Base
import HandS.Call
import HandS.List
import HandS.Comp
import HandS.Ends
import HandS.Words
import HandS.Zip
import HandS.WideBits
import HandS.TupMul
import HandS.TupLe
import HandS.TupAny
import HandS.Style
import HandS.TupSets
import HandS.SortOrd
import KE.KeyNested
import HandS.Conv
import HandS.IsInst
import HandS.Iter
import HandS.Star
import KE.GoesEnum
import KE.GoesMore
import KE.DataMinMax
import KE.SortData
import HandS.SlotsOwn
import HandS.More
import HandS.Dict
import HandS.DictComp
import HandS.Flow
import HandS.CallRecv
import KE.KUnpackStar
import HandS.Deep
import HandS.SetFor
import KE.DataEq
import KE.SortCalls
import PyProof.TupleOfSeq
import HandS.GenList
import HandS.Small
import KE.KTupSum
import KE.KDictKeyed
import KE.KDictCopyH
import KE.KDictWalk
import KE.KDictOf
import KE.KDictDisplayH
import KE.KExcSuper
import HandS.ExcSuper
import HandS.ExcInit
import HandS.ExcInitHot
import HandS.WideMore
import HandS.ExcIs
import KE.KExcIs
import HandS.ExcField
import HandS.Lambda
import HandS.EndTab
import KE.KNestM
import HandS.SetFor
import HandS.Codes
import HandS.Replace
import PyProof.StrOps2
import HandS.ExcValue
import HandS.Strs
import HandS.Property
import HandS.ClsMeth
import PySem.Challenge.RW_maskgroups_k53_rosters_made
set_option Elab.async false
set_option linter.all false
set_option maxRecDepth 100000
set_option maxHeartbeats 8000000
set_option synthInstance.maxSize 1000
namespace ML
open PySem PySem.Spec PyProof.Rows L2

/-! ## the state: frozen part F, cells that change cs, what is the callers' alone B -/
structure Sl where
  p : Hp → V → Prop
  mono : ∀ {F F' : Hp} {v : V}, Same F F' → p F v → p F' v
structure Cl where
  p : Hp → HO → Prop
  mono : ∀ {F F' : Hp} {o : HO}, Same F F' → p F o → p F' o
abbrev Cells := List (Addr × Cl)
abbrev Gam := List (Option Sl)
abbrev Tms := List (V × Sl)
structure Wd where
  F : Hp
  B : Hp
structure Core (W : Wd) (F : Hp) (cs : Cells) (H : Hp) : Prop where
  f0 : Same W.F F
  fh : Same F H
  bh : Same W.B H
  bf : ∀ a o, W.B a = some o → F a = none
  nd : (cs.map (·.1)).Nodup
  cell : ∀ x ∈ cs, F x.1 = none ∧ W.B x.1 = none ∧ ∃ o, H x.1 = some o ∧ x.2.p F o
def Slots (F : Hp) (G : Gam) (s : L2.St) : Prop := s.length = G.length ∧ ∀ (i : Nat) (sl : Sl), G[i]? = some (some sl) → ∃ v, s[i]? = some (some v) ∧ sl.p F v
def Temps (F : Hp) (T : Tms) : Prop := ∀ x ∈ T, x.2.p F x.1
def Sta (W : Wd) (G : Gam) (T : Tms) (cs : Cells) (s : L2.St) (H : Hp) : Prop := ∃ F, Core W F cs H ∧ Slots F G s ∧ Temps F T
def Exit (W : Wd) (sl : Sl) (cs : Cells) (v : V) (H : Hp) : Prop := ∃ F, Core W F cs H ∧ sl.p F v

theorem Slots.mono {F F' : Hp} {G : Gam} {s : L2.St} (e : Same F F') (h : Slots F G s) : Slots F' G s :=
  ⟨h.1, fun i sl hi => let ⟨v, h1, h2⟩ := h.2 i sl hi; ⟨v, h1, sl.mono e h2⟩⟩
theorem Temps.mono {F F' : Hp} {T : Tms} (e : Same F F') (h : Temps F T) : Temps F' T := fun x hx => x.2.mono e (h x hx)
theorem Temps.cons {F : Hp} {T : Tms} {v : V} {sl : Sl} (h1 : sl.p F v) (h : Temps F T) : Temps F ((v, sl) :: T) := fun x hx => by
  rcases List.mem_cons.mp hx with e | e
  · subst e; exact h1
  · exact h x e
theorem Temps.tail {F : Hp} {T : Tms} {x : V × Sl} (h : Temps F (x :: T)) : Temps F T := fun y hy => h y (List.mem_cons_of_mem _ hy)
theorem Temps.head {F : Hp} {T : Tms} {v : V} {sl : Sl} (h : Temps F ((v, sl) :: T)) : sl.p F v := h (v, sl) List.mem_cons_self
theorem Temps.nil {F : Hp} : Temps F [] := fun x hx => absurd hx (by simp)
theorem Sta.pop {W G T cs s H} {x : V × Sl} (h : Sta W G (x :: T) cs s H) : Sta W G T cs s H := let ⟨F, a, b, c⟩ := h; ⟨F, a, b, c.tail⟩
theorem Sta.push {W G T cs s H} {v : V} {sl : Sl} (h : Sta W G T cs s H) (hs : ∀ F, sl.p F v) : Sta W G ((v, sl) :: T) cs s H := let ⟨F, a, b, c⟩ := h; ⟨F, a, b, c.cons (hs F)⟩
theorem Sta.clear {W G T cs s H} (h : Sta W G T cs s H) : Sta W G [] cs s H := let ⟨F, a, b, c⟩ := h; ⟨F, a, b, Temps.nil⟩
theorem Sta.top {W G T cs s H} {v : V} {sl : Sl} (h : Sta W G ((v, sl) :: T) cs s H) : ∃ F, Core W F cs H ∧ Slots F G s ∧ sl.p F v ∧ Temps F T := let ⟨F, a, b, c⟩ := h; ⟨F, a, b, c.head, c.tail⟩

/-! ### the heap grows; a cell is written -/
theorem same_upd {H : Hp} {p : Addr} {o : HO} (h : H p = none) : Same H (upd H p o) := fun b x e => by
  rw [upd_ne (ne_of_none e h)]
  exact e
/-- a new frozen object -/
theorem Core.new {W F cs H} (h : Core W F cs H) {p : Addr} {o : HO} (hp : H p = none) : Core W (upd F p o) cs (upd H p o) := by
  have fp : F p = none := h.fh.free hp
  have sF : Same F (upd F p o) := same_upd fp
  have sH : Same H (upd H p o) := same_upd hp
  refine ⟨h.f0.trans sF, fun b u e => ?_, h.bh.trans sH, fun a u e => ?_, h.nd, fun x hx => ?_⟩
  · by_cases hb : b = p
    · subst hb; rw [upd_same] at e ⊢; exact e
    · rw [upd_ne hb] at e ⊢; exact h.fh b u e
  · have : a ≠ p := fun z => by subst z; have := h.bh _ _ e; rw [hp] at this; cases this
    rw [upd_ne this]; exact h.bf a u e
  · obtain ⟨h1, h2, u, h3, h4⟩ := h.cell x hx
    have : x.1 ≠ p := ne_of_none h3 hp
    exact ⟨by rw [upd_ne this]; exact h1, h2, u, sH _ _ h3, x.2.mono sF h4⟩
/-- a new cell -/
theorem Core.newCell {W F cs H} (h : Core W F cs H) {p : Addr} {o : HO} {c : Cl} (hp : H p = none) (hc : c.p F o) : Core W F (cs ++ [(p, c)]) (upd H p o) := by
  have fp : F p = none := h.fh.free hp
  have sH : Same H (upd H p o) := same_upd hp
  have np : ∀ x ∈ cs, x.1 ≠ p := fun x hx => let ⟨_, _, u, h3, _⟩ := h.cell x hx; ne_of_none h3 hp
  refine ⟨h.f0, h.fh.trans sH, h.bh.trans sH, h.bf, ?_, fun x hx => ?_⟩
  · rw [List.map_append, List.nodup_append]
    refine ⟨h.nd, by simp, fun a ha b hb e => ?_⟩
    have eb : b = p := by simpa using hb
    obtain ⟨x, hx, ex⟩ := List.mem_map.mp ha
    exact np x hx (by rw [ex, e, eb])
  · rcases List.mem_append.mp hx with hx | hx
    · obtain ⟨h1, h2, u, h3, h4⟩ := h.cell x hx
      exact ⟨h1, h2, u, sH _ _ h3, h4⟩
    · have e : x = (p, c) := by simpa using hx
      subst e
      exact ⟨fp, h.bh.free hp, o, upd_same, hc⟩
theorem _root_.List.Nodup.getElem?_inj_of {α : Type} {l : List α} (nd : l.Nodup) {i j : Nat} (hi : i < l.length) (e : l[i]? = l[j]?) : i = j := (List.getElem?_inj hi nd).mp e
theorem nodup_at {cs : Cells} (nd : (cs.map (·.1)).Nodup) {j : Nat} {p : Addr} {c : Cl} (hj : cs[j]? = some (p, c)) {i : Nat} {x : Addr × Cl} (hi : cs[i]? = some x) (hne : i ≠ j) : x.1 ≠ p := by
  intro e
  have h1 : (cs.map (·.1))[i]? = some p := by rw [List.getElem?_map, hi]; simp [e]
  have h2 : (cs.map (·.1))[j]? = some p := by rw [List.getElem?_map, hj]; rfl
  have hl := (List.getElem?_eq_some_iff.mp h1).1
  exact hne (nd.getElem?_inj_of hl (h1.trans h2.symm))
theorem map_set_fst (cs : Cells) (j : Nat) (p : Addr) (c c' : Cl) (hj : cs[j]? = some (p, c)) : (cs.set j (p, c')).map (·.1) = cs.map (·.1) := by
  apply List.ext_getElem?
  intro i
  rw [List.getElem?_map, List.getElem?_map, List.getElem?_set]
  by_cases e : j = i
  · subst e
    have := (List.getElem?_eq_some_iff.mp hj).1
    rw [if_pos rfl, if_pos this, hj]
    rfl
  · rw [if_neg e]
/-- a cell is written -/
theorem Core.write {W F cs H} (h : Core W F cs H) {j : Nat} {p : Addr} {c c' : Cl} {o : HO} (hj : cs[j]? = some (p, c)) (hc : c'.p F o) : Core W F (cs.set j (p, c')) (upd H p o) := by
  obtain ⟨h1, h2, u, h3, h4⟩ := h.cell (p, c) (List.mem_of_getElem? hj)
  have nF : ∀ b u, F b = some u → b ≠ p := fun b u e z => by subst z; rw [h1] at e; cases e
  have nB : ∀ b u, W.B b = some u → b ≠ p := fun b u e z => by subst z; rw [h2] at e; cases e
  refine ⟨h.f0, fun b u e => ?_, fun b u e => ?_, h.bf, ?_, fun x hx => ?_⟩
  · rw [upd_ne (nF b u e)]; exact h.fh b u e
  · rw [upd_ne (nB b u e)]; exact h.bh b u e
  · rw [map_set_fst cs j p c c' hj]; exact h.nd
  · obtain ⟨i, hi⟩ := List.mem_iff_getElem?.mp hx
    rw [List.getElem?_set] at hi
    by_cases e : j = i
    · subst e
      have hl := (List.getElem?_eq_some_iff.mp hj).1
      rw [if_pos rfl, if_pos hl] at hi
      have e2 := (Option.some.inj hi).symm
      subst e2
      exact ⟨h1, h2, o, upd_same, hc⟩
    · rw [if_neg e] at hi
      have ne := nodup_at h.nd hj hi (Ne.symm e)
      obtain ⟨a1, a2, w, a3, a4⟩ := h.cell x (List.mem_of_getElem? hi)
      exact ⟨a1, a2, w, by rw [upd_ne ne]; exact a3, a4⟩
/-- a cell is frozen -/
theorem Core.freeze {W F cs H} (h : Core W F cs H) {j : Nat} {p : Addr} {c : Cl} (hj : cs[j]? = some (p, c)) : ∃ o F', H p = some o ∧ c.p F' o ∧ F' p = some o ∧ Same F F' ∧ Core W F' (cs.eraseIdx j) H := by
  obtain ⟨h1, h2, u, h3, h4⟩ := h.cell (p, c) (List.mem_of_getElem? hj)
  have sF : Same F (upd F p u) := same_upd h1
  have nB : ∀ b o, W.B b = some o → b ≠ p := fun b o e z => by subst z; rw [h2] at e; cases e
  refine ⟨u, upd F p u, h3, c.mono sF h4, upd_same, sF, h.f0.trans sF, fun b o e => ?_, h.bh, fun a o e => ?_, ?_, fun x hx => ?_⟩
  · by_cases hb : b = p
    · subst hb; rw [upd_same] at e; cases e; exact h3
    · rw [upd_ne hb] at e; exact h.fh b o e
  · rw [upd_ne (nB a o e)]; exact h.bf a o e
  · have : (cs.eraseIdx j).map (·.1) = (cs.map (·.1)).eraseIdx j := by
      apply List.ext_getElem?
      intro i
      rw [List.getElem?_map, List.getElem?_eraseIdx, List.getElem?_eraseIdx]
      split <;> rw [List.getElem?_map]
    rw [this]
    exact h.nd.sublist (List.eraseIdx_sublist _ _)
  · obtain ⟨i, hi⟩ := List.mem_iff_getElem?.mp hx
    have ne : x.1 ≠ p := by
      rw [List.getElem?_eraseIdx] at hi
      split at hi
      · rename_i hlt; exact nodup_at h.nd hj hi (by omega)
      · rename_i hlt; exact nodup_at h.nd hj hi (by omega)
    obtain ⟨a1, a2, w, a3, a4⟩ := h.cell x (List.mem_of_mem_eraseIdx hx)
    exact ⟨by rw [upd_ne ne]; exact a1, a2, w, a3, x.2.mono sF a4⟩
/-- cells forgotten -/
theorem Core.drop {W F cs cs' H} (h : Core W F cs H) (hs : cs'.Sublist cs) : Core W F cs' H :=
  ⟨h.f0, h.fh, h.bh, h.bf, h.nd.sublist (hs.map _), fun x hx => h.cell x (hs.subset hx)⟩

/-! ### typed values -/
structure R (α : Type) where
  p : α → Hp → V → Prop
  mono : ∀ {a : α} {F F' : Hp} {v : V}, Same F F' → p a F v → p a F' v
def R.at {α : Type} (r : R α) (a : α) : Sl := ⟨r.p a, r.mono⟩
def rInt : R Int := ⟨fun i _ v => v = .int i, fun _ h => h⟩
def rBool : R Bool := ⟨fun b _ v => v = .bl b, fun _ h => h⟩
def rStr : R Str := ⟨fun x _ v => v = .str x, fun _ h => h⟩
def rNon : R Unit := ⟨fun _ _ v => v = .non, fun _ h => h⟩
def rOpt {α : Type} (r : R α) : R (Option α) := ⟨fun a F v => match a with | none => v = .non | some x => r.p x F v, fun {a} _ _ _ e h => by
  cases a with
  | none => exact h
  | some x => exact r.mono e h⟩
inductive All2 {α β : Type} (P : α → β → Prop) : List α → List β → Prop
  | nil : All2 P [] []
  | cons {a b l m} : P a b → All2 P l m → All2 P (a :: l) (b :: m)
theorem All2.imp {α β : Type} {P Q : α → β → Prop} (f : ∀ a b, P a b → Q a b) : ∀ {l m}, All2 P l m → All2 Q l m
  | _, _, .nil => .nil
  | _, _, .cons h t => .cons (f _ _ h) (All2.imp f t)
theorem All2.length {α β : Type} {P : α → β → Prop} : ∀ {l : List α} {m : List β}, All2 P l m → l.length = m.length
  | _, _, .nil => rfl
  | _, _, .cons _ t => by rw [List.length_cons, List.length_cons, All2.length t]
theorem All2.get {α β : Type} {P : α → β → Prop} : ∀ {l : List α} {m : List β} {i : Nat} {a : α}, All2 P l m → l[i]? = some a → ∃ b, m[i]? = some b ∧ P a b
  | _, _, _, _, .nil, h => by simp at h
  | _, _, 0, _, .cons q t, h => by simp at h; subst h; exact ⟨_, rfl, q⟩
  | _, _, i + 1, a, .cons q t, h => by
    obtain ⟨b, h1, h2⟩ := All2.get (i := i) (a := a) t (by simpa using h)
    exact ⟨b, by simpa using h1, h2⟩
theorem All2.get' {α β : Type} {P : α → β → Prop} : ∀ {l : List α} {m : List β} {i : Nat} {b : β}, All2 P l m → m[i]? = some b → ∃ a, l[i]? = some a ∧ P a b
  | _, _, _, _, .nil, h => by simp at h
  | _, _, 0, _, .cons q t, h => by simp at h; subst h; exact ⟨_, rfl, q⟩
  | _, _, i + 1, a, .cons q t, h => by
    obtain ⟨b, h1, h2⟩ := All2.get' (i := i) (b := a) t (by simpa using h)
    exact ⟨b, by simpa using h1, h2⟩
theorem All2.app {α β : Type} {P : α → β → Prop} : ∀ {l l' : List α} {m m' : List β}, All2 P l m → All2 P l' m' → All2 P (l ++ l') (m ++ m')
  | _, _, _, _, .nil, h => h
  | _, _, _, _, .cons q t, h => .cons q (All2.app t h)
theorem All2.take {α β : Type} {P : α → β → Prop} : ∀ {l : List α} {m : List β} (n : Nat), All2 P l m → All2 P (l.take n) (m.take n)
  | _, _, 0, _ => by simp; exact .nil
  | _, _, n + 1, .nil => .nil
  | _, _, n + 1, .cons q t => .cons q (All2.take n t)
theorem All2.drop {α β : Type} {P : α → β → Prop} : ∀ {l : List α} {m : List β} (n : Nat), All2 P l m → All2 P (l.drop n) (m.drop n)
  | _, _, 0, h => h
  | _, _, n + 1, .nil => .nil
  | _, _, n + 1, .cons q t => All2.drop n t
theorem All2.set {α β : Type} {P : α → β → Prop} {a : α} {b : β} (q : P a b) : ∀ {l : List α} {m : List β} (n : Nat), All2 P l m → All2 P (l.set n a) (m.set n b)
  | _, _, _, .nil => .nil
  | _, _, 0, .cons _ t => .cons q t
  | _, _, n + 1, .cons z t => .cons z (All2.set q n t)
theorem All2.erase {α β : Type} {P : α → β → Prop} : ∀ {l : List α} {m : List β} (n : Nat), All2 P l m → All2 P (l.eraseIdx n) (m.eraseIdx n)
  | _, _, _, .nil => .nil
  | _, _, 0, .cons _ t => t
  | _, _, n + 1, .cons z t => .cons z (All2.erase n t)
theorem All2.rev {α β : Type} {P : α → β → Prop} {l : List α} {m : List β} (h : All2 P l m) : All2 P l.reverse m.reverse := by
  induction h with
  | nil => exact .nil
  | cons q _ ih => rw [List.reverse_cons, List.reverse_cons]; exact ih.app (.cons q .nil)
/-- a tuple; a list that stands still -/
def rTup {α : Type} (r : R α) : R (List α) := ⟨fun xs F v => xs.length ≤ sizeLine ∧ ∃ a vs, v = .ref a ∧ F a = some (.tup vs) ∧ All2 (fun x u => r.p x F u) xs vs,
  fun {_ _ _ _} e ⟨h0, a, vs, h1, h2, h3⟩ => ⟨h0, a, vs, h1, e _ _ h2, h3.imp fun _ _ q => r.mono e q⟩⟩
def rLst {α : Type} (r : R α) : R (List α) := ⟨fun xs F v => xs.length ≤ sizeLine ∧ ∃ a vs, v = .ref a ∧ F a = some (.lst vs) ∧ All2 (fun x u => r.p x F u) xs vs,
  fun {_ _ _ _} e ⟨h0, a, vs, h1, h2, h3⟩ => ⟨h0, a, vs, h1, e _ _ h2, h3.imp fun _ _ q => r.mono e q⟩⟩
def rPair {α β : Type} (r : R α) (q : R β) : R (α × β) := ⟨fun x F v => ∃ a u w, v = .ref a ∧ F a = some (.tup [u, w]) ∧ r.p x.1 F u ∧ q.p x.2 F w,
  fun {_ _ _ _} e ⟨a, u, w, h1, h2, h3, h4⟩ => ⟨a, u, w, h1, e _ _ h2, r.mono e h3, q.mono e h4⟩⟩
/-- the very object at p -/
def sRef (p : Addr) : Sl := ⟨fun _ v => v = .ref p, fun _ h => h⟩
/-- a cell that holds a list -/
def cLst {α : Type} (r : R α) (xs : List α) : Cl := ⟨fun F o => xs.length ≤ sizeLine ∧ ∃ vs, o = .lst vs ∧ All2 (fun x u => r.p x F u) xs vs, fun {_ _ _} e ⟨h0, vs, h1, h2⟩ => ⟨h0, vs, h1, h2.imp fun _ _ q => r.mono e q⟩⟩

/-! ### the judgements -/
def Ev (te : TE) (W : Wd) (G : Gam) (T : Tms) (cs : Cells) (K : Sl → Cells → Prop) : Prop :=
  ∀ s H, Sta W G T cs s H → ∀ Q : VK, (∀ sl cs', K sl cs' → ∀ v H', Sta W G ((v, sl) :: T) cs' s H' → Q v H') → te s H Q
def Et (tt : TT) (W : Wd) (G : Gam) (T : Tms) (cs : Cells) (K : Bool → Cells → Prop) : Prop :=
  ∀ s H, Sta W G T cs s H → ∀ Q : Bool → Hp → Prop, (∀ b cs', K b cs' → ∀ H', Sta W G T cs' s H' → Q b H') → tt s H Q
def Args (F : Hp) : List Sl → List V → Prop := All2 (fun sl v => sl.p F v)
def EvA (ta : TA) (W : Wd) (G : Gam) (T : Tms) (cs : Cells) (K : List Sl → Cells → Prop) : Prop :=
  ∀ s H, Sta W G T cs s H → ∀ Q : List V → Hp → Prop, (∀ sls cs', K sls cs' → ∀ vs H', (∃ F, Core W F cs' H' ∧ Slots F G s ∧ Temps F T ∧ Args F sls vs) → Q vs H') → ta s H Q
def Nx (P : L2.St → Hp → Prop) (W : Wd) (G : Gam) (cs : Cells) : Prop := ∀ s H, Sta W G [] cs s H → P s H
def Rt (P : VK) (W : Wd) (sl : Sl) (cs : Cells) : Prop := ∀ v H, Exit W sl cs v H → P v H

section
variable {W : Wd} {G : Gam} {T : Tms} {cs : Cells} {K : Sl → Cells → Prop} {KB : Bool → Cells → Prop} {ta tb tc : TE} {tt tu : TT}
theorem Ev.imp {K' : Sl → Cells → Prop} (h : Ev ta W G T cs K) (f : ∀ sl cs', K sl cs' → K' sl cs') : Ev ta W G T cs K' := fun s H st Q q => h s H st Q fun sl cs' k => q sl cs' (f sl cs' k)
theorem Et.imp {K' : Bool → Cells → Prop} (h : Et tt W G T cs KB) (f : ∀ b cs', KB b cs' → K' b cs') : Et tt W G T cs K' := fun s H st Q q => h s H st Q fun b cs' k => q b cs' (f b cs' k)
theorem int_top {v : V} {i : Int} {s H} (h : Sta W G ((v, rInt.at i) :: T) cs s H) : v = .int i := let ⟨_, _, _, h, _⟩ := h.top; h
theorem bool_top {v : V} {i : Bool} {s H} (h : Sta W G ((v, rBool.at i) :: T) cs s H) : v = .bl i := let ⟨_, _, _, h, _⟩ := h.top; h
theorem ref_top {v : V} {p : Addr} {s H} (h : Sta W G ((v, sRef p) :: T) cs s H) : v = .ref p := let ⟨_, _, _, h, _⟩ := h.top; h

/-! ### names, constants -/
theorem e_var {i : Nat} {sl : Sl} (hi : G[i]? = some (some sl)) (k : K sl cs) : Ev (tVar i) W G T cs K := fun s H st Q q => by
  obtain ⟨F, c, sg, t⟩ := st
  obtain ⟨v, h1, h2⟩ := sg.2 i sl hi
  exact ⟨v, h1, q sl cs k v H ⟨F, c, sg, t.cons h2⟩⟩
theorem e_int {i : Int} (k : K (rInt.at i) cs) : Ev (tC (.int i)) W G T cs K := fun s H st Q q => q _ cs k _ H (st.push fun _ => rfl)
theorem e_bl {i : Bool} (k : K (rBool.at i) cs) : Ev (tC (.bl i)) W G T cs K := fun s H st Q q => q _ cs k _ H (st.push fun _ => rfl)
theorem e_str {i : Str} (k : K (rStr.at i) cs) : Ev (tC (.str i)) W G T cs K := fun s H st Q q => q _ cs k _ H (st.push fun _ => rfl)
theorem e_non (k : K (rNon.at ()) cs) : Ev (tC .non) W G T cs K := fun s H st Q q => q _ cs k _ H (st.push fun _ => rfl)

/-! ### ints -/
theorem e_opI0 {g : Int → Int → Int} (ha : Ev ta W G T cs fun sa cs1 => ∃ i, sa = rInt.at i ∧ Ev tb W G T cs1 fun sb cs2 => ∃ j, sb = rInt.at j ∧ K (rInt.at (g i j)) cs2) :
    Ev (tOp (rI0 fun i j => .int (g i j)) ta tb) W G T cs K := fun s H st Q q => by
  refine ha s H st _ fun sa cs1 ⟨i, e, hb⟩ va H1 st1 => ?_
  subst e
  refine hb s H1 st1.pop _ fun sb cs2 ⟨j, e, k⟩ vb H2 st2 => ?_
  subst e
  exact ⟨i, j, int_top st1, int_top st2, q _ _ k _ H2 (st2.pop.push fun _ => rfl)⟩
theorem e_opB0 {g : Int → Int → Bool} (ha : Ev ta W G T cs fun sa cs1 => ∃ i, sa = rInt.at i ∧ Ev tb W G T cs1 fun sb cs2 => ∃ j, sb = rInt.at j ∧ K (rBool.at (g i j)) cs2) :
    Ev (tOp (rI0 fun i j => .bl (g i j)) ta tb) W G T cs K := fun s H st Q q => by
  refine ha s H st _ fun sa cs1 ⟨i, e, hb⟩ va H1 st1 => ?_
  subst e
  refine hb s H1 st1.pop _ fun sb cs2 ⟨j, e, k⟩ vb H2 st2 => ?_
  subst e
  exact ⟨i, j, int_top st1, int_top st2, q _ _ k _ H2 (st2.pop.push fun _ => rfl)⟩
theorem e_opO {C : Int → Int → Prop} {g : Int → Int → Int} {o : Int → Int → Option Int} (ho : ∀ i j t, o i j = some t → C i j ∧ t = g i j)
    (ha : Ev ta W G T cs fun sa cs1 => ∃ i, sa = rInt.at i ∧ Ev tb W G T cs1 fun sb cs2 => ∃ j t, sb = rInt.at j ∧ o i j = some t ∧ K (rInt.at t) cs2) :
    Ev (tOp (rI C fun i j => .int (g i j)) ta tb) W G T cs K := fun s H st Q q => by
  refine ha s H st _ fun sa cs1 ⟨i, e, hb⟩ va H1 st1 => ?_
  subst e
  refine hb s H1 st1.pop _ fun sb cs2 ⟨j, t, e, et, k⟩ vb H2 st2 => ?_
  subst e
  obtain ⟨hc, e⟩ := ho i j t et
  subst e
  exact ⟨i, j, int_top st1, int_top st2, hc, q _ _ k _ H2 (st2.pop.push fun _ => rfl)⟩
theorem e_un {g : Int → Int} (ha : Ev ta W G T cs fun sa cs1 => ∃ i, sa = rInt.at i ∧ K (rInt.at (g i)) cs1) : Ev (tUn (rU fun i => .int (g i)) ta) W G T cs K := fun s H st Q q => by
  refine ha s H st _ fun sa cs1 ⟨i, e, k⟩ va H1 st1 => ?_
  subst e
  exact ⟨i, int_top st1, q _ _ k _ H1 (st1.pop.push fun _ => rfl)⟩
theorem e_eqI (ha : Ev ta W G T cs fun sa cs1 => ∃ i, sa = rInt.at i ∧ Ev tb W G T cs1 fun sb cs2 => ∃ j, sb = rInt.at j ∧ K (rBool.at (decide (i = j))) cs2) :
    Ev (tOp rEq ta tb) W G T cs K := fun s H st Q q => by
  refine ha s H st _ fun sa cs1 ⟨i, e, hb⟩ va H1 st1 => ?_
  subst e
  refine hb s H1 st1.pop _ fun sb cs2 ⟨j, e, k⟩ vb H2 st2 => ?_
  subst e
  rw [int_top st1, int_top st2]
  refine ⟨rfl, q _ _ k _ H2 (st2.pop.push fun _ => ?_)⟩
  show V.bl _ = V.bl _
  congr 1
  simp
theorem e_neI (ha : Ev ta W G T cs fun sa cs1 => ∃ i, sa = rInt.at i ∧ Ev tb W G T cs1 fun sb cs2 => ∃ j, sb = rInt.at j ∧ K (rBool.at (!decide (i = j))) cs2) :
    Ev (tOp rNe ta tb) W G T cs K := fun s H st Q q => by
  refine ha s H st _ fun sa cs1 ⟨i, e, hb⟩ va H1 st1 => ?_
  subst e
  refine hb s H1 st1.pop _ fun sb cs2 ⟨j, e, k⟩ vb H2 st2 => ?_
  subst e
  rw [int_top st1, int_top st2]
  refine ⟨rfl, q _ _ k _ H2 (st2.pop.push fun _ => ?_)⟩
  show V.bl _ = V.bl _
  congr 1
  simp

/-! ### tests -/
theorem t_val (ha : Ev ta W G T cs fun sa cs1 => ∃ b, sa = rBool.at b ∧ KB b cs1) : Et (tB ta) W G T cs KB := fun s H st Q q => by
  refine ha s H st _ fun sa cs1 ⟨b, e, k⟩ va H1 st1 => ?_
  subst e
  exact ⟨b, bool_top st1, q b cs1 k H1 st1.pop⟩
theorem t_test (ha : Ev ta W G T cs fun sa cs1 => ∃ b, sa = rBool.at b ∧ KB b cs1) : Et (tTest ta) W G T cs KB := fun s H st Q q => by
  refine ha s H st _ fun sa cs1 ⟨b, e, k⟩ va H1 st1 => ?_
  subst e
  exact ⟨b, bool_top st1, q b cs1 k H1 st1.pop⟩
theorem t_not (ha : Et tt W G T cs fun b cs1 => KB (!b) cs1) : Et (tNot tt) W G T cs KB := fun s H st Q q => ha s H st _ fun b cs1 k H1 st1 => q (!b) cs1 k H1 st1
/-- and: total right side -/
theorem t_and {c : Bool} {d : Bool} {cs' : Cells} (ha : Et tt W G T cs fun b cs1 => b = c ∧ (c = true → Et tu W G T cs1 fun b2 cs2 => b2 = d ∧ cs2 = cs') ∧ (c = false → d = false ∧ cs1 = cs')) (k : KB d cs') : Et (tAnd tt tu) W G T cs KB := fun s H st Q q => by
  refine ha s H st _ fun b cs1 ⟨e, h1, h2⟩ H1 st1 => ?_
  subst e
  cases b with
  | true => rw [if_pos rfl]; exact h1 rfl s H1 st1 _ fun b2 cs2 ⟨e1, e2⟩ H2 st2 => by subst e1 e2; exact q _ _ k H2 st2
  | false => rw [if_neg Bool.false_ne_true]; obtain ⟨e1, e2⟩ := h2 rfl; subst e1 e2; exact q _ _ k H1 st1
theorem t_or {c : Bool} {d : Bool} {cs' : Cells} (ha : Et tt W G T cs fun b cs1 => b = c ∧ (c = false → Et tu W G T cs1 fun b2 cs2 => b2 = d ∧ cs2 = cs') ∧ (c = true → d = true ∧ cs1 = cs')) (k : KB d cs') : Et (tOr tt tu) W G T cs KB := fun s H st Q q => by
  refine ha s H st _ fun b cs1 ⟨e, h1, h2⟩ H1 st1 => ?_
  subst e
  cases b with
  | false => rw [if_neg Bool.false_ne_true]; exact h1 rfl s H1 st1 _ fun b2 cs2 ⟨e1, e2⟩ H2 st2 => by subst e1 e2; exact q _ _ k H2 st2
  | true => rw [if_pos rfl]; obtain ⟨e1, e2⟩ := h2 rfl; subst e1 e2; exact q _ _ k H1 st1
theorem e_and {c : Bool} {d : Bool} {cs' : Cells} (ha : Ev ta W G T cs fun sa cs1 => sa = rBool.at c ∧ (c = true → Ev tb W G T cs1 fun sb cs2 => sb = rBool.at d ∧ cs2 = cs') ∧ (c = false → d = false ∧ cs1 = cs')) (k : K (rBool.at d) cs') : Ev (tAndV ta tb) W G T cs K := fun s H st Q q => by
  refine ha s H st _ fun sa cs1 ⟨e, h1, h2⟩ va H1 st1 => ?_
  subst e
  refine ⟨c, bool_top st1, ?_⟩
  cases c with
  | true => rw [if_pos rfl]; exact h1 rfl s H1 st1.pop _ fun sb cs2 ⟨e1, e2⟩ vb H2 st2 => by subst e1 e2; exact q _ _ k _ H2 st2
  | false => rw [if_neg Bool.false_ne_true]; obtain ⟨e1, e2⟩ := h2 rfl; subst e1 e2; exact q _ _ k _ H1 (st1.pop.push fun _ => rfl)
theorem e_not (ha : Ev ta W G T cs fun sa cs1 => ∃ b, sa = rBool.at b ∧ K (rBool.at (!b)) cs1) : Ev (tNotV ta) W G T cs K := fun s H st Q q => by
  refine ha s H st _ fun sa cs1 ⟨b, e, k⟩ va H1 st1 => ?_
  subst e
  exact ⟨b, bool_top st1, q _ _ k _ H1 (st1.pop.push fun _ => rfl)⟩
/-- a if t else b: the answer's description is said ahead -/
theorem e_if {c : Bool} {sl : Sl} {cs' : Cells} (ht : Et tt W G T cs fun b cs1 => b = c ∧ (c = true → Ev ta W G T cs1 fun sa cs2 => sa = sl ∧ cs2 = cs') ∧ (c = false → Ev tb W G T cs1 fun sb cs2 => sb = sl ∧ cs2 = cs')) (k : K sl cs') : Ev (tIf tt ta tb) W G T cs K := fun s H st Q q => by
  refine ht s H st _ fun b cs1 ⟨e, h1, h2⟩ H1 st1 => ?_
  subst e
  cases b with
  | true => rw [if_pos rfl]; exact h1 rfl s H1 st1 _ fun sb cs2 ⟨e1, e2⟩ vb H2 st2 => by subst e1 e2; exact q _ _ k _ H2 st2
  | false => rw [if_neg Bool.false_ne_true]; exact h2 rfl s H1 st1 _ fun sb cs2 ⟨e1, e2⟩ vb H2 st2 => by subst e1 e2; exact q _ _ k _ H2 st2

/-! ### arguments -/
theorem ea_nil {K : List Sl → Cells → Prop} (k : K [] cs) : EvA tNil W G T cs K := fun s H ⟨F, c, sg, t⟩ Q q => q [] cs k [] H ⟨F, c, sg, t, .nil⟩
theorem ea_cons {K : List Sl → Cells → Prop} {tr : TA} (ha : Ev ta W G T cs fun sa cs1 => ∀ va, EvA tr W G ((va, sa) :: T) cs1 fun sls cs2 => K (sa :: sls) cs2) : EvA (tCons ta tr) W G T cs K := fun s H st Q q => by
  refine ha s H st _ fun sa cs1 h1 va H1 st1 => ?_
  refine h1 va s H1 st1 _ fun sls cs2 k vs H2 ⟨F, c, sg, t, ar⟩ => ?_
  exact q _ _ k _ H2 ⟨F, c, sg, t.tail, .cons t.head ar⟩
end
end ML

namespace ML
open PySem PySem.Spec PyProof.Rows L2

section
variable {W : Wd} {G G' : Gam} {T : Tms} {cs : Cells} {K : Sl → Cells → Prop} {KB : Bool → Cells → Prop} {ta tb tc te : TE} {tt tu : TT} {D : Ends} {t1 t2 : TS} {α β γ ρ : Type}

/-! ## statements -/
variable {nx bk ct : L2.St → Hp → Prop} {rt : VK}
def NxT (P : L2.St → Hp → Prop) (W : Wd) (G : Gam) (T : Tms) (cs : Cells) : Prop := ∀ s H, Sta W G T cs s H → P s H
theorem s_seq (h : NxT (t1 ⟨t2 ⟨nx, rt, bk, ct⟩, rt, bk, ct⟩) W G T cs) : NxT (tSeq t1 t2 ⟨nx, rt, bk, ct⟩) W G T cs := h
theorem s_next (h : NxT nx W G T cs) : NxT (tNext ⟨nx, rt, bk, ct⟩) W G T cs := h
theorem Slots.set {F : Hp} {s : L2.St} {i : Nat} {v : V} {sl : Sl} (h : Slots F G s) (hv : sl.p F v) : Slots F (G.set i (some sl)) (s.set i (some v)) := by
  refine ⟨by rw [List.length_set, List.length_set]; exact h.1, fun j sl' hj => ?_⟩
  rw [List.getElem?_set] at hj ⊢
  by_cases e : i = j
  · subst e
    rw [if_pos rfl] at hj ⊢
    split at hj
    · rename_i hl
      cases hj
      rw [if_pos (by rw [h.1]; exact hl)]
      exact ⟨v, rfl, hv⟩
    · cases hj
  · rw [if_neg e] at hj ⊢
    exact h.2 j sl' hj
theorem s_set {i : Nat} (h : Ev te W G T cs fun sl cs1 => NxT nx W (G.set i (some sl)) T cs1) : NxT (tAsg te (gName i) ⟨nx, rt, bk, ct⟩) W G T cs := fun s H st => by
  refine h s H st _ fun sl cs1 k v H1 ⟨F, c, sg, t⟩ => ?_
  exact k _ H1 ⟨F, c, sg.set t.head, t.tail⟩
theorem s_drop (h : Ev te W G T cs fun _ cs1 => NxT nx W G T cs1) : NxT (tDrop te ⟨nx, rt, bk, ct⟩) W G T cs := fun s H st => by
  refine h s H st _ fun sl cs1 k v H1 st1 => ?_
  exact k _ H1 st1.pop
theorem s_ret (h : Ev te W G T cs fun sl cs1 => Rt rt W sl cs1) : NxT (tRet te ⟨nx, rt, bk, ct⟩) W G T cs := fun s H st => by
  refine h s H st _ fun sl cs1 k v H1 ⟨F, c, sg, t⟩ => ?_
  exact k _ H1 ⟨F, c, t.head⟩
theorem Rt.imp {P : VK} {sl sl' : Sl} (h : Rt P W sl cs) (f : ∀ F v, sl'.p F v → sl.p F v) : Rt P W sl' cs := fun v H ⟨F, c, q⟩ => h v H ⟨F, c, f _ _ q⟩
theorem Rt.drop {P : VK} {sl : Sl} {cs' : Cells} (h : Rt P W sl cs) (hs : cs.Sublist cs') : Rt P W sl cs' := fun v H ⟨F, c, q⟩ => h v H ⟨F, c.drop hs, q⟩
theorem s_if (h : Et tt W G T cs fun b cs1 => (b = true → NxT (t1 D) W G T cs1) ∧ (b = false → NxT (t2 D) W G T cs1)) : NxT (tIfS tt t1 t2 D) W G T cs := fun s H st => by
  refine h s H st _ fun b cs1 ⟨k1, k2⟩ H1 st1 => ?_
  cases b with
  | true => rw [if_pos rfl]; exact k1 rfl s H1 st1
  | false => rw [if_neg Bool.false_ne_true]; exact k2 rfl s H1 st1
/-- weaken: slots forgotten, cells forgotten -/
def Wkn : Gam → Gam → Prop
  | [], [] => True
  | _ :: g, none :: g' => Wkn g g'
  | some a :: g, some b :: g' => a = b ∧ Wkn g g'
  | _, _ => False
theorem Wkn.get : ∀ {g g' : Gam}, Wkn g g' → g.length = g'.length ∧ ∀ (i : Nat) (sl : Sl), g'[i]? = some (some sl) → g[i]? = some (some sl)
  | [], [], _ => ⟨rfl, fun _ _ h => h⟩
  | [], none :: _, h => h.elim
  | [], some _ :: _, h => h.elim
  | none :: _, [], h => h.elim
  | some _ :: _, [], h => h.elim
  | none :: g, some _ :: _, h => h.elim
  | x :: g, none :: g', h => by
    have h' : Wkn g g' := by cases x <;> exact h
    obtain ⟨h1, h2⟩ := Wkn.get h'
    refine ⟨by rw [List.length_cons, List.length_cons, h1], fun i sl hi => ?_⟩
    cases i with
    | zero => simp at hi
    | succ i => simpa using h2 i sl (by simpa using hi)
  | some a :: g, some b :: g', ⟨e, h⟩ => by
    subst e
    obtain ⟨h1, h2⟩ := Wkn.get h
    refine ⟨by rw [List.length_cons, List.length_cons, h1], fun i sl hi => ?_⟩
    cases i with
    | zero => exact hi
    | succ i => simpa using h2 i sl (by simpa using hi)
theorem Slots.weak {F : Hp} {s : L2.St} (w : Wkn G G') (h : Slots F G s) : Slots F G' s := by
  obtain ⟨h1, h2⟩ := w.get
  exact ⟨h.1.trans h1, fun i sl hi => h.2 i sl (h2 i sl hi)⟩
theorem s_weak {P : L2.St → Hp → Prop} {cs' : Cells} (w : Wkn G G') (hs : cs'.Sublist cs) (h : NxT P W G' T cs') : NxT P W G T cs := fun s H ⟨F, c, sg, t⟩ => h s H ⟨F, c.drop hs, sg.weak w, t⟩
/-- the list in a slot stands still from here on -/
theorem s_freeze {P : L2.St → Hp → Prop} {r : R α} {xs : List α} {p : Addr} (i j : Nat) (hi : G[i]? = some (some (sRef p))) (hj : cs[j]? = some (p, cLst r xs)) (h : NxT P W (G.set i (some ((rLst r).at xs))) T (cs.eraseIdx j)) : NxT P W G T cs := fun s H ⟨F, c, sg, t⟩ => by
  obtain ⟨o, F', h1, ⟨hz, vs, e, h2⟩, h3, sF, c'⟩ := c.freeze hj
  subst e
  obtain ⟨v, hv, ev⟩ := sg.2 i _ hi
  have hs : s = s.set i (some v) := by
    apply List.ext_getElem?
    intro k
    rw [List.getElem?_set]
    split
    · rename_i e; subst e; split
      · exact hv
      · rename_i hn; rw [List.getElem?_eq_none (by omega)]
    · rfl
  have ev' : v = .ref p := ev
  refine h s H ⟨F', c', ?_, t.mono sF⟩
  rw [hs]
  exact (sg.mono sF).set ⟨hz, p, vs, ev', h3, h2⟩

/-! ## targets -/
theorem wipe_get (s : L2.St) (j : Nat) : ∀ vs : List Nat, (wipe s vs)[j]? = if j ∈ vs then (if j < s.length then some none else none) else s[j]?
  | [] => by simp [wipe]
  | v :: vs => by
    unfold wipe
    rw [List.getElem?_set, wipe_get s j vs, wipe_length]
    by_cases e : v = j
    · subst e; simp
    · rw [if_neg e]
      have : (j ∈ v :: vs) ↔ j ∈ vs := by simp [Ne.symm e]
      simp only [this]
theorem wipe_set (s : L2.St) (i : Nat) (x : Option V) (vs : List Nat) (h : i ∈ vs) : wipe (s.set i x) vs = wipe s vs := by
  apply List.ext_getElem?
  intro j
  rw [wipe_get, wipe_get, List.length_set, List.getElem?_set]
  by_cases e : i = j
  · subst e; simp [h]
  · rw [if_neg e]
theorem wipe_wipe (s : L2.St) (vs : List Nat) : wipe (wipe s vs) vs = wipe s vs := by
  apply List.ext_getElem?
  intro j
  rw [wipe_get, wipe_get, wipe_length]
  by_cases e : j ∈ vs <;> simp [e]
def wipeG (G : Gam) : List Nat → Gam
  | [] => G
  | v :: vs => (wipeG G vs).set v none
theorem Slots.wipe {F : Hp} {s : L2.St} (h : Slots F G s) : ∀ vs : List Nat, Slots F (wipeG G vs) (L2.wipe s vs)
  | [] => h
  | v :: vs => by
    have ih := Slots.wipe h vs
    refine ⟨by unfold wipeG L2.wipe; rw [List.length_set, List.length_set]; exact ih.1, fun j sl hj => ?_⟩
    unfold wipeG at hj
    unfold L2.wipe
    rw [List.getElem?_set] at hj ⊢
    by_cases e : v = j
    · subst e; rw [if_pos rfl] at hj; split at hj <;> cases hj
    · rw [if_neg e] at hj ⊢; exact ih.2 j sl hj
def Tg (g : TG) (is : List Nat) (W : Wd) (G : Gam) (T : Tms) (cs : Cells) (sl : Sl) (K : Gam → Prop) : Prop :=
  ∀ v s H, Sta W G ((v, sl) :: T) cs s H → ∀ Q : L2.St → Hp → Prop, (∀ G', K G' → ∀ s', Sta W G' T cs s' H → (∀ vs : List Nat, (∀ i ∈ is, i ∈ vs) → wipe s' vs = wipe s vs) → Q s' H) → g v s H Q
theorem g_name {i : Nat} {sl : Sl} {K : Gam → Prop} (k : K (G.set i (some sl))) : Tg (gName i) [i] W G T cs sl K := fun v s H ⟨F, c, sg, t⟩ Q q =>
  q _ k _ ⟨F, c, sg.set t.head, t.tail⟩ fun vs h => wipe_set s i _ vs (h i (by simp))
theorem g_pair {KF : PySem.W.Frag} {i j : Nat} {r : R α} {q : R β} {x : α × β} {K : Gam → Prop} (k : K ((G.set i (some (r.at x.1))).set j (some (q.at x.2)))) : Tg (gTup KF 2 (gCons (gName i) (gCons (gName j) gNil))) [i, j] W G T cs ((rPair r q).at x) K := fun v s H ⟨F, c, sg, t⟩ Q k' => by
  obtain ⟨a, u, w, h1, h2, h3, h4⟩ := t.head
  refine ⟨a, [u, w], h1, SqT.of (c.fh _ _ h2), rfl, u, [w], rfl, w, [], rfl, rfl, ?_⟩
  refine k' _ k _ ⟨F, c, (sg.set h3).set h4, t.tail⟩ fun vs h => ?_
  rw [wipe_set _ j _ vs (h j (by simp)), wipe_set _ i _ vs (h i (by simp))]
/-! ## what is walked -/
structure Wk (J : It) (W : Wd) (T0 : Tms) (items : List Sl) : Prop where
  go : ∀ i F H cs, i < items.length → Core W F cs H → Temps F T0 → J.go i H
  yld : ∀ i F H cs x H' sl, items[i]? = some sl → Core W F cs H → Temps F T0 → J.yld i H x H' → ∃ F', Core W F' cs H' ∧ Same F F' ∧ sl.p F' x
  stop : ∀ F H cs, Core W F cs H → Temps F T0 → J.stop items.length H
def EvI (wi : TI) (W : Wd) (G : Gam) (T : Tms) (cs : Cells) (K : List Sl → Cells → Prop) : Prop :=
  ∀ s H, Sta W G T cs s H → ∀ R : It → Hp → Prop, (∀ J T0 items cs', K items cs' → items.length ≤ sizeLine → (∀ B, Wk J ⟨W.F, B⟩ T0 items) → ∀ H', Sta W G (T0 ++ T) cs' s H' → R J H') → wi s H R
/-- the same, for worlds that have this one's background -/
def EvIB (wi : TI) (W : Wd) (G : Gam) (T : Tms) (cs : Cells) (K : List Sl → Cells → Prop) : Prop :=
  ∀ s H, Sta W G T cs s H → ∀ R : It → Hp → Prop, (∀ J T0 items cs', K items cs' → items.length ≤ sizeLine → (∀ B, Same W.B B → Wk J ⟨W.F, B⟩ T0 items) → ∀ H', Sta W G (T0 ++ T) cs' s H' → R J H') → wi s H R
theorem EvI.toB {wi : TI} {W : Wd} {G : Gam} {T : Tms} {cs : Cells} {K : List Sl → Cells → Prop} (h : EvI wi W G T cs K) : EvIB wi W G T cs K := fun s H st R q => h s H st R fun J T0 items cs' k hz wk H' st' => q J T0 items cs' k hz (fun B _ => wk B) H' st'
theorem Temps.app {F : Hp} {T0 T : Tms} (h0 : Temps F T0) (h : Temps F T) : Temps F (T0 ++ T) := fun x hx => (List.mem_append.mp hx).elim (h0 x) (h x)
theorem Temps.left {F : Hp} {T0 T : Tms} (h : Temps F (T0 ++ T)) : Temps F T0 := fun x hx => h x (List.mem_append_left _ hx)
theorem Temps.right {F : Hp} {T0 T : Tms} (h : Temps F (T0 ++ T)) : Temps F T := fun x hx => h x (List.mem_append_right _ hx)
theorem Core.B {F : Hp} {H : Hp} (h : Core W F cs H) (B : Hp) (h1 : Same B H) (h2 : ∀ a o, B a = some o → F a = none) (h3 : ∀ x ∈ cs, B x.1 = none) : Core ⟨W.F, B⟩ F cs H :=
  ⟨h.f0, h.fh, h1, h2, h.nd, fun x hx => ⟨(h.cell x hx).1, h3 x hx, (h.cell x hx).2.2⟩⟩
theorem i_tup {KF : PySem.W.Frag} {KI : List Sl → Cells → Prop} (h : Ev te W G T cs fun sl cs1 => ∃ (α : Type) (r : R α) (xs : List α), sl = (rTup r).at xs ∧ KI (xs.map r.at) cs1) : EvI (iTup KF te) W G T cs KI := fun s H st R q => by
  refine h s H st _ fun sl cs1 ⟨α, r, xs, e, k⟩ v H1 st1 => ?_
  subst e
  obtain ⟨F, c, sg, t⟩ := id st1
  obtain ⟨hz, a, vs, rfl, hF, hA⟩ := t.head
  refine ⟨a, rfl, ⟨vs, SqT.of (c.fh _ _ hF)⟩, q _ [(V.ref a, (rTup r).at xs)] _ cs1 k (by rw [List.length_map]; exact hz) (fun B => ?_) H1 st1⟩
  have get : ∀ (F : Hp), Temps F [(V.ref a, (rTup r).at xs)] → ∃ us, F a = some (.tup us) ∧ All2 (fun x u => r.p x F u) xs us := fun F t => by
    obtain ⟨_, a', us, e, h1, h2⟩ := t.head
    cases e
    exact ⟨us, h1, h2⟩
  refine ⟨fun i F H cs hi c t => ?_, fun i F H cs x H' sl hi c t y => ?_, fun F H cs c t => ?_⟩
  · obtain ⟨us, h1, h2⟩ := get F t
    rw [List.length_map] at hi
    obtain ⟨u, h3, _⟩ := h2.get (List.getElem?_eq_getElem hi)
    exact ⟨us, u, SqT.of (c.fh _ _ h1), h3⟩
  · obtain ⟨us, h1, h2⟩ := get F t
    obtain ⟨e, y⟩ := y
    subst e
    have y' := y us (SqT.of (c.fh _ _ h1))
    rw [List.getElem?_map] at hi
    obtain ⟨z, hz', ez⟩ := h2.get' y'
    rw [hz'] at hi
    cases hi
    exact ⟨F, c, Same.refl F, ez⟩
  · obtain ⟨us, h1, h2⟩ := get F t
    exact ⟨us, SqT.of (c.fh _ _ h1), by rw [List.length_map, ← h2.length]; exact Nat.le_refl _⟩
theorem i_lst {KF : PySem.W.Frag} {KI : List Sl → Cells → Prop} (h : Ev te W G T cs fun sl cs1 => ∃ (α : Type) (r : R α) (xs : List α), sl = (rLst r).at xs ∧ KI (xs.map r.at) cs1) : EvI (iList KF te) W G T cs KI := fun s H st R q => by
  refine h s H st _ fun sl cs1 ⟨α, r, xs, e, k⟩ v H1 st1 => ?_
  subst e
  obtain ⟨F, c, sg, t⟩ := id st1
  obtain ⟨hz, a, vs, rfl, hF, hA⟩ := t.head
  refine ⟨a, rfl, ⟨vs, SqL.of (c.fh _ _ hF)⟩, q _ [(V.ref a, (rLst r).at xs)] _ cs1 k (by rw [List.length_map]; exact hz) (fun B => ?_) H1 st1⟩
  have get : ∀ (F : Hp), Temps F [(V.ref a, (rLst r).at xs)] → ∃ us, F a = some (.lst us) ∧ All2 (fun x u => r.p x F u) xs us := fun F t => by
    obtain ⟨_, a', us, e, h1, h2⟩ := t.head
    cases e
    exact ⟨us, h1, h2⟩
  refine ⟨fun i F H cs hi c t => ?_, fun i F H cs x H' sl hi c t y => ?_, fun F H cs c t => ?_⟩
  · obtain ⟨us, h1, h2⟩ := get F t
    rw [List.length_map] at hi
    obtain ⟨u, h3, _⟩ := h2.get (List.getElem?_eq_getElem hi)
    exact ⟨us, u, SqL.of (c.fh _ _ h1), h3⟩
  · obtain ⟨us, h1, h2⟩ := get F t
    obtain ⟨e, y⟩ := y
    subst e
    have y' := y us (SqL.of (c.fh _ _ h1))
    rw [List.getElem?_map] at hi
    obtain ⟨z, hz', ez⟩ := h2.get' y'
    rw [hz'] at hi
    cases hi
    exact ⟨F, c, Same.refl F, ez⟩
  · obtain ⟨us, h1, h2⟩ := get F t
    exact ⟨us, SqL.of (c.fh _ _ h1), by rw [List.length_map, ← h2.length]; exact Nat.le_refl _⟩
def rangeI (lo hi : Int) : List Int := (List.range (hi - lo).toNat).map fun (k : Nat) => lo + (k : Int)
theorem wk_range (lo : Int) (n : Nat) (B : Hp) : Wk (Itr lo n) ⟨W.F, B⟩ [] (((List.range n).map fun (k : Nat) => lo + (k : Int)).map rInt.at) := by
  refine ⟨fun i F H cs hi c t => by show i < n; simpa using hi, fun i F H cs x H' sl hi c t y => ?_, fun F H cs c t => by show n ≤ _; simp⟩
  obtain ⟨e, y⟩ := y
  subst e
  rw [List.getElem?_map, List.getElem?_map] at hi
  refine ⟨F, c, Same.refl F, ?_⟩
  by_cases hl : i < n
  · rw [List.getElem?_range hl] at hi
    cases hi
    exact y
  · rw [List.getElem?_eq_none (by simp; omega)] at hi
    cases hi
def small62 (i : Int) : Prop := -(2 ^ 62) ≤ i ∧ i < 2 ^ 62
instance {i : Int} : Decidable (small62 i) := by unfold small62; infer_instance
def oRange (i j : Int) : Option (List Int) := if small62 i ∧ small62 j ∧ (j - i).toNat ≤ sizeLine then some (rangeI i j) else none
theorem oRange_ok {i j : Int} {xs : List Int} (h : oRange i j = some xs) : (small62 i ∧ small62 j ∧ (j - i).toNat ≤ sizeLine) ∧ xs = rangeI i j := by
  unfold oRange at h
  split at h
  · rename_i hc; exact ⟨hc, (Option.some.inj h).symm⟩
  · cases h
theorem len_rangeI (i j : Int) : (rangeI i j).length = (j - i).toNat := by unfold rangeI; simp
theorem args1i {F : Hp} {j : Int} {vs : List V} (ar : Args F [rInt.at j] vs) : vs = [.int j] := by
  cases ar with
  | cons a b => cases b; rw [show _ = V.int j from a]
theorem args2 {F : Hp} {i j : Int} {vs : List V} (ar : Args F [rInt.at i, rInt.at j] vs) : vs = [.int i, .int j] := by
  cases ar with
  | cons a b =>
    cases b with
    | cons a' b' => cases b'; rw [show _ = V.int i from a, show _ = V.int j from a']
theorem i_range1 {t : TA} {KI : List Sl → Cells → Prop} (h : EvA t W G T cs fun sls cs1 => ∃ (j : Int) (xs : List Int), sls = [rInt.at j] ∧ oRange 0 j = some xs ∧ KI (xs.map rInt.at) cs1) : EvI (iRng1 t) W G T cs KI := fun s H st R q => by
  refine h s H st _ fun sls cs1 ⟨j, xs, e, ho, k⟩ vs H1 ⟨F, c, sg, t, ar⟩ => ?_
  subst e
  obtain ⟨⟨_, ⟨b1, b2⟩, b3⟩, e⟩ := oRange_ok ho
  subst e
  have e := args1i ar
  subst e
  refine ⟨j, rfl, b1, b2, q _ [] _ cs1 k (by rw [List.length_map, len_rangeI]; exact b3) (fun B => ?_) H1 ⟨F, c, sg, t⟩⟩
  have := wk_range (W := W) 0 j.toNat B
  unfold rangeI
  rw [Int.sub_zero]
  exact this
/-! ## for -/
inductive Fl (ρ β : Type) where
  | go (b : β) | brk (b : β) | ret (r : ρ)
inductive Lo (ρ β : Type) where
  | go (b : β) | ret (r : ρ)
def loopO (f : β → α → Option (Fl ρ β)) : List α → β → Option (Lo ρ β)
  | [], b => some (.go b)
  | x :: xs, b => match f b x with
    | none => none
    | some (.go b') => loopO f xs b'
    | some (.brk b') => some (.go b')
    | some (.ret r) => some (.ret r)
def foldO (f : β → α → Option β) : List α → β → Option β
  | [], b => some b
  | x :: xs, b => match f b x with
    | none => none
    | some b' => foldO f xs b'
theorem foldO_loop (f : β → α → Option β) : ∀ (xs : List α) (b b' : β), foldO f xs b = some b' → loopO (ρ := Empty) (fun b x => (f b x).map .go) xs b = some (.go b')
  | [], b, b', h => by cases h; rfl
  | x :: xs, b, b', h => by
    unfold foldO at h
    unfold loopO
    cases e : f b x with
    | none => rw [e] at h; cases h
    | some c => rw [e] at h; exact foldO_loop f xs c b' h
theorem for_sound {wi : TI} {g : TG} {tb : TS} {is : List Nat} (h : EvI wi W G T cs fun items cs1 => ∃ (α β ρ : Type) (r : R α) (xs : List α) (b0 : β) (f : β → α → Option (Fl ρ β)) (out : Lo ρ β) (Gb : β → Gam) (cb : β → Cells),
      items = xs.map r.at ∧ loopO f xs b0 = some out ∧ Wkn G (Gb b0) ∧ cs1 = cb b0 ∧
      (∀ T' b x fl, f b x = some fl → ∀ N Bk : L2.St → Hp → Prop, (∀ b', fl = .go b' → NxT N W (Gb b') T' (cb b')) → (∀ b', fl = .brk b' → NxT Bk W (Gb b') T' (cb b')) → (∀ z, fl = .ret z → out = .ret z) →
        Tg g is W (Gb b) T' (cb b) (r.at x) fun G' => NxT (tb ⟨N, rt, Bk, N⟩) W G' T' (cb b)) ∧
      (∀ b', out = .go b' → NxT nx W (Gb b') T (cb b'))) : NxT (tFor wi g tb ⟨nx, rt, bk, ct⟩) W G T cs := fun s H st => by
  refine h s H st _ fun J T0 items cs1 ⟨α, β, ρ, r, xs, b0, f, out, Gb, cb, e1, hl, hw, e2, body, after⟩ hz wk H1 ⟨F1, c1, sg1, t1⟩ => ?_
  subst e1 e2
  have wk := wk W.B
  refine ⟨fun i m s H => i + m = xs.length ∧ ∃ b, loopO f (xs.drop i) b = some out ∧ Sta W (Gb b) (T0 ++ T) (cb b) s H, ⟨xs.length, by omega, b0, hl, F1, c1, sg1.weak hw, t1⟩, ?_⟩
  rintro i m s H ⟨em, b, hlo, F, c, sg, t⟩
  by_cases hi : i < xs.length
  · refine .inr ⟨wk.go i F H _ (by simpa using hi) c t.left, ?_⟩
    have hd : xs.drop i = xs[i] :: xs.drop (i + 1) := List.drop_eq_getElem_cons hi
    rw [hd] at hlo
    unfold loopO at hlo
    cases ef : f b xs[i] with
    | none => rw [ef] at hlo; cases hlo
    | some fl =>
      rw [ef] at hlo
      have bd : ∀ b', out = .go b' → NxT nx W (Gb b') (T0 ++ T) (cb b') := fun b' eo s H ⟨F, c, sg, t⟩ => after b' eo s H ⟨F, c, sg, t.right⟩
      refine ⟨fun s' H' => ∃ b', fl = .go b' ∧ Sta W (Gb b') (T0 ++ T) (cb b') s' H', fun s' H' ⟨b', ef', st'⟩ => ?_, fun x H' y => ?_⟩
      · subst ef'
        exact ⟨m - 1, by omega, by omega, b', hlo, st'⟩
      · have hx : (xs.map r.at)[i]? = some (r.at xs[i]) := by rw [List.getElem?_map, List.getElem?_eq_getElem hi]; rfl
        obtain ⟨F', c', sF, px⟩ := wk.yld i F H _ x H' _ hx c t.left y
        refine body (T0 ++ T) b xs[i] fl ef _ nx (fun b' e s H st => ⟨b', e, st⟩) (fun b' e => ?_) (fun z e => ?_) x s H' ⟨F', c', sg.mono sF, (t.mono sF).cons px⟩ _ fun G' k s' st' _ => k s' H' st'
        · subst e
          exact bd b' (Option.some.inj hlo).symm
        · subst e
          exact (Option.some.inj hlo).symm
  · have ei : i = xs.length := by omega
    subst ei
    refine .inl ⟨?_, ?_⟩
    · have := wk.stop F H _ c t.left
      rwa [List.length_map] at this
    · rw [List.drop_length] at hlo
      exact after b (Option.some.inj hlo).symm s H ⟨F, c, sg, t.right⟩
/-- no way out but the end -/
theorem fold_sound {wi : TI} {g : TG} {tb : TS} {is : List Nat} (h : EvI wi W G T cs fun items cs1 => ∃ (α β : Type) (r : R α) (xs : List α) (b0 : β) (f : β → α → Option β) (out : β) (Gb : β → Gam) (cb : β → Cells),
      items = xs.map r.at ∧ foldO f xs b0 = some out ∧ Wkn G (Gb b0) ∧ cs1 = cb b0 ∧
      (∀ T' b x b', f b x = some b' → ∀ N Bk : L2.St → Hp → Prop, NxT N W (Gb b') T' (cb b') →
        Tg g is W (Gb b) T' (cb b) (r.at x) fun G' => NxT (tb ⟨N, rt, Bk, N⟩) W G' T' (cb b)) ∧
      NxT nx W (Gb out) T (cb out)) : NxT (tFor wi g tb ⟨nx, rt, bk, ct⟩) W G T cs := by
  refine for_sound (is := is) ?_
  intro s H st Q q
  refine h s H st Q fun J T0 items cs' ⟨α, β, r, xs, b0, f, out, Gb, cb, e1, hl, hw, e2, body, after⟩ hz wk H' st' => q J T0 items cs' ⟨α, β, Empty, r, xs, b0, _, .go out, Gb, cb, e1, foldO_loop f xs b0 out hl, hw, e2, fun T' b x fl hf N Bk hN _ _ => ?_, fun b' e => ?_⟩ hz wk H' st'
  · cases ef : f b x with
    | none => rw [ef] at hf; cases hf
    | some b' =>
      rw [ef] at hf
      cases hf
      exact body T' b x b' ef N Bk (hN b' rfl)
  · cases e; exact after

/-! ## comprehensions -/
def lcO (f : β → α → Option (Option γ × β)) : List α → β → Option (List γ × β)
  | [], b => some ([], b)
  | x :: xs, b => match f b x with
    | none => none
    | some (o, b') => match lcO f xs b' with
      | none => none
      | some (ys, b'') => some (match o with | some y => y :: ys | none => ys, b'')
theorem lcO_cons {f : β → α → Option (Option γ × β)} {x : α} {xs : List α} {b b2 : β} {ys : List γ} (h : lcO f (x :: xs) b = some (ys, b2)) : ∃ o b' zs, f b x = some (o, b') ∧ lcO f xs b' = some (zs, b2) ∧ ys = (match o with | some y => y :: zs | none => zs) := by
  unfold lcO at h
  cases e : f b x with
  | none => rw [e] at h; cases h
  | some p =>
    obtain ⟨o, b'⟩ := p
    rw [e] at h
    dsimp only at h
    cases e2 : lcO f xs b' with
    | none => rw [e2] at h; cases h
    | some q =>
      obtain ⟨zs, b3⟩ := q
      rw [e2] at h
      dsimp only at h
      have h' := Option.some.inj h
      exact ⟨o, b', zs, rfl, by rw [e2, (Prod.mk.inj h').2], (Prod.mk.inj h').1.symm⟩
/-- the list stays a cell -/
theorem lc_cellB {wi : TI} {g : TG} {vs : List Nat} {is : List Nat} (hvs : ∀ i ∈ is, i ∈ vs) (h : EvIB wi W G T cs fun items cs1 => ∃ (α β γ : Type) (r : R α) (xs : List α) (b0 : β) (f : β → α → Option (Option γ × β)) (ys : List γ) (b1 : β) (rr : R γ) (cb : β → Cells),
      items = xs.map r.at ∧ lcO f xs b0 = some (ys, b1) ∧ cs1 = cb b0 ∧
      (∀ W' T' b x o b', f b x = some (o, b') →
        Tg g is W' (wipeG G vs) T' (cb b) (r.at x) fun G' => Et tt W' G' T' (cb b) fun c cs3 => (c = true → Ev te W' G' T' cs3 fun sl cs4 => ∃ y, o = some y ∧ sl = rr.at y ∧ cs4 = cb b') ∧ (c = false → o = none ∧ cs3 = cb b')) ∧
      ∀ p, K (sRef p) (cb b1 ++ [(p, cLst rr ys)])) : Ev (tLc wi g tt te vs) W G T cs K := fun s H st Q q => by
  refine h s H st _ fun J T0 items cs1 ⟨α, β, γ, r, xs, b0, f, ys, b1, rr, cb, e1, hl, e2, body, k⟩ hsz wk H1 ⟨F1, c1, sg1, t1⟩ => ?_
  subst e1 e2
  rw [List.length_map] at hsz
  intro Dp hD
  have fD : F1 Dp = none := c1.fh.free hD
  have bD : W.B Dp = none := c1.bh.free hD
  -- the invariant: what is made so far
  refine ⟨fun i m H => i + m = xs.length ∧ ∃ (b : β) (acc : List γ) (zs : List γ), lcO f (xs.drop i) b = some (zs, b1) ∧ ys = acc ++ zs ∧ acc.length ≤ i ∧ ∃ F, Core W F (cb b ++ [(Dp, cLst rr acc)]) H ∧ Slots F G s ∧ Temps F (T0 ++ T), ⟨xs.length, by omega, b0, [], ys, hl, rfl, Nat.le_refl _, F1, c1.newCell hD ⟨Nat.zero_le _, [], rfl, .nil⟩, sg1, t1⟩, ?_⟩
  rintro i m H ⟨em, b, acc, zs, hlo, ey, hacc, F, c, sg, t⟩
  by_cases hi : i < xs.length
  · refine .inr ⟨(wk W.B fun _ _ e => e).go i F H _ (by simpa using hi) c t.left, ?_⟩
    have hd : xs.drop i = xs[i] :: xs.drop (i + 1) := List.drop_eq_getElem_cons hi
    rw [hd] at hlo
    obtain ⟨o, b', zs', hf, hl', ez⟩ := lcO_cons hlo
    refine ⟨_, fun H' hN => hN, fun x H' y => ?_⟩
    have hx : (xs.map r.at)[i]? = some (r.at xs[i]) := by rw [List.getElem?_map, List.getElem?_eq_getElem hi]; rfl
    obtain ⟨F', c', sF, px⟩ := (wk W.B fun _ _ e => e).yld i F H _ x H' _ hx c t.left y
    -- the list made so far goes to the background
    obtain ⟨d1, d2, od, d3, d4⟩ := c'.cell (Dp, cLst rr acc) (List.mem_append_right _ (by simp))
    have nb : ∀ x ∈ cb b, x.1 ≠ Dp := fun x hx e => by
      have nd := c'.nd
      rw [List.map_append, List.nodup_append] at nd
      exact nd.2.2 x.1 (List.mem_map_of_mem hx) Dp (by simp) e
    have cW : Core ⟨W.F, upd W.B Dp od⟩ F' (cb b) H' := by
      refine (c'.drop (List.sublist_append_left _ _)).B (upd W.B Dp od) (fun a o e => ?_) (fun a o e => ?_) fun x hx => ?_
      · by_cases ha : a = Dp
        · subst ha; rw [upd_same] at e; cases e; exact d3
        · rw [upd_ne ha] at e; exact c'.bh a o e
      · by_cases ha : a = Dp
        · subst ha; exact d1
        · rw [upd_ne ha] at e; exact c'.bf a o e
      · rw [upd_ne (nb x hx)]; exact (c'.cell x (List.mem_append_left _ hx)).2.1
    have back : ∀ {F2 : Hp} {cs2 : Cells} {H2 : Hp}, Core ⟨W.F, upd W.B Dp od⟩ F2 cs2 H2 → Core W F2 (cs2 ++ [(Dp, cLst rr acc)]) H2 ∨ ¬ Same F' F2 := fun {F2 cs2 H2} c2 => by
      by_cases hs : Same F' F2
      · refine .inl ⟨c2.f0, c2.fh, fun a o e => c2.bh a o ?_, fun a o e => c2.bf a o ?_, ?_, fun x hx => ?_⟩
        · show upd W.B Dp od a = some o
          rw [upd_ne (ne_of_none e bD)]; exact e
        · show upd W.B Dp od a = some o
          rw [upd_ne (ne_of_none e bD)]; exact e
        · rw [List.map_append, List.nodup_append]
          refine ⟨c2.nd, by simp, fun a ha b hb e => ?_⟩
          have eb : b = Dp := by simpa using hb
          obtain ⟨x, hx, ex⟩ := List.mem_map.mp ha
          have h0 := (c2.cell x hx).2.1
          have : upd W.B Dp od x.1 = none := h0
          rw [ex, e, eb, upd_same] at this
          cases this
        · rcases List.mem_append.mp hx with hx | hx
          · obtain ⟨a1, a2, a3⟩ := c2.cell x hx
            have a2' : upd W.B Dp od x.1 = none := a2
            by_cases hxd : x.1 = Dp
            · rw [hxd, upd_same] at a2'; cases a2'
            · rw [upd_ne hxd] at a2'; exact ⟨a1, a2', a3⟩
          · have e : x = (Dp, cLst rr acc) := by simpa using hx
            subst e
            exact ⟨c2.bf Dp od (show upd W.B Dp od Dp = some od from upd_same), bD, od, c2.bh Dp od (show upd W.B Dp od Dp = some od from upd_same), (cLst rr acc).mono hs d4⟩
      · exact .inr hs
    -- F' stays below: kept by a world whose frozen part is F'
    have cW' : Core ⟨F', upd W.B Dp od⟩ F' (cb b) H' := ⟨Same.refl F', cW.fh, cW.bh, cW.bf, cW.nd, cW.cell⟩
    have toW : ∀ {F2 : Hp} {cs2 : Cells} {H2 : Hp}, Core ⟨F', upd W.B Dp od⟩ F2 cs2 H2 → Core W F2 (cs2 ++ [(Dp, cLst rr acc)]) H2 := fun {F2 cs2 H2} c2 => by
      have c3 : Core ⟨W.F, upd W.B Dp od⟩ F2 cs2 H2 := ⟨c'.f0.trans c2.f0, c2.fh, c2.bh, c2.bf, c2.nd, c2.cell⟩
      rcases back c3 with z | z
      · exact z
      · exact absurd c2.f0 z
    refine body ⟨F', upd W.B Dp od⟩ (T0 ++ T) b xs[i] o b' hf x (wipe s vs) H' ⟨F', cW', (sg.mono sF).wipe vs, (t.mono sF).cons px⟩ _ fun G2 ht s2 st2 hw => ⟨by rw [hw vs hvs, wipe_wipe], ?_⟩
    refine ht s2 H' st2 _ fun cc cs3 ⟨k1, k2⟩ H3 st3 => ?_
    cases cc with
    | true =>
      rw [if_pos rfl]
      refine k1 rfl s2 H3 st3 _ fun sl cs4 ⟨y, eo, es, e4⟩ v4 H4 ⟨F4, c4, sg4, t4⟩ => ?_
      subst eo es e4
      have c5 := toW c4
      obtain ⟨_, _, o5, d5, ⟨hz5, ws, eo5, h5⟩⟩ := c5.cell (Dp, cLst rr acc) (List.mem_append_right _ (by simp))
      subst eo5
      have hlt : ws.length < sizeLine := by
        have := h5.length
        omega
      refine ⟨ws, d5, hlt, m - 1, by omega, by omega, b', acc ++ [y], zs', hl', ?_, ?_, F4, ?_, sg.mono (sF.trans c4.f0), t4.tail⟩
      · rw [ey, ez]; simp
      · rw [List.length_append, List.length_singleton]; omega
      · have hj : (cb b' ++ [(Dp, cLst rr acc)])[(cb b').length]? = some (Dp, cLst rr acc) := by simp
        have := c5.write (c' := cLst rr (acc ++ [y])) (o := .lst (ws ++ [v4])) hj ⟨by rw [List.length_append, List.length_singleton, h5.length]; exact hlt, _, rfl, h5.app (.cons t4.head .nil)⟩
        rw [show (cb b' ++ [(Dp, cLst rr acc)]).set (cb b').length (Dp, cLst rr (acc ++ [y])) = cb b' ++ [(Dp, cLst rr (acc ++ [y]))] by simp [List.set_append]] at this
        exact this
    | false =>
      rw [if_neg Bool.false_ne_true]
      obtain ⟨eo, e3⟩ := k2 rfl
      subst eo e3
      obtain ⟨F4, c4, sg4, t4⟩ := st3
      exact ⟨m - 1, by omega, by omega, b', acc, zs', hl', by rw [ey, ez], by omega, F4, toW c4, sg.mono (sF.trans c4.f0), t4⟩
  · have ei : i = xs.length := by omega
    subst ei
    refine .inl ⟨?_, ?_⟩
    · have := (wk W.B fun _ _ e => e).stop F H _ c t.left
      rwa [List.length_map] at this
    · rw [List.drop_length] at hlo
      have e := Option.some.inj hlo
      have e1 : zs = [] := (Prod.mk.inj e).1.symm
      have e2 : b = b1 := (Prod.mk.inj e).2
      subst e1 e2
      rw [List.append_nil] at ey
      subst ey
      exact q _ _ (k Dp) _ H ⟨F, c, sg, t.right.cons rfl⟩
/-- the list stands still -/
theorem lc_soundB {wi : TI} {g : TG} {vs : List Nat} {is : List Nat} (hvs : ∀ i ∈ is, i ∈ vs) (h : EvIB wi W G T cs fun items cs1 => ∃ (α β γ : Type) (r : R α) (xs : List α) (b0 : β) (f : β → α → Option (Option γ × β)) (ys : List γ) (b1 : β) (rr : R γ) (cb : β → Cells),
      items = xs.map r.at ∧ lcO f xs b0 = some (ys, b1) ∧ cs1 = cb b0 ∧
      (∀ W' T' b x o b', f b x = some (o, b') →
        Tg g is W' (wipeG G vs) T' (cb b) (r.at x) fun G' => Et tt W' G' T' (cb b) fun c cs3 => (c = true → Ev te W' G' T' cs3 fun sl cs4 => ∃ y, o = some y ∧ sl = rr.at y ∧ cs4 = cb b') ∧ (c = false → o = none ∧ cs3 = cb b')) ∧
      K ((rLst rr).at ys) (cb b1)) : Ev (tLc wi g tt te vs) W G T cs K := fun s H st Q q => by
  refine lc_cellB (K := fun sl cs' => ∃ (γ : Type) (rr : R γ) (ys : List γ) (c0 : Cells) (p : Addr), sl = sRef p ∧ cs' = c0 ++ [(p, cLst rr ys)] ∧ K ((rLst rr).at ys) c0) hvs ?_ s H st Q fun sl cs' ⟨γ, rr, ys, c0, p, e1, e2, k⟩ v H' ⟨F, c, sg, t⟩ => ?_
  · intro s H st R q
    exact h s H st R fun J T0 items cs1 ⟨α, β, γ, r, xs, b0, f, ys, b1, rr, cb, e1, hl, e2, body, k⟩ hsz wk H1 st1 => q J T0 items cs1 ⟨α, β, γ, r, xs, b0, f, ys, b1, rr, cb, e1, hl, e2, body, fun p => ⟨γ, rr, ys, cb b1, p, rfl, rfl, k⟩⟩ hsz wk H1 st1
  · subst e1 e2
    have hj : (c0 ++ [(p, cLst rr ys)])[c0.length]? = some (p, cLst rr ys) := by simp
    obtain ⟨o, F', h1, ⟨hz, ws, eo, h2⟩, h3, sF, c'⟩ := c.freeze hj
    subst eo
    have ee : (c0 ++ [(p, cLst rr ys)]).eraseIdx c0.length = c0 := by
      rw [List.eraseIdx_append_of_length_le (Nat.le_refl _)]; simp
    rw [ee] at c'
    have ev : v = .ref p := t.head
    exact q _ _ k v H' ⟨F', c', sg.mono sF, (t.tail.mono sF).cons ⟨hz, p, ws, ev, h3, h2⟩⟩
theorem lc_sound {wi : TI} {g : TG} {vs : List Nat} {is : List Nat} (hvs : ∀ i ∈ is, i ∈ vs) (h : EvI wi W G T cs fun items cs1 => ∃ (α β γ : Type) (r : R α) (xs : List α) (b0 : β) (f : β → α → Option (Option γ × β)) (ys : List γ) (b1 : β) (rr : R γ) (cb : β → Cells),
      items = xs.map r.at ∧ lcO f xs b0 = some (ys, b1) ∧ cs1 = cb b0 ∧
      (∀ W' T' b x o b', f b x = some (o, b') →
        Tg g is W' (wipeG G vs) T' (cb b) (r.at x) fun G' => Et tt W' G' T' (cb b) fun c cs3 => (c = true → Ev te W' G' T' cs3 fun sl cs4 => ∃ y, o = some y ∧ sl = rr.at y ∧ cs4 = cb b') ∧ (c = false → o = none ∧ cs3 = cb b')) ∧
      K ((rLst rr).at ys) (cb b1)) : Ev (tLc wi g tt te vs) W G T cs K := lc_soundB hvs h.toB
end
end ML

namespace ML
open PySem PySem.Spec PyProof.Rows L2

section
variable {nx bk ct : L2.St → Hp → Prop} {rt : VK}
variable {W : Wd} {G G' : Gam} {T : Tms} {cs : Cells} {K : Sl → Cells → Prop} {KB : Bool → Cells → Prop} {ta tb tc te to ti : TE} {tt tu : TT} {D : Ends} {t1 t2 : TS} {t : TA} {α β γ ρ : Type} {KF : PySem.W.Frag}

/-! ## guarded operators on ints -/
@[irreducible] def Sml (i : Int) : Prop := i.natAbs < 2 ^ 4096
theorem sml_iff {i : Int} : Sml i ↔ i.natAbs < 2 ^ 4096 := by unfold Sml; exact Iff.rfl
instance {i : Int} : Decidable (Sml i) := decidable_of_iff _ (sml_iff (i := i)).symm
theorem sml_of {i : Int} {n : Nat} (hn : n ≤ 4096) (h : i.natAbs < 2 ^ n) : Sml i := sml_iff.mpr (Nat.lt_of_lt_of_le h (Nat.pow_le_pow_right (by decide) hn))
theorem Sml.bits {i : Int} (h : Sml i) : Builtin.Int.intBits i ≤ 4096 := PyProof.Rows.intBits_le (sml_iff.mp h)
def oShl (i j : Int) : Option Int := if 0 ≤ j ∧ j ≤ 100000 ∧ Sml i then some (i * 2 ^ j.toNat) else none
def oShr (i j : Int) : Option Int := if 0 ≤ j then some (i / 2 ^ j.toNat) else none
def oMul (i j : Int) : Option Int := if Sml i ∧ Sml j then some (i * j) else none
def oDiv (i j : Int) : Option Int := if 0 < j ∧ Sml j then some (i / j) else none
def oMod (i j : Int) : Option Int := if 0 < j then some (i % j) else none
def oPow (i j : Int) : Option Int := if 0 ≤ j ∧ j ≤ 1000 ∧ Sml i then some (i ^ j.toNat) else none
def CPowW (i j : Int) : Prop := 0 ≤ j ∧ (Builtin.Int.intBits i : Int) * j ≤ 2 ^ 27
theorem op_powW {X : Cx} : OpR X (binaryOp .Pow) (rI CPowW fun i j => .int (i ^ j.toNat)) := opI fun _ _ _ _ _ _ _ hc q => pow_int hc.1 hc.2 q
theorem of_ite {c : Prop} [Decidable c] {a : α} {b : α} (h : (if c then some a else none) = some b) : c ∧ b = a := by
  split at h
  · rename_i hc; exact ⟨hc, (Option.some.inj h).symm⟩
  · cases h
theorem oShl_ok (i j t : Int) (h : oShl i j = some t) : CShl i j ∧ t = i * 2 ^ j.toNat := by
  obtain ⟨⟨h1, h2, h3⟩, e⟩ := of_ite h
  have := h3.bits
  have e27 : (2 : Int) ^ 27 = 134217728 := by decide
  exact ⟨⟨h1, by rw [e27]; omega⟩, e⟩
theorem oMul_ok (i j t : Int) (h : oMul i j = some t) : CMulX i j ∧ t = i * j := by
  obtain ⟨⟨h1, h2⟩, e⟩ := of_ite h
  have b1 := h1.bits
  have b2 := h2.bits
  refine ⟨?_, e⟩
  unfold CMulX
  omega
theorem oDiv_ok (i j t : Int) (h : oDiv i j = some t) : CDivW i j ∧ t = i / j := by
  obtain ⟨⟨h1, h2⟩, e⟩ := of_ite h
  exact ⟨wide_div h1 (sml_iff.mp h2) (by decide) (by decide), e⟩
theorem oMod_ok (i j t : Int) (h : oMod i j = some t) : 0 < j ∧ t = i % j := of_ite h
theorem oPow_ok (i j t : Int) (h : oPow i j = some t) : CPowW i j ∧ t = i ^ j.toNat := by
  obtain ⟨⟨h1, h2, h3⟩, e⟩ := of_ite h
  have b := h3.bits
  have e27 : (2 : Int) ^ 27 = 134217728 := by decide
  refine ⟨⟨h1, ?_⟩, e⟩
  rw [e27]
  have : (Builtin.Int.intBits i : Int) * j ≤ 4096 * 1000 := Int.mul_le_mul (by omega) h2 h1 (by decide)
  omega

/-! ## arguments taken apart -/
theorem args1 {F : Hp} {a : Sl} {vs : List V} (ar : Args F [a] vs) : ∃ v, vs = [v] ∧ a.p F v := by
  cases ar with
  | cons p q => cases q; exact ⟨_, rfl, p⟩
theorem args2' {F : Hp} {a b : Sl} {vs : List V} (ar : Args F [a, b] vs) : ∃ v w, vs = [v, w] ∧ a.p F v ∧ b.p F w := by
  cases ar with
  | cons p q =>
    cases q with
    | cons p' q' => cases q'; exact ⟨_, _, rfl, p, p'⟩
theorem args_map {F : Hp} {r : R α} : ∀ {xs : List α} {vs : List V}, Args F (xs.map r.at) vs → All2 (fun x u => r.p x F u) xs vs
  | [], _, .nil => .nil
  | _ :: _, _, .cons p q => .cons p (args_map q)

/-! ## displays -/
theorem small_len {n : Nat} (h : n ≤ 1000) : n ≤ sizeLine := by rw [sizeLine_eq]; omega
theorem e_lst (h : EvA t W G T cs fun sls cs1 => ∃ (α : Type) (r : R α) (xs : List α), sls = xs.map r.at ∧ xs.length ≤ 1000 ∧ K ((rLst r).at xs) cs1) : Ev (tLst t) W G T cs K := fun s H st Q q => by
  refine h s H st _ fun sls cs1 ⟨α, r, xs, e, hz, k⟩ vs H1 ⟨F, c, sg, tm, ar⟩ => ?_
  subst e
  have a2 := args_map ar
  refine ⟨by rw [← a2.length]; exact small_len hz, fun p hp => ?_⟩
  have sF : Same F (upd F p (.lst vs)) := same_upd (c.fh.free hp)
  exact q _ _ k _ _ ⟨_, c.new hp, sg.mono sF, (tm.mono sF).cons ⟨small_len hz, p, vs, rfl, upd_same, a2.imp fun _ _ z => r.mono sF z⟩⟩
theorem e_lstC (h : EvA t W G T cs fun sls cs1 => ∃ (α : Type) (r : R α) (xs : List α), sls = xs.map r.at ∧ xs.length ≤ 1000 ∧ ∀ p, K (sRef p) (cs1 ++ [(p, cLst r xs)])) : Ev (tLst t) W G T cs K := fun s H st Q q => by
  refine h s H st _ fun sls cs1 ⟨α, r, xs, e, hz, k⟩ vs H1 ⟨F, c, sg, tm, ar⟩ => ?_
  subst e
  have a2 := args_map ar
  exact ⟨by rw [← a2.length]; exact small_len hz, fun p hp => q _ _ (k p) _ _ ⟨F, c.newCell hp ⟨small_len hz, vs, rfl, a2⟩, sg, tm.cons rfl⟩⟩
theorem e_tup (h : EvA t W G T cs fun sls cs1 => ∃ (α : Type) (r : R α) (xs : List α), sls = xs.map r.at ∧ xs.length ≤ 1000 ∧ K ((rTup r).at xs) cs1) : Ev (tTup t) W G T cs K := fun s H st Q q => by
  refine h s H st _ fun sls cs1 ⟨α, r, xs, e, hz, k⟩ vs H1 ⟨F, c, sg, tm, ar⟩ => ?_
  subst e
  have a2 := args_map ar
  refine ⟨by rw [← a2.length]; exact small_len hz, fun p hp => ?_⟩
  have sF : Same F (upd F p (.tup vs)) := same_upd (c.fh.free hp)
  exact q _ _ k _ _ ⟨_, c.new hp, sg.mono sF, (tm.mono sF).cons ⟨small_len hz, p, vs, rfl, upd_same, a2.imp fun _ _ z => r.mono sF z⟩⟩
/-! ## subscripts -/
theorem all2_atI {P : α → V → Prop} {xs : List α} {vs : List V} {i : Int} {x : α} (a : All2 P xs vs) (h : atI xs i = some x) : ∃ v, atI vs i = some v ∧ P x v := by
  unfold atI at h ⊢
  rw [← a.length]
  cases e : ixN xs.length i with
  | none => rw [e] at h; cases h
  | some j =>
    rw [e] at h
    obtain ⟨v, h1, h2⟩ := a.get h
    exact ⟨v, h1, h2⟩
theorem e_ixT (ha : Ev ta W G T cs fun sa cs1 => ∀ va, Ev tb W G ((va, sa) :: T) cs1 fun sb cs2 => ∃ (α : Type) (r : R α) (xs : List α) (i : Int) (x : α), sa = (rTup r).at xs ∧ sb = rInt.at i ∧ atI xs i = some x ∧ K (r.at x) cs2) :
    Ev (tOp (rIxT KF) ta tb) W G T cs K := fun s H st Q q => by
  refine ha s H st _ fun sa cs1 h1 va H1 st1 => ?_
  refine h1 va s H1 st1 _ fun sb cs2 ⟨α, r, xs, i, x, e1, e2, hx, k⟩ vb H2 ⟨F, c, sg, tm⟩ => ?_
  subst e1 e2
  obtain ⟨hz, a, vs, rfl, hF, hA⟩ := tm.tail.head
  obtain ⟨v, hv, pv⟩ := all2_atI hA hx
  have eb : vb = .int i := tm.head
  exact ⟨a, vs, i, v, rfl, eb, SqT.of (c.fh _ _ hF), hv, q _ _ k _ H2 ⟨F, c, sg, tm.tail.tail.cons pv⟩⟩
theorem e_ixL (ha : Ev ta W G T cs fun sa cs1 => ∀ va, Ev tb W G ((va, sa) :: T) cs1 fun sb cs2 => ∃ (α : Type) (r : R α) (xs : List α) (i : Int) (x : α), sa = (rLst r).at xs ∧ sb = rInt.at i ∧ atI xs i = some x ∧ K (r.at x) cs2) :
    Ev (tOp (rIxL KF) ta tb) W G T cs K := fun s H st Q q => by
  refine ha s H st _ fun sa cs1 h1 va H1 st1 => ?_
  refine h1 va s H1 st1 _ fun sb cs2 ⟨α, r, xs, i, x, e1, e2, hx, k⟩ vb H2 ⟨F, c, sg, tm⟩ => ?_
  subst e1 e2
  obtain ⟨hz, a, vs, rfl, hF, hA⟩ := tm.tail.head
  obtain ⟨v, hv, pv⟩ := all2_atI hA hx
  have eb : vb = .int i := tm.head
  exact ⟨a, vs, i, v, rfl, eb, SqL.of (c.fh _ _ hF), hv, q _ _ k _ H2 ⟨F, c, sg, tm.tail.tail.cons pv⟩⟩
theorem Core.lst {F : Hp} {H : Hp} (c : Core W F cs H) {j : Nat} {p : Addr} {r : R α} {xs : List α} (hj : cs[j]? = some (p, cLst r xs)) : xs.length ≤ sizeLine ∧ ∃ vs, H p = some (.lst vs) ∧ All2 (fun x u => r.p x F u) xs vs := by
  obtain ⟨h1, h2, o, h3, hz, vs, e, h4⟩ := c.cell _ (List.mem_of_getElem? hj)
  subst e
  exact ⟨hz, vs, h3, h4⟩
theorem e_ixC (j : Nat) (ha : Ev ta W G T cs fun sa cs1 => ∀ va, Ev tb W G ((va, sa) :: T) cs1 fun sb cs2 => ∃ (α : Type) (p : Addr) (r : R α) (xs : List α) (i : Int) (x : α), sa = sRef p ∧ cs2[j]? = some (p, cLst r xs) ∧ sb = rInt.at i ∧ atI xs i = some x ∧ K (r.at x) cs2) :
    Ev (tOp (rIxL KF) ta tb) W G T cs K := fun s H st Q q => by
  refine ha s H st _ fun sa cs1 h1 va H1 st1 => ?_
  refine h1 va s H1 st1 _ fun sb cs2 ⟨α, p, r, xs, i, x, e1, hj, e2, hx, k⟩ vb H2 ⟨F, c, sg, tm⟩ => ?_
  subst e1 e2
  obtain ⟨hz, vs, hH, hA⟩ := c.lst hj
  obtain ⟨v, hv, pv⟩ := all2_atI hA hx
  have eb : vb = .int i := tm.head
  have ea : va = .ref p := tm.tail.head
  exact ⟨p, vs, i, v, ea, eb, SqL.of hH, hv, q _ _ k _ H2 ⟨F, c, sg, tm.tail.tail.cons pv⟩⟩
/-- xs[i] = v -/
def oSet (xs : List α) (i : Int) (x : α) : Option (List α) := match ixN xs.length i with
  | none => none
  | some j => some (xs.set j x)
theorem s_setitem (j : Nat) (hv : Ev te W G T cs fun sv cs1 => ∀ vv, Ev to W G ((vv, sv) :: T) cs1 fun so cs2 => ∀ vo, Ev ti W G ((vo, so) :: (vv, sv) :: T) cs2 fun si cs3 =>
      ∃ (α : Type) (p : Addr) (r : R α) (xs ys : List α) (i : Int) (x : α), sv = r.at x ∧ so = sRef p ∧ si = rInt.at i ∧ cs3[j]? = some (p, cLst r xs) ∧ oSet xs i x = some ys ∧ NxT nx W G T (cs3.set j (p, cLst r ys))) :
    NxT (tAsg te (gSub to ti rSetL) ⟨nx, rt, bk, ct⟩) W G T cs := fun s H st => by
  refine hv s H st _ fun sv cs1 h1 vv H1 st1 => ?_
  refine h1 vv s H1 st1 _ fun so cs2 h2 vo H2 st2 => ?_
  refine h2 vo s H2 st2 _ fun si cs3 ⟨α, p, r, xs, ys, i, x, e1, e2, e3, hj, hy, k⟩ vi H3 ⟨F, c, sg, tm⟩ => ?_
  subst e1 e2 e3
  obtain ⟨hz, vs, hH, hA⟩ := c.lst hj
  have ei : vi = .int i := tm.head
  have eo : vo = .ref p := tm.tail.head
  have pv := tm.tail.tail.head
  unfold oSet at hy
  cases en : ixN xs.length i with
  | none => rw [en] at hy; cases hy
  | some n =>
    rw [en] at hy
    cases hy
    refine ⟨p, vs, i, n, eo, ei, hH, by rw [← hA.length]; exact en, ?_⟩
    exact k s _ ⟨F, c.write hj ⟨by rw [List.length_set]; exact hz, _, rfl, All2.set (P := fun x u => r.p x F u) pv n hA⟩, sg, tm.tail.tail.tail⟩

/-! ## len, tuple(..), list(..) -/
theorem e_lenT (h : EvA t W G T cs fun sls cs1 => ∃ (α : Type) (r : R α) (xs : List α), sls = [(rTup r).at xs] ∧ K (rInt.at (xs.length : Int)) cs1) : Ev (tCB (fun xs H Q => ∃ p ys, xs = [.ref p] ∧ (SqL KF H p ys ∨ SqT KF H p ys) ∧ Q (.int ys.length) H) t) W G T cs K := fun s H st Q q => by
  refine h s H st _ fun sls cs1 ⟨α, r, xs, e, k⟩ vs H1 ⟨F, c, sg, tm, ar⟩ => ?_
  subst e
  obtain ⟨v, rfl, hz, a, us, rfl, hF, hA⟩ := args1 ar
  exact ⟨a, us, rfl, .inr (SqT.of (c.fh _ _ hF)), q _ _ k _ H1 ⟨F, c, sg, tm.cons (by rw [hA.length]; rfl)⟩⟩
theorem e_lenL (h : EvA t W G T cs fun sls cs1 => ∃ (α : Type) (r : R α) (xs : List α), sls = [(rLst r).at xs] ∧ K (rInt.at (xs.length : Int)) cs1) : Ev (tCB (fun xs H Q => ∃ p ys, xs = [.ref p] ∧ (SqL KF H p ys ∨ SqT KF H p ys) ∧ Q (.int ys.length) H) t) W G T cs K := fun s H st Q q => by
  refine h s H st _ fun sls cs1 ⟨α, r, xs, e, k⟩ vs H1 ⟨F, c, sg, tm, ar⟩ => ?_
  subst e
  obtain ⟨v, rfl, hz, a, us, rfl, hF, hA⟩ := args1 ar
  exact ⟨a, us, rfl, .inl (SqL.of (c.fh _ _ hF)), q _ _ k _ H1 ⟨F, c, sg, tm.cons (by rw [hA.length]; rfl)⟩⟩
theorem e_lenC (j : Nat) (h : EvA t W G T cs fun sls cs1 => ∃ (α : Type) (p : Addr) (r : R α) (xs : List α), sls = [sRef p] ∧ cs1[j]? = some (p, cLst r xs) ∧ K (rInt.at (xs.length : Int)) cs1) : Ev (tCB (fun xs H Q => ∃ p ys, xs = [.ref p] ∧ (SqL KF H p ys ∨ SqT KF H p ys) ∧ Q (.int ys.length) H) t) W G T cs K := fun s H st Q q => by
  refine h s H st _ fun sls cs1 ⟨α, p, r, xs, e, hj, k⟩ vs H1 ⟨F, c, sg, tm, ar⟩ => ?_
  subst e
  obtain ⟨v, rfl, ev⟩ := args1 ar
  obtain ⟨hz, us, hH, hA⟩ := c.lst hj
  have ev' : v = .ref p := ev
  subst ev'
  exact ⟨p, us, rfl, .inl (SqL.of hH), q _ _ k _ H1 ⟨F, c, sg, tm.cons (by rw [hA.length]; rfl)⟩⟩
def rTupleOf (KF : PySem.W.Frag) : List V → Hp → VK → Prop := fun xs H Q => ∃ p ys, xs = [.ref p] ∧ ((SqL KF H p ys ∧ ∀ l, H l = none → Q (.ref l) (upd H l (.tup ys))) ∨ (SqT KF H p ys ∧ Q (.ref p) H))
theorem e_tupL (h : EvA t W G T cs fun sls cs1 => ∃ (α : Type) (r : R α) (xs : List α), sls = [(rLst r).at xs] ∧ K ((rTup r).at xs) cs1) : Ev (tCB (fun xs H Q => ∃ p ys, xs = [.ref p] ∧ ((SqL KF H p ys ∧ ∀ l, H l = none → Q (.ref l) (upd H l (.tup ys))) ∨ (SqT KF H p ys ∧ Q (.ref p) H))) t) W G T cs K := fun s H st Q q => by
  refine h s H st _ fun sls cs1 ⟨α, r, xs, e, k⟩ vs H1 ⟨F, c, sg, tm, ar⟩ => ?_
  subst e
  obtain ⟨v, rfl, hz, a, us, rfl, hF, hA⟩ := args1 ar
  refine ⟨a, us, rfl, .inl ⟨SqL.of (c.fh _ _ hF), fun p hp => ?_⟩⟩
  have sF : Same F (upd F p (.tup us)) := same_upd (c.fh.free hp)
  exact q _ _ k _ _ ⟨_, c.new hp, sg.mono sF, (tm.mono sF).cons ⟨hz, p, us, rfl, upd_same, hA.imp fun _ _ z => r.mono sF z⟩⟩
/-! ## methods of lists -/
def oApp (xs : List α) (x : α) : Option (List α) := if xs.length < sizeLine then some (xs ++ [x]) else none
theorem e_append (j : Nat) (ho : Ev to W G T cs fun so cs1 => ∃ (α : Type) (p : Addr) (r : R α) (xs0 : List α), so = sRef p ∧ cs1[j]? = some (p, cLst r xs0) ∧ ∀ vo, EvA t W G ((vo, so) :: T) cs1 fun sls cs2 => ∃ (xs ys : List α) (x : α), sls = [r.at x] ∧ cs2[j]? = some (p, cLst r xs) ∧ oApp xs x = some ys ∧ K (rNon.at ()) (cs2.set j (p, cLst r ys))) :
    Ev (tBM KF "list" rAppend to t) W G T cs K := fun s H st Q q => by
  refine ho s H st _ fun so cs1 ⟨α, p, r, xs0, e, hj1, h1⟩ vo H1 st1 => ?_
  subst e
  obtain ⟨F1, c1, sg1, tm1⟩ := id st1
  have eo : vo = .ref p := tm1.head
  subst eo
  obtain ⟨_, us0, hH0, _⟩ := c1.lst hj1
  refine ⟨.inl ⟨rfl, _, SqL.of hH0⟩, h1 _ s H1 st1 _ fun sls cs2 ⟨xs, ys, x, e2, hj2, hy, k⟩ vs H2 ⟨F, c, sg, tm, ar⟩ => ?_⟩
  subst e2
  obtain ⟨v, rfl, pv⟩ := args1 ar
  obtain ⟨hz, us, hH, hA⟩ := c.lst hj2
  obtain ⟨hlt, e⟩ := of_ite hy
  subst e
  refine ⟨p, us, v, rfl, rfl, hH, by rw [← hA.length]; exact hlt, q _ _ k _ _ ⟨F, c.write hj2 ⟨by rw [List.length_append, List.length_singleton]; exact hlt, _, rfl, hA.app (.cons pv .nil)⟩, sg, tm.tail.cons rfl⟩⟩
def oExt (xs zs : List α) : Option (List α) := if xs.length + zs.length ≤ sizeLine then some (xs ++ zs) else none
/-- xs.pop(i), 0 <= i -/
def oPopAt (xs : List α) (i : Int) : Option (α × List α) := if 0 ≤ i ∧ i < xs.length then (match xs[i.toNat]? with | some x => some (x, xs.eraseIdx i.toNat) | none => none) else none
theorem e_popAt (j : Nat) (ho : Ev to W G T cs fun so cs1 => ∃ (α : Type) (p : Addr) (r : R α) (xs0 : List α), so = sRef p ∧ cs1[j]? = some (p, cLst r xs0) ∧ ∀ vo, EvA t W G ((vo, so) :: T) cs1 fun sls cs2 => ∃ (xs : List α) (i : Int) (x : α) (ys : List α), sls = [rInt.at i] ∧ cs2[j]? = some (p, cLst r xs) ∧ oPopAt xs i = some (x, ys) ∧ K (r.at x) (cs2.set j (p, cLst r ys))) :
    Ev (tBM KF "list" rPopAt to t) W G T cs K := fun s H st Q q => by
  refine ho s H st _ fun so cs1 ⟨α, p, r, xs0, e, hj1, h1⟩ vo H1 st1 => ?_
  subst e
  obtain ⟨F1, c1, sg1, tm1⟩ := id st1
  have eo : vo = .ref p := tm1.head
  subst eo
  obtain ⟨_, us0, hH0, _⟩ := c1.lst hj1
  refine ⟨.inl ⟨rfl, _, SqL.of hH0⟩, h1 _ s H1 st1 _ fun sls cs2 ⟨xs, i, x, ys, e2, hj2, hy, k⟩ vs H2 ⟨F, c, sg, tm, ar⟩ => ?_⟩
  subst e2
  obtain ⟨v, rfl, pv⟩ := args1 ar
  obtain ⟨hz, us, hH, hA⟩ := c.lst hj2
  unfold oPopAt at hy
  split at hy
  · rename_i hc
    split at hy
    · rename_i x' hx
      cases hy
      obtain ⟨u, hu, pu⟩ := hA.get hx
      have ev : v = .int i := pv
      subst ev
      have hs := sizeLine_eq
      have hl := hA.length
      refine ⟨p, us, i, i.toNat, u, rfl, rfl, hH, by omega, by omega, ?_, hu, q _ _ k _ _ ⟨F, c.write hj2 ⟨?_, _, rfl, All2.erase (P := fun x u => r.p x F u) _ hA⟩, sg, tm.tail.cons pu⟩⟩
      · exact PySem.StrLaws.seqIndex_nonneg hc.1 (by omega)
      · have := len_erase xs i.toNat
        omega
    · cases hy
  · cases hy

/-! ## builtins -/
theorem e_abs (h : EvA t W G T cs fun sls cs1 => ∃ i, sls = [rInt.at i] ∧ K (rInt.at (i.natAbs : Int)) cs1) : Ev (tCB (fun xs H Q => ∃ i, xs = [.int i] ∧ Q (.int (if i < 0 then -i else i)) H) t) W G T cs K := fun s H st Q q => by
  refine h s H st _ fun sls cs1 ⟨i, e, k⟩ vs H1 ⟨F, c, sg, tm, ar⟩ => ?_
  subst e
  obtain ⟨v, rfl, ev⟩ := args1 ar
  have ev' : v = .int i := ev
  subst ev'
  refine ⟨i, rfl, q _ _ k _ H1 ⟨F, c, sg, tm.cons ?_⟩⟩
  show V.int _ = V.int _
  congr 1
  split <;> omega
theorem e_max2 (h : EvA t W G T cs fun sls cs1 => ∃ i j : Int, sls = [rInt.at i, rInt.at j] ∧ K (rInt.at (max i j)) cs1) : Ev (tCB (fun xs H Q => ∃ i j, xs = [.int i, .int j] ∧ Q (.int (if j > i then j else i)) H) t) W G T cs K := fun s H st Q q => by
  refine h s H st _ fun sls cs1 ⟨i, j, e, k⟩ vs H1 ⟨F, c, sg, tm, ar⟩ => ?_
  subst e
  have e := args2 ar
  subst e
  refine ⟨i, j, rfl, q _ _ k _ H1 ⟨F, c, sg, tm.cons ?_⟩⟩
  show V.int _ = V.int _
  congr 1
  split <;> omega
theorem e_min2 (h : EvA t W G T cs fun sls cs1 => ∃ i j : Int, sls = [rInt.at i, rInt.at j] ∧ K (rInt.at (min i j)) cs1) : Ev (tCB (fun xs H Q => ∃ i j, xs = [.int i, .int j] ∧ Q (.int (if j < i then j else i)) H) t) W G T cs K := fun s H st Q q => by
  refine h s H st _ fun sls cs1 ⟨i, j, e, k⟩ vs H1 ⟨F, c, sg, tm, ar⟩ => ?_
  subst e
  have e := args2 ar
  subst e
  refine ⟨i, j, rfl, q _ _ k _ H1 ⟨F, c, sg, tm.cons ?_⟩⟩
  show V.int _ = V.int _
  congr 1
  split <;> omega
theorem e_intB (h : EvA t W G T cs fun sls cs1 => ∃ b : Bool, sls = [rBool.at b] ∧ K (rInt.at (if b then 1 else 0)) cs1) : Ev (tCB (fun xs H Q => (∃ i, xs = [.int i] ∧ Q (.int i) H) ∨ ∃ k, xs = [.bl k] ∧ Q (.int (if k then 1 else 0)) H) t) W G T cs K := fun s H st Q q => by
  refine h s H st _ fun sls cs1 ⟨b, e, k⟩ vs H1 ⟨F, c, sg, tm, ar⟩ => ?_
  subst e
  obtain ⟨v, rfl, ev⟩ := args1 ar
  have ev' : v = .bl b := ev
  subst ev'
  exact .inr ⟨b, rfl, q _ _ k _ H1 ⟨F, c, sg, tm.cons rfl⟩⟩
theorem all2_bl {F : Hp} : ∀ {bs : List Bool} {us : List V}, All2 (fun x u => rBool.p x F u) bs us → us = bs.map V.bl
  | _, _, .nil => rfl
  | _, _, .cons p q => by rw [List.map_cons, ← all2_bl q, show _ = V.bl _ from p]
theorem e_all (h : EvA t W G T cs fun sls cs1 => ∃ bs, sls = [(rLst rBool).at bs] ∧ K (rBool.at (bs.all id)) cs1) : Ev (tCB (rAll KF) t) W G T cs K := fun s H st Q q => by
  refine h s H st _ fun sls cs1 ⟨bs, e, k⟩ vs H1 ⟨F, c, sg, tm, ar⟩ => ?_
  subst e
  obtain ⟨v, rfl, hz, a, us, rfl, hF, hA⟩ := args1 ar
  exact ⟨a, bs, rfl, SqL.of (by rw [← all2_bl hA]; exact c.fh _ _ hF), q _ _ k _ H1 ⟨F, c, sg, tm.cons rfl⟩⟩
/-! ## == of data -/
structure REq {α : Type} [DecidableEq α] (r : R α) where
  d : α → PyData
  ok : ∀ {K : PySem.W.Frag} {F H : Hp} {a : α} {v : V}, r.p a F v → Same F H → Dp K H v (d a)
  lay : ∀ a, (d a).canLay0 = true
  n : Nat
  dep : ∀ a, (d a).depth ≤ n
  eqv : ∀ a b, PyData.eqv (d a) (d b) = decide (a = b)
def eInt : REq rInt where
  d := .int
  ok := fun {K F H a v} h _ => by have e : v = .int a := h; subst e; exact Dp.int a
  lay := fun _ => rfl
  n := 1
  dep := fun a => by simp [PyData.depth]
  eqv := fun a b => by simp [PyData.eqv, Bool.beq_eq_decide_eq]
def eBool : REq rBool where
  d := .bool
  ok := fun {K F H a v} h _ => by have e : v = .bl a := h; subst e; exact Dp.bl a
  lay := fun _ => rfl
  n := 1
  dep := fun a => by simp [PyData.depth]
  eqv := fun a b => by simp [PyData.eqv, Bool.beq_eq_decide_eq]
theorem dpAll {r : R α} [DecidableEq α] (e : REq r) {K : PySem.W.Frag} {F H : Hp} (s : Same F H) : ∀ {xs : List α} {us : List V}, All2 (fun x u => r.p x F u) xs us → DpAll K H us (xs.map e.d)
  | _, _, .nil => .nil
  | _, _, .cons p q => .cons (e.ok p s) (dpAll e s q)
theorem layAll {r : R α} [DecidableEq α] (e : REq r) : ∀ xs : List α, PyData.canLayAll0 (xs.map e.d) = true
  | [] => rfl
  | x :: xs => by rw [List.map_cons, PyData.canLayAll0, e.lay x, layAll e xs]; rfl
theorem depAll {r : R α} [DecidableEq α] (e : REq r) : ∀ xs : List α, PyData.depthAll (xs.map e.d) ≤ e.n
  | [] => by simp [PyData.depthAll]
  | x :: xs => by
    rw [List.map_cons, PyData.depthAll]
    have h1 := e.dep x
    have h2 := depAll e xs
    omega
theorem eqvAll {r : R α} [DecidableEq α] (e : REq r) : ∀ xs ys : List α, PyData.eqvAll (xs.map e.d) (ys.map e.d) = decide (xs = ys)
  | [], [] => by simp [PyData.eqvAll]
  | [], _ :: _ => by simp [PyData.eqvAll]
  | _ :: _, [] => by simp [PyData.eqvAll]
  | x :: xs, y :: ys => by
    rw [List.map_cons, List.map_cons, PyData.eqvAll, e.eqv, eqvAll e xs ys]
    by_cases h1 : x = y <;> by_cases h2 : xs = ys <;> simp [h1, h2]
def eTup {r : R α} [DecidableEq α] (e : REq r) : REq (rTup r) where
  d := fun xs => .tuple (xs.map e.d)
  ok := fun {K F H a v} h s => by
    obtain ⟨_, p, vs, rfl, h2, h3⟩ := h
    exact Dp.tup (SqT.of (s _ _ h2)) (dpAll e s h3)
  lay := fun xs => by rw [PyData.canLay0]; exact layAll e xs
  n := e.n + 1
  dep := fun xs => by
    rw [PyData.depth]
    have := depAll e xs
    omega
  eqv := fun a b => by rw [PyData.eqv]; exact eqvAll e a b
def eLst {r : R α} [DecidableEq α] (e : REq r) : REq (rLst r) where
  d := fun xs => .list (xs.map e.d)
  ok := fun {K F H a v} h s => by
    obtain ⟨_, p, vs, rfl, h2, h3⟩ := h
    exact Dp.lst (SqL.of (s _ _ h2)) (dpAll e s h3)
  lay := fun xs => by rw [PyData.canLay0]; exact layAll e xs
  n := e.n + 1
  dep := fun xs => by
    rw [PyData.depth]
    have := depAll e xs
    omega
  eqv := fun a b => by rw [PyData.eqv]; exact eqvAll e a b
def ePair {r : R α} {r' : R β} [DecidableEq α] [DecidableEq β] (e : REq r) (e' : REq r') : REq (rPair r r') where
  d := fun x => .tuple [e.d x.1, e'.d x.2]
  ok := fun {K F H a v} h s => by
    obtain ⟨p, u, w, rfl, h2, h3, h4⟩ := h
    exact Dp.tup (SqT.of (s _ _ h2)) (.cons (e.ok h3 s) (.cons (e'.ok h4 s) .nil))
  lay := fun x => by simp [PyData.canLay0, PyData.canLayAll0, e.lay, e'.lay]
  n := max e.n e'.n + 1
  dep := fun x => by
    have h1 := e.dep x.1
    have h2 := e'.dep x.2
    simp only [PyData.depth, PyData.depthAll]
    omega
  eqv := fun a b => by
    obtain ⟨a1, a2⟩ := a
    obtain ⟨b1, b2⟩ := b
    simp only [PyData.eqv, PyData.eqvAll, e.eqv, e'.eqv, Bool.and_true]
    by_cases h1 : a1 = b1 <;> by_cases h2 : a2 = b2 <;> simp [h1, h2]
theorem REq.shaped {r : R α} [DecidableEq α] (e : REq r) (hn : e.n ≤ 64) (a : α) : SeqAt.shaped (e.d a) = true := by
  unfold SeqAt.shaped
  rw [e.lay a, decide_eq_true (Nat.le_trans (e.dep a) hn)]
  rfl
/-! ## calls -/
def spM {ι β : Type} (A : ι → List Sl) (ci : ι → Cells) (m : ι → Option β) (res : ι → β → Sl) (co : ι → β → Cells) : Sp := fun vs H Q _ =>
  ∃ (i : ι) (b : β) (W : Wd), m i = some b ∧ Core W W.F (ci i) H ∧ Args W.F (A i) vs ∧ Rt Q W (res i b) (co i b)
theorem spM_len {ι β : Type} {A : ι → List Sl} {ci : ι → Cells} {m : ι → Option β} {res : ι → β → Sl} {co : ι → β → Cells} {n : Nat} {vs : List V} {H : Hp} {Q : VK} {E : XK} (h : spM A ci m res co vs H Q E) (hA : ∀ i, (A i).length = n) : vs.length = n := by
  obtain ⟨i, b, W, _, _, ar, _⟩ := h
  rw [← hA i]
  exact ar.length.symm
open Classical in
/-- the callers' world ahead of a call that uses the cells us -/
noncomputable def Wd.sub (F H : Hp) (us : Cells) : Wd := ⟨F, fun a => if F a = none ∧ ∀ x ∈ us, x.1 ≠ a then H a else none⟩
theorem Core.sub {F H : Hp} {us rest : Cells} (c : Core W F (us ++ rest) H) : Core (Wd.sub F H us) F us H := by
  refine ⟨Same.refl F, c.fh, fun a o e => ?_, fun a o e => ?_, (c.drop (List.sublist_append_left _ _)).nd, fun x hx => ?_⟩
  · unfold Wd.sub at e; dsimp only at e
    split at e
    · exact e
    · cases e
  · unfold Wd.sub at e; dsimp only at e
    split at e
    · rename_i h; exact h.1
    · cases e
  · obtain ⟨h1, h2, o, h3, h4⟩ := c.cell x (List.mem_append_left _ hx)
    refine ⟨h1, ?_, o, h3, h4⟩
    unfold Wd.sub; dsimp only
    rw [if_neg]
    exact fun z => z.2 x hx rfl
theorem Core.unsub {F F2 H H2 : Hp} {us rest co : Cells} (c : Core W F (us ++ rest) H) (c2 : Core (Wd.sub F H us) F2 co H2) : Core W F2 (co ++ rest) H2 := by
  have bB : ∀ a o, H a = some o → F a = none → (∀ x ∈ us, x.1 ≠ a) → (Wd.sub F H us).B a = some o := fun a o e hf hu => by
    unfold Wd.sub; dsimp only
    rw [if_pos ⟨hf, hu⟩]; exact e
  have bw : ∀ a o, W.B a = some o → (Wd.sub F H us).B a = some o := fun a o e => bB a o (c.bh a o e) (c.bf a o e) fun x hx z => by
    have := (c.cell x (List.mem_append_left _ hx)).2.1
    rw [z, e] at this; cases this
  have br : ∀ x ∈ rest, ∃ o, H x.1 = some o ∧ x.2.p F o ∧ (Wd.sub F H us).B x.1 = some o := fun x hx => by
    obtain ⟨h1, h2, o, h3, h4⟩ := c.cell x (List.mem_append_right _ hx)
    refine ⟨o, h3, h4, bB _ _ h3 h1 fun y hy e => ?_⟩
    have nd := c.nd
    rw [List.map_append, List.nodup_append] at nd
    exact nd.2.2 y.1 (List.mem_map_of_mem hy) x.1 (List.mem_map_of_mem hx) e
  refine ⟨c.f0.trans c2.f0, c2.fh, fun a o e => c2.bh a o (bw a o e), fun a o e => c2.bf a o (bw a o e), ?_, fun x hx => ?_⟩
  · rw [List.map_append, List.nodup_append]
    refine ⟨c2.nd, (c.drop (List.sublist_append_right _ _)).nd, fun a ha b hb e => ?_⟩
    obtain ⟨x, hx, ex⟩ := List.mem_map.mp ha
    obtain ⟨y, hy, ey⟩ := List.mem_map.mp hb
    obtain ⟨o, _, _, h⟩ := br y hy
    have h0 := (c2.cell x hx).2.1
    rw [ex, e, ← ey, h] at h0
    cases h0
  · rcases List.mem_append.mp hx with hx | hx
    · obtain ⟨a1, a2, a3⟩ := c2.cell x hx
      refine ⟨a1, ?_, a3⟩
      cases e : W.B x.1 with
      | none => rfl
      | some o => rw [bw _ _ e] at a2; cases a2
    · obtain ⟨o, h3, h4, hb⟩ := br x hx
      exact ⟨c2.bf _ _ hb, (c.cell x (List.mem_append_right _ hx)).2.1, o, c2.bh _ _ hb, x.2.mono c2.f0 h4⟩
theorem e_call {ι β : Type} {A : ι → List Sl} {ci : ι → Cells} {m : ι → Option β} {res : ι → β → Sl} {co : ι → β → Cells} {E : XK}
    (h : EvA t W G T cs fun sls cs1 => ∃ (i : ι) (b : β) (rest : Cells), m i = some b ∧ sls = A i ∧ cs1 = ci i ++ rest ∧ K (res i b) (co i b ++ rest)) : Ev (tCall (spM A ci m res co) [] E t) W G T cs K := fun s H st Q q => by
  refine h s H st _ fun sls cs1 ⟨i, b, rest, hm, e1, e2, k⟩ vs H1 ⟨F, c, sg, tm, ar⟩ => ?_
  subst e1 e2
  rw [List.append_nil]
  refine ⟨i, b, Wd.sub F H1 (ci i), hm, c.sub, ar, fun v H2 ⟨F2, c2, pv⟩ => ?_⟩
  have sF : Same F F2 := c2.f0
  exact q _ _ k v H2 ⟨F2, c.unsub c2, sg.mono sF, (tm.mono sF).cons pv⟩
/-- a def's body from its promise -/
theorem Sta.enter {N : List Str} {sls : List Sl} {vs : List V} {F H : Hp} (c : Core W W.F cs H) (ar : Args W.F sls vs) (hn : sls.length ≤ N.length) : Sta W (sls.map some ++ List.replicate (N.length - sls.length) none) [] cs (L2.start N vs) H := by
  refine ⟨W.F, c, ⟨?_, fun i sl hi => ?_⟩, Temps.nil⟩
  · unfold L2.start
    have := ar.length
    simp only [List.length_append, List.length_map, List.length_replicate]
    omega
  · have hl := ar.length
    by_cases h : i < sls.length
    · rw [List.getElem?_append_left (by simpa using h), List.getElem?_map, List.getElem?_eq_getElem h] at hi
      simp at hi
      obtain ⟨v, h1, h2⟩ := ar.get (List.getElem?_eq_getElem h)
      refine ⟨v, ?_, by rw [← hi]; exact h2⟩
      unfold L2.start
      rw [List.getElem?_append_left (by simp; omega), List.getElem?_map, h1]
      rfl
    · rw [List.getElem?_append_right (by simp; omega), List.getElem?_replicate] at hi
      split at hi <;> cases hi
theorem body {N : List Str} {sls : List Sl} {vs : List V} {H : Hp} {P : L2.St → Hp → Prop} (c : Core W W.F cs H) (ar : Args W.F sls vs) (hn : sls.length ≤ N.length) (h : NxT P W (sls.map some ++ List.replicate (N.length - sls.length) none) [] cs) : P (L2.start N vs) H := h _ _ (Sta.enter (F := W.F) c ar hn)
end
end ML

namespace ML
open PySem PySem.Spec PyProof.Rows L2

/-! ## tuple * int -/
def rRep1 (K : PySem.W.Frag) : R2 := fun x y H Q => ∃ l xs, x = .ref l ∧ y = .int 1 ∧ SqT K H l xs ∧ Q (.ref l) H
def rRepB (K : PySem.W.Frag) : R2 := fun x y H Q => rRep1 K x y H Q ∨ rRepT K x y H Q
section
variable {nx bk ct : L2.St → Hp → Prop} {rt : VK}
variable {W : Wd} {G G' : Gam} {T : Tms} {cs : Cells} {K : Sl → Cells → Prop} {KB : Bool → Cells → Prop} {ta tb tc te to ti : TE} {tt tu : TT} {D : Ends} {t1 t2 : TS} {t : TA} {α β γ ρ : Type} {KF : PySem.W.Frag}
def oRep (xs : List α) (k : Int) : Option (List α) := if xs ≠ [] ∧ 1 ≤ k ∧ k ≤ 1000 ∧ xs.length ≤ 1000 then some (List.replicate k.toNat xs).flatten else none
theorem All2.rep {P : α → V → Prop} {xs : List α} {vs : List V} (a : All2 P xs vs) : ∀ n, All2 P (List.replicate n xs).flatten (List.replicate n vs).flatten
  | 0 => .nil
  | n + 1 => by rw [List.replicate_succ, List.replicate_succ, List.flatten_cons, List.flatten_cons]; exact a.app (All2.rep a n)
theorem len_rep (xs : List α) (n : Nat) : (List.replicate n xs).flatten.length = n * xs.length := by
  induction n with
  | zero => simp
  | succ n ih => rw [List.replicate_succ, List.flatten_cons, List.length_append, ih, Nat.succ_mul, Nat.add_comm]
/-! ## a, b = x, y -/
theorem s_par {i j : Nat} (h : EvA t W G T cs fun sls cs1 => ∃ a b, sls = [a, b] ∧ NxT nx W ((G.set i (some a)).set j (some b)) T cs1) : NxT (tPar i j t ⟨nx, rt, bk, ct⟩) W G T cs := fun s H st => by
  refine h s H st _ fun sls cs1 ⟨a, b, e, k⟩ vs H1 ⟨F, c, sg, tm, ar⟩ => ?_
  subst e
  obtain ⟨v, w, rfl, h1, h2⟩ := args2' ar
  exact ⟨v, w, rfl, k _ H1 ⟨F, c, (sg.set h1).set h2, tm⟩⟩
/-! ## a tuple of anything -/
def sTup (sls : List Sl) : Sl := ⟨fun F v => ∃ a vs, v = .ref a ∧ F a = some (.tup vs) ∧ Args F sls vs, fun e ⟨a, vs, h1, h2, h3⟩ => ⟨a, vs, h1, e _ _ h2, h3.imp fun sl _ q => sl.mono e q⟩⟩
/-- targets one by one -/
def Tgs (g : TGs) (is : List Nat) (W : Wd) (G : Gam) (T : Tms) (cs : Cells) (sls : List Sl) (K : Gam → Prop) : Prop :=
  ∀ vs s H, (∃ F, Core W F cs H ∧ Slots F G s ∧ Temps F T ∧ Args F sls vs) → ∀ Q : L2.St → Hp → Prop, (∀ G', K G' → ∀ s', Sta W G' T cs s' H → (∀ vs : List Nat, (∀ i ∈ is, i ∈ vs) → wipe s' vs = wipe s vs) → Q s' H) → g vs s H Q
/-! ## zip -/
/-! ## the script -/
def rScr (KF : PySem.W.Frag) : R (List Int) := ⟨fun ns F v => ns.length ≤ 63 ∧ ∃ a, v = .ref a ∧ SqL KF F a (ns.map V.int), fun e ⟨h0, a, h1, h2⟩ => ⟨h0, a, h1, e.seq h2⟩⟩
theorem e_lenS (h : EvA t W G T cs fun sls cs1 => ∃ xs, sls = [(rScr KF).at xs] ∧ K (rInt.at (xs.length : Int)) cs1) : Ev (tCB (fun xs H Q => ∃ p ys, xs = [.ref p] ∧ (SqL KF H p ys ∨ SqT KF H p ys) ∧ Q (.int ys.length) H) t) W G T cs K := fun s H st Q q => by
  refine h s H st _ fun sls cs1 ⟨xs, e, k⟩ vs H1 ⟨F, c, sg, tm, ar⟩ => ?_
  subst e
  obtain ⟨v, rfl, hz, a, rfl, hA⟩ := args1 ar
  exact ⟨a, _, rfl, .inl (c.fh.seq hA), q _ _ k _ H1 ⟨F, c, sg, tm.cons (by rw [List.length_map]; rfl)⟩⟩
theorem e_ixS (ha : Ev ta W G T cs fun sa cs1 => ∀ va, Ev tb W G ((va, sa) :: T) cs1 fun sb cs2 => ∃ (xs : List Int) (i x : Int), sa = (rScr KF).at xs ∧ sb = rInt.at i ∧ atI xs i = some x ∧ K (rInt.at x) cs2) :
    Ev (tOp (rIxL KF) ta tb) W G T cs K := fun s H st Q q => by
  refine ha s H st _ fun sa cs1 h1 va H1 st1 => ?_
  refine h1 va s H1 st1 _ fun sb cs2 ⟨xs, i, x, e1, e2, hx, k⟩ vb H2 ⟨F, c, sg, tm⟩ => ?_
  subst e1 e2
  obtain ⟨hz, a, rfl, hA⟩ := tm.tail.head
  have eb : vb = .int i := tm.head
  refine ⟨a, _, i, .int x, rfl, eb, c.fh.seq hA, ?_, q _ _ k _ H2 ⟨F, c, sg, tm.tail.tail.cons rfl⟩⟩
  unfold atI at hx ⊢
  rw [List.length_map]
  cases e : ixN xs.length i with
  | none => rw [e] at hx; cases hx
  | some j =>
    rw [e] at hx
    have hx' : xs[j]? = some x := hx
    show (xs.map V.int)[j]? = _
    rw [List.getElem?_map, hx']
    rfl
/-! ## comprehensions: the simple kinds -/
theorem t_yes (k : KB true cs) : Et tYes W G T cs KB := fun s H st Q q => q true cs k H st
theorem lcO_map (f : α → γ) : ∀ xs : List α, lcO (fun (u : Unit) x => some (some (f x), u)) xs () = some (xs.map f, ())
  | [] => rfl
  | x :: xs => by unfold lcO; simp only [lcO_map f xs]; rfl
/-- partial, without a state -/
def mapO (f : α → Option (Option γ)) : List α → Option (List γ)
  | [] => some []
  | x :: xs => match f x with
    | none => none
    | some o => match mapO f xs with
      | none => none
      | some ys => some (match o with | some y => y :: ys | none => ys)
theorem lcO_mapO (f : α → Option (Option γ)) : ∀ (xs : List α) (ys : List γ), mapO f xs = some ys → lcO (fun (u : Unit) x => (f x).map fun o => (o, u)) xs () = some (ys, ())
  | [], ys, h => by cases h; rfl
  | x :: xs, ys, h => by
    unfold mapO at h
    unfold lcO
    cases e : f x with
    | none => rw [e] at h; cases h
    | some o =>
      rw [e] at h
      dsimp only at h
      cases e2 : mapO f xs with
      | none => rw [e2] at h; cases h
      | some zs =>
        rw [e2] at h
        dsimp only at h
        simp only [Option.map_some, lcO_mapO f xs zs e2]
        cases h
        rfl
/-! ## taking a mirror's hypothesis apart -/
theorem bindE {m : Option α} {f : α → Option β} {r : β} (h : (m >>= f) = some r) : ∃ a, m = some a ∧ f a = some r := by
  cases m with
  | none => cases h
  | some a => exact ⟨a, rfl, h⟩
theorem condT {c : Bool} {a b x : α} (hc : c = true) (h : (bif c then a else b) = x) : a = x := by rw [hc] at h; exact h
theorem condF {c : Bool} {a b x : α} (hc : c = false) (h : (bif c then a else b) = x) : b = x := by rw [hc] at h; exact h
theorem pureE {a r : α} (h : (pure a : Option α) = some r) : a = r := Option.some.inj h
theorem pureE' {a r : α} (h : (pure a : Option α) = some r) : r = a := (Option.some.inj h).symm
theorem andF {c : Bool} {d : Bool} (hc : c = false) : (c && d) = false := by rw [hc]; rfl
theorem andT {c : Bool} {d : Bool} (hc : c = true) : (c && d) = d := by rw [hc]; rfl
theorem orF {c : Bool} {d : Bool} (hc : c = false) : (c || d) = d := by rw [hc]; rfl
theorem orT {c : Bool} {d : Bool} (hc : c = true) : (c || d) = true := by rw [hc]; rfl
end
section
variable {nx bk ct : L2.St → Hp → Prop} {rt : VK}
variable {W : Wd} {G Gj : Gam} {T : Tms} {cs cj : Cells} {K : Sl → Cells → Prop} {ta tb te : TE} {tt : TT} {D : Ends} {t1 t2 : TS} {t : TA} {α γ : Type} {KF : PySem.W.Frag}
/-- both ways meet behind the if -/
theorem s_ifJ (Gj : Gam) (cj : Cells) (h : Et tt W G T cs fun b cs1 => (b = true → ∀ N, NxT N W Gj T cj → NxT (t1 ⟨N, rt, bk, ct⟩) W G T cs1) ∧ (b = false → ∀ N, NxT N W Gj T cj → NxT (t2 ⟨N, rt, bk, ct⟩) W G T cs1)) (rest : NxT nx W Gj T cj) : NxT (tIfS tt t1 t2 ⟨nx, rt, bk, ct⟩) W G T cs :=
  s_if (h.imp fun b cs1 ⟨h1, h2⟩ => ⟨fun e => h1 e nx rest, fun e => h2 e nx rest⟩)
theorem mapU {f : Option (Option γ)} {u u1 : Unit} {o : Option γ} (h : (f.map fun o => (o, u)) = some (o, u1)) : f = some o ∧ u1 = u := by
  cases f with
  | none => cases h
  | some p => cases h; exact ⟨rfl, rfl⟩
end
/-! ## the readings' names -/
abbrev rdLen (KF : PySem.W.Frag) : List V → Hp → VK → Prop := fun xs H Q => ∃ p ys, xs = [.ref p] ∧ (SqL KF H p ys ∨ SqT KF H p ys) ∧ Q (.int ys.length) H
abbrev rdTupleOf (KF : PySem.W.Frag) : List V → Hp → VK → Prop := fun xs H Q => ∃ p ys, xs = [.ref p] ∧ ((SqL KF H p ys ∧ ∀ l, H l = none → Q (.ref l) (upd H l (.tup ys))) ∨ (SqT KF H p ys ∧ Q (.ref p) H))
abbrev rdAbs : List V → Hp → VK → Prop := fun xs H Q => ∃ i, xs = [.int i] ∧ Q (.int (if i < 0 then -i else i)) H
abbrev rdMax2 : List V → Hp → VK → Prop := fun xs H Q => ∃ i j, xs = [.int i, .int j] ∧ Q (.int (if j > i then j else i)) H
abbrev rdMin2 : List V → Hp → VK → Prop := fun xs H Q => ∃ i j, xs = [.int i, .int j] ∧ Q (.int (if j < i then j else i)) H
abbrev rdInt1 : List V → Hp → VK → Prop := fun xs H Q => (∃ i, xs = [.int i] ∧ Q (.int i) H) ∨ ∃ k, xs = [.bl k] ∧ Q (.int (if k then 1 else 0)) H
abbrev rdAdd : R2 := rI0 fun i j => .int (i + j)
abbrev rdSub : R2 := rI0 fun i j => .int (i - j)
abbrev rdAnd : R2 := rI0 fun i j => .int (Builtin.bitAnd i j)
abbrev rdOr : R2 := rI0 fun i j => .int (Builtin.bitOr i j)
abbrev rdXor : R2 := rI0 fun i j => .int (Builtin.bitXor i j)
abbrev rdLt : R2 := rI0 fun i j => .bl (decide (i < j))
abbrev rdLe : R2 := rI0 fun i j => .bl (decide (i ≤ j))
abbrev rdGt : R2 := rI0 fun i j => .bl (decide (j < i))
abbrev rdGe : R2 := rI0 fun i j => .bl (decide (j ≤ i))
abbrev rdMul : R2 := rI CMulX fun i j => .int (i * j)
abbrev rdDiv : R2 := rI CDivW fun i j => .int (i / j)
abbrev rdMod : R2 := rI (fun _ j => 0 < j) fun i j => .int (i % j)
abbrev rdPow : R2 := rI CPowW fun i j => .int (i ^ j.toNat)
abbrev rdShl : R2 := rI CShl fun i j => .int (i * 2 ^ j.toNat)
abbrev rdShr : R2 := rI (fun _ j => 0 ≤ j) fun i j => .int (i / 2 ^ j.toNat)
abbrev rdNeg : V → Hp → VK → Prop := rU fun i => .int (-i)
abbrev rdInv : V → Hp → VK → Prop := rU fun i => .int (Builtin.bitNot i)
def Cup := Int × Int × Int
def cCup (k : Cup) : Cl := cLst rInt [k.1, k.2.1, k.2.2]

/-! ## built-ins by name -/
theorem bt_len : bootBuiltins "len" = some (.builtin "len") := PySem.boot_len
theorem bt_all : bootBuiltins "all" = some (.builtin "all") := PyProof.Rows.boot_all
theorem bt_max : bootBuiltins "max" = some (.builtin "max") := PyProof.Rows.boot_max
theorem bt_min : bootBuiltins "min" = some (.builtin "min") := PyProof.Rows.boot_min
theorem bt_abs : bootBuiltins "abs" = some (.builtin "abs") := PyProof.Rows.boot_abs
theorem bt_repr : bootBuiltins "repr" = some (.builtin "repr") := PyProof.Rows.boot_repr
theorem bt_isinstance : bootBuiltins "isinstance" = some (.builtin "isinstance") := PyProof.Rows.boot_isinstance
theorem bt_int : bootBuiltins "int" = some (.type "int") := PyProof.Rows.boot_int
theorem bt_bool : bootBuiltins "bool" = some (.type "bool") := PyProof.Rows.boot_bool
theorem bt_str : bootBuiltins "str" = some (.type "str") := PyProof.Rows.boot_str
theorem bt_tuple : bootBuiltins "tuple" = some (.type "tuple") := PyProof.Rows.boot_tuple
theorem bt_list : bootBuiltins "list" = some (.type "list") := PyProof.Rows.boot_list
end ML

namespace ML
open PySem PySem.Spec PyProof.Rows L2
section
variable {nx bk ct : L2.St → Hp → Prop} {rt : VK}
variable {W : Wd} {G G' : Gam} {T : Tms} {cs : Cells} {K : Sl → Cells → Prop} {KB : Bool → Cells → Prop} {ta tb tc te to ti : TE} {tt tu : TT} {D : Ends} {t1 t2 : TS} {t : TA} {α β γ ρ : Type} {KF : PySem.W.Frag}
/-! ## x op= e -/
/-! ## a tuple and a tuple -/
def oCat (xs ys : List α) : Option (List α) := if xs.length + ys.length ≤ sizeLine then some (xs ++ ys) else none
theorem e_catT (ha : Ev ta W G T cs fun sa cs1 => ∀ va, Ev tb W G ((va, sa) :: T) cs1 fun sb cs2 => ∃ (α : Type) (r : R α) (xs ys zs : List α), sa = (rTup r).at xs ∧ sb = (rTup r).at ys ∧ oCat xs ys = some zs ∧ K ((rTup r).at zs) cs2) :
    Ev (tOp (rCatA KF) ta tb) W G T cs K := fun s H st Q q => by
  refine ha s H st _ fun sa cs1 h1 va H1 st1 => ?_
  refine h1 va s H1 st1 _ fun sb cs2 ⟨α, r, xs, ys, zs, e1, e2, hy, k⟩ vb H2 ⟨F, c, sg, tm⟩ => ?_
  subst e1 e2
  obtain ⟨hz, a, vs, rfl, hF, hA⟩ := tm.tail.head
  obtain ⟨hz2, b, ws, rfl, hF2, hA2⟩ := tm.head
  obtain ⟨hl, e⟩ := of_ite hy
  subst e
  have l1 := hA.length
  have l2 := hA2.length
  refine ⟨a, b, vs, ws, rfl, rfl, SqT.of (c.fh _ _ hF), SqT.of (c.fh _ _ hF2), by omega, fun e => ?_, fun n e => ?_, fun n1 n2 p hp => ?_⟩
  · have ex : xs = [] := List.eq_nil_of_length_eq_zero (by rw [l1, e]; rfl)
    rw [ex, List.nil_append] at k
    exact q _ _ k _ H2 ⟨F, c, sg, tm.tail.tail.cons ⟨hz2, b, ws, rfl, hF2, hA2⟩⟩
  · have ey : ys = [] := List.eq_nil_of_length_eq_zero (by rw [l2, e]; rfl)
    rw [ey, List.append_nil] at k
    exact q _ _ k _ H2 ⟨F, c, sg, tm.tail.tail.cons ⟨hz, a, vs, rfl, hF, hA⟩⟩
  · have sF : Same F (upd F p (.tup (vs ++ ws))) := same_upd (c.fh.free hp)
    exact q _ _ k _ _ ⟨_, c.new hp, sg.mono sF, (tm.tail.tail.mono sF).cons ⟨by rw [List.length_append]; exact hl, p, _, rfl, upd_same, (hA.app hA2).imp fun _ _ z => r.mono sF z⟩⟩
/-! ## slices -/
def cutL (xs : List α) (lo hi : Option Int) : List α := (xs.drop (HT.sIx xs.length 0 lo)).take (HT.sIx xs.length xs.length hi - HT.sIx xs.length 0 lo)
theorem cutL_len (xs : List α) (lo hi : Option Int) : (cutL xs lo hi).length ≤ xs.length := by
  unfold cutL
  rw [List.length_take, List.length_drop]
  omega
theorem All2.cut {P : α → V → Prop} {xs : List α} {vs : List V} (a : All2 P xs vs) (lo hi : Option Int) : All2 P (cutL xs lo hi) (cutV vs lo hi) := by
  unfold cutL cutV
  rw [a.length]
  exact (a.drop _).take _
def EvO (to : TO) (W : Wd) (G : Gam) (T : Tms) (cs : Cells) (K : Option Int → Cells → Prop) : Prop :=
  ∀ s H, Sta W G T cs s H → ∀ Q : Option Int → Hp → Prop, (∀ o cs', K o cs' → ∀ H', Sta W G T cs' s H' → Q o H') → to s H Q
theorem eo_none {K : Option Int → Cells → Prop} (k : K none cs) : EvO tNoPart W G T cs K := fun s H st Q q => q none cs k H st
theorem eo_some {K : Option Int → Cells → Prop} (h : Ev te W G T cs fun sl cs1 => ∃ i, sl = rInt.at i ∧ K (some i) cs1) : EvO (tPart te) W G T cs K := fun s H st Q q => by
  refine h s H st _ fun sl cs1 ⟨i, e, k⟩ v H1 st1 => ?_
  subst e
  exact ⟨i, int_top st1, q _ _ k H1 st1.pop⟩
theorem e_slT {tl th : TO} (ha : Ev ta W G T cs fun sa cs1 => ∀ va, EvO tl W G ((va, sa) :: T) cs1 fun lo cs2 => EvO th W G ((va, sa) :: T) cs2 fun hi cs3 => ∃ (α : Type) (r : R α) (xs : List α), sa = (rTup r).at xs ∧ K ((rTup r).at (cutL xs lo hi)) cs3) :
    Ev (tSl (rSlA KF) ta tl th) W G T cs K := fun s H st Q q => by
  refine ha s H st _ fun sa cs1 h1 va H1 st1 => ?_
  refine h1 va s H1 st1 _ fun lo cs2 h2 H2 st2 => ?_
  refine h2 s H2 st2 _ fun hi cs3 ⟨α, r, xs, e1, k⟩ H3 ⟨F, c, sg, tm⟩ => ?_
  subst e1
  obtain ⟨hz, a, vs, rfl, hF, hA⟩ := tm.head
  have hl := hA.length
  refine ⟨a, vs, rfl, SqT.of (c.fh _ _ hF), fun ⟨e1, e2⟩ => ?_, fun _ p hp => ?_⟩
  · have ex : cutL xs lo hi = xs := by
      unfold cutL
      rw [hl, e1, e2, List.drop_zero, Nat.sub_zero, ← hl, List.take_length]
    rw [ex] at k
    exact q _ _ k _ H3 ⟨F, c, sg, tm.tail.cons ⟨hz, a, vs, rfl, hF, hA⟩⟩
  · have sF : Same F (upd F p (.tup (cutV vs lo hi))) := same_upd (c.fh.free hp)
    exact q _ _ k _ _ ⟨_, c.new hp, sg.mono sF, (tm.tail.mono sF).cons ⟨Nat.le_trans (cutL_len _ _ _) hz, p, _, rfl, upd_same, (hA.cut lo hi).imp fun _ _ z => r.mono sF z⟩⟩
theorem e_slL {tl th : TO} (ha : Ev ta W G T cs fun sa cs1 => ∀ va, EvO tl W G ((va, sa) :: T) cs1 fun lo cs2 => EvO th W G ((va, sa) :: T) cs2 fun hi cs3 => ∃ (α : Type) (r : R α) (xs : List α), sa = (rLst r).at xs ∧ K ((rLst r).at (cutL xs lo hi)) cs3) :
    Ev (tSl (rSlL KF) ta tl th) W G T cs K := fun s H st Q q => by
  refine ha s H st _ fun sa cs1 h1 va H1 st1 => ?_
  refine h1 va s H1 st1 _ fun lo cs2 h2 H2 st2 => ?_
  refine h2 s H2 st2 _ fun hi cs3 ⟨α, r, xs, e1, k⟩ H3 ⟨F, c, sg, tm⟩ => ?_
  subst e1
  obtain ⟨hz, a, vs, rfl, hF, hA⟩ := tm.head
  refine ⟨a, vs, rfl, SqL.of (c.fh _ _ hF), fun p hp => ?_⟩
  have sF : Same F (upd F p (.lst (cutV vs lo hi))) := same_upd (c.fh.free hp)
  exact q _ _ k _ _ ⟨_, c.new hp, sg.mono sF, (tm.tail.mono sF).cons ⟨Nat.le_trans (cutL_len _ _ _) hz, p, _, rfl, upd_same, (hA.cut lo hi).imp fun _ _ z => r.mono sF z⟩⟩
/-! ## a pair's parts -/
end
/-! ## a def that hands back a new list that its caller changes -/
section
variable {nx bk ct : L2.St → Hp → Prop} {rt : VK}
variable {W : Wd} {G : Gam} {T : Tms} {cs : Cells} {K : Sl → Cells → Prop} {t : TA}
def spC {ι β : Type} (A : ι → List Sl) (ci : ι → Cells) (m : ι → Option β) (new : β → Cl) (co : ι → β → Cells) : Sp := fun vs H Q _ =>
  ∃ (i : ι) (b : β) (W : Wd), m i = some b ∧ Core W W.F (ci i) H ∧ Args W.F (A i) vs ∧ ∀ p, Rt Q W (sRef p) (co i b ++ [(p, new b)])
theorem spC_len {ι β : Type} {A : ι → List Sl} {ci : ι → Cells} {m : ι → Option β} {new : β → Cl} {co : ι → β → Cells} {n : Nat} {vs : List V} {H : Hp} {Q : VK} {E : XK} (h : spC A ci m new co vs H Q E) (hA : ∀ i, (A i).length = n) : vs.length = n := by
  obtain ⟨i, b, W, _, _, ar, _⟩ := h
  rw [← hA i]
  exact ar.length.symm
theorem e_callC {ι β : Type} {A : ι → List Sl} {ci : ι → Cells} {m : ι → Option β} {new : β → Cl} {co : ι → β → Cells} {E : XK}
    (h : EvA t W G T cs fun sls cs1 => ∃ (i : ι) (b : β) (rest : Cells), m i = some b ∧ sls = A i ∧ cs1 = ci i ++ rest ∧ ∀ p, K (sRef p) (co i b ++ [(p, new b)] ++ rest)) : Ev (tCall (spC A ci m new co) [] E t) W G T cs K := fun s H st Q q => by
  refine h s H st _ fun sls cs1 ⟨i, b, rest, hm, e1, e2, k⟩ vs H1 ⟨F, c, sg, tm, ar⟩ => ?_
  subst e1 e2
  rw [List.append_nil]
  refine ⟨i, b, Wd.sub F H1 (ci i), hm, c.sub, ar, fun p v H2 ⟨F2, c2, pv⟩ => ?_⟩
  have sF : Same F F2 := c2.f0
  exact q _ _ (k p) v H2 ⟨F2, c.unsub c2, sg.mono sF, (tm.mono sF).cons pv⟩
end
/-! ## the law's end -/
end ML

namespace ML
open PySem Spec PyProof.Rows L2

/-! ## defs run where no repr is under way -/
structure RoomG (k : Nat) (A : Around) : Prop where
  rm : Room k A
  gd : A.guards = some []
theorem RoomG.mono {j k : Nat} {A : Around} (r : RoomG k A) (h : j ≤ k) : RoomG j A := ⟨r.rm.mono h, r.gd⟩
theorem RoomG.units {k : Nat} {A : Around} (r : RoomG k A) : A.units + 64 < cLine := r.rm.units
theorem RoomG.deeper {k : Nat} {A : Around} (r : RoomG (k + 1) A) (env : Env) : RoomG k (A.deeper env) := ⟨r.rm.deeper env, r.gd⟩
structure FnG (P : Program) (w : World) (K : PySem.W.Frag) (mg : Str → Option Value) (base : Heap) (CX : CXT) (k : Nat) (f : Addr) (fd : FuncData) (ps : List Str) (sp : Sp) : Prop where
  len : ∀ vs H Q E, sp vs H Q E → vs.length = ps.length
  go : ∀ (A : Around) (ou : List Env) (s : Shared) (H : Hp) (ar : PySem.Args) (us : List Value) (vs : List V) (Q : VK) (E : XK), RoomG k A → Env0 P w K mg base A ou s H → BindsTo s fd ar (ps.zip us) → Vals vs us → sp vs H Q E →
    codeAny (model P w) A (.call (.ref f) ar) (CR CX ou P w H s Q E) s
section
variable {X : Cx} {CX : CXT} {k : Nat} {f : Addr} {fd : FuncData} {ps : List Str} {sp : Sp} {dvs : List V} {ds : List Value} {E : XK} {x : Str} {p pos : Pos} {e : Expr} {es : List Expr} {t : TA}
theorem run_fnG {pins : List (Addr × Obj)} {σ : L2.St} {H : Hp} {s : Shared} {Q : VK} {us : List Value} {vs : List V} (F : FnG X.prog X.w X.K X.mg X.base CX k f fd ps sp) (hr : RoomG k X.A) (hb : Binds X.K fd ps ds) (hd : Vals dvs ds) (hx : Passes CX X E)
    (I : Inv X pins σ H s) (r : Vals vs us) (h : sp (vs ++ dvs) H Q E) : wpAny (model X.prog X.w) X.A (call (.ref f) us) (EP X pins σ Q) X.xe s := by
  have r2 := r.append hd
  have hl : (us ++ ds).length = ps.length := r2.length.symm.trans (F.len _ _ _ _ h)
  have run := F.go X.A X.stack s H ⟨us, []⟩ _ _ Q E hr I.env0 (hb s us I.kIn hl) r2 h
  refine wpAny_call (codeAny_mono run fun r s' hq => ?_)
  match r, hq with
  | .error e, hq => exact hx pins σ H s e s' I hq
  | .ok (.ret u), hq => exact I.after hq
  | .ok .next, hq => exact False.elim hq
  | .ok .brk, hq => exact False.elim hq
  | .ok .cont, hq => exact False.elim hq
theorem pe_callG (F : FnG X.prog X.w X.K X.mg X.base CX k f fd ps sp) (hr : RoomG k X.A) (hg : Gl X x) (hm : X.mg x = some (.ref f)) (hk : PySem.W.keepIn X.K (.ref f) = true) (hb : Binds X.K fd ps ds) (hd : Vals dvs ds) (hx : Passes CX X E)
    (ha : PA X (e :: es) t) (h1 : (x == ("__debug__" : Str)) = false := by decide) (h2 : starEach (e :: es) X.env = (false, eval e X.env) :: starEach es X.env := by rfl) (h3 : (backTo pos (starEach es X.env)).any (·.1) = false := by rfl) :
    PE X (.Call (.Name x p) (e :: es) [] pos) (tCall sp dvs E t) := ⟨fun pins s σ H Q I h =>
  wpAny_Call_Name_kw (ld_glob I hg hm (PySem.W.callWith_K (h₀ := X.base) I.ok.mod.kin hk (thn (ha.run pos pins s σ H _ I h) fun us s1 ⟨vs, H1, I1, r, q⟩ => ⟨I1.kIn, run_fnG F hr hb hd hx I1 r q⟩) h2 h3) h1)⟩
theorem pe_callG0 (F : FnG X.prog X.w X.K X.mg X.base CX k f fd ps sp) (hr : RoomG k X.A) (hg : Gl X x) (hm : X.mg x = some (.ref f)) (hk : PySem.W.keepIn X.K (.ref f) = true) (hb : Binds X.K fd ps ds) (hd : Vals dvs ds) (hx : Passes CX X E)
    (h1 : (x == ("__debug__" : Str)) = false := by decide) : PE X (.Call (.Name x p) [] [] pos) (tCall sp dvs E tNil) := ⟨fun pins s σ H Q I h =>
  wpAny_Call_Name_kw (ld_glob I hg hm (PySem.W.callWith_K0 I.kIn hk (run_fnG (us := []) F hr hb hd hx I .nil h)) h1)⟩
end
/-- a def by its body -/
theorem fn_G {CX : CXT} {P : Program} {w : World} {K : PySem.W.Frag} {mg : Str → Option Value} {base : Heap} {k : Nat} {f : Addr} {name qual : Str} {params : Arguments} {body : List Stmt} {scope : Scope} {dV kV doc pm cdv ct oc : Value} {an od : Option Addr}
    {osl : Array (Option Value)} {N ps : List Str} {sp : Sp} (lk : K.lookup f = some ⟨oc, od, .func (PySem.W.fnOf name qual params body scope dV kV doc pm an cdv ct), osl⟩) (hcd : PySem.W.codeIn K cdv qual = true) (S : FnScope N ps scope)
    (len : ∀ vs H Q E, sp vs H Q E → vs.length = ps.length)
    (hb : ∀ (A : Around) (ou : List Env) (s : Shared) (H : Hp) (vs : List V) (Q : VK) (E : XK), RoomG k (A.deeper (envOfC qual scope s.heap.objs.size f cdv)) → sp vs H Q E →
      ∃ t, PSs (cxOf CX P w K mg base N qual scope f cdv A ou s H E) body t ∧ t { nx := fun _ H' => Q .non H', rt := Q } (L2.start N vs) H) :
    FnG P w K mg base CX (k + 1) f (PySem.W.fnOf name qual params body scope dV kV doc pm an cdv ct) ps sp := by
  refine ⟨len, fun A ou s H ar us vs Q E hr e0 hbd r hsp => ?_⟩
  have hl := len _ _ _ _ hsp
  have old : ∀ b o, base.get? b = some o → s.heap.get? b = some o := fun b o e => (e0.bs b o e).1
  have KX : K.In s.heap := e0.mod.kin.keeps old
  have lim : s.heap.NoLimit := e0.mod.nolimit.keeps old
  have kinds : ∀ y ∈ ps.zip us, scope.names.lookup y.1 = some .local ∨ (scope.names.lookup y.1 = some .cell ∧ ((cellsFrom (s.heap.objs.size + 1) scope.names []).lookup y.1).isSome = true) := fun y hy =>
    (S.par y.1 (List.of_mem_zip hy).1).imp id fun q => ⟨q, PySem.W.cellsFrom_some _ _ _ (.inl q)⟩
  refine codeAny_call_function hr.rm.depth (KX _ _ lk) rfl S.co S.gen rfl (PySem.W.codeRec_of KX hcd) (hbd _ _ _ _ ?_)
  refine wpAny_newFunctionEnv_cells S.kind kinds fun env he s1 x => ?_
  subst he
  refine ⟨lim.keeps x.toInCall.keep, codeAny_func ?_⟩
  obtain ⟨t, ht, hq⟩ := hb A ou s H vs Q E (hr.deeper _) hsp
  refine wpAny_mono (ht.run [] s1 (L2.start N vs) H _ (inv_start S hr.rm.hd e0 hl r x) hq) (fun fl s' hs => ?_) fun e s' hs => hs
  match fl, hs with
  | .ret u, ⟨v, _, H', J, rv, q⟩ => exact ⟨v, H', J.os, J.bare, J.base, J.hok, rv, q⟩
  | .next, ⟨_, H', J, q⟩ => exact ⟨V.non, H', J.os, J.bare, J.base, J.hok, rfl, q⟩
  | .brk, ⟨_, _, _, q⟩ => exact False.elim q
  | .cont, ⟨_, _, _, q⟩ => exact False.elim q
theorem okG {P : Program} {w : World} {K : PySem.W.Frag} {mg : Str → Option Value} {base : Heap} {x qual : Str} {st : Stmt} {f : Addr} {fd : FuncData} {N ps : List Str} {k : Nat} {sp : Sp} (F : Fun K x qual st f fd) (S : FnScope N ps (defScope st)) (len : ∀ vs H Q E, sp vs H Q E → vs.length = ps.length)
    (hb : ∀ (cdv : Value) (A : Around) (ou : List Env) (s : Shared) (H : Hp) (vs : List V) (Q : VK) (E : XK), RoomG k (A.deeper (envOfC qual (defScope st) s.heap.objs.size f cdv)) → sp vs H Q E →
      ∃ t, PSs (cxOf CX0 P w K mg base N qual (defScope st) f cdv A ou s H E).nox (defBody st) t ∧ t { nx := fun _ H' => Q .non H', rt := Q } (L2.start N vs) H) : FnG P w K mg base CX0 (k + 1) f fd ps sp := by
  obtain ⟨oc, od, kV, doc, pm, an, cdv, ct, osl, rfl, lk, hcd⟩ := F.ex
  exact fn_G lk hcd S len fun A ou s H vs Q E hr hsp => let ⟨t, h, q⟩ := hb cdv A ou s H vs Q E hr hsp; ⟨t, h.nox, q⟩
/-! ## repr of data -/
/-- repr(x), x data without dicts -/
def rRepr (K : PySem.W.Frag) : List V → Hp → VK → Prop := fun xs H Q => ∃ x d, xs = [x] ∧ Dp K H x d ∧ d.showable = true ∧ d.canLay0 = true ∧ d.depth ≤ 60 ∧ d.shown.length ≤ sizeLine ∧ Q (.str d.shown) H
section
variable {nx bk ct : L2.St → Hp → Prop} {rt : VK}
variable {W : Wd} {G : Gam} {T : Tms} {cs : Cells} {K : Sl → Cells → Prop} {t ta tb : TE}
def oRepr (d : PyData) : Option Str := if d.showable = true ∧ d.shown.length ≤ sizeLine then some d.shown else none
variable {KF : PySem.W.Frag}
end
end ML

namespace ML
open PySem Spec PyProof.Rows L2
/-! ## tables of sets with 8, 32, 128, 512 and 2048 places -/
/-- the round meets every place, from every place -/
structure Rnd (m : Nat) : Prop where
  odd : m % 2 = 1
  big : m ≤ 4095
  one : m = 7 ∨ m = 31 ∨ m = 127 ∨ m = 511 ∨ m = 2047
  goes : ∀ i j, i ≤ m → j ≤ m → ∃ k, k ≤ m ∧ lcgI m i k = j
/-- the places that k steps meet, as bits -/
def sweep (m : Nat) : Nat → Nat → Nat → Nat
  | 0, _, acc => acc
  | k + 1, x, acc => sweep m k ((x * 5 + 1) % (m + 1)) (acc ||| 1 <<< x)
theorem lcg_front (m x : Nat) : ∀ k, lcgI m ((x * 5 + 1) % (m + 1)) k = lcgI m x (k + 1)
  | 0 => rfl
  | k + 1 => by
    show (lcgI m _ k * 5 + 1) % (m + 1) = (lcgI m x (k + 1) * 5 + 1) % (m + 1)
    rw [lcg_front m x k]
theorem sweep_bit (m : Nat) {j : Nat} : ∀ k x acc, (sweep m k x acc).testBit j = true → acc.testBit j = true ∨ ∃ b, b < k ∧ lcgI m x b = j
  | 0, x, acc, h => .inl h
  | k + 1, x, acc, h => by
    rcases sweep_bit m k _ _ h with z | ⟨b, hb, e⟩
    · rw [Nat.testBit_or, Bool.or_eq_true] at z
      rcases z with z | z
      · exact .inl z
      · refine .inr ⟨0, Nat.succ_pos _, ?_⟩
        rw [Nat.one_shiftLeft, Nat.testBit_two_pow, decide_eq_true_iff] at z
        exact z
    · exact .inr ⟨b + 1, Nat.succ_lt_succ hb, by rw [← lcg_front]; exact e⟩
theorem lcg_zero (m : Nat) : ∀ k, lcgN m k = lcgI m 0 k
  | 0 => rfl
  | k + 1 => by
    show (lcgN m k * 5 + 1) % (m + 1) = (lcgI m 0 k * 5 + 1) % (m + 1)
    rw [lcg_zero m k]
theorem Rnd.of {n m : Nat} (e : m + 1 = 2 ^ n) (odd : m % 2 = 1) (big : m ≤ 4095) (one : m = 7 ∨ m = 31 ∨ m = 127 ∨ m = 511 ∨ m = 2047) (h : sweep m (m + 1) 0 0 = 2 ^ (m + 1) - 1) (z : lcgN m (m + 1) = 0) : Rnd m := by
  have met : ∀ j, j ≤ m → ∃ b, b ≤ m ∧ lcgN m b = j := fun j hj => by
    have t : (sweep m (m + 1) 0 0).testBit j = true := by
      rw [h, Nat.testBit_two_pow_sub_one, decide_eq_true_iff]
      omega
    rcases sweep_bit m _ _ _ t with q | ⟨b, hb, q⟩
    · rw [Nat.zero_testBit] at q; cases q
    · exact ⟨b, by omega, by rw [lcg_zero]; exact q⟩
  have turn : ∀ k, lcgN m (m + 1 + k) = lcgN m k := fun k => by
    induction k with
    | zero => exact z
    | succ k ih =>
      show (lcgN m (m + 1 + k) * 5 + 1) % (m + 1) = (lcgN m k * 5 + 1) % (m + 1)
      rw [ih]
  refine ⟨odd, big, one, fun i j hi hj => ?_⟩
  obtain ⟨a, a1, a2⟩ := met i hi
  obtain ⟨b, b1, b2⟩ := met j hj
  subst a2 b2
  by_cases c : a ≤ b
  · exact ⟨b - a, by omega, (lcgN_add m a _).trans (congrArg _ (by omega))⟩
  · exact ⟨m + 1 + b - a, by omega, ((lcgN_add m a _).trans (congrArg _ (by omega : a + (m + 1 + b - a) = m + 1 + b))).trans (turn b)⟩
theorem rnd7 : Rnd 7 := .of (n := 3) rfl rfl (by decide) (by decide) (by decide +kernel) (by decide +kernel)
/-- the way of a search meets every place -/
theorem Rnd.run {m : Nat} (r : Rnd m) (h : Int) {j : Nat} (hj : j ≤ m) : ∃ n, n ≤ m + 12 ∧ runI m (SetTable.bits h) n = j := by
  obtain ⟨k, k1, k2⟩ := r.goes _ j (runI_le m (SetTable.bits h) 12) hj
  refine ⟨12 + k, by omega, ?_⟩
  rw [runI_tail (bits_lt h)]
  exact k2
theorem Rnd.hit {m : Nat} (r : Rnd m) (h : Int) {j : Nat} (hj : j ≤ m) : ∃ k, k < 10 * SetTable.turns m ∧ way m h k = j := by
  obtain ⟨n, n1, n2⟩ := r.run h hj
  obtain ⟨k, k1, k2⟩ := run_nth m (SetTable.bits h) n
  have : k < 10 * SetTable.turns m := by
    unfold SetTable.turns
    omega
  exact ⟨k, this, (congrArg SetTable.Probe.j k2).trans n2⟩
theorem way_in (m : Nat) (h : Int) (k : Nat) : way m h k ≤ m := by
  have lo : SetTable.bits h % (m + 1) ≤ m := Nat.le_of_lt_succ (Nat.mod_lt _ (Nat.succ_pos m))
  obtain ⟨r1, r2, _⟩ := runEnd_bd lo
  have := nth_in (m := m) k (runAt m (SetTable.bits h % (m + 1)) (SetTable.bits h)) (by unfold runAt; dsimp only; omega)
  exact Nat.le_trans (Nat.le_add_right _ _) this
/-- the table's word: every hash is found again on its way -/
structure TabB (t : SetTable) (hs : List Int) : Prop where
  up : Ris t.place.toList
  nodum : t.dummies = #[]
  len : t.place.size = hs.length
  rnd : Rnd t.mask
  low : ∀ x ∈ t.place.toList, x ≤ t.mask
  met : ∀ (i : Nat) (h : Int) (j : Nat), hs[i]? = some h → t.place.toList[i]? = some j → ∃ c, way t.mask h c = j ∧ ∀ b, b < c → way t.mask h b ∈ t.place.toList
section
variable {t : SetTable} {hs : List Int}
theorem TabB.first (T : TabB t hs) (few : hs.length ≤ t.mask) (h : Int) : ∃ N, N < 10 * SetTable.turns t.mask ∧ way t.mask h N ∉ t.place.toList ∧ ∀ c, c < N → way t.mask h c ∈ t.place.toList := by
  obtain ⟨j, j1, j2⟩ := st_missing t.place.toList (t.mask + 1) (by have := T.len; rw [Array.length_toList]; omega)
  obtain ⟨c, c1, c2⟩ := T.rnd.hit h (Nat.le_of_lt_succ j1)
  have at_c : way t.mask h c ∉ t.place.toList := by
    rw [c2]
    exact j2
  obtain ⟨N, n1, n2, n3⟩ := st_least (p := fun c => way t.mask h c ∉ t.place.toList) c at_c
  exact ⟨N, by omega, n2, fun b hb => Classical.byContradiction (n3 b hb)⟩
theorem TabB.before (T : TabB t hs) {h : Int} {N i j : Nat} (free : way t.mask h N ∉ t.place.toList) (hi : hs[i]? = some h) (hj : t.place.toList[i]? = some j) : ∃ c, c < N ∧ way t.mask h c = j := by
  obtain ⟨c, c1, c2⟩ := T.met i h j hi hj
  refine ⟨c, Classical.byContradiction fun z => ?_, c1⟩
  by_cases q : N = c
  · exact free (by rw [q, c1]; exact List.mem_of_getElem? hj)
  · exact free (c2 N (by omega))
theorem TabB.put (T : TabB t hs) {h : Int} {N : Nat} (free : way t.mask h N ∉ t.place.toList) (full : ∀ c, c < N → way t.mask h c ∈ t.place.toList) :
    (t.put (way t.mask h N)).2 = SetTable.below t.place (way t.mask h N) ∧ SetTable.below t.place (way t.mask h N) ≤ hs.length ∧
      TabB (t.put (way t.mask h N)).1 (hs.take (SetTable.below t.place (way t.mask h N)) ++ h :: hs.drop (SetTable.below t.place (way t.mask h N))) ∧
      (t.put (way t.mask h N)).1.mask = t.mask ∧ (t.put (way t.mask h N)).1.led = t.led ∧ (t.put (way t.mask h N)).1.plain = t.plain ∧ (t.put (way t.mask h N)).1.fill = hs.length + 1 := by
  have inside := way_in t.mask h N
  generalize ew : way t.mask h N = j at free inside ⊢
  have cut := (below_cut T.up j).1
  have ln : t.place.toList.length = hs.length := Array.length_toList.trans T.len
  have other : t.place[SetTable.below t.place j]? ≠ some j := fun z => free (List.mem_of_getElem? (i := SetTable.below t.place j) (by rw [Array.getElem?_toList]; exact z))
  have pl := put_place t j
  have up : Ris (t.put j).1.place.toList := ris_insert T.up other
  have at_ : (t.put j).2 = SetTable.below t.place j := rfl
  generalize SetTable.below t.place j = p at cut pl up at_ ⊢
  have p1 : p ≤ hs.length := by rw [← T.len]; exact cut
  have p2 : p ≤ t.place.toList.length := by rw [ln]; exact p1
  have old : ∀ x, x ∈ t.place.toList → x ∈ (t.put j).1.place.toList := fun x hx => by
    rw [pl]
    exact mem_ins.mpr (.inr hx)
  have sz : (t.put j).1.place.size = hs.length + 1 := by
    rw [← Array.length_toList, pl, len_ins _ p2, ln]
  have keep : ∀ (i : Nat) (g : Int) (x : Nat), hs[i]? = some g → t.place.toList[i]? = some x → ∃ c, way t.mask g c = x ∧ ∀ b, b < c → way t.mask g b ∈ (t.put j).1.place.toList := fun i g x a b =>
    let ⟨c, c1, c2⟩ := T.met i g x a b
    ⟨c, c1, fun b hb => old _ (c2 b hb)⟩
  refine ⟨at_, p1, ?_, rfl, rfl, rfl, ?_⟩
  · refine ⟨?_, put_dm T.nodum j, sz.trans (len_ins _ p1 h).symm, T.rnd, fun x hx => ?_, fun i g x a b => ?_⟩
    · exact up
    · rw [pl] at hx
      exact (mem_ins.mp hx).elim (fun e => e ▸ inside) (T.low x)
    · rw [pl, tins_get _ p2] at b
      rw [tins_get _ p1] at a
      by_cases lt : i < p
      · rw [if_pos lt] at a b
        exact keep i g x a b
      · rw [if_neg lt] at a b
        by_cases eq : i = p
        · rw [if_pos eq] at a b
          cases a
          cases b
          exact ⟨N, ew, fun c hc => old _ (full c hc)⟩
        · rw [if_neg eq] at a b
          exact keep (i - 1) g x a b
  · unfold SetTable.fill
    rw [sz, put_dm T.nodum j]
    rfl
end
/-! ### laying all anew -/
theorem Rnd.free {m : Nat} (r : Rnd m) (owner : Array (Option Nat)) (h : Int) {j : Nat} (hj : j ≤ m) (empty : oAt owner j = none) :
    ∃ N, SetTable.layClean.free m owner (SetTable.turns m) (SetTable.bits h % (m + 1)) (SetTable.bits h) = some (way m h N) ∧ oAt owner (way m h N) = none ∧ ∀ c, c < N → oAt owner (way m h c) ≠ none := by
  obtain ⟨n, n1, n2⟩ := r.run h hj
  generalize eo : off m (SetTable.bits h % (m + 1)) (SetTable.bits h) n = o
  have there : way m h o = j := by
    rw [← eo]
    refine (congrArg SetTable.Probe.j (nth_off m n _ _)).trans ?_
    rw [itL_run]
    exact n2
  obtain ⟨N, N1, N2, N3⟩ := st_least (p := fun c => oAt owner (way m h c) = none) o (by rw [there]; exact empty)
  refine ⟨N, free_spec m owner (SetTable.turns m) n _ _ N ?_ (by rw [eo]; exact N1) (fun c hc => ?_) ?_, N2, N3⟩
  · show n < m + 15
    omega
  · have := N3 c hc
    cases q : oAt owner (nth m (runAt m (SetTable.bits h % (m + 1)) (SetTable.bits h)) c).j with
    | none => exact absurd q this
    | some x => rfl
  · exact Option.isNone_iff_eq_none.mpr N2
/-- who sits where: the k-th hash sits at the k-th of the places -/
structure Sits (m : Nat) (hs : List Int) (owner : Array (Option Nat)) (ps : List Nat) : Prop where
  size : owner.size = m + 1
  len : ps.length = hs.length
  low : ∀ j ∈ ps, j ≤ m
  iff : ∀ j k, j ≤ m → (oAt owner j = some k ↔ ps[k]? = some j)
  met : ∀ (k : Nat) (h : Int) (j : Nat), hs[k]? = some h → ps[k]? = some j → ∃ c, way m h c = j ∧ ∀ b, b < c → oAt owner (way m h b) ≠ none
theorem Sits.nil (m : Nat) : Sits m [] (Array.replicate (m + 1) none) [] := by
  refine ⟨Array.size_replicate, rfl, fun j h => (nomatch h), fun j k hj => ⟨fun z => ?_, fun z => (nomatch z)⟩, fun k h j a => (nomatch a)⟩
  rw [oAt_init hj] at z
  cases z
theorem Sits.more {m : Nat} (r : Rnd m) {hs : List Int} {owner : Array (Option Nat)} {ps : List Nat} (S : Sits m hs owner ps) (few : hs.length ≤ m) (h : Int) :
    ∃ j, stepF m (some (owner, hs.length)) h = some (owner.setIfInBounds j (some hs.length), hs.length + 1) ∧ Sits m (hs ++ [h]) (owner.setIfInBounds j (some hs.length)) (ps ++ [j]) := by
  obtain ⟨e, e1, e2⟩ := st_missing ps (m + 1) (by have := S.len; omega)
  have lo : e ≤ m := Nat.le_of_lt_succ e1
  have empty : oAt owner e = none := by
    cases q : oAt owner e with
    | none => rfl
    | some k => exact absurd (List.mem_of_getElem? ((S.iff e k lo).mp q)) e2
  obtain ⟨N, N1, N2, N3⟩ := r.free owner h lo empty
  have inside := way_in m h N
  refine ⟨way m h N, stepF_some N1, ?_⟩
  generalize ew : way m h N = j at N2 inside ⊢
  have own : oAt (owner.setIfInBounds j (some hs.length)) j = some hs.length := oAt_set_self _ (by rw [S.size]; omega)
  have rest : ∀ i, i ≠ j → oAt (owner.setIfInBounds j (some hs.length)) i = oAt owner i := fun i hi => oAt_set_ne _ hi
  have stay : ∀ i, oAt owner i ≠ none → oAt (owner.setIfInBounds j (some hs.length)) i ≠ none := fun i hi => by
    by_cases q : i = j
    · rw [q, own]; exact fun z => nomatch z
    · rw [rest i q]; exact hi
  have size : (owner.setIfInBounds j (some hs.length)).size = m + 1 := Array.size_setIfInBounds.trans S.size
  generalize owner.setIfInBounds j (some hs.length) = owner' at own rest stay size ⊢
  have get : ∀ {α : Type} (l : List α) (x : α) (k : Nat), (l ++ [x])[k]? = if k < l.length then l[k]? else if k = l.length then some x else none := fun l x k => by
    rw [List.getElem?_append]
    split
    · rfl
    · by_cases q : k = l.length
      · rw [if_pos q, q, Nat.sub_self]; rfl
      · rw [if_neg q]
        obtain ⟨d, hd⟩ : ∃ d, k - l.length = d + 1 := ⟨k - l.length - 1, by omega⟩
        rw [hd]; rfl
  refine ⟨size, by rw [List.length_append, List.length_append, S.len]; rfl, fun i hi => ?_, fun i k hi => ?_, fun k g i a b => ?_⟩
  · rcases List.mem_append.mp hi with z | z
    · exact S.low i z
    · rw [List.mem_singleton.mp z]; exact inside
  · rw [get, S.len]
    by_cases q : i = j
    · subst q
      rw [own]
      by_cases a : k < hs.length
      · rw [if_pos a]
        refine ⟨fun z => ?_, fun z => ?_⟩
        · have := Option.some.inj z
          omega
        · have := (S.iff i k hi).mpr z
          rw [N2] at this
          cases this
      · rw [if_neg a]
        by_cases b : k = hs.length
        · rw [if_pos b, b]; simp
        · rw [if_neg b]
          exact ⟨fun z => absurd (Option.some.inj z).symm b, fun z => nomatch z⟩
    · rw [rest i q, S.iff i k hi]
      by_cases a : k < hs.length
      · rw [if_pos a]
      · rw [if_neg a, List.getElem?_eq_none (by have := S.len; omega)]
        by_cases b : k = hs.length
        · rw [if_pos b]
          exact ⟨fun z => (nomatch z), fun z => absurd (Option.some.inj z).symm q⟩
        · rw [if_neg b]
  · rw [get] at a b
    rw [S.len] at b
    by_cases lt : k < hs.length
    · rw [if_pos lt] at a b
      obtain ⟨c, c1, c2⟩ := S.met k g i a b
      exact ⟨c, c1, fun b hb => stay _ (c2 b hb)⟩
    · rw [if_neg lt] at a b
      by_cases q : k = hs.length
      · rw [if_pos q] at a b
        cases a
        cases b
        exact ⟨N, ew, fun c hc => stay _ (N3 c hc)⟩
      · rw [if_neg q] at a
        cases a
theorem Sits.fold {m : Nat} (r : Rnd m) : ∀ (gs hs : List Int) (owner : Array (Option Nat)) (ps : List Nat), Sits m hs owner ps → hs.length + gs.length ≤ m →
    ∃ owner' ps', gs.foldl (stepF m) (some (owner, hs.length)) = some (owner', (hs ++ gs).length) ∧ Sits m (hs ++ gs) owner' ps'
  | [], hs, owner, ps, S, _ => ⟨owner, ps, by rw [List.append_nil]; rfl, by rw [List.append_nil]; exact S⟩
  | g :: gs, hs, owner, ps, S, few => by
    rw [List.length_cons] at few
    obtain ⟨j, e, S1⟩ := S.more r (by omega) g
    have ln : (hs ++ [g]).length = hs.length + 1 := List.length_append
    obtain ⟨owner', ps', f, S2⟩ := Sits.fold r gs _ _ _ S1 (by rw [ln]; omega)
    rw [ln, List.append_assoc] at f
    rw [List.append_assoc] at S2
    exact ⟨owner', ps', by rw [List.foldl_cons, e]; exact f, S2⟩
end ML

namespace ML
open PySem Spec PyProof.Rows L2
/-! ## sets of tuples of tuples and ints -/
mutual
/-- whole numbers and tuples of them, of any depth -/
def numK : NestedKey → Bool
  | .num _ => true
  | .tup ks => numKs ks
  | _ => false
def numKs : List NestedKey → Bool
  | [] => true
  | k :: ks => numK k && numKs ks
end
mutual
/-- v is the key k, its numbers no bools -/
inductive PN (h : Heap) : NestedKey → Value → Prop
  | num (i t) : PN h (.num i) (.int i t)
  | tup {a o vs n ks} : h.get? a = some o → o.cls = .type "tuple" → o.data = .seq vs n → PNs h ks vs.toList → PN h (.tup ks) (.ref a)
inductive PNs (h : Heap) : List NestedKey → List Value → Prop
  | nil : PNs h [] []
  | cons {k v ks vs} : PN h k v → PNs h ks vs → PNs h (k :: ks) (v :: vs)
end
mutual
theorem PN.is {h : Heap} : ∀ {k : NestedKey} {v : Value}, PN h k v → NestedIs h k v
  | _, _, .num i t => .int i t
  | _, _, .tup h1 h2 h3 h4 => .tup h1 h2 h3 h4.is
theorem PNs.is {h : Heap} : ∀ {ks : List NestedKey} {vs : List Value}, PNs h ks vs → NestedAll h ks vs
  | _, _, .nil => .nil
  | _, _, .cons a b => .cons a.is b.is
end
mutual
theorem PN.at {h h' : Heap} (g : ∀ a o vs n, h.get? a = some o → o.cls = .type "tuple" → o.data = .seq vs n → h'.get? a = some o) : ∀ {k : NestedKey} {v : Value}, PN h k v → PN h' k v
  | _, _, .num i t => .num i t
  | _, _, .tup h1 h2 h3 h4 => .tup (g _ _ _ _ h1 h2 h3) h2 h3 (h4.at g)
theorem PNs.at {h h' : Heap} (g : ∀ a o vs n, h.get? a = some o → o.cls = .type "tuple" → o.data = .seq vs n → h'.get? a = some o) : ∀ {ks : List NestedKey} {vs : List Value}, PNs h ks vs → PNs h' ks vs
  | _, _, .nil => .nil
  | _, _, .cons a b => .cons (a.at g) (b.at g)
end
mutual
theorem PN.of {h : Heap} : ∀ {k : NestedKey} {v : Value} {as : List Addr}, Reads h v k.data as → numK k = true → PN h k v
  | .num i, _, _, r, _ => by cases r; exact .num _ _
  | .tup ks, _, _, r, hn => by
    rw [numK] at hn
    cases r with
    | tuple h1 h2 h3 h4 => exact .tup h1 h2 h3 (PNs.of h4 hn)
  | .none, _, _, _, hn => nomatch hn
  | .text _, _, _, _, hn => nomatch hn
theorem PNs.of {h : Heap} : ∀ {ks : List NestedKey} {vs : List Value} {as : List Addr}, ReadsAll h vs (NestedKey.datas ks) as → numKs ks = true → PNs h ks vs
  | [], _, _, r, _ => by cases r; exact .nil
  | k :: ks, _, _, r, hn => by
    rw [numKs, Bool.and_eq_true] at hn
    cases r with
    | cons r1 r2 => exact .cons (PN.of r1 hn.1) (PNs.of r2 hn.2)
end
/-- the tuple at a is the key k -/
structure NI (h : Heap) (k : NestedKey) (a : Addr) : Prop where
  pn : PN h k (.ref a)
  dp : k.depth ≤ 8
  nm : numK k = true
theorem NI.is {h : Heap} {k : NestedKey} {a : Addr} (x : NI h k a) : NestedIs h k (.ref a) := x.pn.is
theorem NI.same {h h' : Heap} {k : NestedKey} {a b : Addr} {o : Obj} {es : Array (Int × Value)} {ep : Nat} {t : SetTable} (x : NI h k b) (ho : h.get? a = some o) (hd : o.data = .set es ep t) (hs : Heap.SameBut a h h') : NI h' k b := by
  refine ⟨x.pn.at (fun c u vs n hc _ hv => ?_), x.dp, x.nm⟩
  refine (hs.2 c fun e => ?_).trans hc
  subst e
  rw [ho] at hc
  cases hc
  rw [hd] at hv
  cases hv
section
variable {P : Program} {w : World} {A : Around} {E : Value → Shared → Prop} {s : Shared}
end

/-! ### the set's state -/
abbrev Rows := List (Addr × NestedKey)
def rws (w : World) (L : Rows) : List (Int × Value) := L.map fun p => (p.2.hash w, Value.ref p.1)
abbrev hsh (w : World) (L : Rows) : List Int := L.map fun p => p.2.hash w
abbrev kys (L : Rows) : List NestedKey := L.map (·.2)
structure STab (w : World) (h : Heap) (a : Addr) (L : Rows) (es : Array (Int × Value)) (ep : Nat) (t : SetTable) : Prop where
  ob : ∃ o, h.get? a = some o ∧ o.ExactSet ∧ o.data = .set es ep t
  el : es.toList = rws w L
  tab : TabB t (hsh w L)
  nd : (kys L).Nodup
  ks : ∀ p ∈ L, NI h p.2 p.1
  pl : t.plain = true
  ld : w.params.followText "set-order" = true ∨ t.led = true
  rm : L.length * 5 < t.mask * 3
  fw : L.length < 1200
theorem rws_len (w : World) (L : Rows) : (rws w L).length = L.length := List.length_map _
theorem size_of_rws {w : World} {es : Array (Int × Value)} {L : Rows} (e : es.toList = rws w L) : es.size = L.length := by rw [← Array.length_toList, e, rws_len]
section
variable {P : Program} {w : World} {A : Around} {E : Value → Shared → Prop} {s : Shared}
variable {a : Addr} {L : Rows} {es : Array (Int × Value)} {ep : Nat} {t : SetTable}
theorem STab.len (R : STab w s.heap a L es ep t) : t.place.size = L.length := by rw [R.tab.len]; exact List.length_map _
theorem STab.fits (R : STab w s.heap a L es ep t) : t.fits es.size = true := by
  have h1 := R.len
  have h2 := size_of_rws R.el
  have h3 := R.rm
  unfold SetTable.fits SetTable.fill
  rw [R.tab.nodum, Bool.and_eq_true, beq_iff_eq, decide_eq_true_eq]
  show t.place.size = es.size ∧ t.place.size + 0 ≤ t.mask
  omega
theorem STab.whole (R : STab w s.heap a L es ep t) : ¬ t.gaveWay = true := by
  unfold SetTable.gaveWay
  rw [R.tab.rnd.odd]
  decide
/-- the way's c-th state for the key k -/
abbrev wst (w : World) (t : SetTable) (k : NestedKey) (c : Nat) : SetTable.Probe := nth t.mask (runAt t.mask (SetTable.bits (k.hash w) % (t.mask + 1)) (SetTable.bits (k.hash w))) c
end
end ML

namespace ML
open PySem Spec PyProof.Rows L2
/-! ### one put in -/
section
variable {P : Program} {w : World} {A : Around} {E : Value → Shared → Prop} {s : Shared}
variable {a : Addr} {L : Rows} {es : Array (Int × Value)} {ep : Nat} {t : SetTable}
end
/-! ### a set of the items of a list -/
structure Had (ks : Rows) (i : Nat) (L : Rows) : Prop where
  sub : ∀ p ∈ L, p ∈ ks.take i
  all : ∀ p ∈ ks.take i, p.2 ∈ kys L
  len : L.length ≤ i
theorem Had.zero (ks : Rows) : Had ks 0 [] := ⟨fun p h => (nomatch h), fun p h => (by simp at h), Nat.le_refl _⟩
theorem Had.next {ks L L' : Rows} {i : Nat} {x : Addr × NestedKey} (g : Had ks i L) (h : ks[i]? = some x) (c1 : x.2 ∈ kys L → L' = L) (c2 : x.2 ∉ kys L → L'.Perm (x :: L)) : Had ks (i + 1) L' := by
  rcases Classical.em (x.2 ∈ kys L) with c | c
  · rw [c1 c]
    refine ⟨fun p hp => ?_, fun p hp => ?_, Nat.le_succ_of_le g.len⟩
    · rw [take_next h]; exact List.mem_append_left _ (g.sub p hp)
    · rw [take_next h] at hp
      rcases List.mem_append.mp hp with z | z
      · exact g.all p z
      · rw [List.mem_singleton.mp z]; exact c
  · have pm := c2 c
    refine ⟨fun p hp => ?_, fun p hp => ?_, by rw [pm.length_eq]; exact Nat.succ_le_succ g.len⟩
    · rw [take_next h]
      rcases List.mem_cons.mp (pm.mem_iff.mp hp) with e | z
      · rw [e]; exact List.mem_append_right _ (List.mem_singleton.mpr rfl)
      · exact List.mem_append_left _ (g.sub p z)
    · rw [(pm.map (·.2)).mem_iff, List.map_cons]
      rw [take_next h] at hp
      rcases List.mem_append.mp hp with z | z
      · exact List.mem_cons_of_mem _ (g.all p z)
      · rw [List.mem_singleton.mp z]; exact List.mem_cons_self
section
variable {P : Program} {w : World} {A : Around} {E : Value → Shared → Prop} {s : Shared}
theorem STab.keep {h h' : Heap} {a : Addr} {L : Rows} {es : Array (Int × Value)} {ep : Nat} {t : SetTable} (R : STab w h a L es ep t) (ha : ∀ o, h.get? a = some o → h'.get? a = some o) (ht : ∀ p ∈ L, NI h' p.2 p.1) : STab w h' a L es ep t :=
  let ⟨o, ho, r⟩ := R.ob
  ⟨⟨o, ha o ho, r⟩, R.el, R.tab, R.nd, ht, R.pl, R.ld, R.rm, R.fw⟩
theorem STab.fresh {h : Heap} {a : Addr} (ho : h.get? a = some { cls := .type "set", dict := none, data := .set #[] 0 (.fresh 0 0 (!w.params.followText "set-order")) }) : STab w h a [] #[] 0 (.fresh 0 0 (!w.params.followText "set-order")) where
  ob := ⟨_, ho, ⟨rfl, rfl, rfl⟩, rfl⟩
  el := rfl
  tab := ⟨List.Pairwise.nil, rfl, rfl, rnd7, fun x hx => (nomatch hx), fun i h j hi => (by simp at hi)⟩
  nd := List.nodup_nil
  ks := fun p hp => nomatch hp
  pl := rfl
  ld := by
    show _ ∨ (!w.params.followText "set-order") = true
    cases w.params.followText "set-order"
    · exact .inr rfl
    · exact .inl rfl
  rm := (by decide : 0 * 5 < 7 * 3)
  fw := (by decide : 0 < 1200)
end
end ML

namespace ML
open PySem Spec PyProof.Rows L2
section
variable {P : Program} {w : World} {A : Around} {E : Value → Shared → Prop} {s : Shared}
abbrev set0 (w : World) : Obj := { cls := .type "set", dict := none, data := .set #[] 0 (.fresh 0 0 (!w.params.followText "set-order")) }
end
end ML

namespace ML
open PySem Spec PyProof.Rows L2
/-! ### the order of such tuples -/
mutual
def ltK : NestedKey → NestedKey → Bool
  | .num a, .num b => decide (a < b)
  | .num _, .tup _ => true
  | .tup xs, .tup ys => ltKs xs ys
  | _, _ => false
def ltKs : List NestedKey → List NestedKey → Bool
  | [], [] => false
  | [], _ :: _ => true
  | _ :: _, [] => false
  | x :: xs, y :: ys => if x = y then ltKs xs ys else ltK x y
end
mutual
theorem ltK_irr : ∀ x : NestedKey, ltK x x = false
  | .none => by simp [ltK]
  | .text _ => by simp [ltK]
  | .num a => by simp [ltK]
  | .tup xs => by rw [ltK]; exact ltKs_irr xs
theorem ltKs_irr : ∀ xs : List NestedKey, ltKs xs xs = false
  | [] => by simp [ltKs]
  | x :: xs => by rw [ltKs, if_pos rfl]; exact ltKs_irr xs
end
mutual
theorem ltK_asym : ∀ x y : NestedKey, ltK x y = true → ltK y x = false
  | .num a, .num b, h => by simp only [ltK, decide_eq_true_eq] at h; simp only [ltK, decide_eq_false_iff_not]; omega
  | .num a, .tup ys, _ => by simp [ltK]
  | .tup xs, .tup ys, h => by rw [ltK] at h ⊢; exact ltKs_asym xs ys h
  | .tup xs, .num b, h => by simp [ltK] at h
  | .none, .none, h => by simp [ltK] at h
  | .none, .num _, h => by simp [ltK] at h
  | .none, .text _, h => by simp [ltK] at h
  | .none, .tup _, h => by simp [ltK] at h
  | .text _, .none, h => by simp [ltK] at h
  | .text _, .num _, h => by simp [ltK] at h
  | .text _, .text _, h => by simp [ltK] at h
  | .text _, .tup _, h => by simp [ltK] at h
  | .num _, .none, h => by simp [ltK] at h
  | .num _, .text _, h => by simp [ltK] at h
  | .tup _, .none, h => by simp [ltK] at h
  | .tup _, .text _, h => by simp [ltK] at h
theorem ltKs_asym : ∀ xs ys : List NestedKey, ltKs xs ys = true → ltKs ys xs = false
  | [], [], h => by simp [ltKs] at h
  | [], _ :: _, _ => by simp [ltKs]
  | _ :: _, [], h => by simp [ltKs] at h
  | x :: xs, y :: ys, h => by
    rw [ltKs] at h ⊢
    by_cases e : x = y
    · rw [if_pos e] at h
      rw [if_pos e.symm]
      exact ltKs_asym xs ys h
    · rw [if_neg e] at h
      rw [if_neg (Ne.symm e)]
      exact ltK_asym x y h
end
mutual
theorem ltK_tri : ∀ x y : NestedKey, numK x = true → numK y = true → ltK x y = true ∨ x = y ∨ ltK y x = true
  | .num a, .num b, _, _ => by
    simp only [ltK, decide_eq_true_eq, NestedKey.num.injEq]
    omega
  | .num a, .tup ys, _, _ => .inl (by simp [ltK])
  | .tup xs, .num b, _, _ => .inr (.inr (by simp [ltK]))
  | .tup xs, .tup ys, hx, hy => by
    rw [numK] at hx hy
    rw [ltK, ltK]
    rcases ltKs_tri xs ys hx hy with h | h | h
    · exact .inl h
    · exact .inr (.inl (by rw [h]))
    · exact .inr (.inr h)
  | .none, _, h, _ => nomatch h
  | .text _, _, h, _ => nomatch h
  | .num _, .none, _, h => nomatch h
  | .num _, .text _, _, h => nomatch h
  | .tup _, .none, _, h => nomatch h
  | .tup _, .text _, _, h => nomatch h
theorem ltKs_tri : ∀ xs ys : List NestedKey, numKs xs = true → numKs ys = true → ltKs xs ys = true ∨ xs = ys ∨ ltKs ys xs = true
  | [], [], _, _ => .inr (.inl rfl)
  | [], _ :: _, _, _ => .inl (by simp [ltKs])
  | _ :: _, [], _, _ => .inr (.inr (by simp [ltKs]))
  | x :: xs, y :: ys, hx, hy => by
    rw [numKs, Bool.and_eq_true] at hx hy
    rw [ltKs, ltKs]
    by_cases e : x = y
    · rw [if_pos e, if_pos e.symm]
      rcases ltKs_tri xs ys hx.2 hy.2 with h | h | h
      · exact .inl h
      · exact .inr (.inl (by rw [h, e]))
      · exact .inr (.inr h)
    · rw [if_neg e, if_neg (Ne.symm e)]
      rcases ltK_tri x y hx.1 hy.1 with h | h | h
      · exact .inl h
      · exact absurd h e
      · exact .inr (.inr h)
end
mutual
theorem ltK_tr : ∀ x y z : NestedKey, ltK x y = true → ltK y z = true → ltK x z = true
  | .num a, .num b, .num c, h1, h2 => by simp only [ltK, decide_eq_true_eq] at h1 h2 ⊢; omega
  | .num a, _, .tup ys, _, _ => by simp [ltK]
  | .tup xs, .tup ys, .tup zs, h1, h2 => by rw [ltK] at h1 h2 ⊢; exact ltKs_tr xs ys zs h1 h2
  | .tup xs, .tup ys, .num _, _, h => by simp [ltK] at h
  | .tup xs, .tup ys, .none, _, h => by simp [ltK] at h
  | .tup xs, .tup ys, .text _, _, h => by simp [ltK] at h
  | .tup xs, .num b, _, h, _ => by simp [ltK] at h
  | .tup xs, .none, _, h, _ => by simp [ltK] at h
  | .tup xs, .text _, _, h, _ => by simp [ltK] at h
  | .num _, .tup _, .num _, _, h => by simp [ltK] at h
  | .num _, .tup _, .none, _, h => by simp [ltK] at h
  | .num _, .tup _, .text _, _, h => by simp [ltK] at h
  | .num _, .num _, .none, _, h => by simp [ltK] at h
  | .num _, .num _, .text _, _, h => by simp [ltK] at h
  | .num _, .none, .num _, h, _ => by simp [ltK] at h
  | .num _, .none, .none, h, _ => by simp [ltK] at h
  | .num _, .none, .text _, h, _ => by simp [ltK] at h
  | .num _, .text _, .num _, h, _ => by simp [ltK] at h
  | .num _, .text _, .none, h, _ => by simp [ltK] at h
  | .num _, .text _, .text _, h, _ => by simp [ltK] at h
  | .none, y, _, h, _ => by cases y <;> simp [ltK] at h
  | .text _, y, _, h, _ => by cases y <;> simp [ltK] at h
theorem ltKs_tr : ∀ xs ys zs : List NestedKey, ltKs xs ys = true → ltKs ys zs = true → ltKs xs zs = true
  | [], [], _, h, _ => by simp [ltKs] at h
  | _ :: _, [], _, h, _ => by simp [ltKs] at h
  | _, _ :: _, [], _, h => by simp [ltKs] at h
  | [], _ :: _, _ :: _, _, _ => by simp [ltKs]
  | x :: xs, y :: ys, z :: zs, h1, h2 => by
    rw [ltKs] at h1 h2 ⊢
    by_cases e1 : x = y
    · rw [if_pos e1] at h1
      by_cases e2 : y = z
      · rw [if_pos e2] at h2
        rw [if_pos (e1.trans e2)]
        exact ltKs_tr xs ys zs h1 h2
      · rw [if_neg e2] at h2
        rw [if_neg (fun e => e2 (e1.symm.trans e)), e1]
        exact h2
    · rw [if_neg e1] at h1
      by_cases e2 : y = z
      · rw [if_neg (fun e => e1 (e.trans e2.symm)), ← e2]
        exact h1
      · rw [if_neg e2] at h2
        have h3 := ltK_tr x y z h1 h2
        rw [if_neg (fun e => by
          rw [e, ltK_irr] at h3
          cases h3)]
        exact h3
end
/-! ### which of them compare -/
mutual
def cmpK : NestedKey → NestedKey → Bool
  | .num _, .num _ => true
  | .tup xs, .tup ys => cmpKs xs ys
  | _, _ => false
def cmpKs : List NestedKey → List NestedKey → Bool
  | x :: xs, y :: ys => cmpK x y && cmpKs xs ys
  | _, _ => true
end
section
variable {P : Program} {w : World} {s : Shared}
end
end ML

namespace ML
open PySem Spec PyProof.Rows L2 SrtO
section
variable {P : Program} {w : World} {A : Around} {E : Value → Shared → Prop} {s : Shared}
/-- the firsts are all numbers, or all tuples -/
def FirstN (k : NestedKey) : Prop := ∃ i r, k = .tup (.num i :: r)
def FirstT (k : NestedKey) : Prop := ∃ q r, k = .tup (.tup q :: r)
def Alike (ks : List NestedKey) : Prop := ((∀ k ∈ ks, FirstN k) ∨ (∀ k ∈ ks, FirstT k)) ∧ ∀ x ∈ ks, ∀ y ∈ ks, cmpK x y = true
open Classical in
/-- the key of a value -/
noncomputable def keyAt (h : Heap) (v : Value) : NestedKey := if x : ∃ k, PN h k v ∧ numK k = true then x.choose else .num 0
end
end ML

namespace ML
open PySem Spec PyProof.Rows L2
/-! ### sorted(set(xs)) -/
def tSortSet (K : PySem.W.Frag) (t : TE) : TE := fun σ H Q => t σ H fun x H1 => ∃ (l : Addr) (L : Rows), x = V.ref l ∧ SqL K H1 l (L.map fun p => V.ref p.1) ∧ (∀ p ∈ L, Dp K H1 (.ref p.1) p.2.data ∧ numK p.2 = true ∧ p.2.depth ≤ 8) ∧ L.length < 1200 ∧ Alike (kys L) ∧
  ∀ (M : Rows) (p : Addr), (∀ q ∈ M, q ∈ L) → (∀ q ∈ L, q.2 ∈ kys M) → M.Pairwise (fun q r => ltK q.2 r.2 = true) → H1 p = none → Q (.ref p) (upd H1 p (.lst (M.map fun q => V.ref q.1)))
section
variable {X : Cx}
end
/-! ### the same, typed -/
def insK {α : Type} (k : α → NestedKey) (x : α) : List α → List α
  | [] => [x]
  | y :: ys => if k x = k y then y :: ys else if ltK (k x) (k y) = true then x :: y :: ys else y :: insK k x ys
/-- ascending, each once -/
def sortK {α : Type} (k : α → NestedKey) : List α → List α
  | [] => []
  | x :: xs => insK k x (sortK k xs)
structure RKey {α : Type} (r : R α) where
  k : α → NestedKey
  ok : ∀ {K : PySem.W.Frag} {F H : Hp} {a : α} {v : V}, r.p a F v → Same F H → (∃ b, v = V.ref b) ∧ Dp K H v (k a).data
  nm : ∀ a, numK (k a) = true
  dp : ∀ a, (k a).depth ≤ 8
  inj : ∀ a b, k a = k b → a = b
section
variable {nx bk ct : L2.St → Hp → Prop} {rt : VK}
variable {W : Wd} {G : Gam} {T : Tms} {cs : Cells} {K : Sl → Cells → Prop} {t ta tb : TE} {KF : PySem.W.Frag}
end
end ML

namespace ML
open PySem Spec PyProof.Rows L2
theorem datas_num : ∀ g : List Int, NestedKey.datas (g.map NestedKey.num) = g.map eInt.d
  | [] => rfl
  | _ :: g => by
    rw [List.map_cons, NestedKey.datas, datas_num g]
    rfl
theorem numKs_num : ∀ g : List Int, numKs (g.map NestedKey.num) = true
  | [] => rfl
  | _ :: g => by rw [List.map_cons, numKs, numKs_num g]; rfl
theorem depth_num : ∀ g : List Int, NestedKey.depthAll (g.map NestedKey.num) = 0
  | [] => rfl
  | _ :: g => by rw [List.map_cons, NestedKey.depthAll, depth_num g]; rfl
theorem num_inj {g h : List Int} (e : g.map NestedKey.num = h.map NestedKey.num) : g = h := List.map_inj_right (fun a b z => by injection z) |>.mp e
/-- a tuple of numbers as a key -/
def kNums : RKey (rTup rInt) where
  k := fun g => .tup (g.map .num)
  ok := fun {K F H a v} h sm => ⟨by obtain ⟨_, p, vs, rfl, _, _⟩ := h; exact ⟨p, rfl⟩, by
    have := (eTup eInt).ok (K := K) h sm
    rw [NestedKey.data, datas_num]
    exact this⟩
  nm := fun a => by rw [numK]; exact numKs_num a
  dp := fun a => by rw [NestedKey.depth, depth_num]; decide
  inj := fun a b e => by
    injection e with e
    exact num_inj e
/-- a split as a key -/
def kSplit : RKey (rPair (rTup rInt) rInt) where
  k := fun x => .tup [.tup (x.1.map .num), .num x.2]
  ok := fun {K F H a v} h sm => ⟨by obtain ⟨p, u, w, rfl, _, _, _⟩ := h; exact ⟨p, rfl⟩, by
    have := (ePair (eTup eInt) eInt).ok (K := K) h sm
    simp only [NestedKey.data, NestedKey.datas, datas_num]
    exact this⟩
  nm := fun a => by simp only [numK, numKs, numKs_num, Bool.and_self]
  dp := fun a => by simp only [NestedKey.depth, NestedKey.depthAll, depth_num]; decide
  inj := fun a b e => by
    injection e with e
    injection e with e1 e2
    injection e1 with e1
    injection e2 with e2 _
    injection e2 with e2
    exact Prod.ext (num_inj e1) e2
def oSortS (xs : List (List Int × Int)) : Option (List (List Int × Int)) := if xs.length < 1200 then some (sortK kSplit.k xs) else none
section
variable {nx bk ct : L2.St → Hp → Prop} {rt : VK}
variable {W : Wd} {G : Gam} {T : Tms} {cs : Cells} {K : Sl → Cells → Prop} {t ta tb : TE} {KF : PySem.W.Frag}
/-! ## == of texts and of bools -/
theorem e_eqS (ha : Ev ta W G T cs fun sa cs1 => ∃ x, sa = rStr.at x ∧ ∀ va, Ev tb W G ((va, sa) :: T) cs1 fun sb cs2 => ∃ y, sb = rStr.at y ∧ K (rBool.at (decide (x = y))) cs2) :
    Ev (tOp rEq ta tb) W G T cs K := fun s H st Q q => by
  refine ha s H st _ fun sa cs1 ⟨x, e, hb⟩ va H1 st1 => ?_
  subst e
  refine hb va s H1 st1 _ fun sb cs2 ⟨y, e, k⟩ vb H2 ⟨F, c, sg, tm⟩ => ?_
  subst e
  have e1 : vb = .str y := tm.head
  have e2 : va = .str x := tm.tail.head
  subst e1 e2
  exact ⟨rfl, q _ _ k _ H2 ⟨F, c, sg, tm.tail.tail.cons (by show V.bl _ = V.bl _; congr 1; simp)⟩⟩
theorem e_neS (ha : Ev ta W G T cs fun sa cs1 => ∃ x, sa = rStr.at x ∧ ∀ va, Ev tb W G ((va, sa) :: T) cs1 fun sb cs2 => ∃ y, sb = rStr.at y ∧ K (rBool.at (!decide (x = y))) cs2) :
    Ev (tOp rNe ta tb) W G T cs K := fun s H st Q q => by
  refine ha s H st _ fun sa cs1 ⟨x, e, hb⟩ va H1 st1 => ?_
  subst e
  refine hb va s H1 st1 _ fun sb cs2 ⟨y, e, k⟩ vb H2 ⟨F, c, sg, tm⟩ => ?_
  subst e
  have e1 : vb = .str y := tm.head
  have e2 : va = .str x := tm.tail.head
  subst e1 e2
  exact ⟨rfl, q _ _ k _ H2 ⟨F, c, sg, tm.tail.tail.cons (by show V.bl _ = V.bl _; congr 1; simp)⟩⟩
end
end ML

namespace ML
open PySem Spec PyProof.Rows L2
section
variable {nx bk ct : L2.St → Hp → Prop} {rt : VK}
variable {W : Wd} {G : Gam} {T : Tms} {cs : Cells} {K : Sl → Cells → Prop} {t ta tb : TE} {KF : PySem.W.Frag}
/-! ## a number in a tuple or in a list of numbers -/
theorem all2_in {F : Hp} {i : Int} : ∀ {xs : List Int} {vs : List V}, All2 (fun x u => rInt.p x F u) xs vs → vs.all flatV = true ∧ inV (.int i) vs = decide (i ∈ xs)
  | _, _, .nil => ⟨rfl, by simp [inV]⟩
  | _, _, .cons (a := a) (b := b) p q => by
    obtain ⟨h1, h2⟩ := all2_in (i := i) q
    have e : b = .int a := p
    subst e
    refine ⟨by rw [List.all_cons, h1]; rfl, ?_⟩
    unfold inV at h2 ⊢
    rw [List.any_cons, h2]
    have e2 : eqV (.int a) (.int i) = decide (a = i) := by simp [eqV, Bool.beq_eq_decide_eq]
    rw [e2]
    by_cases h : a = i
    · subst h; simp
    · have h' : ¬ i = a := fun z => h z.symm
      simp [h, h']
theorem e_inT (ng : Bool) (ha : Ev ta W G T cs fun sa cs1 => ∃ i, sa = rInt.at i ∧ ∀ va, Ev tb W G ((va, sa) :: T) cs1 fun sb cs2 => ∃ xs : List Int, sb = (rTup rInt).at xs ∧ K (rBool.at (if ng then !decide (i ∈ xs) else decide (i ∈ xs))) cs2) :
    Ev (tOp (rIn KF ng) ta tb) W G T cs K := fun s H st Q q => by
  refine ha s H st _ fun sa cs1 ⟨i, e, hb⟩ va H1 st1 => ?_
  subst e
  refine hb va s H1 st1 _ fun sb cs2 ⟨xs, e, k⟩ vb H2 ⟨F, c, sg, tm⟩ => ?_
  subst e
  obtain ⟨hz, a, vs, rfl, hF, hA⟩ := tm.head
  have e2 : va = .int i := tm.tail.head
  subst e2
  obtain ⟨f1, f2⟩ := all2_in (i := i) hA
  exact ⟨a, vs, rfl, .inr (SqT.of (c.fh _ _ hF)), rfl, f1, q _ _ k _ H2 ⟨F, c, sg, tm.tail.tail.cons (by rw [f2]; rfl)⟩⟩
/-! ## a list and a list -/
theorem e_catL (ha : Ev ta W G T cs fun sa cs1 => ∀ va, Ev tb W G ((va, sa) :: T) cs1 fun sb cs2 => ∃ (α : Type) (r : R α) (xs ys zs : List α), sa = (rLst r).at xs ∧ sb = (rLst r).at ys ∧ oCat xs ys = some zs ∧ K ((rLst r).at zs) cs2) :
    Ev (tOp rCat ta tb) W G T cs K := fun s H st Q q => by
  refine ha s H st _ fun sa cs1 h1 va H1 st1 => ?_
  refine h1 va s H1 st1 _ fun sb cs2 ⟨α, r, xs, ys, zs, e1, e2, hy, k⟩ vb H2 ⟨F, c, sg, tm⟩ => ?_
  subst e1 e2
  obtain ⟨hz, a, vs, rfl, hF, hA⟩ := tm.tail.head
  obtain ⟨hz2, b, ws, rfl, hF2, hA2⟩ := tm.head
  obtain ⟨hl, e⟩ := of_ite hy
  subst e
  have l1 := hA.length
  have l2 := hA2.length
  refine ⟨a, b, vs, ws, rfl, rfl, c.fh _ _ hF, c.fh _ _ hF2, by omega, fun p hp => ?_⟩
  have sF : Same F (upd F p (.lst (vs ++ ws))) := same_upd (c.fh.free hp)
  exact q _ _ k _ _ ⟨_, c.new hp, sg.mono sF, (tm.tail.tail.mono sF).cons ⟨by rw [List.length_append]; exact hl, p, _, rfl, upd_same, (hA.app hA2).imp fun _ _ z => r.mono sF z⟩⟩
/-! ## sums -/
/-! ## list(xs), a new cell -/
def rListOf (KF : PySem.W.Frag) : List V → Hp → VK → Prop := fun xs H Q => ∃ p ys, xs = [.ref p] ∧ (SqL KF H p ys ∨ SqT KF H p ys) ∧ ∀ l, H l = none → Q (.ref l) (upd H l (.lst ys))
end
section
variable {α β γ δ : Type} {W : Wd} {G : Gam} {T : Tms} {cs : Cells}
end
/-! ## == of lists of texts -/
def oEqLS (xs ys : List Str) : Option Bool := if (xs.all PyData.strOk && ys.all PyData.strOk) = true then some (decide (xs = ys)) else none
section
variable {nx bk ct : L2.St → Hp → Prop} {rt : VK}
variable {W : Wd} {G : Gam} {T : Tms} {cs : Cells} {K : Sl → Cells → Prop} {t ta tb : TE} {KF : PySem.W.Frag}
end
section
variable {nx bk ct : L2.St → Hp → Prop} {rt : VK}
variable {W : Wd} {G : Gam} {T : Tms} {cs : Cells} {K : Sl → Cells → Prop} {t ta tb : TE} {KF : PySem.W.Frag}
/-! ## a slice of a list in a cell: a new frozen list -/
end
end ML

namespace ML
open PySem Spec PyProof.Rows L2
section
variable {W : Wd} {G : Gam} {T : Tms} {cs : Cells} {K : Sl → Cells → Prop} {t : TA} {ta tb tc te : TE} {KF : PySem.W.Frag} {α : Type}
/-! ### a < b < c of ints -/
theorem e_chainI {g g' : Int → Int → Bool} {d : Bool} {cs' : Cells} (ha : Ev ta W G T cs fun sa cs1 => ∃ i, sa = rInt.at i ∧ Ev tb W G T cs1 fun sb cs2 => ∃ j, sb = rInt.at j ∧
      (g i j = true → Ev tc W G T cs2 fun sc cs3 => ∃ l, sc = rInt.at l ∧ d = g' j l ∧ cs3 = cs') ∧ (g i j = false → d = false ∧ cs2 = cs')) (k : K (rBool.at d) cs') :
    Ev (tChain (rI0 fun i j => .bl (g i j)) (rI0 fun i j => .bl (g' i j)) ta tb tc) W G T cs K := fun s H st Q q => by
  refine ha s H st _ fun sa cs1 ⟨i, e, hb⟩ va H1 st1 => ?_
  subst e
  refine hb s H1 st1.pop _ fun sb cs2 ⟨j, e, h1, h2⟩ vb H2 st2 => ?_
  subst e
  refine ⟨i, j, int_top st1, int_top st2, g i j, rfl, ?_⟩
  cases hg : g i j with
  | false =>
    rw [if_neg Bool.false_ne_true]
    obtain ⟨e1, e2⟩ := h2 hg
    subst e1 e2
    exact q _ _ k _ H2 (st2.pop.push fun _ => rfl)
  | true =>
    rw [if_pos rfl]
    refine h1 hg s H2 st2.pop _ fun sc cs3 ⟨l, e, e1, e2⟩ vc H3 st3 => ?_
    subst e e1 e2
    exact ⟨j, l, int_top st2, int_top st3, q _ _ k _ H3 (st3.pop.push fun _ => rfl)⟩
/-! ### list(range(..)), tuple(range(..)) -/
theorem all2_rg {F : Hp} (a b : Int) : All2 (fun x u => rInt.p x F u) (rangeI a b) (rgV a b) := by
  unfold rangeI rgV
  have : ∀ l : List Nat, All2 (fun x u => rInt.p x F u) (l.map fun (k : Nat) => a + (k : Int)) (l.map fun (i : Nat) => V.int (a + (i : Nat))) := fun l => by
    induction l with
    | nil => exact .nil
    | cons x l ih => exact .cons rfl ih
  exact this _
theorem rgOk_of {a b : Int} {xs : List Int} (h : oRange a b = some xs) : RgOk a b ∧ xs = rangeI a b ∧ xs.length ≤ sizeLine := by
  obtain ⟨⟨⟨a1, a2⟩, ⟨b1, b2⟩, c⟩, e⟩ := oRange_ok h
  rw [sizeLine_eq] at c
  exact ⟨⟨a1, a2, b1, b2, c⟩, e, by rw [e, len_rangeI, sizeLine_eq]; exact c⟩
/-- what a range's bounds are -/
def EvR (tr : L2.St → Hp → (Int → Int → Hp → Prop) → Prop) (W : Wd) (G : Gam) (T : Tms) (cs : Cells) (K : Int → Int → Cells → Prop) : Prop :=
  ∀ s H, Sta W G T cs s H → ∀ Q : Int → Int → Hp → Prop, (∀ a b cs', K a b cs' → ∀ H', Sta W G T cs' s H' → Q a b H') → tr s H Q
theorem er_1 {K : Int → Int → Cells → Prop} (ha : Ev ta W G T cs fun sa cs1 => ∃ i, sa = rInt.at i ∧ K 0 i cs1) : EvR (tRg1 ta) W G T cs K := fun s H st Q q => by
  refine ha s H st _ fun sa cs1 ⟨i, e, k⟩ va H1 st1 => ?_
  subst e
  exact ⟨i, int_top st1, q _ _ _ k H1 st1.pop⟩
theorem er_2 {K : Int → Int → Cells → Prop} (ha : Ev ta W G T cs fun sa cs1 => ∃ i, sa = rInt.at i ∧ Ev tb W G T cs1 fun sb cs2 => ∃ j, sb = rInt.at j ∧ K i j cs2) : EvR (tRg2 ta tb) W G T cs K := fun s H st Q q => by
  refine ha s H st _ fun sa cs1 ⟨i, e, hb⟩ va H1 st1 => ?_
  subst e
  refine hb s H1 st1.pop _ fun sb cs2 ⟨j, e, k⟩ vb H2 st2 => ?_
  subst e
  exact ⟨i, j, int_top st1, int_top st2, q _ _ _ k H2 st2.pop⟩
variable {tr : L2.St → Hp → (Int → Int → Hp → Prop) → Prop}
theorem e_listRg (h : EvR tr W G T cs fun a b cs1 => ∃ xs, oRange a b = some xs ∧ K ((rLst rInt).at xs) cs1) : Ev (tLstRg tr) W G T cs K := fun s H st Q q => by
  refine h s H st _ fun a b cs1 ⟨xs, ho, k⟩ H1 ⟨F, c, sg, tm⟩ => ?_
  obtain ⟨ok, e, hz⟩ := rgOk_of ho
  subst e
  refine ⟨ok, fun p hp => ?_⟩
  have sF : Same F (upd F p (.lst (rgV a b))) := same_upd (c.fh.free hp)
  exact q _ _ k _ _ ⟨_, c.new hp, sg.mono sF, (tm.mono sF).cons ⟨hz, p, _, rfl, upd_same, all2_rg a b⟩⟩
theorem e_tupRg (h : EvR tr W G T cs fun a b cs1 => ∃ xs, oRange a b = some xs ∧ K ((rTup rInt).at xs) cs1) : Ev (tTupRg tr) W G T cs K := fun s H st Q q => by
  refine h s H st _ fun a b cs1 ⟨xs, ho, k⟩ H1 ⟨F, c, sg, tm⟩ => ?_
  obtain ⟨ok, e, hz⟩ := rgOk_of ho
  subst e
  refine ⟨ok, fun p hp => ?_⟩
  have sF : Same F (upd F p (.tup (rgV a b))) := same_upd (c.fh.free hp)
  exact q _ _ k _ _ ⟨_, c.new hp, sg.mono sF, (tm.mono sF).cons ⟨hz, p, _, rfl, upd_same, all2_rg a b⟩⟩
/-! ### enumerate(list) -/
def enumI (xs : List α) : List (Int × α) := (List.range xs.length).zipWith (fun (i : Nat) x => ((i : Int), x)) xs
/-! ### isinstance of what has a type -/
/-- the class of a typed value -/
structure RTy {α : Type} (r : R α) (n : String) : Prop where
  ty : ∀ {KF : PySem.W.Frag} {F H : Hp} {a : α} {v : V}, r.p a F v → Same F H → TyX KF H v (.type n)
theorem e_cls {n : String} (k : K ⟨fun _ v => v = .ty n, fun _ h => h⟩ cs) : Ev (tC (.ty n)) W G T cs K := fun s H st Q q => q _ cs k _ H (st.push fun _ => rfl)
end
/-! ### < of what has a key -/
def rLtK (K : PySem.W.Frag) : R2 := fun x y H Q => ∃ k1 k2 : NestedKey, Dp K H x k1.data ∧ Dp K H y k2.data ∧ numK k1 = true ∧ numK k2 = true ∧ k1.depth ≤ 8 ∧ cmpK k1 k2 = true ∧ Q (.bl (ltK k1 k2)) H
section
variable {W : Wd} {G : Gam} {T : Tms} {cs : Cells} {K : Sl → Cells → Prop} {ta tb : TE} {KF : PySem.W.Frag}
end
section
variable {W : Wd} {G : Gam} {T : Tms} {cs : Cells} {K : Sl → Cells → Prop} {ta : TE} {KF : PySem.W.Frag}
end
end ML

namespace ML
open PySem Spec PyProof.Rows L2 StX
/-! ### code that is never reached -/
def tNo : TS := fun _ _ _ => False
theorem ps_no {X : Cx} {st : Stmt} : PS X st tNo := ⟨fun _ _ _ _ _ _ h => h.elim⟩
/-! ### a cell set aside -/
section
variable {nx bk ct : L2.St → Hp → Prop} {rt : VK}
variable {W : Wd} {G : Gam} {T : Tms} {cs : Cells} {K : Sl → Cells → Prop} {t : TA} {ta tb tc te : TE} {KF : PySem.W.Frag}
/-! ### a comprehension of two walks; nothing changes -/
def flatO {α γ : Type} (f : α → Option (List γ)) : List α → Option (List γ)
  | [] => some []
  | x :: xs => match f x with
    | none => none
    | some ys => match flatO f xs with
      | none => none
      | some zs => some (ys ++ zs)
/-- at most so many: each list is small -/
def flatS {α γ : Type} (f : α → Option (List γ)) (xs : List α) : Option (List γ) := match flatO f xs with
  | none => none
  | some ys => if ys.length ≤ sizeLine then some ys else none
/-! ### while -/
def whileO {β ρ : Type} (f : β → Option (Fl ρ β)) : Nat → β → Option (Lo ρ β)
  | 0, _ => none
  | n + 1, b => match f b with
    | none => none
    | some (.go b') => whileO f n b'
    | some (.brk b') => some (.go b')
    | some (.ret r) => some (.ret r)
theorem while_sound {tt : TT} {tbd : TS} {β ρ : Type} {f : β → Option (Fl ρ β)} {n : Nat} {b0 : β} {out : Lo ρ β} (Gb : β → Gam) (cb : β → Cells) (hl : whileO f n b0 = some out) (hw : Wkn G (Gb b0)) (hc : cs = cb b0)
    (body : ∀ b fl, f b = some fl → ∀ N : L2.St → Hp → Prop, (∀ b', fl = .go b' → NxT N W (Gb b') T (cb b')) → ∀ Bk : L2.St → Hp → Prop, (∀ b', fl = .brk b' → NxT Bk W (Gb b') T (cb b')) → (∀ z, fl = .ret z → out = .ret z) →
      Et tt W (Gb b) T (cb b) fun c cs1 => (c = true → NxT (tbd ⟨N, rt, Bk, N⟩) W (Gb b) T cs1) ∧ (c = false → fl = .brk b ∧ cs1 = cb b))
    (after : ∀ b', out = .go b' → NxT nx W (Gb b') T (cb b')) : NxT (tWhile tt tbd ⟨nx, rt, bk, ct⟩) W G T cs := fun s H ⟨F, c, sg, t⟩ => by
  subst hc
  refine ⟨fun m s H => ∃ b, whileO f m b = some out ∧ Sta W (Gb b) T (cb b) s H, ⟨n, b0, hl, F, c, sg.weak hw, t⟩, ?_⟩
  rintro m s H ⟨b, hm, st⟩
  cases m with
  | zero => cases hm
  | succ m =>
    unfold whileO at hm
    cases ef : f b with
    | none => rw [ef] at hm; cases hm
    | some fl =>
      rw [ef] at hm
      refine body b fl ef (fun s' H' => ∃ b', fl = .go b' ∧ Sta W (Gb b') T (cb b') s' H') (fun b' e s H st => ⟨b', e, st⟩) nx (fun b' e => ?_) (fun z e => ?_) s H st _ fun cc cs1 ⟨k1, k2⟩ H1 st1 => ?_
      · subst e
        exact after b' (Option.some.inj hm).symm
      · subst e
        exact (Option.some.inj hm).symm
      · cases cc with
        | true =>
          rw [if_pos rfl]
          refine ⟨_, fun s' H' ⟨b', e, st'⟩ => ?_, k1 rfl s H1 st1⟩
          subst e
          exact ⟨m, Nat.lt_succ_self m, b', hm, st'⟩
        | false =>
          rw [if_neg Bool.false_ne_true]
          obtain ⟨e, ec⟩ := k2 rfl
          subst e ec
          exact after b (Option.some.inj hm).symm s H1 st1
/-! ### (*a, b, *c), [*a, b] -/
/-- items of one kind -/
def EvX {α : Type} (r : R α) (ta : TA) (W : Wd) (G : Gam) (T : Tms) (cs : Cells) (K : List α → Cells → Prop) : Prop :=
  ∀ s H, Sta W G T cs s H → ∀ Q : List V → Hp → Prop, (∀ xs cs', K xs cs' → ∀ vs H', (∃ F, Core W F cs' H' ∧ Slots F G s ∧ Temps F T ∧ All2 (fun x u => r.p x F u) xs vs) → Q vs H') → ta s H Q
/-- a tuple, its items told -/
def sTupOf {α : Type} (r : R α) (xs : List α) (p : Addr) (us : List V) : Sl := ⟨fun F v => v = .ref p ∧ F p = some (.tup us) ∧ All2 (fun x u => r.p x F u) xs us, fun e ⟨h1, h2, h3⟩ => ⟨h1, e _ _ h2, h3.imp fun _ _ q => r.mono e q⟩⟩
def sLstOf {α : Type} (r : R α) (xs : List α) (p : Addr) (us : List V) : Sl := ⟨fun F v => v = .ref p ∧ F p = some (.lst us) ∧ All2 (fun x u => r.p x F u) xs us, fun e ⟨h1, h2, h3⟩ => ⟨h1, e _ _ h2, h3.imp fun _ _ q => r.mono e q⟩⟩
def oSmall {α : Type} (xs : List α) : Option (List α) := if xs.length ≤ sizeLine then some xs else none
end
end ML

namespace ML
open PySem Spec PyProof.Rows L2 StX
open AutoSeq1 (wpAny_loadPart')
/-! ### enumerate(tuple) -/
def IteT (K : PySem.W.Frag) (a : Addr) : It :=
  ⟨fun i H => ∃ (xs : List V) (x : V), SqT K H a xs ∧ xs[i]? = some x, fun i H u H' => ∃ B x, u = .ref B ∧ H B = none ∧ H' = upd H B (.tup [.int (i : Nat), x]) ∧ ∀ xs, SqT K H a xs → xs[i]? = some x,
    fun i H => ∃ xs : List V, SqT K H a xs ∧ xs.length ≤ i⟩
def iEnumT (K : PySem.W.Frag) (ta : TA) : TI := fun σ H R => ta σ H fun vs H1 => ∃ a xs, vs = [.ref a] ∧ SqT K H1 a xs ∧ R (IteT K a) H1
section
variable {W : Wd} {G : Gam} {T : Tms} {cs : Cells} {t : TA} {KF : PySem.W.Frag}
end
end ML

namespace ML
open PySem Spec PyProof.Rows L2 StX
/-! ## instances: calls of their defs where no repr is under way -/
theorem RoomG.in1 {k : Nat} {A : Around} (r : RoomG (k + 1) A) : RoomG k A.in1 := ⟨r.rm.in1, r.gd⟩
theorem RoomG.make {k : Nat} {A : Around} (r : RoomG (k + 1) A) (C : Addr) (us : List Value) (kw : List (Str × Value)) : RoomG k (A.under (.builtin "type.__call__" ⟨.ref C :: us, kw⟩)) := ⟨r.rm.make C us kw, by
  have e : (Code.builtin "type.__call__" ⟨.ref C :: us, kw⟩).guards = [] := by
    first | rfl | (unfold Code.guards; rw [if_neg]; unfold Code.isGuard; decide)
  show pushGuards (Code.builtin "type.__call__" ⟨.ref C :: us, kw⟩).guards A.guards = some []
  rw [e, r.gd]
  rfl⟩
section
variable {X : Cx} {CX : CXT} {k : Nat} {f C : Addr} {fd : FuncData} {ps : List Str} {sp : Sp} {dvs : List V} {ds : List Value} {E : XK} {x m : Str} {p pos apos : Pos} {e o : Expr} {es : List Expr} {t : TA} {ta tf : TE}
/-- one call deeper inside a built-in -/
theorem run_fnG1 {pins : List (Addr × Obj)} {σ : L2.St} {H : Hp} {s : Shared} {Q : VK} {us : List Value} {vs : List V} (F : FnG X.prog X.w X.K X.mg X.base CX k f fd ps sp) (hr : RoomG (k + 1) X.A) (hb : Binds X.K fd ps ds) (hd : Vals dvs ds) (hx : Passes CX X E)
    (I : Inv X pins σ H s) (r : Vals vs us) (h : sp (vs ++ dvs) H Q E) : wpAny (model X.prog X.w) X.A.in1 (call (.ref f) us) (EP X pins σ Q) X.xe s := by
  have r2 := r.append hd
  have hl : (us ++ ds).length = ps.length := r2.length.symm.trans (F.len _ _ _ _ h)
  have run := F.go X.A.in1 X.stack s H ⟨us, []⟩ _ _ Q E hr.in1 I.env0.in1 (hb s us I.kIn hl) r2 h
  refine wpAny_call (codeAny_mono run fun r s' hq => ?_)
  match r, hq with
  | .error e, hq => exact hx pins σ H s e s' I hq
  | .ok (.ret u), hq => exact I.after hq
  | .ok .next, hq => exact False.elim hq
  | .ok .brk, hq => exact False.elim hq
  | .ok .cont, hq => exact False.elim hq
theorem pe_methG0 {pl : Sem Bool} (he : PE X o ta) (c : Cls X.K C) (hm : Meth X.K C m f) (F : FnG X.prog X.w X.K X.mg X.base CX k f fd ps sp) (hr : RoomG k X.A) (hb : Binds X.K fd ps ds) (hd : Vals dvs ds) (hx : Passes CX X E)
    (h3 : eval (.Call (.Attribute o m apos) [] [] pos) X.env = (do
      let ov ← eval o X.env
      standAt apos.atName
      let (g, own) ← holding [ov] (getMethod ov m pl)
      callWith pos g own (backTo pos (starEach [] X.env)) (backToKw pos (keywordEach [] X.env))) := by rfl) :
    PE X (.Call (.Attribute o m apos) [] [] pos) (tMeth C m sp dvs E ta tNil) := ⟨fun pins s σ H Q I h => by
  refine PySem.W.methodCall_KW (pl := pl) (thn (he.run pins s σ H _ I h) fun u s1 ⟨x, H1, I1, rx, a, dx, fs, ex, ea, l, q⟩ => ?_) h3
  subst ex
  cases rx
  exact getmeth_ok I1 ea c hm l (PySem.W.callWith_K0 (first := [.ref a]) I1.kIn hm.kp (run_fnG (us := [.ref a]) (vs := [.ref a]) F hr hb hd hx I1 (.cons rfl .nil) q))⟩
/-- C(e, ..) -/
theorem run_makeG {pins : List (Addr × Obj)} {σ : L2.St} {H : Hp} {s : Shared} {Q : VK} {us : List Value} {vs : List V} (M : Mk X.K C f) (F : FnG X.prog X.w X.K X.mg X.base CX k f fd ps sp) (hr : RoomG (k + 1) X.A) (hb : Binds X.K fd ps ds) (hd : Vals dvs ds)
    (hx : Passes CX X E) (I : Inv X pins σ H s) (r : Vals vs us)
    (h : ∀ x dx, H x = none → H dx = none → dx ≠ x → sp (.ref x :: (vs ++ dvs)) (upd (upd H dx (.own x)) x (.ins C dx [])) (fun v H2 => v = .non ∧ Q (.ref x) H2) E) :
    wpAny (model X.prog X.w) X.A (call (.ref C) us) (EP X pins σ Q) X.xe s := by
  have wish := h (s.heap.objs.size + 1) s.heap.objs.size (I.hok.fresh (Nat.le_succ _)) (I.hok.fresh (Nat.le_refl _)) (Nat.ne_of_lt (Nat.lt_succ_self _))
  have J := Inv.made (C := C) I
  have r2 : Vals (V.ref (s.heap.objs.size + 1) :: (vs ++ dvs)) (Value.ref (s.heap.objs.size + 1) :: (us ++ ds)) := .cons rfl (r.append hd)
  have hl : (Value.ref (s.heap.objs.size + 1) :: us ++ ds).length = ps.length := r2.length.symm.trans (F.len _ _ _ _ wish)
  have run := F.go _ X.stack _ _ ⟨Value.ref (s.heap.objs.size + 1) :: us, []⟩ _ _ _ E (hr.make C us []) (J.env0.make C us []) (hb _ (Value.ref (s.heap.objs.size + 1) :: us) J.kIn hl) r2 wish
  refine wpAny_call (make_map (f := f) I.kIn M.makes M.init (beq_iff_eq.mp M.fn) (codeAny_mono run fun r s' hq => ?_))
  match r, hq with
  | .error e, hq => exact hx pins σ _ _ e s' J hq
  | .ok (.ret u), hq =>
    obtain ⟨v, H', J3, rv, ev, q3⟩ := J.after hq
    subst ev
    exact ⟨rv, ⟨V.ref (s.heap.objs.size + 1), H', J3, rfl, q3⟩⟩
  | .ok .next, hq => exact False.elim hq
  | .ok .brk, hq => exact False.elim hq
  | .ok .cont, hq => exact False.elim hq
theorem pe_makeG (M : Mk X.K C f) (F : FnG X.prog X.w X.K X.mg X.base CX k f fd ps sp) (hr : RoomG (k + 1) X.A) (hg : Gl X x) (hm : X.mg x = some (.ref C)) (hb : Binds X.K fd ps ds) (hd : Vals dvs ds) (hx : Passes CX X E)
    (ha : PA X (e :: es) t) (h1 : (x == ("__debug__" : Str)) = false := by decide) (h2 : starEach (e :: es) X.env = (false, eval e X.env) :: starEach es X.env := by rfl) (h3 : (backTo pos (starEach es X.env)).any (·.1) = false := by rfl) :
    PE X (.Call (.Name x p) (e :: es) [] pos) (tMake C sp dvs E t) := ⟨fun pins s σ H Q I h =>
  wpAny_Call_Name_kw (ld_glob I hg hm (PySem.W.callWith_K (h₀ := X.base) I.ok.mod.kin M.kp (thn (ha.run pos pins s σ H _ I h) fun us s1 ⟨vs, H1, I1, r, q⟩ => ⟨I1.kIn, run_makeG M F hr hb hd hx I1 r q⟩) h2 h3) h1)⟩
/-- obj(e, ..) -/
def tCallOb (C : Addr) (sp : Sp) (dvs : List V) (E : XK) (tf : TE) (t : TA) : TE := fun σ H Q => tf σ H fun y H1 => ∃ a, y = V.ref a ∧ t σ H1 fun vs H2 => (∃ dx fs, H2 a = some (.ins C dx fs)) ∧ sp (V.ref a :: (vs ++ dvs)) H2 Q E
/-- a special method of the class -/
structure DM (K : PySem.W.Frag) (C : Addr) (name : Str) (f : Addr) : Prop where
  at_ : PySem.W.findIn K (.ref C) name = some (some (.ref f))
  fn : PySem.W.isFn K (.ref f) = true
theorem ins_inst {pins : List (Addr × Obj)} {σ : L2.St} {H : Hp} {s : Shared} {a dx : Addr} {fs : List (Str × V)} (I : Inv X pins σ H s) (h : H a = some (.ins C dx fs)) : ∃ ox od, PySem.W.InstAt s.heap a ox C od := by
  obtain ⟨mA, O, _⟩ := ins_get I.hok h
  obtain ⟨od, J, _⟩ := O.look
  exact ⟨_, _, J⟩
/-- x in obj -/
def rInOb (C : Addr) (ng : Bool) (sp : Sp) (dvs : List V) (E : XK) : R2 := fun x y H Q => ∃ a dx fs, y = .ref a ∧ H a = some (.ins C dx fs) ∧ sp ([.ref a, x] ++ dvs) H (fun v H' => ∃ b, v = .bl b ∧ Q (.bl (if ng = true then !b else b)) H') E
/-- len(obj) -/
def rLenOb (C : Addr) (sp : Sp) (dvs : List V) (E : XK) : List V → Hp → VK → Prop := fun xs H Q => ∃ a dx fs, xs = [.ref a] ∧ H a = some (.ins C dx fs) ∧ sp ([.ref a] ++ dvs) H (fun v H' => ∃ n : Int, v = .int n ∧ 0 ≤ n ∧ n < 2 ^ 63 ∧ Q (.int n) H') E
theorem call_lenG (c : DM X.K C "__len__" f) (F : FnG X.prog X.w X.K X.mg X.base CX k f fd ps sp) (hr : RoomG (k + 1) X.A) (hb : Binds X.K fd ps ds) (hd : Vals dvs ds) (hx : Passes CX X E) : CallR X (.builtin "len") (rLenOb C sp dvs E) := by
  intro pins s σ H xs us Q I r h
  obtain ⟨a, dx, fs, rfl, ha, q⟩ := h
  obtain ⟨u, rfl, ru⟩ := vals1 r
  cases ru
  obtain ⟨ox, od, J⟩ := ins_inst I ha
  obtain ⟨m, hF⟩ := I.fr
  refine PySem.W.len_K hF I.ok.mod.kin J c.at_ c.fn (thn (run_fnG1 (us := [.ref a]) (vs := [.ref a]) F hr hb hd hx I (.cons rfl .nil) q) fun w s' z => ?_)
  obtain ⟨z', H', I', rz, n, rfl, h0, h1, qz⟩ := z
  obtain ⟨t, rfl⟩ := rz
  exact ⟨⟨h0, h1⟩, .int n, H', I'.tok _, ⟨_, rfl⟩, qz⟩
/-- a op b, both of the class -/
def rBinOb (C : Addr) (sp : Sp) (dvs : List V) (E : XK) : R2 := fun x y H Q => ∃ a dx fs b dy gs, x = .ref a ∧ y = .ref b ∧ H a = some (.ins C dx fs) ∧ H b = some (.ins C dy gs) ∧ sp ([.ref a, .ref b] ++ dvs) H Q E
end
/-! ## instances that stand still, instances that change -/
/-- named slots -/
def Fld (F : Hp) (l : List (Str × Sl)) (fs : List (Str × V)) : Prop := All2 (fun x y => x.1 = y.1 ∧ x.2.p F y.2) l fs
theorem Fld.mono {F F' : Hp} {l : List (Str × Sl)} {fs : List (Str × V)} (e : Same F F') (h : Fld F l fs) : Fld F' l fs := h.imp fun x y q => ⟨q.1, x.2.mono e q.2⟩
theorem Fld.names {F : Hp} : ∀ {l : List (Str × Sl)} {fs : List (Str × V)}, Fld F l fs → l.map (·.1) = fs.map (·.1)
  | _, _, .nil => rfl
  | _, _, .cons q t => by rw [List.map_cons, List.map_cons, q.1, Fld.names t]
theorem look_at : ∀ {fs : List (Str × V)} {i : Nat} {f : Str} {v : V}, (fs.map (·.1)).Nodup → fs[i]? = some (f, v) → fs.lookup f = some v
  | [], _, _, _, _, h => by simp at h
  | (g, u) :: fs, 0, f, v, _, h => by
    simp at h
    obtain ⟨rfl, rfl⟩ := h
    rw [List.lookup_cons]
    simp
  | (g, u) :: fs, i + 1, f, v, nd, h => by
    rw [List.map_cons, List.nodup_cons] at nd
    have h' : fs[i]? = some (f, v) := by simpa using h
    have ne : ¬ f = g := fun e => nd.1 (List.mem_map.mpr ⟨(f, v), List.mem_of_getElem? h', e⟩)
    rw [List.lookup_cons]
    have : (f == g) = false := by simpa using ne
    rw [this]
    exact look_at nd.2 h'
theorem look_none : ∀ {fs : List (Str × V)} {f : Str}, f ∉ fs.map (·.1) → fs.lookup f = none
  | [], _, _ => rfl
  | (g, u) :: fs, f, h => by
    rw [List.map_cons, List.mem_cons] at h
    have h := not_or.mp h
    rw [List.lookup_cons]
    have : (f == g) = false := by simpa using h.1
    rw [this]
    exact look_none h.2
theorem Fld.look {F : Hp} {l : List (Str × Sl)} {fs : List (Str × V)} {i : Nat} {f : Str} {sl : Sl} (h : Fld F l fs) (nd : (l.map (·.1)).Nodup) (hi : l[i]? = some (f, sl)) : ∃ v, fs.lookup f = some v ∧ sl.p F v := by
  obtain ⟨⟨g, v⟩, h1, h2, h3⟩ := h.get hi
  subst h2
  exact ⟨v, look_at (h.names ▸ nd) h1, h3⟩
/-- an instance that stands still -/
def rRec {α : Type} (C : Addr) (fl : α → List (Str × Sl)) : R α := ⟨fun a F v => ∃ p dx fs, v = .ref p ∧ F p = some (.ins C dx fs) ∧ Fld F (fl a) fs, fun {_ _ _ _} e ⟨p, dx, fs, h1, h2, h3⟩ => ⟨p, dx, fs, h1, e _ _ h2, h3.mono e⟩⟩
/-- an instance that changes -/
def cObj (C : Addr) (l : List (Str × Sl)) : Cl := ⟨fun F o => ∃ dx fs, o = .ins C dx fs ∧ Fld F l fs, fun {_ _ _} e ⟨dx, fs, h1, h2⟩ => ⟨dx, fs, h1, h2.mono e⟩⟩
/-- the list of slots behind a store -/
inductive PutS (f : Str) (sl : Sl) : List (Str × Sl) → List (Str × Sl) → Prop
  | nil : PutS f sl [] [(f, sl)]
  | here (s0 : Sl) (r : List (Str × Sl)) : PutS f sl ((f, s0) :: r) ((f, sl) :: r)
  | next {g : Str} {s0 : Sl} {r r' : List (Str × Sl)} (h : ¬ g = f) (t : PutS f sl r r') : PutS f sl ((g, s0) :: r) ((g, s0) :: r')
theorem PutS.fld {F : Hp} {f : Str} {sl : Sl} {v : V} (hv : sl.p F v) : ∀ {l l' : List (Str × Sl)} {fs : List (Str × V)}, PutS f sl l l' → Fld F l fs → Fld F l' (putF f v fs)
  | _, _, _, .nil, .nil => .cons ⟨rfl, hv⟩ .nil
  | _, _, _, .here s0 r, .cons (b := (g, u)) q t => by
    obtain ⟨q1, q2⟩ := q
    have q1 : f = g := q1
    subst q1
    show Fld F _ (if f = f then _ else _)
    rw [if_pos rfl]
    exact .cons ⟨rfl, hv⟩ t
  | _, _, _, .next hne pt, .cons (b := (g, u)) q t => by
    obtain ⟨q1, q2⟩ := q
    dsimp only at q1
    subst q1
    show Fld F _ (if _ = f then _ else _)
    rw [if_neg hne]
    exact .cons ⟨rfl, q2⟩ (PutS.fld hv pt t)
section
variable {nx bk ct : L2.St → Hp → Prop} {rt : VK}
variable {W : Wd} {G : Gam} {T : Tms} {cs : Cells} {K : Sl → Cells → Prop} {t : TA} {ta tb tc te to : TE} {KF : PySem.W.Frag}
/-- x.f, x stands still -/
theorem e_fld {α : Type} {C : Addr} {fl : α → List (Str × Sl)} {f : Str} (i : Nat) (cl : Cls KF C) (na : NoAttr KF C f) (nd : ∀ x, ((fl x).map (·.1)).Nodup) (ha : Ev ta W G T cs fun sa cs1 => ∃ x sl, sa = (rRec C fl).at x ∧ (fl x)[i]? = some (f, sl) ∧ K sl cs1) :
    Ev (tFld KF ta f) W G T cs K := fun s H st Q q => by
  refine ha s H st _ fun sa cs1 ⟨x, sl, e, hi, k⟩ va H1 ⟨F, c, sg, tm⟩ => ?_
  subst e
  obtain ⟨p, dx, fs, ev, hF, hf⟩ := tm.head
  obtain ⟨v, hv, pv⟩ := hf.look (nd x) hi
  exact ⟨p, C, dx, fs, v, ev, c.fh _ _ hF, cl, na, hv, q _ _ k _ H1 ⟨F, c, sg, tm.tail.cons pv⟩⟩
theorem Core.obj {F H : Hp} (c : Core W F cs H) {j : Nat} {p C : Addr} {l : List (Str × Sl)} (hj : cs[j]? = some (p, cObj C l)) : ∃ dx fs, H p = some (.ins C dx fs) ∧ Fld F l fs := by
  obtain ⟨_, _, o, h1, dx, fs, e, h2⟩ := c.cell _ (List.mem_of_getElem? hj)
  subst e
  exact ⟨dx, fs, h1, h2⟩
/-- x.f, x a cell -/
theorem e_fldC {C : Addr} {f : Str} (j i : Nat) (cl : Cls KF C) (na : NoAttr KF C f) (ha : Ev ta W G T cs fun sa cs1 => ∃ p l sl, sa = sRef p ∧ cs1[j]? = some (p, cObj C l) ∧ (l.map (·.1)).Nodup ∧ l[i]? = some (f, sl) ∧ K sl cs1) :
    Ev (tFld KF ta f) W G T cs K := fun s H st Q q => by
  refine ha s H st _ fun sa cs1 ⟨p, l, sl, e, hj, nd, hi, k⟩ va H1 ⟨F, c, sg, tm⟩ => ?_
  subst e
  have ev : va = .ref p := tm.head
  obtain ⟨dx, fs, hF, hf⟩ := c.obj hj
  obtain ⟨v, hv, pv⟩ := hf.look nd hi
  exact ⟨p, C, dx, fs, v, ev, hF, cl, na, hv, q _ _ k _ H1 ⟨F, c, sg, tm.tail.cons pv⟩⟩
/-- x.f = value, x a cell -/
theorem s_fld {C : Addr} {f : Str} (j : Nat) (cl : Cls KF C) (na : NoAttr KF C f) (hv : Ev te W G T cs fun sv cs1 => ∀ vv, Ev to W G ((vv, sv) :: T) cs1 fun so cs2 => ∃ p l l', so = sRef p ∧ cs2[j]? = some (p, cObj C l) ∧ l.length < 1000 ∧ PutS f sv l l' ∧ NxT nx W G T (cs2.set j (p, cObj C l'))) :
    NxT (sFld KF to te f ⟨nx, rt, bk, ct⟩) W G T cs := fun s H st => by
  refine hv s H st _ fun sv cs1 h1 vv H1 st1 => ?_
  refine h1 vv s H1 st1 _ fun so cs2 ⟨p, l, l', e, hj, hz, hp, k⟩ vo H2 ⟨F, c, sg, tm⟩ => ?_
  subst e
  have ev : vo = .ref p := tm.head
  obtain ⟨dx, fs, hF, hf⟩ := c.obj hj
  refine ⟨p, C, dx, fs, ev, hF, cl, na, by rw [← hf.length]; exact hz, k s _ ⟨F, c.write (c' := cObj C l') hj ⟨dx, _, rfl, hp.fld tm.tail.head hf⟩, sg, tm.tail.tail⟩⟩
/-- a def that hands back nothing -/
theorem s_fallN {Q : VK} (h : Rt Q W (rNon.at ()) cs) : NxT (fun _ H' => Q .non H') W G T cs := fun s H ⟨F, c, sg, t⟩ => h _ H ⟨F, c, rfl⟩
/-- a cell of an instance stands still from here on -/
theorem Core.freezeO {F H : Hp} (c : Core W F cs H) {j : Nat} {p C : Addr} {l : List (Str × Sl)} (hj : cs[j]? = some (p, cObj C l)) : ∃ F' dx fs, F' p = some (.ins C dx fs) ∧ Fld F' l fs ∧ Same F F' ∧ Core W F' (cs.eraseIdx j) H := by
  obtain ⟨o, F', h1, ⟨dx, fs, e, h2⟩, h3, sF, c'⟩ := c.freeze hj
  subst e
  exact ⟨F', dx, fs, h3, h2, sF, c'⟩
/-- C(..): the new instance stands still -/
theorem e_makeF {ι β : Type} {C : Addr} {fl : β → List (Str × Sl)} {A : Addr → ι → List Sl} {m : ι → Option β} {E : XK}
    (h : EvA t W G T cs fun sls cs1 => ∃ (i : ι) (b : β), m i = some b ∧ (∀ p, sRef p :: sls = A p i) ∧ K ((rRec C fl).at b) cs1) :
    Ev (tMake C (spM (ι := Addr × ι) (fun i => A i.1 i.2) (fun i => [(i.1, cObj C [])]) (fun i => m i.2) (fun _ _ => rNon.at ()) (fun i b => [(i.1, cObj C (fl b))])) [] E t) W G T cs K := fun s H st Q q => by
  refine h s H st _ fun sls cs1 ⟨i, b, hm, e1, k⟩ vs H1 ⟨F, c, sg, tm, ar⟩ => ?_
  intro x dx hx hdx hne
  rw [List.append_nil]
  -- the dict of the instance, then the instance
  have c1 := c.new (o := .own x) hdx
  have sF : Same F (upd F dx (.own x)) := same_upd (c.fh.free hdx)
  have hx1 : (upd H1 dx (.own x)) x = none := by rw [upd_ne (Ne.symm hne)]; exact hx
  have c2 := c1.newCell (c := cObj C []) hx1 ⟨dx, [], rfl, .nil⟩
  have c2' : Core W (upd F dx (.own x)) ([(x, cObj C [])] ++ cs1) (upd (upd H1 dx (.own x)) x (.ins C dx [])) :=
    ⟨c2.f0, c2.fh, c2.bh, c2.bf, by
      have := c2.nd
      rw [List.map_append] at this ⊢
      exact (List.perm_append_comm.nodup_iff).mp this, fun y hy => c2.cell y (by
        rcases List.mem_append.mp hy with z | z
        · exact List.mem_append_right _ z
        · exact List.mem_append_left _ z)⟩
  refine ⟨(x, i), b, Wd.sub (upd F dx (.own x)) _ [(x, cObj C [])], hm, c2'.sub, ?_, fun v H2 ⟨F2, c3, pv⟩ => ⟨pv, ?_⟩⟩
  · show Args (upd F dx (.own x)) (A x i) _
    rw [← e1 x]
    exact .cons rfl (ar.imp fun sl _ z => sl.mono sF z)
  · have sF2 : Same (upd F dx (.own x)) F2 := c3.f0
    have c4 := c2'.unsub c3
    obtain ⟨F3, dy, gs, h1, h2, s3, c5⟩ := c4.freezeO (j := 0) (p := x) (C := C) (l := fl b) rfl
    exact q _ _ k (.ref x) H2 ⟨F3, c5, sg.mono ((sF.trans sF2).trans s3), (tm.mono ((sF.trans sF2).trans s3)).cons ⟨x, dy, gs, rfl, h1, h2⟩⟩
/-- what a call of a def gives, its arguments told -/
theorem call_gives {ι β : Type} {A : ι → List Sl} {ci : ι → Cells} {m : ι → Option β} {res : ι → β → Sl} {co : ι → β → Cells} {E : XK} {i : ι} {b : β} {rest : Cells} {F H : Hp} {s : L2.St} {vs : List V} {Q : VK} (hm : m i = some b) (c : Core W F (ci i ++ rest) H) (sg : Slots F G s) (tm : Temps F T) (ar : Args F (A i) vs)
    (q : ∀ v H2, Sta W G ((v, res i b) :: T) (co i b ++ rest) s H2 → Q v H2) : spM A ci m res co vs H Q E :=
  ⟨i, b, Wd.sub F H (ci i), hm, c.sub, ar, fun v H2 ⟨F2, c2, pv⟩ => q v H2 ⟨F2, c.unsub c2, sg.mono (show Same F F2 from c2.f0), (tm.mono (show Same F F2 from c2.f0)).cons pv⟩⟩
/-- o.m(..), o stands still -/
theorem e_meth {ι β α : Type} {C : Addr} {fl : α → List (Str × Sl)} {mn : Str} {A : ι → List Sl} {ci : ι → Cells} {m : ι → Option β} {res : ι → β → Sl} {co : ι → β → Cells} {E : XK} (hn : ∀ x, mn ∉ (fl x).map (·.1))
    (ha : Ev ta W G T cs fun sa cs1 => ∃ x, sa = (rRec C fl).at x ∧ ∀ va, EvA t W G ((va, sa) :: T) cs1 fun sls cs2 => ∃ (i : ι) (b : β) (rest : Cells), m i = some b ∧ sa :: sls = A i ∧ cs2 = ci i ++ rest ∧ K (res i b) (co i b ++ rest)) :
    Ev (tMeth C mn (spM A ci m res co) [] E ta t) W G T cs K := fun s H st Q q => by
  refine ha s H st _ fun sa cs1 ⟨x, e, h1⟩ va H1 st1 => ?_
  obtain ⟨F1, c1, sg1, tm1⟩ := id st1
  obtain ⟨p, dx, fs, ev, hF, hf⟩ : (rRec C fl).p x F1 va := by
    have := tm1.head
    rw [e] at this
    exact this
  refine ⟨p, dx, fs, ev, c1.fh _ _ hF, look_none (hf.names ▸ hn x), ?_⟩
  refine h1 va s H1 st1 _ fun sls cs2 ⟨i, b, rest, hm, e1, e2, k⟩ vs H2 ⟨F, c, sg, tm, ar⟩ => ?_
  subst e2
  rw [List.append_nil]
  exact call_gives hm c sg tm.tail (e1 ▸ .cons tm.head ar) fun v H3 st3 => q _ _ k v H3 st3
/-- len(o) -/
theorem e_lenOb {ι α : Type} {C : Addr} {fl : α → List (Str × Sl)} {A : ι → List Sl} {m : ι → Option Int} {E : XK}
    (h : EvA t W G T cs fun sls cs1 => ∃ (x : α) (i : ι) (n : Int), sls = [(rRec C fl).at x] ∧ m i = some n ∧ sls = A i ∧ 0 ≤ n ∧ n < 2 ^ 63 ∧ K (rInt.at n) cs1) :
    Ev (tCB (rLenOb C (spM A (fun _ => []) m (fun _ b => rInt.at b) (fun _ _ => [])) [] E) t) W G T cs K := fun s H st Q q => by
  refine h s H st _ fun sls cs1 ⟨x, i, n, e, hm, e1, h0, h1, k⟩ vs H1 ⟨F, c, sg, tm, ar⟩ => ?_
  obtain ⟨v, ev, pv⟩ : ∃ v, vs = [v] ∧ (rRec C fl).p x F v := by
    rw [e] at ar
    exact args1 ar
  obtain ⟨p, dx, fs, ev2, hF, hf⟩ := pv
  subst ev2
  refine ⟨p, dx, fs, ev, c.fh _ _ hF, ?_⟩
  rw [List.append_nil, ← ev]
  refine call_gives (G := G) (T := T) (rest := cs1) hm c sg tm (e1 ▸ ar) fun v H3 st3 => ⟨n, int_top st3, h0, h1, ?_⟩
  exact q _ _ k _ H3 (st3.pop.push fun _ => rfl)
end
end ML

namespace ML
open PySem Spec PyProof.Rows L2 StX
section
variable {nx bk ct : L2.St → Hp → Prop} {rt : VK}
variable {W : Wd} {G : Gam} {T : Tms} {cs : Cells} {K : Sl → Cells → Prop} {t : TA} {ta tb tc te to : TE} {KF : PySem.W.Frag} {α : Type}
/-! ### what may be None -/
/-- values that are not None -/
def NN (r : R α) : Prop := ∀ x F u, r.p x F u → u ≠ .non
def rIsNone : R2 := fun x y H Q => y = .non ∧ Q (.bl (decide (x = .non))) H
def rNotNone : R2 := fun x y H Q => y = .non ∧ Q (.bl (!decide (x = .non))) H
/-! ### xs.pop() -/
def oPop (xs : List α) : Option (α × List α) := match xs[xs.length - 1]? with
  | some x => some (x, xs.dropLast)
  | none => none
def oLen (m : Option Int) : Option Int := match m with
  | some n => if 0 ≤ n ∧ n < 2 ^ 63 then some n else none
  | none => none
theorem oLen_ok {m : Option Int} {n : Int} (h : oLen m = some n) : m = some n ∧ 0 ≤ n ∧ n < 2 ^ 63 := by
  unfold oLen at h
  split at h
  · obtain ⟨h1, h2⟩ := of_ite h
    subst h2
    exact ⟨rfl, h1⟩
  · cases h
/-! ### isinstance of an instance -/
/-- what isinstance asks of an instance's class -/
structure IsC (K : PySem.W.Frag) (C : Addr) : Prop where
  cl : Cls K C
  ha : PySem.W.findIn K (.ref C) "__class__" = some (some (.builtin "object.__class__"))
  hn : PySem.W.specialIn K (.builtin "object.__class__") "__get__" = some (some (.builtin "getset_descriptor.__get__"))
  ht : PySem.W.takesIn K (.builtin "object.__class__") = some true
  hm : PySem.W.mroIn K C (.type "object") = some true
theorem rec_ty {KF : PySem.W.Frag} {C : Addr} (c : IsC KF C) {fl : α → List (Str × Sl)} {F H : Hp} {x : α} {v : V} (h : (rRec C fl).p x F v) (s : Same F H) : TyX KF H v (.ref C) := by
  obtain ⟨p, dx, fs, rfl, h1, _⟩ := h
  exact .base (.ins (s _ _ h1) c.cl c.ha c.hn c.ht c.hm)
def sCls (u : V) : Sl := ⟨fun _ v => v = u, fun _ h => h⟩
theorem kitOne_self (KF : PySem.W.Frag) (C : Addr) : PySem.W.kitOne KF (.ref C) (.ref C) = some true := by
  unfold PySem.W.kitOne
  rw [if_pos (by simp)]
theorem e_bits (ha : Ev ta W G T cs fun sa cs1 => ∃ i, sa = rInt.at i ∧ K (rInt.at ((Builtin.Int.intBits i : Nat) : Int)) cs1) : Ev (tBits ta) W G T cs K := fun s H st Q q => by
  refine ha s H st _ fun sa cs1 ⟨i, e, k⟩ va H1 st1 => ?_
  subst e
  exact ⟨i, int_top st1, q _ _ k _ H1 (st1.pop.push fun _ => rfl)⟩
theorem e_clsO {C : Addr} (k : K (sCls (.ref C)) cs) : Ev (tC (.ref C)) W G T cs K := fun s H st Q q => q _ cs k _ H (st.push fun _ => rfl)
/-- isinstance(x, C), C a class of the program: x of a type -/
theorem e_isiO {ty : Value} {D : Addr} {b : Bool} (h : EvA t W G T cs fun sls cs1 => ∃ (α : Type) (r : R α) (x : α), (∀ {F H : Hp} {v : V}, r.p x F v → Same F H → TyX KF H v ty) ∧ sls = [r.at x, sCls (.ref D)] ∧ PySem.W.kitOne KF ty (.ref D) = some b ∧ K (rBool.at b) cs1) :
    Ev (tCB (rIsi KF) t) W G T cs K := fun s H st Q q => by
  refine h s H st _ fun sls cs1 ⟨α, r, x, e, e1, hk, k⟩ vs H1 ⟨F, cc, sg, tm, ar⟩ => ?_
  subst e1
  obtain ⟨v, w, rfl, p1, p2⟩ := args2' ar
  have ew : w = .ref D := p2
  subst ew
  exact ⟨v, _, _, _, b, rfl, .own D, e p1 cc.fh, hk, q _ _ k _ H1 ⟨F, cc, sg, tm.cons rfl⟩⟩
end
end ML

namespace ML
open PySem Spec PyProof.Rows L2 StX
/-! ### a != b of instances whose class has == alone -/
section
variable {prog : Program} {w : World} {A : Around} {E : Value → Shared → Prop} {s : Shared} {K : PySem.W.Frag} {x C f : Addr} {ox : Obj} {od : Option Obj} {b : Value}
theorem truthy_b {M : Model} {Q : Bool → Shared → Prop} {r : Bool} (h : Q r s) : wpAny M A (truthy (.bool r)) Q E s := wpAny_of_eq (rfl : truthy (.bool r) = pure r) h
theorem ne_entry {Q : Fin → Shared → Prop} (hu : A.units < cLine) (X : K.In s.heap) (I : PySem.W.InstAt s.heap x ox C od) (he : PySem.W.findIn K (.ref C) "__eq__" = some (some (.ref f))) (hf : PySem.W.isFn K (.ref f) = true)
    (h : wpAny (model prog w) A (call (.ref f) [.ref x, b]) (fun v s1 => ∃ r, v = .bool r ∧ Q (.done (.ret (.bool !r))) s1) E s) : wpAny (model prog w) A (Builtin.«object.__ne__» ⟨[.ref x, b], []⟩) Q E s := by
  unfold Builtin.«object.__ne__»
  have go : ∀ {R : Option Value → Shared → Prop}, wpAny (model prog w) A (call (.ref f) [.ref x, b]) (fun v => R (some v)) E s → wpAny (model prog w) A (callSpecialIfBound? (.ref x) "__eq__" [b]) R E s := fun z => PySem.W.ifBound_K X I he hf z
  refine wpAny_bind (m := slotArgs "__ne__" 1 _) (wpAny_pure ?_)
  refine wpAny_bind (m := cRoomFor _ _) (wpAny_cRoomFor hu ?_)
  refine wpAny_bind (go (thn h fun v s1 ⟨r, e, q⟩ => ?_))
  subst e
  exact wpAny_bind (truthy_b (wpAny_pure q))
theorem ne_call {Q : Value → Shared → Prop} (hu : A.in1.units < cLine) (X : K.In s.heap) (I : PySem.W.InstAt s.heap x ox C od) (hm : PySem.W.mroIn K C (.type "object") = some true) (he : PySem.W.findIn K (.ref C) "__eq__" = some (some (.ref f))) (hf : PySem.W.isFn K (.ref f) = true)
    (h : wpAny (model prog w) A.in1 (call (.ref f) [.ref x, b]) (fun v s1 => ∃ r, v = .bool r ∧ Q (.bool !r) s1) E s) : wpAny (model prog w) A (call (.builtin "object.__ne__") [.ref x, b]) Q E s :=
  wpAny_call (codeAny_call_builtin F.cmp_object.ne.plain F.cmpEntry_ne (PySem.W.check_slot F.cmpKind_ne F.cmpSplit_ne (I.type.andThen (PySem.W.looks_mroIn X hm)) (F.cmpArgs_ne _ _) (ne_entry hu X I he hf h)))
theorem ne_bound {M : Model} {args : List Value} {Q : Option Value → Shared → Prop} (X : K.In s.heap) (I : PySem.W.InstAt s.heap x ox C od) (hs : PySem.W.findIn K (.ref C) "__ne__" = some (some (.builtin "object.__ne__")))
    (h : wpAny M A (call (.builtin "object.__ne__") (.ref x :: args)) (fun v => Q (some v)) E s) : wpAny M A (callSpecialIfBound? (.ref x) "__ne__" args) Q E s := by
  simp only [callSpecialIfBound?, bindSpecialIfBound?]
  have last : wpAny M A (call (.builtin "object.__ne__") ([.ref x] ++ args) >>= fun v => pure (some v)) Q E s := wpAny_bind (thn h fun _ _ z => wpAny_pure z)
  refine wpAny_holding (wpAny_bind (wpAny_bind (wpAny_bind (I.type.here ((PySem.W.looks_findIn X hs).here (wpAny_bind (wpAny_askSetting (wpAny_ite ?_))))))))
  split
  · exact wpAny_bind (wpAny_of_eq (F.cmp_object.ne.bind _) (wpAny_pure (by exact last)))
  · exact wpAny_tryCatch (wpAny_bind (wpAny_of_eq (F.cmp_object.ne.bind _) (wpAny_pure (by exact last))))
theorem ne_rich {Q : Value → Shared → Prop} {tb : Value} (hu : A.units + 1 < cLine) (X : K.In s.heap) (I : PySem.W.InstAt s.heap x ox C od) (hb : PySem.W.Looks (model prog w) s.heap (typeOf b) tb) (hn : PySem.W.notFirst K C tb = true) (hm : PySem.W.mroIn K C (.type "object") = some true)
    (hs : PySem.W.findIn K (.ref C) "__ne__" = some (some (.builtin "object.__ne__"))) (he : PySem.W.findIn K (.ref C) "__eq__" = some (some (.ref f))) (hf : PySem.W.isFn K (.ref f) = true)
    (h : wpAny (model prog w) A.in1 (call (.ref f) [.ref x, b]) (fun v s1 => ∃ r, v = .bool r ∧ Q (.bool !r) s1) E s) : wpAny (model prog w) A (richCompare .NotEq (.ref x) b) Q E s := by
  have one : wpAny (model prog w) A (tryCompare (.ref x) (cmpInfo .NotEq).2.1 b) (fun r s' => ∃ v, r = some v ∧ Q v s') E s := by
    show wpAny (model prog w) A (tryCompare (.ref x) "__ne__" b) _ E s
    unfold tryCompare
    refine wpAny_bind (ne_bound X I hs (ne_call (Q := fun v s1 => wpAny (model prog w) A _ (fun r s' => ∃ v, r = some v ∧ Q v s') E s1) hu X I hm he hf (thn h fun v s1 ⟨r, e, q⟩ => ⟨r, e, ?_⟩)))
    exact wpAny_pure ⟨_, rfl, q⟩
  unfold richCompare
  simp only [oneThing_ref]
  refine wpAny_holding (wpAny_bind (wpAny_cRoomFor (by omega) (wpAny_bind (I.type.here (wpAny_bind (hb.here ?_))))))
  have fin : ∀ {R : Option Value → Sem Value} , (∀ v s', Q v s' → wpAny (model prog w) A (R (some v)) Q E s') → wpAny (model prog w) A (tryCompare (.ref x) (cmpInfo .NotEq).2.1 b >>= R) Q E s := fun hR => wpAny_bind (thn one fun r s' ⟨v, e, q⟩ => by subst e; exact hR v s' q)
  split
  · rename_i q
    have e : PySem.W.subIn K tb (.ref C) = some false := by
      rcases Bool.or_eq_true_iff.mp hn with z | z
      · rw [beq_iff_eq.mp z] at q; simp at q
      · exact beq_iff_eq.mp z
    refine wpAny_bind ((PySem.W.looks_subIn X e).here ?_)
    simp only [Bool.false_eq_true, if_false]
    exact fin fun v s' q => wpAny_pure q
  · refine wpAny_bind (wpAny_pure ?_)
    simp only [Bool.false_eq_true, if_false]
    exact fin fun v s' q => wpAny_pure q
end
/-- what != asks of a class -/
structure NeC (K : PySem.W.Frag) (C : Addr) : Prop where
  ne : PySem.W.findIn K (.ref C) "__ne__" = some (some (.builtin "object.__ne__"))
  hm : PySem.W.mroIn K C (.type "object") = some true
section
variable {X : Cx} {CX : CXT} {k : Nat} {f C : Addr} {fd : FuncData} {ps : List Str} {sp : Sp} {dvs : List V} {ds : List Value} {E : XK}
def rNeOb (C : Addr) (sp : Sp) (dvs : List V) (E : XK) : R2 := fun x y H Q => rBinOb C (fun vs H Q' E => sp vs H (fun v H' => ∃ b, v = .bl b ∧ Q (.bl !b) H') E) dvs E x y H Q
theorem op_neG (c : DM X.K C "__eq__" f) (nc : NeC X.K C) (F : FnG X.prog X.w X.K X.mg X.base CX k f fd ps sp) (hr : RoomG (k + 1) X.A) (hb : Binds X.K fd ps ds) (hd : Vals dvs ds) (hx : Passes CX X E) :
    OpR X (compareOp .NotEq) (rNeOb C sp dvs E) := by
  intro pins s σ H x y v u Q I rx ry h
  obtain ⟨a, dx, fs, b, dy, gs, rfl, rfl, ha, hb2, q⟩ := h
  cases rx
  cases ry
  obtain ⟨ox, od, J⟩ := ins_inst I ha
  obtain ⟨oy, oe, J2⟩ := ins_inst I hb2
  have hu := hr.units
  refine ne_rich (tb := .ref C) (by omega) I.kIn J J2.type (by simp [PySem.W.notFirst]) nc.hm nc.ne c.at_ c.fn (thn (run_fnG1 (us := [.ref a, .ref b]) (vs := [.ref a, .ref b]) F hr hb hd hx I (.cons rfl (.cons rfl .nil)) q) fun w s' z => ?_)
  obtain ⟨z', H', I', rz, r, rfl, qz⟩ := z
  cases rz
  exact ⟨r, rfl, .bl !r, H', I', rfl, qz⟩
end
section
variable {W : Wd} {G : Gam} {T : Tms} {cs : Cells} {K : Sl → Cells → Prop} {ta tb : TE}
theorem e_neOb {ι α : Type} {C : Addr} {fl : α → List (Str × Sl)} {A : ι → List Sl} {m : ι → Option Bool} {E : XK}
    (ha : Ev ta W G T cs fun sa cs1 => ∀ va, Ev tb W G ((va, sa) :: T) cs1 fun sb cs2 => ∃ (x y : α) (i : ι) (b : Bool), sa = (rRec C fl).at x ∧ sb = (rRec C fl).at y ∧ m i = some b ∧ [sa, sb] = A i ∧ K (rBool.at (!b)) cs2) :
    Ev (tOp (rNeOb C (spM A (fun _ => []) m (fun _ b => rBool.at b) (fun _ _ => [])) [] E) ta tb) W G T cs K := fun s H st Q q => by
  refine ha s H st _ fun sa cs1 h1 va H1 st1 => ?_
  refine h1 va s H1 st1 _ fun sb cs2 ⟨x, y, i, b, e, e', hm, e1, k⟩ vb H2 ⟨F, c, sg, tm⟩ => ?_
  obtain ⟨p, dx, fs, ev, hF, hf⟩ : (rRec C fl).p y F vb := by
    have := tm.head
    rw [e'] at this
    exact this
  obtain ⟨p2, dx2, fs2, ev2, hF2, hf2⟩ : (rRec C fl).p x F va := by
    have := tm.tail.head
    rw [e] at this
    exact this
  refine ⟨p2, dx2, fs2, p, dx, fs, ev2, ev, c.fh _ _ hF2, c.fh _ _ hF, ?_⟩
  rw [List.append_nil]
  refine call_gives (G := G) (T := T) (rest := cs2) hm c sg tm.tail.tail (e1 ▸ .cons (ev2 ▸ tm.tail.head) (.cons (ev ▸ tm.head) .nil)) fun v H3 st3 => ⟨b, bool_top st3, ?_⟩
  exact q _ _ k _ H3 (st3.pop.push fun _ => rfl)
end
end ML

namespace ML
open PySem Spec PyProof.Rows L2
section
variable {nx bk ct : L2.St → Hp → Prop} {rt : VK}
variable {W : Wd} {G : Gam} {T : Tms} {cs : Cells} {K : Sl → Cells → Prop} {t ta tb : TE} {KF : PySem.W.Frag}
/-! ## a list and a list: a list that may change -/
theorem e_catLC (h0 : Ev ta W G T cs fun sa cs1 => ∀ va, Ev tb W G ((va, sa) :: T) cs1 fun sb cs2 => ∃ (α : Type) (r : R α) (xs ys zs : List α), sa = (rLst r).at xs ∧ sb = (rLst r).at ys ∧ oCat xs ys = some zs ∧ ∀ p, K (sRef p) (cs2 ++ [(p, cLst r zs)])) :
    Ev (tOp rCat ta tb) W G T cs K := fun s H st Q q => by
  refine h0 s H st _ fun sa cs1 h1 va H1 st1 => ?_
  refine h1 va s H1 st1 _ fun sb cs2 ⟨α, r, xs, ys, zs, e1, e2, hy, k⟩ vb H2 ⟨F, c, sg, tm⟩ => ?_
  subst e1 e2
  obtain ⟨z1, a, vs, rfl, hF, hA⟩ := tm.tail.head
  obtain ⟨z2, b, ws, rfl, hF2, hA2⟩ := tm.head
  obtain ⟨hl, e⟩ := of_ite hy
  subst e
  have l1 := hA.length
  have l2 := hA2.length
  exact ⟨a, b, vs, ws, rfl, rfl, c.fh _ _ hF, c.fh _ _ hF2, by omega, fun p hp => q _ _ (k p) _ _ ⟨F, c.newCell hp ⟨by rw [List.length_append]; exact hl, vs ++ ws, rfl, hA.app hA2⟩, sg, tm.tail.tail.cons rfl⟩⟩
/-! ## a list some times -/
theorem rep_small {α : Type} {xs : List α} {i : Int} (c2 : 1 ≤ i) (c3 : i ≤ 1000) (c4 : xs.length ≤ 1000) : (List.replicate i.toNat xs).flatten.length ≤ sizeLine := by
  rw [len_rep]
  have : i.toNat ≤ 1000 := by omega
  exact Nat.le_trans (Nat.mul_le_mul this c4) (by decide)
theorem e_repL (h0 : Ev ta W G T cs fun sa cs1 => ∀ va, Ev tb W G ((va, sa) :: T) cs1 fun sb cs2 => ∃ (α : Type) (r : R α) (xs ys : List α) (i : Int), sa = (rLst r).at xs ∧ sb = rInt.at i ∧ oRep xs i = some ys ∧ K ((rLst r).at ys) cs2) :
    Ev (tOp rRep ta tb) W G T cs K := fun s H st Q q => by
  refine h0 s H st _ fun sa cs1 h1 va H1 st1 => ?_
  refine h1 va s H1 st1 _ fun sb cs2 ⟨α, r, xs, ys, i, e1, e2, hy, k⟩ vb H2 ⟨F, c, sg, tm⟩ => ?_
  subst e1 e2
  obtain ⟨hz, a, vs, rfl, hF, hA⟩ := tm.tail.head
  have eb : vb = .int i := tm.head
  obtain ⟨⟨c1, c2, c3, c4⟩, e⟩ := of_ite hy
  subst e eb
  have hl := hA.length
  have hs := rep_small c2 c3 c4
  refine ⟨a, i, vs, rfl, rfl, c.fh _ _ hF, by omega, by omega, ?_, fun p hp => ?_⟩
  · rw [len_rep, Nat.mul_comm, hl] at hs
    exact hs
  · have sF : Same F (upd F p (.lst (List.replicate i.toNat vs).flatten)) := same_upd (c.fh.free hp)
    exact q _ _ k _ _ ⟨_, c.new hp, sg.mono sF, (tm.tail.tail.mono sF).cons ⟨hs, p, _, rfl, upd_same, (hA.rep _).imp fun _ _ z => r.mono sF z⟩⟩
/-! ## the greatest and the least of a list of numbers -/
/-! ## cells that are left behind -/
/-! ## a call by the names alone -/
def perm {α : Type} (π : List Nat) (l : List α) : List α := π.filterMap fun i => l[i]?
theorem perm_rel {π : List Nat} : ∀ {vs : List V} {us : List Value}, Vals vs us → Vals (perm π vs) (perm π us) := fun {vs us} r => by
  induction π with
  | nil => exact .nil
  | cons i π ih =>
    unfold perm at ih ⊢
    rw [List.filterMap_cons, List.filterMap_cons]
    cases e : vs[i]? with
    | none => rw [Vals.none_of r e]; exact ih
    | some v =>
      obtain ⟨u, h1, h2⟩ := Vals.get r e
      rw [h1]
      exact .cons h2 ih
theorem perm_args {F : Hp} {π : List Nat} : ∀ {sls : List Sl} {vs : List V}, Args F sls vs → Args F (perm π sls) (perm π vs) := fun {sls vs} r => by
  have ln : ∀ i, sls[i]? = none → vs[i]? = none := fun i e => by
    rw [List.getElem?_eq_none_iff] at e ⊢
    have := All2.length r
    omega
  induction π with
  | nil => exact .nil
  | cons i π ih =>
    unfold perm at ih ⊢
    rw [List.filterMap_cons, List.filterMap_cons]
    cases e : sls[i]? with
    | none => rw [ln i e]; exact ih
    | some v =>
      obtain ⟨u, h1, h2⟩ := All2.get r e
      rw [h1]
      exact .cons h2 ih
def NamesTo (KF : PySem.W.Frag) (fd : FuncData) (ps ks : List Str) (π : List Nat) : Prop :=
  ∀ (s : Shared) (us : List Value), us.length = ks.length → BindsTo s fd ⟨[], ks.zip us⟩ (ps.zip (perm π us))
def tNames (π : List Nat) (n : Nat) (t : TA) : TA := fun σ H Q => t σ H fun vs H1 => vs.length = n ∧ Q (perm π vs) H1
theorem ea_names {π : List Nat} {n : Nat} {t : TA} {K : List Sl → Cells → Prop} (h : EvA t W G T cs fun sls cs1 => sls.length = n ∧ K (perm π sls) cs1) : EvA (tNames π n t) W G T cs K := fun s H st Q q => by
  refine h s H st _ fun sls cs1 ⟨e, k⟩ vs H1 ⟨F, c, sg, tm, ar⟩ => ?_
  exact ⟨(All2.length ar).symm.trans e, q _ _ k _ _ ⟨F, c, sg, tm, perm_args ar⟩⟩
end
section
variable {X : Cx} {CX : CXT} {k : Nat} {f : Addr} {fd : FuncData} {ps ks : List Str} {sp : Sp} {E : XK} {x : Str} {p pos : Pos} {kws : List Keyword} {t : TA} {π : List Nat}
end
end ML

namespace ML
open PySem Spec PyProof.Rows L2
section
/-! ## a value or None: compared and shown as data -/
class Something (d : α → PyData) : Prop where
  no : ∀ x, PyData.eqv .none (d x) = false ∧ PyData.eqv (d x) .none = false
instance : Something eInt.d := ⟨fun x => by simp [eInt, PyData.eqv]⟩
instance {r : R α} {r' : R β} [DecidableEq α] [DecidableEq β] (e : REq r) (e' : REq r') : Something (ePair e e').d := ⟨fun x => by simp [ePair, PyData.eqv]⟩
instance {r : R α} [DecidableEq α] (e : REq r) : Something (eTup e).d := ⟨fun x => by simp [eTup, PyData.eqv]⟩
def dOpt (d : α → PyData) : Option α → PyData
  | none => .none
  | some x => d x
def eOpt {r : R α} [DecidableEq α] (e : REq r) [Something e.d] : REq (rOpt r) where
  d := dOpt e.d
  ok := fun {K F H a v} h s => by
    cases a with
    | none =>
      have e2 : v = .non := h
      subst e2
      exact Dp.non
    | some x => exact e.ok h s
  lay := fun x => by
    cases x with
    | none => simp [dOpt, PyData.canLay0]
    | some x => exact e.lay x
  n := e.n + 1
  dep := fun x => by
    cases x with
    | none => simp [dOpt, PyData.depth]
    | some x => exact Nat.le_succ_of_le (e.dep x)
  eqv := fun a b => by
    cases a with
    | none =>
      cases b with
      | none => simp [dOpt, PyData.eqv]
      | some y => simp [dOpt, (Something.no (d := e.d) y).1]
    | some x =>
      cases b with
      | none => simp [dOpt, (Something.no (d := e.d) x).2]
      | some y => simp [dOpt, e.eqv]
end
end ML

namespace ML
open PySem Spec PyProof.Rows L2 StX
/-! ### zip of three tuples -/
def ItzThree (K : PySem.W.Frag) (a b c : Addr) : It :=
  ⟨fun i H => ∃ (xs ys zs : List V) (x y z : V), SqT K H a xs ∧ SqT K H b ys ∧ SqT K H c zs ∧ xs[i]? = some x ∧ ys[i]? = some y ∧ zs[i]? = some z,
    fun i H v H' => ∃ T x y z, v = .ref T ∧ H T = none ∧ H' = upd H T (.tup [x, y, z]) ∧ (∀ xs, SqT K H a xs → xs[i]? = some x) ∧ (∀ ys, SqT K H b ys → ys[i]? = some y) ∧ ∀ zs, SqT K H c zs → zs[i]? = some z,
    fun i H => ∃ xs ys zs : List V, SqT K H a xs ∧ SqT K H b ys ∧ SqT K H c zs ∧ (i ≤ xs.length ∧ i ≤ ys.length ∧ i ≤ zs.length) ∧ (i = xs.length ∨ i = ys.length ∨ i = zs.length)⟩
def iThree (K : PySem.W.Frag) (ta : TA) : TI := fun σ H R => ta σ H fun vs H1 => ∃ a b c xs ys zs, vs = [.ref a, .ref b, .ref c] ∧ SqT K H1 a xs ∧ SqT K H1 b ys ∧ SqT K H1 c zs ∧ R (ItzThree K a b c) H1
section
variable {W : Wd} {G : Gam} {T : Tms} {cs : Cells} {t : TA} {KF : PySem.W.Frag}
/-- a tuple of three -/
def rThree {α β γ : Type} (r : R α) (q : R β) (o : R γ) : R (α × β × γ) := ⟨fun x F v => ∃ a u w z, v = .ref a ∧ F a = some (.tup [u, w, z]) ∧ r.p x.1 F u ∧ q.p x.2.1 F w ∧ o.p x.2.2 F z,
  fun {x} _ _ _ e ⟨a, u, w, z, h1, h2, h3, h4, h5⟩ => ⟨a, u, w, z, h1, e _ _ h2, r.mono e h3, q.mono e h4, o.mono e h5⟩⟩
end
end ML

namespace ML
open PySem Spec PyProof.Rows L2
section
open PySem.W
variable {prog : Program} {w : World} {A : Around} {E : Value → Shared → Prop} {s : Shared}
end
def rMost (K : PySem.W.Frag) : List V → Hp → VK → Prop := fun vs H Q => ∃ (a : Addr) (us : List V) (d : PyData) (ds : List PyData), vs = [V.ref a] ∧ (SqL K H a us ∨ SqT K H a us) ∧ DpAll K H us (d :: ds) ∧ PySem.W.AlikeAll (d :: ds) ∧ PyData.depthAll (d :: ds) ≤ 60 ∧
  ∀ i u, us[i]? = some u → (d :: ds).getD i .none = PySem.W.maxD d ds → Q u H
section
variable {W : Wd} {G : Gam} {T : Tms} {cs : Cells} {K : Sl → Cells → Prop} {KF : PySem.W.Frag} {t : TA}
def AlikeOk (ds : List PyData) : Bool := ds.all fun x => ds.all (fun y => PySem.W.alike x y) && (match x with | .none => false | _ => true)
theorem AlikeOk.all {ds : List PyData} (h : AlikeOk ds = true) : PySem.W.AlikeAll ds := by
  unfold AlikeOk at h
  rw [List.all_eq_true] at h
  refine ⟨fun x hx y hy => ?_, fun x hx e => ?_⟩
  · have := h x hx
    rw [Bool.and_eq_true, List.all_eq_true] at this
    exact this.1 y hy
  · have := h x hx
    subst e
    rw [Bool.and_eq_true] at this
    cases this.2
/-- the greatest of some -/
def oMost (d : α → PyData) : List α → Option α
  | [] => none
  | x :: xs => if AlikeOk ((x :: xs).map d) = true then some (xs.foldl (fun a y => if PySem.W.dataLt (d a) (d y) then y else a) x) else none
theorem REq.inj {r : R α} [DecidableEq α] (e : REq r) {a b : α} (h : e.d a = e.d b) : a = b := by
  have h1 := e.eqv a a
  rw [decide_eq_true rfl] at h1
  have h2 := e.eqv a b
  rw [← h, h1] at h2
  exact of_decide_eq_true h2.symm
end
end ML

namespace ML
open PySem Spec PyProof.Rows L2
/-! ### sorted(list of data) -/
def SortOk (ds : List PyData) : Bool := (ds.all fun x => ds.all fun y => PySem.W.alike x y) && ((ds.all fun x => match x with | .tuple (_ :: _) => true | _ => false) || (ds.all fun x => match x with | .none => false | .tuple _ => false | _ => true))
theorem SortOk.alike {ds : List PyData} (h : SortOk ds = true) : PySem.W.AllAlike ds := fun x hx y hy => by
  unfold SortOk at h
  rw [Bool.and_eq_true, List.all_eq_true] at h
  have := h.1 x hx
  rw [List.all_eq_true] at this
  exact this y hy
def rSortG (K : PySem.W.Frag) : List V → Hp → VK → Prop := fun vs H Q => ∃ (α : Type) (a : Addr) (us : List V) (bs : List α) (d : α → PyData), vs = [V.ref a] ∧ SqL K H a us ∧ DpAll K H us (bs.map d) ∧ SortOk (bs.map d) = true ∧ (∀ b ∈ bs, (d b).depth ≤ 60) ∧ bs.length ≤ sizeLine ∧
  ∀ (ws : List V) (p : Addr), All2 (fun b u => (u, b) ∈ us.zip bs) (bs.mergeSort (PySem.W.dataLe false d)) ws → H p = none → Q (.ref p) (upd H p (.lst ws))
theorem DpAll.len {K : PySem.W.Frag} {H : Hp} : ∀ {us : List V} {ds : List PyData}, DpAll K H us ds → us.length = ds.length
  | _, _, .nil => rfl
  | _, _, .cons _ t => by rw [List.length_cons, List.length_cons, DpAll.len t]
section
variable {W : Wd} {G : Gam} {T : Tms} {cs : Cells} {K : Sl → Cells → Prop} {KF : PySem.W.Frag} {t : TA} {ta tb : TE}
def oSorted (d : α → PyData) (xs : List α) : Option (List α) := if SortOk (xs.map d) = true ∧ xs.length ≤ sizeLine then some (xs.mergeSort (PySem.W.dataLe false d)) else none
/-! ### a list some times, or no time -/
def oRepZ (xs : List α) (k : Int) : Option (List α) := if 0 ≤ k ∧ k ≤ 1000 ∧ xs.length ≤ 1000 then some (List.replicate k.toNat xs).flatten else none
/-! ### lists of data of many kinds -/
def rData (KF : PySem.W.Frag) : R PyData := ⟨fun d F v => ∀ H, Same F H → Dp KF H v d, fun {d} _ _ _ e h => fun H s => h H (fun a o z => s a o (e a o z))⟩
/-- what the slot holds reads as the data -/
def As (KF : PySem.W.Frag) (sl : Sl) (d : PyData) : Prop := ∀ F v, sl.p F v → (rData KF).p d F v
def oReprD (ds : List PyData) : Option Str := if (PyData.list ds).showable = true ∧ (PyData.list ds).canLay0 = true ∧ (PyData.list ds).depth ≤ 60 ∧ (PyData.list ds).shown.length ≤ sizeLine then some (PyData.list ds).shown else none
end
end ML

namespace ML
open PySem Spec PyProof.Rows L2
/-! ### values of any kind that are no instances -/
abbrev anyTys : List String := ["int", "bool", "str", "NoneType", "list", "tuple", "dict"]
def rWild (KF : PySem.W.Frag) : R Unit := ⟨fun _ F v => ∃ n, n ∈ anyTys ∧ ∀ H, Same F H → TyX KF H v (.type n), fun {_} _ _ _ e h => by
  obtain ⟨n, hn, h⟩ := h
  exact ⟨n, hn, fun H s => h H (fun a o z => s a o (e a o z))⟩⟩
/-- what the slot holds is such a value -/
def Anyv (KF : PySem.W.Frag) (sl : Sl) : Prop := ∀ F v, sl.p F v → (rWild KF).p () F v
section
variable {W : Wd} {G : Gam} {T : Tms} {cs : Cells} {K : Sl → Cells → Prop} {KF : PySem.W.Frag} {t : TA} {ta tb tk tv : TE}
def cRaw (o : HO) : Cl := ⟨fun _ o' => o' = o, fun _ h => h⟩
end
/-! ### such a value beside an own class -/
structure AnyC (K : PySem.W.Frag) (C : Addr) : Prop where
  nf : ∀ n ∈ anyTys, PySem.W.notFirst K C (.type n) = true
  ki : ∀ n ∈ anyTys, PySem.W.kitOne K (.type n) (.ref C) = some false
def rCmpAny (K : PySem.W.Frag) (C : Addr) (sp : Sp) (dvs : List V) (E : XK) : R2 := fun x y H Q => ∃ a dx fs n, x = .ref a ∧ H a = some (.ins C dx fs) ∧ n ∈ anyTys ∧ TyX K H y (.type n) ∧ sp ([.ref a, y] ++ dvs) H Q E
section
variable {X : Cx} {CX : CXT} {k : Nat} {C f : Addr} {fd : FuncData} {ps : List Str} {sp : Sp} {dvs : List V} {ds : List Value} {E : XK}
end
section
variable {W : Wd} {G : Gam} {T : Tms} {cs : Cells} {K : Sl → Cells → Prop} {KF : PySem.W.Frag} {t : TA} {ta tb : TE}
end
/-! ### a method called by names alone -/
section
variable {X : Cx} {CX : CXT} {k : Nat} {C f : Addr} {fd : FuncData} {ps ks : List Str} {sp : Sp} {E : XK} {m : Str} {p pos apos : Pos} {o : Expr} {kws : List Keyword} {ta : TE} {t : TA} {π : List Nat}
/-- self stands first -/
def OwnNames (KF : PySem.W.Frag) (fd : FuncData) (ps ks : List Str) (π : List Nat) : Prop :=
  ∀ (s : Shared) (a : Value) (us : List Value), us.length = ks.length → BindsTo s fd ⟨[a], ks.zip us⟩ (ps.zip (a :: perm π us))
theorem own_names_mk {KF : PySem.W.Frag} {x qual : Str} {st : Stmt} (F : Fun KF x qual st f fd)
    (h : ∀ (kV doc pm : Value) (an : Option Addr) (cdv ct : Value) (a : Value) (us : List Value), us.length = ks.length → bindArgs (PySem.W.fnOf x qual (defArgs st) (defBody st) (defScope st) .none kV doc pm an cdv ct) ⟨[a], ks.zip us⟩ = pure (ps.zip (a :: perm π us))) : OwnNames KF fd ps ks π := fun s a us hl => by
  obtain ⟨oc, od, kV, doc, pm, an, cdv, ct, osl, rfl, lk, hcd⟩ := F.ex
  exact .of_eq (h kV doc pm an cdv ct a us hl)
end
end ML

namespace ML
open PySem Spec PyProof.Rows L2
/-! ### defs with defaults -/
structure FunD (K : PySem.W.Frag) (x qual : Str) (st : Stmt) (T f : Addr) (fd : FuncData) : Prop where
  ex : ∃ (oc : Value) (od : Option Addr) (kV doc pm : Value) (an : Option Addr) (cdv ct : Value) (osl : Array (Option Value)),
    fd = PySem.W.fnOf x qual (defArgs st) (defBody st) (defScope st) (.ref T) kV doc pm an cdv ct ∧ K.lookup f = some ⟨oc, od, .func fd, osl⟩ ∧ PySem.W.codeIn K cdv qual = true
  kp : PySem.W.keepIn K (.ref f) = true
/-- how its arguments bind, the last ones by default -/
theorem FunD.binds {K : PySem.W.Frag} {x qual : Str} {st : Stmt} {T f : Addr} {fd : FuncData} {ps : List Str} {ds : List Value} {o : Obj} {items : Array Value} {n : Nat} (F : FunD K x qual st T f fd) (lk : K.lookup T = some o) (hs : o.data = .seq items n)
    (h : ∀ (kV doc pm : Value) (an : Option Addr) (cdv ct : Value) (us : List Value), (us ++ ds).length = ps.length → ∃ k : Option (Array Value) → Sem (List (Str × Value)),
      bindArgs (PySem.W.fnOf x qual (defArgs st) (defBody st) (defScope st) (.ref T) kV doc pm an cdv ct) ⟨us, []⟩ = (seqItems? (.ref T) >>= k) ∧ k (some items) = pure (ps.zip (us ++ ds))) : Binds K fd ps ds := fun s us X hl => by
  obtain ⟨oc, od, kV, doc, pm, an, cdv, ct, osl, rfl, lk2, hcd⟩ := F.ex
  obtain ⟨k, h1, h2⟩ := h kV doc pm an cdv ct us hl
  exact PySem.W.binds_K X rfl lk hs h1 h2
end ML

namespace ML
open PySem Spec PyProof.Rows L2
/-! ## dicts whose keys are ints -/
section
variable {α β γ : Type}
def hasD (xs : List (Int × α)) (k : Int) : Bool := xs.any fun p => decide (p.1 = k)
def gotD (xs : List (Int × α)) (k : Int) : Option α := (xs.find? fun p => decide (p.1 = k)).map (·.2)
def putD (xs : List (Int × α)) (k : Int) (x : α) : List (Int × α) := if hasD xs k = true then xs.map (fun p => if p.1 = k then (p.1, x) else p) else xs ++ [(k, x)]
def oPut (xs : List (Int × α)) (k : Int) (x : α) : Option (List (Int × α)) := if xs.length < sizeLine then some (putD xs k x) else none
/-- a table's rows -/
abbrev Row (r : R α) (F : Hp) : (Int × α) → (Key × V) → Prop := fun x y => y.1 = Sum.inl x.1 ∧ r.p x.2 F y.2
theorem rows_mono {r : R α} {F F' : Hp} {xs : List (Int × α)} {kvs : List (Key × V)} (e : Same F F') (h : All2 (Row r F) xs kvs) : All2 (Row r F') xs kvs := h.imp fun _ _ q => ⟨q.1, r.mono e q.2⟩
/-- a dict that stands still (locked for good); a dict that changes -/
def rDic (r : R α) : R (List (Int × α)) := ⟨fun xs F v => xs.length ≤ sizeLine ∧ ∃ a od kvs, v = .ref a ∧ F a = some (.frz od (.dK kvs)) ∧ All2 (Row r F) xs kvs,
  fun {_ _ _ _} e ⟨h0, a, od, kvs, h1, h2, h3⟩ => ⟨h0, a, od, kvs, h1, e _ _ h2, rows_mono e h3⟩⟩
def cDic (r : R α) (xs : List (Int × α)) : Cl := ⟨fun F o => xs.length ≤ sizeLine ∧ ∃ kvs, o = .dK kvs ∧ All2 (Row r F) xs kvs, fun {_ _ _} e ⟨h0, kvs, h1, h2⟩ => ⟨h0, kvs, h1, rows_mono e h2⟩⟩
/-- the new dict of an expression is locked -/
def tFrz (t : TE) : TE := fun σ H Q => t σ H fun x H1 => ∃ d u, x = .ref d ∧ H1 d = some u ∧ Mut (some u) ∧ ∀ od, Q x (upd H1 d (.frz od u))
end
section
variable {nx bk ct : L2.St → Hp → Prop} {rt : VK}
variable {W : Wd} {G : Gam} {T : Tms} {cs : Cells} {K : Sl → Cells → Prop} {t : TA} {ta tb tc te to ti td tk : TE} {tt : TT} {KF : PySem.W.Frag}
/-- {k: v for x in ..}: nothing changes meanwhile -/
def dcO {α γ : Type} (f : α → Option (Int × γ)) : List α → List (Int × γ) → Option (List (Int × γ))
  | [], d => some d
  | x :: xs, d => match f x with
    | none => none
    | some (k, y) => dcO f xs (putD d k y)
end
end ML

namespace ML
open PySem Spec PyProof.Rows L2 StX
/-! ## objects that change: their instances and their lists and dicts are cells -/
section
variable {nx bk ct : L2.St → Hp → Prop} {rt : VK}
variable {W : Wd} {G : Gam} {T : Tms} {cs : Cells} {K : Sl → Cells → Prop} {t : TA} {ta tb tc te to ti td tk : TE} {tt : TT} {KF : PySem.W.Frag}
theorem Core.perm {F H : Hp} {cs' : Cells} (c : Core W F cs H) (p : cs.Perm cs') : Core W F cs' H :=
  ⟨c.f0, c.fh, c.bh, c.bf, ((p.map _).nodup_iff).mp c.nd, fun x hx => c.cell x (p.mem_iff.mpr hx)⟩
theorem Sta.perm {s : L2.St} {H : Hp} {cs' : Cells} (h : Sta W G T cs s H) (p : cs.Perm cs') : Sta W G T cs' s H := let ⟨F, c, a, b⟩ := h; ⟨F, c.perm p, a, b⟩
theorem perm_front {cs : Cells} {j : Nat} {x : Addr × Cl} (h : cs[j]? = some x) : cs.Perm (x :: cs.eraseIdx j) := by
  induction cs generalizing j with
  | nil => simp at h
  | cons y ys ih =>
    cases j with
    | zero => simp at h; subst h; exact List.Perm.refl _
    | succ j =>
      have h' : ys[j]? = some x := by simpa using h
      exact ((ih h').cons y).trans (List.Perm.swap x y _)
theorem _root_.ML.RoomG.u1 {k : Nat} {A : Around} (r : RoomG k A) : A.units + 1 < cLine := by have := r.units; omega
/-- an __init__ that leaves the instance and one more cell -/
def spI {ι β : Type} (C : Addr) (A : Addr → ι → List Sl) (m : ι → Option β) (co : Addr → Addr → β → Cells) : Sp := fun vs H Q _ =>
  ∃ (i : Addr × ι) (b : β) (W : Wd), m i.2 = some b ∧ Core W W.F [(i.1, cObj C [])] H ∧ Args W.F (A i.1 i.2) vs ∧ ∀ d, Rt Q W (rNon.at ()) (co i.1 d b)
/-! ## while (x := e) is None: .. -/
def walO {β γ : Type} (f : β → Option (Option γ × β)) (g : β → Option β) : Nat → β → Option (γ × β)
  | 0, _ => none
  | n + 1, b => match f b with
    | none => none
    | some (some x, b') => some (x, b')
    | some (none, b') => match g b' with
      | none => none
      | some b'' => walO f g n b''
end
end ML

namespace ML
open PySem Spec PyProof.Rows L2 StX
/-! ## a, *b = a list -/
section
variable {prog : Program} {w : World} {A : Around} {E : Value → Shared → Prop} {s : Shared}
open PySem.W in
end
/-- v is a list that n targets take, the one at i the rest -/
def gStar (K : PySem.W.Frag) (n i : Nat) (t : TGs) : TG := fun v σ H Q => ∃ a xs, v = .ref a ∧ SqL K H a xs ∧ n ≤ xs.length + 1 ∧ xs.length ≤ 16384 ∧ ∀ p, H p = none → t (xs.take i ++ [.ref p] ++ (xs.drop i).drop (xs.length + 1 - n)) σ (upd H p (.lst ((xs.drop i).take (xs.length + 1 - n)))) Q
section
variable {X : Cx} {pos : Pos}
end
section
variable {nx bk ct : L2.St → Hp → Prop} {rt : VK}
variable {W : Wd} {G : Gam} {T : Tms} {cs : Cells} {te : TE} {KF : PySem.W.Frag}
/-- the first item and the others -/
def oFirst {α : Type} (xs : List α) : Option (α × List α) := match xs with
  | [] => none
  | x :: r => if xs.length ≤ 16384 then some (x, r) else none
end
end ML

namespace ML
open PySem Spec PyProof.Rows L2 StX
section
variable {P : Program} {w : World} {A : Around} {E : Value → Shared → Prop} {s : Shared}
end
def tSortSetT (K : PySem.W.Frag) (t : TE) : TE := fun σ H Q => t σ H fun x H1 => ∃ (l : Addr) (L : Rows), x = V.ref l ∧ SqT K H1 l (L.map fun p => V.ref p.1) ∧ (∀ p ∈ L, Dp K H1 (.ref p.1) p.2.data ∧ numK p.2 = true ∧ p.2.depth ≤ 8) ∧ L.length < 1200 ∧ Alike (kys L) ∧
  ∀ (M : Rows) (p : Addr), (∀ q ∈ M, q ∈ L) → (∀ q ∈ L, q.2 ∈ kys M) → M.Pairwise (fun q r => ltK q.2 r.2 = true) → H1 p = none → Q (.ref p) (upd H1 p (.lst (M.map fun q => V.ref q.1)))

section
variable {X : Cx}
end
section
variable {nx bk ct : L2.St → Hp → Prop} {rt : VK}
variable {W : Wd} {G : Gam} {T : Tms} {cs : Cells} {K : Sl → Cells → Prop} {t : TA} {ta tb te : TE} {KF : PySem.W.Frag}
end
/-! ## x in data -/
mutual
theorem plain_of_lay : ∀ d : PyData, d.canLay0 = true → d.plain = true
  | .none, _ => rfl
  | .bool _, _ => rfl
  | .int _, _ => rfl
  | .str _, _ => rfl
  | .list xs, h => by
    have h : PyData.canLayAll0 xs = true := by simpa [PyData.canLay0] using h
    show PyData.plainAll xs = true
    exact plainAll_of_lay xs h
  | .tuple xs, h => by
    have h : PyData.canLayAll0 xs = true := by simpa [PyData.canLay0] using h
    show PyData.plainAll xs = true
    exact plainAll_of_lay xs h
  | .dict _, h => by simp [PyData.canLay0] at h
theorem plainAll_of_lay : ∀ xs : List PyData, PyData.canLayAll0 xs = true → PyData.plainAll xs = true
  | [], _ => rfl
  | x :: xs, h => by
    have h : x.canLay0 = true ∧ PyData.canLayAll0 xs = true := by simpa [PyData.canLayAll0] using h
    show (x.plain && PyData.plainAll xs) = true
    rw [plain_of_lay x h.1, plainAll_of_lay xs h.2]
    rfl
end
def rInDT (K : PySem.W.Frag) (ng : Bool) : R2 := fun x y H Q => ∃ d ds, Dp K H x d ∧ (Dp K H y (.tuple ds) ∨ Dp K H y (.list ds)) ∧ d.canLay0 = true ∧ PyData.canLayAll0 ds = true ∧ d.depth ≤ 60 ∧ Q (.bl (if ng = true then !ds.any fun z => PyData.eqv z d else ds.any fun z => PyData.eqv z d)) H
section
variable {W : Wd} {G : Gam} {T : Tms} {cs : Cells} {K : Sl → Cells → Prop} {ta tb te : TE} {KF : PySem.W.Frag}
def inD {α : Type} [DecidableEq α] (x : α) (xs : List α) : Bool := decide (x ∈ xs)
/-! ## bools are or are not the same -/
/-! ## how many different ints -/
def dis : List Int → List Int
  | [] => []
  | x :: xs => if x ∈ xs then dis xs else x :: dis xs
def tLenSetT (K : PySem.W.Frag) (ta : TE) : TE := fun σ H Q => ta σ H fun x H1 => ∃ (l : Addr) (ns : List Int), x = .ref l ∧ SqT K H1 l (ns.map V.int) ∧ ns.length ≤ 4000 ∧ Q (.int ((dis ns).length : Nat)) H1
def oLenSet (ns : List Int) : Option Int := if ns.length ≤ 4000 then some ((dis ns).length : Int) else none
end
end ML

namespace ML
open PySem Spec PyProof.Rows L2 StX
/-! ## sorted(set(t)), t a tuple of ints -/
def tSortSetI (K : PySem.W.Frag) (ta : TE) : TE := fun σ H Q => ta σ H fun x H1 => ∃ (l : Addr) (ns : List Int), x = .ref l ∧ SqT K H1 l (ns.map V.int) ∧ ns.length < 64 ∧
  ∀ (ms : List Int) (p : Addr), ms.Pairwise (· < ·) → (∀ k, k ∈ ms ↔ k ∈ ns) → H1 p = none → Q (.ref p) (upd H1 p (.lst (ms.map V.int)))
/-- ascending, each once -/
def SI (ns : List Int) : List Int := (dis ns).mergeSort fun a b => decide (a ≤ b)
def oSortI (ns : List Int) : Option (List Int) := if ns.length < 64 then some (SI ns) else none
section
variable {W : Wd} {G : Gam} {T : Tms} {cs : Cells} {K : Sl → Cells → Prop} {ta : TE} {KF : PySem.W.Frag}
end
end ML

namespace ML
open PySem Spec PyProof.Rows PySem.Calls PySem.W L2
/-! ## sorted(t), t a tuple -/
section
variable {prog : Program} {w : World} {A : Around} {E : Value → Shared → Prop} {s : Shared} {β : Type} {vs : List Value} {bs : List β} {enc : β → PyData} {R : Value → β → Prop}
end
section
variable {P : Program} {w : World} {fs ex : List Addr} {H : Hp} {h h' : Heap} {a : Addr} {o : HO}
end
def rSortT (K : PySem.W.Frag) : List V → Hp → VK → Prop := fun vs H Q => ∃ (α : Type) (a : Addr) (us : List V) (bs : List α) (d : α → PyData), vs = [V.ref a] ∧ SqT K H a us ∧ DpAll K H us (bs.map d) ∧ SortOk (bs.map d) = true ∧ (∀ b ∈ bs, (d b).depth ≤ 60) ∧ bs.length ≤ sizeLine ∧
  ∀ (ws : List V) (p : Addr), All2 (fun b u => (u, b) ∈ us.zip bs) (bs.mergeSort (PySem.W.dataLe false d)) ws → H p = none → Q (.ref p) (upd H p (.lst ws))
section
variable {W : Wd} {G : Gam} {T : Tms} {cs : Cells} {K : Sl → Cells → Prop} {KF : PySem.W.Frag} {t : TA} {ta : TE}
/-! ## sorted(set(xs)), xs a list of pairs of ints -/
def kTwo : RKey (rPair rInt rInt) where
  k := fun x => .tup [.num x.1, .num x.2]
  ok := fun {K F H a v} h sm => ⟨by obtain ⟨p, u, w, rfl, _, _, _⟩ := h; exact ⟨p, rfl⟩, by
    have := (ePair eInt eInt).ok (K := K) h sm
    simp only [NestedKey.data, NestedKey.datas]
    exact this⟩
  nm := fun a => by simp only [numK, numKs, Bool.and_self]
  dp := fun a => by simp only [NestedKey.depth, NestedKey.depthAll]; decide
  inj := fun a b e => by
    injection e with e
    injection e with e1 e2
    injection e1 with e1
    injection e2 with e2 _
    injection e2 with e2
    exact Prod.ext e1 e2
def oSortTwo (xs : List (Int × Int)) : Option (List (Int × Int)) := if xs.length < 1200 then some (sortK kTwo.k xs) else none
/-! ## list(xs), xs a list that stands still -/
theorem e_listLC {t : TA} (h : EvA t W G T cs fun sls cs1 => ∃ (α : Type) (r : R α) (xs : List α), sls = [(rLst r).at xs] ∧ ∀ p, K (sRef p) (cs1 ++ [(p, cLst r xs)])) : Ev (tCB (rListOf KF) t) W G T cs K := fun s H st Q q => by
  refine h s H st _ fun sls cs1 ⟨α, r, xs, e, k⟩ vs H1 ⟨F, c, sg, tm, ar⟩ => ?_
  subst e
  obtain ⟨v, rfl, hz, a, us, rfl, hF, hA⟩ := args1 ar
  exact ⟨a, us, rfl, .inl (SqL.of (c.fh _ _ hF)), fun l hl => q _ _ (k l) _ _ ⟨F, c.newCell hl ⟨hz, us, rfl, hA⟩, sg, tm.cons rfl⟩⟩
end
end ML

/-! a generator that sleeps while other code runs stays as it is -/
namespace ML
open PySem PySem.Spec PyProof.Rows L2
open Sem (wp)

/-- the same generator, whose code is stuck -/
def hush : GenState → GenState
  | .suspended _ l c p fs cl => .suspended (fun _ => .unsupported "asleep") l c p fs cl
  | x => x
abbrev noG (fs : List PySem.Frame) : Prop := splitAtGen fs = none
abbrev Sleepers := Nat → Option GenState
def rouse (θ : Sleepers) (s : Shared) : Shared := { s with gens := s.gens.mapIdx fun i x => (θ i).getD x }
structure Hushed (θ : Sleepers) (s : Shared) : Prop where
  at' : ∀ i x, θ i = some x → s.gens[i]? = some (hush x)
  susp : ∀ i x, θ i = some x → x.status = .suspended
  fr : ∀ i k l c p fs cl, s.gens[i]? = some (.suspended k l c p fs cl) → θ i = none → noG fs
theorem hush_status (x : GenState) : (hush x).status = x.status := by cases x <;> rfl
theorem Hushed.none_of {θ : Sleepers} {s : Shared} (h : Hushed θ s) {i : Nat} {x : GenState} (e : s.gens[i]? = some x) (hx : x.status ≠ .suspended) : θ i = none := by
  cases q : θ i with
  | none => rfl
  | some y =>
    have := h.at' i y q
    rw [e] at this
    cases this
    exact absurd ((hush_status y).trans (h.susp i y q)) hx
theorem Hushed.out {θ : Sleepers} {s : Shared} (h : Hushed θ s) {i : Nat} (hi : s.gens.size ≤ i) : θ i = none := by
  cases q : θ i with
  | none => rfl
  | some y =>
    have := h.at' i y q
    rw [Array.getElem?_eq_none hi] at this
    cases this
theorem Hushed.setGen {θ : Sleepers} {s : Shared} (h : Hushed θ s) {g : Nat} {x : GenState} (hg : θ g = none) (hx : ∀ k l c p fs cl, x = .suspended k l c p fs cl → noG fs) : Hushed θ (s.setGen g x) where
  at' i y e := by
    have ne : g ≠ i := fun z => by subst z; rw [hg] at e; cases e
    show (s.gens.setIfInBounds g x)[i]? = _
    rw [Array.getElem?_setIfInBounds_ne ne]
    exact h.at' i y e
  susp := h.susp
  fr i k l c p fs cl e n := by
    have e' : (s.gens.setIfInBounds g x)[i]? = some (.suspended k l c p fs cl) := e
    rw [Array.getElem?_setIfInBounds] at e'
    split at e'
    · split at e'
      · cases e'; exact hx _ _ _ _ _ _ rfl
      · cases e'
    · exact h.fr i k l c p fs cl e' n
theorem Hushed.push {θ : Sleepers} {s : Shared} (h : Hushed θ s) (c : Code) : Hushed θ { s with gens := s.gens.push (.fresh c) } where
  at' i y e := by
    have := h.at' i y e
    show (s.gens.push _)[i]? = _
    obtain ⟨hl, he⟩ := Array.getElem?_eq_some_iff.mp this
    rw [Array.getElem?_push_lt hl, he]
  susp := h.susp
  fr i k l c' p fs cl e n := by
    have e' : (s.gens.push (.fresh c))[i]? = some (.suspended k l c' p fs cl) := e
    rw [Array.getElem?_push] at e'
    split at e'
    · cases e'
    · exact h.fr i k l c' p fs cl e' n
def EndOk : PySem.End → Prop
  | .susp _ _ _ _ _ _ fs => noG fs
  | _ => True
theorem EndOk.gen {e : PySem.End} (h : EndOk e) : ∀ k l c p fs cl, e.genState = .suspended k l c p fs cl → noG fs := by
  intro k l c p fs cl q
  cases e with
  | ret r => cases q
  | susp v g l₀ k₀ c₀ p₀ fs₀ => cases q; exact h

/-- all that sleep -/
def asleep (s : Shared) : Sleepers := fun i => match s.gens[i]? with
  | some (.suspended k l c p fs cl) => some (.suspended k l c p fs cl)
  | _ => none
def hushed (s : Shared) : Shared := { s with gens := s.gens.map hush }
end ML

/-! a generator and its consumer: what each side knows when hands change -/
namespace ML
open PySem PySem.Spec PyProof.Rows L2

section
variable {P : Program} {w : World} {H H' G : Hp} {h h' : Heap} {a : Addr} {o : HO}
theorem ObjOk.there (x : ObjOk P w H h a o) : ∃ ob, h.get? a = some ob := by
  cases o with
  | lst xs => obtain ⟨_, _, _, _, e⟩ := x; exact ⟨_, e⟩
  | tup xs => obtain ⟨_, _, _, ob, e, _⟩ := x; exact ⟨_, e⟩
  | dK kvs => obtain ⟨_, _, _, _, ob, _, _, e, _⟩ := x; exact ⟨_, e⟩
  | dT kvs => obtain ⟨_, _, _, _, ob, _, _, e, _⟩ := x; exact ⟨_, e⟩
  | set S n => obtain ⟨ob, _, _, _, e, _⟩ := x; exact ⟨_, e⟩
  | ins C dx fs => obtain ⟨_, _, _, e, _⟩ := x; exact ⟨_, e⟩
  | own y => exact x
  | xd fs => obtain ⟨_, ⟨ob, _, _, e, _⟩, _⟩ := x; exact ⟨_, e⟩
  | rng lo hi => obtain ⟨_, _, _, e⟩ := x; exact ⟨_, e⟩
  | frz ob u => obtain ⟨e, _⟩ := x; exact ⟨_, e⟩
  | tbl ps => exact ⟨_, (show h.get? a = some _ from x)⟩
  | met f y => exact ⟨_, (show h.get? a = some _ from x)⟩
  | ext φ => obtain ⟨_, q, _⟩ := x; exact q
theorem ObjOk.swap (x : ObjOk P w H h a o) (hi : ∀ C dx fs, o = .ins C dx fs → H' dx = some (.own a)) (nT : ∀ kvs, o ≠ .dT kvs) (nF : ∀ ob u, o ≠ .frz ob u) : ObjOk P w H' h a o := by
  cases o with
  | lst xs => obtain ⟨z, its, n, r, e⟩ := x; exact ⟨z, its, n, r, e⟩
  | tup xs => obtain ⟨z, its, r, q⟩ := x; exact ⟨z, its, r, q⟩
  | dK kvs => obtain ⟨z, y, vs, r, q⟩ := x; exact ⟨z, y, vs, r, q⟩
  | dT kvs => exact absurd rfl (nT kvs)
  | set S n => exact x
  | ins C dx fs => obtain ⟨_, z, ne, e, q⟩ := x; exact ⟨hi C dx fs rfl, z, ne, e, q⟩
  | own y => exact x
  | xd fs => exact x
  | rng lo hi => exact x
  | frz ob u => exact absurd rfl (nF ob u)
  | tbl ps => exact x
  | met f y => exact x
  | ext φ => exact x
theorem HOk.there (x : HOk P w H h) (e : H a = some o) : ∃ ob, h.get? a = some ob := ObjOk.there (x a o e)

/-- known things that hang together -/
structure Whole (G : Hp) : Prop where
  noT : ∀ b kvs, G b ≠ some (.dT kvs)
  noF : ∀ b ob u, G b ≠ some (.frz ob u)
  own : ∀ b a, G b = some (.own a) → ∃ C fs, G a = some (.ins C b fs)
  ins : ∀ a C dx fs, G a = some (.ins C dx fs) → G dx = some (.own a)
theorem Whole.hok (q : Whole G) (sm : Same G H) (x : HOk P w H h) : HOk P w G h := fun a o e =>
  ObjOk.swap (x a o (sm a o e)) (fun C dx fs z => q.ins a C dx fs (by rw [e, z])) (fun kvs z => q.noT a kvs (by rw [e, z])) fun ob u z => q.noF a ob u (by rw [e, z])
/-- the part that hangs together -/
def lean (M : Hp) : Hp := fun b => match M b with
  | some (.dT _) => none
  | some (.frz _ _) => none
  | some (.own a) => match M a with
    | some (.ins _ d _) => if d = b then some (.own a) else none
    | _ => none
  | o => o
theorem lean_sub {M : Hp} : Same (lean M) M := fun b x e => by
  unfold lean at e
  split at e
  · cases e
  · cases e
  · rename_i a q
    split at e
    · split at e
      · cases e; exact q
      · cases e
    · cases e
  · exact e
theorem lean_ins {M : Hp} {a C dx fs} (e : M a = some (.ins C dx fs)) : lean M a = some (.ins C dx fs) := by unfold lean; simp only [e]
theorem lean_tup {M : Hp} {a xs} (e : M a = some (.tup xs)) : lean M a = some (.tup xs) := by unfold lean; simp only [e]
theorem lean_lst {M : Hp} {a xs} (e : M a = some (.lst xs)) : lean M a = some (.lst xs) := by unfold lean; simp only [e]
theorem lean_own {M : Hp} {a b C fs} (e : M b = some (.own a)) (e2 : M a = some (.ins C b fs)) : lean M b = some (.own a) := by unfold lean; simp only [e, e2, if_true]
theorem lean_whole {M : Hp} (h : ∀ a C dx fs, M a = some (.ins C dx fs) → M dx = some (.own a)) : Whole (lean M) where
  noT b kvs e := by
    have := lean_sub b _ e
    unfold lean at e
    simp only [this] at e
    cases e
  noF b ob u e := by
    have := lean_sub b _ e
    unfold lean at e
    simp only [this] at e
    cases e
  own b a e := by
    have q := lean_sub b _ e
    unfold lean at e
    simp only [q] at e
    split at e
    · rename_i C d fs q2
      split at e
      · rename_i z; subst z; exact ⟨C, fs, lean_ins q2⟩
      · cases e
    · cases e
  ins a C dx fs e := by
    have q := lean_sub a _ e
    exact lean_own (h a C dx fs q) q
theorem Whole.lean_of (q : Whole G) {M : Hp} (sm : Same G M) : Same G (lean M) := fun b x e => by
  have e2 := sm b x e
  cases x with
  | dT kvs => exact absurd e (q.noT b kvs)
  | frz ob u => exact absurd e (q.noF b ob u)
  | own a => obtain ⟨C, fs, z⟩ := q.own b a e; exact lean_own e2 (sm a _ z)
  | _ => unfold lean; simp only [e2]
end
def LeanS (sl : Sl) : Prop := ∀ M v, sl.p M v → sl.p (lean M) v
def LeanR {α : Type} (r : R α) : Prop := ∀ x, LeanS (r.at x)
def LeanG (G : Gam) : Prop := ∀ (i : Nat) (sl : Sl), G[i]? = some (some sl) → LeanS sl

/-! ### the generator's context -/
/-- the heap below L -/
def cut (L : Nat) (s : Shared) : Shared := { s with heap := { s.heap with objs := s.heap.objs.extract 0 L } }
theorem cut_size {L : Nat} {s : Shared} (h : L ≤ s.heap.objs.size) : (cut L s).heap.objs.size = L := by
  show (s.heap.objs.extract 0 L).size = L
  rw [Array.size_extract]; omega
theorem cut_get {L b : Nat} {s : Shared} (h : b < L) : (cut L s).heap.get? b = s.heap.get? b := by
  show (match (s.heap.objs.extract 0 L)[b]? with | some ⟨_, _, .freed, _⟩ => none | o => o) = (match s.heap.objs[b]? with | some ⟨_, _, .freed, _⟩ => none | o => o)
  have e : (s.heap.objs.extract 0 L)[b]? = s.heap.objs[b]? := by
    by_cases hb : b < s.heap.objs.size
    · rw [Array.getElem?_extract, if_pos (show b < min L s.heap.objs.size - 0 from by omega), Nat.zero_add]
    · rw [Array.getElem?_eq_none (show s.heap.objs.size ≤ b from by omega), Array.getElem?_eq_none (by rw [Array.size_extract]; omega)]
  rw [e]
theorem cut_lt {L b : Nat} {s : Shared} {o : Obj} (e : (cut L s).heap.get? b = some o) : b < L ∧ s.heap.get? b = some o := by
  have h := Heap.lt_size e
  have h' : b < (s.heap.objs.extract 0 L).size := h
  rw [Array.size_extract, Nat.sub_zero] at h'
  have hb : b < L := Nat.lt_of_lt_of_le h' (Nat.min_le_left _ _)
  rw [cut_get hb] at e
  exact ⟨hb, e⟩
/-- the others' young things, as they stand -/
def froz (G : Hp) (L : Nat) (O : List Addr) (s : Shared) : Hp := fun b => if (G b).isSome = true ∨ b < L ∨ b ∈ O then none else (s.heap.get? b).map fun o => .frz o (.own b)
def both (G B : Hp) : Hp := fun b => match G b with | some o => some o | none => B b
theorem both_l {G B : Hp} : Same G (both G B) := fun b x e => by unfold both; rw [e]
theorem both_r {G L O s} : Same (froz G L O s) (both G (froz G L O s)) := fun b x e => by
  have hG : G b = none := by
    unfold froz at e
    split at e
    · cases e
    · rename_i h; cases q : G b with
      | none => rfl
      | some y => exact absurd (.inl (by rw [q]; rfl)) h
  unfold both; rw [hG]; exact e
theorem froz_some {G : Hp} {L : Nat} {O : List Addr} {s : Shared} {b : Addr} {o : Obj} (hG : G b = none) (hL : L ≤ b) (hO : b ∉ O) (e : s.heap.get? b = some o) : froz G L O s b = some (.frz o (.own b)) := by
  unfold froz
  rw [if_neg (by rw [hG]; simp; exact ⟨hL, hO⟩), e]; rfl
theorem froz_of {G : Hp} {L : Nat} {O : List Addr} {s : Shared} {b : Addr} {x : HO} (e : froz G L O s b = some x) : G b = none ∧ L ≤ b ∧ b ∉ O ∧ ∃ o, s.heap.get? b = some o ∧ x = .frz o (.own b) := by
  unfold froz at e
  split at e
  · cases e
  · rename_i h
    cases q : s.heap.get? b with
    | none => rw [q] at e; cases e
    | some o =>
      rw [q] at e
      cases e
      refine ⟨?_, Nat.le_of_not_lt fun z => h (.inr (.inl z)), fun z => h (.inr (.inr z)), o, rfl, rfl⟩
      cases r : G b with
      | none => rfl
      | some y => exact absurd (.inl (by rw [r]; rfl)) h
def gx (P : Program) (w : World) (K : PySem.W.Frag) (mg : Str → Option Value) (base : Heap) (N : List Str) (qual : Str) (scope : Scope) (f : Addr) (cd : Value) (A : Around) (outer : List Env) (L : Addr) (sc : Shared) (H : Hp) : Cx where
  prog := P
  w := w
  K := K
  mg := mg
  base := base
  A := A.deeper (envOfC qual scope L f cd)
  N := N
  s_0 := sc
  H_0 := H
  env := envOfC qual scope L f cd
  outer := outer
  stack := envOfC qual scope L f cd :: outer
  ex := []
  fn := fun _ => true
  calm := true
  pn := []
  xe := fun _ _ => False
/-- a def's names, none of them in a cell -/
structure PlainScope (N ps : List Str) (sc : Scope) : Prop where
  g : GScope N ps sc
  flat : ∀ y ∈ sc.names, y.2 ≠ .cell
theorem cells_nil : ∀ {l : List (Str × NameKind)} {n : Nat}, (∀ y ∈ l, y.2 ≠ .cell) → cellsFrom n l [] = []
  | [], _, _ => rfl
  | (x, k) :: r, n, h => by
    have hk : (k == NameKind.cell) = false := by
      have := h (x, k) List.mem_cons_self
      cases k <;> first | rfl | exact absurd rfl this
    show (if (k == NameKind.cell) = true then _ else _) = _
    rw [hk]
    exact cells_nil fun y hy => h y (List.mem_cons_of_mem _ hy)
theorem PlainScope.nocell {N ps sc} (S : PlainScope N ps sc) {qual L f cd x} : (envOfC qual sc L f cd).cells.lookup x = none := by
  show (cellsFrom (L + 1) sc.names []).lookup x = none
  rw [cells_nil S.flat]; rfl
theorem PlainScope.kinds {N ps sc} (S : PlainScope N ps sc) {qual L f cd x} : (envOfC qual sc L f cd).kindOf x ≠ some .cell ∧ (envOfC qual sc L f cd).kindOf x ≠ some .free := by
  refine ⟨fun h => ?_, fun h => ?_⟩
  · exact absurd rfl (S.flat _ (PySem.mem_of_lookup (show sc.names.lookup x = some .cell from h)))
  · exact absurd rfl (S.g.nofree _ (PySem.mem_of_lookup (show sc.names.lookup x = some .free from h)))
end ML

/-! a generator and its consumer: hands change -/
namespace ML
open PySem PySem.Spec PyProof.Rows L2

def mix (s : Shared) (A B : Hp) : Hp := fun b => if (s.heap.get? b).isSome = true then A b else B b
theorem mix_old {s : Shared} {A B : Hp} {b : Addr} {o : Obj} (e : s.heap.get? b = some o) : mix s A B b = A b := by unfold mix; rw [e]; rfl
theorem mix_new {s : Shared} {A B : Hp} {b : Addr} (e : s.heap.get? b = none) : mix s A B b = B b := by unfold mix; rw [e]; rfl
theorem none_sub {A B : Hp} (h : Same A B) {b : Addr} (e : B b = none) : A b = none := by
  cases q : A b with
  | none => rfl
  | some x => rw [h b x q] at e; cases e
/-- the names of a frame whose object is o -/
def LocAt (N : List Str) (scope : Scope) (σ : L2.St) (o : Obj) : Prop :=
  ∃ es ep m, o.data = .dict es ep ∧ (∀ h : Heap, ∀ a, h.get? a = some o → h.Ns a m) ∧ ∀ (i : Nat) (x : Str) (v : V), N[i]? = some x → σ[i]? = some (some v) → Vis scope x → ∃ u, RelV v u ∧ m x = some u

/-- what never changes: the consumer, the generator's frame at L -/
structure Pact (X : Cx) (N ps : List Str) (scope : Scope) (A : Around) (L : Addr) : Prop where
  sc : PlainScope N ps scope
  hd : A.handled = none
  fr : A.frames = some X.stack
  old : L ∈ X.ex ∨ X.s_0.heap.objs.size ≤ L
  bl : X.base.objs.size ≤ L
  freed : ∀ b, L < b → X.s_0.heap.get? b = none → b ∈ X.ex ∨ X.s_0.heap.objs.size ≤ b
  low : ∀ b ∈ frs X.stack, b < L
structure Sleep (X : Cx) (pins : List (Addr × Obj)) (L : Addr) (G : Hp) (oL : Obj) (ip : List (Addr × Obj)) (σc : L2.St) (Hc : Hp) (s : Shared) : Prop where
  inv : Inv X (pins ++ (L, oL) :: ip) σc Hc s
  whole : Whole G
  sub : Same G Hc
  up : ∀ p ∈ ip, L < p.1
  late : ∀ p ∈ ip, p.1 ∈ X.ex ∨ X.s_0.heap.objs.size ≤ p.1
  apart : ∀ p ∈ (L, oL) :: ip, ∀ q ∈ X.pn ++ pins, q.1 ≠ p.1
abbrev ads (L : Addr) (ip : List (Addr × Obj)) : List Addr := L :: ip.map (·.1)
/-- the generator's heap when it wakes -/
abbrev wakeH (L : Addr) (G : Hp) (ip : List (Addr × Obj)) (s : Shared) : Hp := both G (froz G L (ads L ip) s)
section
variable {X : Cx} {N ps : List Str} {scope : Scope} {A : Around} {L : Addr} {pins : List (Addr × Obj)} {G : Hp} {oL : Obj} {ip : List (Addr × Obj)} {σc σ : L2.St} {Hc : Hp} {s : Shared} {qual : Str} {f : Addr} {cd : Value}
theorem Sleep.own (S : Sleep X pins L G oL ip σc Hc s) {p : Addr × Obj} (hp : p ∈ (L, oL) :: ip) : s.heap.get? p.1 = some p.2 ∧ Hc p.1 = none ∧ p.1 ≠ X.env.locals ∧ p.1 ∉ X.fs ∧ ∀ v, p.2.data ≠ .cell v :=
  S.inv.pin p (List.mem_append_right _ (List.mem_append_right _ hp))
theorem Sleep.ownA (S : Sleep X pins L G oL ip σc Hc s) {b : Addr} (hb : b ∈ ads L ip) : ∃ o, (b, o) ∈ (L, oL) :: ip := by
  rcases List.mem_cons.mp hb with e | hb
  · exact ⟨oL, by rw [e]; exact List.mem_cons_self⟩
  · obtain ⟨p, hp, e⟩ := List.mem_map.mp hb
    exact ⟨p.2, List.mem_cons_of_mem _ (by rw [← e]; exact hp)⟩
theorem Sleep.lt (S : Sleep X pins L G oL ip σc Hc s) : L < s.heap.objs.size := Heap.lt_size (S.own List.mem_cons_self).1
theorem Sleep.nfs (S : Sleep X pins L G oL ip σc Hc s) {b : Addr} (hb : b ∈ ads L ip) : b ∉ frs X.stack := fun hm => by
  obtain ⟨o, ho⟩ := S.ownA hb
  obtain ⟨_, _, h3, h4, _⟩ := S.own ho
  rcases List.mem_cons.mp (S.inv.stkSub b hm) with e | hm
  · exact h3 e
  · exact h4 hm
theorem funs_cut {X : Cx} {s : Shared} {L : Addr} {base : Heap} : ∀ {l : List Env}, (∀ b ∈ frs l, b < L) → s.heap.FunFrames base l → (cut L s).heap.FunFrames base l
  | [], _, _ => trivial
  | env :: r, hl, ⟨hk, ⟨L', o, hf, hn, ho, hd⟩, hr⟩ => by
    have hL : L' ∈ frs (env :: r) := by unfold frs; rw [List.filterMap_cons, hf]; exact List.mem_cons_self
    refine ⟨hk, ⟨L', o, hf, hn, (cut_get (hl L' hL)).trans ho, hd⟩, funs_cut (X := X) (fun b hb => hl b ?_) hr⟩
    unfold frs
    rw [List.filterMap_cons, hf]
    exact List.mem_cons_of_mem _ hb
/-- the generator wakes -/
theorem Sleep.wake (S : Sleep X pins L G oL ip σc Hc s) (Z : Pact X N ps scope A L) (loc : LocAt N scope σ oL) (len : σ.length = N.length) :
    Inv (gx X.prog X.w X.K X.mg X.base N qual scope f cd A X.stack L (cut L s) (wakeH L G ip s)) ip σ (wakeH L G ip s) s := by
  have I := S.inv
  have hL := S.lt
  have bl : ∀ b o, X.base.get? b = some o → b < L := fun b o e => Nat.lt_of_lt_of_le (Heap.lt_size e) Z.bl
  have nG : ∀ {b}, Hc b = none → G b = none := fun e => none_sub S.sub e
  have nlow : ∀ {b}, b < L → Hc b = none → wakeH L G ip s b = none := fun {b} hb e => by
    show both G _ b = none
    unfold both froz
    rw [nG e]
    simp [hb]
  have nown : ∀ {b}, b ∈ ads L ip → wakeH L G ip s b = none := fun {b} hb => by
    obtain ⟨o, ho⟩ := S.ownA hb
    show both G _ b = none
    unfold both froz
    rw [nG (S.own ho).2.1]
    simp only [hb, or_true, if_true]
  have nc : ∀ (x : Str) (c : Addr), (envOfC qual scope L f cd).cells.lookup x = some c → False := fun x c e => by rw [Z.sc.nocell] at e; cases e
  refine ⟨⟨I.ok.mod, Z.sc.g.kind, rfl, rfl, Nat.le_of_eq (cut_size (Nat.le_of_lt hL)), fun _ _ _ e _ => (nc _ _ e).elim, fun x hx => ?_, fun _ _ _ e => (nc _ _ e).elim, fun _ => Z.hd, Around.frames_deeper Z.fr, .inr ⟨rfl, rfl⟩, fun b hb => absurd (show b ∈ ([] : List Addr) from hb) (by simp),
    fun b o e => ⟨(cut_get (bl b o e)).trans (I.bs b o e).1, nlow (bl b o e) (I.bs b o e).2⟩, ?_, fun b o _ hb => absurd (show b ∈ ([] : List Addr) from hb) (by simp), fun b hb => absurd (show b ∈ ([] : List Addr) from hb) (by simp), funs_cut (X := X) Z.low I.stack, fun b hb => nlow (Z.low b hb) (I.stkFree b hb)⟩,
    rfl, I.bare, Un.kept fun b u e => (cut_lt e).2, ?_, fun _ _ e => (nc _ _ e).elim, nown List.mem_cons_self, fun _ _ e => (nc _ _ e).elim, fun p hp => ?_, fun b x e => ?_, len⟩
  · rcases hx with hx | hx
    · exact absurd hx Z.sc.kinds.1
    · exact absurd hx Z.sc.kinds.2
  · show X.base.objs.size ≤ (cut L s).heap.objs.size
    rw [cut_size (Nat.le_of_lt hL)]
    exact Z.bl
  · obtain ⟨es, ep, m, hd, hm, hv⟩ := loc
    refine ⟨m, hm _ _ (S.own List.mem_cons_self).1, fun i x v h1 h2 h3 => ?_⟩
    obtain ⟨u, r, e⟩ := hv i x v h1 h2 h3
    refine ⟨u, r, .inl ⟨?_, e⟩⟩
    rcases h3 with h3 | h3 | h3
    · exact h3
    · exact absurd h3 (Z.sc.kinds (qual := qual) (L := L) (f := f) (cd := cd)).1
    · exact absurd h3 (Z.sc.kinds (qual := qual) (L := L) (f := f) (cd := cd)).2
  · have hp' : p ∈ ip := hp
    obtain ⟨h1, h2, h3, h4, h5⟩ := S.own (List.mem_cons_of_mem _ hp')
    have ha : p.1 ∈ ads L ip := List.mem_cons_of_mem _ (List.mem_map.mpr ⟨p, hp', rfl⟩)
    exact ⟨h1, nown ha, Nat.ne_of_gt (S.up p hp'), S.nfs ha, h5⟩
  · cases q : G b with
    | some y =>
      have e' : both G (froz G L (ads L ip) s) b = some x := e
      rw [both_l b y q] at e'
      cases e'
      exact ObjOk.swap (S.whole.hok S.sub I.hok b _ q) (fun C dx fs z => both_l dx _ (S.whole.ins b C dx fs (by rw [q, z]))) (fun kvs z => S.whole.noT b kvs (by rw [q, z])) fun ob u z => S.whole.noF b ob u (by rw [q, z])
    | none =>
      have e' : both G (froz G L (ads L ip) s) b = some x := e
      unfold both at e'
      rw [q] at e'
      obtain ⟨_, _, _, o, ho, rfl⟩ := froz_of e'
      exact ⟨ho, o, ho⟩

/-- the consumer's turn again -/
structure Back (X : Cx) (pins : List (Addr × Obj)) (L : Addr) (G : Hp) (ip : List (Addr × Obj)) (σc : L2.St) (Hc H' : Hp) (s s1 : Shared) : Prop where
  inv : Inv X pins σc (mix s Hc H') s1
  whole : Whole (lean (mix s G H'))
  more : Same G (lean (mix s G H'))
  sub : Same (lean (mix s G H')) (mix s Hc H')
  know : ∀ b o x, s.heap.get? b = some o → H' b = some x → G b = some x ∨ froz G L (ads L ip) s b = some x
theorem Sleep.back (S : Sleep X pins L G oL ip σc Hc s) (Z : Pact X N ps scope A L) {ip' : List (Addr × Obj)} {σ' : L2.St} {H' : Hp} {s1 : Shared}
    (J : Inv (gx X.prog X.w X.K X.mg X.base N qual scope f cd A X.stack L (cut L s) (wakeH L G ip s)) ip' σ' H' s1) (sG : Same G H') (sB : Same (froz G L (ads L ip) s) H') (hO : ∀ b ∈ ads L ip, H' b = none) :
    Back X pins L G ip σc Hc H' s s1 := by
  have I := S.inv
  have nG : ∀ {b}, Hc b = none → G b = none := fun e => none_sub S.sub e
  have noA : ∀ b : Addr, b ∉ (gx X.prog X.w X.K X.mg X.base N qual scope f cd A X.stack L (cut L s) (wakeH L G ip s)).ex := fun b z => absurd (show b ∈ ([] : List Addr) from z) (by simp)
  have wlow : ∀ {b}, b < L → G b = none → wakeH L G ip s b = none := fun {b} hb e => by
    show both G _ b = none
    unfold both froz
    rw [e]; simp [hb]
  have kept : ∀ b o, s.heap.get? b = some o → G b = none → b ∉ frs X.stack → b ∉ ads L ip → s1.heap.get? b = some o ∧ (H' b = none ∨ H' b = some (.frz o (.own b))) := fun b o e n hb hx => by
    by_cases hl : b < L
    · have e0 : (cut L s).heap.get? b = some o := (cut_get hl).trans e
      exact ⟨J.base.keep b o e0 (wlow hl n) hb (noA b), .inl (J.base.free b o e0 (wlow hl n) (noA b))⟩
    · have q := sB b _ (froz_some n (Nat.le_of_not_lt hl) hx e)
      exact ⟨(J.hok b _ q).1, .inr q⟩
  have frame : ∀ b o, s.heap.get? b = some o → b ∈ frs X.stack → (∃ sl, s1.heap.get? b = some { o with slots := sl }) ∧ H' b = none := fun b o e hb => by
    have hl := Z.low b hb
    have n := nG (I.stkFree b hb)
    have e0 : (cut L s).heap.get? b = some o := (cut_get hl).trans e
    exact ⟨J.base.slot b o e0 (wlow hl n) hb (noA b), J.base.free b o e0 (wlow hl n) (noA b)⟩
  have known : ∀ b o x, s.heap.get? b = some o → H' b = some x → (∀ ob u, x ≠ .frz ob u) → G b = some x := fun b o x e q nf => by
    cases r : G b with
    | some z => rw [sG b z r] at q; exact q
    | none =>
      by_cases h1 : b ∈ ads L ip
      · rw [hO b h1] at q; cases q
      · by_cases h2 : b ∈ frs X.stack
        · rw [(frame b o e h2).2] at q; cases q
        · rcases (kept b o e r h2 h1).2 with z | z
          · rw [z] at q; cases q
          · rw [z] at q; cases q; exact absurd rfl (nf _ _)
  have hcIn : ∀ b x, Hc b = some x → mix s Hc H' b = some x := fun b x e => by
    obtain ⟨ob, eo⟩ := HOk.there I.hok e
    rw [mix_old eo]; exact e
  have ownNo : ∀ b ∈ ads L ip, Hc b = none := fun b hb => let ⟨o, ho⟩ := S.ownA hb; (S.own ho).2.1
  have hok : HOk X.prog X.w (mix s Hc H') s1.heap := fun b x e => by
    cases eo : s.heap.get? b with
    | some o =>
      rw [mix_old eo] at e
      cases r : G b with
      | some z =>
        have ez := S.sub b z r
        rw [e] at ez
        cases ez
        exact ObjOk.swap (J.hok b x (sG b x r)) (fun C dx fs q => hcIn dx _ (S.sub dx _ (S.whole.ins b C dx fs (by rw [r, q])))) (fun kvs q => S.whole.noT b kvs (by rw [r, q])) fun ob u q => S.whole.noF b ob u (by rw [r, q])
      | none =>
        refine ObjOk.stay (I.hok b x e) (fun c u hc ec => ?_) (fun c q => hcIn c _ q) fun c xs q => hcIn c _ q
        rcases hc with rfl | hc
        · refine (kept c u ec r (fun hm => ?_) fun hm => ?_).1
          · rw [I.stkFree c hm] at e; cases e
          · rw [ownNo c hm] at e; cases e
        · refine (kept c u ec ?_ (fun hm => ?_) fun hm => ?_).1
          · cases rc : G c with
            | none => rfl
            | some z =>
              have ez := S.sub c z rc
              rw [hc] at ez
              cases ez
              obtain ⟨C, fs, ew⟩ := S.whole.own c b rc
              rw [r] at ew; cases ew
          · rw [I.stkFree c hm] at hc; cases hc
          · rw [ownNo c hm] at hc; cases hc
    | none =>
      rw [mix_new eo] at e
      refine ObjOk.stay (J.hok b x e) (fun c u hc ec => ec) (fun c q => ?_) fun c xs q => ?_
      · cases ec : s.heap.get? c with
        | none => rw [mix_new ec]; exact q
        | some oc =>
          have z := known c oc _ ec q fun _ _ z => by cases z
          obtain ⟨C, fs, ew⟩ := S.whole.own c b z
          obtain ⟨ob, eb⟩ := HOk.there (S.whole.hok S.sub I.hok) ew
          rw [eo] at eb; cases eb
      · cases ec : s.heap.get? c with
        | none => rw [mix_new ec]; exact q
        | some oc => exact hcIn c _ (S.sub c _ (known c oc _ ec q fun _ _ z => by cases z))
  have I0 : Inv X pins σc Hc s := I.pins_of fun p hp => I.pin p (List.mem_append_right _ (List.mem_append_left _ hp))
  have sGm : Same G (mix s G H') := fun b x e => by
    obtain ⟨ob, eo⟩ := HOk.there (S.whole.hok S.sub I.hok) e
    rw [mix_old eo]; exact e
  refine ⟨I0.call' (ch := ads L ip) (J.os) ⟨fun b o e n hb hx => (kept b o e (nG n) hb hx).1, fun b o e n hb hx => (frame b o e hb).1, fun b o e n hx => (mix_old e).trans n, fun b o e hx => ?_, fun b xs e => hcIn b _ e, fun b o u e => hcIn b _ e, fun b pt e => ⟨#[], by rw [hcIn b _ e]; simp⟩⟩ hok J.bare fun b hb => ?_,
    lean_whole fun a C dx fs e => ?_, S.whole.lean_of sGm, fun b x e => ?_, fun b o x e q => ?_⟩
  · cases r : G b with
    | some z => exact HOk.there J.hok (sG b z r)
    | none =>
      by_cases h2 : b ∈ frs X.stack
      · obtain ⟨sl, q⟩ := (frame b o e h2).1
        exact ⟨_, q⟩
      · exact ⟨o, (kept b o e r h2 hx).1⟩
  · obtain ⟨o, ho⟩ := S.ownA hb
    obtain ⟨h1, h2, h3, h4, h5⟩ := S.own ho
    refine ⟨?_, h3, fun x c e z => ?_, fun p hp => S.apart _ ho p hp⟩
    · rcases List.mem_cons.mp hb with e | hb
      · rw [e]; exact Z.old
      · obtain ⟨p, hp, e⟩ := List.mem_map.mp hb
        rw [← e]; exact S.late p hp
    · obtain ⟨v, oc, hoc, hd⟩ := I.cell x c e
      rw [z, h1] at hoc
      cases hoc
      exact h5 v hd
  · cases ea : s.heap.get? a with
    | some oa =>
      rw [mix_old ea] at e
      exact sGm dx _ (S.whole.ins a C dx fs e)
    | none =>
      rw [mix_new ea] at e
      obtain ⟨q, _⟩ := J.hok a _ e
      cases ed : s.heap.get? dx with
      | none => rw [mix_new ed]; exact q
      | some od => rw [mix_old ed]; exact known dx od _ ed q fun _ _ z => by cases z
  · have e2 := lean_sub b x e
    cases eb : s.heap.get? b with
    | none => rw [mix_new eb] at e2 ⊢; exact e2
    | some ob => rw [mix_old eb] at e2 ⊢; exact S.sub b x e2
  · cases r : G b with
    | some z => rw [sG b z r] at q; exact .inl q
    | none =>
      by_cases h1 : b ∈ ads L ip
      · rw [hO b h1] at q; cases q
      · by_cases h2 : b ∈ frs X.stack
        · rw [(frame b o e h2).2] at q; cases q
        · rcases (kept b o e r h2 h1).2 with z | z
          · rw [z] at q; cases q
          · rw [z] at q; cases q
            by_cases hl : b < L
            · have e0 : (cut L s).heap.get? b = some o := (cut_get hl).trans e
              rw [J.base.free b o e0 (wlow hl r) (noA b)] at z; cases z
            · exact .inr (froz_some r (Nat.le_of_not_lt hl) h1 e)
end
end ML

/-! a generator's body -/
namespace ML
open PySem PySem.Spec PyProof.Rows L2 GenW

/-- what a run of the generator did to what its consumer knows -/
structure Grown (G Hc G' Hc' : Hp) : Prop where
  more : Same G G'
  ex : ∃ p : Addr → Bool, (∀ b, Hc b ≠ none → p b = true) ∧ (∀ b, p b = true → Hc' b = Hc b) ∧ (∀ b x, p b = false → G' b = some x → Hc' b = some x) ∧ ∀ b x, p b = true → G' b = some x → G b = some x
theorem Back.grown {X : Cx} {pins : List (Addr × Obj)} {L : Addr} {G : Hp} {ip : List (Addr × Obj)} {σc : L2.St} {Hc H' : Hp} {s s1 : Shared} (B : Back X pins L G ip σc Hc H' s s1) (hc : HOk X.prog X.w Hc s.heap) : Grown G Hc (lean (mix s G H')) (mix s Hc H') where
  more := B.more
  ex := ⟨fun b => (s.heap.get? b).isSome, fun b h => by
      cases q : Hc b with
      | none => exact absurd q h
      | some x => obtain ⟨o, e⟩ := HOk.there hc q; show (s.heap.get? b).isSome = true; rw [e]; rfl,
    fun b h => by unfold mix; rw [if_pos h], fun b x h e => B.sub b x e, fun b x h e => by
      have := lean_sub b x e
      unfold mix at this
      rwa [if_pos h] at this⟩

/-- all that is fixed in the walk of one generator by one consumer -/
structure GK {α : Type} where
  X : Cx
  pins : List (Addr × Obj)
  L : Addr
  N : List Str
  ps : List Str
  scope : Scope
  qual : Str
  f : Addr
  cd : Value
  A : Around
  ys : List α
  r : R α
  Wt : Nat → Hp → L2.St → Hp → Prop
section
variable {α : Type} (g : GK (α := α))
abbrev GK.M : Model := model g.X.prog g.X.w
abbrev GK.env : Env := envOfC g.qual g.scope g.L g.f g.cd
abbrev GK.cx (sc : Shared) (H : Hp) : Cx := gx g.X.prog g.X.w g.X.K g.X.mg g.X.base g.N g.qual g.scope g.f g.cd g.A g.X.stack g.L sc H
def GK.Y : Protocol := fun m s₀ v s kap => ∃ k G oL ip σc Hc y vv G' oL' ip' Hc', m + k = g.ys.length ∧ Sleep g.X g.pins g.L G oL ip σc Hc s₀ ∧ g.Wt k G σc Hc ∧ g.ys[k]? = some y ∧ RelV vv v ∧ g.r.p y G' vv ∧
  Sleep g.X g.pins g.L G' oL' ip' σc Hc' s ∧ Grown G Hc G' Hc' ∧ ∀ s' σ' H', Sleep g.X g.pins g.L G' oL' ip' σ' H' s' → g.Wt (k + 1) G' σ' H' → kap (.send .none) s'
def GK.F : Nat → Shared → Shared → Prop := fun n s₀ s => ∃ G oL ip σc Hc G' Hc', Sleep g.X g.pins g.L G oL ip σc Hc s₀ ∧ g.Wt g.ys.length G σc Hc ∧ Inv g.X g.pins σc Hc' s ∧ Grown G Hc G' Hc'
def GK.R : GenEnd := fun n s₀ r s₁ => ((r = .ok (.ret .none) ∨ r = .ok .next) ∧ g.F n s₀ s₁) ∨ ∃ e, r = .error e ∧ False
/-- the generator runs; it has handed out k things -/
structure Going (ex : List Addr) (k : Nat) (Gm : Gam) (T : Tms) (cs : Cells) (ip : List (Addr × Obj)) (s₀ s : Shared) (G : Hp) (oL : Obj) (ip0 : List (Addr × Obj)) (σc : L2.St) (Hc : Hp) (σ : L2.St) (H : Hp) : Prop where
  S : Sleep g.X g.pins g.L G oL ip0 σc Hc s₀
  wt : g.Wt k G σc Hc
  J : Inv (g.cx (cut g.L s₀) (wakeH g.L G ip0 s₀)) ip σ H s
  st : Sta ⟨G, froz G g.L (ads g.L ip0) s₀⟩ Gm T cs σ H
  sub : ∀ p ∈ ip0, p.1 ∈ ip.map (·.1) ∨ p.1 ∈ ex
  ex : ∀ b ∈ ex, H b = none
  up : ∀ p ∈ ip, g.L < p.1
def Gg (ex : List Addr) (k : Nat) (Gm : Gam) (T : Tms) (cs : Cells) (ip : List (Addr × Obj)) (c : Code) (t : Sem PySem.Fin) (fs : List PySem.Frame) : Prop :=
  ∀ n s₀ s G oL ip0 σc Hc σ H, n + k = g.ys.length + 1 → Going g ex k Gm T cs ip s₀ s G oL ip0 σc Hc σ H → Seg g.M g.A g.R g.Y n s₀ c t fs s
/-- where its code stands -/
structure GC' (c : Code) (fs : List PySem.Frame) (gd : Bool → Bool) : Prop where
  over : g.A.over c fs = g.A.deeper g.env
  split : splitAtGen fs = none
  guard : fs.any Frame.guarded = false
  gd : gd false = false
end
section
variable {α : Type} {g : GK (α := α)} {k : Nat} {Gm Gm' : Gam} {T : Tms} {cs cs' : Cells} {ip : List (Addr × Obj)} {ex : List Addr} {c : Code} {fs : List PySem.Frame} {K : Flow → Sem PySem.Fin} {J : Value → Sem PySem.Fin} {gd : Bool → Bool} {lv : List Value → List Value} {st : Stmt} {rest body orelse : List Stmt} {pos : Pos}
theorem Going.back {s₀ s : Shared} {G : Hp} {oL : Obj} {ip0 : List (Addr × Obj)} {σc σ : L2.St} {Hc H : Hp} (h : Going g ex k Gm T cs ip s₀ s G oL ip0 σc Hc σ H) (Z : Pact g.X g.N g.ps g.scope g.A g.L) : Back g.X g.pins g.L G ip0 σc Hc H s₀ s := by
  obtain ⟨F, c, _, _⟩ := h.st
  refine h.S.back Z h.J (c.f0.trans c.fh) c.bh fun b hb => ?_
  rcases List.mem_cons.mp hb with e | hb
  · rw [e]; exact h.J.free
  · obtain ⟨p, hp, e⟩ := List.mem_map.mp hb
    rcases h.sub p hp with z | z
    · obtain ⟨q, hq, eq⟩ := List.mem_map.mp z
      rw [← e, ← eq]
      exact (h.J.pin q (List.mem_append_right _ hq)).2.1
    · rw [← e]; exact h.ex _ z
theorem gg_nil (h : Gg g ex k Gm T cs ip c (K .next) fs) : Gg g ex k Gm T cs ip c ((execs [] g.env).wrap K J gd lv) fs := fun n s₀ s G oL ip0 σc Hc σ H hn hg =>
  seg_execs_nil (h n s₀ s G oL ip0 σc Hc σ H hn hg)
theorem gg_cons (h : Gg g ex k Gm T cs ip c ((exec st g.env).wrap (fun f => match f with | .next => (execs rest g.env).wrap K J gd lv | f => K f) J gd lv) fs) : Gg g ex k Gm T cs ip c ((execs (st :: rest) g.env).wrap K J gd lv) fs := fun n s₀ s G oL ip0 σc Hc σ H hn hg =>
  seg_execs_cons (h n s₀ s G oL ip0 σc Hc σ H hn hg)
/-- a statement that hands out nothing -/
theorem gg_plain {t : TS} (hc : GC' g c fs gd) (hP : ∀ sc H, sc.heap.objs.size = g.L → PS (g.cx sc H) st t)
    (hN : ∀ W, NxT (t ⟨fun σ H => Sta W Gm' T cs' σ H, fun _ _ => False, fun _ _ => False, fun _ _ => False⟩) W Gm T cs)
    (hk : Gg g [] k Gm' T cs' ip c (K .next) fs) : Gg g [] k Gm T cs ip c ((exec st g.env).wrap K J gd lv) fs := fun n s₀ s G oL ip0 σc Hc σ H hn hg => by
  refine seg_wrap ?_
  rw [hc.over]
  refine wpAny_mono ((hP _ _ (cut_size (Nat.le_of_lt hg.S.lt))).run ip s σ H _ hg.J (hN _ σ H hg.st)) (fun f s' q => ?_) fun e s' q => q.elim
  cases f with
  | next =>
    obtain ⟨σ', H', J', st'⟩ := q
    exact hk n s₀ s' G oL ip0 σc Hc σ' H' hn ⟨hg.S, hg.wt, J', st', hg.sub, fun b hb => by simp at hb, hg.up⟩
  | brk => obtain ⟨_, _, _, q⟩ := q; exact q.elim
  | cont => obtain ⟨_, _, _, q⟩ := q; exact q.elim
  | ret u => obtain ⟨_, _, _, _, _, q⟩ := q; exact q.elim
theorem loc_of {X : Cx} {pins : List (Addr × Obj)} {σ : L2.St} {H : Hp} {s : Shared} (J : Inv X pins σ H s) (hk : ∀ x, X.env.kindOf x ≠ some .cell ∧ X.env.kindOf x ≠ some .free) : ∃ o, s.heap.get? X.env.locals = some o ∧ LocAt X.N X.env.scope σ o := by
  obtain ⟨m, ⟨o, es, ep, ho, hd, hs, hf⟩, hl⟩ := J.loc
  refine ⟨o, ho, es, ep, m, hd, fun h a e => ⟨o, es, ep, e, hd, hs, hf⟩, fun i x v h1 h2 h3 => ?_⟩
  obtain ⟨u, r, l⟩ := hl i x v h1 h2 h3
  rcases l with ⟨_, e⟩ | ⟨z | z, _⟩
  · exact ⟨u, r, e⟩
  · exact absurd z (hk x).1
  · exact absurd z (hk x).2
/-- it is done -/
theorem gg_end (Z : Pact g.X g.N g.ps g.scope g.A g.L) (hk : k = g.ys.length) : Gg g ex k Gm T cs ip c (.pure (.done (.ret .none))) [] := fun n s₀ s G oL ip0 σc Hc σ H hn hg =>
  seg_end (.ok (.ret .none)) (.inl ⟨.inl rfl, G, oL, ip0, σc, Hc, _, _, hg.S, hk ▸ hg.wt, (hg.back Z).inv, (hg.back Z).grown hg.S.inv.hok⟩)
end
end ML

/-! a generator's loop over a range -/
namespace ML
open PySem PySem.Spec PyProof.Rows L2 GenW
section
variable {α : Type} {g : GK (α := α)} {k : Nat} {Gm Gm' : Gam} {T : Tms} {cs cs' : Cells} {ip : List (Addr × Obj)} {ex : List Addr} {c : Code} {fs : List PySem.Frame} {K : Flow → Sem PySem.Fin} {J : Value → Sem PySem.Fin} {gd : Bool → Bool} {lv : List Value → List Value} {st : Stmt} {rest body orelse : List Stmt} {pos : Pos}
end
end ML

/-! a generator is made; the next thing of one -/
namespace ML
open PySem PySem.Spec PyProof.Rows L2 GenW
open Sem (wp)

section
variable {M : Model} {A : Around} {Re : GenEnd} {Yp : Protocol} {n : Nat} {E : Value → Shared → Prop} {s : Shared} {gi : Nat} {st : GenState}
theorem wakes_any {r : Resume} {l : List Value} {β : Type} {kk : GenResult → Sem β} {Q : β → Shared → Prop} (h0 : s.gens[gi]? = some st) (go : st.Goes M A Re Yp n r (s.setGen gi .running))
    (hr : ∀ x z, Re n (s.setGen gi .running) x z → wpAny M A (kk (End.ret x).result) Q E (z.setGen gi .finished))
    (hy : ∀ v z st', st'.bare = true → st'.status = .suspended → Yp (n - 1) (s.setGen gi .running) v z (fun r' z' => match n with | 0 => False | m + 1 => st'.Goes M A Re Yp m r' z') → wpAny M A (kk (.yielded v)) Q E (z.setGen gi st')) :
    wpAny M A (.resume gi r l kk) Q E s := fun Γ p hΓ => by
  rw [Sem.wp_resume]
  have seg : ∀ e z, SegEnd Re Yp n (Seg.next M A Re Yp n) (s.setGen gi .running) e z → e.quiet = true ∧ wp M Γ (kk e.result) (fun a _ z' => Q a z') (fun x _ z' => E x z') p (z.setGen gi e.genState) := fun e z h => by
    cases e with
    | ret x => exact ⟨rfl, hr x z h Γ p hΓ⟩
    | susp v q l1 k1 c1 p1 fs1 => exact ⟨h.1, hy v z (.suspended k1 l1 c1 p1 fs1 _) (End.bare_of_quiet h.1) rfl (by cases n with | zero => exact h.2 | succ m => exact h.2) Γ p hΓ⟩
  cases st with
  | fresh c =>
    obtain ⟨rfl, hs⟩ := go
    obtain ⟨e, z, run, h⟩ := seg_iff.mp hs (Γ.wake c p) p rfl (hΓ.wake c p)
    exact ⟨_, _, by unfold Wakes; rw [h0]; exact ⟨e, z, run, (seg e z h).1, rfl, rfl⟩, (seg e z h).2⟩
  | suspended k1 l1 c1 p1 fs1 cl =>
    obtain ⟨e, z, run, h⟩ := seg_iff.mp go (Γ.wake c1 p) p1 rfl (hΓ.wake c1 p)
    exact ⟨_, _, by unfold Wakes; rw [h0]; exact ⟨e, z, run, (seg e z h).1, rfl, rfl⟩, (seg e z h).2⟩
  | running => exact go.elim
  | finished => exact go.elim
end
section
variable {P : Program} {w : World} {A : Around} {E : Value → Shared → Prop} {s : Shared}
theorem nexts {a : Addr} {gi n : Nat} {st : GenState} {Fi : Nat → Shared → Shared → Prop} {Yp : Protocol} {Q : Option Value → Shared → Prop} (hh : A.handled = none) (hl : s.heap.NoLimit) (hd : A.depth < recursionLimit) (ha : s.heap.IsGen a gi) (h0 : s.gens[gi]? = some st)
    (go : st.Goes (model P w) A.in1 (fun n z r z' => ((r = .ok (.ret .none) ∨ r = .ok .next) ∧ Fi n z z') ∨ ∃ e, r = .error e ∧ False) Yp n (.send .none) (s.setGen gi .running))
    (hy : ∀ v z st', st'.bare = true → st'.status = .suspended → Yp (n - 1) (s.setGen gi .running) v z (fun r' z' => match n with | 0 => False | m + 1 => st'.Goes (model P w) A.in1 (fun n z r z' => ((r = .ok (.ret .none) ∨ r = .ok .next) ∧ Fi n z z') ∨ ∃ e, r = .error e ∧ False) Yp m r' z') → Q (some v) (z.setGen gi st'))
    (hf : ∀ z, Fi n (s.setGen gi .running) z → ∀ h', (∀ b o, z.heap.get? b = some o → h'.get? b = some o) → Q none { z.setGen gi .finished with heap := h' }) : wpAny (model P w) A (pyNext (.ref a)) Q E s := by
  unfold pyNext
  refine wpAny_bind (wpAny_attempt (wpAny_callSpecial?_slot (name := Str.ofString "__next__") ha.typeIs slot_gen_next (wpAny_call_entry slot_gen_next ha.typeIs entry_gen_next ?_ (args_gen_next _))))
  show wpAny (model P w) A.in1 (Builtin.Generator.genWake (.ref a) (.send .none)) _ _ s
  unfold Builtin.Generator.genWake
  refine wpAny_bind (wpAny_holding (wpAny_genNumber ha (wpAny_bind (wpAny_genState h0 ?_))))
  cases st with
  | running => exact go.elim
  | finished => exact go.elim
  | _ =>
    refine wpAny_bind (wpAny_roomToWake hl hd ?_)
    show wpAny (model P w) A.in1 (.resume gi (.send .none) [] _) _ _ s
    refine wakes_any h0 go (fun x z hx => ?_) fun v z st' hb hs hv => wpAny_pure ⟨v, rfl, wpAny_pure (hy v z st' hb hs hv)⟩
    rcases hx with ⟨hr, hp⟩ | ⟨e, _, z⟩
    · have res : End.result (.ret x) = .returned .none := by rcases hr with hr | hr <;> (rw [hr]; rfl)
      first | rw [res] | simp only [res]
      show wpAny (model P w) A.in1 (newExc (.type "StopIteration") [] >>= _) _ _ _
      refine wpAny_bind ?_
      simp only [newExc, newTuple]
      refine wpAny_bind (wpAny_newObj_type ?_ (by size_fits))
      refine wpAny_bind (m := firstArgMember _ _) (wpAny_of_eq (a := Value.none) (by first | exact rfl | (simp only [firstArgMember]; exact rfl)) ?_)
      refine wpAny_newObj_type ?_ (by size_fits)
      simp only [raiseNew]
      refine wpAny_bind (wpAny_bind (wpAny_handled ?_))
      first | rw [show A.in1.handled = none from hh] | rw [hh]
      refine wpAny_throw (wpAny_bind (wpAny_isInstance (T := "StopIteration") (b := true) ⟨_, Heap.get?_push_size _ rfl, rfl⟩ isSubtype_stop ?_))
      exact wpAny_pure (hf z hp _ fun b o hb => Heap.get?_push_of_some _ (Heap.get?_push_of_some _ hb))
    · exact z.elim
end

/-- a generator has been made: its object at a, its frame at L, its number gn -/
structure Made (N : List Str) (qual : Str) (scope : Scope) (f : Addr) (cd : Value) (body : List Stmt) (vs : List V) (s s' : Shared) (L a : Addr) (go oL : Obj) (gn : Nat) : Prop where
  low : s.heap.objs.size ≤ L
  lt : L < a
  at' : s'.heap.get? a = some go
  fr : s'.heap.get? L = some oL
  isg : ∀ h : Heap, h.get? a = some go → h.IsGen a gn
  flds : ∃ vs, go.cls = .type "generator" ∧ go.data = .fields vs
  gen : s'.gens[gn]? = some (.fresh (.func body (envOfC qual scope L f cd)))
  loc : LocAt N scope (L2.start N vs) oL
  len : (L2.start N vs).length = N.length
  os : s'.os = s.os
  bare : AllBare s'.gens
  keep : ∀ b o, s.heap.get? b = some o → s'.heap.get? b = some o
theorem made_by {P : Program} {w : World} {K : PySem.W.Frag} {mg : Str → Option Value} {base : Heap} {k : Nat} {f : Addr} {name qual : Str} {params : Arguments} {body : List Stmt} {scope : Scope} {dV kV doc pm cdv ct oc : Value} {an od : Option Addr}
    {osl : Array (Option Value)} {N ps : List Str} (lk : K.lookup f = some ⟨oc, od, .func (PySem.W.fnOf name qual params body scope dV kV doc pm an cdv ct), osl⟩) (hcd : PySem.W.codeIn K cdv qual = true) (S : PlainScope N ps scope)
    {A : Around} {ou : List Env} {s : Shared} {H : Hp} {ar : PySem.Args} {us : List Value} {vs : List V} (hr : RoomG (k + 1) A) (e0 : Env0 P w K mg base A ou s H) (hbd : BindsTo s (PySem.W.fnOf name qual params body scope dV kV doc pm an cdv ct) ar (ps.zip us)) (r : Vals vs us) (hl : vs.length = ps.length) :
    codeAny (model P w) A (.call (.ref f) ar) (fun r s' => match r with | .ok (.ret u) => ∃ L a go oL gn, u = .ref a ∧ Made N qual scope f cdv body vs s s' L a go oL gn | _ => False) s := by
  have old : ∀ b o, base.get? b = some o → s.heap.get? b = some o := fun b o e => (e0.bs b o e).1
  have KX : K.In s.heap := e0.mod.kin.keeps old
  have lim : s.heap.NoLimit := e0.mod.nolimit.keeps old
  have kinds : ∀ y ∈ ps.zip us, scope.names.lookup y.1 = some .local ∨ (scope.names.lookup y.1 = some .cell ∧ ((cellsFrom (s.heap.objs.size + 1) scope.names []).lookup y.1).isSome = true) := fun y hy =>
    (S.g.par y.1 (List.of_mem_zip hy).1).imp id fun q => ⟨q, PySem.W.cellsFrom_some _ _ _ (.inl q)⟩
  refine codeAny_call_generator hr.rm.depth (KX _ _ lk) rfl S.g.co S.g.gen rfl (PySem.W.codeRec_of KX hcd) (hbd _ _ _ _ ?_)
  refine wpAny_newFunctionEnv_cells S.g.kind kinds fun env he s1 x => ?_
  subst he
  refine ⟨lim.keeps x.toInCall.keep, ?_⟩
  have I1 := inv_startG (E := fun _ _ _ => False) S.g hr.rm.hd e0 hl r x
  obtain ⟨oL, hoL, loc⟩ := loc_of I1 fun x => S.kinds
  have hoL' : s1.heap.get? s.heap.objs.size = some oL := hoL
  obtain ⟨h1, tk, es1, hk1⟩ := x.done
  have eg : s1.gens = s.gens := by rw [es1]
  refine ⟨s.heap.objs.size, s1.heap.objs.size, _, oL, s1.gens.size, rfl, Nat.le_refl _, Heap.lt_size hoL', Heap.get?_push_size _ rfl, Heap.get?_push_of_some _ hoL', fun h e => ⟨_, _, _, e, rfl, rfl, rfl⟩, ⟨_, rfl, rfl⟩, Array.getElem?_push_size .., loc, I1.len, ?_, ?_, fun b o e => Heap.get?_push_of_some _ (x.toInCall.keep b o e)⟩
  · show s1.os = s.os
    rw [es1]
  · exact AllBare.push (by rw [eg]; exact e0.bare) rfl
end ML

/-! for x in g(..): the consumer -/
namespace ML
open PySem PySem.Spec PyProof.Rows L2 GenW

theorem inv_gens {X : Cx} {pins : List (Addr × Obj)} {σ : L2.St} {H : Hp} {s : Shared} {g' : Array GenState} (I : Inv X pins σ H s) (hb : AllBare g') : Inv X pins σ H { s with gens := g' } :=
  I.call (g' := g') (t' := s.toks) (d' := s.drawn) (h' := s.heap) (ch := []) Un.refl I.hok hb fun b z => by simp at z
theorem Sleep.gens {X : Cx} {pins : List (Addr × Obj)} {L : Addr} {G : Hp} {oL : Obj} {ip : List (Addr × Obj)} {σ : L2.St} {H : Hp} {s : Shared} {g' : Array GenState} (S : Sleep X pins L G oL ip σ H s) (hb : AllBare g') : Sleep X pins L G oL ip σ H { s with gens := g' } :=
  ⟨inv_gens S.inv hb, S.whole, S.sub, S.up, S.late, S.apart⟩
/-- a generator def's promise -/
structure GenFn (P : Program) (w : World) (K : PySem.W.Frag) (mg : Str → Option Value) (base : Heap) (k : Nat) (f : Addr) (fd : FuncData) (ps : List Str) {α : Type} (r : R α) (sp : List V → Hp → List α → Prop) : Prop where
  len : ∀ vs G ys, sp vs G ys → vs.length = ps.length
  go : ∃ (N : List Str) (qual : Str) (scope : Scope) (cd : Value) (body : List Stmt), PlainScope N ps scope ∧
    (∀ (A : Around) (ou : List Env) (s : Shared) (H : Hp) (ar : PySem.Args) (us : List Value) (vs : List V), RoomG (k + 1) A → Env0 P w K mg base A ou s H → BindsTo s fd ar (ps.zip us) → Vals vs us → vs.length = ps.length →
      codeAny (model P w) A (.call (.ref f) ar) (fun r s' => match r with | .ok (.ret u) => ∃ L a go oL gn, u = .ref a ∧ Made N qual scope f cd body vs s s' L a go oL gn | _ => False) s) ∧
    ∀ (X : Cx) (pins : List (Addr × Obj)) (L : Addr) (A : Around) (Wt : Nat → Hp → L2.St → Hp → Prop) (vs : List V) (G0 : Hp) (ys : List α), X.prog = P → X.w = w → X.K = K → X.mg = mg → X.base = base → sp vs G0 ys → RoomG (k + 1) A → Pact X N ps scope A L →
      ∃ Gm, Slots G0 Gm (L2.start N vs) ∧ Gg ⟨X, pins, L, N, ps, scope, qual, f, cd, A, ys, r, Wt⟩ [] 0 Gm [] [] [] (.func body (envOfC qual scope L f cd))
        ((execs body (envOfC qual scope L f cd)).wrap (fun f => .pure (.done (.ret (match f with | .ret v => v | _ => .none)))) (fun e => (leaving (envOfC qual scope L f cd) e).wrap (fun _ => .raise e) .raise id id) id id) []
def tForG {α : Type} (sp : List V → Hp → List α → Prop) (r : R α) (ta : TA) (tg : TG) (tb : TS) : TS := fun D σ H => ta σ H fun vs H1 => ∃ (ys : List α) (G0 : Hp), sp vs G0 ys ∧ Whole G0 ∧ Same G0 H1 ∧ ∃ Wt : Nat → Hp → L2.St → Hp → Prop, Wt 0 G0 σ H1 ∧
  (∀ G σ H G' H', Wt ys.length G σ H → Grown G H G' H' → D.nx σ H') ∧
  ∀ k y G σ H G' H' x, ys[k]? = some y → Wt k G σ H → Grown G H G' H' → r.p y G' x →
    tg x σ H' fun σ2 H2 => tb { D with nx := fun σ3 H3 => Same G' H3 ∧ Wt (k + 1) G' σ3 H3, ct := fun σ3 H3 => Same G' H3 ∧ Wt (k + 1) G' σ3 H3, bk := D.nx } σ2 H2
section
variable {X : Cx} {α : Type} {r : R α} {sp : List V → Hp → List α → Prop} {k : Nat} {f : Addr} {fd : FuncData} {ps : List Str} {x : Str} {p pos pos' : Pos} {e : Expr} {es : List Expr} {ta : TA} {tg : Expr} {tgt : TG} {body : List Stmt} {tb : TS}
end
end ML

/-! generators in the layer -/
namespace ML
open PySem PySem.Spec PyProof.Rows L2 GenW

/-- the tuples of F -/
def tups (F : Hp) : Hp := fun b => match F b with | some (.tup xs) => some (.tup xs) | _ => none
theorem tups_tup {F : Hp} {b : Addr} {xs : List V} (e : F b = some (.tup xs)) : tups F b = some (.tup xs) := by unfold tups; rw [e]
def TupS (sl : Sl) : Prop := ∀ F v, sl.p F v → sl.p (tups F) v
theorem TupS.int {i : Int} : TupS (rInt.at i) := fun _ _ h => h
theorem TupS.bool {i : Bool} : TupS (rBool.at i) := fun _ _ h => h
theorem TupS.tup {α : Type} {r : R α} (h : ∀ x, TupS (r.at x)) {xs : List α} : TupS ((rTup r).at xs) := fun F v ⟨h0, a, vs, h1, h2, h3⟩ => ⟨h0, a, vs, h1, tups_tup h2, h3.imp fun x u q => h x F u q⟩
theorem LeanS.int {i : Int} : LeanS (rInt.at i) := fun _ _ h => h
theorem LeanS.bool {i : Bool} : LeanS (rBool.at i) := fun _ _ h => h
theorem LeanS.tup {α : Type} {r : R α} (h : LeanR r) {xs : List α} : LeanS ((rTup r).at xs) := fun M v ⟨h0, a, vs, h1, h2, h3⟩ => ⟨h0, a, vs, h1, lean_tup h2, h3.imp fun x u q => h x M u q⟩
theorem LeanG.nil : LeanG [] := fun i sl h => by simp at h
theorem LeanG.some {sl : Sl} {G : Gam} (h : LeanS sl) (t : LeanG G) : LeanG (some sl :: G) := fun i s e => by
  cases i with
  | zero => simp at e; rw [← e]; exact h
  | succ i => exact t i s (by simpa using e)
theorem LeanG.none {G : Gam} (t : LeanG G) : LeanG (none :: G) := fun i s e => by
  cases i with
  | zero => simp at e
  | succ i => exact t i s (by simpa using e)
def AllTup (sls : List Sl) : Prop := ∀ sl ∈ sls, TupS sl
/-- all that the turns hand out -/
def genO {α γ : Type} (f : α → Option (List γ)) : List α → Option (List γ)
  | [] => some []
  | x :: xs => match f x with
    | none => none
    | some zs => match genO f xs with
      | none => none
      | some ys => some (zs ++ ys)
section
variable {α : Type} {g : GK (α := α)} {Gm : Gam} {ip : List (Addr × Obj)} {c : Code} {fs : List PySem.Frame} {K : Flow → Sem PySem.Fin} {J : Value → Sem PySem.Fin} {gd : Bool → Bool} {lv : List Value → List Value} {body : List Stmt} {pos : Pos}
end
theorem okGen {P : Program} {w : World} {K : PySem.W.Frag} {mg : Str → Option Value} {base : Heap} {x qual : Str} {st : Stmt} {f : Addr} {fd : FuncData} {N ps : List Str} {k : Nat} {α : Type} {r : R α} {sp : List V → Hp → List α → Prop} (F : Fun K x qual st f fd) (S : PlainScope N ps (defScope st)) (len : ∀ vs G ys, sp vs G ys → vs.length = ps.length)
    (hb : ∀ (X : Cx) (pins : List (Addr × Obj)) (L : Addr) (A : Around) (Wt : Nat → Hp → L2.St → Hp → Prop) (cdv : Value) (vs : List V) (G0 : Hp) (ys : List α), X.prog = P → X.w = w → X.K = K → X.mg = mg → X.base = base → sp vs G0 ys → RoomG k (A.deeper (envOfC qual (defScope st) L f cdv)) → Pact X N ps (defScope st) A L →
      ∃ Gm, Slots G0 Gm (L2.start N vs) ∧ ∀ (K' : Flow → Sem PySem.Fin) (J' : Value → Sem PySem.Fin) (c : Code), GC' (⟨X, pins, L, N, ps, defScope st, qual, f, cdv, A, ys, r, Wt⟩ : GK) c [] id → (∀ ex Gm' T cs ip, Gg (⟨X, pins, L, N, ps, defScope st, qual, f, cdv, A, ys, r, Wt⟩ : GK) ex ys.length Gm' T cs ip c (K' .next) []) →
        Gg (⟨X, pins, L, N, ps, defScope st, qual, f, cdv, A, ys, r, Wt⟩ : GK) [] 0 Gm [] [] [] c ((execs (defBody st) (envOfC qual (defScope st) L f cdv)).wrap K' J' id id) []) : GenFn P w K mg base k f fd ps r sp := by
  obtain ⟨oc, od, kV, doc, pm, an, cdv, ct, osl, rfl, lk, hcd⟩ := F.ex
  refine ⟨len, N, qual, defScope st, cdv, defBody st, S, fun A ou s H ar us vs hr e0 hbd rv hl => made_by lk hcd S hr e0 hbd rv hl, fun X pins L A Wt vs G0 ys e1 e2 e3 e4 e5 hsp hr Z => ?_⟩
  obtain ⟨Gm, h1, h2⟩ := hb X pins L A Wt cdv vs G0 ys e1 e2 e3 e4 e5 hsp (hr.deeper _) Z
  exact ⟨Gm, h1, h2 _ _ _ ⟨over_func, rfl, rfl, rfl⟩ fun ex Gm' T cs ip => gg_end Z rfl⟩
/-- the generator's slots at its start -/
theorem slots_start {N : List Str} {sls : List Sl} {vs : List V} {G0 : Hp} (ar : Args G0 sls vs) (hn : sls.length ≤ N.length) : Slots G0 (sls.map some ++ List.replicate (N.length - sls.length) none) (L2.start N vs) := by
  have c : Core ⟨G0, fun _ => none⟩ G0 [] G0 := ⟨Same.refl _, Same.refl _, fun b x e => (nomatch e), fun b x e => (nomatch e), by simp, fun x hx => (by simp at hx)⟩
  obtain ⟨F, cc, sl, _⟩ := Sta.enter (F := G0) (N := N) c ar hn
  exact ⟨sl.1, fun i s hi => by
    obtain ⟨v, h1, h2⟩ := sl.2 i s hi
    exact ⟨v, h1, s.mono (show Same F G0 from fun b x e => cc.fh b x e) h2⟩⟩

/-! ## the consumer -/
def sSame (G : Hp) : Sl := ⟨fun F _ => Same G F, fun e h => h.trans e⟩
section
variable {W : Wd} {G : Gam} {T : Tms} {cs : Cells} {nx bk ct : L2.St → Hp → Prop} {rt : VK} {α : Type} {r : R α} {sp : List V → Hp → List α → Prop} {ta : TA} {tgt : TG} {tb : TS} {is : List Nat}
end
end ML

namespace ML
open PySem PySem.Spec PyProof.Rows L2
theorem PlainScope.nd {N ps : List Str} {sc : Scope} (S : PlainScope N ps sc) : N.Nodup := S.g.nd
def LeanF (l : List (Str × Sl)) : Prop := ∀ x ∈ l, LeanS x.2
theorem leanF_nil : LeanF [] := fun _ h => by simp at h
theorem leanF_cons {n : Str} {sl : Sl} {l : List (Str × Sl)} (h : LeanS sl) (t : LeanF l) : LeanF ((n, sl) :: l) := fun x hx => by
  rcases List.mem_cons.mp hx with e | hx
  · rw [e]; exact h
  · exact t x hx
theorem fld_lean {M : Hp} : ∀ {l : List (Str × Sl)} {fs : List (Str × V)}, LeanF l → Fld M l fs → Fld (lean M) l fs
  | _, _, _, .nil => .nil
  | _, _, h, .cons q t => .cons ⟨q.1, h _ List.mem_cons_self _ _ q.2⟩ (fld_lean (fun x hx => h x (List.mem_cons_of_mem _ hx)) t)
theorem LeanR.own {α : Type} {C : Addr} {fl : α → List (Str × Sl)} (h : ∀ t, LeanF (fl t)) : LeanR (rRec C fl) := fun t M v ⟨p, dx, fs, h1, h2, h3⟩ => ⟨p, dx, fs, h1, lean_ins h2, fld_lean (h t) h3⟩
end ML

namespace ML
open PySem PySem.Spec PyProof.Rows L2
section
variable {W : Wd} {G : Gam} {T : Tms} {cs : Cells} {K : Sl → Cells → Prop} {ta tb : TE}
end
end ML

/-! [.. for x in g(..)] -/
namespace ML
open PySem PySem.Spec PyProof.Rows L2 GenW

def tLcG {α : Type} (sp : List V → Hp → List α → Prop) (r : R α) (ta : TA) (tg : TG) (tt : TT) (te : TE) (vs : List Nat) : TE := fun σ H Q => ta σ H fun us H1 => ∃ (ys : List α) (G0 : Hp), sp us G0 ys ∧ Whole G0 ∧ Same G0 H1 ∧ ∀ D, H1 D = none → ∃ Wt : Nat → Hp → Hp → Prop, Wt 0 G0 (upd H1 D (.lst [])) ∧
  (∀ G H G' H', Wt ys.length G H → Grown G H G' H' → Q (.ref D) H') ∧
  ∀ k y G H G' H' x, ys[k]? = some y → Wt k G H → Grown G H G' H' → r.p y G' x → tg x (wipe σ vs) H' fun σ2 H2 => wipe σ2 vs = wipe σ vs ∧ tt σ2 H2 fun b H3 =>
    if b = true then te σ2 H3 fun yv H4 => ∃ acc, H4 D = some (.lst acc) ∧ acc.length < sizeLine ∧ Same G' (upd H4 D (.lst (acc ++ [yv]))) ∧ Wt (k + 1) G' (upd H4 D (.lst (acc ++ [yv]))) else Same G' H3 ∧ Wt (k + 1) G' H3
section
variable {X : Cx} {α : Type} {r : R α} {sp : List V → Hp → List α → Prop} {k : Nat} {f : Addr} {fd : FuncData} {ps : List Str} {x : Str} {p pos pos' : Pos} {e : Expr} {es : List Expr} {ta : TA} {tg : Expr} {tgt : TG}
end
end ML

/-! comprehensions over generators in the layer -/
namespace ML
open PySem PySem.Spec PyProof.Rows L2

def oLim {α : Type} (xs : List α) : Option (List α) := if xs.length ≤ sizeLine then some xs else none
section
variable {W : Wd} {G : Gam} {T : Tms} {cs : Cells} {K : Sl → Cells → Prop} {α : Type} {r : R α} {sp : List V → Hp → List α → Prop} {ta : TA} {g : TG} {tt : TT} {te : TE} {vs is : List Nat}
end
end ML

namespace ML
open PySem Spec PyProof.Rows L2
/-! ## a list in a cell is walked while nothing changes it: it stands in the background -/
/-- what its items are -/
def sItems {α : Type} (r : R α) (xs : List α) (us : List V) : Sl := ⟨fun F _ => All2 (fun x u => r.p x F u) xs us, fun {_ _ _} e h => h.imp fun _ _ q => r.mono e q⟩
section
variable {W : Wd} {G : Gam} {T : Tms} {cs : Cells} {K : Sl → Cells → Prop} {te : TE} {KF : PySem.W.Frag}
variable {nx bk ct : L2.St → Hp → Prop} {rt : VK}
end
end ML

namespace ML
open PySem Spec PyProof.Rows L2
/-! ## a dict of lists: the keys 0, 1, .. ; a list for each -/
def keyed : Nat → List Addr → List (Key × V)
  | _, [] => []
  | i, p :: ps => (Sum.inl (i : Int), V.ref p) :: keyed (i + 1) ps
/-- the dict -/
def sDL (ps : List Addr) : Sl := ⟨fun F v => ∃ a od, v = .ref a ∧ F a = some (.frz od (.dK (keyed 0 ps))), fun {_ _ _} e ⟨a, od, h1, h2⟩ => ⟨a, od, h1, e _ _ h2⟩⟩
/-- its lists -/
def DLc : List Addr → List (List Int) → Cells
  | p :: ps, xs :: xss => (p, cLst rInt xs) :: DLc ps xss
  | _, _ => []
/-- d[k].append(x), n lists -/
def oDApp (n : Nat) (xss : List (List Int)) (k x : Int) : Option (List (List Int)) :=
  if xss.length = n ∧ 0 ≤ k ∧ k < n then (match xss[k.toNat]? with | some xs => (match oApp xs x with | some ys => some (xss.set k.toNat ys) | none => none) | none => none) else none
def enumD : Nat → List (List Int) → List (Int × List Int)
  | _, [] => []
  | i, xs :: xss => ((i : Int), xs) :: enumD (i + 1) xss
/-- the dict, standing still from here on -/
def oDStill (n : Nat) (xss : List (List Int)) : Option (List (Int × List Int)) := if xss.length = n ∧ n ≤ 1000 then some (enumD 0 xss) else none
section
variable {nx bk ct : L2.St → Hp → Prop} {rt : VK}
variable {W : Wd} {G : Gam} {T : Tms} {cs : Cells} {K : Sl → Cells → Prop} {KF : PySem.W.Frag}
def oRangeN (j : Int) : Option Nat := if small62 0 ∧ small62 j ∧ (j - 0).toNat ≤ sizeLine then some j.toNat else none
end
end ML

namespace ML
open PySem Spec PyProof.Rows L2
section
variable {nx bk ct : L2.St → Hp → Prop} {rt : VK}
variable {W : Wd} {G : Gam} {T : Tms} {cs : Cells} {K : Sl → Cells → Prop} {KF : PySem.W.Frag} {te ta tb : TE} {tt : TT}
end
end ML

namespace ML
open PySem Spec PyProof.Rows L2 StX
/-! ## set(xs), xs a list of ints -/
section
variable {P : Program} {w : World} {A : Around} {E : Value → Shared → Prop} {s : Shared}
end
/-! ## sorted(set(xs)), xs a list of ints -/
def tSortSetL (K : PySem.W.Frag) (ta : TE) : TE := fun σ H Q => ta σ H fun x H1 => ∃ (l : Addr) (ns : List Int), x = .ref l ∧ SqL K H1 l (ns.map V.int) ∧ ns.length < 64 ∧
  ∀ (ms : List Int) (p : Addr), ms.Pairwise (· < ·) → (∀ k, k ∈ ms ↔ k ∈ ns) → H1 p = none → Q (.ref p) (upd H1 p (.lst (ms.map V.int)))
section
variable {W : Wd} {G : Gam} {T : Tms} {cs : Cells} {K : Sl → Cells → Prop} {ta : TE} {KF : PySem.W.Frag}
end
/-! ## == within a chain of comparisons of ints -/
abbrev rdEqI : R2 := rI0 fun i j => .bl (decide (i = j))
abbrev rdNeI : R2 := rI0 fun i j => .bl (!decide (i = j))
end ML

namespace ML
open PySem Spec PyProof.Rows L2 StX
/-! ## name = {k: v for ..}, the new dict locked -/
section
variable {X : Cx}
end
end ML

namespace ML
open PySem Spec PySem.Calls PyProof.Rows PyProof.V L2 StX
/-! ## sum(t), t a tuple of ints -/
def rSumT (K : PySem.W.Frag) : List V → Hp → VK → Prop := fun vs H Q => ∃ (l : Addr) (ns : List Int), vs = [V.ref l] ∧ SqT K H l (ns.map V.int) ∧ Q (.int ns.sum) H
section
variable {W : Wd} {G : Gam} {T : Tms} {cs : Cells} {K : Sl → Cells → Prop} {KF : PySem.W.Frag}
end
end ML

/-! [.. for x in g(a=..)] -/
namespace ML
open PySem PySem.Spec PyProof.Rows L2 GenW

section
variable {X : Cx} {α : Type} {r : R α} {sp : List V → Hp → List α → Prop} {k : Nat} {f : Addr} {fd : FuncData} {ps ks : List Str} {x : Str} {p pos pos' : Pos} {kws : List Keyword} {π : List Nat} {ta : TA} {tg : Expr} {tgt : TG}
end
section
variable {W : Wd} {G : Gam} {T : Tms} {cs : Cells} {K : Sl → Cells → Prop} {te : TE} {KF : PySem.W.Frag}
end
section
variable {X : Cx} {CX : CXT} {k : Nat} {C f : Addr} {fd : FuncData} {ps ks : List Str} {sp : Sp} {E : XK} {x : Str} {p pos : Pos} {kws : List Keyword} {t : TA} {π : List Nat}
/-- C(a=..) -/
theorem pe_makeGN (M : Mk X.K C f) (F : FnG X.prog X.w X.K X.mg X.base CX k f fd ps sp) (hr : RoomG (k + 1) X.A) (hg : Gl X x) (hm : X.mg x = some (.ref C)) (hb : OwnNames X.K fd ps ks π) (hx : Passes CX X E) (hkw : PK X kws t)
    (hall : (backToKw pos (keywordEach kws X.env)).all (·.1.isSome) = true := by rfl) (hks : (backToKw pos (keywordEach kws X.env)).filterMap (·.1) = ks := by rfl)
    (h1 : (x == ("__debug__" : Str)) = false := by decide) (hpl : ((backTo pos (starEach [] X.env)).any (·.1) || (backToKw pos (keywordEach kws X.env)).any (·.1.isNone)) = false := by rfl) :
    PE X (.Call (.Name x p) [] kws pos) (tMake C sp [] E (tNames π ks.length t)) := ⟨fun pins s σ H Q I h => by
  refine wpAny_Call_Name_kw (ld_glob I hg hm ?_ h1)
  refine PySem.W.callWith_KW0 (h₀ := X.base) I.ok.mod.kin M.kp hall (thn (hkw.run pos pins s σ H _ I h) fun us s1 ⟨vs, H1, I1, r, e, q⟩ => ⟨I1.kIn, ?_⟩) hpl
  rw [hks]
  dsimp only at q
  have wish := q (s1.heap.objs.size + 1) s1.heap.objs.size (I1.hok.fresh (Nat.le_succ _)) (I1.hok.fresh (Nat.le_refl _)) (Nat.ne_of_lt (Nat.lt_succ_self _))
  rw [List.append_nil] at wish
  have J := Inv.made (C := C) I1
  have r2 : Vals (V.ref (s1.heap.objs.size + 1) :: perm π vs) (Value.ref (s1.heap.objs.size + 1) :: perm π us) := .cons rfl (perm_rel r)
  have run := F.go _ X.stack _ _ ⟨[Value.ref (s1.heap.objs.size + 1)], ks.zip us⟩ _ _ _ E (hr.make C [] (ks.zip us)) (J.env0.make C [] (ks.zip us)) (hb _ (Value.ref (s1.heap.objs.size + 1)) us (r.length.symm.trans e)) r2 wish
  refine wpAny_call (make_map (f := f) I1.kIn M.makes M.init (beq_iff_eq.mp M.fn) (codeAny_mono run fun r s' hq => ?_))
  match r, hq with
  | .error e, hq => exact hx pins σ _ _ e s' J hq
  | .ok (.ret u), hq =>
    obtain ⟨v, H', J3, rv, ev, q3⟩ := J.after hq
    subst ev
    exact ⟨rv, ⟨V.ref (s1.heap.objs.size + 1), H', J3, rfl, q3⟩⟩
  | .ok .next, hq => exact False.elim hq
  | .ok .brk, hq => exact False.elim hq
  | .ok .cont, hq => exact False.elim hq⟩
end
end ML

/-! ## dicts whose keys are tuples, nested -/
namespace ML
open PySem PySem.Spec PyProof.Rows L2

mutual
/-- the value of the abstract heap is the key -/
inductive NestH (H : Hp) : NestedKey → V → Prop
  | bl (b : Bool) : NestH H (.num (if b = true then 1 else 0)) (.bl b)
  | int (i : Int) : NestH H (.num i) (.int i)
  | tup {a : Addr} {us : List V} {ks : List NestedKey} : H a = some (.tup us) → NestHs H ks us → NestH H (.tup ks) (.ref a)
inductive NestHs (H : Hp) : List NestedKey → List V → Prop
  | nil : NestHs H [] []
  | cons {k : NestedKey} {v : V} {ks : List NestedKey} {vs : List V} : NestH H k v → NestHs H ks vs → NestHs H (k :: ks) (v :: vs)
end
mutual
theorem NestH.mono {F F' : Hp} (e : Same F F') : ∀ {k : NestedKey} {v : V}, NestH F k v → NestH F' k v
  | _, _, .bl b => .bl b
  | _, _, .int i => .int i
  | _, _, .tup h t => .tup (e _ _ h) (NestHs.mono e t)
theorem NestHs.mono {F F' : Hp} (e : Same F F') : ∀ {ks : List NestedKey} {vs : List V}, NestHs F ks vs → NestHs F' ks vs
  | _, _, .nil => .nil
  | _, _, .cons h t => .cons (NestH.mono e h) (NestHs.mono e t)
end
mutual
theorem NestH.is {P : Program} {w : World} {H : Hp} {h : Heap} (ok : HOk P w H h) : ∀ {k : NestedKey} {v : V} {u : Value}, NestH H k v → RelV v u → NestedIs h k u
  | _, _, _, .bl b, r => by
    obtain rfl := (show _ = Value.bool b from r)
    exact .bool rfl
  | _, _, _, .int i, r => by
    obtain ⟨t, rfl⟩ := r
    exact .int i t
  | _, _, _, .tup (a := a) (us := us) e t, r => by
    obtain rfl := (show _ = Value.ref a from r)
    obtain ⟨_, its, rr, o, h1, h2, n, h3⟩ := (show ObjOk P w H h a (.tup us) from ok a _ e)
    exact .tup h1 h2 h3 (by simpa using NestHs.is ok t rr)
theorem NestHs.is {P : Program} {w : World} {H : Hp} {h : Heap} (ok : HOk P w H h) : ∀ {ks : List NestedKey} {vs : List V} {us : List Value}, NestHs H ks vs → Vals vs us → NestedAll h ks us
  | _, _, _, .nil, .nil => .nil
  | _, _, _, .cons p q, .cons r t => .cons (NestH.is ok p r) (NestHs.is ok q t)
end
mutual
/-- keys without texts: one hash in every world -/
theorem NestH.hash {H : Hp} (w w' : World) : ∀ {k : NestedKey} {v : V}, NestH H k v → k.hash w = k.hash w'
  | _, _, .bl b => rfl
  | _, _, .int i => rfl
  | _, _, .tup h t => by rw [NestedKey.hash, NestedKey.hash, NestHs.hash w w' t]
theorem NestHs.hash {H : Hp} (w w' : World) : ∀ {ks : List NestedKey} {vs : List V}, NestHs H ks vs → NestedKey.hashes w ks = NestedKey.hashes w' ks
  | _, _, .nil => rfl
  | _, _, .cons h t => by rw [NestedKey.hashes, NestedKey.hashes, NestH.hash w w' h, NestHs.hash w w' t]
end
/-- the entries: the key, its place, the value -/
abbrev NE := List (NestedKey × Addr × V)
def NEnt (x : NestedKey × Addr × V) (e : DictEntry) : Prop := (∀ w : World, e.hash = x.1.hash w) ∧ e.key = .ref x.2.1 ∧ RelV x.2.2 e.val
/-- the dict at d holds these -/
def nkO (d : Addr) (xs : NE) : HO := .ext fun h => (xs.length ≤ sizeLine ∧ (d == sysModules) = false) ∧ ∃ o es ep, h.get? d = some o ∧ o.ExactDict ∧ o.data = .dict es ep ∧ Paired NEnt xs es.toList
/-- the keys are keys -/
structure NKs (H : Hp) (xs : NE) : Prop where
  nd : (xs.map (·.1)).Nodup
  is : ∀ x ∈ xs, NestH H x.1 (.ref x.2.1) ∧ x.1.depth ≤ 8
theorem NKs.nil (H : Hp) : NKs H [] := ⟨List.nodup_nil, fun x h => nomatch h⟩
abbrev NV (x : NestedKey × Addr × V) (y : NestedKey × Addr × Value) : Prop := x.1 = y.1 ∧ x.2.1 = y.2.1 ∧ RelV x.2.2 y.2.2
section
variable {P : Program} {w : World} {H : Hp} {h : Heap} {d : Addr} {xs : NE}
/-- what stands at a key -/
def valN (xs : NE) (k : NestedKey) : Option V := (xs.find? fun x => decide (x.1 = k)).map (·.2.2)
/-- d[k] = v -/
def putN (xs : NE) (k : NestedKey) (b : Addr) (v : V) : NE := if (valN xs k).isSome = true then xs.map fun x => if x.1 = k then (x.1, x.2.1, v) else x else xs ++ [(k, b, v)]
theorem putN_mem {xs : NE} {k : NestedKey} {b : Addr} {v : V} {x : NestedKey × Addr × V} (hx : x ∈ putN xs k b v) : (x.1 = k ∧ x.2.1 = b) ∨ ∃ y ∈ xs, y.1 = x.1 ∧ y.2.1 = x.2.1 := by
  unfold putN at hx
  split at hx
  · obtain ⟨y, hy, e⟩ := List.mem_map.mp hx
    refine .inr ⟨y, hy, ?_⟩
    subst e
    split <;> exact ⟨rfl, rfl⟩
  · rcases List.mem_append.mp hx with z | z
    · exact .inr ⟨x, z, rfl, rfl⟩
    · rw [List.mem_singleton.mp z]
      exact .inl ⟨rfl, rfl⟩
theorem valN_none {xs : NE} {k : NestedKey} (h : ¬ (valN xs k).isSome = true) : k ∉ xs.map (·.1) := fun hm => by
  obtain ⟨x, hx, e⟩ := List.mem_map.mp hm
  apply h
  unfold valN
  rw [Option.isSome_map, List.find?_isSome]
  exact ⟨x, hx, decide_eq_true e⟩
theorem NKs.put {xs : NE} {k : NestedKey} {b : Addr} {v : V} (h : NKs H xs) (hk : NestH H k (.ref b)) (hd : k.depth ≤ 8) : NKs H (putN xs k b v) := by
  refine ⟨?_, fun x hx => ?_⟩
  · unfold putN
    split
    · rw [List.map_map, show ((·.1) ∘ fun x : NestedKey × Addr × V => if x.1 = k then (x.1, x.2.1, v) else x) = (·.1) from funext fun x => by
        show (if x.1 = k then (x.1, x.2.1, v) else x).1 = x.1
        split <;> rfl]
      exact h.nd
    · rename_i c
      rw [List.map_append]
      exact List.nodup_append.mpr ⟨h.nd, by simp, fun a ha c' hc => by
        have hc : c' = k := by simpa using hc
        subst hc
        intro e
        subst e
        exact valN_none c ha⟩
  · rcases putN_mem hx with ⟨e1, e2⟩ | ⟨y, hy, e1, e2⟩
    · rw [e1, e2]; exact ⟨hk, hd⟩
    · rw [← e1, ← e2]; exact h.is y hy
theorem NKs.mono {H' : Hp} {xs : NE} (e : Same H H') (h : NKs H xs) : NKs H' xs := ⟨h.nd, fun x hx => ⟨(h.is x hx).1.mono e, (h.is x hx).2⟩⟩
end
/-- what the dict at a holds at the key y -/
def NGet (H : Hp) (a : Addr) (y : V) (r : Option V) : Prop := ∃ xs k b, Rd H a (nkO a xs) ∧ NKs H xs ∧ y = .ref b ∧ NestH H k (.ref b) ∧ k.depth ≤ 8 ∧ r = valN xs k
def NPut (H : Hp) (a : Addr) (y v : V) (H' : Hp) : Prop := ∃ xs k b, H a = some (nkO a xs) ∧ NKs H xs ∧ y = .ref b ∧ NestH H k (.ref b) ∧ k.depth ≤ 8 ∧ xs.length < sizeLine ∧ H' = upd H a (nkO a (putN xs k b v))
section
variable {X : Cx} {pins : List (Addr × Obj)} {σ : L2.St} {H : Hp} {s : Shared} {a : Addr} {y v : V} {u r : Value} {o : Option V} {A : Around} {E : Value → Shared → Prop}
end
/-! ### the rules -/
/-- {} -/
def tNNew : TE := fun _ H Q => ∀ p, H p = none → Q (.ref p) (upd H p (nkO p []))
def tNIn (ty td : TE) : TE := fun σ H Q => ty σ H fun y H1 => td σ H1 fun x H2 => ∃ a o, x = .ref a ∧ NGet H2 a y o ∧ Q (.bl o.isSome) H2
def tNNotIn (ty td : TE) : TE := fun σ H Q => ty σ H fun y H1 => td σ H1 fun x H2 => ∃ a o, x = .ref a ∧ NGet H2 a y o ∧ Q (.bl (!o.isSome)) H2
def IsN (H : Hp) (a : Addr) : Prop := ∃ xs, Rd H a (nkO a xs)
def tNGet2 (td ty tx : TE) : TE := fun σ H Q => td σ H fun x H1 => ∃ a, x = .ref a ∧ IsN H1 a ∧ ty σ H1 fun y H2 => tx σ H2 fun z H3 => ∃ o, NGet H3 a y o ∧ Q (o.getD z) H3
def rSetN : TSet := fun o i v H Q => ∃ a H', o = .ref a ∧ NPut H a i v H' ∧ Q H'
section
variable {X : Cx} {o i e f : Expr} {pos apos cpos : Pos} {td ty tx : TE}
end
end ML

/-! ## dicts whose keys are nested: copies, updates, walks -/
namespace ML
open PySem PySem.Spec PyProof.Rows L2

section
variable {P : Program} {w : World} {A : Around} {E : Value → Shared → Prop} {s : Shared}
end
/-- dict(d), d of nested keys whose hashes differ -/
def rDictN : List V → Hp → VK → Prop := fun xs H Q => ∃ (a : Addr) (ps : NE), xs = [.ref a] ∧ Rd H a (nkO a ps) ∧ NKs H ps ∧ (∀ w : World, (ps.map fun x => x.1.hash w).Nodup) ∧ ∀ p, H p = none → Q (.ref p) (upd H p (nkO p ps))
section
variable {X : Cx}
end
end ML

/-! ## walks over dicts whose keys are nested -/
namespace ML
open PySem PySem.Spec PyProof.Rows L2

/-- the keys' own tuples -/
def Itnk (d : Addr) (o : Obj) (xs : NE) : It :=
  ⟨fun i H => H d = some (.frz o (nkO d xs)) ∧ i < xs.length, fun i H x H' => H' = H ∧ ∃ k b v, xs[i]? = some (k, b, v) ∧ x = .ref b, fun i H => H d = some (.frz o (nkO d xs)) ∧ xs.length ≤ i⟩
/-- the pairs, each new -/
def Itni (d : Addr) (o : Obj) (xs : NE) : It :=
  ⟨fun i H => H d = some (.frz o (nkO d xs)) ∧ i < xs.length, fun i H x H' => ∃ T k b v, xs[i]? = some (k, b, v) ∧ x = .ref T ∧ H T = none ∧ H' = upd H T (.tup [.ref b, v]), fun i H => H d = some (.frz o (nkO d xs)) ∧ xs.length ≤ i⟩
section
variable {X : Cx} {pins : List (Addr × Obj)} {σ : L2.St} {H : Hp} {s : Shared} {d : Addr} {o : Obj} {xs : NE}
end
section
variable {P : Program} {w : World} {K : PySem.W.Frag} {tg : Expr} {d : Addr} {o : Obj} {es : Array DictEntry} {ep : Nat} {xs : NE}
end
/-- the dict is locked -/
def iKeysN (td : TE) : TI := fun σ H R => td σ H fun x H1 => ∃ d o xs, x = .ref d ∧ H1 d = some (.frz o (nkO d xs)) ∧ R (Itnk d o xs) H1
def iItemsN (td : TE) : TI := fun σ H R => td σ H fun x H1 => ∃ d o xs, x = .ref d ∧ H1 d = some (.frz o (nkO d xs)) ∧ R (Itni d o xs) H1
section
variable {X : Cx} {tg e : Expr} {td : TE} {apos cpos : Pos}
end
end ML

/-! ## dicts whose keys are nested, in the layer -/
namespace ML
open PySem PySem.Spec PyProof.Rows L2

/-- values that are keys -/
structure KR {κ : Type} (r : R κ) where
  nk : κ → NestedKey
  inj : ∀ x y, nk x = nk y → x = y
  dep : Nat
  low : ∀ x, (nk x).depth ≤ dep
  is : ∀ {x : κ} {F : Hp} {v : V}, r.p x F v → NestH F (nk x) v
def kInt : KR rInt := ⟨.num, fun x y e => by injection e, 0, fun x => Nat.le_refl _, fun {x F v} h => by
  have h : v = .int x := h
  subst h
  exact .int x⟩
def kBool : KR rBool := ⟨fun b => .num (if b = true then 1 else 0), fun x y e => by
  have e : (if x = true then (1 : Int) else 0) = if y = true then 1 else 0 := by injection e
  cases x <;> cases y <;> simp at e ⊢, 0, fun x => Nat.le_refl _, fun {x F v} h => by
  have h : v = .bl x := h
  subst h
  exact .bl x⟩
theorem nest_all {κ : Type} {r : R κ} (k : KR r) {F : Hp} : ∀ {xs : List κ} {us : List V}, All2 (fun x u => r.p x F u) xs us → NestHs F (xs.map k.nk) us
  | _, _, .nil => .nil
  | _, _, .cons q t => .cons (k.is q) (nest_all k t)
theorem depth_all {κ : Type} {f : κ → NestedKey} {n : Nat} (h : ∀ x, (f x).depth ≤ n) : ∀ xs : List κ, NestedKey.depthAll (xs.map f) ≤ n
  | [] => Nat.zero_le _
  | x :: xs => by
    rw [List.map_cons, NestedKey.depthAll]
    exact Nat.max_le.mpr ⟨h x, depth_all h xs⟩
theorem map_inj {α β : Type} {f : α → β} (h : ∀ x y, f x = f y → x = y) : ∀ xs ys : List α, xs.map f = ys.map f → xs = ys
  | [], [], _ => rfl
  | [], _ :: _, e => by cases e
  | _ :: _, [], e => by cases e
  | x :: xs, y :: ys, e => by
    rw [List.map_cons, List.map_cons] at e
    injection e with e1 e2
    rw [h x y e1, map_inj h xs ys e2]
def kTup {κ : Type} {r : R κ} (k : KR r) : KR (rTup r) := ⟨fun xs => .tup (xs.map k.nk), fun x y e => map_inj k.inj x y (by injection e), k.dep + 1, fun x => by
  rw [NestedKey.depth]
  have := depth_all k.low x
  omega, fun {x F v} h => by
  obtain ⟨hz, a, us, rfl, hF, hA⟩ := h
  exact .tup hF (nest_all k hA)⟩
section
variable {κ α : Type} {rk : R κ}
/-- a table's rows -/
abbrev RowN (kr : KR rk) (r : R α) (F : Hp) : (κ × α) → (NestedKey × Addr × V) → Prop := fun x y => y.1 = kr.nk x.1 ∧ rk.p x.1 F (.ref y.2.1) ∧ r.p x.2 F y.2.2
theorem rowsN_mono {kr : KR rk} {r : R α} {F F' : Hp} {xs : List (κ × α)} {ys : NE} (e : Same F F') (h : All2 (RowN kr r F) xs ys) : All2 (RowN kr r F') xs ys := h.imp fun _ _ q => ⟨q.1, rk.mono e q.2.1, r.mono e q.2.2⟩
variable [DecidableEq κ]
def gotN (xs : List (κ × α)) (k : κ) : Option α := (xs.find? fun p => decide (p.1 = k)).map (·.2)
def putNN (xs : List (κ × α)) (k : κ) (x : α) : List (κ × α) := if (gotN xs k).isSome = true then xs.map (fun p => if p.1 = k then (p.1, x) else p) else xs ++ [(k, x)]
def oPutN (xs : List (κ × α)) (k : κ) (x : α) : Option (List (κ × α)) := if xs.length < sizeLine then some (putNN xs k x) else none
end
/-- a dict that stands still (locked for good); a dict that changes -/
def rND {κ α : Type} {rk : R κ} (kr : KR rk) (r : R α) : R (List (κ × α)) := ⟨fun (xs : List (κ × α)) F v => (xs.length ≤ sizeLine ∧ kr.dep ≤ 8 ∧ (xs.map fun p : κ × α => p.1).Nodup) ∧ ∃ a od ys, v = .ref a ∧ F a = some (.frz od (nkO a ys)) ∧ All2 (RowN kr r F) xs ys,
  fun {_ _ _ _} e ⟨h0, a, od, ys, h1, h2, h3⟩ => ⟨h0, a, od, ys, h1, e _ _ h2, rowsN_mono e h3⟩⟩
def cND {κ α : Type} {rk : R κ} (p : Addr) (kr : KR rk) (r : R α) (xs : List (κ × α)) : Cl := ⟨fun F o => (xs.length ≤ sizeLine ∧ kr.dep ≤ 8 ∧ (xs.map fun p : κ × α => p.1).Nodup) ∧ ∃ ys, o = nkO p ys ∧ All2 (RowN kr r F) xs ys, fun {_ _ _} e ⟨h0, ys, h1, h2⟩ => ⟨h0, ys, h1, rowsN_mono e h2⟩⟩
section
variable {nx bk ct : L2.St → Hp → Prop} {rt : VK}
variable {W : Wd} {G : Gam} {T : Tms} {cs : Cells} {K : Sl → Cells → Prop} {t : TA} {ta tb tc te to ti td tk : TE} {tt : TT} {KF : PySem.W.Frag}
theorem key_ref {F : Hp} {ks : List NestedKey} {v : V} (h : NestH F (.tup ks) v) : ∃ b, v = .ref b := by
  cases h
  exact ⟨_, rfl⟩
/-- what the layer asks: keys are tuples -/
def KTup {κ : Type} {rk : R κ} (kr : KR rk) : Prop := ∀ x, ∃ ks, kr.nk x = .tup ks
theorem KTup.ref {κ : Type} {rk : R κ} {kr : KR rk} (h : KTup kr) {x : κ} {F : Hp} {v : V} (p : rk.p x F v) : ∃ b, v = .ref b := by
  obtain ⟨ks, e⟩ := h x
  have := kr.is p
  rw [e] at this
  exact key_ref this
end
end ML

/-! ## dicts whose keys are nested: displays, guarded copies, stores; xs[i] += e -/
namespace ML
open PySem PySem.Spec PyProof.Rows L2

mutual
/-- the hash of a key without texts -/
def keyH : NestedKey → Int
  | .none => 0
  | .num i => hashInt i
  | .text _ => 0
  | .tup ks => reduceHash (Builtin.Tuple.tupleHashOf (keyHs ks))
def keyHs : List NestedKey → List Int
  | [] => []
  | k :: ks => keyH k :: keyHs ks
end
mutual
theorem NestH.keyH {H : Hp} (w : World) : ∀ {k : NestedKey} {v : V}, NestH H k v → k.hash w = ML.keyH k
  | _, _, .bl b => rfl
  | _, _, .int i => rfl
  | _, _, .tup h t => by rw [NestedKey.hash, ML.keyH, NestHs.keyHs w t]
theorem NestHs.keyHs {H : Hp} (w : World) : ∀ {ks : List NestedKey} {vs : List V}, NestHs H ks vs → NestedKey.hashes w ks = ML.keyHs ks
  | _, _, .nil => rfl
  | _, _, .cons h t => by rw [NestedKey.hashes, ML.keyHs, NestH.keyH w h, NestHs.keyHs w t]
end
/-- a copy: the keys' hashes must differ -/
def oCopyN {κ α : Type} {rk : R κ} (kr : KR rk) (xs : List (κ × α)) : Option (List (κ × α)) := if (xs.map fun x => keyH (kr.nk x.1)).Nodup then some xs else none
/-- {k: v} -/
def tNDisp1 (tk tv : TE) : TE := fun σ H Q => ∀ p, H p = none → tk σ (upd H p (nkO p [])) fun x H1 => tv σ H1 fun y H2 => H2 p = some (nkO p []) ∧ ∃ k b, x = .ref b ∧ NestH H2 k (.ref b) ∧ k.depth ≤ 8 ∧ Q (.ref p) (upd H2 p (nkO p [(k, b, y)]))
section
variable {nx bk ct : L2.St → Hp → Prop} {rt : VK}
variable {W : Wd} {G : Gam} {T : Tms} {cs : Cells} {K : Sl → Cells → Prop} {t : TA} {ta tb tc te to ti td tk tv : TE} {tt : TT} {KF : PySem.W.Frag}
end
end ML

/-! ## i *= e; xs[i] += e -/
namespace ML
open PySem PySem.Spec PyProof.Rows L2
theorem _root_.ML.RoomG.u9 {k : Nat} {A : Around} (r : RoomG k A) : A.units + 9 < cLine := by have := r.units; omega
def oLow (i : Int) : Option Unit := if 0 ≤ i then some () else none
section
variable {X : Cx}
/-- xs[i], i no less than 0 -/
def rGetL (K : PySem.W.Frag) : V → V → Hp → VK → Prop := fun x y H Q => ∃ p xs i v, x = .ref p ∧ y = .int i ∧ 0 ≤ i ∧ SqL K H p xs ∧ atI xs i = some v ∧ Q v H
end
section
variable {nx bk ct : L2.St → Hp → Prop} {rt : VK}
variable {W : Wd} {G : Gam} {T : Tms} {cs : Cells} {K : Sl → Cells → Prop} {t : TA} {ta tb tc te to ti td tk tv : TE} {tt : TT} {KF : PySem.W.Frag}
end
end ML

/-! ## dicts whose keys are nested: d.update(d2); a dict locked at its name, ahead of a statement -/
namespace ML
open PySem PySem.Spec PyProof.Rows L2

/-- d.update(d2) -/
def putAllN (xs : NE) (ms : NE) : NE := ms.foldl (fun acc m => putN acc m.1 m.2.1 m.2.2) xs
def NUpd (H : Hp) (a o : Addr) (H' : Hp) : Prop := ∃ xs ms, a ≠ o ∧ H a = some (nkO a xs) ∧ NKs H xs ∧ Rd H o (nkO o ms) ∧ NKs H ms ∧ (xs ≠ [] ∨ ∀ w : World, (ms.map fun x => x.1.hash w).Nodup) ∧ xs.length + ms.length ≤ sizeLine ∧ H' = upd H a (nkO a (putAllN xs ms))
def tNUpd (td te : TE) : TE := fun σ H Q => td σ H fun x H1 => ∃ a, x = .ref a ∧ IsN H1 a ∧ te σ H1 fun y H2 => ∃ o H', y = .ref o ∧ NUpd H2 a o H' ∧ Q .non H'
section
variable {X : Cx} {o e : Expr} {apos cpos : Pos} {td te : TE}
/-- the dict at the name i is locked, then the statements -/
def tLockS (i : Nat) (t : TS) : TS := fun D σ H => ∃ p u, σ[i]? = some (some (.ref p)) ∧ H p = some u ∧ Mut (some u) ∧ ∀ od, t D σ (upd H p (.frz od u))
end
/-- d.update(d2), in the layer -/
def updNN {κ α : Type} [DecidableEq κ] (xs ys : List (κ × α)) : List (κ × α) := ys.foldl (fun acc p => putNN acc p.1 p.2) xs
def oUpdN {κ α : Type} [DecidableEq κ] {rk : R κ} (kr : KR rk) (xs ys : List (κ × α)) : Option (List (κ × α)) :=
  if (xs ≠ [] ∨ (ys.map fun x => keyH (kr.nk x.1)).Nodup) ∧ xs.length + ys.length ≤ sizeLine then some (updNN xs ys) else none
section
variable {κ α : Type} [DecidableEq κ] {rk : R κ} {kr : KR rk} {r : R α} {F : Hp}
end
section
variable {nx bk ct : L2.St → Hp → Prop} {rt : VK}
variable {W : Wd} {G : Gam} {T : Tms} {cs : Cells} {K : Sl → Cells → Prop} {td te : TE} {t : TS}
end
end ML

/-! ## dicts whose keys are nested: keys that are pairs; list(d); dict(xs) of a list of pairs -/
namespace ML
open PySem PySem.Spec PyProof.Rows L2

def kPair {α β : Type} {r : R α} {q : R β} (k : KR r) (l : KR q) : KR (rPair r q) := ⟨fun x => .tup [k.nk x.1, l.nk x.2], fun x y e => by
  injection e with e
  injection e with e1 e2
  injection e2 with e2 _
  exact Prod.ext (k.inj _ _ e1) (l.inj _ _ e2), max k.dep l.dep + 1, fun x => by
  rw [NestedKey.depth, NestedKey.depthAll, NestedKey.depthAll, NestedKey.depthAll]
  have h1 := k.low x.1
  have h2 := l.low x.2
  omega, fun {x F v} h => by
  obtain ⟨a, u, w, rfl, h2, h3, h4⟩ := h
  exact .tup h2 (.cons (k.is h3) (.cons (l.is h4) .nil))⟩
/-! ### list(d) -/
def rListN : List V → Hp → VK → Prop := fun xs H Q => ∃ (d : Addr) (ps : NE), xs = [.ref d] ∧ Rd H d (nkO d ps) ∧ ∀ q, H q = none → Q (.ref q) (upd H q (.lst (ps.map fun x => V.ref x.2.1)))
/-! ### dict(xs) of a list of pairs -/
/-- a pair's tuple and its row -/
def PRow (H : Hp) (t : Addr) (m : NestedKey × Addr × V) : Prop := H t = some (.tup [.ref m.2.1, m.2.2]) ∧ NestH H m.1 (.ref m.2.1) ∧ m.1.depth ≤ 8
def rDictP (K : PySem.W.Frag) : List V → Hp → VK → Prop := fun xs H Q => ∃ (a : Addr) (ts : List Addr) (ms : NE), xs = [.ref a] ∧ SqL K H a (ts.map V.ref) ∧ Paired (PRow H) ts ms ∧ ∀ p, H p = none → Q (.ref p) (upd H p (nkO p (putAllN [] ms)))
section
variable {nx bk ct : L2.St → Hp → Prop} {rt : VK}
variable {W : Wd} {G : Gam} {T : Tms} {cs : Cells} {K : Sl → Cells → Prop} {t ta tb : TE}
variable {KF : PySem.W.Frag}
end
end ML

/-! ## repr of whole numbers of up to 4,096 bits: the statics hold no limit of digits -/
namespace ML
open PySem PySem.Spec PyProof.Rows L2

def oReprI (i : Int) : Option Str := if Sml i then some ((toString i : String) : Str) else none
def rReprI : List V → Hp → VK → Prop := fun xs H Q => ∃ i : Int, xs = [.int i] ∧ Sml i ∧ Q (.str ((toString i : String) : Str)) H
section
variable {nx bk ct : L2.St → Hp → Prop} {rt : VK}
variable {W : Wd} {G : Gam} {T : Tms} {cs : Cells} {K : Sl → Cells → Prop}
end
end ML

/-! ## an own error whose __init__ says super().__init__(x); self.f = x -/
namespace ML
open PySem PySem.Spec PyProof.Rows L2

abbrev sEnv (qual : Str) (scope : Scope) (L f : Addr) (cda cc : Addr) : Env := PySem.W.ksEnv qual scope L f (.ref cda) cc
/-- the context of such an __init__ -/
def cxS (CX : CXT) (P : Program) (w : World) (K : PySem.W.Frag) (mg : Str → Option Value) (base : Heap) (N : List Str) (qual : Str) (scope : Scope) (f cda cc : Addr) (A : Around) (outer : List Env) (s : Shared) (H : Hp) (E : XK) : Cx where
  prog := P
  w := w
  K := K
  mg := mg
  base := base
  A := A.deeper (sEnv qual scope s.heap.objs.size f cda cc)
  N := N
  s_0 := s
  H_0 := H
  env := sEnv qual scope s.heap.objs.size f cda cc
  outer := outer
  stack := sEnv qual scope s.heap.objs.size f cda cc :: outer
  ex := []
  fn := fun _ => false
  calm := true
  pn := []
  xe := fun e s' => wpAny (model P w) (A.deeper (sEnv qual scope s.heap.objs.size f cda cc)) (leaving (sEnv qual scope s.heap.objs.size f cda cc) e) (fun _ s'' => CX outer H s E e s'') (fun e' s'' => CX outer H s E e' s'') s'
structure SScope (N : List Str) (sc : Scope) : Prop where
  kind : sc.kind = .function
  co : sc.isCoroutine = false
  gen : sc.isGenerator = false
  nd : N.Nodup
  par : ∀ x ∈ N, sc.names.lookup x = some .local
  cls : sc.names.lookup ("__class__" : Str) = some .free
  sup : sc.names.lookup ("super" : Str) = some .globalImplicit
  nocell : ∀ y ∈ sc.names, y.2 ≠ .cell
  onef : ∀ y ∈ sc.names, y.2 = .free → y.1 = ("__class__" : Str)
/-- what the written part says of the __init__ of the class C -/
structure SupI (K : PySem.W.Frag) (P : Program) (C f cda cc : Addr) (qual : Str) (params : Arguments) (body : List Stmt) (scope : Scope) (fd : FuncData) : Prop where
  fn : ∃ (name : Str) (dV kV doc pm ct oc : Value) (an od : Option Addr) (osl : Array (Option Value)), fd = PySem.W.ksFn name qual params body scope dV kV doc pm an (.ref cda) ct cc ∧ K.lookup f = some ⟨oc, od, .func fd, osl⟩
  code : PySem.W.codeIn K (.ref cda) qual = true
  file : ∃ (ccl : Value) (cdd : Option Addr) (vs : Array Value) (ccs : Array (Option Value)) (file : Str) (tf : Tok), K.lookup cda = some ⟨ccl, cdd, .fields vs, ccs⟩ ∧ vs[2]? = some (.str file tf) ∧ ((P.main.file : Str) == file) = true
  cell : ∃ (cl : Value) (cld : Option Addr) (csl : Array (Option Value)), K.lookup cc = some ⟨cl, cld, .cell (some (.ref C)), csl⟩
  mro : PySem.W.ks_superIn K C C "__init__" = some (some (.builtin "ValueError.__init__"))
  self : PySem.W.mroIn K C (.ref C) = some true
  subV : PySem.W.subIn K (.ref C) (.type "ValueError") = some true
  stat : PySem.W.nsIn K cStatics "thirdparty.any" = some none
  top : (P.main.scope.names.lookup ("super" : Str)).isSome = false
theorem lookup_one {l : List (Str × Value)} {y : Str} {u : Value} : ∀ {l : List (Str × Value)}, (l.map (·.1)).Nodup → (y, u) ∈ l → l.lookup y = some u
  | [], _, h => nomatch h
  | (z, v) :: l, nd, h => by
    rw [List.lookup_cons]
    obtain ⟨n1, n2⟩ := List.pairwise_cons.mp (show ((z, v) :: l).map (·.1) |>.Pairwise (· ≠ ·) from nd)
    rcases List.mem_cons.mp h with e | h
    · cases e
      rw [beq_self_eq_true]
    · have : (y == z) = false := by
        refine beq_eq_false_iff_ne.mpr fun e => ?_
        exact n1 y (List.mem_map.mpr ⟨(y, u), h, rfl⟩) e.symm
      rw [this]
      exact lookup_one (l := l) n2 h
theorem lookup_rev_zip {N : List Str} {us : List Value} (nd : N.Nodup) (hl : us.length = N.length) {y : Str} {u : Value} (h : (y, u) ∈ N.zip us) : (N.zip us).reverse.lookup y = some u := by
  have e : (N.zip us).map (·.1) = N := List.map_fst_zip (by omega)
  rw [lookup_reverse_of_nodup _ (by rw [e]; exact nd) y]
  exact lookup_one (l := N.zip us) (by rw [e]; exact nd) h
section
variable {CX : CXT} {P : Program} {w : World} {K : PySem.W.Frag} {mg : Str → Option Value} {base : Heap}
theorem inv_startS {N : List Str} {qual : Str} {scope : Scope} {f cda cc C : Addr} {A : Around} {outer : List Env} {s s1 : Shared} {H : Hp} {E : XK} {us : List Value} {vs : List V} {cl : Value} {cld : Option Addr} {csl : Array (Option Value)}
    (S : SScope N scope) (hd : A.handled = none) (e0 : Env0 P w K mg base A outer s H) (hl : vs.length = N.length) (r : Vals vs us) (hcell : K.lookup cc = some ⟨cl, cld, .cell (some (.ref C)), csl⟩)
    (hns : s1.heap.Ns s.heap.objs.size (fun x => (N.zip us).reverse.lookup x)) (hk : ∀ b o, s.heap.get? b = some o → s1.heap.get? b = some o) (hos : s1.os = s.os) (hg : s1.gens = s.gens) :
    Inv (cxS CX P w K mg base N qual scope f cda cc A outer s H E) [] (L2.start N vs) H s1 := by
  have noA : ∀ b : Addr, b ∉ (cxS CX P w K mg base N qual scope f cda cc A outer s H E).ex := fun b z => absurd (show b ∈ ([] : List Addr) from z) (by simp)
  have KX : base.get? cc = some ⟨cl, cld, .cell (some (.ref C)), csl⟩ := e0.mod.kin _ _ hcell
  have cells1 : ∀ {x : Str} {c : Addr}, (cxS CX P w K mg base N qual scope f cda cc A outer s H E).env.cells.lookup x = some c → x = ("__class__" : Str) ∧ c = cc := fun {x c} h => by
    have h : List.lookup x [(("__class__" : Str), cc)] = some c := h
    rw [List.lookup_cons] at h
    split at h
    · rename_i q
      exact ⟨eq_of_beq q, (Option.some.inj h).symm⟩
    · cases h
  refine ⟨⟨e0.mod, S.kind, rfl, rfl, Nat.le_refl _, fun y z c h1 h2 => (cells1 h1).1.trans (cells1 h2).1.symm, fun y hy => ?_, fun y c h => (by cases h), fun _ => hd, Around.frames_deeper e0.frames, .inr ⟨rfl, rfl⟩, fun b z => absurd z (noA b), e0.bs, e0.bsz, fun b _ _ => noA b, fun b z => absurd z (noA b), e0.funs, e0.frf⟩,
    hos, by rw [hg]; exact e0.bare, Un.kept hk, ⟨_, hns, fun i y v h1 h2 h3 => ?_⟩, fun y c h => ?_, e0.hok.fresh (Nat.le_refl _), fun y c h => ?_, fun p hp => absurd (show p ∈ ([] : List (Addr × Obj)) from hp) (by simp), e0.hok.kept hk, ?_⟩
  · have hy : scope.names.lookup y = some .cell ∨ scope.names.lookup y = some .free := hy
    rcases hy with hy | hy
    · exact absurd rfl (S.nocell _ (PySem.mem_of_lookup hy))
    · have := S.onef _ (PySem.mem_of_lookup hy) rfl
      have this : y = ("__class__" : Str) := this
      subst this
      exact ⟨cc, rfl⟩
  · have hi : i < N.length := (List.getElem?_eq_some_iff.mp h1).1
    have ha : vs[i]? = some v := by
      unfold L2.start at h2
      rw [List.getElem?_append_left (by rw [List.length_map]; omega), List.getElem?_map] at h2
      cases e : vs[i]? with
      | none => rw [e] at h2; cases h2
      | some a => rw [e] at h2; cases h2; rfl
    obtain ⟨u, hu, rv⟩ := r.get ha
    refine ⟨u, rv, .inl ⟨S.par y (List.mem_of_getElem? h1), ?_⟩⟩
    have hm : (y, u) ∈ N.zip us := List.mem_iff_getElem?.mpr ⟨i, by rw [List.getElem?_zip_eq_some]; exact ⟨h1, hu⟩⟩
    exact lookup_rev_zip S.nd (r.length.symm.trans hl) hm
  · obtain ⟨_, e⟩ := cells1 h
    rw [e]
    exact ⟨some (.ref C), _, hk _ _ (e0.bs _ _ KX).1, rfl⟩
  · obtain ⟨_, e⟩ := cells1 h
    rw [e]
    exact (e0.bs _ _ KX).2
  · unfold L2.start
    show _ = N.length
    rw [List.length_append, List.length_map, List.length_replicate]
    omega
end
/-! ### ValueError's __init__, bound, called -/
section
variable {prog : Program} {w : World} {A : Around} {E : Value → Shared → Prop} {hp : Heap} {g : Array GenState} {d : Drawn} {t : Nat} {os : OsState}
variable {nm q : Str} {C N : Addr} {bs bm : List Value} {hdct : Bool} {sn : List Str} {sub : List Value} {ab : Bool} {col : Option Bool} {dd : Option Addr} {k0 k1 k2 k3 k5 : Option Value}
theorem mw_call {u e t0 : Addr} {ws : List Value} {Q : Value → Shared → Prop} (hC : hp.get? C = some (excClassObj nm q C N bs bm hdct sn sub ab col dd k0 k1 k2 k3 k5 "ValueError.__new__")) (he : hp.get? e = some (PySem.HandSPX.excO C t0)) (hu : hp.get? u = some (PySem.W.kxs_mw "ValueError.__init__" e)) (hl : ws.length ≤ sizeLine)
    (hq : ∀ h2 t1, (∀ b o, b ≠ e → hp.get? b = some o → h2.get? b = some o) → h2.get? e = some (PySem.HandSPX.excO C t1) → Q .none ⟨h2, g, d, t, os⟩) : wpAny (model prog w) A (call (.ref u) ws) Q E ⟨hp, g, d, t, os⟩ := by
  refine wpAny_call (codeAny_of_tree (show wpAny (model prog w) A.in1 (callAny (.ref u) ⟨ws, []⟩) _ _ _ from ?_))
  simp only [callAny]
  refine wpAny_bind (wpAny_load hu ?_)
  simp only [PySem.W.kxs_mw, show ((Value.type "method-wrapper" == Value.type "method" || Value.type "method-wrapper" == Value.type "builtin_function_or_method") || Value.type "method-wrapper" == Value.type "method-wrapper") = true by decide, if_true]
  refine PySem.W.KFB.if_so (by decide) (wpAny_bind (PySem.ESX.check_bound F.excBase_ValueError hC he rfl (wpAny_bind (wpAny_pure (wpAny_pure ⟨Code.quiet_builtin _ (by decide +kernel), codeAny_builtin F.excBase_ValueError.initEntry ?_⟩)))))
  rw [Around.under_plainId F.excBase_ValueError.init.plain _]
  wp_walk
  refine hq _ hp.objs.size (fun b o hb ho => ?_) ?_
  · rw [Heap.get?_update_other _ _ (Ne.symm hb)]; exact Heap.get?_push_of_some _ ho
  · rw [Heap.get?_update_self _ (Heap.get?_push_of_some _ he) rfl]; rfl
end
/-! ### the __init__ of one field -/
/-- the object is an exception without a dict; the field is laid -/
def spOne (C : Addr) (fl : Str) : Sp := fun vs H Q _ => ∃ (a : Addr) (y : V), vs = [.ref a, y] ∧ H a = some (exo a C none) ∧ ∀ dx, H dx = none → dx ≠ a → Q .non (upd (upd H dx (exd dx [(fl, y)])) a (exo a C (some dx)))
/-- how the text of such an __init__ reads (by rfl, at the text) -/
structure SupT (qual : Str) (scope : Scope) (f cda cc : Addr) (me x fl : Str) (p0 p1 p2 p3 p4 p5 p6 p7 p8 p9 : Pos) (pl : Addr → Sem Bool) : Prop where
  he : ∀ L : Addr, eval (.Call (.Attribute (.Call (.Name "super" p0) [] [] p1) "__init__" p2) [.Name x p3] [] p4) (sEnv qual scope L f cda cc) = (do
    let ov ← attributeBase (.Call (.Name "super" p0) [] [] p1) "__init__" (sEnv qual scope L f cda cc) (eval (.Call (.Name "super" p0) [] [] p1) (sEnv qual scope L f cda cc))
    standAt p2.atName
    let (fv, first) ← holding [ov] (getMethod ov "__init__" (pl L))
    callWith p4 fv first (backTo p4 (starEach [.Name x p3] (sEnv qual scope L f cda cc))) [])
  hi : ∀ L : Addr, interactive (sEnv qual scope L f cda cc) = false
  h1 : ∀ L : Addr, swapsWith (.Call (.Attribute (.Call (.Name "super" p0) [] [] p1) "__init__" p2) [.Name x p3] [] p4) none p5.line (sEnv qual scope L f cda cc) = pure false
  h2 : ∀ L : Addr, swapsWith (.Name x p8) (some (.Attribute (.Name me p6) fl p7)) p9.line (sEnv qual scope L f cda cc) = pure false
theorem init_sup {CX : CXT} {P : Program} {w : World} {K : PySem.W.Frag} {mg : Str → Option Value} {base : Heap} {k : Nat} {C f cda cc : Addr} {qual me x fl : Str} {params : Arguments} {body : List Stmt} {scope : Scope} {fd : FuncData} {ar : Arg} {pl : Addr → Sem Bool} {p0 p1 p2 p3 p4 p5 p6 p7 p8 p9 : Pos}
    (T : OexC K C) (SI : SupI K P C f cda cc qual params body scope fd) (S : SScope [me, x] scope) (hpar : (params.posonlyargs ++ params.args).head? = some ar) (har : ar.arg = me) (hno : PySem.W.findIn K (.ref C) fl = some none) (hsup : mg "super" = none)
    (hbody : body = [.Expr (.Call (.Attribute (.Call (.Name "super" p0) [] [] p1) "__init__" p2) [.Name x p3] [] p4) p5, .Assign [.Attribute (.Name me p6) fl p7] (.Name x p8) p9]) (ST : SupT qual scope f cda cc me x fl p0 p1 p2 p3 p4 p5 p6 p7 p8 p9 pl) (hdx : (x == ("__debug__" : Str)) = false) (hdm : (me == ("__debug__" : Str)) = false) :
    FnOk P w K mg base CX (k + 1) f fd [me, x] (spOne C fl) := by
  refine ⟨fun vs H Q E ⟨_, _, e, _⟩ => by rw [e]; rfl, fun A ou s H ar' us vs Q E hr e0 hbd r hsp => ?_⟩
  obtain ⟨a, y, rfl, ea, hq⟩ := hsp
  obtain ⟨name, dV, kV, doc, pm, ct, oc, an, od, osl, rfl, lk⟩ := SI.fn
  obtain ⟨ccl, cdd, cvs, ccs, file, tf, lcode, lvs, lfile⟩ := SI.file
  obtain ⟨cl, cld, csl, lcell⟩ := SI.cell
  obtain ⟨u0, uy, rfl, ru, ry⟩ : ∃ u0 uy, us = [u0, uy] ∧ RelV (.ref a) u0 ∧ RelV y uy := by
    cases r with
    | cons h1 t1 => cases t1 with | cons h2 t2 => cases t2; exact ⟨_, _, rfl, h1, h2⟩
  obtain rfl : u0 = Value.ref a := ru
  have KX : K.In s.heap := e0.mod.kin.keeps fun b o e => (e0.bs b o e).1
  have lim : s.heap.NoLimit := e0.mod.nolimit.keeps fun b o e => (e0.bs b o e).1
  refine ks_codeAny_call_defAt (binds := [(me, Value.ref a), (x, uy)]) hr.depth (KX _ _ lk) rfl lim (PySem.W.codeRec_of KX SI.code) rfl hbd S.nocell (fun z hz => ?_) (fun h0 hns hk0 => ?_) S.co S.gen S.kind
  · rcases List.mem_cons.mp hz with e | hz
    · rw [e]; exact S.par _ (by simp)
    · rw [List.mem_singleton.mp hz]; exact S.par _ (by simp)
  subst hbody
  have K0 : K.In h0 := KX.keeps hk0
  have I0 : Inv (cxS CX P w K mg base [me, x] qual scope f cda cc A ou s H E) [] (L2.start [me, x] [.ref a, y]) H { s with heap := h0, toks := s.toks + 2 } := inv_startS (us := [Value.ref a, uy]) S hr.hd e0 rfl (.cons rfl (.cons ry .nil)) lcell hns hk0 rfl rfl
  have hg0 : h0.Ns mainGlobals mg := (e0.mod.glob.keeps fun b o e => (e0.bs b o e).1).keeps hk0
  obtain ⟨mb, hb, hbb⟩ := e0.mod.blt
  have hb0 : h0.Ns builtinsNs mb := (hb.keeps fun b o e => (e0.bs b o e).1).keeps hk0
  obtain ⟨t1, hx⟩ := exo_at I0.hok ea
  obtain ⟨nm, q, N, bs, bm, sn, sub, ab, col, dd, k0, k1, k2, k3, k5, hC, hbm⟩ := T.cls
  have hcl : PySem.W.clsIn K C = some { name := nm, bases := bs, mro := .ref C :: bm, ns := N, qualname := q, hasDict := true, slotNames := sn, subclasses := sub, abstract := ab, collection := col, hasDel := false } := by unfold PySem.W.clsIn; rw [hC] <;> rfl
  have la : [me, x].Nodup := S.nd
  have hv0 : ([(me, Value.ref a), (x, uy)] : List (Str × Value)).reverse.lookup me = some (.ref a) := lookup_rev_zip (us := [Value.ref a, uy]) la rfl (by simp)
  have hv1 : ([(me, Value.ref a), (x, uy)] : List (Str × Value)).reverse.lookup x = some uy := lookup_rev_zip (us := [Value.ref a, uy]) la rfl (by simp)
  refine ks_wpAt_execs_cons (ks_wpAt_Expr_any (ks_wpAt_MethodCall (ks_wpAt_super_base (env := sEnv qual scope s.heap.objs.size f cda cc) S.sup S.cls rfl rfl (K0 _ _ lk) rfl hpar rfl (K0 _ _ lcode) rfl lvs lfile SI.top ?_) (ST.he _)) (ST.hi _) (ST.h1 _))
  refine PySem.W.ks_loadName_global S.kind S.sup (PySem.Calls.loadGlobal_builtin (env := sEnv qual scope s.heap.objs.size f cda cc) hg0 hsup hb0 ((hbb _ (by decide +kernel)).trans PyProof.Rows.Boot.«super») ⟨rfl, ?_⟩)
  refine wpAny_loadName_free S.kind S.cls rfl ⟨_, K0 _ _ lcell, rfl⟩ ?_
  rw [har]
  refine wpAny_loadName_local S.kind (S.par _ (by simp)) hns hv0 ?_
  refine ks_wpAny_isType_cls (K0 _ _ hC) rfl ⟨rfl, ?_⟩
  refine ks_wpAny_call_super (K0 _ _ hC) rfl hx rfl (fun c e => nomatch e) (PySem.W.looks_mroIn K0 SI.self) fun h1 e1 k1 => ?_
  have K1 : K.In h1 := K0.keeps k1
  have hx1 := k1 _ _ hx
  have I1 : PySem.W.InstAt h1 a _ C none := ⟨hx1, rfl, rfl, trivial⟩
  have hmro := SI.mro
  unfold PySem.W.ks_superIn at hmro
  rw [hcl] at hmro
  refine PySem.W.kxs_getMethod PySem.W.kxs_ValueError e1 (PySem.W.looks_opaque K1 SI.stat) (l₀ := .ref C :: bm) (fun A Q E s k q => wpAny_bind ((PySem.W.looks_clsIn K1 hcl) A _ E s k (wpAny_pure q))) rfl K1 hmro (I1.type.andThen (PySem.W.looks_subIn K1 SI.subV)) (PySem.W.ks_ne K1 I1 hcl) rfl ?_
  have up2 : ∀ b o, h1.get? b = some o → (h1.push (PySem.W.kxs_mw "ValueError.__init__" a)).get? b = some o := fun b o e => Heap.get?_push_of_some _ e
  have k2 : ∀ b o, h0.get? b = some o → (h1.push (PySem.W.kxs_mw "ValueError.__init__" a)).get? b = some o := fun b o e => up2 b o (k1 b o e)
  have hu : (h1.push (PySem.W.kxs_mw "ValueError.__init__" a)).get? h1.objs.size = some (PySem.W.kxs_mw "ValueError.__init__" a) := Heap.get?_push_size _ rfl
  refine PySem.W.kxs_callWith (i := "ValueError.__init__") (x := a) rfl (PySem.Calls.evalArgs_plain ?_)
  show wpAny _ _ (spliced ((false, eval (.Name x p3) (sEnv qual scope s.heap.objs.size f cda cc)) :: backTo p4 (starEach [] (sEnv qual scope s.heap.objs.size f cda cc)))) _ _ _
  refine PySem.Calls.spliced_cons (wpAny_Name (wpAny_loadName_local S.kind (S.par _ (by simp)) (hns.keeps k2) hv1 (PySem.Calls.spliced_nil ⟨hu, ?_⟩)) hdx)
  refine mw_call (K1.keeps up2 _ _ hC) (up2 _ _ hx1) hu (by rw [sizeLine_eq]; show 1 ≤ _; omega) fun h3 t3 k3 e3 => ?_
  obtain ⟨_, hxs⟩ := exo_at e0.hok ea
  have nL : s.heap.objs.size ≠ a := fun z => Nat.lt_irrefl _ (z ▸ Heap.lt_size hxs)
  have hns3 : h3.Ns s.heap.objs.size fun z => ([(me, Value.ref a), (x, uy)] : List (Str × Value)).reverse.lookup z := (hns.keeps k2).at fun o e => k3 _ o nL e
  have J := (I0.kept (t' := s.toks + 2) k2).write (t' := s.toks + 2 + 1) (x := a) (e := a) (o := exo a C none) (by rw [ea]; exact True.intro) (.inl rfl) k3 ⟨_, e3⟩ (exo_ok e3)
  have eu : upd H a (exo a C none) = H := by
    funext b
    by_cases c : b = a
    · rw [c, upd_same, ea]
    · rw [upd_ne c]
  rw [eu] at J
  refine ks_wpAt_execs_cons (ks_wpAt_Assign_Attr ?_ (ST.h2 _))
  refine wpAt_of_wpAny (wpAny_Name ?_ hdx)
  refine wpAny_loadName_local S.kind (S.par _ (by simp)) hns3 hv1 ?_
  refine wpAny_Name ?_ hdm
  refine wpAny_loadName_local S.kind (S.par _ (by simp)) hns3 hv0 ?_
  refine ost_new (X := cxS CX P w K mg base [me, x] qual scope f cda cc A ou s H E) T J ea hno ry fun dx s' n1 n2 J2 => ?_
  exact wpAt_of_wpAny (wpAny_pure ⟨.non, _, J2.os, J2.bare, J2.base, J2.hok, rfl, hq dx n1 n2⟩)
/-- C(e) and C's own __init__ is such a one -/
theorem pmk_one {X : Cx} {x : Str} {C fI : Addr} {k : Nat} {fd : FuncData} {me y fl : Str} {e : Expr} {te : TE} {p pos : Pos} (T : OexC X.K C) (iC : PySem.W.findIn X.K (.ref C) "__init__" = some (some (.ref fI))) (tI : PySem.W.typeIn X.K (.ref fI) = some (.type "function"))
    (F : FnOk X.prog X.w X.K X.mg X.base L2.CX0 k fI fd [me, y] (spOne C fl)) (hr : Room (k + 1) X.A) (hb : Binds X.K fd [me, y] []) (hg : Gl X x) (hm : X.mg x = some (.ref C)) (he : PE X e te)
    (h1 : (x == ("__debug__" : Str)) = false := by decide) (h2 : starEach [e] X.env = (false, eval e X.env) :: starEach [] X.env := by rfl) (h3 : (backTo pos (starEach [] X.env)).any (·.1) = false := by rfl) : PMk X (.Call (.Name x p) [e] [] pos) (tMkO C (spOne C fl) [] (tCons te tNil)) :=
  pmk_oex (CX := L2.CX0) (p := p) (pos := pos) (dvs := []) (ds := []) T iC tI F hr hb .nil pass0 hg hm (pa_cons he pa_nil (hs := h2)) h1 h2 h3
/-! ### what a def lets out -/
/-- the wish at an exception of the class C with these fields -/
def RtE (E : XK) (W : Wd) (C : Addr) (fs : List (Str × V)) (cs : Cells) : Prop := ∀ d H, (∃ F, Core W F cs H ∧ F d = some (.xd fs)) → E (.ref C) (some d) H
/-- raise C(e) -/
def tRaise (C : Addr) (fl : Str) (E : XK) (t : TA) : TS := fun _ σ H => tMkO C (spOne C fl) [] t σ H fun cls d H' => E cls d H'
section
variable {nx bk ct : L2.St → Hp → Prop} {rt : VK}
variable {W : Wd} {G : Gam} {T : Tms} {cs : Cells} {K : Sl → Cells → Prop}
end
end ML

/-! ## defs that hand back or let an error out -/
namespace ML
open PySem PySem.Spec PyProof.Rows L2

/-- handed back, or an error: the place of its class in the law's table, its field -/
inductive Rz (β : Type) where
  | val (b : β)
  | err (c : Nat) (i : Int)
/-- the table of the classes: where, and the field's name -/
abbrev XT := Nat → Addr × Str
def spR (xt : XT) {ι β : Type} (A : ι → List Sl) (ci : ι → Cells) (m : ι → Option (Rz β)) (res : ι → β → Sl) (co : ι → β → Cells) : Sp := fun vs H Q E =>
  ∃ (i : ι) (z : Rz β) (W : Wd), m i = some z ∧ Core W W.F (ci i) H ∧ Args W.F (A i) vs ∧ match z with
    | .val b => Rt Q W (res i b) (co i b)
    | .err c v => RtE E W (xt c).1 [((xt c).2, .int v)] (ci i)
section
variable {W : Wd} {G : Gam} {T : Tms} {cs : Cells} {K : Sl → Cells → Prop} {t : TA}
end
/-- a def by its body, which may let errors out -/
theorem okR {P : Program} {w : World} {K : PySem.W.Frag} {mg : Str → Option Value} {base : Heap} {x qual : Str} {st : Stmt} {f : Addr} {fd : FuncData} {N ps : List Str} {k : Nat} {sp : Sp} (F : Fun K x qual st f fd) (S : FnScope N ps (defScope st)) (len : ∀ vs H Q E, sp vs H Q E → vs.length = ps.length)
    (hb : ∀ (cdv : Value) (A : Around) (ou : List Env) (s : Shared) (H : Hp) (vs : List V) (Q : VK) (E : XK), RoomG k (A.deeper (envOfC qual (defScope st) s.heap.objs.size f cdv)) → Takes (cxOf (L2.CX P w) P w K mg base N qual (defScope st) f cdv A ou s H E) (fun cls d _ H' => E cls d H') → sp vs H Q E →
      ∃ t, PSs (cxOf (L2.CX P w) P w K mg base N qual (defScope st) f cdv A ou s H E) (defBody st) t ∧ t { nx := fun _ H' => Q .non H', rt := Q } (L2.start N vs) H) : FnG P w K mg base (L2.CX P w) (k + 1) f fd ps sp := by
  obtain ⟨oc, od, kV, doc, pm, an, cdv, ct, osl, rfl, lk, hcd⟩ := F.ex
  exact fn_G lk hcd S len fun A ou s H vs Q E hr hsp => hb cdv A ou s H vs Q E hr (takes_of rfl rfl rfl rfl) hsp
/-- what a callee lets out leaves the def -/
theorem passR {X : Cx} {E : XK} (tk : Takes X (fun cls d _ H' => E cls d H')) : Passes (L2.CX X.prog X.w) X E := passes_call tk fun _ _ _ _ h => h
end ML

/-! ## try: .. except X as n: .., then the rest, the error still known -/
namespace ML
open PySem PySem.Spec PyProof.Rows L2

/-- one object more stays as it stands -/
abbrev kp (X : L2.Cx) (q : Addr × Obj) : L2.Cx := { X with pn := q :: X.pn }
section
variable {X : L2.Cx} {pins : List (Addr × Obj)} {σ : L2.St} {H : Hp} {s : Shared}
theorem kp_ok {q : Addr × Obj} (k : X.Ok) : (kp X q).Ok := ⟨k.mod, k.kind, k.glob, k.blt, k.above, k.inj, k.has, k.cab, k.hd, k.frames, k.stk, k.exf, k.bs, k.bsz, k.noex, k.exfs, k.funs, k.frf⟩
theorem kp_of {a : Addr} {q : Addr × Obj} {more : List (Addr × Obj)} (I : Inv (X.suite a (q :: (X.pn ++ pins))) more σ H s) (k : X.Ok) : Inv (kp X q) pins σ H s :=
  ⟨kp_ok k, I.os, I.bare, I.base, I.loc, I.cell, I.free, I.freeC, fun z hz => I.pin z (List.mem_append_left _ (show z ∈ q :: (X.pn ++ pins) from hz)), I.hok, I.len⟩
theorem kp_out {q : Addr × Obj} (I : Inv (kp X q) pins σ H s) (k : X.Ok) : Inv X pins σ H s :=
  ⟨k, I.os, I.bare, I.base, I.loc, I.cell, I.free, I.freeC, fun z hz => I.pin z (show z ∈ q :: (X.pn ++ pins) from List.mem_cons_of_mem _ hz), I.hok, I.len⟩
theorem kp_sp {q : Addr × Obj} {D : Ends} {f : Flow} (k : X.Ok) (h : SP (kp X q) pins D f s) : SP X pins D f s := by
  cases f with
  | next => obtain ⟨a, b, c, d⟩ := h; exact ⟨a, b, kp_out c k, d⟩
  | brk => obtain ⟨a, b, c, d⟩ := h; exact ⟨a, b, kp_out c k, d⟩
  | cont => obtain ⟨a, b, c, d⟩ := h; exact ⟨a, b, kp_out c k, d⟩
  | ret u => obtain ⟨v, a, b, c, r, d⟩ := h; exact ⟨v, a, b, kp_out c k, r, d⟩
end
/-- an exception object, as it was caught -/
def Ca (oe : Obj) (cls : Value) (d : Option Addr) : Prop := Zc cls d oe ∧ ∃ vs, oe.data = .fields vs
/-- the wish at an error of the body -/
def wKeep (K : PySem.W.Frag) (c : Value) (i : Nat) (ts : Addr → Value → Option Addr → TS) (Wout : WX) (De : Addr → Value → Option Addr → Ends) : WX := fun cls d σ H => ∃ b, PySem.W.exmOne K cls c = some b ∧
  (b = true → ∀ a, H a = none → ts a cls d { nx := fun σ' H' => (De a cls d).nx (σ'.set i none) H', rt := (De a cls d).rt, bk := fun σ' H' => (De a cls d).bk (σ'.set i none) H', ct := fun σ' H' => (De a cls d).ct (σ'.set i none) H' } (σ.set i (some (.ref a))) H) ∧ (b = false → Wout cls d σ H)
section
variable {X : L2.Cx} {x n : Str} {c : Value} {i : Nat} {body suite rest : List Stmt} {b₀ : Stmt} {np pos pos' : Pos} {tb : WX → TS} {ts : Addr → Value → Option Addr → TS} {Wout : WX}
theorem try_keep {pins : List (Addr × Obj)} {σ : L2.St} {H : Hp} {s : Shared} {Dn : Ends} {De : Addr → Value → Option Addr → Ends} (hs : X.stack = X.env :: X.outer) (hf : X.env.frame = some X.env.locals) (hN : X.N.Nodup) (hi : X.N[i]? = some n) (hln : X.env.kindOf n = some .local) (hc : Names X x c) (tk : Takes X Wout)
    (hb : ∀ (W : WX) (pn : List (Addr × Obj)) (xe : Value → Shared → Prop), Takes (X.tr pn xe) W → PassesOwn (model X.prog X.w) X.A X.env xe → PSs (X.tr pn xe) body (tb W))
    (hsu : ∀ (a : Addr) (oe : Obj) (cls : Value) (d : Option Addr) (pn : List (Addr × Obj)), Zc cls d oe → (∃ vs, oe.data = .fields vs) → PSs (X.suite a ((a, oe) :: pn)) (b₀ :: suite) (ts a cls d))
    (I : Inv X pins σ H s) (h : tb (wKeep X.K c i ts Wout De) Dn σ H) :
    wpAny (model X.prog X.w) X.A (exec (.Try body [.ExceptHandler (some (.Name x np)) (some n) (b₀ :: suite) pos'] [] [] pos) X.env) (fun f s' => SP X pins Dn f s' ∨ ∃ a oe cls d, Ca oe cls d ∧ SP (kp X (a, oe)) pins (De a cls d) f s') X.xe s := by
  have k := I.ok
  have fr : X.A.frames = some (X.env :: X.outer) := k.frames.trans (by rw [hs])
  refine wpAny_Try_except ?_
  refine wpAny_mono ((hb (wKeep X.K c i ts Wout De) (X.pn ++ pins) (fun e z => wpAny (model X.prog X.w) X.A (noteFrame e X.env) (fun _ z2 => wpAny (model X.prog X.w) X.A (setFlight e none) (fun _ z3 => wpAny (model X.prog X.w) X.A (handleBy e X.env [.ExceptHandler (some (.Name x np)) (some n) (b₀ :: suite) pos'])
    (fun f s' => SP X pins Dn f s' ∨ ∃ a oe cls d, Ca oe cls d ∧ SP (kp X (a, oe)) pins (De a cls d) f s') X.xe z3) X.xe z2) X.xe z) (fun u s' air => ?_) PassesOwn.looking).run [] s σ H Dn (I.toTry _) h) (fun f z hz => ?_) fun _ _ y => y
  · obtain ⟨a, B, z0, pi, σ1, H1, cls, d, rfl, T0, gr, upto, sky, frA, eos, bare, b, eb, yes, no⟩ := air
    have T1 : Inv X pins σ1 H1 z0 := T0.ofTry k
    rw [hs] at sky
    show wpAny (model X.prog X.w) X.A (noteFrame (.ref a) X.env) _ _ _
    refine Sky.land Zc.steady fr hf sky fun g3 fly up3 => ?_
    have T3 : Inv X pins σ1 H1 { s' with heap := g3 } := T1.landed gr fly.1 (upto.trans up3) eos bare
    obtain ⟨o3, w3, at3, zc3, da3⟩ := fly.there
    have out : a ∉ frs (X.env :: X.outer) := fun m => by
      obtain ⟨_, o', e', nf⟩ := fly.2.2.1.mem m
      rw [at3] at e'
      cases e'
      exact nf _ da3
    have nL : a ≠ X.env.locals := fun e => out (List.mem_filterMap.mpr ⟨X.env, List.mem_cons_self, by rw [hf, e]⟩)
    have nF : a ∉ X.fs := fun m => let ⟨v, hv, q⟩ := List.mem_filterMap.mp m; out (List.mem_filterMap.mpr ⟨v, List.mem_cons_of_mem _ hv, q⟩)
    have U3 := T3.suite at3 da3 frA nL nF
    refine wpAny_handleBy_cons (codeAny_handlers_test ?_) (fun q => by cases q)
    have ty : PySem.W.Looks (model X.prog X.w) g3 (typeOf (.ref a)) cls := fun A Q E s k q => wpAny_typeOf_ref (k _ _ at3) (by rw [zc3.1]; exact q)
    have hit := PySem.W.exm_one (M := model X.prog X.w) T3.kIn ty eb
    have ask : ∀ {Q E : Value → Shared → Prop}, Q c { s' with heap := g3 } → wpAny (model X.prog X.w) (X.A.mark (some (.ref a))) (eval (.Name x np) X.env) Q E { s' with heap := g3 } := fun q => by
      obtain ⟨y1, y2, y3 | ⟨y3, y4, y5⟩⟩ := hc
      · exact ld_glob (X := X.suite a ((a, o3) :: (X.pn ++ pins))) U3 y1 y3 q y2
      · exact ld_blt (X := X.suite a ((a, o3) :: (X.pn ++ pins))) U3 y1 y3 y4 q y5 y2
    refine ask (hit.here ?_)
    cases b with
    | false =>
      refine (show wpAny _ X.A (handleBy (.ref a) X.env []) _ _ _ from wpAny_handleBy_nil ?_)
      obtain ⟨_, _, _, o, vs, tr, _, _, at_, _, da, v1, _⟩ := id fly
      unfold PySem.passOn
      refine wpAny_bind (wpAny_field at_ da v1 ?_)
      rw [if_neg (show ¬ ((Value.ref tr == Value.none) = true) by simp)]
      have last : wpAny (model X.prog X.w) X.A (setFlight (.ref a) X.env.frame) (fun _ z4 => wpAny (model X.prog X.w) X.A (throw (.ref a) : Sem Flow) (fun f s' => SP X pins Dn f s' ∨ ∃ a oe cls d, Ca oe cls d ∧ SP (kp X (a, oe)) pins (De a cls d) f s') X.xe z4) X.xe { s' with heap := g3 } := by
        rw [hf]
        exact HandSPX.setFlight_upZ fly fun g4 held up4 => wpAny_throw (tk _ _ ⟨a, B, z0, pins, σ1, H1, cls, d, rfl, T1, gr, (upto.trans up3).trans up4, .inr (.inr (by rw [hs]; exact held)), frA, eos, bare, no rfl⟩)
      first
        | exact wpAny_bind (wpAny_pure (wpAny_bind last))
        | exact wpAny_bind last
    | true =>
      refine codeAny_handlers_suite_as (HandSPX.lands_againZ fly fun g4 fly4 up4 => ?_)
      have T4 : Inv X pins σ1 H1 { s' with heap := g4 } := T1.landed gr fly4.1 ((upto.trans up3).trans up4) eos bare
      obtain ⟨o4, w4, at4, zc4, da4⟩ := fly4.there
      refine store_ok (X := X.suite a ((a, o4) :: (X.pn ++ pins))) (v := .ref a) (T4.suite at4 da4 frA nL nF) hN hi (.inl hln) rfl (fun z5 U5 => ?_) (.inr hln)
      refine wpAny_mono ((hsu a o4 cls d (X.pn ++ pins) zc4 ⟨_, da4⟩).run [] z5 _ H1 _ U5 (yes rfl a frA)) (fun f z6 y6 => ?_) fun _ _ y => False.elim y
      have gone : ∀ {σ6 : L2.St} {H6 : Hp} {Q : Shared → Prop}, Inv (X.suite a ((a, o4) :: (X.pn ++ pins))) [] σ6 H6 z6 → (∀ z7, Inv (kp X (a, o4)) pins (σ6.set i none) H6 z7 → Q z7) → wpAny (model X.prog X.w) X.A (do bindName X.env n .none; unbindBehindTheSuite X.env n pos') (fun _ z7 => Q z7) X.xe z6 :=
        fun U6 q => gone_ok (X := kp X (a, o4)) (kp_of U6 k) hN hi hln q
      have ca : Ca o4 cls d := ⟨zc4, _, da4⟩
      cases f with
      | next => obtain ⟨_, _, U6, q⟩ := y6; exact gone U6 fun z7 U7 => .inr ⟨a, o4, cls, d, ca, _, _, U7, q⟩
      | brk => obtain ⟨_, _, U6, q⟩ := y6; exact gone U6 fun z7 U7 => .inr ⟨a, o4, cls, d, ca, _, _, U7, q⟩
      | cont => obtain ⟨_, _, U6, q⟩ := y6; exact gone U6 fun z7 U7 => .inr ⟨a, o4, cls, d, ca, _, _, U7, q⟩
      | ret u => obtain ⟨_, _, _, U6, r, q⟩ := y6; exact gone U6 fun z7 U7 => .inr ⟨a, o4, cls, d, ca, _, _, _, U7, r, q⟩
  · cases f with
    | next => obtain ⟨_, _, J, q⟩ := hz; exact wpAny_execs_nil (.inl ⟨_, _, J.ofTry k, q⟩)
    | brk => obtain ⟨_, _, J, q⟩ := hz; exact .inl ⟨_, _, J.ofTry k, q⟩
    | cont => obtain ⟨_, _, J, q⟩ := hz; exact .inl ⟨_, _, J.ofTry k, q⟩
    | ret u => obtain ⟨_, _, _, J, r, q⟩ := hz; exact .inl ⟨_, _, _, J.ofTry k, r, q⟩
/-- the reading: the body, then the rest; or the suite, then the rest with the error kept -/
def tTryK (K : PySem.W.Frag) (c : Value) (i : Nat) (tb : WX → TS) (ts : Addr → Value → Option Addr → TS) (Wout : WX) (t0 : TS) (t1 : Addr → Value → Option Addr → TS) : TS := fun D σ H =>
  tb (wKeep K c i ts Wout fun a cls d => { D with nx := t1 a cls d D }) { D with nx := t0 D } σ H
theorem pss_try {t0 : TS} {t1 : Addr → Value → Option Addr → TS} (hs : X.stack = X.env :: X.outer) (hf : X.env.frame = some X.env.locals) (hN : X.N.Nodup) (hi : X.N[i]? = some n) (hln : X.env.kindOf n = some .local) (hc : Names X x c) (tk : Takes X Wout)
    (hb : ∀ (W : WX) (pn : List (Addr × Obj)) (xe : Value → Shared → Prop), Takes (X.tr pn xe) W → PassesOwn (model X.prog X.w) X.A X.env xe → PSs (X.tr pn xe) body (tb W))
    (hsu : ∀ (a : Addr) (oe : Obj) (cls : Value) (d : Option Addr) (pn : List (Addr × Obj)), Zc cls d oe → (∃ vs, oe.data = .fields vs) → PSs (X.suite a ((a, oe) :: pn)) (b₀ :: suite) (ts a cls d))
    (h0 : PSs X rest t0) (h1 : ∀ (a : Addr) (oe : Obj) (cls : Value) (d : Option Addr), Ca oe cls d → PSs (kp X (a, oe)) rest (t1 a cls d)) :
    PSs X (.Try body [.ExceptHandler (some (.Name x np)) (some n) (b₀ :: suite) pos'] [] [] pos :: rest) (tTryK X.K c i tb ts Wout t0 t1) := ⟨fun pins s σ H D I h => by
  refine wpAny_execs_cons (thn (try_keep hs hf hN hi hln hc tk hb hsu I h) fun f z hz => ?_)
  rcases hz with hz | ⟨a, oe, cls, d, ca, hz⟩
  · cases f with
    | next => obtain ⟨_, _, J, q⟩ := hz; exact h0.run pins z _ _ D J q
    | brk => exact hz
    | cont => exact hz
    | ret u => exact hz
  · cases f with
    | next => obtain ⟨_, _, J, q⟩ := hz; exact thn ((h1 a oe cls d ca).run pins z _ _ D J q) fun _ _ y => kp_sp I.ok y
    | brk => exact kp_sp I.ok hz
    | cont => exact kp_sp I.ok hz
    | ret u => exact kp_sp I.ok hz⟩
end
end ML

/-! ## an error that is kept: isinstance, its field -/
namespace ML
open PySem PySem.Spec PyProof.Rows L2

/-- what the class of an error must say -/
structure ExcD (K : PySem.W.Frag) (D : Addr) : Prop where
  c : ExcC K D
  cl : (PySem.W.clsIn K D).isSome = true
theorem ca_inst {P : Program} {w : World} {H : Hp} {h : Heap} {a D dd : Addr} {oe : Obj} {fs : List (Str × V)} (ca : Ca oe (.ref D) (some dd)) (ha : h.get? a = some oe) (ok : HOk P w H h) (hd : H dd = some (.xd fs)) : ∃ (od : Obj) (mA : Str → Option Value), PySem.W.InstAt h a oe D (some od) ∧ (∀ name, PySem.W.lookIn name od = some (mA name)) ∧ ∀ f, RelO (fs.lookup f) (mA f) := by
  obtain ⟨⟨z1, z2⟩, vs, z3⟩ := ca
  obtain ⟨mA, hns, hr⟩ := (show ObjOk P w H h dd (.xd fs) from ok dd _ hd)
  obtain ⟨od, ho, hl⟩ := lookIn_ns hns
  exact ⟨od, mA, ⟨ha, z1, by unfold PySem.W.notCls; rw [z3] <;> rfl, by rw [z2]; exact ho⟩, hl, hr⟩
/-- isinstance(err, c) -/
def rIsX (K : PySem.W.Frag) (a : Addr) (cls : Value) (d : Option Addr) : List V → Hp → VK → Prop := fun xs H Q => ∃ (D dd : Addr) (fs : List (Str × V)) (c : V) (cv : Value) (b : Bool), cls = .ref D ∧ d = some dd ∧ ExcD K D ∧ H dd = some (.xd fs) ∧ xs = [.ref a, c] ∧ (∀ u, RelV c u → u = cv) ∧ PySem.W.kitOne K (.ref D) cv = some b ∧ Q (.bl b) H
theorem call_isX {X : L2.Cx} {a : Addr} {oe : Obj} {cls : Value} {d : Option Addr} (ca : Ca oe cls d) (hm : (a, oe) ∈ X.pn) : CallR X (.builtin "isinstance") (rIsX X.K a cls d) := by
  intro pins s σ H xs us Q I r h
  obtain ⟨D, dd, fs, c, cv, b, rfl, rfl, C, hx, rfl, hcv, e, q⟩ := h
  cases r with
  | cons rx rr =>
    cases rr with
    | cons rt rr =>
      cases rr
      cases rx
      obtain rfl := hcv _ rt
      obtain ⟨hget, _⟩ := I.pin (a, oe) (List.mem_append_left _ hm)
      obtain ⟨od, _, J, _⟩ := ca_inst ca hget I.hok hx
      exact PySem.W.kia_one (PySem.W.kitx_exc C.cl C.c.hg C.c.hk C.c.hs C.c.ha C.c.hn C.c.ht C.c.hm) I.kIn J e (fun z => nomatch z) fun tk => ⟨.bl b, H, I.kept (t' := tk) fun _ _ z => z, rfl, q⟩
/-- isinstance(err, (C, ..)), the classes the program's own -/
def rIsXT (K : PySem.W.Frag) (a : Addr) (cls : Value) (d : Option Addr) : List V → Hp → VK → Prop := fun xs H Q => ∃ (D dd : Addr) (fs : List (Str × V)) (tp : Addr) (cs : List Addr) (b : Bool), cls = .ref D ∧ d = some dd ∧ ExcD K D ∧ H dd = some (.xd fs) ∧ xs = [.ref a, .ref tp] ∧ H tp = some (.tup (cs.map V.ref)) ∧ PySem.W.kitAny K (.ref D) (cs.map Value.ref) = some b ∧ Q (.bl b) H
section
variable {nx bk ct : L2.St → Hp → Prop} {rt : VK}
variable {W : Wd} {G : Gam} {T : Tms} {cs : Cells} {K : Sl → Cells → Prop} {t : TA} {te : TE}
variable {KF : PySem.W.Frag}
/-- the error's dict stands in the frozen part: a slot tells it -/
def sErr (a d : Addr) (fs : List (Str × V)) : Sl := ⟨fun F v => v = .ref a ∧ F d = some (.xd fs), fun e h => ⟨h.1, e _ _ h.2⟩⟩
end
end ML

/-! ## try: x = f(..) except E as n: y = n -/
namespace ML
open PySem PySem.Spec PyProof.Rows L2

/-- a call within a try: the wish at an error tells the slots -/
def tCallS (sp : Sp) (dvs : List V) (Wx : WX) (t : TA) : TE := fun σ H Q => t σ H fun vs H1 => sp (vs ++ dvs) H1 Q fun cls d H' => Wx cls d σ H'
section
variable {X : L2.Cx} {k : Nat} {f : Addr} {fd : FuncData} {ps : List Str} {sp : Sp} {dvs : List V} {ds : List Value} {Wx : WX} {x : Str} {p pos : Pos} {e : Expr} {es : List Expr} {t : TA}
end
section
variable {nx bk ct : L2.St → Hp → Prop} {rt : VK}
variable {W : Wd} {G : Gam} {cs : Cells}
theorem slots_none {F : Hp} {s : L2.St} (h : Slots F G s) (i : Nat) : Slots F (G.set i none) (s.set i none) := by
  refine ⟨by rw [List.length_set, List.length_set]; exact h.1, fun j sl hj => ?_⟩
  rw [List.getElem?_set] at hj ⊢
  by_cases e : i = j
  · rw [if_pos e] at hj
    split at hj <;> cases hj
  · rw [if_neg e] at hj ⊢
    exact h.2 j sl hj
end
end ML

/-! ## the promise of a def at what makes it raise -/
namespace ML
open PySem PySem.Spec PyProof.Rows L2

/-- it lets this error out: the place of its class, its field -/
def spX (xt : XT) {ι : Type} (A : ι → List Sl) (ci : ι → Cells) (m : ι → Option (Nat × Int)) : Sp := fun vs H _ E =>
  ∃ (i : ι) (c : Nat) (v : Int) (W : Wd), m i = some (c, v) ∧ Core W W.F (ci i) H ∧ Args W.F (A i) vs ∧ RtE E W (xt c).1 [((xt c).2, .int v)] (ci i)
theorem RtE.more {E : XK} {W : Wd} {C : Addr} {fs : List (Str × V)} {cs cs' : Cells} (h : RtE E W C fs cs) (s : cs.Sublist cs') : RtE E W C fs cs' := fun d H ⟨F, c, hd⟩ => h d H ⟨F, c.drop s, hd⟩
section
variable {W : Wd} {G : Gam} {T : Tms} {cs : Cells} {K : Sl → Cells → Prop} {t : TA}
end
/-- what is never reached -/
theorem pss_dead {X : L2.Cx} {ss : List Stmt} : PSs X ss (fun _ _ _ => False) := ⟨fun _ _ _ _ _ _ h => h.elim⟩
/-- two promises of one def, one for each way it may end -/
theorem fnG_or {P : Program} {w : World} {K : PySem.W.Frag} {mg : Str → Option Value} {base : Heap} {k : Nat} {f : Addr} {fd : FuncData} {ps : List Str} {sp sp1 sp2 : Sp} (F1 : FnG P w K mg base L2.CX0 k f fd ps sp1) (F2 : FnG P w K mg base (L2.CX P w) k f fd ps sp2)
    (h : ∀ vs H Q E, sp vs H Q E → sp1 vs H Q E ∨ sp2 vs H Q E) : FnG P w K mg base (L2.CX P w) k f fd ps sp := by
  refine ⟨fun vs H Q E q => (h vs H Q E q).elim (F1.len vs H Q E) (F2.len vs H Q E), fun A ou s H ar us vs Q E hr e0 hb r q => ?_⟩
  rcases h vs H Q E q with q | q
  · refine codeAny_mono (F1.go A ou s H ar us vs Q E hr e0 hb r q) fun rr s' hq => ?_
    match rr, hq with
    | .error e, hq => exact False.elim hq
    | .ok .next, hq => exact hq
    | .ok .brk, hq => exact hq
    | .ok .cont, hq => exact hq
    | .ok (.ret u), hq => exact hq
  · exact F2.go A ou s H ar us vs Q E hr e0 hb r q
theorem fnG_mono {P : Program} {w : World} {K : PySem.W.Frag} {mg : Str → Option Value} {base : Heap} {CX : CXT} {j k : Nat} {f : Addr} {fd : FuncData} {ps : List Str} {sp : Sp} (F : FnG P w K mg base CX j f fd ps sp) (h : j ≤ k) : FnG P w K mg base CX k f fd ps sp := ⟨F.len, fun A ou s H ar us vs Q E hr => F.go A ou s H ar us vs Q E (hr.mono h)⟩
end ML

/-! ## what the written part says of an error's class and of its __init__ -/
namespace ML
open PySem PySem.Spec PyProof.Rows L2

structure ErrK (K : PySem.W.Frag) (C M f cda cc : Addr) (qual : Str) (st : Stmt) (fd : FuncData) (fl file : Str) : Prop where
  oex : OexC K C
  fn : ∃ (name : Str) (kV doc pm ct oc : Value) (an od : Option Addr) (osl : Array (Option Value)), fd = PySem.W.ksFn name qual (defArgs st) (defBody st) (defScope st) .none kV doc pm an (.ref cda) ct cc ∧ K.lookup f = some ⟨oc, od, .func fd, osl⟩
  code : PySem.W.codeIn K (.ref cda) qual = true
  lcode : ∃ (ccl : Value) (cdd : Option Addr) (vs : Array Value) (ccs : Array (Option Value)) (tf : Tok), K.lookup cda = some ⟨ccl, cdd, .fields vs, ccs⟩ ∧ vs[2]? = some (.str file tf)
  cell : ∃ (cl : Value) (cld : Option Addr) (csl : Array (Option Value)), K.lookup cc = some ⟨cl, cld, .cell (some (.ref C)), csl⟩
  mro : PySem.W.ks_superIn K C C "__init__" = some (some (.builtin "ValueError.__init__"))
  self : PySem.W.mroIn K C (.ref C) = some true
  subV : PySem.W.subIn K (.ref C) (.type "ValueError") = some true
  stat : PySem.W.nsIn K cStatics "thirdparty.any" = some none
  no : PySem.W.findIn K (.ref C) fl = some none
  iC : PySem.W.findIn K (.ref C) "__init__" = some (some (.ref f))
  tI : PySem.W.typeIn K (.ref f) = some (.type "function")
  excD : ExcD K C
  xf : XfC K C
  exm : PySem.W.exmOne K (.ref C) (.ref M) = some true
theorem errK_mk {K : PySem.W.Frag} {C M N f cda cc : Addr} {nm q name qual fl file : Str} {st : Stmt} {bs bm : List Value} {sn : List Str} {sub : List Value} {ab : Bool} {col : Option Bool} {dd : Option Addr} {k0 k1 k2 k3 k5 : Option Value} {kV doc pm ct oc ccl cl : Value} {an od cdd cld : Option Addr} {osl ccs csl : Array (Option Value)} {vs : Array Value} {tf : Tok}
    (lC : K.lookup C = some (excClassObj nm q C N bs bm true sn sub ab col dd k0 k1 k2 k3 k5 "ValueError.__new__")) (rv : PySem.HandSPX.refsVE bm = true) (sa : PySem.W.findIn K (.ref C) "__setattr__" = some (some (.builtin "object.__setattr__"))) (ex : PySem.W.subIn K (.ref C) (.type "BaseException") = some true)
    (ty : PySem.W.typeIn K (.ref C) = some (.type "type")) (kc : PySem.W.keepIn K (.ref C) = true) (iC : PySem.W.findIn K (.ref C) "__init__" = some (some (.ref f))) (tI : PySem.W.typeIn K (.ref f) = some (.type "function"))
    (lF : K.lookup f = some ⟨oc, od, .func (PySem.W.ksFn name qual (defArgs st) (defBody st) (defScope st) .none kV doc pm an (.ref cda) ct cc), osl⟩) (cd : PySem.W.codeIn K (.ref cda) qual = true) (lc : K.lookup cda = some ⟨ccl, cdd, .fields vs, ccs⟩) (lv : vs[2]? = some (.str file tf))
    (lk : K.lookup cc = some ⟨cl, cld, .cell (some (.ref C)), csl⟩) (mr : PySem.W.ks_superIn K C C "__init__" = some (some (.builtin "ValueError.__init__"))) (ms : PySem.W.mroIn K C (.ref C) = some true) (sv : PySem.W.subIn K (.ref C) (.type "ValueError") = some true) (sta : PySem.W.nsIn K cStatics "thirdparty.any" = some none)
    (no : PySem.W.findIn K (.ref C) fl = some none) (ga : PySem.W.findIn K (.ref C) "__getattribute__" = some (some (.builtin "BaseException.__getattribute__"))) (gg : PySem.W.findIn K (.ref C) "__getattr__" = some none) (hd : PySem.W.hasDictIn K C = true) (ca : PySem.W.findIn K (.ref C) "__class__" = some (some (.builtin "object.__class__")))
    (sg : PySem.W.specialIn K (.builtin "object.__class__") "__get__" = some (some (.builtin "getset_descriptor.__get__"))) (tk : PySem.W.takesIn K (.builtin "object.__class__") = some true) (mo : PySem.W.mroIn K C (.type "object") = some true) (ci : (PySem.W.clsIn K C).isSome = true) (em : PySem.W.exmOne K (.ref C) (.ref M) = some true) :
    ErrK K C M f cda cc qual st (PySem.W.ksFn name qual (defArgs st) (defBody st) (defScope st) .none kV doc pm an (.ref cda) ct cc) fl file :=
  ⟨⟨⟨nm, q, N, bs, bm, sn, sub, ab, col, dd, k0, k1, k2, k3, k5, lC, rv⟩, sa, ex, ty, kc⟩, ⟨name, kV, doc, pm, ct, oc, an, od, osl, rfl, lF⟩, cd, ⟨ccl, cdd, vs, ccs, tf, lc, lv⟩, ⟨cl, cld, csl, lk⟩, mr, ms, sv, sta, no, iC, tI, ⟨⟨ga, gg, ex, hd, ca, sg, tk, mo⟩, ci⟩, ⟨ga, gg, ex, hd⟩, em⟩
section
variable {K : PySem.W.Frag} {C M f cda cc : Addr} {qual fl file : Str} {st : Stmt} {fd : FuncData}
theorem ErrK.sup (E : ErrK K C M f cda cc qual st fd fl file) {P : Program} (hf : ((P.main.file : Str) == file) = true) (ht : (P.main.scope.names.lookup ("super" : Str)).isSome = false) : SupI K P C f cda cc qual (defArgs st) (defBody st) (defScope st) fd := by
  obtain ⟨name, kV, doc, pm, ct, oc, an, od, osl, e, lk⟩ := E.fn
  obtain ⟨ccl, cdd, vs, ccs, tf, l1, l2⟩ := E.lcode
  exact ⟨⟨name, _, kV, doc, pm, ct, oc, an, od, osl, e, lk⟩, E.code, ⟨ccl, cdd, vs, ccs, file, tf, l1, l2, hf⟩, E.cell, E.mro, E.self, E.subV, E.stat, ht⟩
theorem ErrK.binds (E : ErrK K C M f cda cc qual st fd fl file) {ps : List Str} (h : ∀ (name : Str) (kV doc pm ct : Value) (an : Option Addr) (us : List Value), us.length = ps.length → bindArgs (PySem.W.ksFn name qual (defArgs st) (defBody st) (defScope st) .none kV doc pm an (.ref cda) ct cc) ⟨us, []⟩ = pure (ps.zip us)) : Binds K fd ps [] := by
  obtain ⟨name, kV, doc, pm, ct, oc, an, od, osl, e, lk⟩ := E.fn
  subst e
  exact Binds.all fun us hl => h name kV doc pm ct an us hl
end
end ML

/-! ## defs that raise: with defaults; the program's file -/
namespace ML
open PySem PySem.Spec PyProof.Rows L2

/-- what the program must say, so that super() is what it is -/
structure LP (P : Program) (file : Str) : Prop where
  f : ((P.main.file : Str) == file) = true
  t : (P.main.scope.names.lookup ("super" : Str)).isSome = false
abbrev tDead : TS := fun _ _ _ => False
end ML

/-! ## both promises of a def as one; a kept error and a tuple of classes -/
namespace ML
open PySem PySem.Spec PyProof.Rows L2

def rzOf {β : Type} (mx : Option (Nat × Int)) (m : Option β) : Option (Rz β) := match mx with | some (c, v) => some (.err c v) | none => m.map .val
section
variable {W : Wd} {G : Gam} {T : Tms} {cs : Cells} {K : Sl → Cells → Prop} {t : TA}
variable {KF : PySem.W.Frag}
end
end ML

/-! ## y is None, y a kept error or None for sure -/
namespace ML
open PySem PySem.Spec PyProof.Rows L2
section
variable {W : Wd} {G : Gam} {T : Tms} {cs : Cells} {K : Sl → Cells → Prop} {ta tb : TE}
variable {KF : PySem.W.Frag} {t : TA}
def oReprV (d : PyData) : Option Str := if d.showable = true ∧ d.canLay0 = true ∧ d.depth ≤ 60 ∧ d.shown.length ≤ sizeLine then some d.shown else none
end
end ML

/-! ## what a name holds, taken as data -/
namespace ML
open PySem PySem.Spec PyProof.Rows L2
end ML

/-! ## a lambda handed to a def that calls it within a try -/
namespace ML
open PySem PySem.Spec PyProof.Rows L2

/-- the table of code objects in a cell -/
def cTab (q : Str) : Cl := ⟨fun F o => ∃ ps : Array Value, o = .tbl ps ∧ TriplesOk ps.toList ∧ ∀ (at_ : Pos) (u : Value), codeAmong at_ ps.toList = some u → ∃ c, u = .ref c ∧ F c = some (LamX.CodeO c q),
  fun {_ _ _} e ⟨ps, h1, h2, h3⟩ => ⟨ps, h1, h2, fun at_ u hc => let ⟨c, a, b⟩ := h3 at_ u hc; ⟨c, a, e _ _ b⟩⟩⟩
/-- what the making of a lambda does -/
def MkT (H : Hp) (P : Addr) (q : Str) (H1 : Hp) (d : Addr) : Prop :=
  (H1 = H ∧ ∃ (ps : Array Value) (at_ : Pos), H P = some (.tbl ps) ∧ codeAmong at_ ps.toList = some (.ref d)) ∨
  ∃ (ps : Array Value) (at_ : Pos), H P = some (.tbl ps) ∧ H d = none ∧ H1 = upd (upd H P (.tbl (ps ++ #[rawInt at_.line, rawInt at_.col, .ref d]))) d (LamX.CodeO d q)
def TabH (H : Hp) (P : Addr) (q : Str) : Prop := ∃ ps : Array Value, H P = some (.tbl ps) ∧ TriplesOk ps.toList ∧ ∀ (at_ : Pos) (u : Value), codeAmong at_ ps.toList = some u → ∃ c, u = .ref c ∧ H c = some (LamX.CodeO c q)
/-- the reading of the call of a, which holds the lambda -/
def tAsk (f d : Addr) (q : Str) (tl : XK → Hp → VK → Prop) (Wx : WX) : TE := fun σ H Q => σ[0]? = some (some (.ref f)) ∧ H d = some (LamX.CodeO d q) ∧ tl (fun cls dd H' => Wx cls dd σ H') H Q
/-- the def that calls what it is handed: a; TT: what it makes of the lambda's reading -/
def GivesS (P : Program) (w : World) (K : PySem.W.Frag) (mg : Str → Option Value) (base : Heap) (Ng : List Str) (qual : Str) (st : Stmt) (g : Addr) (a : Str) (q : Str) (TT : Addr → (XK → Hp → VK → Prop) → Hp → VK → Prop) : Prop :=
  ∀ (A : Around) (ou : List Env) (cdv : Value) (f d : Addr) (s : Shared) (H : Hp) (Q : VK) (tl : XK → Hp → VK → Prop), RoomG 1 (A.deeper (envOfC qual (defScope st) s.heap.objs.size g cdv)) →
    (∀ (Wx : WX) (pn : List (Addr × Obj)) (xe : Value → Shared → Prop) (p1 p2 : Pos), Takes ((cxOf CX0 P w K mg base Ng qual (defScope st) g cdv A ou s H E0).tr pn xe) Wx →
      PE ((cxOf CX0 P w K mg base Ng qual (defScope st) g cdv A ou s H E0).tr pn xe) (.Call (.Name a p1) [] [] p2) (tAsk f d q tl Wx)) →
    TT d tl H Q → ∃ t, PSs (cxOf CX0 P w K mg base Ng qual (defScope st) g cdv A ou s H E0).nox (defBody st) t ∧ t { nx := fun _ H' => Q .non H', rt := Q } (L2.start Ng [.ref f]) H
/-- the reading of x(lambda: body) -/
def tLamS (P : Addr) (q : Str) (TT : Addr → (XK → Hp → VK → Prop) → Hp → VK → Prop) (t : XK → TE) : TE := fun σ H Q => TabH H P q ∧ ∀ H1 d, MkT H P q H1 d → H1 d = some (LamX.CodeO d q) → TT d (fun E H' Q' => t E σ H' Q') H1 Q
section
variable {X : L2.Cx} {pins : List (Addr × Obj)} {σ : L2.St} {H : Hp} {s : Shared}
/-- the lambda is made -/
theorem lam_mk {c P : Addr} {q : Str} {params : Arguments} {body : Expr} {scope : Scope} {pos : Pos} {Q E : Value → Shared → Prop} (I : Inv X pins σ H s) (TB : LamX.TabB X.base X.mg c P) (hcode : X.env.code = .ref c) (hq : X.env.qual ++ "<lambda>" = q) (hT : TabH H P q)
    (hdef : defaultsOf params X.env = ([], [])) (hfr : ∀ y ∈ scope.names, y.2 = .free → ∃ c, X.env.cells.lookup y.1 = some c)
    (go : ∀ (f d : Addr) (pm ct : Value) (H1 : Hp) (s1 : Shared), Inv X pins σ H1 s1 → MkT H P q H1 d → H1 d = some (LamX.CodeO d q) →
      s1.heap.get? f = some (PySem.W.kla_obj "<lambda>" q params body scope (cloFrom X.env.cells scope.names []) pm d ct) → H1 f = none → f ∉ frs X.stack → Q (.ref f) s1) :
    wpAny (model X.prog X.w) X.A (eval (.Lambda params body scope pos) X.env) Q E s := by
  subst hq
  obtain ⟨ps, hP, tri, known⟩ := hT
  refine PySem.W.kla_eval hdef ?_
  have bm := TB.bm.keeps I.bk
  have atP : s.heap.get? P = some { cls := .none, data := .fields ps } := I.hok P _ hP
  have out : ∀ b, s.heap.objs.size ≤ b → b ∉ frs X.stack := fun b hb m => by
    rcases List.mem_cons.mp (I.stkSub _ m) with e | e
    · have h1 := I.lt
      rw [← e] at h1
      exact absurd (Nat.lt_of_lt_of_le h1 hb) (Nat.lt_irrefl _)
    · exact I.nofs hb e
  cases hc : codeAmong pos ps.toList with
  | some u =>
    obtain ⟨d, rfl, hd⟩ := known pos u hc
    refine PySem.W.kla_makeFunctionHit (mg := X.mg) (c := c) (P := P) (ps := ps) (closure_ok hfr) I.ok.glob (I.mod.glob.keeps I.bk) hcode (TB.code.keeps I.bk) atP tri hc bm fun ct h2 tk keep hsz => ?_
    exact go _ d _ ct H _ (I.kept fun b o e => Heap.get?_push_of_some _ (keep b o e)) (.inl ⟨rfl, ps, pos, hP, hc⟩) hd (Heap.get?_push_size _ rfl) (I.hok.fresh hsz) (out _ hsz)
  | none =>
    refine PySem.W.kla_makeFunction (mg := X.mg) (c := c) (P := P) (ps := ps) (closure_ok hfr) I.ok.glob (I.mod.glob.keeps I.bk) hcode (TB.code.keeps I.bk) atP tri hc TB.gP bm fun d ct h2 tk ext le lt rec tab => ?_
    obtain ⟨d2, oc, vs, t, e, hoc, hd, hv⟩ := rec
    cases e
    have hn : H d = none := I.hok.fresh le
    have sz : s.heap.objs.size ≤ h2.objs.size := Nat.le_trans le (Nat.le_of_lt lt)
    have J := LamX.inv_table (q := X.env.qual ++ "<lambda>") (t' := tk) (more := #[rawInt pos.line, rawInt pos.col, .ref d]) (h' := h2.push (PySem.W.kla_obj "<lambda>" (X.env.qual ++ "<lambda>") params body scope (cloFrom X.env.cells scope.names []) ((X.mg "__name__").getD .none) d ct)) I hP
      (fun b o hb e => Heap.get?_push_of_some _ (ext b o hb e)) (Heap.get?_push_of_some _ tab) le ⟨oc, vs, t, Heap.get?_push_of_some _ hoc, hd, hv⟩
    refine go _ d _ ct _ _ J (.inr ⟨ps, pos, hP, hn, rfl⟩) upd_same (Heap.get?_push_size _ rfl) ?_ (out _ sz)
    rw [upd_ne (Nat.ne_of_gt lt), upd_ne (Nat.ne_of_gt (Nat.lt_of_lt_of_le (Heap.lt_size atP) sz))]
    exact I.hok.fresh sz
/-- a(), a the lambda, in the def that got it -/
theorem pe_ask {st : Stmt} {qual q : Str} {Ng : List Str} {g f d : Addr} {cdv pm ct : Value} {params : Arguments} {body : Expr} {scope : Scope} {k : Nat} {a : Str} {pn : List (Addr × Obj)} {xe : Value → Shared → Prop} {Wx : WX} {t : XK → TE} {p1 p2 : Pos}
    (I : Inv X pins σ H s) (L : LamX.LamS X.env.scope scope) (hq : X.env.qual ++ "<lambda>" = q) (hf : s.heap.get? f = some (PySem.W.kla_obj "<lambda>" q params body scope (cloFrom X.env.cells scope.names []) pm d ct)) (hn : H f = none) (ho : f ∉ frs X.stack)
    (hbind : bindArgs (PySem.W.kla_fn "<lambda>" q params body scope (cloFrom X.env.cells scope.names []) pm (.ref d) ct) ⟨[], []⟩ = pure [])
    (tk : Takes ((cxOf CX0 X.prog X.w X.K X.mg X.base Ng qual (defScope st) g cdv X.A X.stack s H E0).tr pn xe) Wx) (hr : RoomG (k + 1) (X.A.deeper (envOfC qual (defScope st) s.heap.objs.size g cdv)))
    (hbody : ∀ (A : Around) (ou : List Env) (s : Shared) (H : Hp) (E : XK), RoomG k (A.deeper (LamX.lamEnv X scope s.heap.objs.size f d)) → PE (LamX.lamCx X A ou s H E scope f d) body (t E))
    (hN : Ng[0]? = some a) (hv : Vis (defScope st) a) (hd1 : (a == ("__debug__" : Str)) = false := by decide) (hd2 : (a == ("__classdict__" : Str)) = false := by decide) :
    PE ((cxOf CX0 X.prog X.w X.K X.mg X.base Ng qual (defScope st) g cdv X.A X.stack s H E0).tr pn xe) (.Call (.Name a p1) [] [] p2) (tAsk f d q (fun E H' Q' => t E σ H' Q') Wx) := by
  subst hq
  refine ⟨fun pins2 s2 σ2 H2 Q I2 ⟨h1, h2, h3⟩ => ?_⟩
  refine wpAny_Call_Name_kw (thn ((pe_var (pos := p1) (i := 0) hN hv hd1 hd2).run pins2 s2 σ2 H2 (fun v H1 => v = .ref f ∧ H1 = H2) I2 ⟨.ref f, h1, rfl, rfl⟩) fun u s3 ⟨v, H3, I3, r3, e3⟩ => ?_)
  obtain ⟨rfl, rfl⟩ := e3
  cases (show u = Value.ref f from r3)
  have there := I3.base.keep f _ hf hn ho (fun z => nomatch (show f ∈ ([] : List Addr) from z))
  refine PySem.W.callWith_F0 ⟨_, _, _, _, there⟩ ?_
  have un : Un (frs X.stack) [] H H3 s.heap s3.heap := I3.base
  obtain ⟨⟨oc, vs, tk', c1, c2, c3⟩, _, _⟩ := I3.hok d _ h2
  have run : codeAny (model X.prog X.w) (X.A.deeper (envOfC qual (defScope st) s.heap.objs.size g cdv)) (.call (.ref f) ⟨[], []⟩) (CR (L2.CX X.prog X.w) (envOfC qual (defScope st) s.heap.objs.size g cdv :: X.stack) X.prog X.w H3 s3 Q fun cls dd H' => Wx cls dd σ2 H') s3 := by
    refine PySem.W.kla_callFunE hr.rm.depth there rfl L.co L.gen rfl ⟨d, oc, vs, tk', rfl, c1, c2, c3⟩ ?_
    rw [hbind]
    refine wpAny_pure (wpAny_newFunctionEnv (fun y hy => (L.own y hy).2) (fun y hy => absurd hy (by simp)) (fun h4 hns hsb => ⟨I3.nolimit.fresh _ hsb, ?_⟩) L.kind)
    show codeAny _ _ (.expr body (LamX.lamEnv X scope s3.heap.objs.size f d)) _ _
    have J : Inv (LamX.lamCx X (X.A.deeper (envOfC qual (defScope st) s.heap.objs.size g cdv)) (envOfC qual (defScope st) s.heap.objs.size g cdv :: X.stack) s3 H3 (fun cls dd H' => Wx cls dd σ2 H') scope f d) [] σ H3 { s3 with heap := h4, toks := s3.toks + ([] : List (Str × Value)).length } :=
      LamX.lam_start2 I L I3.env0 hr.rm.hd un hns fun b o e => hsb.extBut b o (Nat.ne_of_lt (Heap.lt_size e)) (Heap.get?_push_of_some _ e)
    refine PySem.W.kla_codeExpr (wpAny_mono ((hbody _ _ s3 H3 _ (hr.deeper _)).run [] _ _ H3 Q J h3) (fun u s5 ⟨v, H5, J5, r5, q5⟩ => ?_) fun _ _ z => z)
    exact ⟨v, H5, J5.os, J5.bare, J5.base, J5.hok, r5, q5⟩
  refine wpAny_call (codeAny_mono run fun r s5 hq => ?_)
  match r, hq with
  | .error e, hq => exact tk e s5 (XE.of_call I3 (fun _ _ _ z => z) hq)
  | .ok (.ret u), hq => exact I3.after hq
  | .ok .next, hq => exact False.elim hq
  | .ok .brk, hq => exact False.elim hq
  | .ok .cont, hq => exact False.elim hq
end
/-- x(lambda: body) -/
theorem pe_lamS {X : L2.Cx} {TT : Addr → (XK → Hp → VK → Prop) → Hp → VK → Prop} {x qual a q : Str} {st : Stmt} {g c P : Addr} {fd : FuncData} {k : Nat} {Ng : List Str} {params : Arguments} {body : Expr} {scope : Scope} {t : XK → TE} {p lpos pos : Pos} (hg : Gl X x) (hm : X.mg x = some (.ref g)) (F : Fun X.K x qual st g fd) (hb : Binds X.K fd [a] []) (Sg : FnScope Ng [a] (defScope st)) (hNg : Ng[0]? = some a) (hva : Vis (defScope st) a)
    (hG : GivesS X.prog X.w X.K X.mg X.base Ng qual st g a q TT) (TB : LamX.TabB X.base X.mg c P) (hcode : X.env.code = .ref c) (hq : X.env.qual ++ "<lambda>" = q) (hr : RoomG (k + 2) X.A) (L : LamX.LamS X.env.scope scope) (hdef : defaultsOf params X.env = ([], []))
    (hbind : ∀ (q : Str) (cl : List (Str × Addr)) (pm cv ct : Value), bindArgs (PySem.W.kla_fn "<lambda>" q params body scope cl pm cv ct) ⟨[], []⟩ = pure [])
    (hbody : ∀ (A : Around) (ou : List Env) (s : Shared) (H : Hp) (E : XK) (f d : Addr), RoomG k (A.deeper (LamX.lamEnv X scope s.heap.objs.size f d)) → PE (LamX.lamCx X A ou s H E scope f d) body (t E))
    (hdb : (x == ("__debug__" : Str)) = false := by decide) (hd1 : (a == ("__debug__" : Str)) = false := by decide) (hd2 : (a == ("__classdict__" : Str)) = false := by decide) :
    PE X (.Call (.Name x p) [.Lambda params body scope lpos] [] pos) (tLamS P q TT t) := by
  have hk := F.kp
  obtain ⟨oc, od, kV, doc, pm, an, cdv, ct, osl, rfl, lk, hcd⟩ := F.ex
  refine ⟨fun pins s σ H Q I ⟨hT, h⟩ => ?_⟩
  refine wpAny_Call_Name_kw (ld_glob I hg hm ?_ hdb)
  refine PySem.W.callWith_K (h₀ := X.base) I.ok.mod.kin hk ?_ (by rfl) (by rfl)
  show wpAny _ _ (spliced ((false, eval (.Lambda params body scope lpos) X.env) :: backTo pos (starEach [] X.env))) _ _ s
  refine Calls.spliced_cons (lam_mk I TB hcode hq hT hdef (L.has I.ok) fun f d pm2 ct2 H1 s1 I1 mk hc hf hn ho => Calls.spliced_nil ⟨I1.kIn, ?_⟩)
  have run : codeAny (model X.prog X.w) X.A (.call (.ref g) ⟨[.ref f], []⟩) (CR CX0 X.stack X.prog X.w H1 s1 Q E0) s1 := by
    refine LamX.run_ofS (N := Ng) (ps := [a]) (us := [.ref f]) (vs := [.ref f]) lk hcd Sg hr.rm I1.env0 (hb s1 [.ref f] I1.kIn rfl) (.cons rfl .nil) rfl fun _ => ?_
    obtain ⟨t1, ht, hq1⟩ := hG X.A X.stack cdv f d s1 H1 Q (fun E H' Q' => t E σ H' Q') ((hr.deeper _).mono (Nat.le_add_left 1 k)) (fun Wx pn xe p1 p2 tk => pe_ask I1 L hq hf hn ho (hbind _ _ _ _ _) tk (hr.deeper _) (fun A ou s H E hr2 => hbody A ou s H E f d hr2) hNg hva hd1 hd2) (h H1 d mk hc)
    exact ⟨t1, ht.nox, hq1⟩
  refine wpAny_call (codeAny_mono run fun r s2 hq => ?_)
  match r, hq with
  | .error e, hq => exact (show False from hq).elim
  | .ok (.ret u), hq => exact I1.after hq
  | .ok .next, hq => exact False.elim hq
  | .ok .brk, hq => exact False.elim hq
  | .ok .cont, hq => exact False.elim hq
/-! ### the reading, from the left -/
/-- what is known of the lambda's answer: any value, or an error -/
def AskOk (xt : XT) (W : Wd) (z : Rz Unit) (tl : XK → Hp → VK → Prop) : Prop := ∀ (F : Hp) (H : Hp) (Q : VK) (E : XK), Core W F [] H → (match z with
  | .val _ => ∀ v F' H', Core W F' [] H' → Same F F' → Q v H'
  | .err c v => ∀ dd F' H', Core W F' [] H' → Same F F' → F' dd = some (.xd [((xt c).2, .int v)]) → E (.ref (xt c).1) (some dd) H') → tl E H Q
/-- of a def that asks: what it makes of the answer -/
def TTm (xt : XT) (q : Str) {β : Type} (m : Rz Unit → Option β) (res : β → Sl) : Addr → (XK → Hp → VK → Prop) → Hp → VK → Prop := fun d tl H Q => ∃ (W : Wd) (z : Rz Unit) (b : β), Core W W.F [] H ∧ W.F d = some (LamX.CodeO d q) ∧ AskOk xt W z tl ∧ m z = some b ∧ Rt Q W (res b) []
theorem Core.made {W : Wd} {F : Hp} {cs : Cells} {H H1 : Hp} {j : Nat} {P d : Addr} {q : Str} (c : Core W F cs H) (hj : cs[j]? = some (P, cTab q)) (mk : MkT H P q H1 d) : ∃ F1, Same F F1 ∧ F1 d = some (LamX.CodeO d q) ∧ Core W F1 cs H1 := by
  obtain ⟨h1, h2, o, h3, ps, rfl, h5, h6⟩ := c.cell (P, cTab q) (List.mem_of_getElem? hj)
  have h3 : H P = some (.tbl ps) := h3
  rcases mk with ⟨rfl, ps', at_, e1, e2⟩ | ⟨ps', at_, e1, e2, rfl⟩
  · rw [h3] at e1
    cases e1
    obtain ⟨c0, e3, e4⟩ := h6 at_ _ e2
    cases e3
    exact ⟨F, Same.refl F, e4, c⟩
  · rw [h3] at e1
    cases e1
    have nd : P ≠ d := ne_of_none h3 e2
    have c1 := c.new (o := LamX.CodeO d q) e2
    have sF : Same F (upd F d (LamX.CodeO d q)) := same_upd (c.fh.free e2)
    have c2 := c1.write (o := .tbl (ps ++ #[rawInt at_.line, rawInt at_.col, .ref d])) hj (c' := cTab q) ⟨_, rfl, by simpa using PySem.TriplesOk_snoc _ _ _ _ h5, fun p2 u hu => by
      rw [show (ps ++ #[rawInt at_.line, rawInt at_.col, .ref d]).toList = ps.toList ++ [rawInt at_.line, rawInt at_.col, .ref d] by simp] at hu
      rcases LamX.among_app _ h5 hu with z | z
      · obtain ⟨c0, a, b⟩ := h6 p2 u z
        exact ⟨c0, a, sF _ _ b⟩
      · exact ⟨d, z, upd_same⟩⟩
    have ec : cs.set j (P, cTab q) = cs := by
      apply List.ext_getElem?
      intro i
      rw [List.getElem?_set]
      by_cases e : j = i
      · subst e
        rw [if_pos rfl, if_pos (List.getElem?_eq_some_iff.mp hj).1, hj]
      · rw [if_neg e]
    rw [ec] at c2
    have eH : upd (upd H d (LamX.CodeO d q)) P (.tbl (ps ++ #[rawInt at_.line, rawInt at_.col, .ref d])) = upd (upd H P (.tbl (ps ++ #[rawInt at_.line, rawInt at_.col, .ref d]))) d (LamX.CodeO d q) := by
      funext b
      by_cases e : b = P
      · subst e; rw [upd_same, upd_ne nd, upd_same]
      · rw [upd_ne e]
        by_cases e' : b = d
        · subst e'; rw [upd_same, upd_same]
        · rw [upd_ne e', upd_ne e', upd_ne e]
    rw [eH] at c2
    exact ⟨_, sF, upd_same, c2⟩
/-- the lambda's body: what it answers -/
def EvLam (xt : XT) (t : XK → TE) (G : Gam) (T : Tms) (z : Rz Unit) : Prop := ∀ (W : Wd) (s : L2.St) (H : Hp) (Q : VK) (E : XK), Sta W G T [] s H → (match z with
  | .val _ => ∀ v F' H', Core W F' [] H' → Q v H'
  | .err c v => RtE E W (xt c).1 [((xt c).2, .int v)] []) → t E s H Q
def rzU {β : Type} : Rz β → Rz Unit
  | .val _ => .val ()
  | .err c v => .err c v
def sAny : Sl := ⟨fun _ _ => True, fun _ _ => trivial⟩
section
variable {W : Wd} {G : Gam} {T : Tms} {cs : Cells} {K : Sl → Cells → Prop} {xt : XT} {z : Rz Unit}
end
section
variable {nx bk ct : L2.St → Hp → Prop} {rt : VK} {W : Wd} {G : Gam} {xt : XT} {z : Rz Unit}
end
end ML

/-! ## the law's end where defs make lambdas; the makers -/
namespace ML
open PySem PySem.Spec PyProof.Rows L2

/-- a def whose code object is known -/
structure FunC (K : PySem.W.Frag) (x qual : Str) (st : Stmt) (f : Addr) (fd : FuncData) (c : Addr) : Prop where
  ex : ∃ (oc : Value) (od : Option Addr) (kV doc pm : Value) (an : Option Addr) (ct : Value) (osl : Array (Option Value)),
    fd = PySem.W.fnOf x qual (defArgs st) (defBody st) (defScope st) .none kV doc pm an (.ref c) ct ∧ K.lookup f = some ⟨oc, od, .func fd, osl⟩ ∧ PySem.W.codeIn K (.ref c) qual = true
theorem funC_mk {K : PySem.W.Frag} {x qual : Str} {st : Stmt} {f c : Addr} {oc : Value} {od an : Option Addr} {osl : Array (Option Value)} {kV doc pm ct : Value} (l : K.lookup f = some ⟨oc, od, .func (PySem.W.fnOf x qual (defArgs st) (defBody st) (defScope st) .none kV doc pm an (.ref c) ct), osl⟩)
    (h : PySem.W.codeIn K (.ref c) qual = true) : FunC K x qual st f (PySem.W.fnOf x qual (defArgs st) (defBody st) (defScope st) .none kV doc pm an (.ref c) ct) c := ⟨oc, od, kV, doc, pm, an, ct, osl, rfl, l, h⟩
theorem okGC {P : Program} {w : World} {K : PySem.W.Frag} {mg : Str → Option Value} {base : Heap} {x qual : Str} {st : Stmt} {f c : Addr} {fd : FuncData} {N ps : List Str} {k : Nat} {sp : Sp} (F : FunC K x qual st f fd c) (S : FnScope N ps (defScope st)) (len : ∀ vs H Q E, sp vs H Q E → vs.length = ps.length)
    (hb : ∀ (A : Around) (ou : List Env) (s : Shared) (H : Hp) (vs : List V) (Q : VK) (E : XK), RoomG k (A.deeper (envOfC qual (defScope st) s.heap.objs.size f (.ref c))) → sp vs H Q E →
      ∃ t, PSs (cxOf CX0 P w K mg base N qual (defScope st) f (.ref c) A ou s H E).nox (defBody st) t ∧ t { nx := fun _ H' => Q .non H', rt := Q } (L2.start N vs) H) : FnG P w K mg base CX0 (k + 1) f fd ps sp := by
  obtain ⟨oc, od, kV, doc, pm, an, ct, osl, rfl, lk, hcd⟩ := F.ex
  exact fn_G lk hcd S len fun A ou s H vs Q E hr hsp => let ⟨t, h, q⟩ := hb A ou s H vs Q E hr hsp; ⟨t, h.nox, q⟩
/-- the script and the empty tables, and nothing else -/
def OnlyT (H : Hp) (ts : List Addr) : Prop := ∀ P ∈ ts, H P = some (.tbl #[])
open Classical in
theorem only_coreT {H : Hp} {ns : List Int} {a : Addr} {KF : PySem.W.Frag} {ts : List (Addr × Str)} (nd : (ts.map (·.1)).Nodup) (hT : OnlyT H (ts.map (·.1))) (hS : SqL KF H a (ns.map V.int)) :
    ∃ W : Wd, Core W W.F (ts.map fun t => (t.1, cTab t.2)) H ∧ SqL KF W.F a (ns.map V.int) := by
  let F : Hp := fun b => if b ∈ ts.map (·.1) then none else H b
  have at_ : ∀ b, b ∉ ts.map (·.1) → F b = H b := fun b h => if_neg h
  have ne : ∀ b o, F b = some o → b ∉ ts.map (·.1) := fun b o e z => by
    have : F b = none := if_pos z
    rw [this] at e; cases e
  refine ⟨⟨F, fun _ => none⟩, ⟨Same.refl F, fun b o e => by rw [← at_ b (ne b o e)]; exact e, fun _ _ e => (by cases e), fun _ _ e => (by cases e), ?_, fun x hx => ?_⟩, ?_⟩
  · rw [List.map_map]; exact nd
  · obtain ⟨t, ht, rfl⟩ := List.mem_map.mp hx
    have hm : t.1 ∈ ts.map (·.1) := List.mem_map.mpr ⟨t, ht, rfl⟩
    exact ⟨if_pos hm, rfl, _, hT _ hm, #[], rfl, True.intro, fun p u hu => by simp [codeAmong] at hu⟩
  · have out : ∀ o, H a = some o → (∀ p, o ≠ .tbl p) → F a = some o := fun o e z => by
      rw [at_ a fun m => z #[] (Option.some.inj (e.symm.trans (hT a m)))]; exact e
    rcases hS with (h | ⟨o, h⟩) | h
    · exact .inl (.inl (out _ h fun p z => by cases z))
    · exact .inl (.inr ⟨o, out _ h fun p z => by cases z⟩)
    · exact .inr h
/-- the law's call, the tables of its makers at hand -/
theorem lawGT {P : Program} {w : World} {K : PySem.W.Frag} {mg mb : Str → Option Value} {CX : CXT} {k : Nat} {fa a : Addr} {cp : List (Addr × Addr)} {fd : FuncData} {x : Str} {sp : Sp} {s₁ : Shared} {vs : List Value} {ns : List Int}
    (KX : K.In s₁.heap) (hns : s₁.heap.Ns mainGlobals mg) (hb : s₁.heap.Ns builtinsNs mb) (hbb : ∀ x : Str, x ≠ "__name__" → mb x = bootBuiltins x) (hlim : s₁.heap.NoLimit) (hg : s₁.gens = #[])
    (eT : ∀ p ∈ cp, s₁.heap.get? p.2 = some { cls := .none, data := .fields #[] }) (oT : ∀ p ∈ cp, K.lookup p.2 = none) (cT : ∀ p ∈ cp, PySem.W.CodeHd s₁.heap p.1 p.2)
    (hbm : ∃ (bm : Addr) (ob : Obj), mg "__builtins__" = some (.ref bm) ∧ bm ≠ builtinsNs ∧ s₁.heap.get? bm = some ob ∧ ob.cls = .type "module" ∧ ob.dict = some builtinsNs ∧ ob.data = .plain)
    (ha : s₁.heap.get? a = some { cls := .type "list", data := .seq vs.toArray }) (hi : IntsAre vs ns) (hl : ns.length ≤ sizeLine) (hr : RoomG k callerA)
    (F : ∀ base : Heap, K.In base → base.Ns mainGlobals mg → (∀ p ∈ cp, LamX.TabB base mg p.1 p.2) → FnG P w K mg base CX k fa fd [x] sp) (hbind : ∀ (s : Shared) (u : Value), BindsTo s fd ⟨[u], []⟩ [(x, u)])
    (hsp : ∀ H : Hp, OnlyT H (cp.map (·.2)) → SqL K H a (ns.map V.int) → sp [.ref a] H (fun v _ => v = .bl true) fun _ _ _ => False)
    (hCX : ∀ H e s', CX [] H s₁ (fun _ _ _ => False) e s' → False) :
    codeAny (model P w) callerA (.call (.ref fa) ⟨[.ref a], []⟩) (fun r s' => r = .ok (.ret (.bool true)) ∧ OldK s₁.heap s'.heap ∧ s'.os = s₁.os ∧ AllBare s'.gens) s₁ := by
  have rv := vals_ints hi
  have nl := hi.length
  have tab : ∀ b ∈ cp.map (·.2), s₁.heap.get? b = some { cls := .none, data := .fields #[] } ∧ K.lookup b = none := fun b hb => by
    obtain ⟨p, hp, e⟩ := List.mem_map.mp hb
    rw [← e]
    exact ⟨eT p hp, oT p hp⟩
  have memT : ∀ p ∈ cp, p.2 ∈ cp.map (·.2) := fun p hp => List.mem_map.mpr ⟨p, hp, rfl⟩
  have na : a ∉ cp.map (·.2) := fun m => by
    have h := (tab a m).1
    rw [ha] at h
    exact nomatch (show Data.seq vs.toArray _ = Data.fields #[] from congrArg Obj.data (Option.some.inj h))
  have main : ∀ H : Hp, OnlyT H (cp.map (·.2)) → (∀ b, H b = none ∨ b ∈ cp.map (·.2) ∨ ∃ o xs, H b = some (.frz o (.lst xs))) → SqL K H a (ns.map V.int) → HOk P w H s₁.heap → (∀ b, H b ≠ none → b = a ∨ b ∈ cp.map (·.2)) → (H a ≠ none → K.lookup a = none) →
      codeAny (model P w) callerA (.call (.ref fa) ⟨[.ref a], []⟩) (fun r s' => r = .ok (.ret (.bool true)) ∧ OldK s₁.heap s'.heap ∧ s'.os = s₁.os ∧ AllBare s'.gens) s₁ := by
    intro H hO hD hS hok only kno
    have at_none : ∀ {b : Addr} {o : Obj}, s₁.heap.get? b = some o → H b = none → (hidT s₁.heap H).get? b = some o := fun e n => hidT_get e n
    have free : ∀ {b : Addr} {o : Obj}, s₁.heap.get? b = some o → (∀ us n, o.data ≠ .seq us n) → o.data ≠ .fields #[] → H b = none := fun {b o} e h1 h2 => by
      cases q : H b with
      | none => rfl
      | some u =>
        rcases only b (by rw [q]; simp) with z | z
        · rw [z, ha] at e
          cases e
          exact (h1 _ _ rfl).elim
        · rw [(tab b z).1] at e
          cases e
          exact (h2 rfl).elim
    have dict_none : ∀ {b : Addr} {o : Obj} {es : Array DictEntry} {ep : Nat}, s₁.heap.get? b = some o → o.data = .dict es ep → H b = none := fun {b o es ep} e d => free e (fun us n z => by rw [d] at z; cases z) fun z => by rw [d] at z; cases z
    have ns_of : ∀ {b : Addr} {m : Str → Option Value}, s₁.heap.Ns b m → (hidT s₁.heap H).Ns b m := fun {b m} ⟨o, es, ep, e, d, r⟩ => ⟨o, es, ep, at_none e (dict_none e d), d, r⟩
    have KB : K.In (hidT s₁.heap H) := fun b o e => at_none (KX b o e) (by
      cases q : H b with
      | none => rfl
      | some u =>
        rcases only b (by rw [q]; simp) with z | z
        · rw [z] at e q
          rw [kno (by rw [q]; simp)] at e
          cases e
        · rw [(tab b z).2] at e
          cases e)
    have lim : (hidT s₁.heap H).NoLimit := let ⟨mc, h1, h2⟩ := hlim; ⟨mc, ns_of h1, h2⟩
    have tb : ∀ p ∈ cp, LamX.TabB (hidT s₁.heap H) mg p.1 p.2 := fun p hp => by
      refine ⟨?_, ?_, fun z => ?_⟩
      · obtain ⟨o, us, file, tf, flags, tg, inF, text, tt, g1, g0, g2, g3, rest⟩ := cT p hp
        refine ⟨o, us, file, tf, flags, tg, inF, text, tt, at_none g1 (free g1 (fun us n z => ?_) fun z => ?_), g0, g2, g3, rest⟩
        all_goals
          rw [g2] at z
          cases z
        simp at g3
      · obtain ⟨bm, ob, b1, b2, b3, b4, b5, b6⟩ := hbm
        refine ⟨bm, ob, b1, b2, fun q => ?_, fun q => ?_, at_none b3 (free b3 (fun us n z => ?_) fun z => ?_), b4, b5, b6⟩
        · obtain ⟨o, es, ep, e, hd, _⟩ := hns
          rw [q, e] at b3
          cases b3
          rw [hd] at b6
          cases b6
        · rw [q, eT p hp] at b3
          cases b3
          cases b6
        · rw [b6] at z; cases z
        · rw [b6] at z; cases z
      · obtain ⟨o, es, ep, e, hd, _⟩ := hns
        rw [z, eT p hp] at e
        cases e
        cases hd
    have e0 : Env0 P w K mg (hidT s₁.heap H) callerA [] s₁ H := ⟨rfl, ⟨KB, ns_of hns, ⟨mb, ns_of hb, hbb⟩, lim⟩, fun b o e => of_hidT e, Nat.le_of_eq (hidT_size _ _), trivial, fun b hb => absurd (show b ∈ ([] : List Addr) from hb) (by simp), hok, .of_eq hg⟩
    have run := (F _ KB (ns_of hns) tb).go callerA [] s₁ H ⟨[.ref a], []⟩ [.ref a] [.ref a] _ _ hr e0 (hbind s₁ (.ref a)) (.cons rfl .nil) (hsp H hO hS)
    refine codeAny_mono run fun r s' h => ?_
    match r, h with
    | .error e, h => exact (hCX H e s' h).elim
    | .ok .next, h => exact False.elim h
    | .ok .brk, h => exact False.elim h
    | .ok .cont, h => exact False.elim h
    | .ok (.ret u), ⟨v, H', os, bare, un, hok', r', q⟩ =>
      obtain rfl : v = .bl true := q
      obtain rfl : u = Value.bool true := r'
      have kept : ∀ b o, b ∉ cp.map (·.2) → s₁.heap.get? b = some o → s'.heap.get? b = some o := fun b o nb e => by
        cases q : H b with
        | none => exact un.keep b o e q (fun z => absurd (show b ∈ ([] : List Addr) from z) (by simp)) (by simp)
        | some u =>
          rcases hD b with z | z | ⟨ob, xs, z⟩
          · rw [q] at z; cases z
          · exact absurd z nb
          · obtain ⟨e1, _⟩ := hok b _ z
            obtain ⟨e2, _⟩ := hok' b _ (un.frzs b ob _ z)
            rw [e] at e1
            cases e1
            exact e2
      have more : ∀ b ∈ cp.map (·.2), ∃ qs : Array Value, s'.heap.get? b = some { cls := .none, data := .fields qs } := fun b hb => by
        obtain ⟨qs, z⟩ := un.tbls b #[] (hO b hb)
        exact ⟨_, hok' b _ z⟩
      refine ⟨rfl, ⟨fun b o e => ?_, fun b o e => ?_⟩, os, bare⟩
      · by_cases m : b ∈ cp.map (·.2)
        · obtain ⟨p, hp, ep⟩ := List.mem_map.mp m
          obtain ⟨qs, hq⟩ := more b m
          rw [(tab b m).1] at e
          cases e
          have ct := (cT p hp).tab (eT p hp)
          rw [ep] at ct
          exact .inr (.inl ⟨ct.isCodeTable, rfl, #[], qs, rfl, by rw [Array.empty_append]; exact hq⟩)
        · exact .inl (kept b o m e)
      · by_cases m : b ∈ cp.map (·.2)
        · obtain ⟨qs, hq⟩ := more b m
          exact ⟨_, hq⟩
        · exact ⟨o, kept b o m e⟩
  cases hk : K.lookup a with
  | some o =>
    have e := KX a o hk
    rw [ha] at e
    cases e
    refine main (fun b => if b ∈ cp.map (·.2) then some (.tbl #[]) else none) (fun b m => if_pos m) (fun b => ?_) (.inr ⟨_, vs.toArray, _, hk, rfl, rfl, rfl, by rw [List.size_toArray, nl]; exact hl, by simpa using rv⟩) (fun b u z => ?_) (fun b z => ?_) fun z => absurd (if_neg na) z
    · by_cases m : b ∈ cp.map (·.2)
      · exact .inr (.inl m)
      · exact .inl (if_neg m)
    · by_cases m : b ∈ cp.map (·.2)
      · cases (if_pos m).symm.trans z
        exact (tab b m).1
      · cases (if_neg m).symm.trans z
    · by_cases m : b ∈ cp.map (·.2)
      · exact .inr m
      · exact absurd (if_neg m) z
  | none =>
    refine main (fun b => if b = a then some (.frz { cls := .type "list", data := .seq vs.toArray } (.lst (ns.map V.int))) else if b ∈ cp.map (·.2) then some (.tbl #[]) else none) (fun b m => (if_neg (show ¬ b = a from fun z => na (by rw [← z]; exact m))).trans (if_pos m)) (fun b => ?_) (.inl (.inr ⟨{ cls := .type "list", data := .seq vs.toArray }, if_pos rfl⟩)) (fun b u z => ?_) (fun b z => ?_) fun _ => hk
    · by_cases c : b = a
      · exact .inr (.inr ⟨_, _, if_pos c⟩)
      · by_cases m : b ∈ cp.map (·.2)
        · exact .inr (.inl m)
        · exact .inl ((if_neg c).trans (if_neg m))
    · by_cases c : b = a
      · cases (if_pos c).symm.trans z
        subst c
        exact ⟨ha, by rw [List.length_map]; exact hl, vs, _, rv, ha⟩
      · by_cases m : b ∈ cp.map (·.2)
        · cases (((if_neg c).trans (if_pos m)).symm.trans z)
          exact (tab b m).1
        · cases (((if_neg c).trans (if_neg m)).symm.trans z)
    · by_cases c : b = a
      · exact .inl c
      · by_cases m : b ∈ cp.map (·.2)
        · exact .inr m
        · exact absurd ((if_neg c).trans (if_neg m)) z
theorem walk_GT {l : PySem.W.OpenLaw} {n k : Nat} {q : Program} {loose : List Str} {XP : (Str → Option Value) → Heap → Prop} {YP : World → Heap → Prop} {d : DefRec} {K : Params → PySem.W.Frag} {CX : World → CXT} {x : Str} {cp : List (Addr × Addr)} {sp : World → Sp}
    (hn : l.most = some n) (hn2 : n ≤ sizeLine) (hdf : d.params.defaults = []) (hr : RoomG k callerA)
    (hY : ∀ (w : World) (h : Heap), YP w h → (K w.params).In h) (hE : ∀ (w : World) (h : Heap), YP w h → ∀ p ∈ cp, h.get? p.2 = some { cls := .none, data := .fields #[] })
    (oT : ∀ (w : World), ∀ p ∈ cp, (K w.params).lookup p.2 = none) (cT : ∀ (w : World), ∀ p ∈ cp, PySem.W.codeHdIn (K w.params) p.1 p.2 = true)
    (F : ∀ (w : World) (mg : Str → Option Value) (fa : Addr) (h : Heap), (K w.params).In h → h.Ns mainGlobals mg → mg d.name = some (.ref fa) →
      ∃ fd : FuncData, (∀ (s : Shared) (u : Value), BindsTo s fd ⟨[u], []⟩ [(x, u)]) ∧
        ∀ base : Heap, (K w.params).In base → base.Ns mainGlobals mg → (∀ p ∈ cp, LamX.TabB base mg p.1 p.2) → FnG l.prog w (K w.params) mg base (CX w) k fa fd [x] (sp w))
    (hsp : ∀ (w : World) (H : Hp) (a : Addr) (ns : List Int), ns.length ≤ n → OnlyT H (cp.map (·.2)) → SqL (K w.params) H a (ns.map V.int) → sp w [.ref a] H (fun v _ => v = .bl true) fun _ _ _ => False)
    (hCX : ∀ (w : World) (H : Hp) (s : Shared) (e : Value) (s' : Shared), CX w [] H s (fun _ _ _ => False) e s' → False) :
    PySem.W.WalkO q loose XP YP l.row.toRowW d [] (fun f vs => PySem.call f vs) :=
  Att.attach_call hn hdf fun w s₀ s₁ mg mb fa o pm cd doc a vs ns G Y ho hd hcd hmg hobj hints hlen hg =>
    let ⟨fd, hb, hF⟩ := F w mg fa _ (hY w _ Y) G.T.g hmg
    lawGT (hY w _ Y) G.T.g G.T.b G.T.builtins G.T.nolimit hg (hE w _ Y) (oT w) (fun p hp => PySem.W.codeHd_of_K (hY w _ Y) (cT w p hp)) G.T.bmain hobj hints (Nat.le_trans hlen hn2) hr hF hb (fun H hO hS => hsp w H a ns hlen hO hS) fun H e s' => hCX w H s₁ e s'
end ML

/-! ## bs.count(b); expressions that are never reached -/
namespace ML
open PySem PySem.Spec PyProof.Rows L2
def isB (b : Bool) (u : Value) : Bool := match u with
  | .bool c => c == b
  | _ => false
def rCntB (K : PySem.W.Frag) : V → List V → Hp → VK → Prop := fun x xs H Q => ∃ (p : Addr) (bs : List Bool) (b : Bool), x = .ref p ∧ xs = [.bl b] ∧ SqL K H p (bs.map V.bl) ∧ Q (.int (bs.count b : Nat)) H
theorem vals_bools : ∀ {bs : List Bool} {us : List Value}, Vals (bs.map V.bl) us → us = bs.map Value.bool
  | [], _, .nil => rfl
  | b :: bs, _, .cons h q => by
    obtain rfl : _ = Value.bool b := h
    rw [vals_bools q]
    rfl
theorem countP_bools (b : Bool) : ∀ bs : List Bool, (bs.map Value.bool).countP (isB b) = bs.count b
  | [] => rfl
  | c :: bs => by
    rw [List.map_cons, List.countP_cons, List.count_cons, countP_bools b bs]
    rfl
theorem mt_countB {X : Cx} : MtR X "list.count" (rCntB X.K) := by
  intro pins s σ H x xs v us Q I rx rxs h
  obtain ⟨p, bs, b, rfl, rfl, hs, q⟩ := h
  cases rx
  obtain ⟨u, rfl, ru⟩ := rxs.one
  obtain rfl : u = Value.bool b := ru
  obtain ⟨its, rv, ⟨⟨cls, dd, data, sl⟩, n, ho, hc, hdn, hd⟩, hlen⟩ := I.list hs
  simp only at hc hd
  subst hc hd
  have ei := vals_bools rv
  subst ei
  refine call_meets PySem.F.slot_list_count ⟨_, ho, rfl⟩ PySem.F.entry_list_count (PySem.F.args_list_count_2 _ _)
    (SeqAt.list_countAt p (bs.map Value.bool).toArray n dd sl (.bool b) (isB b)) ⟨ho, fun y hy => ?_, ?_⟩
  · obtain ⟨c, hc, ec⟩ := List.mem_map.mp (show y ∈ bs.map Value.bool by simpa using hy)
    subst ec
    exact SeqAt.EqAt.bool_bool c b
  · refine ⟨.int (bs.count b : Nat), H, I.tok _, ⟨s.toks, ?_⟩, q⟩
    show Value.int (((bs.map Value.bool).toArray.toList.countP (isB b) : Nat) : Int) s.toks = Value.int ((bs.count b : Nat) : Int) s.toks
    rw [show (bs.map Value.bool).toArray.toList = bs.map Value.bool from rfl, countP_bools]
section
variable {W : Wd} {G : Gam} {T : Tms} {cs : Cells} {K : Sl → Cells → Prop} {to te : TE} {ta : TA} {KF : PySem.W.Frag}
end
/-- what is never reached -/
abbrev tDeadE : TE := fun _ _ _ => False
/-- ("word", n) -/
def rWord (w : Str) : R Int := ⟨fun n F v => (rPair rStr rInt).p (w, n) F v, fun e h => (rPair rStr rInt).mono e h⟩
def eWord (w : Str) (hw : (PyData.str w).canLay0 = true) : REq (rWord w) where
  d := fun n => .tuple [.str w, .int n]
  ok := fun {K F H a v} h s => by
    obtain ⟨p, u, z, rfl, h2, h3, h4⟩ := h
    obtain rfl : u = .str w := h3
    obtain rfl : z = .int a := h4
    exact Dp.tup (SqT.of (s _ _ h2)) (.cons (Dp.str w) (.cons (Dp.int a) .nil))
  lay := fun n => by show ((PyData.str w).canLay0 && (true && true)) = true; rw [hw]; rfl
  n := 2
  dep := fun n => by simp [PyData.depth, PyData.depthAll]
  eqv := fun a b => by simp [PyData.eqv, PyData.eqvAll, Bool.beq_eq_decide_eq]
section
variable {W : Wd} {G : Gam} {T : Tms} {cs : Cells} {K : Sl → Cells → Prop} {t : TA}
end
end ML

/-! ## range(i, j, c) -/
namespace ML
open PySem PySem.Spec PyProof.Rows L2
def rangeC (i c : Int) (n : Nat) : List Int := (List.range n).map fun (k : Nat) => i + (k : Int) * c
def oRange3 (i j c : Int) : Option (List Int) := if c ≠ 0 ∧ c.natAbs < 1073741824 ∧ Builtin.Range.small i j c = true ∧ 0 ≤ Builtin.Range.rangeSize i j c ∧ (Builtin.Range.rangeSize i j c).toNat ≤ sizeLine then some (rangeC i c (Builtin.Range.rangeSize i j c).toNat) else none
section
variable {W : Wd} {G : Gam} {T : Tms} {cs : Cells}
end
end ML

/-! ## values of any kind, looked into: dicts {} and {text: value} too -/
namespace ML
open PySem PySem.Spec PyProof.Rows L2
mutual
inductive Dq (H : Hp) : V → PyData → Prop
  | non : Dq H .non .none
  | bl (b : Bool) : Dq H (.bl b) (.bool b)
  | int (i : Int) : Dq H (.int i) (.int i)
  | str (x : Str) : Dq H (.str x) (.str x)
  | lst {a : Addr} {xs : List V} {ds : List PyData} : (a == sysModules) = false → xs.length ≤ sizeLine → H a = some (.lst xs) → DqAll H xs ds → Dq H (.ref a) (.list ds)
  | tup {a : Addr} {xs : List V} {ds : List PyData} : xs.length ≤ sizeLine → H a = some (.tup xs) → DqAll H xs ds → Dq H (.ref a) (.tuple ds)
  | dic0 {a : Addr} : H a = some (.dK []) → Dq H (.ref a) (.dict [])
  | dic1 {a : Addr} {x : Str} {v : V} {d : PyData} : H a = some (.dK [(.inr x, v)]) → Dq H v d → Dq H (.ref a) (.dict [(.str x, d)])
inductive DqAll (H : Hp) : List V → List PyData → Prop
  | nil : DqAll H [] []
  | cons {v : V} {vs : List V} {d : PyData} {ds : List PyData} : Dq H v d → DqAll H vs ds → DqAll H (v :: vs) (d :: ds)
end
mutual
theorem Dq.mono {H H' : Hp} (s : Same H H') : ∀ {d : PyData} {v : V}, Dq H v d → Dq H' v d
  | _, _, .non => .non
  | _, _, .bl b => .bl b
  | _, _, .int i => .int i
  | _, _, .str x => .str x
  | _, _, .lst n l e q => .lst n l (s _ _ e) (DqAll.mono s q)
  | _, _, .tup l e q => .tup l (s _ _ e) (DqAll.mono s q)
  | _, _, .dic0 e => .dic0 (s _ _ e)
  | _, _, .dic1 e q => .dic1 (s _ _ e) (Dq.mono s q)
theorem DqAll.mono {H H' : Hp} (s : Same H H') : ∀ {ds : List PyData} {vs : List V}, DqAll H vs ds → DqAll H' vs ds
  | _, _, .nil => .nil
  | _, _, .cons a q => .cons (Dq.mono s a) (DqAll.mono s q)
end
theorem DqAll.of {H : Hp} : ∀ {ds : List PyData} {vs : List V}, All2 (fun d v => Dq H v d) ds vs → DqAll H vs ds
  | _, _, .nil => .nil
  | _, _, .cons a q => .cons a (DqAll.of q)
theorem DqAll.all2 {H : Hp} : ∀ {ds : List PyData} {vs : List V}, DqAll H vs ds → All2 (fun d v => Dq H v d) ds vs
  | _, _, .nil => .nil
  | _, _, .cons a q => .cons a q.all2
theorem DqAll.len {H : Hp} {ds : List PyData} {vs : List V} (h : DqAll H vs ds) : vs.length = ds.length := h.all2.length.symm
/-! ### as the library reads data -/
section
variable {X : L2.Cx} {pins : List (Addr × Obj)} {σ : L2.St} {H : Hp} {s : Shared}
mutual
theorem Dq.reads (I : Inv X pins σ H s) : ∀ (d : PyData) (v : V) (u : Value), Dq H v d → RelV v u → ∃ as, Reads s.heap u d as ∧ sysModules ∉ as
  | .none, _, _, h, r => by
    cases h
    cases r
    exact ⟨_, Reads.none, by simp⟩
  | .bool b, _, _, h, r => by
    cases h
    cases r
    exact ⟨_, Reads.bool b, by simp⟩
  | .int i, _, _, h, r => by
    cases h
    obtain ⟨t, rfl⟩ := r
    exact ⟨_, Reads.int i t, by simp⟩
  | .str x, _, _, h, r => by
    cases h
    obtain ⟨t, rfl⟩ := r
    exact ⟨_, Reads.str x t, by simp⟩
  | .list ds, _, _, h, r => by
    cases h with
    | lst hn hl hs ha =>
      cases r
      obtain ⟨its, rv, ⟨o, n, ho, hc, _, hd⟩, _⟩ := I.list (SqL.of hs)
      obtain ⟨as, hr, hm⟩ := Dq.readsAll I ds _ its ha rv
      refine ⟨_, Reads.list ho hc hd hr, fun m => ?_⟩
      rcases List.mem_cons.mp m with e | m
      · rw [← e] at hn; simp at hn
      · exact hm m
  | .tuple ds, _, _, h, r => by
    cases h with
    | tup hl hs ha =>
      cases r
      obtain ⟨its, rv, ⟨o, ho, hc, n, hd⟩, _⟩ := I.tuple (SqT.of hs)
      obtain ⟨as, hr, hm⟩ := Dq.readsAll I ds _ its ha rv
      exact ⟨_, Reads.tuple ho hc hd hr, hm⟩
  | .dict kvs, _, _, h, r => by
    cases h with
    | dic0 e =>
      cases r
      rename_i a
      obtain ⟨z, hd, vs, rel, o, es, ep, ho, hx, hdd, hk, hp, _⟩ := dk_of I.hok e
      have ev : vs = [] := by cases rel; rfl
      subst ev
      have ee : es.toList = [] := by
        cases q : es.toList with
        | nil => rfl
        | cons a l => rw [q] at hp; cases hp
      refine ⟨_, Reads.dict (as := []) (bs := []) ho hx.1 hdd (by rw [ee]; exact ReadsAll.nil) (by rw [ee]; exact ReadsAll.nil), fun m => ?_⟩
      have m2 : sysModules = a := by simpa using m
      rw [← m2] at hd; simp at hd
    | dic1 e hv =>
      cases r
      rename_i a x v d
      obtain ⟨z, hd, vs, rel, o, es, ep, ho, hx, hdd, hk, hp, _⟩ := dk_of I.hok e
      cases rel with
      | cons r1 rr =>
        cases rr
        rename_i q _
        obtain ⟨q1, q2⟩ := q
        obtain ⟨k1, r2⟩ := r1
        dsimp only at k1 r2
        subst k1
        obtain ⟨en, ee⟩ : ∃ en, es.toList = [en] ∧ keyIs (.inr x) en.key = true ∧ en.val = q2 := by
          cases q : es.toList with
          | nil => rw [q] at hp; cases hp
          | cons en l =>
            rw [q] at hp
            cases hp with
            | cons h1 h2 h3 =>
              cases h3
              exact ⟨en, rfl, h1, h2⟩
        obtain ⟨ee, h1, h2⟩ := ee
        obtain ⟨t, ek⟩ : ∃ t, en.key = .str x t := by
          rcases keyIs_shape h1 with ⟨i, t, e1, e2⟩ | ⟨y, t, e1, e2⟩
          · exact nomatch e1
          · have e1 := Sum.inr.inj e1
            subst e1
            exact ⟨t, e2⟩
        obtain ⟨as, hr, hm⟩ := Dq.reads I d v q2 hv r2
        refine ⟨_, Reads.dict (as := []) (bs := as) ho hx.1 hdd ?_ ?_, fun m => ?_⟩
        · rw [ee]
          show ReadsAll s.heap [en.key] [.str x] []
          rw [ek]
          exact ReadsAll.cons (as := []) (bs := []) (Reads.str x t) ReadsAll.nil
        · rw [ee]
          show ReadsAll s.heap [en.val] [d] as
          rw [h2]
          have := ReadsAll.cons hr (ReadsAll.nil (h := s.heap))
          rw [List.append_nil] at this
          exact this
        · rcases List.mem_cons.mp (show sysModules ∈ a :: ([] ++ as) from m) with e | m
          · rw [← e] at hd; simp at hd
          · exact hm m
theorem Dq.readsAll (I : Inv X pins σ H s) : ∀ (ds : List PyData) (vs : List V) (us : List Value), DqAll H vs ds → Vals vs us → ∃ as, ReadsAll s.heap us ds as ∧ sysModules ∉ as
  | [], _, _, h, r => by
    cases h
    cases r
    exact ⟨_, ReadsAll.nil, by simp⟩
  | d :: ds, _, _, h, r => by
    cases h with
    | cons h1 h2 =>
      cases r with
      | cons r1 r2 =>
        obtain ⟨as, q1, m1⟩ := Dq.reads I d _ _ h1 r1
        obtain ⟨bs, q2, m2⟩ := Dq.readsAll I ds _ _ h2 r2
        exact ⟨_, ReadsAll.cons q1 q2, fun m => (List.mem_append.mp m).elim m1 m2⟩
end
end
end ML

/-! ## rules for values of any kind -/
namespace ML
open PySem PySem.Spec PyProof.Rows L2
def rVal : R PyData := ⟨fun d F v => Dq F v d, fun {_} _ _ _ e h => h.mono e⟩
/-- a typed value as one of any kind -/
structure VQ {α : Type} (r : R α) where
  d : α → PyData
  ok : ∀ {F : Hp} {a : α} {v : V}, r.p a F v → Dq F v (d a)
def vInt : VQ rInt := ⟨.int, fun {F a v} h => by have e : v = .int a := h; subst e; exact .int a⟩
def vBool : VQ rBool := ⟨.bool, fun {F a v} h => by have e : v = .bl a := h; subst e; exact .bl a⟩
def vStr : VQ rStr := ⟨.str, fun {F a v} h => by have e : v = .str a := h; subst e; exact .str a⟩
def vNon : VQ rNon := ⟨fun _ => .none, fun {F a v} h => by have e : v = .non := h; subst e; exact .non⟩
def vVal : VQ rVal := ⟨id, fun h => h⟩
theorem dq_map {α : Type} {r : R α} (e : VQ r) {F : Hp} : ∀ {xs : List α} {vs : List V}, All2 (fun x u => r.p x F u) xs vs → DqAll F vs (xs.map e.d)
  | _, _, .nil => .nil
  | _, _, .cons p q => .cons (e.ok p) (dq_map e q)
def vTup {α : Type} {r : R α} (e : VQ r) : VQ (rTup r) := ⟨fun xs => .tuple (xs.map e.d), fun {F xs v} ⟨hz, a, vs, h1, h2, h3⟩ => by
  subst h1
  exact .tup (by rw [← h3.length]; exact hz) h2 (dq_map e h3)⟩
def vPair {α β : Type} {r : R α} {q : R β} (e : VQ r) (f : VQ q) : VQ (rPair r q) := ⟨fun x => .tuple [e.d x.1, f.d x.2], fun {F x v} ⟨a, u, w, h1, h2, h3, h4⟩ => by
  subst h1
  exact .tup (by show 2 ≤ sizeLine; decide) h2 (.cons (e.ok h3) (.cons (f.ok h4) .nil))⟩
def AsV (sl : Sl) (d : PyData) : Prop := ∀ F v, sl.p F v → Dq F v d
theorem asV_of {α : Type} {r : R α} (e : VQ r) (x : α) : AsV (r.at x) (e.d x) := fun _ _ h => e.ok h
theorem asV_val (d : PyData) : AsV (rVal.at d) d := fun _ _ h => h
theorem asV_all {F : Hp} : ∀ {sls : List Sl} {ds : List PyData} {vs : List V}, All2 AsV sls ds → Args F sls vs → All2 (fun d v => Dq F v d) ds vs
  | _, _, _, .nil, .nil => .nil
  | _, _, _, .cons a q, .cons p r => .cons (a _ _ p) (asV_all q r)
/-! ### narrowed -/
def oIntD : PyData → Option Int
  | .int i => some i
  | _ => none
def oTupD : PyData → Option (List PyData)
  | .tuple ds => some ds
  | _ => none
def oIntsD : List PyData → Option (List Int)
  | [] => some []
  | .int i :: ds => (oIntsD ds).map (i :: ·)
  | _ => none
def oTupI (d : PyData) : Option (List Int) := match d with
  | .tuple ds => oIntsD ds
  | _ => none
def oSplD (d : PyData) : Option (List Int × Int) := match d with
  | .tuple [.tuple ds, .int k] => (oIntsD ds).map (·, k)
  | _ => none
def Nar (d : PyData) (sl : Sl) : Prop := ∀ F v, Dq F v d → sl.p F v
theorem nar_int {d : PyData} {i : Int} (h : oIntD d = some i) : Nar d (rInt.at i) := fun F v q => by
  cases q <;> first | cases h
  rfl
theorem nar_tup {d : PyData} {ds : List PyData} (h : oTupD d = some ds) : Nar d ((rTup rVal).at ds) := fun F v q => by
  cases q with
  | tup hl e qa =>
    cases h
    exact ⟨by rw [← qa.len]; exact hl, _, _, rfl, e, qa.all2⟩
  | _ => cases h
def tyD : PyData → String
  | .none => "NoneType"
  | .bool _ => "bool"
  | .int _ => "int"
  | .str _ => "str"
  | .list _ => "list"
  | .tuple _ => "tuple"
  | .dict _ => "dict"
theorem tyX_of {KF : PySem.W.Frag} {H : Hp} {v : V} {d : PyData} (h : Dq H v d) : TyX KF H v (.type (tyD d)) := by
  cases h with
  | non => exact .base .non
  | bl b => exact .base (.bl b)
  | int i => exact .base (.int i)
  | str x => exact .base (.str x)
  | lst _ _ e _ => exact .base (.lst e)
  | tup _ e _ => exact .base (.tup e)
  | dic0 e => exact .base (.dK e)
  | dic1 e _ => exact .base (.dK e)
def isIntD : PyData → Bool
  | .int _ => true
  | .bool _ => true
  | _ => false
def isBoolD : PyData → Bool
  | .bool _ => true
  | _ => false
def isTupD : PyData → Bool
  | .tuple _ => true
  | _ => false
theorem kit_intD (KF : PySem.W.Frag) (d : PyData) : PySem.W.kitOne KF (.type (tyD d)) (.type "int") = some (isIntD d) := by cases d <;> (first | rfl | kernel_rfl)
theorem kit_boolD (KF : PySem.W.Frag) (d : PyData) : PySem.W.kitOne KF (.type (tyD d)) (.type "bool") = some (isBoolD d) := by cases d <;> (first | rfl | kernel_rfl)
theorem kit_tupD (KF : PySem.W.Frag) (d : PyData) : PySem.W.kitOne KF (.type (tyD d)) (.type "tuple") = some (isTupD d) := by cases d <;> (first | rfl | kernel_rfl)
/-- a new list, its place beyond what the machine itself holds -/
def tLstB (t : TA) : TE := fun σ H Q => t σ H fun xs H1 => xs.length ≤ sizeLine ∧ ∀ p, H1 p = none → (p == sysModules) = false → Q (.ref p) (upd H1 p (.lst xs))
theorem pe_lstB {X : L2.Cx} {es : List Expr} {t : TA} {pos : Pos} (h : PA X es t) : PE X (.List es pos) (tLstB t) := by
  refine ⟨fun pins s σ H Q I hq => ?_⟩
  refine wpAny_List_spliced (thn (h.run pos pins s σ H _ I hq) fun us s1 ⟨xs, H1, I1, r, z, q⟩ => ⟨by rw [← r.length]; exact z, ?_⟩)
  have free := I1.hok.fresh (Nat.le_refl s1.heap.objs.size)
  have far : (s1.heap.objs.size == sysModules) = false := beq_eq_false_iff_ne.mpr (Nat.ne_of_gt I1.big)
  refine ⟨.ref s1.heap.objs.size, upd H1 s1.heap.objs.size (.lst xs), I1.laid (t' := s1.toks) (fun b u e => Heap.get?_push_of_some _ e) (Nat.le_refl _) ?_, rfl, q _ free far⟩
  exact ⟨z, us, 0, r, Heap.get?_push_size _ rfl⟩
/-! ### == () -/
def rEqT0 : R2 := fun x y H Q => ∃ (a b : Addr) (xs : List V), x = .ref a ∧ y = .ref b ∧ H a = some (.tup xs) ∧ H b = some (.tup []) ∧ Q (.bl xs.isEmpty) H
def rNeT0 : R2 := fun x y H Q => ∃ (a b : Addr) (xs : List V), x = .ref a ∧ y = .ref b ∧ H a = some (.tup xs) ∧ H b = some (.tup []) ∧ Q (.bl (!xs.isEmpty)) H
theorem op_eqT0 {X : L2.Cx} (hu : X.A.units + 64 < cLine) : OpR X (compareOp .Eq) rEqT0 := by
  intro pins s σ H x y v u Q I rx ry h
  obtain ⟨a, b, xs, rfl, rfl, ha, hb, q⟩ := h
  cases rx
  cases ry
  obtain ⟨is, r1, t1, _⟩ := I.tuple (SqT.of ha)
  obtain ⟨js, r2, t2, _⟩ := I.tuple (SqT.of hb)
  cases r2
  refine SeqAt.RcAt.tuples (e := fun _ => true) t1 t2 (by omega) (fun j h1 h2 => absurd h2 (by simp)) X.prog X.w _ _ ?_
  refine ⟨.bl xs.isEmpty, H, I, ?_, q⟩
  have e := r1.length
  show Value.bool _ = Value.bool _
  congr 1
  cases xs with
  | nil => cases is with
    | nil => rfl
    | cons _ _ => cases e
  | cons _ _ => cases is with
    | nil => cases e
    | cons _ _ => simp
theorem op_neT0 {X : L2.Cx} (hu : X.A.units + 64 < cLine) : OpR X (compareOp .NotEq) rNeT0 := by
  intro pins s σ H x y v u Q I rx ry h
  obtain ⟨a, b, xs, rfl, rfl, ha, hb, q⟩ := h
  cases rx
  cases ry
  obtain ⟨is, r1, t1, _⟩ := I.tuple (SqT.of ha)
  obtain ⟨js, r2, t2, _⟩ := I.tuple (SqT.of hb)
  cases r2
  refine SeqAt.RcNeAt.tuples (e := fun _ => true) t1 t2 (by omega) (fun j h1 h2 => absurd h2 (by simp)) X.prog X.w _ _ ?_
  refine ⟨.bl (!xs.isEmpty), H, I, ?_, q⟩
  have e := r1.length
  show Value.bool _ = Value.bool _
  congr 1
  cases xs with
  | nil => cases is with
    | nil => rfl
    | cons _ _ => cases e
  | cons _ _ => cases is with
    | nil => cases e
    | cons _ _ => simp
/-! ### repr -/
def rReprW : List V → Hp → VK → Prop := fun xs H Q => ∃ x d, xs = [x] ∧ Dq H x d ∧ d.showable = true ∧ d.depth ≤ 60 ∧ d.shown.length ≤ sizeLine ∧ Q (.str d.shown) H
theorem cr_reprW {X : L2.Cx} {k : Nat} (hr : RoomG k X.A) : CallR X (.builtin "repr") rReprW := by
  intro pins s σ H xs us Q I r h
  obtain ⟨x, d, rfl, hd, hs, hn, hz, q⟩ := h
  obtain ⟨u, rfl, ru⟩ := vals1 r
  obtain ⟨as, rd, nm⟩ := Dq.reads I d x u hd ru
  have hu := hr.units
  have same : ∀ b o, s.heap.get? b = some o → s.heap.get? b = some o := fun _ _ e => e
  have out : ∀ h' u tk, (∀ b o, s.heap.get? b = some o → h'.get? b = some o) → EP X pins σ Q (.str d.shown u) { s with heap := h', toks := tk } := fun h' u tk kp => ⟨.str _, H, I.kept (t' := tk) kp, ⟨_, rfl⟩, q⟩
  cases rd with
  | none => exact PySem.P.repr_of_none (out s.heap _ _ same)
  | bool b =>
    refine PySem.P.repr_of_bool ?_
    have := out s.heap s.toks (s.toks + 1) same
    simpa only [PyData.shown] using this
  | int i t =>
    refine PySem.P.repr_of_int (by simpa [PyData.showable] using hs) ?_
    have := out s.heap s.toks (s.toks + 1) same
    simpa only [PyData.shown] using this
  | str x t =>
    refine PySem.P.repr_of_str ?_ (by simpa only [PyData.shown] using hz)
    have := out s.heap s.toks (s.toks + 1) same
    simpa only [PyData.shown] using this
  | list h1 h2 h3 h4 => exact repr_of_reads' (.list h1 h2 h3 h4) hs (fun _ => nm) hr.gd (by omega) same out hz
  | tuple h1 h2 h3 h4 => exact repr_of_reads' (.tuple h1 h2 h3 h4) hs (fun _ => nm) hr.gd (by omega) same out hz
  | dict h1 h2 h3 h4 h5 => exact repr_of_reads' (.dict h1 h2 h3 h4 h5) hs (fun _ => nm) hr.gd (by omega) same out hz
def oReprW (d : PyData) : Option Str := if d.showable = true ∧ d.depth ≤ 60 ∧ d.shown.length ≤ sizeLine then some d.shown else none
section
variable {W : Wd} {G : Gam} {T : Tms} {cs : Cells} {K : Sl → Cells → Prop} {KF : PySem.W.Frag} {t : TA} {te ta tb tk tv : TE}
theorem e_asV {d : PyData} (h : Ev te W G T cs fun sl cs1 => AsV sl d ∧ K (rVal.at d) cs1) : Ev te W G T cs K := fun s H st Q q => by
  refine h s H st _ fun sl cs1 ⟨a, k⟩ v H1 ⟨F, c, sg, tm⟩ => ?_
  exact q _ _ k _ _ ⟨F, c, sg, tm.tail.cons (a F v tm.head)⟩
theorem e_to {d : PyData} {sl' : Sl} (h : Ev te W G T cs fun sl cs1 => sl = rVal.at d ∧ Nar d sl' ∧ K sl' cs1) : Ev te W G T cs K := fun s H st Q q => by
  refine h s H st _ fun sl cs1 ⟨e, a, k⟩ v H1 ⟨F, c, sg, tm⟩ => ?_
  subst e
  exact q _ _ k _ _ ⟨F, c, sg, tm.tail.cons (a F v tm.head)⟩
theorem e_tupV (h : EvA t W G T cs fun sls cs1 => ∃ ds : List PyData, All2 AsV sls ds ∧ ds.length ≤ 1000 ∧ K (rVal.at (.tuple ds)) cs1) : Ev (tTup t) W G T cs K := fun s H st Q q => by
  refine h s H st _ fun sls cs1 ⟨ds, ha, hz, k⟩ vs H1 ⟨F, c, sg, tm, ar⟩ => ?_
  have a2 := asV_all ha ar
  refine ⟨by rw [← a2.length]; exact small_len hz, fun p hp => ?_⟩
  have sF : Same F (upd F p (.tup vs)) := same_upd (c.fh.free hp)
  exact q _ _ k _ _ ⟨_, c.new hp, sg.mono sF, (tm.mono sF).cons (.tup (by rw [← a2.length]; exact small_len hz) upd_same (DqAll.mono sF (DqAll.of a2)))⟩
theorem e_lstV (h : EvA t W G T cs fun sls cs1 => ∃ ds : List PyData, All2 AsV sls ds ∧ ds.length ≤ 1000 ∧ K (rVal.at (.list ds)) cs1) : Ev (tLstB t) W G T cs K := fun s H st Q q => by
  refine h s H st _ fun sls cs1 ⟨ds, ha, hz, k⟩ vs H1 ⟨F, c, sg, tm, ar⟩ => ?_
  have a2 := asV_all ha ar
  refine ⟨by rw [← a2.length]; exact small_len hz, fun p hp far => ?_⟩
  have sF : Same F (upd F p (.lst vs)) := same_upd (c.fh.free hp)
  exact q _ _ k _ _ ⟨_, c.new hp, sg.mono sF, (tm.mono sF).cons (.lst far (by rw [← a2.length]; exact small_len hz) upd_same (DqAll.mono sF (DqAll.of a2)))⟩
theorem e_dic0V (k : K (rVal.at (.dict [])) cs) : Ev tDNewK W G T cs K := fun s H ⟨F, c, sg, tm⟩ Q q p hp => by
  have sF : Same F (upd F p (.dK [])) := same_upd (c.fh.free hp)
  exact q _ _ k _ _ ⟨_, c.new hp, sg.mono sF, (tm.mono sF).cons (.dic0 upd_same)⟩
theorem e_dic1V (h : ∀ p, Ev tk W G T (cs ++ [(p, cRaw (.dK []))]) fun sk cs1 => ∃ z : Str, sk = rStr.at z ∧ ∀ vk, Ev tv W G ((vk, sk) :: T) cs1 fun sv cs2 => ∃ (cs3 : Cells) (d : PyData), cs2 = cs3 ++ [(p, cRaw (.dK []))] ∧ AsV sv d ∧ K (rVal.at (.dict [(.str z, d)])) cs3) :
    Ev (tDisp [(tk, tv)]) W G T cs K := fun s H ⟨F, c, sg, tm⟩ Q q p hp => by
  refine h p s _ ⟨F, c.newCell hp rfl, sg, tm⟩ _ fun sk cs1 ⟨z, ek, h1⟩ vk H1 st1 => ?_
  refine h1 vk s H1 st1 _ fun sv cs2 ⟨cs3, d, e2, av, k⟩ vv H2 ⟨F2, c2, sg2, tm2⟩ => ?_
  subst ek e2
  have evk : vk = .str z := tm2.tail.head
  subst evk
  have hj : (cs3 ++ [(p, cRaw (.dK []))])[cs3.length]? = some (p, cRaw (.dK [])) := by simp
  have hp2 : H2 p = some (.dK []) := by
    obtain ⟨_, _, o, ho, hc⟩ := c2.cell (p, cRaw (.dK [])) (by simp)
    have : o = .dK [] := hc
    rw [← this]; exact ho
  refine ⟨hp2, [(.inr z, vv)], rfl, (by decide : 1 ≤ 15), ?_⟩
  have c3 := c2.write (o := .dK (mergeK [] [(.inr z, vv)])) (c' := cRaw (.dK (mergeK [] [(.inr z, vv)]))) hj rfl
  have hj3 : ((cs3 ++ [(p, cRaw (.dK []))]).set cs3.length (p, cRaw (.dK (mergeK [] [(.inr z, vv)]))))[cs3.length]? = some (p, cRaw (.dK (mergeK [] [(.inr z, vv)]))) := by simp
  obtain ⟨o, F', g1, g2, g3, sF, c4⟩ := c3.freeze hj3
  have eo : o = .dK (mergeK [] [(.inr z, vv)]) := g2
  subst eo
  have ee : ((cs3 ++ [(p, cRaw (.dK []))]).set cs3.length (p, cRaw (.dK (mergeK [] [(.inr z, vv)])))).eraseIdx cs3.length = cs3 := by
    rw [List.set_append_right _ _ (Nat.le_refl _), List.eraseIdx_append_of_length_le (Nat.le_refl _)]
    simp
  rw [ee] at c4
  exact q _ _ k _ _ ⟨F', c4, sg2.mono sF, (tm2.tail.tail.mono sF).cons (.dic1 g3 (Dq.mono sF (av _ _ tm2.head)))⟩
theorem e_isV {c : String} {b : Bool} (h : EvA t W G T cs fun sls cs1 => ∃ d : PyData, sls = [rVal.at d, ⟨fun _ v => v = .ty c, fun _ h => h⟩] ∧ PySem.W.kitOne KF (.type (tyD d)) (.type c) = some b ∧ K (rBool.at b) cs1) :
    Ev (tCB (rIsi KF) t) W G T cs K := fun s H st Q q => by
  refine h s H st _ fun sls cs1 ⟨d, e1, hk, k⟩ vs H1 ⟨F, cc, sg, tm, ar⟩ => ?_
  subst e1
  obtain ⟨v, w, rfl, p1, p2⟩ := args2' ar
  have ew : w = .ty c := p2
  subst ew
  exact ⟨v, _, _, _, b, rfl, .ty c, tyX_of (Dq.mono cc.fh p1), hk, q _ _ k _ H1 ⟨F, cc, sg, tm.cons rfl⟩⟩
theorem e_reprW (h : EvA t W G T cs fun sls cs1 => ∃ (d : PyData) (z : Str), sls = [rVal.at d] ∧ oReprW d = some z ∧ K (rStr.at z) cs1) : Ev (tCB rReprW t) W G T cs K := fun s H st Q q => by
  refine h s H st _ fun sls cs1 ⟨d, z, e1, ho, k⟩ vs H1 ⟨F, c, sg, tm, ar⟩ => ?_
  subst e1
  obtain ⟨v, rfl, hv⟩ := args1 ar
  obtain ⟨⟨h1, h2, h3⟩, ez⟩ := of_ite ho
  subst ez
  exact ⟨v, d, rfl, Dq.mono c.fh hv, h1, h2, h3, q _ _ k _ H1 ⟨F, c, sg, tm.cons rfl⟩⟩
theorem e_eqT0 (ha : Ev ta W G T cs fun sa cs1 => ∀ va, Ev tb W G ((va, sa) :: T) cs1 fun sb cs2 => ∃ (α β : Type) (r : R α) (q : R β) (xs : List α), sa = (rTup r).at xs ∧ sb = (rTup q).at [] ∧ K (rBool.at xs.isEmpty) cs2) : Ev (tOp rEqT0 ta tb) W G T cs K := fun s H st Q q => by
  refine ha s H st _ fun sa cs1 h1 va H1 st1 => ?_
  refine h1 va s H1 st1 _ fun sb cs2 ⟨α, β, r, r', xs, e, e', k⟩ vb H2 ⟨F, c, sg, tm⟩ => ?_
  subst e e'
  obtain ⟨_, p, us, rfl, hF, hA⟩ := tm.tail.head
  obtain ⟨_, p', us', rfl, hF', hA'⟩ := tm.head
  cases hA'
  have ee : us.isEmpty = xs.isEmpty := by cases hA <;> rfl
  refine ⟨p, p', us, rfl, rfl, c.fh _ _ hF, c.fh _ _ hF', ?_⟩
  rw [ee]
  exact q _ _ k _ H2 ⟨F, c, sg, tm.tail.tail.cons rfl⟩
theorem e_neT0 (ha : Ev ta W G T cs fun sa cs1 => ∀ va, Ev tb W G ((va, sa) :: T) cs1 fun sb cs2 => ∃ (α β : Type) (r : R α) (q : R β) (xs : List α), sa = (rTup r).at xs ∧ sb = (rTup q).at [] ∧ K (rBool.at (!xs.isEmpty)) cs2) : Ev (tOp rNeT0 ta tb) W G T cs K := fun s H st Q q => by
  refine ha s H st _ fun sa cs1 h1 va H1 st1 => ?_
  refine h1 va s H1 st1 _ fun sb cs2 ⟨α, β, r, r', xs, e, e', k⟩ vb H2 ⟨F, c, sg, tm⟩ => ?_
  subst e e'
  obtain ⟨_, p, us, rfl, hF, hA⟩ := tm.tail.head
  obtain ⟨_, p', us', rfl, hF', hA'⟩ := tm.head
  cases hA'
  have ee : us.isEmpty = xs.isEmpty := by cases hA <;> rfl
  refine ⟨p, p', us, rfl, rfl, c.fh _ _ hF, c.fh _ _ hF', ?_⟩
  rw [ee]
  exact q _ _ k _ H2 ⟨F, c, sg, tm.tail.tail.cons rfl⟩
end
end ML

/-! ## t[::-1], list(t) beyond what the machine holds, str(n) -/
namespace ML
open PySem PySem.Spec PyProof.Rows L2
theorem adjust_back (n : Nat) : Builtin.Slice.sliceAdjust none none (-1) (n : Int) = ((n : Int) - 1, -1) := by
  unfold Builtin.Slice.sliceAdjust
  simp
theorem places_back (n : Nat) : Builtin.Slice.slicePlaces ((n : Int) - 1) (-1) (-1) = n := by
  unfold Builtin.Slice.slicePlaces
  simp
  split <;> omega
theorem pick_back (xs : Array Value) : ((List.range xs.size).filterMap fun (m : Nat) => xs[(((xs.size : Nat) : Int) - 1 + (m : Int) * (-1)).toNat]?).toArray = xs.toList.reverse.toArray := by
  congr 1
  obtain ⟨l⟩ := xs
  show (List.range l.length).filterMap (fun (m : Nat) => l.toArray[((l.length : Int) - 1 + (m : Int) * (-1)).toNat]?) = l.reverse
  apply List.ext_getElem?
  intro i
  have e : (List.range l.length).filterMap (fun (m : Nat) => l.toArray[((l.length : Int) - 1 + (m : Int) * (-1)).toNat]?) = (List.range l.length).map fun (m : Nat) => l.getD (l.length - 1 - m) .none := by
    have go : ∀ (ms : List Nat), (∀ m ∈ ms, m < l.length) → ms.filterMap (fun (m : Nat) => l.toArray[((l.length : Int) - 1 + (m : Int) * (-1)).toNat]?) = ms.map fun (m : Nat) => l.getD (l.length - 1 - m) .none := fun ms => by
      induction ms with
      | nil => exact fun _ => rfl
      | cons m ms ih =>
        intro hms
        rw [List.map_cons, ← ih fun k hk => hms k (List.mem_cons_of_mem _ hk)]
        refine List.filterMap_cons_some ?_
        have hm := hms m List.mem_cons_self
        have q : ((l.length : Int) - 1 + (m : Int) * (-1)).toNat = l.length - 1 - m := by omega
        rw [q]
        have h : l.length - 1 - m < l.length := by omega
        simp [h, List.getD_eq_getElem?_getD]
    exact go _ fun m hm => List.mem_range.mp hm
  rw [e, List.getElem?_map]
  rcases Nat.lt_or_ge i l.length with h | h
  · rw [List.getElem?_range h, List.getElem?_reverse h]
    have h2 : l.length - 1 - i < l.length := by omega
    simp [List.getD_eq_getElem?_getD, h2]
  · rw [List.getElem?_eq_none (by simpa using h), List.getElem?_eq_none (by simpa using h)]
    rfl
theorem getItem_tuple_back {prog : Program} {w : World} {A : Around} {E : Value → Shared → Prop} {s : Shared} {t sl : Addr} {items : Array Value} {vl vu vs : Value} {Q : Value → Shared → Prop} (ht : s.heap.IsTuple t items) (hs : s.heap.IsSliceOf sl vl vu vs) (pl : IsPart vl none) (pu : IsPart vu none) (ps : IsPart vs (some (-1)))
    (h : Q (.ref s.heap.objs.size) { s with heap := s.heap.push { cls := .type "tuple", data := .seq items.toList.reverse.toArray } }) (hsz : items.size ≤ sizeLine) : wpAny (model prog w) A (getItem (.ref t) (.ref sl)) Q E s := by
  have fits : sizeOk (.seq items.toList.reverse.toArray) := by
    show items.toList.reverse.toArray.size ≤ sizeLine
    simpa using hsz
  obtain ⟨os, hos, hcs, hds⟩ := id hs
  have hTs : s.TypeIs (.ref sl) "slice" := ⟨os, hos, hcs⟩
  unfold getItem
  try with_reducible refine wpAny_holding ?_
  first | refine wpAny_bind (wpAny_pure ?_) | skip
  refine wpAny_bind (wpAny_sequenceKey (show s.TypeIs (.ref t) "tuple" from ht.typeIs) (by decide) ?_)
  refine wpAny_bind (wpAny_callSpecial?_slot (name := Str.ofString "__getitem__") (show s.TypeIs (.ref t) "tuple" from ht.typeIs) PyProof.Rows.slot_tuple_getitem
    (wpAny_call_entry PyProof.Rows.slot_tuple_getitem (show s.TypeIs (.ref t) "tuple" from ht.typeIs) PyProof.Rows.entry_tuple_getitem ?_ (PyProof.Rows.args_tuple_getitem _ _)))
  show wpAny _ _ (Builtin.Tuple.tupleItemsOf (.ref t) >>= _) _ _ s
  refine wpAny_bind (PyProof.Rows.tupleItemsOf_ ht ?_)
  refine wpAny_bind (wpAny_typeOf hTs ?_)
  rw [if_pos (by decide)]
  refine wpAny_bind ?_
  unfold Builtin.Slice.sliceApplied Builtin.Slice.sliceFields
  refine wpAny_bind (wpAny_bind (wpAny_field hos hds (x := vl) rfl (wpAny_bind (wpAny_field hos hds (x := vu) rfl (wpAny_bind (wpAny_field hos hds (x := vs) rfl (wpAny_pure ?_)))))))
  refine wpAny_bind (HT.slicePart_ ps ?_)
  show wpAny _ _ (if ((-1 : Int) == 0) = true then _ else _) _ _ s
  rw [if_neg (by decide)]
  refine wpAny_bind (HT.slicePart_ pl (wpAny_bind (HT.slicePart_ pu (wpAny_bind (wpAny_pure ?_)))))
  show wpAny _ _ (match Builtin.Slice.sliceAdjust none none (-1) (items.size : Int) with | (lo, hi) => pure (lo, (-1 : Int), Builtin.Slice.slicePlaces lo hi (-1))) _ _ s
  rw [adjust_back]
  show wpAny _ _ (pure ((items.size : Int) - 1, (-1 : Int), Builtin.Slice.slicePlaces ((items.size : Int) - 1) (-1) (-1))) _ _ s
  rw [places_back]
  refine wpAny_pure ?_
  have no : ¬ ((((items.size : Int) - 1) == 0 && (-1 : Int) == 1 && items.size == items.size) = true) := by
    intro q
    rw [Bool.and_eq_true, Bool.and_eq_true] at q
    exact absurd q.1.2 (by decide)
  show wpAny _ _ (if (((items.size : Int) - 1) == 0 && (-1 : Int) == 1 && items.size == items.size) = true then _ else _) _ _ s
  rw [if_neg no, pick_back]
  first
    | exact wpAny_bind (m := Builtin.Tuple.tupleExact _) (wpAny_newObj_type (wpAny_pure ⟨_, rfl, wpAny_pure h⟩) fits)
    | exact wpAny_bind (m := Builtin.Tuple.tupleExact _) (wpAny_newObj_type (wpAny_bind (wpAny_pure (wpAny_pure ⟨_, rfl, wpAny_pure h⟩))) fits)
    | exact wpAny_bind (wpAny_bind (m := Builtin.Tuple.tupleExact _) (wpAny_newObj_type (wpAny_pure (wpAny_pure ⟨_, rfl, wpAny_pure h⟩)) fits))
    | exact wpAny_bind (wpAny_bind (m := Builtin.Tuple.tupleExact _) (wpAny_newObj_type (wpAny_pure ⟨_, rfl, wpAny_pure h⟩) fits))
def tRevT (K : PySem.W.Frag) (te : TE) : TE := fun σ H Q => te σ H fun x H1 => ∃ a xs, x = .ref a ∧ SqT K H1 a xs ∧ ∀ p, H1 p = none → Q (.ref p) (upd H1 p (.tup xs.reverse))
theorem pe_revT {X : L2.Cx} {e : Expr} {te : TE} {k : Nat} {p1 p2 p3 pos : Pos} (he : PE X e te) : PE X (.Subscript e (.Slice none none (some (.UnaryOp .USub (.Constant (.int 1) k p1) p2)) p3) pos) (tRevT X.K te) := by
  refine ⟨fun pins s σ H Q I h => ?_⟩
  refine Subscript_ (thn (he.run pins s σ H _ I h) fun v s1 ⟨x, H1, I1, r1, a, xs, ex, hx, q⟩ => ?_)
  subst ex
  cases r1
  have step : PO X (some (.UnaryOp .USub (.Constant (.int 1) k p1) p2)) (tPart (tUn (rU fun i => .int (-i)) (tC (.int 1)))) := po_some (pe_un un_neg pe_int)
  refine wpAny_Slice (thn (po_none.run pins s1 σ H1 (fun o H2 => o = none ∧ H2 = H1) I1 ⟨rfl, rfl⟩) fun vl s2 ⟨l, H2, I2, pl, el, e2⟩ => ?_)
  subst el e2
  refine thn (po_none.run pins s2 σ H2 (fun o H3 => o = none ∧ H3 = H2) I2 ⟨rfl, rfl⟩) fun vu s3 ⟨u, H3, I3, pu, eu, e3⟩ => ?_
  subst eu e3
  refine thn (step.run pins s3 σ H3 (fun o H4 => o = some (-1) ∧ H4 = H3) I3 ⟨1, rfl, -1, rfl, rfl, rfl⟩) fun vs s4 ⟨o, H4, I4, ps, eo, e4⟩ => ?_
  subst eo e4
  have I5 : Inv X pins σ H4 { s4 with heap := s4.heap.push { cls := .type "slice", data := .fields #[vl, vu, vs] } } := I4.kept (t' := s4.toks) fun b ob q => Heap.get?_push_of_some _ q
  obtain ⟨its, r, ht, hz⟩ := I5.tuple hx
  have hlen := r.length
  show wpAny (model X.prog X.w) X.A (subscriptTail e (.Slice none none (some (.UnaryOp .USub (.Constant (.int 1) k p1) p2)) p3) (.ref a) (.ref s4.heap.objs.size)) (EP X pins σ Q) X.xe { s4 with heap := s4.heap.push { cls := .type "slice", data := .fields #[vl, vu, vs] } }
  refine tail_any (ops := [.ref a, .ref s4.heap.objs.size]) (show Shared.TypeIs _ (.ref a) "tuple" from ht.typeIs) (PyProof.Rows.slot_tuple_getitem.lookup) ?_ (by with_unfolding_all rfl)
  refine getItem_tuple_back ht (Heap.IsSliceOf.new _ vl vu vs) pl pu ps ?_ (by rw [List.size_toArray]; omega)
  refine ⟨.ref _, _, I5.laid (t' := s4.toks) (o := .tup xs.reverse) (fun b ob q => Heap.get?_push_of_some _ q) (Nat.le_refl _) ?_, rfl, q _ (I5.hok.fresh (Nat.le_refl _))⟩
  exact ⟨by rw [List.length_reverse]; exact hz, its.reverse, r.reverse, ⟨_, Heap.get?_push_size _ rfl, rfl, _, rfl⟩⟩
/-- list(t): a new list, its place beyond what the machine itself holds -/
def rListFar (K : PySem.W.Frag) : List V → Hp → VK → Prop := fun xs H Q => ∃ p ys, xs = [.ref p] ∧ SqT K H p ys ∧ ∀ l, H l = none → (l == sysModules) = false → Q (.ref l) (upd H l (.lst ys))
theorem call_list_far {X : L2.Cx} : CallR X (.type "list") (rListFar X.K) := by
  intro pins s σ H xs us Q I r h
  obtain ⟨p, ys, rfl, hq, q⟩ := h
  obtain ⟨u, rfl, rx⟩ := vals1 r
  cases rx
  obtain ⟨its, r', pl, hz⟩ := I.tuple hq
  have hlen := r'.length
  obtain ⟨o, ho, hc, n, hd⟩ := pl
  have far : (s.heap.objs.size == sysModules) = false := beq_eq_false_iff_ne.mpr (Nat.ne_of_gt I.big)
  refine call_list_seq p (.inr rfl) ho hc hd (fun h' c' kp e => ?_) (by simp only [List.size_toArray] <;> omega)
  exact ⟨.ref s.heap.objs.size, _, I.laid (t' := s.toks) kp (Nat.le_refl _) (show ObjOk X.prog X.w _ h' _ (.lst ys) from ⟨hz, its, c', r', e⟩), rfl, q _ (I.hok.fresh (Nat.le_refl _)) far⟩
def rStrI : List V → Hp → VK → Prop := fun xs H Q => ∃ i : Int, xs = [.int i] ∧ i.natAbs.log2 < 1920 ∧ Q (.str (toString i)) H
theorem call_strI {X : L2.Cx} : CallR X (.type "str") rStrI := call_str_int
def oStrI (i : Int) : Option Str := if i.natAbs.log2 < 1920 then some ((toString i : String) : Str) else none
section
variable {W : Wd} {G : Gam} {T : Tms} {cs : Cells} {K : Sl → Cells → Prop} {KF : PySem.W.Frag} {t : TA} {te : TE}
theorem e_revT (h : Ev te W G T cs fun sl cs1 => ∃ (α : Type) (r : R α) (xs : List α), sl = (rTup r).at xs ∧ K ((rTup r).at xs.reverse) cs1) : Ev (tRevT KF te) W G T cs K := fun s H st Q q => by
  refine h s H st _ fun sl cs1 ⟨α, r, xs, e, k⟩ va H1 ⟨F, c, sg, tm⟩ => ?_
  subst e
  obtain ⟨hz, a, us, rfl, hF, hA⟩ := tm.head
  refine ⟨a, us, rfl, SqT.of (c.fh _ _ hF), fun p hp => ?_⟩
  have sF : Same F (upd F p (.tup us.reverse)) := same_upd (c.fh.free hp)
  exact q _ _ k _ _ ⟨_, c.new hp, sg.mono sF, (tm.tail.mono sF).cons ⟨by rw [List.length_reverse]; exact hz, p, _, rfl, upd_same, (All2.rev hA).imp fun _ _ z => r.mono sF z⟩⟩
theorem e_listFar (h : EvA t W G T cs fun sls cs1 => ∃ ds : List PyData, sls = [(rTup rVal).at ds] ∧ K (rVal.at (.list ds)) cs1) : Ev (tCB (rListFar KF) t) W G T cs K := fun s H st Q q => by
  refine h s H st _ fun sls cs1 ⟨ds, e, k⟩ vs H1 ⟨F, c, sg, tm, ar⟩ => ?_
  subst e
  obtain ⟨v, rfl, hz, a, us, rfl, hF, hA⟩ := args1 ar
  refine ⟨a, us, rfl, SqT.of (c.fh _ _ hF), fun p hp far => ?_⟩
  have sF : Same F (upd F p (.lst us)) := same_upd (c.fh.free hp)
  exact q _ _ k _ _ ⟨_, c.new hp, sg.mono sF, (tm.mono sF).cons (.lst far (by rw [← hA.length]; exact hz) upd_same (DqAll.mono sF (DqAll.of hA)))⟩
theorem e_strI (h : EvA t W G T cs fun sls cs1 => ∃ (i : Int) (z : Str), sls = [rInt.at i] ∧ oStrI i = some z ∧ K (rStr.at z) cs1) : Ev (tCB rStrI t) W G T cs K := fun s H st Q q => by
  refine h s H st _ fun sls cs1 ⟨i, z, e, ho, k⟩ vs H1 ⟨F, c, sg, tm, ar⟩ => ?_
  subst e
  obtain ⟨v, rfl, hv⟩ := args1 ar
  obtain rfl : v = V.int i := hv
  obtain ⟨h1, ez⟩ := of_ite ho
  subst ez
  exact ⟨i, rfl, h1, q _ _ k _ H1 ⟨F, c, sg, tm.cons rfl⟩⟩
end
end ML

/-! ## values of any kind that turn out to be splits -/
namespace ML
open PySem PySem.Spec PyProof.Rows L2
def oSplsL : List PyData → Option (List (List Int × Int))
  | [] => some []
  | d :: ds => (oSplD d).bind fun x => (oSplsL ds).map (x :: ·)
def oSplsD : PyData → Option (List (List Int × Int))
  | .tuple ds => oSplsL ds
  | _ => none
end ML

/-! ## a lambda of whose answer something is known; a number or a tuple of numbers; words -/
namespace ML
open PySem PySem.Spec PyProof.Rows L2
/-- a whole number, or a tuple of them -/
inductive IT where
  | i (n : Int)
  | t (xs : List Int)
instance : DecidableEq IT := fun a b => match a, b with
  | .i n, .i m => if h : n = m then isTrue (by rw [h]) else isFalse fun e => h (by cases e; rfl)
  | .t xs, .t ys => if h : xs = ys then isTrue (by rw [h]) else isFalse fun e => h (by cases e; rfl)
  | .i _, .t _ => isFalse fun e => by cases e
  | .t _, .i _ => isFalse fun e => by cases e
def rIT : R IT := ⟨fun x F v => match x with | .i n => rInt.p n F v | .t xs => (rTup rInt).p xs F v, fun {x} _ _ _ e h => by
  cases x with
  | i n => exact h
  | t xs => exact (rTup rInt).mono e h⟩
def dIT : IT → PyData
  | .i n => .int n
  | .t xs => .tuple (xs.map PyData.int)
def eIT : REq rIT where
  d := dIT
  ok := fun {K F H a v} h s => by
    cases a with
    | i n => exact eInt.ok (a := n) h s
    | t xs => exact (eTup eInt).ok (a := xs) h s
  lay := fun a => by
    cases a with
    | i n => exact eInt.lay n
    | t xs => exact (eTup eInt).lay xs
  n := 2
  dep := fun a => by
    cases a with
    | i n => exact Nat.le_trans (eInt.dep n) (by decide)
    | t xs => exact (eTup eInt).dep xs
  eqv := fun a b => by
    cases a with
    | i n =>
      cases b with
      | i m =>
        show PyData.eqv (eInt.d n) (eInt.d m) = _
        rw [eInt.eqv]
        exact decide_eq_decide.mpr ⟨fun e => by rw [e], fun e => by cases e; rfl⟩
      | t ys => simp [dIT, PyData.eqv]
    | t xs =>
      cases b with
      | i m => simp [dIT, PyData.eqv]
      | t ys =>
        show PyData.eqv ((eTup eInt).d xs) ((eTup eInt).d ys) = _
        rw [(eTup eInt).eqv]
        exact decide_eq_decide.mpr ⟨fun e => by rw [e], fun e => by cases e; rfl⟩
def vIT : VQ rIT := ⟨dIT, fun {F a v} h => by
  cases a with
  | i n => exact vInt.ok (a := n) h
  | t xs => exact (vTup vInt).ok (a := xs) h⟩
def oItT : IT → Option (List Int)
  | .t xs => some xs
  | _ => none
def oItI : IT → Option Int
  | .i n => some n
  | _ => none
/-- one of some words -/
def rWd {n : Nat} (f : Fin n → Str) : R (Fin n) := ⟨fun i _ v => v = .str (f i), fun _ h => h⟩
def eWd {n : Nat} (f : Fin n → Str) (h1 : ∀ i, (PyData.str (f i)).canLay0 = true) (h2 : ∀ i j, PyData.eqv (.str (f i)) (.str (f j)) = decide (i = j)) : REq (rWd f) where
  d := fun i => .str (f i)
  ok := fun {K F H a v} h s => by
    obtain rfl : v = .str (f a) := h
    exact Dp.str (f a)
  lay := h1
  n := 1
  dep := fun i => by simp [PyData.depth]
  eqv := h2
abbrev wd3 (a b c : Str) : Fin 3 → Str := fun i => match i with | 0 => a | 1 => b | 2 => c
section
variable {W : Wd} {G : Gam} {T : Tms} {cs : Cells} {K : Sl → Cells → Prop} {te : TE}
end
/-- the cells in another order -/
theorem ev_perm {W : Wd} {G : Gam} {T : Tms} {cs cs' : Cells} {K : Sl → Cells → Prop} {te : TE} (p : cs.Perm cs') (h : Ev te W G T cs' fun sl c1 => ∃ c2, c1.Perm c2 ∧ K sl c2) : Ev te W G T cs K := fun s H ⟨F, c, sg, tm⟩ Q q =>
  h s H ⟨F, c.perm p, sg, tm⟩ Q fun sl c1 ⟨c2, p2, k⟩ v H' ⟨F', c', sg', tm'⟩ => q sl c2 k v H' ⟨F', c'.perm p2, sg', tm'⟩
/-! ### the lambda's answer -/
def AskOkV (xt : XT) (W : Wd) {γ : Type} (rg : R γ) (z : Rz γ) (tl : XK → Hp → VK → Prop) : Prop := ∀ (F : Hp) (H : Hp) (Q : VK) (E : XK), Core W F [] H → (match z with
  | .val u => ∀ v F' H', Core W F' [] H' → Same F F' → rg.p u F' v → Q v H'
  | .err c v => ∀ dd F' H', Core W F' [] H' → Same F F' → F' dd = some (.xd [((xt c).2, .int v)]) → E (.ref (xt c).1) (some dd) H') → tl E H Q
def TTv (xt : XT) (q : Str) {γ : Type} (rg : R γ) {β : Type} (m : Rz γ → Option β) (res : β → Sl) : Addr → (XK → Hp → VK → Prop) → Hp → VK → Prop := fun d tl H Q => ∃ (W : Wd) (z : Rz γ) (b : β), Core W W.F [] H ∧ W.F d = some (LamX.CodeO d q) ∧ AskOkV xt W rg z tl ∧ m z = some b ∧ Rt Q W (res b) []
def EvLamV (xt : XT) (t : XK → TE) (G : Gam) (T : Tms) {γ : Type} (rg : R γ) (z : Rz γ) : Prop := ∀ (W : Wd) (s : L2.St) (H : Hp) (Q : VK) (E : XK), Sta W G T [] s H → (match z with
  | .val u => ∀ v F' H', Core W F' [] H' → rg.p u F' v → Q v H'
  | .err c v => RtE E W (xt c).1 [((xt c).2, .int v)] []) → t E s H Q
def rzM {β γ : Type} (f : β → γ) : Rz β → Rz γ
  | .val b => .val (f b)
  | .err c v => .err c v
section
variable {W : Wd} {G : Gam} {T : Tms} {cs : Cells} {K : Sl → Cells → Prop} {xt : XT} {γ : Type} {rg : R γ} {z : Rz γ}
end
section
variable {nx bk ct : L2.St → Hp → Prop} {rt : VK} {W : Wd} {G : Gam} {xt : XT} {γ : Type} {rg : R γ} {z : Rz γ}
end
end ML

/-! ## errors whose field is any value -/
namespace ML
open PySem PySem.Spec PyProof.Rows L2
inductive RzV (β : Type) where
  | val (b : β)
  | err (c : Nat) (d : PyData)
/-- the wish at an exception of the class C with this field -/
def RtEV (E : XK) (W : Wd) (C : Addr) (fl : Str) (d : PyData) (cs : Cells) : Prop := ∀ dd H v, (∃ F, Core W F cs H ∧ Dq F v d ∧ F dd = some (.xd [(fl, v)])) → E (.ref C) (some dd) H
theorem RtEV.more {E : XK} {W : Wd} {C : Addr} {fl : Str} {d : PyData} {cs cs' : Cells} (h : RtEV E W C fl d cs) (s : cs.Sublist cs') : RtEV E W C fl d cs' := fun dd H v ⟨F, c, pv, hd⟩ => h dd H v ⟨F, c.drop s, pv, hd⟩
section
variable {nx bk ct : L2.St → Hp → Prop} {rt : VK}
variable {W : Wd} {G : Gam} {T : Tms} {cs : Cells} {K : Sl → Cells → Prop}
end
/-! ### promises -/
def spXV (xt : XT) {ι : Type} (A : ι → List Sl) (ci : ι → Cells) (m : ι → Option (Nat × PyData)) : Sp := fun vs H _ E =>
  ∃ (i : ι) (c : Nat) (d : PyData) (W : Wd), m i = some (c, d) ∧ Core W W.F (ci i) H ∧ Args W.F (A i) vs ∧ RtEV E W (xt c).1 (xt c).2 d (ci i)
def spRV (xt : XT) {ι β : Type} (A : ι → List Sl) (ci : ι → Cells) (m : ι → Option (RzV β)) (res : ι → β → Sl) (co : ι → β → Cells) : Sp := fun vs H Q E =>
  ∃ (i : ι) (z : RzV β) (W : Wd), m i = some z ∧ Core W W.F (ci i) H ∧ Args W.F (A i) vs ∧ match z with
    | .val b => Rt Q W (res i b) (co i b)
    | .err c d => RtEV E W (xt c).1 (xt c).2 d (ci i)
section
variable {W : Wd} {G : Gam} {T : Tms} {cs : Cells} {K : Sl → Cells → Prop} {t : TA}
end
def rzOfV {β : Type} (mx : Option (Nat × PyData)) (m : Option β) : Option (RzV β) := match mx with | some (c, v) => some (.err c v) | none => m.map .val
theorem rzV_err {β : Type} {mx : Option (Nat × PyData)} {m : Option β} {c : Nat} {v : PyData} (h : mx = some (c, v)) : rzOfV mx m = some (.err c v) := by rw [h]; rfl
theorem rzV_val {β : Type} {mx : Option (Nat × PyData)} {m : Option β} {b : β} (h : mx = none) (h2 : m = some b) : rzOfV mx m = some (.val b) := by rw [h, h2]; rfl
def rzMV {β γ : Type} (f : β → γ) : RzV β → RzV γ
  | .val b => .val (f b)
  | .err c v => .err c v
/-! ### a kept error -/
def sErrV (a d : Addr) (fl : Str) (x : PyData) : Sl := ⟨fun F v => v = .ref a ∧ ∃ y, F d = some (.xd [(fl, y)]) ∧ Dq F y x, fun e ⟨h1, y, h2, h3⟩ => ⟨h1, y, e _ _ h2, h3.mono e⟩⟩
section
variable {W : Wd} {G : Gam} {T : Tms} {cs : Cells} {K : Sl → Cells → Prop} {t : TA} {te : TE}
variable {KF : PySem.W.Frag}
end
/-! ### a lambda's answer, its errors with any value -/
def AskOkW (xt : XT) (W : Wd) {γ : Type} (rg : R γ) (z : RzV γ) (tl : XK → Hp → VK → Prop) : Prop := ∀ (F : Hp) (H : Hp) (Q : VK) (E : XK), Core W F [] H → (match z with
  | .val u => ∀ v F' H', Core W F' [] H' → Same F F' → rg.p u F' v → Q v H'
  | .err c d => ∀ dd F' H' y, Core W F' [] H' → Same F F' → Dq F' y d → F' dd = some (.xd [((xt c).2, y)]) → E (.ref (xt c).1) (some dd) H') → tl E H Q
def TTw (xt : XT) (q : Str) {γ : Type} (rg : R γ) {β : Type} (m : RzV γ → Option β) (res : β → Sl) : Addr → (XK → Hp → VK → Prop) → Hp → VK → Prop := fun d tl H Q => ∃ (W : Wd) (z : RzV γ) (b : β), Core W W.F [] H ∧ W.F d = some (LamX.CodeO d q) ∧ AskOkW xt W rg z tl ∧ m z = some b ∧ Rt Q W (res b) []
def EvLamW (xt : XT) (t : XK → TE) (G : Gam) (T : Tms) {γ : Type} (rg : R γ) (z : RzV γ) : Prop := ∀ (W : Wd) (s : L2.St) (H : Hp) (Q : VK) (E : XK), Sta W G T [] s H → (match z with
  | .val u => ∀ v F' H', Core W F' [] H' → rg.p u F' v → Q v H'
  | .err c d => RtEV E W (xt c).1 (xt c).2 d []) → t E s H Q
section
variable {W : Wd} {G : Gam} {T : Tms} {cs : Cells} {K : Sl → Cells → Prop} {xt : XT} {γ : Type} {rg : R γ} {z : RzV γ}
end
section
variable {nx bk ct : L2.St → Hp → Prop} {rt : VK} {W : Wd} {G : Gam} {xt : XT} {γ : Type} {rg : R γ} {z : RzV γ}
end
end ML

/-! ## texts, as lists of signs -/
namespace ML
open PySem PySem.Spec PyProof.Rows L2 SX
def rTx : R (List Nat) := ⟨fun a _ v => v = .str (S a), fun _ h => h⟩
def rSg : R Nat := ⟨fun c _ v => v = .str (S [c]), fun _ h => h⟩
def vTx : VQ rTx := ⟨fun a => .str (S a), fun {F a v} h => by have e : v = .str (S a) := h; subst e; exact .str _⟩
def oTxD : PyData → Option (List Nat)
  | .str x => some x.cps.toList
  | _ => none
theorem nar_tx {d : PyData} {a : List Nat} (h : oTxD d = some a) : Nar d (rTx.at a) := fun F v q => by
  cases q with
  | str x =>
    cases h
    show V.str x = V.str (S x.cps.toList)
    rw [S_tl]
  | _ => cases h
def isStrD : PyData → Bool
  | .str _ => true
  | _ => false
theorem kit_strD (KF : PySem.W.Frag) (d : PyData) : PySem.W.kitOne KF (.type (tyD d)) (.type "str") = some (isStrD d) := by cases d <;> (first | rfl | kernel_rfl)
section
variable {W : Wd} {G : Gam} {T : Tms} {cs : Cells} {K : Sl → Cells → Prop} {ta tb te : TE} {t : TA} {KF : PySem.W.Frag}
theorem e_tx {x : Str} {a : List Nat} (h : x = S a) (k : K (rTx.at a) cs) : Ev (tC (.str x)) W G T cs K := fun s H st Q q => q _ cs k _ H (st.push fun _ => by show V.str x = V.str (S a); rw [h])
/-- signs one by one -/
def oTxI (a : List Nat) : Option (List Nat) := if a.length ≤ sizeLine then some a else none
theorem i_str {KI : List Sl → Cells → Prop} (h : Ev te W G T cs fun sl cs1 => ∃ a b, sl = rTx.at a ∧ oTxI a = some b ∧ KI (b.map rSg.at) cs1) : EvI (iStr te) W G T cs KI := fun s H st R q => by
  refine h s H st _ fun sl cs1 ⟨a, b, e, ho, k⟩ v H1 st1 => ?_
  subst e
  obtain ⟨hz, eb⟩ := of_ite ho
  rw [eb] at k
  clear eb
  obtain ⟨F, c, sg, tm⟩ := id st1
  have ev : v = .str (S a) := tm.head
  subst ev
  refine ⟨S a, rfl, q _ [] _ cs1 k (by rw [List.length_map]; exact hz) (fun B => ?_) H1 ⟨F, c, sg, tm.tail⟩⟩
  refine ⟨fun i F H cs hi c t => ?_, fun i F H cs x H' sl hi c t y => ?_, fun F H cs c t => ?_⟩
  · rw [List.length_map] at hi
    show i < (S a).cps.size
    simpa using hi
  · obtain ⟨e, z, hz, ex⟩ := y
    subst e ex
    refine ⟨F, c, Same.refl F, ?_⟩
    have hz' : a[i]? = some z := by simpa using hz
    rw [List.getElem?_map, hz'] at hi
    cases hi
    rfl
  · show (S a).cps.size ≤ (a.map rSg.at).length
    simp
def rInSg : V → V → Hp → VK → Prop := fun x y H Q => ∃ (c : Nat) (z : Str), x = .str ⟨#[c]⟩ ∧ y = .str z ∧ Q (.bl (decide (c ∈ z.cps.toList))) H
def rNinSg : V → V → Hp → VK → Prop := fun x y H Q => ∃ (c : Nat) (z : Str), x = .str ⟨#[c]⟩ ∧ y = .str z ∧ Q (.bl (!decide (c ∈ z.cps.toList))) H
theorem op_inSg {X : L2.Cx} : OpR X (compareOp .In) rInSg := op_in_sign
theorem e_inSg (ha : Ev ta W G T cs fun sa cs1 => ∃ c, sa = rSg.at c ∧ ∀ va, Ev tb W G ((va, sa) :: T) cs1 fun sb cs2 => ∃ a, sb = rTx.at a ∧ K (rBool.at (decide (c ∈ a))) cs2) : Ev (tOp rInSg ta tb) W G T cs K := fun s H st Q q => by
  refine ha s H st _ fun sa cs1 ⟨c0, e, hb⟩ va H1 st1 => ?_
  subst e
  refine hb va s H1 st1 _ fun sb cs2 ⟨a, e, k⟩ vb H2 ⟨F, c, sg, tm⟩ => ?_
  subst e
  have e1 : vb = .str (S a) := tm.head
  have e2 : va = .str (S [c0]) := tm.tail.head
  subst e1 e2
  exact ⟨c0, S a, rfl, rfl, q _ _ k _ H2 ⟨F, c, sg, tm.tail.tail.cons rfl⟩⟩
/-- len(text) -/
def rLenTx : List V → Hp → VK → Prop := fun xs H Q => ∃ z, xs = [.str z] ∧ z.length ≤ sizeLine ∧ Q (.int z.length) H
theorem call_lenTx {X : L2.Cx} : CallR X (.builtin "len") rLenTx := call_len_str
theorem e_lenX (h : EvA t W G T cs fun sls cs1 => ∃ a b, sls = [rTx.at a] ∧ oTxI a = some b ∧ K (rInt.at (b.length : Int)) cs1) : Ev (tCB rLenTx t) W G T cs K := fun s H st Q q => by
  refine h s H st _ fun sls cs1 ⟨a, b, e, ho, k⟩ vs H1 ⟨F, c, sg, tm, ar⟩ => ?_
  subst e
  obtain ⟨hz, eb⟩ := of_ite ho
  rw [eb] at k
  clear eb
  obtain ⟨v, rfl, hv⟩ := args1 ar
  have ev : v = .str (S a) := hv
  subst ev
  have el : (S a).length = a.length := S_len a
  exact ⟨S a, rfl, by rw [el]; exact hz, q _ _ k _ H1 ⟨F, c, sg, tm.cons (by show V.int _ = V.int _; rw [el])⟩⟩
/-- text + text -/
def rAddTx : V → V → Hp → VK → Prop := fun x y H Q => ∃ i j, x = .str i ∧ y = .str j ∧ i.length + j.length ≤ sizeLine ∧ Q (.str (i ++ j)) H
/-- text.split(text) -/
def oSpl (a b : List Nat) : Option (List (List Nat)) := if b ≠ [] ∧ b.all (· < 256) = true ∧ a.length + 2 ≤ sizeLine ∧ (TL.spl b 0 [] a).length ≤ sizeLine then some (TL.spl b 0 [] a) else none
def rSplTx : V → List V → Hp → VK → Prop := fun x xs H Q => ∃ a b, x = .str a ∧ xs = [.str b] ∧ (b.length == 0) = false ∧ a.length + 2 ≤ sizeLine ∧ rNewStrs (Txt.split a b) H Q
/-- text.join(list or tuple of texts) -/
def oJoin (a : List Nat) (ys : List (List Nat)) : Option (List Nat) := if (ys.map (·.length)).sum + ys.length * a.length ≤ 16777216 then some (TL.joinL a ys) else none
def rJoinTx (K : PySem.W.Frag) : V → List V → Hp → VK → Prop := fun x xs H Q => ∃ a p, ∃ ys : List Str, x = .str a ∧ xs = [.ref p] ∧ (SqL K H p (ys.map V.str) ∨ SqT K H p (ys.map V.str)) ∧ (ys.map (·.length)).sum + ys.length * a.length ≤ 16777216 ∧ Q (.str (Txt.join a ys)) H
theorem txs_of {F : Hp} : ∀ {l : List (List Nat)} {us : List V}, All2 (fun x u => rTx.p x F u) l us → us = (l.map S).map V.str
  | _, _, .nil => rfl
  | _, _, .cons h r => by
    have := txs_of r
    have e : _ = V.str (S _) := h
    rw [e, this]
    rfl
/-- str(n) of a whole number from 0 on -/
def oStrN (i : Int) : Option (List Nat) := if 0 ≤ i ∧ i.natAbs.log2 < 1920 then some (TL.numL i.toNat) else none
end
end ML

/-! ## texts: times, index, lists of texts -/
namespace ML
open PySem PySem.Spec PyProof.Rows L2 SX
def vOpt {α : Type} {r : R α} (e : VQ r) : VQ (rOpt r) := ⟨fun x => match x with | none => .none | some y => e.d y, fun {F a v} h => by
  cases a with
  | none => have e2 : v = .non := h; subst e2; exact .non
  | some x => exact e.ok h⟩
def oMulT (a : List Nat) (n : Int) : Option (List Nat) := if a ≠ [] ∧ 2 ≤ n ∧ n ≤ 100000 ∧ a.length ≤ 100 ∧ a.length * n.toNat ≤ 1000000 then some (List.replicate n.toNat a).flatten else none
def rMulTx : V → V → Hp → VK → Prop := fun x y H Q => ∃ a n z, x = .str (S a) ∧ y = .int n ∧ oMulT a n = some z ∧ Q (.str (S z)) H
section
variable {W : Wd} {G : Gam} {T : Tms} {cs : Cells} {K : Sl → Cells → Prop} {ta tb te : TE} {t : TA} {KF : PySem.W.Frag}
/-- the cells in another order, once the arguments stand -/
theorem ea_perm {K : List Sl → Cells → Prop} (h : EvA t W G T cs fun sls cs1 => ∃ cs2, cs1.Perm cs2 ∧ K sls cs2) : EvA t W G T cs K := fun s H st Q q =>
  h s H st Q fun sls cs1 ⟨cs2, p, k⟩ vs H1 ⟨F, c, sg, tm, ar⟩ => q sls cs2 k vs H1 ⟨F, c.perm p, sg, tm, ar⟩
/-- text[i] -/
def oIxX (a : List Nat) (i : Int) : Option Nat := if a.length ≤ sizeLine then atI a i else none
/-- text.index(text) -/
def oIdx (a b : List Nat) : Option Int := match Builtin.Str.occurrences (S a) (S b) 0 (S a).length 1 with
  | i :: _ => some (i : Int)
  | [] => none
def rIdxTx : V → List V → Hp → VK → Prop := fun x xs H Q => ∃ a b i rest, x = .str a ∧ xs = [.str b] ∧ Builtin.Str.occurrences a b 0 a.length 1 = i :: rest ∧ Q (.int (i : Nat)) H
/-- lists of texts, alike? -/
def oEqLX (xs ys : List (List Nat)) : Option Bool := if ((xs.map S).all PyData.strOk && (ys.map S).all PyData.strOk) = true then some (decide (xs = ys)) else none
end
end ML

/-! ## an own error with two fields: its __init__ says super().__init__(x, y); self.f = x; self.g = y -/
namespace ML
open PySem PySem.Spec PyProof.Rows L2
/-- the object is an exception without a dict; both fields are laid -/
def spTwo (C : Addr) (f1 f2 : Str) : Sp := fun vs H Q _ => ∃ (a : Addr) (y z : V), vs = [.ref a, y, z] ∧ H a = some (exo a C none) ∧ ∀ dx, H dx = none → dx ≠ a → Q .non (upd (upd (upd H dx (exd dx [(f1, y)])) a (exo a C (some dx))) dx (exd dx [(f2, z), (f1, y)]))
/-- how the text of such an __init__ reads (by rfl, at the text) -/
structure SupT2 (qual : Str) (scope : Scope) (f cda cc : Addr) (me x y f1 f2 : Str) (p0 p1 p2 p3 p4 p5 p6 p7 p8 p9 q0 q1 q2 q3 q4 : Pos) (pl : Addr → Sem Bool) : Prop where
  he : ∀ L : Addr, eval (.Call (.Attribute (.Call (.Name "super" p0) [] [] p1) "__init__" p2) [.Name x p3, .Name y q0] [] p4) (sEnv qual scope L f cda cc) = (do
    let ov ← attributeBase (.Call (.Name "super" p0) [] [] p1) "__init__" (sEnv qual scope L f cda cc) (eval (.Call (.Name "super" p0) [] [] p1) (sEnv qual scope L f cda cc))
    standAt p2.atName
    let (fv, first) ← holding [ov] (getMethod ov "__init__" (pl L))
    callWith p4 fv first (backTo p4 (starEach [.Name x p3, .Name y q0] (sEnv qual scope L f cda cc))) [])
  hi : ∀ L : Addr, interactive (sEnv qual scope L f cda cc) = false
  h1 : ∀ L : Addr, swapsWith (.Call (.Attribute (.Call (.Name "super" p0) [] [] p1) "__init__" p2) [.Name x p3, .Name y q0] [] p4) none p5.line (sEnv qual scope L f cda cc) = pure false
  h2 : ∀ L : Addr, swapsWith (.Name x p8) (some (.Attribute (.Name me p6) f1 p7)) p9.line (sEnv qual scope L f cda cc) = pure false
  h3 : ∀ L : Addr, swapsWith (.Name y q3) (some (.Attribute (.Name me q1) f2 q2)) q4.line (sEnv qual scope L f cda cc) = pure false
end ML

/-! ## errors with one field or two, of any value -/
namespace ML
open PySem PySem.Spec PyProof.Rows L2
/-- the table of the classes: where, and the fields' names -/
abbrev XTL := Nat → Addr × List Str
/-- what the fields hold; of two the value is the pair -/
def FldV (F : Hp) (fl : List Str) (d : PyData) (fs : List (Str × V)) : Prop := match fl with
  | [f] => ∃ v, Dq F v d ∧ fs = [(f, v)]
  | [f, g] => ∃ x y dx dy, d = .tuple [dx, dy] ∧ Dq F x dx ∧ Dq F y dy ∧ fs = [(g, y), (f, x)]
  | _ => False
theorem FldV.mono {F F' : Hp} {fl : List Str} {d : PyData} {fs : List (Str × V)} (e : Same F F') (h : FldV F fl d fs) : FldV F' fl d fs := by
  match fl, h with
  | [f], ⟨v, h1, h2⟩ => exact ⟨v, h1.mono e, h2⟩
  | [f, g], ⟨x, y, dx, dy, h1, h2, h3, h4⟩ => exact ⟨x, y, dx, dy, h1, h2.mono e, h3.mono e, h4⟩
def pd0 : PyData → PyData
  | .tuple [a, _] => a
  | _ => .none
def pd1 : PyData → PyData
  | .tuple [_, b] => b
  | _ => .none
/-- the wish at an exception of the class C with these fields -/
def RtEL (E : XK) (W : Wd) (C : Addr) (fl : List Str) (d : PyData) (cs : Cells) : Prop := ∀ dd H fs, (∃ F, Core W F cs H ∧ FldV F fl d fs ∧ F dd = some (.xd fs)) → E (.ref C) (some dd) H
theorem RtEL.more {E : XK} {W : Wd} {C : Addr} {fl : List Str} {d : PyData} {cs cs' : Cells} (h : RtEL E W C fl d cs) (s : cs.Sublist cs') : RtEL E W C fl d cs' := fun dd H v ⟨F, c, pv, hd⟩ => h dd H v ⟨F, c.drop s, pv, hd⟩
/-- raise C(e, ..), C's __init__ keeping sp -/
def tRaiseS (C : Addr) (sp : Sp) (E : XK) (t : TA) : TS := fun _ σ H => tMkO C sp [] t σ H fun cls d H' => E cls d H'
theorem ps_raiseS {X : Cx} {E : XK} {C : Addr} {sp : Sp} {e : Expr} {t : TA} {pos : Pos} (hc : X.calm = true) (tk : Takes X (fun cls d _ H' => E cls d H')) (he : PMk X e (tMkO C sp [] t)) : PS X (.Raise (some e) none pos) (tRaiseS C sp E t) := ps_raise hc tk he
section
variable {nx bk ct : L2.St → Hp → Prop} {rt : VK}
variable {W : Wd} {G : Gam} {T : Tms} {cs : Cells} {K : Sl → Cells → Prop}
theorem s_raiseL1 {C : Addr} {f : Str} {E : XK} {t : TA} (h : EvA t W G [] cs fun sls cs1 => ∃ d : PyData, sls = [rVal.at d] ∧ RtEL E W C [f] d cs1) : NxT (tRaiseS C (spOne C f) E t ⟨nx, rt, bk, ct⟩) W G [] cs := fun s H st => by
  refine h s H st _ fun sls cs1 ⟨d, e, k⟩ vs H1 ⟨F, c, sg, tm, ar⟩ => ?_
  subst e
  obtain ⟨v, rfl, p1⟩ := args1 ar
  have p1 : Dq F v d := p1
  refine ⟨by show 1 ≤ 1000; decide, fun a ha => ⟨a, v, rfl, upd_same, fun dx hdx hne => ⟨rfl, dx, [(f, v)], upd_same, ?_, ?_, ?_⟩⟩⟩
  · rw [upd_ne hne, upd_same]
  · rw [upd_ne hne] at hdx; exact hdx
  · have hd1 : H1 dx = none := by rw [upd_ne hne] at hdx; exact hdx
    have eH : upd (del (upd (upd (upd H1 a (exo a C none)) dx (exd dx [(f, v)])) a (exo a C (some dx))) a) dx (.xd [(f, v)]) = upd H1 dx (.xd [(f, v)]) := by
      funext b
      by_cases b1 : b = dx
      · rw [b1, upd_same, upd_same]
      · rw [upd_ne b1, upd_ne b1]
        by_cases b2 : b = a
        · rw [b2, del_same, ha]
        · rw [del_ne b2, upd_ne b2, upd_ne b1, upd_ne b2]
    rw [eH]
    exact k dx _ [(f, v)] ⟨_, c.new hd1, ⟨v, p1.mono (same_upd (c.fh.free hd1)), rfl⟩, upd_same⟩
end
/-! ### promises -/
def spXL (xt : XTL) {ι : Type} (A : ι → List Sl) (ci : ι → Cells) (m : ι → Option (Nat × PyData)) : Sp := fun vs H _ E =>
  ∃ (i : ι) (c : Nat) (d : PyData) (W : Wd), m i = some (c, d) ∧ Core W W.F (ci i) H ∧ Args W.F (A i) vs ∧ RtEL E W (xt c).1 (xt c).2 d (ci i)
theorem spXL_len {xt : XTL} {ι : Type} {A : ι → List Sl} {ci : ι → Cells} {m : ι → Option (Nat × PyData)} {n : Nat} {vs : List V} {H : Hp} {Q : VK} {E : XK} (h : spXL xt A ci m vs H Q E) (hA : ∀ i, (A i).length = n) : vs.length = n := by
  obtain ⟨i, _, _, W, _, _, ar, _⟩ := h
  rw [← hA i]
  exact ar.length.symm
def spRL (xt : XTL) {ι β : Type} (A : ι → List Sl) (ci : ι → Cells) (m : ι → Option (RzV β)) (res : ι → β → Sl) (co : ι → β → Cells) : Sp := fun vs H Q E =>
  ∃ (i : ι) (z : RzV β) (W : Wd), m i = some z ∧ Core W W.F (ci i) H ∧ Args W.F (A i) vs ∧ match z with
    | .val b => Rt Q W (res i b) (co i b)
    | .err c d => RtEL E W (xt c).1 (xt c).2 d (ci i)
section
variable {W : Wd} {G : Gam} {T : Tms} {cs : Cells} {K : Sl → Cells → Prop} {t : TA}
/-- C(..), C's __init__ may let an error out -/
theorem e_makeFL {xt : XTL} {ι β : Type} {C : Addr} {fl : β → List (Str × Sl)} {A : Addr → ι → List Sl} {m : ι → Option (RzV β)} {E : XK}
    (h : EvA t W G T cs fun sls cs1 => ∃ (i : ι) (z : RzV β), m i = some z ∧ (∀ p, sRef p :: sls = A p i) ∧ match z with
      | .val b => K ((rRec C fl).at b) cs1
      | .err c d => RtEL E W (xt c).1 (xt c).2 d cs1) :
    Ev (tMake C (spRL xt (ι := Addr × ι) (fun i => A i.1 i.2) (fun i => [(i.1, cObj C [])]) (fun i => m i.2) (fun _ _ => rNon.at ()) (fun i b => [(i.1, cObj C (fl b))])) [] E t) W G T cs K := fun s H st Q q => by
  refine h s H st _ fun sls cs1 ⟨i, z, hm, e1, k⟩ vs H1 ⟨F, c, sg, tm, ar⟩ => ?_
  intro x dx hx hdx hne
  rw [List.append_nil]
  have c1 := c.new (o := .own x) hdx
  have sF : Same F (upd F dx (.own x)) := same_upd (c.fh.free hdx)
  have hx1 : (upd H1 dx (.own x)) x = none := by rw [upd_ne (Ne.symm hne)]; exact hx
  have c2 := c1.newCell (c := cObj C []) hx1 ⟨dx, [], rfl, .nil⟩
  have c2' : Core W (upd F dx (.own x)) ([(x, cObj C [])] ++ cs1) (upd (upd H1 dx (.own x)) x (.ins C dx [])) := c2.perm List.perm_append_comm
  refine ⟨(x, i), z, Wd.sub (upd F dx (.own x)) _ [(x, cObj C [])], hm, c2'.sub, ?_, ?_⟩
  · show Args (upd F dx (.own x)) (A x i) _
    rw [← e1 x]
    exact .cons rfl (ar.imp fun sl _ z => sl.mono sF z)
  · cases z with
    | val b =>
      refine fun v H2 ⟨F2, c3, pv⟩ => ⟨pv, ?_⟩
      have sF2 : Same (upd F dx (.own x)) F2 := c3.f0
      have c4 := c2'.unsub c3
      obtain ⟨F3, dy, gs, h1, h2, s3, c5⟩ := c4.freezeO (j := 0) (p := x) (C := C) (l := fl b) rfl
      exact q _ _ k (.ref x) H2 ⟨F3, c5, sg.mono ((sF.trans sF2).trans s3), (tm.mono ((sF.trans sF2).trans s3)).cons ⟨x, dy, gs, rfl, h1, h2⟩⟩
    | err c' d => exact fun dd H2 fs ⟨F2, c3, pv, hd⟩ => k dd H2 fs ⟨F2, (c2'.unsub c3).drop (List.sublist_append_right _ _), pv, hd⟩
end
theorem spRL_or {xt : XTL} {ι β : Type} {A : ι → List Sl} {ci : ι → Cells} {m : ι → Option β} {mx : ι → Option (Nat × PyData)} {res : ι → β → Sl} {co : ι → β → Cells} {vs : List V} {H : Hp} {Q : VK} {E : XK}
    (h : spRL xt A ci (fun i => match mx i with | some (c, v) => some (RzV.err c v) | none => (m i).map RzV.val) res co vs H Q E) : spM A ci m res co vs H Q E ∨ spXL xt A ci mx vs H Q E := by
  obtain ⟨i, z, W, hm, c, ar, k⟩ := h
  dsimp only at hm
  cases hx : mx i with
  | some p =>
    obtain ⟨c', v⟩ := p
    rw [hx] at hm
    have hm : some (RzV.err c' v) = some z := hm
    cases hm
    exact .inr ⟨i, c', v, W, hx, c, ar, k⟩
  | none =>
    rw [hx] at hm
    have hm : (m i).map RzV.val = some z := hm
    cases hb : m i with
    | none => rw [hb] at hm; cases hm
    | some b =>
      rw [hb] at hm
      cases hm
      exact .inl ⟨i, b, W, hb, c, ar, k⟩
theorem fnG_bothL {xt : XTL} {P : Program} {w : World} {K : PySem.W.Frag} {mg : Str → Option Value} {base : Heap} {j k l : Nat} {f : Addr} {fd : FuncData} {ps : List Str} {ι β : Type} {A : ι → List Sl} {ci : ι → Cells} {m : ι → Option β} {mx : ι → Option (Nat × PyData)} {res : ι → β → Sl} {co : ι → β → Cells}
    (F1 : FnG P w K mg base L2.CX0 j f fd ps (spM A ci m res co)) (F2 : FnG P w K mg base (L2.CX P w) k f fd ps (spXL xt A ci mx)) (h1 : j ≤ l) (h2 : k ≤ l) : FnG P w K mg base (L2.CX P w) l f fd ps (spRL xt A ci (fun i => rzOfV (mx i) (m i)) res co) :=
  fnG_or (fnG_mono F1 h1) (fnG_mono F2 h2) fun _ _ _ _ h => spRL_or h
/-! ### a kept error -/
def sErrL (a d : Addr) (fl : List Str) (x : PyData) : Sl := ⟨fun F v => v = .ref a ∧ ∃ fs, F d = some (.xd fs) ∧ FldV F fl x fs, fun e ⟨h1, fs, h2, h3⟩ => ⟨h1, fs, e _ _ h2, h3.mono e⟩⟩
section
variable {W : Wd} {G : Gam} {T : Tms} {cs : Cells} {K : Sl → Cells → Prop} {t : TA} {te : TE}
variable {KF : PySem.W.Frag}
theorem e_isXL {a D dd : Addr} {fl : List Str} {x : PyData} {cls : Value} {d : Option Addr} (e1 : cls = .ref D) (e2 : d = some dd) (C : ExcD KF D) (h : EvA t W G T cs fun sls cs1 => ∃ (c : V) (cv : Value) (b : Bool), sls = [sErrL a dd fl x, ⟨fun _ v => v = c, fun _ h => h⟩] ∧ (∀ u, RelV c u → u = cv) ∧ PySem.W.kitOne KF (.ref D) cv = some b ∧ K (rBool.at b) cs1) : Ev (tCB (rIsX KF a cls d) t) W G T cs K := fun s H st Q q => by
  refine h s H st _ fun sls cs1 ⟨c, cv, b, e, hcv, hk, k⟩ vs H1 ⟨F, cc, sg, tm, ar⟩ => ?_
  subst e
  cases ar with
  | cons p1 ar =>
    cases ar with
    | cons p2 ar =>
      cases ar
      obtain ⟨rfl, y, hF, _⟩ := p1
      have p2 := p2
      cases p2
      exact ⟨D, dd, y, c, cv, b, e1, e2, C, cc.fh _ _ hF, rfl, hcv, hk, q _ _ k _ _ ⟨F, cc, sg, tm.cons rfl⟩⟩
theorem e_isXCL {a D dd : Addr} {fl : List Str} {x : PyData} {cls : Value} {d : Option Addr} (e1 : cls = .ref D) (e2 : d = some dd) (C : ExcD KF D) (h : EvA t W G T cs fun sls cs1 => ∃ (c : Addr) (b : Bool), sls = [sErrL a dd fl x, sRef c] ∧ PySem.W.kitOne KF (.ref D) (.ref c) = some b ∧ K (rBool.at b) cs1) : Ev (tCB (rIsX KF a cls d) t) W G T cs K := fun s H st Q q => by
  refine h s H st _ fun sls cs1 ⟨c, b, e, hk, k⟩ vs H1 ⟨F, cc, sg, tm, ar⟩ => ?_
  subst e
  cases ar with
  | cons p1 ar =>
    cases ar with
    | cons p2 ar =>
      cases ar
      obtain ⟨rfl, y, hF, _⟩ := p1
      cases p2
      exact ⟨D, dd, y, .ref c, .ref c, b, e1, e2, C, cc.fh _ _ hF, rfl, fun _ z => z, hk, q _ _ k _ _ ⟨F, cc, sg, tm.cons rfl⟩⟩
end
/-! ### a lambda's answer -/
def AskOkL (xt : XTL) (W : Wd) {γ : Type} (rg : R γ) (z : RzV γ) (tl : XK → Hp → VK → Prop) : Prop := ∀ (F : Hp) (H : Hp) (Q : VK) (E : XK), Core W F [] H → (match z with
  | .val u => ∀ v F' H', Core W F' [] H' → Same F F' → rg.p u F' v → Q v H'
  | .err c d => ∀ dd F' H' fs, Core W F' [] H' → Same F F' → FldV F' (xt c).2 d fs → F' dd = some (.xd fs) → E (.ref (xt c).1) (some dd) H') → tl E H Q
def TTl (xt : XTL) (q : Str) {γ : Type} (rg : R γ) {β : Type} (m : RzV γ → Option β) (res : β → Sl) : Addr → (XK → Hp → VK → Prop) → Hp → VK → Prop := fun d tl H Q => ∃ (W : Wd) (z : RzV γ) (b : β), Core W W.F [] H ∧ W.F d = some (LamX.CodeO d q) ∧ AskOkL xt W rg z tl ∧ m z = some b ∧ Rt Q W (res b) []
def EvLamL (xt : XTL) (t : XK → TE) (G : Gam) (T : Tms) {γ : Type} (rg : R γ) (z : RzV γ) : Prop := ∀ (W : Wd) (s : L2.St) (H : Hp) (Q : VK) (E : XK), Sta W G T [] s H → (match z with
  | .val u => ∀ v F' H', Core W F' [] H' → rg.p u F' v → Q v H'
  | .err c d => RtEL E W (xt c).1 (xt c).2 d []) → t E s H Q
section
variable {W : Wd} {G : Gam} {T : Tms} {cs : Cells} {K : Sl → Cells → Prop} {xt : XTL} {γ : Type} {rg : R γ} {z : RzV γ}
theorem askOkL_of {F0 : Hp} {σ : L2.St} {t : XK → TE} (sg : Slots F0 G σ) (tm : Temps F0 T) (sF : Same F0 W.F) (h : EvLamL xt t G T rg z) : AskOkL xt W rg z (fun E H' Q' => t E σ H' Q') := fun F H Q E c k => by
  have c' : Core W F ([] ++ []) H := c
  refine h (Wd.sub F H []) σ H Q E ⟨F, c'.sub, sg.mono (sF.trans c.f0), tm.mono (sF.trans c.f0)⟩ ?_
  cases z with
  | val u => exact fun v F' H' c2 pv => k v F' H' (c'.unsub c2) c2.f0 pv
  | err e v => exact fun d H' y ⟨F', c2, pv, hd⟩ => k d F' H' y (c'.unsub c2) c2.f0 pv hd
theorem e_lamSL {P : Addr} {q : Str} {β : Type} {m : RzV γ → Option β} {res : β → Sl} {t : XK → TE} {b : β} (j : Nat) (hj : cs[j]? = some (P, cTab q)) (h : EvLamL xt t G T rg z) (hm : m z = some b) (k : K (res b) cs) : Ev (tLamS P q (TTl xt q rg m res) t) W G T cs K := fun s H st Q q' => by
  obtain ⟨F, c, sg, tm⟩ := st
  refine ⟨?_, fun H1 d mk hd => ?_⟩
  · obtain ⟨_, _, o, h3, ps, rfl, h5, h6⟩ := c.cell (P, cTab q) (List.mem_of_getElem? hj)
    exact ⟨ps, h3, h5, fun p u hu => let ⟨c0, e1, e2⟩ := h6 p u hu; ⟨c0, e1, c.fh _ _ e2⟩⟩
  · obtain ⟨F1, sF, hF1, c1⟩ := c.made hj mk
    have c1' : Core W F1 ([] ++ cs) H1 := c1
    refine ⟨Wd.sub F1 H1 [], z, b, c1'.sub, hF1, askOkL_of sg tm sF h, hm, fun v H2 ⟨F2, c2, pv⟩ => ?_⟩
    have sF2 : Same F F2 := sF.trans c2.f0
    exact q' _ _ k v H2 ⟨F2, c1'.unsub c2, sg.mono sF2, (tm.mono sF2).cons pv⟩
/-- lambda: C(..) -/
theorem er_makeL {ι β : Type} {C : Addr} {fl : β → List (Str × Sl)} {A : Addr → ι → List Sl} {m : ι → Option (RzV β)} {ta : TA} (f : β → γ) (cv : ∀ b F v, (rRec C fl).p b F v → rg.p (f b) F v) (h : ∀ W, EvA ta W G T [] fun sls cs1 => ∃ (i : ι) (z' : RzV β), m i = some z' ∧ (∀ p, sRef p :: sls = A p i) ∧ cs1 = [] ∧ rzMV f z' = z) :
    EvLamL xt (fun E => tMake C (spRL xt (ι := Addr × ι) (fun i => A i.1 i.2) (fun i => [(i.1, cObj C [])]) (fun i => m i.2) (fun _ _ => rNon.at ()) (fun i b => [(i.1, cObj C (fl b))])) [] E ta) G T rg z := fun W s H Q E st k => by
  refine e_makeFL (K := fun sl cs1 => cs1 = [] ∧ ∃ b, z = .val (f b) ∧ sl = (rRec C fl).at b) (fun s1 H1 st1 Q1 q1 => h W s1 H1 st1 _ fun sls cs1 ⟨i, z', hm, e1, e2, e3⟩ => q1 sls cs1 ⟨i, z', hm, e1, ?_⟩) s H st Q fun sl cs1 ⟨e1, b, e2, e3⟩ v H1 ⟨F, c, sg, tm⟩ => ?_
  · cases z' with
    | val b => exact ⟨e2, b, e3.symm, rfl⟩
    | err c d =>
      subst e2 e3
      exact k
  · subst e1 e2 e3
    exact k v F H1 c (cv _ _ _ tm.head)
end
section
variable {nx bk ct : L2.St → Hp → Prop} {rt : VK} {W : Wd} {G : Gam} {xt : XTL} {γ : Type} {rg : R γ} {z : RzV γ}
/-- try: return (word, ask()) except E as n: y = n -/
theorem s_askL {KF : PySem.W.Frag} {cE : Value} {f d : Addr} {q w : Str} {tl : XK → Hp → VK → Prop} (i jc : Nat) {t0 : TS} {t1 : Addr → Value → Option Addr → TS} {Wout : WX} (hi : i < G.length) (h0 : G[0]? = some (some (sRef f))) (hd : W.F d = some (LamX.CodeO d q)) (ha : AskOkL xt W rg z tl) (e : VQ rg)
    (h : match z with
      | .val u => Rt rt W (rVal.at (.tuple [.str w, e.d u])) []
      | .err c x => PySem.W.exmOne KF (.ref (xt c).1) cE = some true ∧ ∀ a dd, NxT (t1 a (.ref (xt c).1) (some dd) ⟨nx, rt, bk, ct⟩) W (((G.set i (some (sRef a))).set jc (some (sErrL a dd (xt c).2 x))).set i none) [] []) :
    NxT (tTryK KF cE i (fun Wx => tRet (tTup (tCons (tC (.str w)) (tCons (tAsk f d q tl Wx) tNil)))) (fun _ _ _ => tAsg (tVar i) (gName jc)) Wout t0 t1 ⟨nx, rt, bk, ct⟩) W G [] [] := fun σ H ⟨F, c, sg, _⟩ => by
  obtain ⟨v0, hv0, rfl⟩ := sg.2 0 _ h0
  refine ⟨hv0, c.fh _ _ (c.f0 _ _ hd), ha F H _ _ c ?_⟩
  cases z with
  | val u =>
    refine fun v F2 H2 c2 sF pv => ⟨by show 2 ≤ sizeLine; decide, fun p hp => ?_⟩
    have sF2 : Same F2 (upd F2 p (.tup [.str w, v])) := same_upd (c2.fh.free hp)
    exact h _ _ ⟨_, c2.new hp, .tup (by show 2 ≤ sizeLine; decide) upd_same (.cons (.str w) (.cons ((e.ok pv).mono sF2) .nil))⟩
  | err e' x =>
    refine fun dd F2 H2 y c2 sF py hx => ⟨true, h.1, fun _ a ha => ⟨.ref a, ?_, ?_⟩, fun z => by cases z⟩
    · rw [List.getElem?_set_self (by rw [sg.1]; exact hi)]
    · exact h.2 a dd _ H2 ⟨F2, c2, slots_none (((sg.mono sF).set (sl := sRef a) rfl).set (sl := sErrL a dd _ x) ⟨rfl, y, hx, py⟩) i, Temps.nil⟩
end
end ML

/-! ## a word and a thing, or any value -/
namespace ML
open PySem PySem.Spec PyProof.Rows L2
def rUni {α : Type} (w : Str) (r : R α) : R (α ⊕ PyData) := ⟨fun x F v => match x with
  | .inl a => (rPair rStr r).p (w, a) F v
  | .inr d => Dq F v d, fun {x _ _ _} e h => by
  cases x with
  | inl a => exact (rPair rStr r).mono e h
  | inr d => exact Dq.mono e h⟩
def oUniL {α : Type} : α ⊕ PyData → Option α
  | .inl a => some a
  | .inr _ => none
def oUniR {α : Type} : α ⊕ PyData → Option PyData
  | .inl _ => none
  | .inr d => some d
/-- list * int, the new one beyond what the machine itself holds -/
def rRepF : R2 := fun x y H Q => ∃ l k xs, x = .ref l ∧ y = .int k ∧ H l = some (.lst xs) ∧ -(2 ^ 63) ≤ k ∧ k < 2 ^ 63 ∧ xs.length * k.toNat ≤ sizeLine ∧
  ∀ p, H p = none → (p == sysModules) = false → Q (.ref p) (upd H p (.lst (List.replicate k.toNat xs).flatten))
def oRepV (d : PyData) (n : Int) : Option PyData := match d with
  | .list ds => if 0 ≤ n ∧ n ≤ 100 ∧ ds.length ≤ 100 then some (.list (List.replicate n.toNat ds).flatten) else none
  | _ => none
/-- a tuple of two is a pair -/
def oTwoT {α : Type} : List α → Option (α × α)
  | [a, b] => some (a, b)
  | _ => none
section
variable {W : Wd} {G : Gam} {T : Tms} {cs : Cells} {K : Sl → Cells → Prop} {te ta tb : TE}
/-- a slot read otherwise -/
theorem e_cnv {sl0 sl' : Sl} (h : Ev te W G T cs fun sl cs1 => sl = sl0 ∧ (∀ F v, sl0.p F v → sl'.p F v) ∧ K sl' cs1) : Ev te W G T cs K := fun s H st Q q => by
  refine h s H st _ fun sl cs1 ⟨e, a, k⟩ v H1 ⟨F, c, sg, tm⟩ => ?_
  subst e
  exact q _ _ k _ _ ⟨F, c, sg, tm.tail.cons (a F v tm.head)⟩
end
section
variable {nx bk ct : L2.St → Hp → Prop} {rt : VK} {W : Wd} {G : Gam} {xt : XTL} {γ : Type} {rg : R γ} {z : RzV γ}
end
section
variable {W : Wd} {G : Gam} {T : Tms} {cs : Cells} {K : Sl → Cells → Prop} {ta tb : TE}
end
end ML

/-! ## try: return C(..) except D: raise F(x) from None -/
namespace ML
open PySem PySem.Spec PyProof.Rows L2 L2H
/-- the context of an error's __init__ while another one is handled -/
def cxSH (CX : CXT) (P : Program) (w : World) (K : PySem.W.Frag) (mg : Str → Option Value) (base : Heap) (N : List Str) (qual : Str) (scope : Scope) (f cda cc : Addr) (A : Around) (outer : List Env) (s : Shared) (H : Hp) (E : XK) (p : Addr × Obj) : Cx :=
  { cxS CX P w K mg base N qual scope f cda cc A outer s H E with calm := false, pn := [p] }
section
variable {CX : CXT} {P : Program} {w : World} {K : PySem.W.Frag} {mg : Str → Option Value} {base : Heap}
end
/-- C(e, ..) within a try -/
def tMakeS (C : Addr) (sp : Sp) (dvs : List V) (Wx : WX) (t : TA) : TE := fun σ H Q => tMake C sp dvs (fun cls d H' => Wx cls d σ H') t σ H Q
section
variable {X : L2.Cx} {k : Nat} {C f : Addr} {fd : FuncData} {ps : List Str} {sp : Sp} {dvs : List V} {ds : List Value} {Wx : WX} {x : Str} {p pos : Pos} {e : Expr} {es : List Expr} {t : TA}
end
/-- the reading: C(..) lets an error out that the clause names; the suite raises F(e) -/
def tTryRaise (KF : PySem.W.Frag) (cE : Value) (C : Addr) (sp : Sp) (ta : TA) (F : Addr) (f : Str) (te : TA) (E : XK) : TS := fun D σ H =>
  (tRet (tMakeS C sp [] (wOnly KF cE (fun _ _ _ => fun _ σ H => tMkO F (spOne F f) [] te σ H fun cls d H' => E cls d H') (fun cls d _ H' => E cls d H') D) ta)) D σ H
section
variable {nx bk ct : L2.St → Hp → Prop} {rt : VK}
variable {W : Wd} {G : Gam} {cs : Cells}
end
end ML

/-! ## i //= e; text.startswith(text); a lambda's answer looked into within the try -/
namespace ML
open PySem PySem.Spec PyProof.Rows L2 SX
section
variable {nx bk ct : L2.St → Hp → Prop} {rt : VK}
variable {W : Wd} {G : Gam} {T : Tms} {cs : Cells} {K : Sl → Cells → Prop} {ta tb te : TE}
def rSwTx : V → List V → Hp → VK → Prop := fun x xs H Q => ∃ a b, x = .str a ∧ xs = [.str b] ∧ Q (.bl (Txt.startswith a b)) H
end
section
variable {nx bk ct : L2.St → Hp → Prop} {rt : VK} {W : Wd} {G : Gam} {xt : XTL} {γ : Type} {rg : R γ} {z : RzV γ}
end
end ML

/-! ## lists of texts: index, in; optional parts that are all there; a cell + a list -/
namespace ML
open PySem PySem.Spec PyProof.Rows L2 SX
def oIdxL (xs : List (List Nat)) (y : List Nat) : Option Int := if y ∈ xs then some ((xs.idxOf y : Nat) : Int) else none
theorem idx_first {α : Type} [BEq α] [LawfulBEq α] {y : α} : ∀ {xs : List α}, y ∈ xs → xs[xs.idxOf y]? = some y ∧ ∀ (m : Nat) (z : α), m < xs.idxOf y → xs[m]? = some z → (z == y) = false
  | x :: xs, h => by
    rw [List.idxOf_cons]
    cases hx : (x == y) with
    | true =>
      have := eq_of_beq hx
      subst this
      exact ⟨rfl, fun m z hm _ => absurd hm (Nat.not_lt_zero _)⟩
    | false =>
      have hy : y ∈ xs := by
        rcases List.mem_cons.mp h with rfl | h
        · rw [beq_self_eq_true] at hx; cases hx
        · exact h
      obtain ⟨a1, a2⟩ := idx_first hy
      refine ⟨a1, fun m z hm hz => ?_⟩
      cases m with
      | zero =>
        cases hz
        exact hx
      | succ m => exact a2 m z (Nat.lt_of_succ_lt_succ hm) hz
theorem S_inj {a b : List Nat} (h : S a = S b) : a = b := by
  have := congrArg (fun s : Str => s.cps.toList) h
  simpa using this
/-- all of them are there -/
def oAllS {α : Type} : List (Option α) → Option (List α)
  | [] => some []
  | none :: _ => none
  | some x :: xs => (oAllS xs).map (x :: ·)
section
variable {α : Type} {r : R α}
end
section
variable {W : Wd} {G : Gam} {T : Tms} {cs : Cells} {K : Sl → Cells → Prop} {to ta tb : TE} {t : TA} {KF : PySem.W.Frag}
end
end ML

/-! ## errors as values -/
namespace ML
open PySem PySem.Spec PyProof.Rows L2 SX
section
variable {P : Program} {M : Model} {w : World} {A : Around} {E : Value → Shared → Prop} {R : Result → Shared → Prop} {hp : Heap} {gs : Array GenState} {dr : Drawn} {tk : Nat} {os : OsState}
variable {nm q : Str} {C N : Addr} {bs bm bmB : List Value} {hdct : Bool} {sn : List Str} {sub : List Value} {ab : Bool} {col : Option Bool} {dd : Option Addr} {k0 k1 k2 k3 k5 : Option Value} {B newId initId : String}
end
/-! ### C(e, ..) -/
def tOex (C : Addr) (sp : Sp) (ta : TA) : TE := fun σ H Q => ta σ H fun vs H1 => vs.length ≤ 1000 ∧ ∀ a, H1 a = none → sp (.ref a :: vs) (upd H1 a (exo a C none)) (fun v H2 => v = .non ∧ Q (.ref a) H2) (fun _ _ _ => False)
section
variable {X : L2.Cx} {CX : CXT} {x : Str} {C fI : Addr} {k : Nat} {fd : FuncData} {ps ks : List Str} {sp : Sp} {e : Expr} {es : List Expr} {kws : List Keyword} {ta : TA} {p pos : Pos} {π : List Nat}
end
end ML

/-! ## errors as values: what they are, isinstance, their fields -/
namespace ML
open PySem PySem.Spec PyProof.Rows L2 SX
/-- the classes in their order: where, and the fields' names -/
abbrev XL := List (Addr × List Str)
def xlAt (L : XL) (i : Nat) : Addr × List Str := L.getD i (0, [])
def rEr (L : XL) : R (Nat × PyData) := ⟨fun e F v => e.1 < L.length ∧ ∃ a, v = .ref a ∧ (((xlAt L e.1).2 = [] ∧ F a = some (exo a (xlAt L e.1).1 none)) ∨ ∃ dd fs, F a = some (exo a (xlAt L e.1).1 (some dd)) ∧ F dd = some (exd dd fs) ∧ FldV F (xlAt L e.1).2 e.2 fs),
  fun {_ _ _ _} s ⟨h0, a, h1, h⟩ => by
    refine ⟨h0, a, h1, ?_⟩
    rcases h with ⟨h2, h3⟩ | ⟨dd, fs, h2, h3, h4⟩
    · exact .inl ⟨h2, s _ _ h3⟩
    · exact .inr ⟨dd, fs, s _ _ h2, s _ _ h3, h4.mono s⟩⟩
section
variable {W : Wd} {G : Gam} {T : Tms} {cs : Cells} {K : Sl → Cells → Prop} {t : TA} {te : TE} {KF : PySem.W.Frag} {L : XL}
/-! ### a class without its own __init__ -/
def tExc (C : Addr) : TE := fun σ H Q => ∀ a, H a = none → Q (.ref a) (upd H a (exo a C none))
end
/-! ### isinstance -/
def rIsEr (K : PySem.W.Frag) : List V → Hp → VK → Prop := fun xs H Q => ∃ (a D : Addr) (d : Option Addr) (c : V) (cv : Value) (b : Bool), ExcD K D ∧ xs = [.ref a, c] ∧ H a = some (exo a D d) ∧ (∀ dd, d = some dd → ∃ fs, H dd = some (exd dd fs)) ∧ (∀ u, RelV c u → u = cv) ∧ PySem.W.kitOne K (.ref D) cv = some b ∧ Q (.bl b) H
def oIsE (n : Nat) (f : Nat → Bool) (e : Nat × PyData) : Option Bool := if e.1 < n then some (f e.1) else none
section
variable {W : Wd} {G : Gam} {T : Tms} {cs : Cells} {K : Sl → Cells → Prop} {t : TA} {te : TE} {KF : PySem.W.Frag} {L : XL}
end
/-! ### err.f -/
def tXfE (K : PySem.W.Frag) (f : Str) (te : TE) : TE := fun σ H Q => te σ H fun x H1 => ∃ (a C dd : Addr) (fs : List (Str × V)) (v : V), x = .ref a ∧ XfC K C ∧ PySem.W.findIn K (.ref C) f = some none ∧ H1 a = some (exo a C (some dd)) ∧ H1 dd = some (exd dd fs) ∧ fs.lookup f = some v ∧ Q v H1
def oFldE (N : List (List Str)) (f : Str) (e : Nat × PyData) : Option PyData := match N[e.1]? with
  | some [x] => if (f == x) = true then some e.2 else none
  | some [x, y] => if (x == y) = true then none else match e.2 with
    | .tuple [u, v] => if (f == x) = true then some u else if (f == y) = true then some v else none
    | _ => none
  | _ => none
section
variable {W : Wd} {G : Gam} {T : Tms} {cs : Cells} {K : Sl → Cells → Prop} {t : TA} {te : TE} {KF : PySem.W.Frag} {L : XL}
end
end ML

/-! ## {text: value, text: value}.get(word, value) -/
namespace ML
open PySem PySem.Spec PyProof.Rows L2 SX
def rDV : R (List (List Nat × PyData)) := ⟨fun ds F v => ∃ a kvs, v = .ref a ∧ F a = some (.dK kvs) ∧ All2 (fun (d : List Nat × PyData) (kv : Key × V) => kv.1 = .inr (S d.1) ∧ Dq F kv.2 d.2) ds kvs,
  fun {_ _ _ _} s ⟨a, kvs, h1, h2, h3⟩ => ⟨a, kvs, h1, s _ _ h2, h3.imp fun _ _ q => ⟨q.1, q.2.mono s⟩⟩⟩
abbrev kT (z : List Nat) : Key := .inr (S z)
def gotT : List (List Nat × PyData) → List Nat → Option PyData
  | [], _ => none
  | d :: ds, w => if d.1 = w then some d.2 else gotT ds w
section
variable {W : Wd} {G : Gam} {T : Tms} {cs : Cells} {K : Sl → Cells → Prop} {td tk tk1 tk2 tv1 tv2 te : TE}
end
/-! ### a name, (name, name) -/
section
variable {W : Wd} {G : Gam} {T : Tms} {cs : Cells} {α β γ : Type}
end
section
variable {K : PySem.W.Frag} {C M f cda cc : Addr} {qual fl file : Str} {st : Stmt} {fd : FuncData}
theorem ErrK.names (E : ErrK K C M f cda cc qual st fd fl file) {ps ks : List Str} {π : List Nat} (h : ∀ (name : Str) (kV doc pm ct : Value) (an : Option Addr) (a : Value) (us : List Value), us.length = ks.length → bindArgs (PySem.W.ksFn name qual (defArgs st) (defBody st) (defScope st) .none kV doc pm an (.ref cda) ct cc) ⟨[a], ks.zip us⟩ = pure (ps.zip (a :: perm π us))) : OwnNames K fd ps ks π := fun s a us hl => by
  obtain ⟨name, kV, doc, pm, ct, oc, an, od, osl, e, lk⟩ := E.fn
  subst e
  exact .of_eq (h name kV doc pm ct an a us hl)
end
/-- isinstance's answers for the instances of all the classes -/
structure KitAt (K : PySem.W.Frag) (L : XL) (cv : Value) (n : Nat) (f : Nat → Bool) : Prop where
  h : L.map (fun p => PySem.W.kitOne K (.ref p.1) cv) = (List.range n).map fun i => some (f i)
end ML

/-! ## four things; tuples of texts: index, their set's size; what can be sorted; a list that may be empty -/
namespace ML
open PySem PySem.Spec PyProof.Rows L2 SX
/-! ### four things -/
def rFour {α β γ δ : Type} (r1 : R α) (r2 : R β) (r3 : R γ) (r4 : R δ) : R (α × β × γ × δ) := ⟨fun x F v => ∃ a v1 v2 v3 v4, v = .ref a ∧ F a = some (.tup [v1, v2, v3, v4]) ∧ r1.p x.1 F v1 ∧ r2.p x.2.1 F v2 ∧ r3.p x.2.2.1 F v3 ∧ r4.p x.2.2.2 F v4,
  fun {_ _ _ _} e ⟨a, v1, v2, v3, v4, h0, h1, p1, p2, p3, p4⟩ => ⟨a, v1, v2, v3, v4, h0, e _ _ h1, r1.mono e p1, r2.mono e p2, r3.mono e p3, r4.mono e p4⟩⟩
section
variable {nx bk ct : L2.St → Hp → Prop} {rt : VK}
variable {W : Wd} {G : Gam} {T : Tms} {cs : Cells} {K : Sl → Cells → Prop} {t : TA} {to ta tb : TE} {KF : PySem.W.Frag}
theorem e_four (h : EvA t W G T cs fun sls cs1 => ∃ (α β γ δ : Type) (r1 : R α) (r2 : R β) (r3 : R γ) (r4 : R δ) (a : α) (b : β) (c : γ) (d : δ), sls = [r1.at a, r2.at b, r3.at c, r4.at d] ∧ K ((rFour r1 r2 r3 r4).at (a, b, c, d)) cs1) : Ev (tTup t) W G T cs K := fun s H st Q q => by
  refine h s H st _ fun sls cs1 ⟨α, β, γ, δ, r1, r2, r3, r4, a, b, c, d, e, k⟩ vs H1 ⟨F, cc, sg, tm, ar⟩ => ?_
  subst e
  obtain ⟨v1, v2, v3, v4, rfl, p1, p2, p3, p4⟩ : ∃ v1 v2 v3 v4, vs = [v1, v2, v3, v4] ∧ r1.p a F v1 ∧ r2.p b F v2 ∧ r3.p c F v3 ∧ r4.p d F v4 := by
    cases ar with
    | cons p1 ar =>
      cases ar with
      | cons p2 ar =>
        cases ar with
        | cons p3 ar =>
          cases ar with
          | cons p4 ar =>
            cases ar
            exact ⟨_, _, _, _, rfl, p1, p2, p3, p4⟩
  refine ⟨by show 4 ≤ sizeLine; decide, fun p hp => ?_⟩
  have sF : Same F (upd F p (.tup [v1, v2, v3, v4])) := same_upd (cc.fh.free hp)
  exact q _ _ k _ _ ⟨_, cc.new hp, sg.mono sF, (tm.mono sF).cons ⟨p, v1, v2, v3, v4, rfl, upd_same, r1.mono sF p1, r2.mono sF p2, r3.mono sF p3, r4.mono sF p4⟩⟩
theorem four_at {α β γ δ : Type} {r1 : R α} {r2 : R β} {r3 : R γ} {r4 : R δ} {x : α × β × γ × δ} {s : L2.St} {H : Hp} {va vb : V} {i : Int} {sb : Sl} (st : Sta W G ((vb, sb) :: (va, (rFour r1 r2 r3 r4).at x) :: T) cs s H) (e : sb = rInt.at i) :
    vb = .int i ∧ ∃ F a v1 v2 v3 v4, va = .ref a ∧ Core W F cs H ∧ Slots F G s ∧ Temps F T ∧ H a = some (.tup [v1, v2, v3, v4]) ∧ r1.p x.1 F v1 ∧ r2.p x.2.1 F v2 ∧ r3.p x.2.2.1 F v3 ∧ r4.p x.2.2.2 F v4 := by
  subst e
  obtain ⟨F, c, sg, tm⟩ := st
  have e2 : vb = .int i := tm.head
  obtain ⟨a, v1, v2, v3, v4, h0, h1, p1, p2, p3, p4⟩ := tm.tail.head
  exact ⟨e2, F, a, v1, v2, v3, v4, h0, c, sg, tm.tail.tail, c.fh _ _ h1, p1, p2, p3, p4⟩
theorem e_ixF0 (ha : Ev ta W G T cs fun sa cs1 => ∀ va, Ev tb W G ((va, sa) :: T) cs1 fun sb cs2 => ∃ (α β γ δ : Type) (r1 : R α) (r2 : R β) (r3 : R γ) (r4 : R δ) (x : α × β × γ × δ), sa = (rFour r1 r2 r3 r4).at x ∧ sb = rInt.at 0 ∧ K (r1.at x.1) cs2) :
    Ev (tOp (rIxT KF) ta tb) W G T cs K := fun s H st Q q => by
  refine ha s H st _ fun sa cs1 h1 va H1 st1 => h1 va s H1 st1 _ fun sb cs2 ⟨α, β, γ, δ, r1, r2, r3, r4, x, e1, e2, k⟩ vb H2 st2 => ?_
  subst e1
  obtain ⟨rfl, F, a, v1, v2, v3, v4, rfl, c, sg, tm, h1, p1, p2, p3, p4⟩ := four_at st2 e2
  exact ⟨a, _, 0, v1, rfl, rfl, SqT.of h1, rfl, q _ _ k _ H2 ⟨F, c, sg, tm.cons p1⟩⟩
theorem e_ixF1 (ha : Ev ta W G T cs fun sa cs1 => ∀ va, Ev tb W G ((va, sa) :: T) cs1 fun sb cs2 => ∃ (α β γ δ : Type) (r1 : R α) (r2 : R β) (r3 : R γ) (r4 : R δ) (x : α × β × γ × δ), sa = (rFour r1 r2 r3 r4).at x ∧ sb = rInt.at 1 ∧ K (r2.at x.2.1) cs2) :
    Ev (tOp (rIxT KF) ta tb) W G T cs K := fun s H st Q q => by
  refine ha s H st _ fun sa cs1 h1 va H1 st1 => h1 va s H1 st1 _ fun sb cs2 ⟨α, β, γ, δ, r1, r2, r3, r4, x, e1, e2, k⟩ vb H2 st2 => ?_
  subst e1
  obtain ⟨rfl, F, a, v1, v2, v3, v4, rfl, c, sg, tm, h1, p1, p2, p3, p4⟩ := four_at st2 e2
  exact ⟨a, _, 1, v2, rfl, rfl, SqT.of h1, rfl, q _ _ k _ H2 ⟨F, c, sg, tm.cons p2⟩⟩
theorem e_ixF2 (ha : Ev ta W G T cs fun sa cs1 => ∀ va, Ev tb W G ((va, sa) :: T) cs1 fun sb cs2 => ∃ (α β γ δ : Type) (r1 : R α) (r2 : R β) (r3 : R γ) (r4 : R δ) (x : α × β × γ × δ), sa = (rFour r1 r2 r3 r4).at x ∧ sb = rInt.at 2 ∧ K (r3.at x.2.2.1) cs2) :
    Ev (tOp (rIxT KF) ta tb) W G T cs K := fun s H st Q q => by
  refine ha s H st _ fun sa cs1 h1 va H1 st1 => h1 va s H1 st1 _ fun sb cs2 ⟨α, β, γ, δ, r1, r2, r3, r4, x, e1, e2, k⟩ vb H2 st2 => ?_
  subst e1
  obtain ⟨rfl, F, a, v1, v2, v3, v4, rfl, c, sg, tm, h1, p1, p2, p3, p4⟩ := four_at st2 e2
  exact ⟨a, _, 2, v3, rfl, rfl, SqT.of h1, rfl, q _ _ k _ H2 ⟨F, c, sg, tm.cons p3⟩⟩
theorem e_ixF3 (ha : Ev ta W G T cs fun sa cs1 => ∀ va, Ev tb W G ((va, sa) :: T) cs1 fun sb cs2 => ∃ (α β γ δ : Type) (r1 : R α) (r2 : R β) (r3 : R γ) (r4 : R δ) (x : α × β × γ × δ), sa = (rFour r1 r2 r3 r4).at x ∧ sb = rInt.at 3 ∧ K (r4.at x.2.2.2) cs2) :
    Ev (tOp (rIxT KF) ta tb) W G T cs K := fun s H st Q q => by
  refine ha s H st _ fun sa cs1 h1 va H1 st1 => h1 va s H1 st1 _ fun sb cs2 ⟨α, β, γ, δ, r1, r2, r3, r4, x, e1, e2, k⟩ vb H2 st2 => ?_
  subst e1
  obtain ⟨rfl, F, a, v1, v2, v3, v4, rfl, c, sg, tm, h1, p1, p2, p3, p4⟩ := four_at st2 e2
  exact ⟨a, _, 3, v4, rfl, rfl, SqT.of h1, rfl, q _ _ k _ H2 ⟨F, c, sg, tm.cons p4⟩⟩
end
theorem strs_are : ∀ {ys : List Str} {us : List Value}, Vals (ys.map V.str) us → PyProof.Rows.StrsAre us ys
  | [], _, .nil => .nil
  | y :: ys, _, .cons r t => by
    obtain ⟨u, rfl⟩ := r
    exact .cons _ _ (strs_are t)
/-! ### len(set(t)), t a tuple of texts -/
def cnF {α : Type} [DecidableEq α] (p : List α × Nat) (x : α) : List α × Nat := (x :: p.1, if x ∈ p.1 then p.2 else p.2 + 1)
/-- how many there are -/
def cntF {α : Type} [DecidableEq α] (xs : List α) : Nat := (xs.foldl cnF ([], 0)).2
theorem cnF_fst {α : Type} [DecidableEq α] : ∀ (xs : List α) (p : List α × Nat), (xs.foldl cnF p).1 = xs.reverse ++ p.1
  | [], p => rfl
  | x :: xs, p => by
    rw [List.foldl_cons, cnF_fst xs]
    simp [cnF]
theorem cntF_snoc {α : Type} [DecidableEq α] (xs : List α) (x : α) : cntF (xs ++ [x]) = if x ∈ xs then cntF xs else cntF xs + 1 := by
  unfold cntF
  rw [List.foldl_append]
  show (if x ∈ (xs.foldl cnF ([], 0)).1 then _ else _) = _
  rw [cnF_fst, List.append_nil]
  simp only [List.mem_reverse]
theorem cntF_le {α : Type} [DecidableEq α] (xs : List α) : ∀ i, cntF (xs.take i) ≤ i
  | 0 => by rw [List.take_zero]; exact Nat.le_refl _
  | i + 1 => by
    have := cntF_le xs i
    rw [List.take_add_one]
    cases xs[i]? with
    | none =>
      show cntF (xs.take i ++ []) ≤ _
      rw [List.append_nil]
      omega
    | some x =>
      show cntF (xs.take i ++ [x]) ≤ _
      rw [cntF_snoc]
      split <;> omega
abbrev setS (led : Bool) : Obj := { cls := .type "set", dict := none, data := .set #[] 0 (.fresh 0 0 led) }
section
variable {P : Program} {w : World} {A : Around} {E : Value → Shared → Prop} {s : Shared}
theorem set_update_txs {I : Addr} {fp wr : List Addr} {G : Array GenState → Array GenState → Prop} {n : Nat} {Pv : Nat → Value → Prop} {St : Nat → Shared → Prop} {R : Result → Shared → Prop}
    (W : WalksS P w A.in1 I fp wr G n Pv St) (D : Addr) (hSf : D ∉ fp) (ns : List Str) (hn : n = ns.length) (few : ns.length + 1 < scanBound) (val : ∀ i v, Pv i v → ∃ k t, ns[i]? = some k ∧ v = .str k t) :
    ∀ (k i : Nat) (s : Shared), n - i = k → i ≤ n → St i s → s.heap.SetOf (PySem.strKind P w) D (fun j => decide (j ∈ ns.take i)) (cntF (ns.take i)) →
      (∀ s', Moved (D :: wr) G s s' → s'.heap.SetOf (PySem.strKind P w) D (fun j => decide (j ∈ ns)) (cntF ns) → R (.ok (.ret .none)) s') →
      codeAny (model P w) A (.builtin "set.update.loop" ⟨[.ref D, .ref I], []⟩) R s := by
  have out : D ∉ wr := fun h => hSf (W.sub _ h)
  have more : ∀ b ∈ wr, b ∈ D :: wr := fun b hb => List.mem_cons_of_mem _ hb
  intro k
  induction k with
  | zero =>
    intro i s hk hi hst hS hR
    obtain rfl : i = n := by omega
    refine codeAny_builtin PyProof.Rows.F.entry_set_update_loop ?_
    rw [Around.under_plainId PyProof.Rows.F.plain_set_update_loop _]
    show wpAny _ A.in1 (pyNext (.ref I) >>= _) _ _ s
    refine wpAny_bind (W.done s _ _ hst fun s' hm => ?_)
    show wpAny _ A.in1 (ret Value.none) _ _ s'
    rw [List.take_of_length_le (by omega)] at hS
    refine wpAny_pure (hR s' (hm.mono more) ?_)
    obtain ⟨o, es, ep, tb, ho, rest⟩ := hS
    exact ⟨o, es, ep, tb, hm.heap D _ out ho, rest⟩
  | succ k ih =>
    intro i s hk hi hst hS hR
    have lt : i < n := by omega
    refine codeAny_builtin PyProof.Rows.F.entry_set_update_loop ?_
    rw [Around.under_plainId PyProof.Rows.F.plain_set_update_loop _]
    show wpAny _ A.in1 (pyNext (.ref I) >>= _) _ _ s
    refine wpAny_bind (W.item i s _ _ lt hst fun v s' hP hst' hm => ?_)
    obtain ⟨z, t, hz, rfl⟩ := val i v hP
    have hS' : s'.heap.SetOf (PySem.strKind P w) D (fun j => decide (j ∈ ns.take i)) (cntF (ns.take i)) := by
      obtain ⟨o, es, ep, tb, ho, rest⟩ := hS
      exact ⟨o, es, ep, tb, hm.heap D _ out ho, rest⟩
    have hle := cntF_le ns i
    show wpAny _ A.in1 (holding [Value.str z t] (setAdd D (.str z t)) >>= _) _ _ s'
    refine wpAny_bind (wpAny_holding ?_)
    unfold setAdd
    refine wpAny_holding ?_
    refine wpAny_bind ((PySem.strKind P w).pyHash (k := z) (strKind_is _ _ _ _) ?_)
    refine wpAny_setAddHashed_of (knd := PySem.strKind P w) (s := { s' with toks := s'.toks + 1 }) (strKind_is _ _ _ _) rfl hS' (by omega) fun h' sb hS2 => ?_
    have et : ns.take (i + 1) = ns.take i ++ [z] := by rw [List.take_add_one, hz]; rfl
    have hS3 : h'.SetOf (PySem.strKind P w) D (fun j => decide (j ∈ ns.take (i + 1))) (cntF (ns.take (i + 1))) := by
      refine PyProof.Rows.SetOf_congr hS2 (fun j => ?_) ?_
      · rw [et]
        simp [List.mem_append]
      · rw [et, cntF_snoc]
        by_cases hm : z ∈ ns.take i
        · rw [if_pos hm, if_pos (decide_eq_true hm)]
        · rw [if_neg hm, if_neg (by simp [hm])]
    refine wpAny_pure ⟨plainId_quiet PyProof.Rows.F.plain_set_update_loop _, ih (i + 1) _ (by omega) lt (W.frame _ s' _ _ hst' (Nat.le_succ _) fun b hb o e => ?_) hS3 fun s'' hm'' hS'' => ?_⟩
    · rw [sb.2 b (fun h : b = D => hSf (by rw [← h]; exact hb))]; exact e
    · refine hR s'' (Moved.trans W.gtrans ((hm.mono more).then_heap (Nat.le_succ _) fun b o hb e => ?_) hm'') hS''
      rw [sb.2 b (fun h : b = D => hb (by rw [h]; exact List.mem_cons_self))]; exact e
theorem s_initX {l : Addr} {items : Array Value} (ns : List Str) {Q : Value → Shared → Prop} (hh : A.handled = none) (hl : s.heap.IsTuple l items) (hit : PyProof.Rows.StrsAre items.toList ns) (few : ns.length + 1 < scanBound)
    (q : ∀ (h' : Heap) (tk : Nat), h'.SetOf (PySem.strKind P w) s.heap.objs.size (fun j => decide (j ∈ ns)) (cntF ns) → (∀ b o, s.heap.get? b = some o → h'.get? b = some o) → Q (.ref s.heap.objs.size) { s with heap := h', toks := tk }) :
    wpAny (model P w) A (call (.type "set") [.ref l]) Q E s := by
  have isz : items.size = ns.length := by rw [← Array.length_toList, PyProof.Rows.StrsAre.len_eq hit]
  have C := PySem.F.called_set
  obtain ⟨c, tl, hmro⟩ := C.mro
  have hmade := C.made
  have hsub := C.sub
  refine wpAny_call (codeAny_of_tree ?_)
  show wpAny _ _ (callAny (.type "set") _) _ _ _
  refine wpAny_pure ⟨Code.quiet_builtin _ (by decide +kernel), codeAny_builtin F.entry_type_call ?_⟩
  rw [Around.under_plain (weight_type_call_type "set" [.ref l] []) rfl]
  have h1 := C.notType
  have h2 := C.canCreate
  have hct := F.typeCall_set_1 (.ref l)
  repeat (any_goals (first | assumption | wp_step))
  refine codeAny_mono (PySem.code_set_new_1 (.ref l) (E := E) (Q₁ := fun obj s₁ => ∃ led : Bool, obj = .ref s.heap.objs.size ∧ s₁ = { s with heap := s.heap.push { cls := .type "set", dict := none, data := .set #[] 0 (.fresh 0 0 led) } }) fun led => ⟨led, rfl, rfl⟩) fun r s₁ hr => ?_
  match r, hr with
  | .error e, hr => exact hr
  | .ok .next, hr => exact hr.elim
  | .ok .brk, hr => exact hr.elim
  | .ok .cont, hr => exact hr.elim
  | .ok (.ret _), hr =>
    obtain ⟨led, rfl, rfl⟩ := hr
    have at0 : (s.heap.push (setS led)).get? s.heap.objs.size = some (setS led) := Heap.get?_push_size _ rfl
    have hT : Shared.TypeIs { s with heap := s.heap.push (setS led) } (.ref s.heap.objs.size) "set" := ⟨_, at0, rfl⟩
    have hli := C.init.lookup
    have hbi := C.init.bind (.ref s.heap.objs.size)
    repeat (any_goals (first | assumption | wp_step))
    refine codeAny_mono (codeAny_call_builtin (R := wants (fun r s₂ => r = .none ∧ ∃ h' tk, s₂ = { s with heap := h', toks := tk } ∧ h'.SetOf (PySem.strKind P w) s.heap.objs.size (fun j => decide (j ∈ ns)) (cntF ns) ∧
        (∀ b o, s.heap.get? b = some o → h'.get? b = some o)) E) C.init.plain F.entry_set_init (check_set_init_1 hT ?_)) fun r₂ s₂ hr₂ => ?_
    · have hl' := hl
      obtain ⟨⟨ocls, odict, odata, oslots⟩, hol, hcl, nl, hdl⟩ := hl'
      simp only at hcl hdl
      subst hcl hdl
      have hol' : (s.heap.push (setS led)).get? l = some { cls := .type "tuple", dict := odict, data := .seq items nl, slots := oslots } := Heap.get?_push_of_some _ hol
      have sub1 := PySem.F.sub_tuple_set
      have sub2 := PySem.F.sub_tuple_frozenset
      have ne : (Value.type "tuple" == Value.type "dict") = false := by decide
      have hl1 : (s.heap.push (setS led)).IsTuple l items := ⟨_, hol', rfl, nl, rfl⟩
      have lt : l < s.heap.objs.size := Heap.lt_size hol
      unfold Builtin.«set.__init__» noKeywords Builtin.Frozenset.updateFrom
      generalize hPI : pyIter = PI
      wp_walk
      subst hPI
      refine wpAny_pyIter_tuple (s := { s with heap := s.heap.push (setS led) }) hl1 ?_
      refine wpAny_bind (wpAny_runValue ?_)
      have hh3 : A.in1.in1.in1.handled = none := by simp [hh]
      have ps : (s.heap.push (setS led)).objs.size = s.heap.objs.size + 1 := Heap.size_push ..
      have lI : l ≠ (s.heap.push (setS led)).objs.size := by rw [ps]; exact Nat.ne_of_lt (Nat.lt_succ_of_lt lt)
      have out : s.heap.objs.size ∉ [(s.heap.push (setS led)).objs.size, l] := by
        rw [ps]
        simp only [List.mem_cons, List.mem_singleton, List.not_mem_nil, or_false, not_or]
        exact ⟨Nat.ne_of_lt (Nat.lt_succ_self _), Nat.ne_of_gt lt⟩
      have val : ∀ (i : Nat) (v : Value), items[i]? = some v → ∃ z t, ns[i]? = some z ∧ v = .str z t := fun i v hv => by
        have lt : i < ns.length := isz ▸ (Array.getElem?_eq_some_iff.mp hv).1
        obtain ⟨t, e⟩ := SS.strs_at hit i v (by rw [Array.getElem?_toList]; exact hv)
        exact ⟨_, t, List.getElem?_eq_getElem lt, by rw [e, List.getD_eq_getElem?_getD, List.getElem?_eq_getElem lt]; rfl⟩
      refine set_update_txs ((Walks.tuple hh3 _ l lI items).toS) s.heap.objs.size out ns isz few val
        (items.size - 0) 0 _ (by omega) (Nat.zero_le _) ⟨⟨_, Heap.get?_push_size _ rfl, rfl, rfl⟩, (hl1.push _)⟩ ?start ?fin
      case start =>
        have hget : ((s.heap.push (setS led)).push { cls := .type "tuple_iterator", data := .fields #[.ref l, .int 0 0] }).get? s.heap.objs.size = some (setS led) := Heap.get?_push_of_some _ at0
        exact PyProof.Rows.SetOf_congr ((PyProof.Rows.setObjOf_fresh (knd := PySem.strKind P w) led).setOf hget (by unfold scanBound; omega)) (fun _ => rfl) rfl
      case fin =>
        intro s' hm hS'
        obtain ⟨h', g2, d', tk', os'⟩ := s'
        obtain rfl : g2 = s.gens := hm.gens
        obtain rfl : d' = s.drawn := hm.drawn
        obtain rfl : os' = s.os := hm.os
        refine wpAny_pure (wpAny_pure ⟨rfl, h', tk', rfl, hS', fun b o e => ?_⟩)
        have b0 : b < s.heap.objs.size := Heap.lt_size e
        refine hm.heap b o (fun hb => ?_) (Heap.get?_push_of_some _ (Heap.get?_push_of_some _ e))
        rcases List.mem_cons.mp hb with z | z
        · exact absurd z (Nat.ne_of_lt b0)
        · exact absurd ((List.mem_singleton.mp z).trans ps) (Nat.ne_of_lt (Nat.lt_succ_of_lt b0))
    · match r₂, hr₂ with
      | .error e, hr => exact hr
      | .ok .next, hr => exact hr.elim
      | .ok .brk, hr => exact hr.elim
      | .ok .cont, hr => exact hr.elim
      | .ok (.ret _), hr =>
        obtain ⟨rfl, h', tk, rfl, R, kp⟩ := hr
        repeat (any_goals (first | assumption | wp_step))
        exact q _ _ R kp
end
def tLenSetX (K : PySem.W.Frag) (ta : TE) : TE := fun σ H Q => ta σ H fun x H1 => ∃ (l : Addr) (ns : List Str), x = .ref l ∧ SqT K H1 l (ns.map V.str) ∧ ns.length < 64 ∧ Q (.int (cntF ns : Nat)) H1
theorem pe_lenSetX {X : L2.Cx} {a : Expr} {ta : TE} {p p2 q pos : Pos} (hg : Gl X "len") (hm : X.mg "len" = none) (hg2 : Gl X "set") (hm2 : X.mg "set" = none) (ha : PE X a ta) (hc : X.calm = true := by rfl)
    (na : starEach [a] X.env = (false, eval a X.env) :: starEach [] X.env := by rfl) : PE X (.Call (.Name "len" p) [.Call (.Name "set" p2) [a] [] q] [] pos) (tLenSetX X.K ta) := by
  refine ⟨fun pins s σ H Q I h => ?_⟩
  refine Call_ (ld_blt I hg hm boot_len ?_)
  refine PyProof.Rows.callWith_builtin1 (PyProof.Rows.args_cons ?_ rfl) rfl rfl
  refine Call_ (ld_blt I hg2 hm2 PyProof.Rows.boot_set ?_)
  refine PyProof.Rows.callWith_type1 (PyProof.Rows.args_cons (thn (ha.run pins s σ H _ I h) fun v s1 ⟨x, H1, I1, r1, q1⟩ => PyProof.Rows.args_nil ?_) na) na rfl
  obtain ⟨l, ns, rfl, hq, few, q1⟩ := q1
  cases r1
  obtain ⟨its, r, pl, hz⟩ := I1.tuple hq
  refine s_initX ns (I1.ok.hd hc) pl (by simpa using strs_are r) (by unfold scanBound; omega) fun h' tk hS kp => ?_
  refine PyProof.Rows.args_nil ?_
  have I2 : Inv X pins σ H1 { s1 with heap := h', toks := tk } := I1.kept kp
  obtain ⟨o, es, ep, t, ho, hex, hd, _, _, hb, hf, hn⟩ := hS
  have hle := cntF_le ns ns.length
  rw [List.take_length] at hle
  exact call_len_set ho hex hd hf (by rw [hn] <;> omega) ⟨.int (cntF ns : Nat), H1, I2.tok _, ⟨_, by rw [hn]⟩, q1⟩
theorem cntF_map {xs : List (List Nat)} : cntF (xs.map S) = cntF xs := by
  have step : ∀ (ys : List (List Nat)) (p : List (List Nat) × Nat), ((ys.map S).foldl cnF (p.1.map S, p.2)) = (((ys.foldl cnF p).1).map S, (ys.foldl cnF p).2) := by
    intro ys
    induction ys with
    | nil => intro p; rfl
    | cons y ys ih =>
      intro p
      rw [List.map_cons, List.foldl_cons, List.foldl_cons]
      have e : cnF (p.1.map S, p.2) (S y) = ((cnF p y).1.map S, (cnF p y).2) := by
        unfold cnF
        have hm : S y ∈ p.1.map S ↔ y ∈ p.1 := by
          constructor
          · intro h
            obtain ⟨z, hz, ez⟩ := List.mem_map.mp h
            rw [← S_inj ez]
            exact hz
          · exact List.mem_map_of_mem
        by_cases h : y ∈ p.1
        · rw [if_pos h, if_pos (hm.mpr h)]
          rfl
        · rw [if_neg h, if_neg fun z => h (hm.mp z)]
          rfl
      rw [e, ih]
  unfold cntF
  have := step xs ([], 0)
  rw [show (([] : List (List Nat)).map S) = [] from rfl] at this
  rw [this]
def oCntX (xs : List (List Nat)) : Option Int := if xs.length < 64 then some (cntF xs : Int) else none
section
variable {nx bk ct : L2.St → Hp → Prop} {rt : VK}
variable {W : Wd} {G : Gam} {T : Tms} {cs : Cells} {K : Sl → Cells → Prop} {t : TA} {to ta tb : TE} {KF : PySem.W.Frag}
theorem e_lenSetX (ha : Ev ta W G T cs fun sa cs1 => ∃ xs z, sa = (rTup rTx).at xs ∧ oCntX xs = some z ∧ K (rInt.at z) cs1) : Ev (tLenSetX KF ta) W G T cs K := fun s H st Q q => by
  refine ha s H st _ fun sa cs1 ⟨xs, z, e, ho, k⟩ va H1 ⟨F, c, sg, tm⟩ => ?_
  subst e
  obtain ⟨hz, a, us, rfl, hF, hA⟩ := tm.head
  have e6 := txs_of hA
  subst e6
  obtain ⟨few, e⟩ := of_ite ho
  subst e
  refine ⟨a, xs.map S, rfl, SqT.of (c.fh _ _ hF), by rw [List.length_map]; exact few, ?_⟩
  rw [cntF_map]
  exact q _ _ k _ H1 ⟨F, c, sg, tm.tail.cons rfl⟩
end
/-! ### what can be sorted -/
structure RDp {α : Type} (r : R α) where
  d : α → PyData
  ok : ∀ {K : PySem.W.Frag} {F H : Hp} {a : α} {v : V}, r.p a F v → Same F H → Dp K H v (d a)
  n : Nat
  dep : ∀ a, (d a).depth ≤ n
def REq.dp {α : Type} [DecidableEq α] {r : R α} (e : REq r) : RDp r := ⟨e.d, fun h s => e.ok h s, e.n, e.dep⟩
def dTx : RDp rTx where
  d := fun a => .str (S a)
  ok := fun {K F H a v} h _ => by have e : v = .str (S a) := h; subst e; exact Dp.str _
  n := 1
  dep := fun a => by simp [PyData.depth]
def dPair {α β : Type} {r : R α} {q : R β} (e : RDp r) (f : RDp q) : RDp (rPair r q) where
  d := fun x => .tuple [e.d x.1, f.d x.2]
  ok := fun {K F H a v} h s => by
    obtain ⟨p, u, w, rfl, h2, h3, h4⟩ := h
    exact Dp.tup (SqT.of (s _ _ h2)) (.cons (e.ok h3 s) (.cons (f.ok h4 s) .nil))
  n := max e.n f.n + 1
  dep := fun x => by
    have h1 := e.dep x.1
    have h2 := f.dep x.2
    simp only [PyData.depth, PyData.depthAll]
    omega
section
variable {W : Wd} {G : Gam} {T : Tms} {cs : Cells} {K : Sl → Cells → Prop} {t : TA} {ta tb : TE} {KF : PySem.W.Frag}
end
/-! ### a list in a cell, == [] -/
def rEqL0 : R2 := fun x y H Q => ∃ (a b : Addr) (xs : List V), x = .ref a ∧ y = .ref b ∧ H a = some (.lst xs) ∧ H b = some (.lst []) ∧ Q (.bl xs.isEmpty) H
def rNeL0 : R2 := fun x y H Q => ∃ (a b : Addr) (xs : List V), x = .ref a ∧ y = .ref b ∧ H a = some (.lst xs) ∧ H b = some (.lst []) ∧ Q (.bl (!xs.isEmpty)) H
end ML

/-! ## properties, methods of the class, its constants; an instance that changes before it stands still -/
namespace ML
open PySem PySem.Spec PyProof.Rows L2 StX ClX
section
variable {X : L2.Cx} {CX : CXT} {k : Nat} {C p g f a dx : Addr} {mc : Value} {fs : List (Str × V)} {n m x : Str} {fd : FuncData} {ps ks : List Str} {π : List Nat} {sp : Sp} {dvs : List V} {ds : List Value} {E : XK} {e o fe : Expr} {es : List Expr} {kws : List Keyword} {pos apos q : Pos} {ta tf : TE} {t : TA} {pl : Sem Bool}
theorem pe_propG (he : PE X e ta) (c : Cls X.K C) (hp : PropOf X.K C n p g) (F : FnG X.prog X.w X.K X.mg X.base CX k g fd ps sp) (hr : RoomG (k + 1) X.A) (hb : Binds X.K fd ps []) (hx : Passes CX X.nox E)
    (hab : attributeBase e n X.env (eval e X.env) = eval e X.env := by rfl) : PE X (.Attribute e n pos) (tProp C sp [] E ta) := by
  refine ⟨fun pins s σ H Q I h => ?_⟩
  refine attr_of hab (thn (he.run pins s σ H _ I h) fun u s1 ⟨x, H1, I1, rx, a, dx, fs, ex, ea, q⟩ => ?_)
  subst ex
  obtain rfl : u = Value.ref a := rx
  obtain ⟨mA, O, _, _, _, _⟩ := ins_get I1.hok ea
  obtain ⟨od, J, _⟩ := O.look
  obtain ⟨rest, hrec⟩ := hp.rec_
  have I2 := I1.tok (s1.toks + 1)
  have hl : ([Value.ref a] ++ []).length = ps.length := by
    rw [← F.len _ _ _ _ q]
    rfl
  have hc : (PySem.W.clsIn X.K C).isSome = true := by
    obtain ⟨cd, hc, _⟩ := PySem.W.any_some c.hd
    rw [hc]
    rfl
  refine PySem.W.get_bind I1.kIn J (PySem.W.plainGet_of (c.get n)).1 (PySem.W.findObj_data hc hp.at_ hp.get hp.tak) (PySem.W.plainGet_of (c.get n)).2 (wpAny_call (PySem.W.prop_get (s := { s1 with toks := s1.toks + 1 }) I1.kIn hrec ?_))
  refine codeAny_mono (F.go X.A.in1 X.stack { s1 with toks := s1.toks + 1 } H1 ⟨[.ref a], []⟩ ([Value.ref a] ++ []) [V.ref a] Q E hr.in1 I2.env0.in1 (hb _ [Value.ref a] I2.kIn hl) (show Vals [V.ref a] [Value.ref a] from .cons rfl .nil) q) fun r s' hq => ?_
  cases r with
  | error er => exact False.elim (hx pins σ H1 { s1 with toks := s1.toks + 1 } er s' (I2.wish _) hq)
  | ok fl =>
    cases fl with
    | ret u =>
      obtain ⟨v, H', I3, rv, q3⟩ := I2.after hq
      show wpAny _ _ (handedOut u) _ _ _
      rw [PySem.W.handedOut_of (handed_of rv)]
      exact wpAny_pure ⟨v, H', I3, rv, q3⟩
    | next => exact False.elim hq
    | brk => exact False.elim hq
    | cont => exact False.elim hq
/-! ### C.m(..), m a classmethod -/
theorem run_cmG {pins : List (Addr × Obj)} {σ : L2.St} {H : Hp} {s : Shared} {q : Addr} {Q : VK} {us us' : List Value} {kw : List (Str × Value)} {vs : List V} (F : FnG X.prog X.w X.K X.mg X.base CX k g fd ps sp) (hr : RoomG k X.A) (hx : Passes CX X E)
    (I : Inv X ((q, PySem.W.methodObj (.ref g) (.ref C)) :: pins) σ H s) (hbd : BindsTo s fd ⟨.ref C :: us, kw⟩ (ps.zip us')) (r : Vals (.ref C :: vs) us') (h : sp (.ref C :: vs) H Q E) :
    wpAny (model X.prog X.w) X.A (call (.ref q) us kw) (EP X pins σ Q) X.xe s := by
  have run := F.go X.A X.stack s H ⟨.ref C :: us, kw⟩ us' _ Q E hr I.env0 hbd r h
  refine wpAny_call (PySem.W.method_call (pin_at I) (codeAny_mono run fun r s' hq => ?_))
  match r, hq with
  | .error e, hq => exact hx pins σ H s e s' (unpin I) hq
  | .ok (.ret u), hq => exact (unpin I).after hq
  | .ok .next, hq => exact False.elim hq
  | .ok .brk, hq => exact False.elim hq
  | .ok .cont, hq => exact False.elim hq
theorem pe_cmethG (he : PE X o ta) (r : CRead X.K C mc) (c : CMet X.K C mc m p g) (F : FnG X.prog X.w X.K X.mg X.base CX k g fd ps sp) (hr : RoomG k X.A) (hb : Binds X.K fd ps []) (hx : Passes CX X E) (ha : PA X (e :: es) t)
    (hst : starEach (e :: es) X.env = (false, eval e X.env) :: starEach es X.env := by rfl) (hpl : (backTo pos (starEach es X.env)).any (·.1) = false := by rfl)
    (ht : eval (.Call (.Attribute o m apos) (e :: es) [] pos) X.env = (do
      let ov ← eval o X.env
      standAt apos.atName
      let (f, first) ← holding [ov] (getMethod ov m pl)
      callWith pos f first (backTo pos (starEach (e :: es) X.env)) (backToKw pos (keywordEach [] X.env))) := by rfl) :
    PE X (.Call (.Attribute o m apos) (e :: es) [] pos) (tCMeth C sp E ta t) := by
  refine ⟨fun pins s σ H Q I h => ?_⟩
  refine PySem.W.methodCall_KW (pl := pl) (thn (he.run pins s σ H _ I h) fun u s1 ⟨x, H1, I1, rx, ex, q⟩ => ?_) ht
  subst ex
  obtain rfl : u = Value.ref C := rx
  refine getmethcm_ok I1 r c fun s2 I2 => ?_
  refine callwith_cm I2 (base_none I1 (Nat.le_refl _)) c.fi (thn (ha.run pos _ s2 σ H1 _ I2 q) fun us s3 ⟨vs, H2, I3, rv, q2⟩ => ⟨⟨pin_at I3, I3.kIn⟩, ?_⟩) hst hpl
  have rv2 : Vals (V.ref C :: vs) (Value.ref C :: us ++ []) := by
    rw [List.append_nil]
    exact .cons rfl rv
  exact run_cmG (us' := Value.ref C :: us ++ []) F hr hx I3 (hb _ (.ref C :: us) I3.kIn (rv2.length.symm.trans (F.len _ _ _ _ q2))) rv2 q2
theorem callwith_cmN {pins : List (Addr × Obj)} {σ : L2.St} {H : Hp} {s : Shared} {q : Addr} {Q : Value → Shared → Prop} {E : Value → Shared → Prop} {A : Around} (I : Inv X ((q, PySem.W.methodObj (.ref g) (.ref C)) :: pins) σ H s) (hf : PySem.W.fnIn X.K g = true)
    (hall : (backToKw pos (keywordEach kws X.env)).all (·.1.isSome) = true)
    (h : wpAny (model X.prog X.w) A (evalAll ((backToKw pos (keywordEach kws X.env)).map (·.2))) (fun us s₁ => PySem.W.MethP X.K q g (.ref C) s₁.heap ∧ wpAny (model X.prog X.w) A (call (.ref q) [] (((backToKw pos (keywordEach kws X.env)).filterMap (·.1)).zip us)) Q E s₁) E s)
    (hpl : ((backTo pos (starEach [] X.env)).any (·.1) || (backToKw pos (keywordEach kws X.env)).any (·.1.isNone)) = false) :
    wpAny (model X.prog X.w) A (callWith pos (.ref q) [] (backTo pos (starEach [] X.env)) (backToKw pos (keywordEach kws X.env))) Q E s :=
  PySem.W.callWith_of hpl (PySem.W.keeps_M hf) (evalArgs_kw2_nil hall h)
/-- .. by names alone -/
theorem pe_cmethGN (he : PE X o ta) (r : CRead X.K C mc) (c : CMet X.K C mc m p g) (F : FnG X.prog X.w X.K X.mg X.base CX k g fd ps sp) (hr : RoomG k X.A) (hb : OwnNames X.K fd ps ks π) (hx : Passes CX X E) (hkw : PK X kws t)
    (hall : (backToKw pos (keywordEach kws X.env)).all (·.1.isSome) = true := by rfl) (hks : (backToKw pos (keywordEach kws X.env)).filterMap (·.1) = ks := by rfl)
    (hpl : ((backTo pos (starEach [] X.env)).any (·.1) || (backToKw pos (keywordEach kws X.env)).any (·.1.isNone)) = false := by rfl)
    (ht : eval (.Call (.Attribute o m apos) [] kws pos) X.env = (do
      let ov ← eval o X.env
      standAt apos.atName
      let (f, first) ← holding [ov] (getMethod ov m pl)
      callWith pos f first (backTo pos (starEach [] X.env)) (backToKw pos (keywordEach kws X.env))) := by rfl) :
    PE X (.Call (.Attribute o m apos) [] kws pos) (tCMeth C sp E ta (tNames π ks.length t)) := by
  refine ⟨fun pins s σ H Q I h => ?_⟩
  refine PySem.W.methodCall_KW (pl := pl) (thn (he.run pins s σ H _ I h) fun u s1 ⟨x, H1, I1, rx, ex, q⟩ => ?_) ht
  subst ex
  obtain rfl : u = Value.ref C := rx
  refine getmethcm_ok I1 r c fun s2 I2 => ?_
  refine callwith_cmN I2 c.fi hall (thn (hkw.run pos _ s2 σ H1 _ I2 q) fun us s3 ⟨vs, H2, I3, rv, en, q2⟩ => ⟨⟨pin_at I3, I3.kIn⟩, ?_⟩) hpl
  rw [hks]
  exact run_cmG (us := []) (kw := ks.zip us) F hr hx I3 (hb _ (.ref C) us (rv.length.symm.trans en)) (.cons rfl (perm_rel rv)) q2
/-! ### f(e, ..), f a local that holds the class -/
def tMakeL (C : Addr) (sp : Sp) (dvs : List V) (E : XK) (tf : TE) (t : TA) : TE := fun σ H Q => tf σ H fun y H1 => y = .ref C ∧ tMake C sp dvs E t σ H1 Q
theorem pe_makeL (hf : PE X fe tf) (M : Mk X.K C f) (F : FnG X.prog X.w X.K X.mg X.base CX k f fd ps sp) (hr : RoomG (k + 1) X.A) (hb : Binds X.K fd ps ds) (hd : Vals dvs ds) (hx : Passes CX X E)
    (ha : PA X (e :: es) t) (h1 : eval (.Call fe (e :: es) [] pos) X.env = (do callWith pos (← eval fe X.env) [] (backTo pos (starEach (e :: es) X.env)) (backToKw pos (keywordEach [] X.env))) := by rfl)
    (h2 : starEach (e :: es) X.env = (false, eval e X.env) :: starEach es X.env := by rfl) (h3 : (backTo pos (starEach es X.env)).any (·.1) = false := by rfl) : PE X (.Call fe (e :: es) [] pos) (tMakeL C sp dvs E tf t) := by
  refine ⟨fun pins s σ H Q I h => ?_⟩
  refine Call_ (thn (hf.run pins s σ H _ I h) fun u s1 ⟨y, H1, I1, ry, ey, q⟩ => ?_) h1
  subst ey
  cases ry
  exact PySem.W.callWith_K (h₀ := X.base) I.ok.mod.kin M.kp (thn (ha.run pos pins s1 σ H1 _ I1 q) fun us s2 ⟨vs, H2, I2, r, q2⟩ => ⟨I2.kIn, run_makeG M F hr hb hd hx I2 r q2⟩) h2 h3
end
section
variable {W : Wd} {G : Gam} {T : Tms} {cs : Cells} {K : Sl → Cells → Prop} {t : TA} {ta te tf : TE} {KF : PySem.W.Frag}
/-- o.f, f a property, o a cell -/
theorem e_propC {ι β : Type} {C : Addr} {A : ι → List Sl} {ci : ι → Cells} {m : ι → Option β} {res : ι → β → Sl} {co : ι → β → Cells} {E : XK} (j : Nat)
    (ha : Ev ta W G T cs fun sa cs1 => ∃ p l, sa = sRef p ∧ cs1[j]? = some (p, cObj C l) ∧ ∃ (i : ι) (b : β) (rest : Cells), m i = some b ∧ [sa] = A i ∧ cs1.Perm (ci i ++ rest) ∧ K (res i b) (co i b ++ rest)) :
    Ev (tProp C (spM A ci m res co) [] E ta) W G T cs K := fun s H st Q q => by
  refine ha s H st _ fun sa cs1 ⟨p, l, e, hj, i, b, rest, hm, e1, e2, k⟩ va H1 ⟨F, c, sg, tm⟩ => ?_
  subst e
  have ev : va = .ref p := tm.head
  subst ev
  obtain ⟨dx, fs, hF, hf⟩ := c.obj hj
  exact ⟨p, dx, fs, rfl, hF, call_gives hm (c.perm e2) sg tm.tail (e1 ▸ .cons rfl .nil) fun v H3 st3 => q _ _ k v H3 st3⟩
/-- .. o stands still -/
theorem e_propF {ι β α : Type} {C : Addr} {fl : α → List (Str × Sl)} {A : ι → List Sl} {ci : ι → Cells} {m : ι → Option β} {res : ι → β → Sl} {co : ι → β → Cells} {E : XK}
    (ha : Ev ta W G T cs fun sa cs1 => ∃ x, sa = (rRec C fl).at x ∧ ∃ (i : ι) (b : β) (rest : Cells), m i = some b ∧ [sa] = A i ∧ cs1 = ci i ++ rest ∧ K (res i b) (co i b ++ rest)) :
    Ev (tProp C (spM A ci m res co) [] E ta) W G T cs K := fun s H st Q q => by
  refine ha s H st _ fun sa cs1 ⟨x, e, i, b, rest, hm, e1, e2, k⟩ va H1 ⟨F, c, sg, tm⟩ => ?_
  subst e2
  have hv := tm.head
  have hv0 := hv
  rw [e] at hv0
  obtain ⟨p, dx, fs, ev, hF, hf⟩ := hv0
  exact ⟨p, dx, fs, ev, c.fh _ _ hF, ev ▸ call_gives hm c sg tm.tail (e1 ▸ .cons hv .nil) fun v H3 st3 => q _ _ k v H3 st3⟩
/-- C.m(..) -/
theorem e_cmeth {ι β : Type} {C : Addr} {A : ι → List Sl} {ci : ι → Cells} {m : ι → Option β} {res : ι → β → Sl} {co : ι → β → Cells} {E : XK}
    (ha : Ev ta W G T cs fun sa cs1 => sa = sCls (.ref C) ∧ ∀ va, EvA t W G ((va, sa) :: T) cs1 fun sls cs2 => ∃ (i : ι) (b : β) (rest : Cells), m i = some b ∧ sCls (.ref C) :: sls = A i ∧ cs2 = ci i ++ rest ∧ K (res i b) (co i b ++ rest)) :
    Ev (tCMeth C (spM A ci m res co) E ta t) W G T cs K := fun s H st Q q => by
  refine ha s H st _ fun sa cs1 ⟨e, h1⟩ va H1 st1 => ?_
  subst e
  have ev : va = .ref C := let ⟨F, c, sg, tm⟩ := st1; tm.head
  subst ev
  refine ⟨rfl, h1 _ s H1 st1 _ fun sls cs2 ⟨i, b, rest, hm, e1, e2, k⟩ vs H2 ⟨F, c, sg, tm, ar⟩ => ?_⟩
  subst e2
  exact call_gives hm c sg tm.tail (e1 ▸ .cons rfl ar) fun v H3 st3 => q _ _ k v H3 st3
/-- C.f, f a constant -/
theorem e_cvalI {C : Addr} {mc u : Value} {f : Str} {n : Int} (r : CRead KF C mc) (kv : CVal KF C mc f (.int n) u) (ha : Ev ta W G T cs fun sa cs1 => sa = sCls (.ref C) ∧ K (rInt.at n) cs1) : Ev (tCVal KF ta f) W G T cs K := fun s H st Q q => by
  refine ha s H st _ fun sa cs1 ⟨e, k⟩ va H1 ⟨F, c, sg, tm⟩ => ?_
  subst e
  exact ⟨C, mc, _, u, tm.head, r, kv, q _ _ k _ H1 ⟨F, c, sg, tm.tail.cons rfl⟩⟩
theorem e_makeL {C : Addr} {sp : Sp} {dvs : List V} {E : XK} (ha : Ev tf W G T cs fun sa cs1 => sa = sCls (.ref C) ∧ Ev (tMake C sp dvs E t) W G T cs1 K) : Ev (tMakeL C sp dvs E tf t) W G T cs K := fun s H st Q q => by
  refine ha s H st _ fun sa cs1 ⟨e, h1⟩ va H1 ⟨F, c, sg, tm⟩ => ?_
  subst e
  exact ⟨tm.head, h1 s H1 ⟨F, c, sg, tm.tail⟩ _ q⟩
/-- C(..): the new instance is a cell still -/
theorem e_makeK {ι β : Type} {C : Addr} {fl : β → List (Str × Sl)} {A : Addr → ι → List Sl} {m : ι → Option β} {E : XK}
    (h : EvA t W G T cs fun sls cs1 => ∃ (i : ι) (b : β), m i = some b ∧ (∀ p, sRef p :: sls = A p i) ∧ ∀ x, K (sRef x) ((x, cObj C (fl b)) :: cs1)) :
    Ev (tMake C (spM (ι := Addr × ι) (fun i => A i.1 i.2) (fun i => [(i.1, cObj C [])]) (fun i => m i.2) (fun _ _ => rNon.at ()) (fun i b => [(i.1, cObj C (fl b))])) [] E t) W G T cs K := fun s H st Q q => by
  refine h s H st _ fun sls cs1 ⟨i, b, hm, e1, k⟩ vs H1 ⟨F, c, sg, tm, ar⟩ => ?_
  intro x dx hx hdx hne
  rw [List.append_nil]
  have c1 := c.new (o := .own x) hdx
  have sF : Same F (upd F dx (.own x)) := same_upd (c.fh.free hdx)
  have hx1 : (upd H1 dx (.own x)) x = none := by rw [upd_ne (Ne.symm hne)]; exact hx
  have c2 := c1.newCell (c := cObj C []) hx1 ⟨dx, [], rfl, .nil⟩
  have c2' : Core W (upd F dx (.own x)) ([(x, cObj C [])] ++ cs1) (upd (upd H1 dx (.own x)) x (.ins C dx [])) := c2.perm List.perm_append_comm
  refine ⟨(x, i), b, Wd.sub (upd F dx (.own x)) _ [(x, cObj C [])], hm, c2'.sub, ?_, fun v H2 ⟨F2, c3, pv⟩ => ⟨pv, ?_⟩⟩
  · show Args (upd F dx (.own x)) (A x i) _
    rw [← e1 x]
    exact .cons rfl (ar.imp fun sl _ z => sl.mono sF z)
  · have sF2 : Same (upd F dx (.own x)) F2 := c3.f0
    exact q _ _ (k x) (.ref x) H2 ⟨F2, c2'.unsub c3, sg.mono (sF.trans sF2), (tm.mono (sF.trans sF2)).cons rfl⟩
/-- it stands still from here -/
theorem e_still {α : Type} {C : Addr} {fl : α → List (Str × Sl)} (j : Nat) (h : Ev te W G T cs fun sa cs1 => ∃ (p : Addr) (x : α), sa = sRef p ∧ cs1[j]? = some (p, cObj C (fl x)) ∧ K ((rRec C fl).at x) (cs1.eraseIdx j)) : Ev te W G T cs K := fun s H st Q q => by
  refine h s H st _ fun sa cs1 ⟨p, x, e, hj, k⟩ va H1 ⟨F, c, sg, tm⟩ => ?_
  subst e
  have ev : va = .ref p := tm.head
  subst ev
  obtain ⟨F', dx, fs, h1, h2, sF, c2⟩ := c.freezeO hj
  exact q _ _ k _ H1 ⟨F', c2, sg.mono sF, (tm.tail.mono sF).cons ⟨p, dx, fs, rfl, h1, h2⟩⟩
end
end ML

/-! ## list(o.m()), m a generator method that hands out nothing -/
namespace ML
open PySem PySem.Spec PyProof.Rows L2 GenW StX SX
/-! ### what stands in the lean part -/
theorem LeanS.tx {a : List Nat} : LeanS (rTx.at a) := fun _ _ h => h
theorem LeanS.lst {α : Type} {r : R α} (h : LeanR r) {xs : List α} : LeanS ((rLst r).at xs) := fun M v ⟨h0, a, vs, h1, h2, h3⟩ => ⟨h0, a, vs, h1, lean_lst h2, h3.imp fun x u q => h x M u q⟩
theorem LeanR.two {α β : Type} {r : R α} {q : R β} (hr : LeanR r) (hq : LeanR q) : LeanR (rPair r q) := fun x M v ⟨a, u, w, h1, h2, h3, h4⟩ => ⟨a, u, w, h1, lean_tup h2, hr _ M u h3, hq _ M w h4⟩
theorem LeanR.four {α β γ δ : Type} {r1 : R α} {r2 : R β} {r3 : R γ} {r4 : R δ} (h1 : LeanR r1) (h2 : LeanR r2) (h3 : LeanR r3) (h4 : LeanR r4) : LeanR (rFour r1 r2 r3 r4) := fun x M v ⟨a, v1, v2, v3, v4, e0, e1, p1, p2, p3, p4⟩ =>
  ⟨a, v1, v2, v3, v4, e0, lean_tup e1, h1 _ M _ p1, h2 _ M _ p2, h3 _ M _ p3, h4 _ M _ p4⟩
/-! ### a walk over nothing, in a generator -/
def empO {α β : Type} (xs : List α) : Option (List β) := match xs with
  | [] => some []
  | _ :: _ => none
theorem empO_ok {α β : Type} {xs : List α} {ys : List β} (h : empO xs = some ys) : xs = [] ∧ ys = [] := by
  cases xs with
  | nil => exact ⟨rfl, (Option.some.inj h).symm⟩
  | cons x xs => cases h
section
variable {W : Wd} {F Hc Hd G0 G1 : Hp} {cs : Cells}
/-- what is known outlasts the generator's run -/
theorem core_ran (c : Core W F cs Hc) (gr : Grown G0 Hc G1 Hd) : ∃ F', Core W F' cs Hd ∧ Same F F' := by
  obtain ⟨p, h1, h2, h3, h4⟩ := gr.ex
  have pH : ∀ {b x}, Hc b = some x → p b = true := fun e => h1 _ (by rw [e]; simp)
  refine ⟨F, ⟨c.f0, fun b x e => ?_, fun b x e => ?_, fun b x e => c.bf b x e, c.nd, fun y hy => ?_⟩, Same.refl _⟩
  · have e1 := c.fh b x e
    rw [h2 b (pH e1)]
    exact e1
  · have e1 := c.bh b x e
    rw [h2 b (pH e1)]
    exact e1
  · obtain ⟨q1, q2, o, q3, q4⟩ := c.cell y hy
    exact ⟨q1, q2, o, by rw [h2 _ (pH q3)]; exact q3, q4⟩
end
/-! ### the consumer -/
def tListGM {α : Type} (C : Addr) (m : Str) (sp : List V → Hp → List α → Prop) (ta : TE) : TE := fun σ H Q => ta σ H fun x H1 => ∃ (a dx : Addr) (fs : List (Str × V)), x = .ref a ∧ H1 a = some (.ins C dx fs) ∧ fs.lookup m = none ∧ sp [.ref a] (lean H1) [] ∧
  ∀ D, H1 D = none → (D == sysModules) = false → ∀ G' H', Grown (lean H1) (upd H1 D (.lst [])) G' H' → Q (.ref D) H'
section
variable {X : L2.Cx} {α : Type} {r : R α} {sp : List V → Hp → List α → Prop} {k : Nat} {f C : Addr} {fd : FuncData} {ps : List Str} {x m : Str} {p pos pos' apos : Pos} {o : Expr} {ta : TE}
theorem pe_listGM {pl : Sem Bool} (he : PE X o ta) (c : Cls X.K C) (hm : Meth X.K C m f) (FG : GenFn X.prog X.w X.K X.mg X.base k f fd ps r sp) (hr : RoomG (k + 4) X.A) (hc : X.calm = true) (hb : Binds X.K fd ps []) (hg : Gl X x) (hmg : X.mg x = none) (hv : bootBuiltins x = some (.type "list")) (hnm : x ≠ "__name__" := by decide)
    (hdb : (x == ("__debug__" : Str)) = false := by decide)
    (ht : eval (.Call (.Attribute o m apos) [] [] pos') X.env = (do
      let ov ← eval o X.env
      standAt apos.atName
      let (g, own) ← holding [ov] (getMethod ov m pl)
      callWith pos' g own (backTo pos' (starEach [] X.env)) (backToKw pos' (keywordEach [] X.env))) := by rfl)
    (hst : starEach [.Call (.Attribute o m apos) [] [] pos'] X.env = (false, eval (.Call (.Attribute o m apos) [] [] pos') X.env) :: starEach [] X.env := by rfl) :
    PE X (.Call (.Name x p) [.Call (.Attribute o m apos) [] [] pos'] [] pos) (tListGM C m sp ta) := by
  refine ⟨fun pins s σ H Q I h => ?_⟩
  obtain ⟨N, qual, scope, cd, bG, Sc, mk, gbody⟩ := FG.go
  refine wpAny_Call_Name_kw (ld_blt I hg hmg hv ?_ hnm hdb)
  refine PyProof.Rows.callWith_type1 ?_ hst rfl
  rw [hst]
  show wpAny _ _ (spliced ((false, eval (.Call (.Attribute o m apos) [] [] pos') X.env) :: backTo pos (starEach [] X.env))) _ _ s
  refine Calls.spliced_cons ?_
  refine PySem.W.methodCall_KW (pl := pl) (thn (he.run pins s σ H _ I h) fun u s1 ⟨x, H1, I1, rx, a, dx, fs, ex, ea, l, hsp, q⟩ => ?_) ht
  subst ex
  cases rx
  refine getmeth_ok I1 ea c hm l (PySem.W.callWith_K0 (first := [.ref a]) I1.kIn hm.kp ?_)
  have hl := FG.len _ _ _ hsp
  have hbt : BindsTo s1 fd ⟨[.ref a], []⟩ (ps.zip [Value.ref a]) := hb s1 [.ref a] I1.kIn hl
  refine wpAny_call (codeAny_mono (mk X.A X.stack s1 H1 ⟨[.ref a], []⟩ [.ref a] [.ref a] (hr.mono (by omega)) I1.env0 hbt (.cons rfl .nil) hl) fun res s2 hq => ?_)
  match res, hq with
  | .error e, hq => exact hq.elim
  | .ok .next, hq => exact False.elim hq
  | .ok .brk, hq => exact False.elim hq
  | .ok .cont, hq => exact False.elim hq
  | .ok (.ret u), hq =>
    obtain ⟨L, g, go, oL, gn, rfl, Mk⟩ := hq
    refine Calls.spliced_nil ?_
    have I2 : Inv X pins σ H1 s2 := I1.call' (ch := []) Mk.os (Un.kept Mk.keep) (I1.hok.kept Mk.keep) Mk.bare fun b z => by simp at z
    have young : ∀ b, s1.heap.objs.size ≤ b → H1 b = none ∧ b ≠ X.env.locals ∧ b ∉ X.fs ∧ ∀ q ∈ X.pn ++ pins, q.1 ≠ b := fun b hb => ⟨I1.hok.fresh hb, Nat.ne_of_gt (Nat.lt_of_lt_of_le I1.lt hb), I1.nofs hb, fun q hq z => by
      have := Heap.lt_size (I1.pin q hq).1
      rw [z] at this
      exact absurd (Nat.lt_of_lt_of_le this hb) (Nat.lt_irrefl _)⟩
    obtain ⟨gfs, gcls, gdat⟩ := Mk.flds
    have hago : s1.heap.objs.size ≤ g := Nat.le_of_lt (Nat.lt_of_le_of_lt Mk.low Mk.lt)
    have lL := Heap.lt_size Mk.fr
    have la := Heap.lt_size Mk.at'
    have gi := Mk.isg _ Mk.at'
    have free := I2.hok.fresh (Nat.le_refl s2.heap.objs.size)
    have far : (s2.heap.objs.size == sysModules) = false := beq_eq_false_iff_ne.mpr (Nat.ne_of_gt I2.big)
    have wish := q s2.heap.objs.size free far
    refine callType_codes (Q₁ := fun ob s3 => ob = .ref s2.heap.objs.size ∧ s3 = { s2 with heap := s2.heap.push { cls := .type "list", data := .seq #[] } }) F.called_list (F.typeCall_list_1 _) F.entry_list_init (code_list_new _ ⟨rfl, rfl⟩) fun ob s3 h3 => ?_
    obtain ⟨rfl, rfl⟩ := h3
    generalize hD : s2.heap.objs.size = D at free far wish la lL
    have atD : (s2.heap.push { cls := .type "list", data := .seq #[] }).get? D = some { cls := .type "list", data := .seq #[] } := by rw [← hD]; exact Heap.get?_push_size _ rfl
    refine ⟨⟨_, atD, rfl⟩, F.args_list_init_2 _ _, ?_⟩
    show wpAny _ X.A.in1.in1 (Builtin.List.listItems (.ref D) >>= fun was => Builtin.List.listUpdate (.ref D) (fun _ => #[]) >>= fun _ => letGo was.toList.reverse >>= fun _ => Builtin.List.listExtendWith (.ref D) (.ref g) .none) _ _ _
    refine wpAny_bind ?_
    unfold Builtin.List.listItems
    refine wpAny_bind (wpAny_seqItems atD rfl (wpAny_pure ?_))
    show wpAny _ X.A.in1.in1 (updateSeq D (fun _ => #[]) >>= fun _ => letGo (#[] : Array Value).toList.reverse >>= fun _ => Builtin.List.listExtendWith (.ref D) (.ref g) .none) _ _ _
    refine wpAny_bind (wpAny_updateSeq atD rfl ?_)
    have atD2 := Heap.get?_update_self (Obj.mapSeq (fun _ => (#[] : Array Value))) atD rfl
    refine wpAny_bind (wpAny_letGo ?_)
    unfold Builtin.List.listExtendWith
    have up : ∀ (hh : Heap) (fo : Obj → Obj), (∀ b ob, s2.heap.get? b = some ob → hh.get? b = some ob) → ∀ b ob, s2.heap.get? b = some ob → (hh.update D fo).get? b = some ob := fun hh fo z b ob e =>
      (Heap.get?_update_other _ _ (fun y => by rw [← y, ← hD] at e; exact absurd (Heap.lt_size e) (Nat.lt_irrefl _))).trans (z b ob e)
    have kp1 : ∀ b ob, s2.heap.get? b = some ob → (s2.heap.push { cls := .type "list", data := .seq #[] }).get? b = some ob := fun b ob e => Heap.get?_push_of_some _ e
    have kp2 := up _ (Obj.mapSeq (fun _ => (#[] : Array Value))) kp1
    have ge : ∀ {hh : Heap}, (∀ b ob, s2.heap.get? b = some ob → hh.get? b = some ob) → hh.IsGen g gn := fun {hh} z => Mk.isg hh (z _ _ Mk.at')
    refine wpAny_bind (wpAny_typeOf (Heap.IsGen.typeIs (s := { s2 with heap := _ }) (ge kp2)) ?_)
    have ne : D ≠ g := Nat.ne_of_gt la
    have n1 : Builtin.List.listSameRef (.ref D) (.ref g) = false := by simp [Builtin.List.listSameRef, ne]
    have n2 : (Value.type "generator" == Value.type "list") = false := by decide
    have n3 : (Value.type "generator" == Value.type "tuple") = false := by decide
    simp only [n1, n2, n3, Bool.or_false, Bool.false_eq_true, if_false]
    refine wpAny_bind (wpAny_pyIter_gen (s := { s2 with heap := _ }) (ge kp2) ?_)
    refine wpAny_bind (wpAny_holding ?_)
    unfold Builtin.List.listLengthHint
    refine wpAny_bind (wpAny_specialOf (Heap.IsGen.typeIs (s := { s2 with heap := _ }) (ge kp2)) F.gen_no_len ?_)
    show wpAny _ X.A.in1.in1 (specialOf (Value.ref g) (Str.ofString "__length_hint__") >>= _) _ _ _
    refine wpAny_bind (wpAny_specialOf (Heap.IsGen.typeIs (s := { s2 with heap := _ }) (ge kp2)) F.gen_no_hint ?_)
    refine wpAny_pure ?_
    show wpAny _ X.A.in1.in1 (rule "list.extend.makes-room" >>= fun _ => Builtin.List.listTouch (.ref D) >>= fun _ => again (.builtin "list.extend.loop" ⟨[.ref D, .ref g, .none], []⟩)) _ _ _
    refine wpAny_bind (wpAny_rule (wpAny_bind ?_))
    show wpAny _ X.A.in1.in1 (updateSeq D (·.push .none) >>= fun _ => updateSeq D (·.pop)) _ _ _
    refine wpAny_bind (wpAny_updateSeq atD2 rfl ?_)
    have atD3 := Heap.get?_update_self (Obj.mapSeq (·.push Value.none)) atD2 rfl
    refine wpAny_updateSeq (hz := by seq_fits) atD3 rfl ?_
    have atD4 := Heap.get?_update_self (Obj.mapSeq (·.pop)) atD3 rfl
    have kp4 := up _ (Obj.mapSeq (·.pop)) (up _ (Obj.mapSeq (·.push Value.none)) kp2)
    refine wpAny_pure ⟨plainId_quiet F.plain_extend_loop _, ?_⟩
    refine codeAny_builtin F.entry_extend_loop ?_
    rw [Around.under_plainId F.plain_extend_loop _]
    show wpAny _ X.A.in1.in1 (pyNext (.ref g) >>= _) _ _ _
    refine wpAny_bind ?_
    refine (fun go4 => go4 _ kp4 ⟨_, atD4⟩ : (∀ h4 : Heap, (∀ b ob, s2.heap.get? b = some ob → h4.get? b = some ob) → (∃ n4 : Nat, h4.get? D = some { cls := .type "list", data := .seq #[] n4 }) → wpAny (model X.prog X.w) X.A.in1.in1 (pyNext (.ref g)) _ _ { s2 with heap := h4 }) → _) ?_
    rintro h4 kp ⟨n4, at4⟩
    have I4 : Inv X pins σ (upd H1 D (.lst [])) { s2 with heap := h4 } := I2.laid (t' := s2.toks) kp (Nat.le_of_eq hD) ⟨Nat.zero_le _, [], n4, .nil, at4⟩
    have wG : Whole (lean H1) := lean_whole fun a C dx fs e => (show ObjOk X.prog X.w H1 s1.heap a (.ins C dx fs) from I1.hok a _ e).1
    have sG : Same (lean H1) (upd H1 D (.lst [])) := fun b z ez => by
      have e1 := lean_sub b z ez
      rw [upd_ne (fun y => by rw [y, free] at e1; cases e1)]
      exact e1
    have Z : Pact X N ps scope X.A.in1.in1.in1 L := ⟨Sc, I1.ok.hd hc, I1.ok.frames, .inr (Nat.le_trans I1.sz Mk.low), Nat.le_trans I1.ok.bsz (Nat.le_trans I1.sz Mk.low), fun b hb _ => .inr (Nat.le_trans (Nat.le_trans I1.sz Mk.low) (Nat.le_of_lt hb)), fun b hb => by
      obtain ⟨_, ob, ho, _⟩ := I1.stack.mem hb
      exact Nat.lt_of_lt_of_le (Heap.lt_size ho) Mk.low⟩
    have S2 : Sleep X (pins ++ [(g, go)]) L (lean H1) oL [] σ (upd H1 D (.lst [])) { s2 with heap := h4 } := by
      refine ⟨I4.pins_of fun q hq => ?_, wG, sG, fun q hq => (by simp at hq), fun q hq => (by simp at hq), fun q hq q' hq' => ?_⟩
      · rcases List.mem_append.mp hq with hq | hq
        · rcases List.mem_append.mp hq with hq | hq
          · exact I4.pin q (List.mem_append_right _ hq)
          · rw [List.mem_singleton.mp hq]
            obtain ⟨y1, y2, y3, _⟩ := young g hago
            exact ⟨kp _ _ Mk.at', by rw [upd_ne (Ne.symm ne)]; exact y1, y2, y3, fun v z => by rw [gdat] at z; cases z⟩
        · rw [List.mem_singleton.mp hq]
          obtain ⟨y1, y2, y3, _⟩ := young L Mk.low
          obtain ⟨es1, ep1, m1, hd1, _⟩ := Mk.loc
          exact ⟨kp _ _ Mk.fr, by rw [upd_ne (Nat.ne_of_lt lL)]; exact y1, y2, y3, fun v z => by rw [hd1] at z; cases z⟩
      · rw [List.mem_singleton.mp hq]
        rw [← List.append_assoc] at hq'
        rcases List.mem_append.mp hq' with z | z
        · exact (young L Mk.low).2.2.2 q' z
        · rw [List.mem_singleton.mp z]
          exact Nat.ne_of_gt Mk.lt
    have hra : RoomG (k + 1) X.A.in1.in1.in1 := hr.in1.in1.in1
    let Wt : Nat → Hp → L2.St → Hp → Prop := fun _ G σ' H' => G = lean H1 ∧ σ' = σ ∧ H' = upd H1 D (.lst [])
    obtain ⟨Gm, slG, hgg⟩ := gbody X (pins ++ [(g, go)]) L X.A.in1.in1.in1 Wt [.ref a] (lean H1) [] rfl rfl rfl rfl rfl hsp hra Z
    have hg4 : h4.get? g = some go := kp _ _ Mk.at'
    refine nexts (n := 1) (Fi := GK.F ⟨X, pins ++ [(g, go)], L, N, ps, scope, qual, f, cd, X.A.in1.in1.in1, [], r, Wt⟩) (Yp := GK.Y ⟨X, pins ++ [(g, go)], L, N, ps, scope, qual, f, cd, X.A.in1.in1.in1, [], r, Wt⟩) (I1.ok.hd hc) I4.nolimit hr.in1.in1.rm.depth (Mk.isg _ hg4) Mk.gen ⟨rfl, seg_func ?_⟩ (fun v z st' _ _ hY => ?_) fun z hF h' hk' => ?_
    · have S2' := S2.gens (allBare_setGen (g := gn) (x := .running) S2.inv.bare rfl)
      refine hgg 1 _ _ (lean H1) oL [] σ (upd H1 D (.lst [])) _ _ rfl ⟨S2', ⟨rfl, rfl, rfl⟩, S2'.wake Z Mk.loc Mk.len, ?_, fun q hq => by simp at hq, fun b hb => by simp at hb, fun q hq => by simp at hq⟩
      exact ⟨lean H1, ⟨Same.refl _, both_l, both_r, fun b x e => (froz_of e).1, by simp, fun x hx => by simp at hx⟩, slG, Temps.nil⟩
    · obtain ⟨k', G, oL4, ip4, σc, Hc, y, vv, G', oL', ip', Hc', hk', S0, wt0, hy', _⟩ := hY
      simp at hy'
    · obtain ⟨G, oL4, ip4, σc, Hc, G', Hc', S0, wt0, I5, gr⟩ := hF
      obtain ⟨rfl, rfl, rfl⟩ := wt0
      have I6 := inv_gens I5 (allBare_setGen (g := gn) (x := .finished) I5.bare rfl)
      exact wpAny_pure ⟨rfl, .ref D, Hc', (I6.kept (t' := z.toks) hk').unpinned, rfl, wish G' Hc' gr⟩
end
section
variable {W : Wd} {G : Gam} {T : Tms} {cs : Cells} {K : Sl → Cells → Prop} {ta : TE}
theorem e_listGM {α β : Type} {C : Addr} {fl : β → List (Str × Sl)} {mn : Str} {mm : β → Option (List α)} (lr : LeanR (rRec C fl)) (hn : ∀ x, mn ∉ (fl x).map (·.1)) (ha : Ev ta W G T cs fun sa cs1 => ∃ x, sa = (rRec C fl).at x ∧ mm x = some [] ∧ K (rVal.at (.list [])) cs1) :
    Ev (tListGM C mn (fun vs G ys => ∃ i : β, Args G [(rRec C fl).at i] vs ∧ mm i = some ys) ta) W G T cs K := fun s H st Q q => by
  refine ha s H st _ fun sa cs1 ⟨x, e, hm, k⟩ va H1 ⟨F, c, sg, tm⟩ => ?_
  subst e
  have hv := tm.head
  have hv0 := hv
  obtain ⟨p, dx, fs, ev, hF, hf⟩ := hv0
  refine ⟨p, dx, fs, ev, c.fh _ _ hF, look_none (hf.names ▸ hn x), ⟨x, .cons (lr x H1 _ (ev ▸ (rRec C fl).mono c.fh hv)) .nil, hm⟩, fun D hD far G' H' gr => ?_⟩
  have sF : Same F (upd F D (.lst [])) := same_upd (c.fh.free hD)
  obtain ⟨F', c2, sF2⟩ := core_ran (c.new (o := .lst []) hD) gr
  exact q _ _ k _ H' ⟨F', c2, sg.mono (sF.trans sF2), (tm.tail.mono (sF.trans sF2)).cons (.lst far (Nat.zero_le _) (sF2 _ _ upd_same) .nil)⟩
end
end ML

/-! ## lambdas of two steps; marks in a cell; tuples of texts out of any value -/
namespace ML
open PySem PySem.Spec PyProof.Rows L2 SX StX ClX
/-! ### lambda: f(E), E may raise -/
def rzB {α β : Type} (z : RzV α) (g : α → Option β) : Option (RzV β) := match z with
  | .val b => (g b).map .val
  | .err c d => some (.err c d)
section
variable {W : Wd} {G : Gam} {T : Tms} {cs : Cells} {K : Sl → Cells → Prop} {xt : XTL} {γ : Type} {rg : R γ} {z : RzV γ}
/-- what the two steps give -/
def HzOf {α : Type} (z1 : RzV α) (z : RzV γ) (Pv : α → RzV γ → Prop) : Prop := match z1 with
  | .val b => Pv b z
  | .err c d => z = .err c d
theorem er_callOf {α ι β : Type} {A : ι → List Sl} {m : ι → Option β} {res : ι → β → Sl} {t1 : XK → TE} {r1 : R α} {z1 : RzV α} {E0 : XK} (f : β → γ) (h1 : EvLamL xt t1 G T r1 z1)
    (hz : HzOf z1 z fun b z => ∃ (i : ι) (r : β), m i = some r ∧ A i = [r1.at b] ∧ (∀ F v, (res i r).p F v → rg.p (f r) F v) ∧ z = .val (f r)) :
    EvLamL xt (fun E => tCall (spM A (fun _ => []) m res (fun _ _ => [])) [] E0 (tCons (t1 E) tNil)) G T rg z := fun W s H Q E st k => by
  refine h1 W s H _ E st ?_
  cases z1 with
  | val b =>
    obtain ⟨i, r, hm, e1, cv, e2⟩ : ∃ (i : ι) (r : β), m i = some r ∧ A i = [r1.at b] ∧ (∀ F v, (res i r).p F v → rg.p (f r) F v) ∧ z = .val (f r) := hz
    subst e2
    intro v F H1 c pv
    show spM A (fun _ => []) m res (fun _ _ => []) ([v] ++ []) H1 Q E0
    have c' : Core W F ([] ++ []) H1 := c
    exact ⟨i, r, Wd.sub F H1 [], hm, c'.sub, e1 ▸ .cons pv .nil, fun v2 H2 ⟨F2, c2, pv2⟩ => k v2 F2 H2 (c'.unsub c2) (cv _ _ pv2)⟩
  | err c d =>
    have hz : z = .err c d := hz
    subst hz
    exact k
theorem hz_of {α ι β : Type} {A : ι → List Sl} {m : ι → Option β} {res : ι → β → Sl} {r1 : R α} {z1 : RzV α} {f : β → γ} {g : α → Option γ} (h : rzB z1 g = some z) (hv : ∀ b y, g b = some y → ∃ (i : ι) (r : β), m i = some r ∧ A i = [r1.at b] ∧ (∀ F v, (res i r).p F v → rg.p (f r) F v) ∧ y = f r) :
    HzOf z1 z fun b z => ∃ (i : ι) (r : β), m i = some r ∧ A i = [r1.at b] ∧ (∀ F v, (res i r).p F v → rg.p (f r) F v) ∧ z = .val (f r) := by
  cases z1 with
  | val b =>
    unfold rzB at h
    cases e : g b with
    | none => dsimp only at h; rw [e] at h; cases h
    | some y =>
      dsimp only at h
      rw [e] at h
      cases h
      obtain ⟨i, r, h1, h2, h3, h4⟩ := hv b y e
      exact ⟨i, r, h1, h2, h3, by rw [h4]⟩
  | err c d => exact (Option.some.inj h).symm
/-- C.m(..), which may raise -/
theorem er_cmethL {ι β : Type} {C : Addr} {A : ι → List Sl} {m : ι → Option (RzV β)} {res : ι → β → Sl} {to : TE} {ta : TA} (f : β → γ) (cv : ∀ i b F v, (res i b).p F v → rg.p (f b) F v)
    (h : ∀ W, Ev to W G T [] fun sa cs0 => sa = sCls (.ref C) ∧ ∀ va, EvA ta W G ((va, sa) :: T) cs0 fun sls cs1 => ∃ (i : ι) (z' : RzV β), m i = some z' ∧ sCls (.ref C) :: sls = A i ∧ cs1 = [] ∧ rzMV f z' = z) :
    EvLamL xt (fun E => tCMeth C (spRL xt A (fun _ => []) m res (fun _ _ => [])) E to ta) G T rg z := fun W s H Q E st k => by
  refine h W s H st _ fun sa cs0 ⟨e0, h1⟩ va H0 st0 => ?_
  subst e0
  have ev : va = .ref C := let ⟨F, c, sg, tm⟩ := st0; tm.head
  subst ev
  refine ⟨rfl, h1 _ s H0 st0 _ fun sls cs1 ⟨i, z', hm, e1, e2, e3⟩ vs H1 ⟨F, c, sg, tm, ar⟩ => ?_⟩
  subst e2 e3
  have c' : Core W F ([] ++ []) H1 := c
  refine ⟨i, z', Wd.sub F H1 [], hm, c'.sub, e1 ▸ .cons rfl ar, ?_⟩
  cases z' with
  | val b => exact fun v H2 ⟨F2, c2, pv⟩ => k v F2 H2 (c'.unsub c2) (cv _ _ _ _ pv)
  | err e v => exact fun d H2 y ⟨F2, c2, pv, hd⟩ => k d H2 y ⟨F2, c'.unsub c2, pv, hd⟩
end
/-! ### the class itself, handed over -/
def rClsO (C : Addr) : R Unit := ⟨fun _ _ v => v = .ref C, fun _ h => h⟩
/-! ### marks in a cell -/
theorem bools_of {F : Hp} : ∀ {bs : List Bool} {us : List V}, All2 (fun x u => rBool.p x F u) bs us → us = bs.map V.bl
  | _, _, .nil => rfl
  | b :: bs, _, .cons h q => by
    obtain rfl : _ = V.bl b := h
    rw [bools_of q]
    rfl
def oIdxB (bs : List Bool) (b : Bool) : Option Int := if b ∈ bs then some ((bs.idxOf b : Nat) : Int) else none
section
variable {W : Wd} {G : Gam} {T : Tms} {cs : Cells} {K : Sl → Cells → Prop} {to ta tb : TE} {t : TA} {KF : PySem.W.Frag}
theorem e_countBC (j : Nat) (h : Ev to W G T cs fun sl cs1 => ∃ (p : Addr) (bs : List Bool), sl = sRef p ∧ cs1[j]? = some (p, cLst rBool bs) ∧ ∀ vo, EvA t W G ((vo, sl) :: T) cs1 fun sls cs2 => ∃ b : Bool, sls = [rBool.at b] ∧ cs2 = cs1 ∧ K (rInt.at ((bs.count b : Nat) : Int)) cs2) : Ev (tBM KF "list" (rCntB KF) to t) W G T cs K := fun s H st Q q => by
  refine h s H st _ fun sl cs1 ⟨p, bs, e, hj, h1⟩ vo H1 st1 => ?_
  subst e
  have ev : vo = .ref p := ref_top st1
  subst ev
  obtain ⟨F1, c1, sg1, tm1⟩ := id st1
  obtain ⟨hz, us, hH, hA⟩ := c1.lst hj
  refine ⟨.inl ⟨rfl, us, SqL.of hH⟩, h1 _ s H1 st1 _ fun sls cs2 ⟨b, e3, e4, k⟩ vs H2 ⟨F, c, sg, tm, ar⟩ => ?_⟩
  subst e3 e4
  obtain ⟨v, rfl, pv⟩ := args1 ar
  obtain rfl : v = V.bl b := pv
  obtain ⟨hz2, us2, hH2, hA2⟩ := c.lst hj
  have e5 := bools_of hA2
  subst e5
  exact ⟨p, bs, b, rfl, rfl, SqL.of hH2, q _ _ k _ H2 ⟨F, c, sg, tm.tail.cons rfl⟩⟩
theorem e_idxBC (j : Nat) (h : Ev to W G T cs fun sl cs1 => ∃ (p : Addr) (bs : List Bool), sl = sRef p ∧ cs1[j]? = some (p, cLst rBool bs) ∧ ∀ vo, EvA t W G ((vo, sl) :: T) cs1 fun sls cs2 => ∃ (b : Bool) (z : Int), sls = [rBool.at b] ∧ cs2 = cs1 ∧ oIdxB bs b = some z ∧ K (rInt.at z) cs2) : Ev (tBM KF "list" (rIndex KF) to t) W G T cs K := fun s H st Q q => by
  refine h s H st _ fun sl cs1 ⟨p, bs, e, hj, h1⟩ vo H1 st1 => ?_
  subst e
  have ev : vo = .ref p := ref_top st1
  subst ev
  obtain ⟨F1, c1, sg1, tm1⟩ := id st1
  obtain ⟨hz, us, hH, hA⟩ := c1.lst hj
  refine ⟨.inl ⟨rfl, us, SqL.of hH⟩, h1 _ s H1 st1 _ fun sls cs2 ⟨b, z, e3, e4, ho, k⟩ vs H2 ⟨F, c, sg, tm, ar⟩ => ?_⟩
  subst e3 e4
  obtain ⟨v, rfl, pv⟩ := args1 ar
  obtain rfl : v = V.bl b := pv
  obtain ⟨hz2, us2, hH2, hA2⟩ := c.lst hj
  have e5 := bools_of hA2
  subst e5
  obtain ⟨hy, e⟩ := of_ite ho
  subst e
  obtain ⟨f1, f2⟩ := idx_first hy
  have fl : (bs.map V.bl).all flatV = true := List.all_eq_true.mpr fun z hz => by
    obtain ⟨w, _, e⟩ := List.mem_map.mp hz
    subst e
    rfl
  refine ⟨p, _, V.bl b, bs.idxOf b, V.bl b, rfl, rfl, SqL.of hH2, rfl, fl, ?_, ?_, ?_, q _ _ k _ H2 ⟨F, c, sg, tm.tail.cons rfl⟩⟩
  · rw [List.getElem?_map, f1]
    rfl
  · cases b <;> rfl
  · intro m z' hm hz'
    rw [List.getElem?_map] at hz'
    obtain ⟨w, h1, h2⟩ := Option.map_eq_some_iff.mp hz'
    subst h2
    have := f2 m w hm h1
    cases w <;> cases b <;> first | rfl | cases this
end
/-! ### a tuple of texts out of any value; == of texts and of four things -/
def oTxsD : List PyData → Option (List (List Nat))
  | [] => some []
  | .str x :: ds => (oTxsD ds).map (x.cps.toList :: ·)
  | _ => none
def oTupT : PyData → Option (List (List Nat))
  | .tuple ds => oTxsD ds
  | _ => none
theorem txs_all {F : Hp} : ∀ {ds : List PyData} {is : List (List Nat)} {vs : List V}, oTxsD ds = some is → DqAll F vs ds → All2 (fun i v => rTx.p i F v) is vs
  | [], _, _, h, .nil => by cases h; exact .nil
  | .str x :: ds, is, _, h, .cons a q => by
    unfold oTxsD at h
    cases e : oTxsD ds with
    | none => rw [e] at h; cases h
    | some js =>
      rw [e] at h
      cases h
      cases a
      exact .cons (by show V.str x = V.str (S x.cps.toList); rw [S_tl]) (txs_all e q)
  | .none :: _, _, _, h, _ => by cases h
  | .bool _ :: _, _, _, h, _ => by cases h
  | .int _ :: _, _, _, h, _ => by cases h
  | .list _ :: _, _, _, h, _ => by cases h
  | .tuple _ :: _, _, _, h, _ => by cases h
  | .dict _ :: _, _, _, h, _ => by cases h
theorem nar_tupT {d : PyData} {is : List (List Nat)} (h : oTupT d = some is) : Nar d ((rTup rTx).at is) := fun F v q => by
  cases q with
  | tup hl e qa =>
    have a2 := txs_all h qa
    exact ⟨by rw [a2.length]; exact hl, _, _, rfl, e, a2⟩
  | _ => cases h
structure RE0 {α : Type} [DecidableEq α] (r : R α) where
  d : α → PyData
  ok : ∀ {K : PySem.W.Frag} {F H : Hp} {a : α} {v : V}, r.p a F v → Same F H → Dp K H v (d a)
  n : Nat
  dep : ∀ a, (d a).depth ≤ n
  eqv : ∀ a b, PyData.eqv (d a) (d b) = decide (a = b)
def e0 {α : Type} [DecidableEq α] {r : R α} (e : REq r) : RE0 r := ⟨e.d, fun h s => e.ok h s, e.n, e.dep, e.eqv⟩
def e0Tx : RE0 rTx where
  d := fun a => .str (S a)
  ok := fun {K F H a v} h _ => by have e : v = .str (S a) := h; subst e; exact Dp.str _
  n := 1
  dep := fun a => by simp [PyData.depth]
  eqv := fun a b => by
    show (S a == S b) = decide (a = b)
    by_cases h : a = b
    · subst h
      simp
    · have h2 : ¬ S a = S b := fun e => h (S_inj e)
      simp [h, h2]
section
variable {α β γ δ : Type} {r : R α} [DecidableEq α] [DecidableEq β] [DecidableEq γ] [DecidableEq δ]
theorem dp0 (e : RE0 r) {K : PySem.W.Frag} {F H : Hp} (s : Same F H) : ∀ {xs : List α} {us : List V}, All2 (fun x u => r.p x F u) xs us → DpAll K H us (xs.map e.d)
  | _, _, .nil => .nil
  | _, _, .cons p q => .cons (e.ok p s) (dp0 e s q)
theorem dep0 (e : RE0 r) : ∀ xs : List α, PyData.depthAll (xs.map e.d) ≤ e.n
  | [] => by simp [PyData.depthAll]
  | x :: xs => by
    rw [List.map_cons, PyData.depthAll]
    have h1 := e.dep x
    have h2 := dep0 e xs
    omega
theorem eqv0 (e : RE0 r) : ∀ xs ys : List α, PyData.eqvAll (xs.map e.d) (ys.map e.d) = decide (xs = ys)
  | [], [] => by simp [PyData.eqvAll]
  | [], _ :: _ => by simp [PyData.eqvAll]
  | _ :: _, [] => by simp [PyData.eqvAll]
  | x :: xs, y :: ys => by
    rw [List.map_cons, List.map_cons, PyData.eqvAll, e.eqv, eqv0 e xs ys]
    by_cases h1 : x = y <;> by_cases h2 : xs = ys <;> simp [h1, h2]
def e0Tup (e : RE0 r) : RE0 (rTup r) where
  d := fun xs => .tuple (xs.map e.d)
  ok := fun {K F H a v} h s => by
    obtain ⟨_, p, vs, rfl, h2, h3⟩ := h
    exact Dp.tup (SqT.of (s _ _ h2)) (dp0 e s h3)
  n := e.n + 1
  dep := fun xs => by
    rw [PyData.depth]
    have := dep0 e xs
    omega
  eqv := fun a b => by rw [PyData.eqv]; exact eqv0 e a b
def e0Pair {q : R β} (e : RE0 r) (f : RE0 q) : RE0 (rPair r q) where
  d := fun x => .tuple [e.d x.1, f.d x.2]
  ok := fun {K F H a v} h s => by
    obtain ⟨p, u, w, rfl, h2, h3, h4⟩ := h
    exact Dp.tup (SqT.of (s _ _ h2)) (.cons (e.ok h3 s) (.cons (f.ok h4 s) .nil))
  n := max e.n f.n + 1
  dep := fun x => by
    have h1 := e.dep x.1
    have h2 := f.dep x.2
    simp only [PyData.depth, PyData.depthAll]
    omega
  eqv := fun a b => by
    obtain ⟨a1, a2⟩ := a
    obtain ⟨b1, b2⟩ := b
    simp only [PyData.eqv, PyData.eqvAll, e.eqv, f.eqv, Bool.and_true]
    by_cases h1 : a1 = b1 <;> by_cases h2 : a2 = b2 <;> simp [h1, h2]
def e0Four {r2 : R β} {r3 : R γ} {r4 : R δ} (e1 : RE0 r) (e2 : RE0 r2) (e3 : RE0 r3) (e4 : RE0 r4) : RE0 (rFour r r2 r3 r4) where
  d := fun x => .tuple [e1.d x.1, e2.d x.2.1, e3.d x.2.2.1, e4.d x.2.2.2]
  ok := fun {K F H a v} h s => by
    obtain ⟨p, v1, v2, v3, v4, rfl, h2, p1, p2, p3, p4⟩ := h
    exact Dp.tup (SqT.of (s _ _ h2)) (.cons (e1.ok p1 s) (.cons (e2.ok p2 s) (.cons (e3.ok p3 s) (.cons (e4.ok p4 s) .nil))))
  n := max (max e1.n e2.n) (max e3.n e4.n) + 1
  dep := fun x => by
    have h1 := e1.dep x.1
    have h2 := e2.dep x.2.1
    have h3 := e3.dep x.2.2.1
    have h4 := e4.dep x.2.2.2
    simp only [PyData.depth, PyData.depthAll]
    omega
  eqv := fun a b => by
    obtain ⟨a1, a2, a3, a4⟩ := a
    obtain ⟨b1, b2, b3, b4⟩ := b
    simp only [PyData.eqv, PyData.eqvAll, e1.eqv, e2.eqv, e3.eqv, e4.eqv, Bool.and_true]
    by_cases h1 : a1 = b1 <;> by_cases h2 : a2 = b2 <;> by_cases h3 : a3 = b3 <;> by_cases h4 : a4 = b4 <;> simp [h1, h2, h3, h4]
def oEq0 (e : RE0 r) (a b : α) : Option Bool := if (e.d a).canLay0 = true ∧ (e.d b).canLay0 = true then some (decide (a = b)) else none
end
section
variable {W : Wd} {G : Gam} {T : Tms} {cs : Cells} {K : Sl → Cells → Prop} {ta tb : TE} {KF : PySem.W.Frag}
theorem e_eq0 (ha : Ev ta W G T cs fun sa cs1 => ∀ va, Ev tb W G ((va, sa) :: T) cs1 fun sb cs2 => ∃ (α : Type) (_ : DecidableEq α) (r : R α) (e : RE0 r) (x y : α) (z : Bool), e.n ≤ 64 ∧ sa = r.at x ∧ sb = r.at y ∧ oEq0 e x y = some z ∧ K (rBool.at z) cs2) :
    Ev (tOp (rEqD KF) ta tb) W G T cs K := fun s H st Q q => by
  refine ha s H st _ fun sa cs1 h1 va H1 st1 => ?_
  refine h1 va s H1 st1 _ fun sb cs2 ⟨α, _, r, e, x, y, z, hn, e1, e2, ho, k⟩ vb H2 ⟨F, c, sg, tm⟩ => ?_
  subst e1 e2
  have pb : r.p y F vb := tm.head
  have pa : r.p x F va := tm.tail.head
  obtain ⟨⟨l1, l2⟩, ez⟩ := of_ite ho
  have sh : ∀ a : α, (e.d a).canLay0 = true → SeqAt.shaped (e.d a) = true := fun a l => by
    unfold SeqAt.shaped
    rw [l, decide_eq_true (Nat.le_trans (e.dep a) hn)]
    rfl
  refine ⟨_, _, e.ok pa c.fh, e.ok pb c.fh, sh x l1, sh y l2, ?_⟩
  rw [e.eqv, ← ez]
  exact q _ _ k _ H2 ⟨F, c, sg, tm.tail.tail.cons rfl⟩
end
end ML

/-! ## a list that must be empty -/
namespace ML
def noneO {α : Type} (o : Option (List α)) : Option Unit := match o with
  | some [] => some ()
  | _ => none
theorem noneO_ok {α : Type} {o : Option (List α)} {u : Unit} (h : noneO o = some u) : o = some [] := by
  unfold noneO at h
  split at h
  · rfl
  · cases h
open PySem PySem.Spec PyProof.Rows L2 SX
/-! ### a list in a cell, == [] -/
theorem op_neL0 {X : L2.Cx} (hu : X.A.units + 64 < cLine) : OpR X (compareOp .NotEq) rNeL0 := by
  intro pins s σ H x y v u Q I rx ry h
  obtain ⟨a, b, xs, rfl, rfl, ha, hb, q⟩ := h
  cases rx
  cases ry
  obtain ⟨is, r1, t1, _⟩ := I.list (SqL.of ha)
  obtain ⟨js, r2, t2, _⟩ := I.list (SqL.of hb)
  cases r2
  have l1 : s.heap.IsList a is.toArray := t1.elim fun o h => h.elim fun n h => ⟨o, h.1, h.2.1, n, h.2.2.2⟩
  have l2 : s.heap.IsList b ([] : List Value).toArray := t2.elim fun o h => h.elim fun n h => ⟨o, h.1, h.2.1, n, h.2.2.2⟩
  have e := r1.length
  cases xs with
  | nil => cases is with
    | nil => exact SeqAt.RcNeAt.lists (e := fun _ => true) l1 l2 rfl (by omega) (fun j h1 h2 => absurd h1 (by simp)) X.prog X.w _ _ ⟨.bl false, H, I, rfl, q⟩
    | cons _ _ => cases e
  | cons _ _ => cases is with
    | nil => cases e
    | cons _ _ => exact SeqAt.RcNeAt.lists_lengths l1 l2 rfl (by omega) X.prog X.w _ _ ⟨.bl true, H, I, rfl, q⟩
section
variable {W : Wd} {G : Gam} {T : Tms} {cs : Cells} {K : Sl → Cells → Prop} {ta tb : TE}
theorem lst0 {α : Type} {r : R α} {xs : List α} {F : Hp} {us : List V} (h : All2 (fun x u => r.p x F u) xs us) : us.isEmpty = xs.isEmpty := by cases h <;> rfl
theorem e_neL0 {α β : Type} {r : R α} {r2 : R β} (j : Nat) (ha : Ev ta W G T cs fun sa cs1 => ∀ va, Ev tb W G ((va, sa) :: T) cs1 fun sb cs2 => ∃ (p : Addr) (xs : List α), sa = sRef p ∧ cs2[j]? = some (p, cLst r xs) ∧ sb = (rLst r2).at [] ∧ K (rBool.at (!xs.isEmpty)) cs2) :
    Ev (tOp rNeL0 ta tb) W G T cs K := fun s H st Q q => by
  refine ha s H st _ fun sa cs1 h1 va H1 st1 => h1 va s H1 st1 _ fun sb cs2 ⟨p, xs, e1, hj, e2, k⟩ vb H2 ⟨F, c, sg, tm⟩ => ?_
  subst e1 e2
  obtain ⟨_, b, us, rfl, hF, hA⟩ := tm.head
  cases hA
  have ea : va = .ref p := tm.tail.head
  subst ea
  obtain ⟨hz, us, hH, hA⟩ := c.lst hj
  refine ⟨p, b, us, rfl, rfl, hH, c.fh _ _ hF, ?_⟩
  rw [lst0 hA]
  exact q _ _ k _ H2 ⟨F, c, sg, tm.tail.tail.cons rfl⟩
end
/-! ### a list as one of any values -/
theorem cnv_lstV {α : Type} {r : R α} (v : VQ r) {xs : List α} : ∀ F u, ((rLst r).at xs).p F u → ((rLst rVal).at (xs.map v.d)).p F u := fun F u ⟨hz, a, us, h1, h2, h3⟩ => by
  have h4 : ∀ {xs : List α} {us : List V}, All2 (fun x u => r.p x F u) xs us → All2 (fun d w => rVal.p d F w) (xs.map v.d) us := fun {xs us} h => by
    induction h with
    | nil => exact .nil
    | cons p _ ih => exact .cons (v.ok p) ih
  exact ⟨by rw [List.length_map]; exact hz, a, us, h1, h2, h4 h3⟩
/-! ### err.f, the class not said in the reading -/
def tXfG (K : PySem.W.Frag) (a : Addr) (cls : Value) (d : Option Addr) (f : Str) (te : TE) : TE := fun σ H Q => te σ H fun x H1 => ∃ (C dd : Addr) (fs : List (Str × V)) (v : V), x = .ref a ∧ cls = .ref C ∧ XfC K C ∧ PySem.W.findIn K (.ref C) f = some none ∧ d = some dd ∧ H1 dd = some (.xd fs) ∧ fs.lookup f = some v ∧ Q v H1
theorem pe_xfG {X : L2.Cx} {a : Addr} {oe : Obj} {cls : Value} {d : Option Addr} {e : Expr} {te : TE} {pos : Pos} {f : Str} (ca : Ca oe cls d) (hm : (a, oe) ∈ X.pn) (he : PE X e te) (hb : attributeBase e f X.env (eval e X.env) = eval e X.env := by rfl) : PE X (.Attribute e f pos) (tXfG X.K a cls d f te) := by
  refine ⟨fun pins s σ H Q I h => attr_of hb (thn (he.run pins s σ H _ I h) fun u s1 hh => ?_)⟩
  obtain ⟨x, H1, I1, rx, C, dd, fs, v, rfl, rfl, T, hno, rfl, ea, l, q⟩ := hh
  cases rx
  obtain ⟨ha, _⟩ := I1.pin (a, oe) (List.mem_append_left _ hm)
  obtain ⟨od, mA, J, hl, hr⟩ := ca_inst ca ha I1.hok ea
  obtain ⟨u, hu, ru⟩ := RelO.some_of (v := v) (o := mA f) (by rw [← l]; exact hr f)
  exact HandSPX.exc_get I1.kIn J T.ga T.gg T.exC (PySem.W.findObj_own T.hdC hno rfl (by rw [hl, hu])) (handed_of ru) ⟨v, H1, I1.tok _, ru, q⟩
section
variable {W : Wd} {G : Gam} {T : Tms} {cs : Cells} {K : Sl → Cells → Prop} {te : TE} {KF : PySem.W.Frag}
theorem e_xfLG {a D dd : Addr} {f : Str} {x : PyData} {cls : Value} {d : Option Addr} (xf : XfC KF D) (no : PySem.W.findIn KF (.ref D) f = some none) (e1 : cls = .ref D) (e2 : d = some dd) (h : Ev te W G T cs fun sl cs1 => sl = sErrL a dd [f] x ∧ K (rVal.at x) cs1) : Ev (tXfG KF a cls d f te) W G T cs K := fun s H st Q q => by
  refine h s H st _ fun sl cs1 ⟨e, k⟩ v H1 ⟨F, cc, sg, tm⟩ => ?_
  subst e
  obtain ⟨rfl, fs, hF, y, hy, rfl⟩ := tm.head
  exact ⟨D, dd, [(f, y)], y, rfl, e1, xf, no, e2, cc.fh _ _ hF, by simp [List.lookup], q _ _ k _ _ ⟨F, cc, sg, tm.tail.cons hy⟩⟩
end
/-! ### list + list, as one of any values -/
def rCatFar : R2 := fun x y H Q => ∃ l b xs zs, x = .ref l ∧ y = .ref b ∧ H l = some (.lst xs) ∧ H b = some (.lst zs) ∧ xs.length + zs.length ≤ sizeLine ∧ ∀ p, H p = none → (p == sysModules) = false → Q (.ref p) (upd H p (.lst (xs ++ zs)))
theorem op_catFar {X : L2.Cx} : OpR X (binaryOp .Add) rCatFar := by
  intro pins s σ H x y v u Q I rx ry h
  obtain ⟨l, b, xs, zs, rfl, rfl, hH, hB, hz, q⟩ := h
  cases rx
  cases ry
  obtain ⟨_, its, n, r, _, e⟩ := I.lstM hH
  obtain ⟨_, jts, m, r2, _, e2⟩ := I.lstM hB
  have far : (s.heap.objs.size == sysModules) = false := beq_eq_false_iff_ne.mpr (Nat.ne_of_gt I.big)
  have l1 := r.length
  have l2 := r2.length
  refine PySem.P.add_list e e2 ?_ (by rw [List.size_toArray, List.size_toArray]; omega)
  rw [show its.toArray ++ jts.toArray = (its ++ jts).toArray by simp]
  exact ⟨.ref _, _, I.lnew (t' := s.toks) (r.append r2) (by rw [List.length_append]; omega), rfl, q _ I.fresh far⟩
section
variable {W : Wd} {G : Gam} {T : Tms} {cs : Cells} {K : Sl → Cells → Prop} {ta tb : TE}
theorem e_catFar (ha : Ev ta W G T cs fun sa cs1 => ∀ va, Ev tb W G ((va, sa) :: T) cs1 fun sb cs2 => ∃ xs ys zs : List PyData, sa = (rLst rVal).at xs ∧ sb = (rLst rVal).at ys ∧ oCat xs ys = some zs ∧ K (rVal.at (.list zs)) cs2) : Ev (tOp rCatFar ta tb) W G T cs K := fun s H st Q q => by
  refine ha s H st _ fun sa cs1 h1 va H1 st1 => h1 va s H1 st1 _ fun sb cs2 ⟨xs, ys, zs, e1, e2, ho, k⟩ vb H2 ⟨F, c, sg, tm⟩ => ?_
  subst e1 e2
  obtain ⟨_, b, us2, rfl, hF2, hA2⟩ := tm.head
  obtain ⟨_, a, us, rfl, hF, hA⟩ := tm.tail.head
  obtain ⟨hz, ez⟩ := of_ite ho
  have l1 := hA.length
  have l2 := hA2.length
  refine ⟨a, b, us, us2, rfl, rfl, c.fh _ _ hF, c.fh _ _ hF2, by omega, fun p hp far => ?_⟩
  have sF : Same F (upd F p (.lst (us ++ us2))) := same_upd (c.fh.free hp)
  have hAA : DqAll F (us ++ us2) zs := by
    rw [ez]
    have : ∀ {xs : List PyData} {us : List V}, All2 (fun x u => rVal.p x F u) xs us → ∀ {ys : List PyData} {us2 : List V}, All2 (fun x u => rVal.p x F u) ys us2 → DqAll F (us ++ us2) (xs ++ ys) := fun {xs us} h => by
      induction h with
      | nil => intro ys us2 g; exact DqAll.of g
      | cons p _ ih => intro ys us2 g; exact .cons p (ih g)
    exact this hA hA2
  exact q _ _ k _ _ ⟨_, c.new hp, sg.mono sF, (tm.tail.tail.mono sF).cons (.lst far (by rw [List.length_append]; omega) upd_same (DqAll.mono sF hAA))⟩
end
/-! ### list(l), as one of any values -/
def rListFarL (K : PySem.W.Frag) : List V → Hp → VK → Prop := fun xs H Q => ∃ p ys, xs = [.ref p] ∧ SqL K H p ys ∧ ∀ l, H l = none → (l == sysModules) = false → Q (.ref l) (upd H l (.lst ys))
theorem call_list_farL {X : L2.Cx} : CallR X (.type "list") (rListFarL X.K) := by
  intro pins s σ H xs us Q I r h
  obtain ⟨p, ys, rfl, hq, q⟩ := h
  obtain ⟨u, rfl, rx⟩ := vals1 r
  cases rx
  obtain ⟨its, r', ⟨o, n, ho, hc, _, hd⟩, hz⟩ := I.list hq
  have hlen := r'.length
  have far : (s.heap.objs.size == sysModules) = false := beq_eq_false_iff_ne.mpr (Nat.ne_of_gt I.big)
  refine call_list_seq p (.inl rfl) ho hc hd (fun h' c' kp e => ?_) (by simp only [List.size_toArray] <;> omega)
  exact ⟨.ref s.heap.objs.size, _, I.laid (t' := s.toks) kp (Nat.le_refl _) (show ObjOk X.prog X.w _ h' _ (.lst ys) from ⟨hz, its, c', r', e⟩), rfl, q _ (I.hok.fresh (Nat.le_refl _)) far⟩
section
variable {W : Wd} {G : Gam} {T : Tms} {cs : Cells} {K : Sl → Cells → Prop} {t : TA} {KF : PySem.W.Frag}
theorem e_listFarL (h : EvA t W G T cs fun sls cs1 => ∃ ds : List PyData, sls = [(rLst rVal).at ds] ∧ K (rVal.at (.list ds)) cs1) : Ev (tCB (rListFarL KF) t) W G T cs K := fun s H st Q q => by
  refine h s H st _ fun sls cs1 ⟨ds, e, k⟩ vs H1 ⟨F, c, sg, tm, ar⟩ => ?_
  subst e
  obtain ⟨v, rfl, hz, a, us, rfl, hF, hA⟩ := args1 ar
  refine ⟨a, us, rfl, SqL.of (c.fh _ _ hF), fun p hp far => ?_⟩
  have sF : Same F (upd F p (.lst us)) := same_upd (c.fh.free hp)
  exact q _ _ k _ _ ⟨_, c.new hp, sg.mono sF, (tm.mono sF).cons (.lst far (by rw [← hA.length]; exact hz) upd_same (DqAll.mono sF (DqAll.of hA)))⟩
end
end ML

namespace LW
open PySem Spec PyProof.Rows L2 ML
def top (i : Nat) : Stmt := PySem.Challenge.pw_maskgroups_k53_rosters_made.main.body.getD i (.Pass ⟨0, 0, 0, 0⟩)
abbrev s_is_between : Stmt := top 32
abbrev s_is_name : Stmt := top 33
abbrev s_are_names : Stmt := top 34
abbrev s_Roster_init : Stmt := inClass (top 36) 1
abbrev s_Roster_bits : Stmt := inClass (top 36) 3
abbrev s_Roster_of : Stmt := inClass (top 36) 2
abbrev s_Roster_names : Stmt := inClass (top 36) 4
abbrev s_Roster_numbers : Stmt := inClass (top 36) 5
abbrev s_Roster_titles : Stmt := inClass (top 36) 6
abbrev s_Roster_len : Stmt := inClass (top 36) 7
abbrev s_Roster_eq : Stmt := inClass (top 36) 8
abbrev s_Roster_tests : Stmt := inClass (top 36) 23
abbrev s_Roster_changes : Stmt := inClass (top 36) 26
abbrev s_l_cup : Stmt := top 38
abbrev s_l_dip : Stmt := top 39
abbrev s_l_one : Stmt := top 40
abbrev s_l_shuffled : Stmt := top 41
abbrev s_l_odd : Stmt := top 42
abbrev s_l_bent : Stmt := top 43
abbrev s_l_names_pool : Stmt := top 44
abbrev s_l_is_name : Stmt := top 45
abbrev s_l_is_int : Stmt := top 46
abbrev s_l_asked : Stmt := top 47
abbrev s_l_are_names : Stmt := top 49
abbrev s_l_shown : Stmt := top 50
abbrev s_l_made_right : Stmt := top 51
abbrev s_l_of_right : Stmt := top 52
abbrev s_law : Stmt := top 53
structure Ads where
  T_l_made_right : Addr
  T_l_of_right : Addr
  C_Roster : Addr
abbrev fl_Roster (Z : Ads) : ((Int × (List (List Nat)) × (List Int) × (List ((List Nat) × (List Int)))) × (List Int)) → List (Str × Sl) := fun t => [("present", (rFour rInt (rTup rTx) (rTup rInt) (rTup (rPair rTx (rTup rInt)))).at t.1), ("past", (rLst rInt).at t.2)]
abbrev rT_Roster (Z : Ads) : R ((Int × (List (List Nat)) × (List Int) × (List ((List Nat) × (List Int)))) × (List Int)) := rRec Z.C_Roster (fl_Roster Z)
theorem nd_Roster (Z : Ads) : ∀ t, ((fl_Roster Z t).map (·.1)).Nodup := fun _ => (by decide +kernel : (["present", "past"] : List Str).Nodup)
theorem lr_Roster (Z : Ads) : LeanR (rT_Roster Z) := LeanR.own fun t => (leanF_cons ((LeanR.four (fun _ => LeanS.int) (fun _ => LeanS.tup (fun _ => LeanS.tx)) (fun _ => LeanS.tup (fun _ => LeanS.int)) (fun _ => LeanS.tup (LeanR.two (fun _ => LeanS.tx) (fun _ => LeanS.tup (fun _ => LeanS.int))))) _) (leanF_cons ((fun _ => LeanS.lst (fun _ => LeanS.int)) _) leanF_nil))
theorem nn_Roster (Z : Ads) (m : Str) (h : m ∉ (["present", "past"] : List Str)) : ∀ t, m ∉ (fl_Roster Z t).map (·.1) := fun _ => h
structure Tx (K : PySem.W.Frag) (mg : Str → Option Value) (Z : Ads) where
  f_is_between : Addr
  d_is_between : FuncData
  F_is_between : Fun K "is_between" "is_between" s_is_between f_is_between d_is_between
  g_is_between : mg "is_between" = some (.ref f_is_between)
  b_is_between : Binds K d_is_between ["value", "least", "most"] []
  f_is_name : Addr
  d_is_name : FuncData
  F_is_name : Fun K "is_name" "is_name" s_is_name f_is_name d_is_name
  g_is_name : mg "is_name" = some (.ref f_is_name)
  b_is_name : Binds K d_is_name ["value"] []
  f_are_names : Addr
  d_are_names : FuncData
  F_are_names : Fun K "are_names" "are_names" s_are_names f_are_names d_are_names
  g_are_names : mg "are_names" = some (.ref f_are_names)
  b_are_names : Binds K d_are_names ["value"] []
  f_Roster_init : Addr
  d_Roster_init : FuncData
  F_Roster_init : Fun K "__init__" "Roster.__init__" s_Roster_init f_Roster_init d_Roster_init
  b_Roster_init : Binds K d_Roster_init ["self", "bits"] []
  mk_Roster : Mk K Z.C_Roster f_Roster_init
  f_Roster_bits : Addr
  d_Roster_bits : FuncData
  F_Roster_bits : Fun K "bits" "Roster.bits" s_Roster_bits f_Roster_bits d_Roster_bits
  b_Roster_bits : Binds K d_Roster_bits ["self"] []
  p_Roster_bits : Addr
  pr_Roster_bits : L2.PropOf K Z.C_Roster "bits" p_Roster_bits f_Roster_bits
  f_Roster_of : Addr
  d_Roster_of : FuncData
  F_Roster_of : Fun K "of" "Roster.of" s_Roster_of f_Roster_of d_Roster_of
  b_Roster_of : Binds K d_Roster_of ["cls", "names"] []
  p_Roster_of : Addr
  cm_Roster_of : ClX.CMet K Z.C_Roster (.type "type") "of" p_Roster_of f_Roster_of
  f_Roster_names : Addr
  d_Roster_names : FuncData
  F_Roster_names : Fun K "names" "Roster.names" s_Roster_names f_Roster_names d_Roster_names
  b_Roster_names : Binds K d_Roster_names ["self"] []
  p_Roster_names : Addr
  pr_Roster_names : L2.PropOf K Z.C_Roster "names" p_Roster_names f_Roster_names
  f_Roster_numbers : Addr
  d_Roster_numbers : FuncData
  F_Roster_numbers : Fun K "numbers" "Roster.numbers" s_Roster_numbers f_Roster_numbers d_Roster_numbers
  b_Roster_numbers : Binds K d_Roster_numbers ["self"] []
  p_Roster_numbers : Addr
  pr_Roster_numbers : L2.PropOf K Z.C_Roster "numbers" p_Roster_numbers f_Roster_numbers
  f_Roster_titles : Addr
  d_Roster_titles : FuncData
  F_Roster_titles : Fun K "titles" "Roster.titles" s_Roster_titles f_Roster_titles d_Roster_titles
  b_Roster_titles : Binds K d_Roster_titles ["self"] []
  p_Roster_titles : Addr
  pr_Roster_titles : L2.PropOf K Z.C_Roster "titles" p_Roster_titles f_Roster_titles
  f_Roster_len : Addr
  d_Roster_len : FuncData
  F_Roster_len : Fun K "__len__" "Roster.__len__" s_Roster_len f_Roster_len d_Roster_len
  b_Roster_len : Binds K d_Roster_len ["self"] []
  dm_Roster_len : DM K Z.C_Roster "__len__" f_Roster_len
  f_Roster_eq : Addr
  d_Roster_eq : FuncData
  F_Roster_eq : Fun K "__eq__" "Roster.__eq__" s_Roster_eq f_Roster_eq d_Roster_eq
  b_Roster_eq : Binds K d_Roster_eq ["self", "other"] []
  dm_Roster_eq : DM K Z.C_Roster "__eq__" f_Roster_eq
  f_Roster_tests : Addr
  d_Roster_tests : FuncData
  F_Roster_tests : Fun K "tests" "Roster.tests" s_Roster_tests f_Roster_tests d_Roster_tests
  b_Roster_tests : Binds K d_Roster_tests ["self"] []
  me_Roster_tests : Meth K Z.C_Roster "tests" f_Roster_tests
  f_Roster_changes : Addr
  d_Roster_changes : FuncData
  F_Roster_changes : Fun K "changes" "Roster.changes" s_Roster_changes f_Roster_changes d_Roster_changes
  b_Roster_changes : Binds K d_Roster_changes ["self"] []
  me_Roster_changes : Meth K Z.C_Roster "changes" f_Roster_changes
  f_l_cup : Addr
  d_l_cup : FuncData
  F_l_cup : Fun K "_law_cup" "_law_cup" s_l_cup f_l_cup d_l_cup
  g_l_cup : mg "_law_cup" = some (.ref f_l_cup)
  b_l_cup : Binds K d_l_cup ["_law_script", "_law_k"] []
  f_l_dip : Addr
  d_l_dip : FuncData
  F_l_dip : Fun K "_law_dip" "_law_dip" s_l_dip f_l_dip d_l_dip
  g_l_dip : mg "_law_dip" = some (.ref f_l_dip)
  b_l_dip : Binds K d_l_dip ["_law_cup_here", "_law_many"] []
  f_l_one : Addr
  d_l_one : FuncData
  F_l_one : Fun K "_law_one" "_law_one" s_l_one f_l_one d_l_one
  g_l_one : mg "_law_one" = some (.ref f_l_one)
  b_l_one : Binds K d_l_one ["_law_cup_here", "_law_some"] []
  f_l_shuffled : Addr
  d_l_shuffled : FuncData
  F_l_shuffled : Fun K "_law_shuffled" "_law_shuffled" s_l_shuffled f_l_shuffled d_l_shuffled
  g_l_shuffled : mg "_law_shuffled" = some (.ref f_l_shuffled)
  b_l_shuffled : Binds K d_l_shuffled ["_law_cup_here", "_law_some"] []
  f_l_odd : Addr
  d_l_odd : FuncData
  F_l_odd : Fun K "_law_odd" "_law_odd" s_l_odd f_l_odd d_l_odd
  g_l_odd : mg "_law_odd" = some (.ref f_l_odd)
  b_l_odd : Binds K d_l_odd ["_law_cup_here"] []
  f_l_bent : Addr
  d_l_bent : FuncData
  F_l_bent : Fun K "_law_bent" "_law_bent" s_l_bent f_l_bent d_l_bent
  g_l_bent : mg "_law_bent" = some (.ref f_l_bent)
  b_l_bent : Binds K d_l_bent ["_law_cup_here", "_law_thing", "_law_deep"] []
  f_l_names_pool : Addr
  d_l_names_pool : FuncData
  F_l_names_pool : Fun K "_law_names_pool" "_law_names_pool" s_l_names_pool f_l_names_pool d_l_names_pool
  g_l_names_pool : mg "_law_names_pool" = some (.ref f_l_names_pool)
  b_l_names_pool : Binds K d_l_names_pool [] []
  f_l_is_name : Addr
  d_l_is_name : FuncData
  F_l_is_name : Fun K "_law_is_name" "_law_is_name" s_l_is_name f_l_is_name d_l_is_name
  g_l_is_name : mg "_law_is_name" = some (.ref f_l_is_name)
  b_l_is_name : Binds K d_l_is_name ["_law_thing"] []
  f_l_is_int : Addr
  d_l_is_int : FuncData
  F_l_is_int : Fun K "_law_is_int" "_law_is_int" s_l_is_int f_l_is_int d_l_is_int
  g_l_is_int : mg "_law_is_int" = some (.ref f_l_is_int)
  b_l_is_int : Binds K d_l_is_int ["_law_thing", "_law_least", "_law_most"] []
  f_l_asked : Addr
  d_l_asked : FuncData
  F_l_asked : Fun K "_law_asked" "_law_asked" s_l_asked f_l_asked d_l_asked
  g_l_asked : mg "_law_asked" = some (.ref f_l_asked)
  b_l_asked : Binds K d_l_asked ["_law_ask"] []
  f_l_are_names : Addr
  d_l_are_names : FuncData
  F_l_are_names : Fun K "_law_are_names" "_law_are_names" s_l_are_names f_l_are_names d_l_are_names
  g_l_are_names : mg "_law_are_names" = some (.ref f_l_are_names)
  b_l_are_names : Binds K d_l_are_names ["_law_thing"] []
  f_l_shown : Addr
  d_l_shown : FuncData
  F_l_shown : Fun K "_law_shown" "_law_shown" s_l_shown f_l_shown d_l_shown
  g_l_shown : mg "_law_shown" = some (.ref f_l_shown)
  b_l_shown : Binds K d_l_shown ["_law_roster"] []
  f_l_made_right : Addr
  d_l_made_right : FuncData
  F_l_made_right : Fun K "_law_made_right" "_law_made_right" s_l_made_right f_l_made_right d_l_made_right
  g_l_made_right : mg "_law_made_right" = some (.ref f_l_made_right)
  b_l_made_right : Binds K d_l_made_right ["_law_value"] []
  ca_l_made_right : Addr
  FC_l_made_right : FunC K "_law_made_right" "_law_made_right" s_l_made_right f_l_made_right d_l_made_right ca_l_made_right
  f_l_of_right : Addr
  d_l_of_right : FuncData
  F_l_of_right : Fun K "_law_of_right" "_law_of_right" s_l_of_right f_l_of_right d_l_of_right
  g_l_of_right : mg "_law_of_right" = some (.ref f_l_of_right)
  b_l_of_right : Binds K d_l_of_right ["_law_value"] []
  ca_l_of_right : Addr
  FC_l_of_right : FunC K "_law_of_right" "_law_of_right" s_l_of_right f_l_of_right d_l_of_right ca_l_of_right
  f_law : Addr
  d_law : FuncData
  F_law : Fun K "law" "law" s_law f_law d_law
  g_law : mg "law" = some (.ref f_law)
  b_law : Binds K d_law ["_law_script"] []
  cl_Roster : Cls K Z.C_Roster
  gc_Roster : mg "Roster" = some (.ref Z.C_Roster)
  na_Roster_present : NoAttr K Z.C_Roster "present"
  na_Roster_past : NoAttr K Z.C_Roster "past"
  cr_Roster : ClX.CRead K Z.C_Roster (.type "type")
  tk_Roster_MOST : Tok
  cv_Roster_MOST : ClX.CVal K Z.C_Roster (.type "type") "MOST" (.int 12) (.int 12 tk_Roster_MOST)
  is_Roster : IsC K Z.C_Roster
  ne_Roster : NeC K Z.C_Roster
  w0_Roster_of : OwnNames K d_Roster_of ["cls", "names"] ["names"] [0]
  w1_Roster_init : OwnNames K d_Roster_init ["self", "bits"] ["bits"] [0]
  t_LETTERS : Tok
  c_LETTERS : mg "LETTERS" = some (.str ("abcdefghijklmnopqrstuvwxyz" : Str) t_LETTERS)
  t_MOST_BITS : Tok
  c_MOST_BITS : mg "MOST_BITS" = some (.int 8 t_MOST_BITS)
  t_MOST_LETTERS : Tok
  c_MOST_LETTERS : mg "MOST_LETTERS" = some (.int 8 t_MOST_LETTERS)
  z_ValueError : mg "ValueError" = none
  z_abs : mg "abs" = none
  z_all : mg "all" = none
  z_bool : mg "bool" = none
  z_int : mg "int" = none
  z_isinstance : mg "isinstance" = none
  z_len : mg "len" = none
  z_list : mg "list" = none
  z_max : mg "max" = none
  z_min : mg "min" = none
  z_range : mg "range" = none
  z_repr : mg "repr" = none
  z_set : mg "set" = none
  z_str : mg "str" = none
  z_super : mg "super" = none
  z_tuple : mg "tuple" = none
  cm_err : Addr
  gm_err : mg "MaskError" = some (.ref cm_err)
  fl_err : Str
  (ce_BadBits fi_BadBits ca_BadBits cc_BadBits : Addr)
  di_BadBits : FuncData
  er_BadBits : ErrK K ce_BadBits cm_err fi_BadBits ca_BadBits cc_BadBits "BadBits.__init__" (inClass (top 5) 0) di_BadBits "value" fl_err
  ge_BadBits : mg "BadBits" = some (.ref ce_BadBits)
  (ce_BadNames fi_BadNames ca_BadNames cc_BadNames : Addr)
  di_BadNames : FuncData
  er_BadNames : ErrK K ce_BadNames cm_err fi_BadNames ca_BadNames cc_BadNames "BadNames.__init__" (inClass (top 6) 0) di_BadNames "value" fl_err
  ge_BadNames : mg "BadNames" = some (.ref ce_BadNames)
  ce_NoName : Addr
  ge_NoName : mg "NoName" = some (.ref ce_NoName)
  ce_BadNumber : Addr
  ge_BadNumber : mg "BadNumber" = some (.ref ce_BadNumber)
  ce_TakenNumber : Addr
  ge_TakenNumber : mg "TakenNumber" = some (.ref ce_TakenNumber)
  ce_NotTold : Addr
  ge_NotTold : mg "NotTold" = some (.ref ce_NotTold)
  ce_BadName : Addr
  ge_BadName : mg "BadName" = some (.ref ce_BadName)
  ce_TakenName : Addr
  ge_TakenName : mg "TakenName" = some (.ref ce_TakenName)
  ce_Full : Addr
  ge_Full : mg "Full" = some (.ref ce_Full)
  ce_NoRoom : Addr
  ge_NoRoom : mg "NoRoom" = some (.ref ce_NoRoom)
  ce_NoTitle : Addr
  ge_NoTitle : mg "NoTitle" = some (.ref ce_NoTitle)
  ce_TooMany : Addr
  ge_TooMany : mg "TooMany" = some (.ref ce_TooMany)
  ce_NothingToUndo : Addr
  ge_NothingToUndo : mg "NothingToUndo" = some (.ref ce_NothingToUndo)
  kv_BadBits : PySem.W.kitOne K (.ref ce_BadBits) (.type "ValueError") = some true
  ki_BadBits_BadBits : PySem.W.kitOne K (.ref ce_BadBits) (.ref ce_BadBits) = some true
  ki_BadBits_BadName : PySem.W.kitOne K (.ref ce_BadBits) (.ref ce_BadName) = some false
  ki_BadBits_BadNames : PySem.W.kitOne K (.ref ce_BadBits) (.ref ce_BadNames) = some false
  ki_BadBits_BadNumber : PySem.W.kitOne K (.ref ce_BadBits) (.ref ce_BadNumber) = some false
  ki_BadBits_Full : PySem.W.kitOne K (.ref ce_BadBits) (.ref ce_Full) = some false
  ki_BadBits_NoName : PySem.W.kitOne K (.ref ce_BadBits) (.ref ce_NoName) = some false
  ki_BadBits_NoRoom : PySem.W.kitOne K (.ref ce_BadBits) (.ref ce_NoRoom) = some false
  ki_BadBits_NoTitle : PySem.W.kitOne K (.ref ce_BadBits) (.ref ce_NoTitle) = some false
  ki_BadBits_NotTold : PySem.W.kitOne K (.ref ce_BadBits) (.ref ce_NotTold) = some false
  ki_BadBits_NothingToUndo : PySem.W.kitOne K (.ref ce_BadBits) (.ref ce_NothingToUndo) = some false
  ki_BadBits_TakenName : PySem.W.kitOne K (.ref ce_BadBits) (.ref ce_TakenName) = some false
  ki_BadBits_TakenNumber : PySem.W.kitOne K (.ref ce_BadBits) (.ref ce_TakenNumber) = some false
  ki_BadBits_TooMany : PySem.W.kitOne K (.ref ce_BadBits) (.ref ce_TooMany) = some false
  kv_BadNames : PySem.W.kitOne K (.ref ce_BadNames) (.type "ValueError") = some true
  ki_BadNames_BadBits : PySem.W.kitOne K (.ref ce_BadNames) (.ref ce_BadBits) = some false
  ki_BadNames_BadName : PySem.W.kitOne K (.ref ce_BadNames) (.ref ce_BadName) = some false
  ki_BadNames_BadNames : PySem.W.kitOne K (.ref ce_BadNames) (.ref ce_BadNames) = some true
  ki_BadNames_BadNumber : PySem.W.kitOne K (.ref ce_BadNames) (.ref ce_BadNumber) = some false
  ki_BadNames_Full : PySem.W.kitOne K (.ref ce_BadNames) (.ref ce_Full) = some false
  ki_BadNames_NoName : PySem.W.kitOne K (.ref ce_BadNames) (.ref ce_NoName) = some false
  ki_BadNames_NoRoom : PySem.W.kitOne K (.ref ce_BadNames) (.ref ce_NoRoom) = some false
  ki_BadNames_NoTitle : PySem.W.kitOne K (.ref ce_BadNames) (.ref ce_NoTitle) = some false
  ki_BadNames_NotTold : PySem.W.kitOne K (.ref ce_BadNames) (.ref ce_NotTold) = some false
  ki_BadNames_NothingToUndo : PySem.W.kitOne K (.ref ce_BadNames) (.ref ce_NothingToUndo) = some false
  ki_BadNames_TakenName : PySem.W.kitOne K (.ref ce_BadNames) (.ref ce_TakenName) = some false
  ki_BadNames_TakenNumber : PySem.W.kitOne K (.ref ce_BadNames) (.ref ce_TakenNumber) = some false
  ki_BadNames_TooMany : PySem.W.kitOne K (.ref ce_BadNames) (.ref ce_TooMany) = some false
def xt_ {K : PySem.W.Frag} {Z : Ads} {mg : Str → Option Value} (X : Tx K mg Z) : XTL := fun c => match c with
  | 0 => (X.ce_BadBits, ["value"])
  | 1 => (X.ce_BadNames, ["value"])
  | _ => (0, [])
theorem si_BadBits : SScope ["self", "value"] (defScope (inClass (top 5) 0)) := ⟨rfl, rfl, rfl, by decide +kernel, by decide +kernel, rfl, rfl, by decide +kernel, by decide +kernel⟩
theorem ini_BadBits {P : Program} {w : World} {K : PySem.W.Frag} {Z : Ads} {mg : Str → Option Value} {base : Heap} (X : Tx K mg Z) (PF : LP P X.fl_err) : FnOk P w K mg base L2.CX0 1 X.fi_BadBits X.di_BadBits ["self", "value"] (spOne X.ce_BadBits "value") :=
  init_sup (k := 0) (pl := fun _ => _) X.er_BadBits.oex (X.er_BadBits.sup PF.f PF.t) si_BadBits rfl rfl X.er_BadBits.no X.z_super rfl ⟨fun _ => rfl, fun _ => rfl, fun _ => rfl, fun _ => rfl⟩ rfl rfl
theorem bi_BadBits {K : PySem.W.Frag} {Z : Ads} {mg : Str → Option Value} (X : Tx K mg Z) : Binds K X.di_BadBits ["self", "value"] [] := X.er_BadBits.binds fun _ _ _ _ _ _ us hl => match us, hl with | [_, _], _ => rfl
theorem si_BadNames : SScope ["self", "value"] (defScope (inClass (top 6) 0)) := ⟨rfl, rfl, rfl, by decide +kernel, by decide +kernel, rfl, rfl, by decide +kernel, by decide +kernel⟩
theorem ini_BadNames {P : Program} {w : World} {K : PySem.W.Frag} {Z : Ads} {mg : Str → Option Value} {base : Heap} (X : Tx K mg Z) (PF : LP P X.fl_err) : FnOk P w K mg base L2.CX0 1 X.fi_BadNames X.di_BadNames ["self", "value"] (spOne X.ce_BadNames "value") :=
  init_sup (k := 0) (pl := fun _ => _) X.er_BadNames.oex (X.er_BadNames.sup PF.f PF.t) si_BadNames rfl rfl X.er_BadNames.no X.z_super rfl ⟨fun _ => rfl, fun _ => rfl, fun _ => rfl, fun _ => rfl⟩ rfl rfl
theorem bi_BadNames {K : PySem.W.Frag} {Z : Ads} {mg : Str → Option Value} (X : Tx K mg Z) : Binds K X.di_BadNames ["self", "value"] [] := X.er_BadNames.binds fun _ _ _ _ _ _ us hl => match us, hl with | [_, _], _ => rfl
def m_is_between (v_value : PyData) (v_least : Int) (v_most : Int) : Option Bool :=
  bind (((bif (isIntD v_value) then ((bind (((bif (!(isBoolD v_value)) then ((bind (oIntD v_value) fun u1 => pure ((decide (v_least ≤ u1)) && (decide (u1 ≤ v_most))))) else (pure false)) : Option Bool)) fun t2 => pure t2)) else (pure false)) : Option Bool)) fun t4 =>
  pure t4
abbrev sp_is_between (K : PySem.W.Frag) (Z : Ads) : Sp := spM (ι := PyData × Int × Int) (β := Bool) (fun i => [rVal.at i.1, rInt.at i.2.1, rInt.at i.2.2]) (fun i => []) (fun i => m_is_between i.1 i.2.1 i.2.2) (fun i b => rBool.at b) (fun i b => [])
abbrev N_is_between : List Str := ["value", "least", "most"]
theorem sc_is_between : FnScope N_is_between ["value", "least", "most"] (defScope s_is_between) := ⟨rfl, rfl, rfl, by decide +kernel, rfl, by decide +kernel, by decide +kernel⟩
theorem ok_is_between {P : Program} {w : World} {K : PySem.W.Frag} {Z : Ads} {mg : Str → Option Value} {base : Heap} (X : Tx K mg Z) : FnG P w K mg base CX0 1 X.f_is_between X.d_is_between ["value", "least", "most"] (sp_is_between K Z) := by
  refine okG X.F_is_between sc_is_between (fun vs H Q E h => spM_len h fun _ => rfl) (fun cdv A outer s H vs Q E hr h => ?_)
  refine ⟨(tRet (tAndV (tCB (rIsi K) (tCons (tVar 0) (tCons (tC (.ty "int")) tNil))) (tAndV (tNotV (tCB (rIsi K) (tCons (tVar 0) (tCons (tC (.ty "bool")) tNil)))) (tChain rdLe rdLe (tVar 1) (tVar 0) (tVar 2))))), (pss_one (ps_ret (pe_and (pe_callB call_isi (by rfl) X.z_isinstance bt_isinstance (pa_cons (pv 0) (pa_cons (pe_bltn (by rfl) X.z_int bt_int rfl) pa_nil))) (pe_and (pe_not (pe_callB call_isi (by rfl) X.z_isinstance bt_isinstance (pa_cons (pv 0) (pa_cons (pe_bltn (by rfl) X.z_bool bt_bool rfl) pa_nil)))) (pe_one (pe_chain op_le op_le (pv 1) (pv 0) (pv 2))))))), ?_⟩
  obtain ⟨⟨v_value, v_least, v_most⟩, r, W, h, hcore, har, hrt⟩ := h
  refine body hcore har (Nat.le_of_ble_eq_true rfl) ?_
  clear hcore har
  change m_is_between v_value v_least v_most = some r at h
  unfold m_is_between at h
  change NxT _ _ [some (rVal.at v_value), some (rInt.at v_least), some (rInt.at v_most)] _ []
  replace h := bindE h
  obtain ⟨t4, ht4, h⟩ := h
  replace h := pureE h
  subst h
  refine s_ret (e_and (c := (isIntD v_value)) (d := t4) (e_isV (ea_cons (e_var (sl := (rVal.at v_value)) rfl fun _ => (ea_cons (e_cls (fun _ => (ea_nil ⟨_, rfl, kit_intD _ _, ⟨rfl, ?b5, fun hc => ⟨pureE' (condF hc ht4), rfl⟩⟩⟩))))))) ?_)
  case b5 =>
    intro hc
    have h := condT hc ht4
    replace h := bindE h
    obtain ⟨t2, ht2, h⟩ := h
    replace h := pureE h
    subst h
    refine (e_and (c := (!(isBoolD v_value))) (d := t2) (e_not (e_isV (ea_cons (e_var (sl := (rVal.at v_value)) rfl fun _ => (ea_cons (e_cls (fun _ => (ea_nil ⟨_, rfl, kit_boolD _ _, ⟨_, rfl, ⟨rfl, ?b3, fun hc => ⟨pureE' (condF hc ht2), rfl⟩⟩⟩⟩)))))))) ⟨rfl, rfl⟩)
    case b3 =>
      intro hc
      have h := condT hc ht2
      replace h := bindE h
      obtain ⟨u1, hu1, h⟩ := h
      replace h := pureE h
      subst h
      refine (e_chainI (g := fun i j => decide (i ≤ j)) (g' := fun i j => decide (i ≤ j)) (d := ((decide (v_least ≤ u1)) && (decide (u1 ≤ v_most)))) (e_var (sl := (rInt.at v_least)) rfl ⟨_, rfl, (e_to (d := v_value) (e_var (sl := (rVal.at v_value)) rfl ⟨rfl, nar_int hu1, ⟨_, rfl, fun hc => (e_var (sl := (rInt.at v_most)) rfl ⟨_, rfl, andT hc, rfl⟩), fun hc => ⟨andF hc, rfl⟩⟩⟩))⟩) ⟨rfl, rfl⟩)
  exact Rt.drop hrt .slnil
def m_is_name (v_value : PyData) : Option Bool :=
  bind (((bif (!(isStrD v_value)) then (pure true) else ((bind (oTxD v_value) fun u1 => (bind (oTxI u1) fun t2 => pure (!((decide ((1 : Int) ≤ (t2.length : Int))) && (decide ((t2.length : Int) ≤ (8 : Int))))))))) : Option Bool)) fun t3 =>
  (bif t3 then (pure false) else ((bind (oTxD v_value) fun u5 => (bind (oTxI u5) fun t6 => pure ((t6.map fun (x7 : Nat) => (decide (x7 ∈ ([97, 98, 99, 100, 101, 102, 103, 104, 105, 106, 107, 108, 109, 110, 111, 112, 113, 114, 115, 116, 117, 118, 119, 120, 121, 122] : List Nat)))).all id)))))
abbrev sp_is_name (K : PySem.W.Frag) (Z : Ads) : Sp := spM (ι := PyData) (β := Bool) (fun i => [rVal.at i]) (fun i => []) (fun i => m_is_name i) (fun i b => rBool.at b) (fun i b => [])
abbrev N_is_name : List Str := ["value", "letter"]
theorem sc_is_name : FnScope N_is_name ["value"] (defScope s_is_name) := ⟨rfl, rfl, rfl, by decide +kernel, rfl, by decide +kernel, by decide +kernel⟩
theorem ok_is_name {P : Program} {w : World} {K : PySem.W.Frag} {Z : Ads} {mg : Str → Option Value} {base : Heap} (X : Tx K mg Z) : FnG P w K mg base CX0 1 X.f_is_name X.d_is_name ["value"] (sp_is_name K Z) := by
  refine okG X.F_is_name sc_is_name (fun vs H Q E h => spM_len h fun _ => rfl) (fun cdv A outer s H vs Q E hr h => ?_)
  refine ⟨(tSeq (tIfS (tOr (tNot (tB (tCB (rIsi K) (tCons (tVar 0) (tCons (tC (.ty "str")) tNil))))) (tNot (tTest (tChain rdLe rdLe (tC (.int 1)) (tCB rLenTx (tCons (tVar 0) tNil)) (tC (.int 8)))))) (tRet (tC (.bl false))) tNext) (tRet (tCB (rAll K) (tCons (tLc (iStr (tVar 0)) (gName 1) tYes (tOp rInSg (tVar 1) (tC (.str ("abcdefghijklmnopqrstuvwxyz" : Str)))) [1]) tNil)))), (pss_cons (ps_if (PW.pt (pw_or (pt_not (pt_val (pe_callB call_isi (by rfl) X.z_isinstance bt_isinstance (pa_cons (pv 0) (pa_cons (pe_bltn (by rfl) X.z_str bt_str rfl) pa_nil))))) (pw_or1 (pt_not (pt_chain op_le op_le pe_int (pe_callB call_lenTx (by rfl) X.z_len bt_len (pa_cons (pv 0) pa_nil)) (pe_glob rfl X.c_MOST_LETTERS ⟨_, rfl⟩)))))) (pss_one (ps_ret pe_bl)) pss_nil) (pss_one (ps_ret (pe_callB (cr_all rfl) (by rfl) X.z_all bt_all (pa_cons (pe_lc (own := [("letter", 1)]) (g := (gName 1)) (tt := tYes) (te := (tOp rInSg (tVar 1) (tC (.str ("abcdefghijklmnopqrstuvwxyz" : Str))))) rfl sc_is_name.nd (pi_str (pv 0)) (blkOk_by (N := N_is_name) (sc := (defScope s_is_name)) (by decide +kernel)) (fun _ _ _ _ _ => (pg_name (i := 1) sc_is_name.nd rfl (Or.inl rfl))) (fun _ _ _ _ _ => pts_nil) (fun _ _ _ _ _ => (pe_cmpR op_inSg (pv 1) (pe_glob rfl X.c_LETTERS ⟨_, rfl⟩) (by with_unfolding_all rfl)))) pa_nil))))), ?_⟩
  obtain ⟨v_value, r, W, h, hcore, har, hrt⟩ := h
  refine body hcore har (Nat.le_of_ble_eq_true rfl) ?_
  clear hcore har
  change m_is_name v_value = some r at h
  unfold m_is_name at h
  change NxT _ _ [some (rVal.at v_value), none] _ []
  replace h := bindE h
  obtain ⟨t3, ht3, h⟩ := h
  refine s_seq (s_if (t_or (c := (!(isStrD v_value))) (d := t3) (t_not (t_val (e_isV (ea_cons (e_var (sl := (rVal.at v_value)) rfl fun _ => (ea_cons (e_cls (fun _ => (ea_nil ⟨_, rfl, kit_strD _ _, ⟨_, rfl, ⟨rfl, ?b4, fun hc => ⟨pureE' (condT hc ht3), rfl⟩⟩⟩⟩))))))))) ⟨fun hc => ?_, fun hc => ?_⟩))
  case b4 =>
    intro hc
    have h := condF hc ht3
    replace h := bindE h
    obtain ⟨u1, hu1, h⟩ := h
    replace h := bindE h
    obtain ⟨t2, ht2, h⟩ := h
    replace h := pureE h
    subst h
    refine (t_not (t_test (e_chainI (g := fun i j => decide (i ≤ j)) (g' := fun i j => decide (i ≤ j)) (d := ((decide ((1 : Int) ≤ (t2.length : Int))) && (decide ((t2.length : Int) ≤ (8 : Int))))) (e_int ⟨_, rfl, (e_lenX (ea_cons (e_to (d := v_value) (e_var (sl := (rVal.at v_value)) rfl ⟨rfl, nar_tx hu1, fun _ => (ea_nil ⟨_, _, rfl, ht2, ⟨_, rfl, fun hc => (e_int ⟨_, rfl, andT hc, rfl⟩), fun hc => ⟨andF hc, rfl⟩⟩⟩)⟩))))⟩) ⟨_, rfl, ⟨rfl, rfl⟩⟩)))
  · replace h := condT hc h
    replace h := pureE h
    subst h
    refine s_ret (e_bl ?_)
    exact Rt.drop hrt .slnil
  · replace h := condF hc h
    refine s_next ?_
    replace h := bindE h
    obtain ⟨u5, hu5, h⟩ := h
    replace h := bindE h
    obtain ⟨t6, ht6, h⟩ := h
    replace h := pureE h
    subst h
    refine s_ret (e_all (ea_cons (lc_sound (is := [1]) (by decide) (i_str (e_to (d := v_value) (e_var (sl := (rVal.at v_value)) rfl ⟨rfl, nar_tx hu5, ⟨_, _, rfl, ht6, ⟨_, _, _, rSg, t6, (), fun (u : Unit) (x7 : Nat) => some (some (decide (x7 ∈ ([97, 98, 99, 100, 101, 102, 103, 104, 105, 106, 107, 108, 109, 110, 111, 112, 113, 114, 115, 116, 117, 118, 119, 120, 121, 122] : List Nat))), u), (t6.map fun (x7 : Nat) => (decide (x7 ∈ ([97, 98, 99, 100, 101, 102, 103, 104, 105, 106, 107, 108, 109, 110, 111, 112, 113, 114, 115, 116, 117, 118, 119, 120, 121, 122] : List Nat)))), (), rBool, fun _ => [], rfl, lcO_map _ _, rfl, ?b9, fun _ => (ea_nil ⟨_, rfl, ?_⟩)⟩⟩⟩))))))
    case b9 =>
      intro W1 T1 k8 x7 o u1 h
      refine g_name ?_
      cases h
      refine t_yes ⟨fun _ => ?_, fun z => nomatch z⟩
      refine (e_inSg (e_var (sl := (rSg.at x7)) rfl ⟨_, rfl, fun _ => (e_tx (a := ([97, 98, 99, 100, 101, 102, 103, 104, 105, 106, 107, 108, 109, 110, 111, 112, 113, 114, 115, 116, 117, 118, 119, 120, 121, 122] : List Nat)) (by decide +kernel) ⟨_, rfl, ⟨_, rfl, rfl, rfl⟩⟩)⟩))
    exact Rt.drop hrt .slnil
def m_are_names (v_value : PyData) : Option Bool :=
  bind (((bif (!(isTupD v_value)) then (pure true) else ((bind (oTupD v_value) fun u1 => (bind (((bif u1.isEmpty then (pure true) else ((bind (oTupD v_value) fun u2 => (bind (mapO (fun (x3 : PyData) => (((bind (m_is_name x3) fun r5 => pure (some r5))) : Option (Option Bool))) u2) fun t7 => pure (!(t7.all id)))))) : Option Bool)) fun t8 => pure t8)))) : Option Bool)) fun t10 =>
  (bif t10 then (pure false) else ((bind (oTupT v_value) fun u12 => (bind (oCntX u12) fun l13 => (bind (oTupD v_value) fun u14 => pure (decide (l13 = (u14.length : Int))))))))
abbrev sp_are_names (K : PySem.W.Frag) (Z : Ads) : Sp := spM (ι := PyData) (β := Bool) (fun i => [rVal.at i]) (fun i => []) (fun i => m_are_names i) (fun i b => rBool.at b) (fun i b => [])
abbrev N_are_names : List Str := ["value", "name"]
theorem sc_are_names : FnScope N_are_names ["value"] (defScope s_are_names) := ⟨rfl, rfl, rfl, by decide +kernel, rfl, by decide +kernel, by decide +kernel⟩
theorem ok_are_names {P : Program} {w : World} {K : PySem.W.Frag} {Z : Ads} {mg : Str → Option Value} {base : Heap} (X : Tx K mg Z) (G_is_name : FnG P w K mg base CX0 1 X.f_is_name X.d_is_name ["value"] (sp_is_name K Z)) : FnG P w K mg base CX0 2 X.f_are_names X.d_are_names ["value"] (sp_are_names K Z) := by
  refine okG X.F_are_names sc_are_names (fun vs H Q E h => spM_len h fun _ => rfl) (fun cdv A outer s H vs Q E hr h => ?_)
  refine ⟨(tSeq (tIfS (tOr (tNot (tB (tCB (rIsi K) (tCons (tVar 0) (tCons (tC (.ty "tuple")) tNil))))) (tOr (tTest (tOp rEqT0 (tVar 0) (tTup tNil))) (tNot (tB (tCB (rAll K) (tCons (tLc (iTup K (tVar 0)) (gName 1) tYes (tCall (sp_is_name K Z) [] E0 (tCons (tVar 1) tNil)) [1]) tNil)))))) (tRet (tC (.bl false))) tNext) (tRet (tOp rEq (tLenSetX K (tVar 0)) (tCB (rdLen K) (tCons (tVar 0) tNil))))), (pss_cons (ps_if (PW.pt (pw_or (pt_not (pt_val (pe_callB call_isi (by rfl) X.z_isinstance bt_isinstance (pa_cons (pv 0) (pa_cons (pe_bltn (by rfl) X.z_tuple bt_tuple rfl) pa_nil))))) (pw_or (pt_cmpR (op_eqT0 hr.units) (pv 0) (pe_tup pa_nil) (nomark _)) (pw_or1 (pt_not (pt_val (pe_callB (cr_all rfl) (by rfl) X.z_all bt_all (pa_cons (pe_lc (own := [("name", 1)]) (g := (gName 1)) (tt := tYes) (te := (tCall (sp_is_name K Z) [] E0 (tCons (tVar 1) tNil))) rfl sc_are_names.nd (pi_tup (pv 0)) (blkOk_by (N := N_are_names) (sc := (defScope s_are_names)) (by decide +kernel)) (fun _ _ _ _ _ => (pg_name (i := 1) sc_are_names.nd rfl (Or.inl rfl))) (fun _ _ _ _ _ => pts_nil) (fun _ _ _ _ _ => (pe_callG (G_is_name) (hr.mono (by decide)) (by rfl) X.g_is_name X.F_is_name.kp X.b_is_name .nil pass0 (pa_cons (pv 1) pa_nil)))) pa_nil)))))))) (pss_one (ps_ret pe_bl)) pss_nil) (pss_one (ps_ret (pe_cmpR op_eq (pe_lenSetX (by rfl) X.z_len (by rfl) X.z_set (pv 0)) (pe_callB call_len_seq (by rfl) X.z_len bt_len (pa_cons (pv 0) pa_nil)) (nomark _))))), ?_⟩
  obtain ⟨v_value, r, W, h, hcore, har, hrt⟩ := h
  refine body hcore har (Nat.le_of_ble_eq_true rfl) ?_
  clear hcore har
  change m_are_names v_value = some r at h
  unfold m_are_names at h
  change NxT _ _ [some (rVal.at v_value), none] _ []
  replace h := bindE h
  obtain ⟨t10, ht10, h⟩ := h
  refine s_seq (s_if (t_or (c := (!(isTupD v_value))) (d := t10) (t_not (t_val (e_isV (ea_cons (e_var (sl := (rVal.at v_value)) rfl fun _ => (ea_cons (e_cls (fun _ => (ea_nil ⟨_, rfl, kit_tupD _ _, ⟨_, rfl, ⟨rfl, ?b11, fun hc => ⟨pureE' (condT hc ht10), rfl⟩⟩⟩⟩))))))))) ⟨fun hc => ?_, fun hc => ?_⟩))
  case b11 =>
    intro hc
    have h := condF hc ht10
    replace h := bindE h
    obtain ⟨u1, hu1, h⟩ := h
    replace h := bindE h
    obtain ⟨t8, ht8, h⟩ := h
    replace h := pureE h
    subst h
    refine (t_or (c := u1.isEmpty) (d := t8) (t_test (e_eqT0 (e_to (d := v_value) (e_var (sl := (rVal.at v_value)) rfl ⟨rfl, nar_tup hu1, fun _ => (e_tup (ea_nil ⟨_, rVal, ([] : List PyData), rfl, Nat.le_of_ble_eq_true rfl, ⟨_, _, rVal, rVal, _, rfl, rfl, ⟨_, rfl, ⟨rfl, ?b9, fun hc => ⟨pureE' (condT hc ht8), rfl⟩⟩⟩⟩⟩))⟩)))) ⟨rfl, rfl⟩)
    case b9 =>
      intro hc
      have h := condF hc ht8
      replace h := bindE h
      obtain ⟨u2, hu2, h⟩ := h
      replace h := bindE h
      obtain ⟨t7, ht7, h⟩ := h
      replace h := pureE h
      subst h
      refine (t_not (t_val (e_all (ea_cons (lc_sound (is := [1]) (by decide) (i_tup (e_to (d := v_value) (e_var (sl := (rVal.at v_value)) rfl ⟨rfl, nar_tup hu2, ⟨_, rVal, _, rfl, ⟨_, _, _, rVal, u2, (), _, t7, (), rBool, fun _ => [], rfl, lcO_mapO _ _ _ ht7, rfl, ?b6, fun _ => (ea_nil ⟨_, rfl, ⟨_, rfl, ⟨rfl, rfl⟩⟩⟩)⟩⟩⟩))))))))
      case b6 =>
        intro W1 T1 k4 x3 o u1 h
        obtain ⟨h, _⟩ := mapU h
        refine g_name ?_
        replace h := bindE h
        obtain ⟨r5, hr5, h⟩ := h
        replace h := pureE h
        subst h
        refine t_yes ⟨fun _ => ?_, fun z => nomatch z⟩
        refine (e_call (ea_cons (e_var (sl := (rVal.at x3)) rfl fun _ => (ea_nil ⟨x3, r5, [], hr5, rfl, rfl, ⟨_, rfl, rfl, rfl⟩⟩))))
  · replace h := condT hc h
    replace h := pureE h
    subst h
    refine s_ret (e_bl ?_)
    exact Rt.drop hrt .slnil
  · replace h := condF hc h
    refine s_next ?_
    replace h := bindE h
    obtain ⟨u12, hu12, h⟩ := h
    replace h := bindE h
    obtain ⟨l13, hl13, h⟩ := h
    replace h := bindE h
    obtain ⟨u14, hu14, h⟩ := h
    replace h := pureE h
    subst h
    refine s_ret (e_eqI (e_lenSetX (e_to (d := v_value) (e_var (sl := (rVal.at v_value)) rfl ⟨rfl, nar_tupT hu12, ⟨_, _, rfl, hl13, ⟨_, rfl, (e_lenT (ea_cons (e_to (d := v_value) (e_var (sl := (rVal.at v_value)) rfl ⟨rfl, nar_tup hu14, fun _ => (ea_nil ⟨_, rVal, _, rfl, ⟨_, rfl, ?_⟩⟩)⟩))))⟩⟩⟩))))
    exact Rt.drop hrt .slnil
def m_Roster_init (v_bits : PyData) : Option ((Int × (List (List Nat)) × (List Int) × (List ((List Nat) × (List Int)))) × (List Int)) :=
  bind (m_is_between v_bits (1 : Int) (8 : Int)) fun r1 =>
  (bif (!r1) then (none) else ((bind (oIntD v_bits) fun u2 => pure ((u2, ([] : List (List Nat)), ([] : List Int), ([] : List ((List Nat) × (List Int)))), ([] : List Int)))))
abbrev sp_Roster_init (K : PySem.W.Frag) (Z : Ads) : Sp := spM (ι := Addr × PyData) (β := ((Int × (List (List Nat)) × (List Int) × (List ((List Nat) × (List Int)))) × (List Int))) (fun i => [sRef i.1, rVal.at i.2]) (fun i => [(i.1, cObj Z.C_Roster [])]) (fun i => m_Roster_init i.2) (fun i b => rNon.at ()) (fun i b => [(i.1, cObj Z.C_Roster (fl_Roster Z b))])
abbrev N_Roster_init : List Str := ["self", "bits"]
theorem sc_Roster_init : FnScope N_Roster_init ["self", "bits"] (defScope s_Roster_init) := ⟨rfl, rfl, rfl, by decide +kernel, rfl, by decide +kernel, by decide +kernel⟩
theorem ok_Roster_init {P : Program} {w : World} {K : PySem.W.Frag} {Z : Ads} {mg : Str → Option Value} {base : Heap} (X : Tx K mg Z) (G_is_between : FnG P w K mg base CX0 1 X.f_is_between X.d_is_between ["value", "least", "most"] (sp_is_between K Z)) : FnG P w K mg base CX0 2 X.f_Roster_init X.d_Roster_init ["self", "bits"] (sp_Roster_init K Z) := by
  refine okG X.F_Roster_init sc_Roster_init (fun vs H Q E h => spM_len h fun _ => rfl) (fun cdv A outer s H vs Q E hr h => ?_)
  refine ⟨(tSeq (tIfS (tNot (tB (tCall (sp_is_between K Z) [] E0 (tCons (tVar 1) (tCons (tC (.int 1)) (tCons (tC (.int 8)) tNil)))))) tNo tNext) (tSeq (sFld K (tVar 0) (tTup (tCons (tVar 1) (tCons (tTup tNil) (tCons (tTup tNil) (tCons (tTup tNil) tNil))))) "present") (sFld K (tVar 0) (tLst tNil) "past"))), (pss_cons (ps_if (pt_not (pt_val (pe_callG (G_is_between) (hr.mono (by decide)) (by rfl) X.g_is_between X.F_is_between.kp X.b_is_between .nil pass0 (pa_cons (pv 1) (pa_cons pe_int (pa_cons (pe_glob rfl X.c_MOST_BITS ⟨_, rfl⟩) pa_nil)))))) (pss_one ps_no) pss_nil) (pss_cons (ps_fld (pv 0) (pe_tup (pa_cons (pv 1) (pa_cons (pe_tup pa_nil) (pa_cons (pe_tup pa_nil) (pa_cons (pe_tup pa_nil) pa_nil))))) rfl) (pss_one (ps_fld (pv 0) (pe_lst pa_nil) rfl)))), ?_⟩
  obtain ⟨⟨c, v_bits⟩, r, W, h, hcore, har, hrt⟩ := h
  refine body hcore har (Nat.le_of_ble_eq_true rfl) ?_
  clear hcore har
  change m_Roster_init v_bits = some r at h
  unfold m_Roster_init at h
  change NxT _ _ [some (sRef c), some (rVal.at v_bits)] _ [(c, cObj Z.C_Roster [])]
  replace h := bindE h
  obtain ⟨r1, hr1, h⟩ := h
  refine s_seq (s_if (t_not (t_val (e_call (ea_cons (e_var (sl := (rVal.at v_bits)) rfl fun _ => (ea_cons (e_int fun _ => (ea_cons (e_int fun _ => (ea_nil ⟨(v_bits, (1 : Int), (8 : Int)), r1, [(c, cObj Z.C_Roster [])], hr1, rfl, rfl, ⟨_, rfl, ⟨fun hc => ?_, fun hc => ?_⟩⟩⟩)))))))))))
  · replace h := condT hc h
    cases h
  · replace h := condF hc h
    refine s_next ?_
    replace h := bindE h
    obtain ⟨u2, hu2, h⟩ := h
    refine s_seq (s_fld 0 X.cl_Roster X.na_Roster_present (e_four (ea_cons (e_to (d := v_bits) (e_var (sl := (rVal.at v_bits)) rfl ⟨rfl, nar_int hu2, fun _ => (ea_cons (e_tup (ea_nil ⟨_, rTx, ([] : List (List Nat)), rfl, Nat.le_of_ble_eq_true rfl, fun _ => (ea_cons (e_tup (ea_nil ⟨_, rInt, ([] : List Int), rfl, Nat.le_of_ble_eq_true rfl, fun _ => (ea_cons (e_tup (ea_nil ⟨_, (rPair rTx (rTup rInt)), ([] : List ((List Nat) × (List Int))), rfl, Nat.le_of_ble_eq_true rfl, fun _ => (ea_nil ⟨_, _, _, _, rInt, (rTup rTx), (rTup rInt), (rTup (rPair rTx (rTup rInt))), u2, ([] : List (List Nat)), ([] : List Int), ([] : List ((List Nat) × (List Int))), rfl, fun _ => (e_var (sl := (sRef c)) rfl ⟨_, _, _, rfl, rfl, (show (0 : Nat) < 1000 by decide), .nil, ?_⟩)⟩)⟩)))⟩)))⟩)))⟩)))))
    change NxT _ _ [some (sRef c), some (rVal.at v_bits)] _ [(c, cObj Z.C_Roster [("present", ((rFour rInt (rTup rTx) (rTup rInt) (rTup (rPair rTx (rTup rInt)))).at (u2, ([] : List (List Nat)), ([] : List Int), ([] : List ((List Nat) × (List Int))))))])]
    refine (s_fld 0 X.cl_Roster X.na_Roster_past (e_lst (ea_nil ⟨_, rInt, ([] : List Int), rfl, Nat.le_of_ble_eq_true rfl, fun _ => (e_var (sl := (sRef c)) rfl ⟨_, _, _, rfl, rfl, (show (1 : Nat) < 1000 by decide), (.next (by decide +kernel) .nil), ?_⟩)⟩)))
    change NxT _ _ [some (sRef c), some (rVal.at v_bits)] _ [(c, cObj Z.C_Roster [("present", ((rFour rInt (rTup rTx) (rTup rInt) (rTup (rPair rTx (rTup rInt)))).at (u2, ([] : List (List Nat)), ([] : List Int), ([] : List ((List Nat) × (List Int)))))), ("past", ((rLst rInt).at ([] : List Int)))])]
    replace h := pureE h
    subst h
    refine s_fallN (Rt.drop hrt (.cons₂ _ .slnil))
def mX_Roster_init (v_bits : PyData) : Option (Nat × PyData) :=
  bind (m_is_between v_bits (1 : Int) (8 : Int)) fun r1 =>
  (bif (!r1) then (some (0, v_bits)) else none)
abbrev spX_Roster_init (K : PySem.W.Frag) (Z : Ads) (xt : XTL) : Sp := spXL xt (ι := (Addr × PyData)) (fun i => [sRef i.1, rVal.at i.2]) (fun i => [(i.1, cObj Z.C_Roster [])]) (fun i => mX_Roster_init i.2)
abbrev spR_Roster_init (K : PySem.W.Frag) (Z : Ads) (xt : XTL) : Sp := spRL xt (ι := (Addr × PyData)) (β := ((Int × (List (List Nat)) × (List Int) × (List ((List Nat) × (List Int)))) × (List Int))) (fun i => [sRef i.1, rVal.at i.2]) (fun i => [(i.1, cObj Z.C_Roster [])]) (fun i => rzOfV (mX_Roster_init i.2) (m_Roster_init i.2)) (fun i b => rNon.at ()) (fun i b => [(i.1, cObj Z.C_Roster (fl_Roster Z b))])
theorem okX_Roster_init {P : Program} {w : World} {K : PySem.W.Frag} {Z : Ads} {mg : Str → Option Value} {base : Heap} (X : Tx K mg Z) (PF : LP P X.fl_err) (G_is_between : FnG P w K mg base CX0 1 X.f_is_between X.d_is_between ["value", "least", "most"] (sp_is_between K Z)) : FnG P w K mg base (L2.CX P w) 3 X.f_Roster_init X.d_Roster_init ["self", "bits"] (spX_Roster_init K Z (xt_ X)) := by
  refine okR X.F_Roster_init sc_Roster_init (fun vs H Q E h => spXL_len h fun _ => rfl) (fun cdv A outer s H vs Q E hr tk h => ?_)
  refine ⟨(tSeq (tIfS (tNot (tB (tCall (sp_is_between K Z) [] E0 (tCons (tVar 1) (tCons (tC (.int 1)) (tCons (tC (.int 8)) tNil)))))) (tRaiseS X.ce_BadBits (spOne X.ce_BadBits "value") E (tCons (tVar 1) tNil)) tNext) tDead), (pss_cons (ps_if (pt_not (pt_val (pe_callG (G_is_between) (hr.mono (by decide)) (by rfl) X.g_is_between X.F_is_between.kp X.b_is_between .nil pass0 (pa_cons (pv 1) (pa_cons pe_int (pa_cons (pe_glob rfl X.c_MOST_BITS ⟨_, rfl⟩) pa_nil)))))) (pss_one (ps_raiseS rfl tk (pmk_one X.er_BadBits.oex X.er_BadBits.iC X.er_BadBits.tI (ini_BadBits X PF) (hr.rm.mono (by decide)) (bi_BadBits X) (by rfl) X.ge_BadBits (pv 1)))) pss_nil) pss_dead), ?_⟩
  obtain ⟨⟨c, v_bits⟩, xc, xv, W, h, hcore, har, hE⟩ := h
  refine body hcore har (Nat.le_of_ble_eq_true rfl) ?_
  clear hcore har
  change mX_Roster_init v_bits = some (xc, xv) at h
  unfold mX_Roster_init at h
  change NxT _ _ [some (sRef c), some (rVal.at v_bits)] _ [(c, cObj Z.C_Roster [])]
  replace h := bindE h
  obtain ⟨r1, hr1, h⟩ := h
  refine s_seq (s_if (t_not (t_val (e_call (ea_cons (e_var (sl := (rVal.at v_bits)) rfl fun _ => (ea_cons (e_int fun _ => (ea_cons (e_int fun _ => (ea_nil ⟨(v_bits, (1 : Int), (8 : Int)), r1, [(c, cObj Z.C_Roster [])], hr1, rfl, rfl, ⟨_, rfl, ⟨fun hc => ?_, fun hc => ?_⟩⟩⟩)))))))))))
  · replace h := condT hc h
    cases h
    exact s_raiseL1 (ea_cons (e_var (sl := (rVal.at v_bits)) rfl fun _ => (ea_nil ⟨_, rfl, hE⟩)))
  · replace h := condF hc h
    cases h
def m_Roster_bits (v_self : ((Int × (List (List Nat)) × (List Int) × (List ((List Nat) × (List Int)))) × (List Int))) : Option Int :=
  pure v_self.1.1
abbrev sp_Roster_bits (K : PySem.W.Frag) (Z : Ads) : Sp := spM (ι := ((Int × (List (List Nat)) × (List Int) × (List ((List Nat) × (List Int)))) × (List Int))) (β := Int) (fun i => [(rT_Roster Z).at i]) (fun i => []) (fun i => m_Roster_bits i) (fun i b => rInt.at b) (fun i b => [])
abbrev N_Roster_bits : List Str := ["self"]
theorem sc_Roster_bits : FnScope N_Roster_bits ["self"] (defScope s_Roster_bits) := ⟨rfl, rfl, rfl, by decide +kernel, rfl, by decide +kernel, by decide +kernel⟩
theorem ok_Roster_bits {P : Program} {w : World} {K : PySem.W.Frag} {Z : Ads} {mg : Str → Option Value} {base : Heap} (X : Tx K mg Z) : FnG P w K mg base CX0 1 X.f_Roster_bits X.d_Roster_bits ["self"] (sp_Roster_bits K Z) := by
  refine okG X.F_Roster_bits sc_Roster_bits (fun vs H Q E h => spM_len h fun _ => rfl) (fun cdv A outer s H vs Q E hr h => ?_)
  refine ⟨(tRet (tOp (rIxT K) (tFld K (tVar 0) "present") (tC (.int 0)))), (pss_one (ps_ret (pe_ix ix_tup (pe_fld (pv 0) rfl) pe_int (fun _ _ => rfl)))), ?_⟩
  obtain ⟨v_self, r, W, h, hcore, har, hrt⟩ := h
  refine body hcore har (Nat.le_of_ble_eq_true rfl) ?_
  clear hcore har
  change m_Roster_bits v_self = some r at h
  unfold m_Roster_bits at h
  change NxT _ _ [some ((rT_Roster Z).at v_self)] _ []
  replace h := pureE h
  subst h
  refine s_ret (e_ixF0 (e_fld (fl := fl_Roster Z) 0 X.cl_Roster X.na_Roster_present (nd_Roster Z) (e_var (sl := ((rT_Roster Z).at v_self)) rfl ⟨_, _, rfl, rfl, fun _ => (e_int ⟨_, _, _, _, rInt, (rTup rTx), (rTup rInt), (rTup (rPair rTx (rTup rInt))), _, rfl, rfl, ?_⟩)⟩)))
  exact Rt.drop hrt .slnil
def m_Roster_bits_C (o_self : ((Int × (List (List Nat)) × (List Int) × (List ((List Nat) × (List Int)))) × (List Int))) : Option Int :=
  pure o_self.1.1
abbrev sp_Roster_bits_C (K : PySem.W.Frag) (Z : Ads) : Sp := spM (ι := Addr × ((Int × (List (List Nat)) × (List Int) × (List ((List Nat) × (List Int)))) × (List Int))) (β := Int) (fun i => [sRef i.1]) (fun i => [(i.1, cObj Z.C_Roster [("present", (rFour rInt (rTup rTx) (rTup rInt) (rTup (rPair rTx (rTup rInt)))).at i.2.1), ("past", (rLst rInt).at i.2.2)])]) (fun i => m_Roster_bits_C i.2) (fun i b => rInt.at b) (fun i b => [(i.1, cObj Z.C_Roster [("present", (rFour rInt (rTup rTx) (rTup rInt) (rTup (rPair rTx (rTup rInt)))).at i.2.1), ("past", (rLst rInt).at i.2.2)])])
abbrev N_Roster_bits_C : List Str := ["self"]
theorem sc_Roster_bits_C : FnScope N_Roster_bits_C ["self"] (defScope s_Roster_bits) := ⟨rfl, rfl, rfl, by decide +kernel, rfl, by decide +kernel, by decide +kernel⟩
theorem ok_Roster_bits_C {P : Program} {w : World} {K : PySem.W.Frag} {Z : Ads} {mg : Str → Option Value} {base : Heap} (X : Tx K mg Z) : FnG P w K mg base CX0 1 X.f_Roster_bits X.d_Roster_bits ["self"] (sp_Roster_bits_C K Z) := by
  refine okG X.F_Roster_bits sc_Roster_bits_C (fun vs H Q E h => spM_len h fun _ => rfl) (fun cdv A outer s H vs Q E hr h => ?_)
  refine ⟨(tRet (tOp (rIxT K) (tFld K (tVar 0) "present") (tC (.int 0)))), (pss_one (ps_ret (pe_ix ix_tup (pe_fld (pv 0) rfl) pe_int (fun _ _ => rfl)))), ?_⟩
  obtain ⟨⟨a_self, o_self⟩, r, W, h, hcore, har, hrt⟩ := h
  refine body hcore har (Nat.le_of_ble_eq_true rfl) ?_
  clear hcore har
  change m_Roster_bits_C o_self = some r at h
  unfold m_Roster_bits_C at h
  change NxT _ _ [some (sRef a_self)] _ [(a_self, cObj Z.C_Roster [("present", ((rFour rInt (rTup rTx) (rTup rInt) (rTup (rPair rTx (rTup rInt)))).at o_self.1)), ("past", ((rLst rInt).at o_self.2))])]
  replace h := pureE h
  subst h
  refine s_ret (e_ixF0 (e_fldC 0 0 X.cl_Roster X.na_Roster_present (e_var (sl := (sRef a_self)) rfl ⟨_, _, _, rfl, rfl, (show (["present", "past"] : List Str).Nodup by decide +kernel), rfl, fun _ => (e_int ⟨_, _, _, _, rInt, (rTup rTx), (rTup rInt), (rTup (rPair rTx (rTup rInt))), _, rfl, rfl, ?_⟩)⟩)))
  exact Rt.drop hrt (.cons₂ _ .slnil)
def m_Roster_of (v_cls : Unit) (v_names : PyData) : Option ((Int × (List (List Nat)) × (List Int) × (List ((List Nat) × (List Int)))) × (List Int)) :=
  bind (m_are_names v_names) fun r1 =>
  bind (((bif (!r1) then (pure true) else ((bind (oTupD v_names) fun u2 => pure (decide ((12 : Int) < (u2.length : Int)))))) : Option Bool)) fun t3 =>
  (bif t3 then (none) else ((bind (oTupD v_names) fun u5 => (bind (m_Roster_init (PyData.int (max (1 : Int) ((Builtin.Int.intBits ((u5.length : Int) - (1 : Int)) : Nat) : Int)))) fun r6 => (bind (m_Roster_bits_C (r6.1, r6.2)) fun r8 => (bind (oTupT v_names) fun u9 => (bind (oTupD v_names) fun u10 => (bind (oRange 0 (u10.length : Int)) fun t11 => pure ((r8, u9, t11, ([] : List ((List Nat) × (List Int)))), r6.2)))))))))
abbrev sp_Roster_of (K : PySem.W.Frag) (Z : Ads) : Sp := spM (ι := Unit × PyData) (β := ((Int × (List (List Nat)) × (List Int) × (List ((List Nat) × (List Int)))) × (List Int))) (fun i => [(rClsO Z.C_Roster).at i.1, rVal.at i.2]) (fun i => []) (fun i => m_Roster_of i.1 i.2) (fun i b => (rT_Roster Z).at b) (fun i b => [])
abbrev N_Roster_of : List Str := ["cls", "names", "found"]
theorem sc_Roster_of : FnScope N_Roster_of ["cls", "names"] (defScope s_Roster_of) := ⟨rfl, rfl, rfl, by decide +kernel, rfl, by decide +kernel, by decide +kernel⟩
theorem ok_Roster_of {P : Program} {w : World} {K : PySem.W.Frag} {Z : Ads} {mg : Str → Option Value} {base : Heap} (X : Tx K mg Z) (G_Roster_init : FnG P w K mg base CX0 2 X.f_Roster_init X.d_Roster_init ["self", "bits"] (sp_Roster_init K Z)) (G_Roster_bits_C : FnG P w K mg base CX0 1 X.f_Roster_bits X.d_Roster_bits ["self"] (sp_Roster_bits_C K Z)) (G_are_names : FnG P w K mg base CX0 2 X.f_are_names X.d_are_names ["value"] (sp_are_names K Z)) : FnG P w K mg base CX0 4 X.f_Roster_of X.d_Roster_of ["cls", "names"] (sp_Roster_of K Z) := by
  refine okG X.F_Roster_of sc_Roster_of (fun vs H Q E h => spM_len h fun _ => rfl) (fun cdv A outer s H vs Q E hr h => ?_)
  refine ⟨(tSeq (tIfS (tOr (tNot (tB (tCall (sp_are_names K Z) [] E0 (tCons (tVar 1) tNil)))) (tTest (tOp rdGt (tCB (rdLen K) (tCons (tVar 1) tNil)) (ClX.tCVal K (tVar 0) "MOST")))) tNo tNext) (tSeq (tAsg (tMakeL Z.C_Roster (sp_Roster_init K Z) [] E0 (tVar 0) (tCons (tCB rdMax2 (tCons (tC (.int 1)) (tCons (tBits (tOp rdSub (tCB (rdLen K) (tCons (tVar 1) tNil)) (tC (.int 1)))) tNil))) tNil)) (gName 2)) (tSeq (sFld K (tVar 2) (tTup (tCons (tProp Z.C_Roster (sp_Roster_bits_C K Z) [] E0 (tVar 2)) (tCons (tVar 1) (tCons (tTupRg (tRg1 (tCB (rdLen K) (tCons (tVar 1) tNil)))) (tCons (tTup tNil) tNil))))) "present") (tRet (tVar 2))))), (pss_cons (ps_if (PW.pt (pw_or (pt_not (pt_val (pe_callG (G_are_names) (hr.mono (by decide)) (by rfl) X.g_are_names X.F_are_names.kp X.b_are_names .nil pass0 (pa_cons (pv 1) pa_nil)))) (pw_or1 (pt_cmpR op_gt (pe_callB call_len_seq (by rfl) X.z_len bt_len (pa_cons (pv 1) pa_nil)) (ClX.pe_cval (pv 0)) (nomark _))))) (pss_one ps_no) pss_nil) (pss_cons (ps_set (i := 2) sc_Roster_of.nd rfl (Or.inl rfl) (pe_makeL (pv 0) X.mk_Roster G_Roster_init (hr.mono (by decide)) X.b_Roster_init .nil pass0 (pa_cons (pe_callB (call_max2 rfl) (by rfl) X.z_max bt_max (pa_cons pe_int (pa_cons (pe_bits (pe_op op_sub (pe_callB call_len_seq (by rfl) X.z_len bt_len (pa_cons (pv 1) pa_nil)) pe_int)) pa_nil))) pa_nil))) (pss_cons (ps_fld (pv 2) (pe_tup (pa_cons (pe_propG (pv 2) X.cl_Roster X.pr_Roster_bits G_Roster_bits_C (hr.mono (by decide)) X.b_Roster_bits pass0) (pa_cons (pv 1) (pa_cons (pe_tupRg rfl (by rfl) X.z_tuple (prg_1 (by rfl) X.z_range (pe_callB call_len_seq (by rfl) X.z_len bt_len (pa_cons (pv 1) pa_nil)))) (pa_cons (pe_tup pa_nil) pa_nil))))) rfl) (pss_one (ps_ret (pv 2)))))), ?_⟩
  obtain ⟨⟨v_cls, v_names⟩, r, W, h, hcore, har, hrt⟩ := h
  refine body hcore har (Nat.le_of_ble_eq_true rfl) ?_
  clear hcore har
  change m_Roster_of v_cls v_names = some r at h
  unfold m_Roster_of at h
  change NxT _ _ [some ((rClsO Z.C_Roster).at v_cls), some (rVal.at v_names), none] _ []
  replace h := bindE h
  obtain ⟨r1, hr1, h⟩ := h
  replace h := bindE h
  obtain ⟨t3, ht3, h⟩ := h
  refine s_seq (s_if (t_or (c := (!r1)) (d := t3) (t_not (t_val (e_call (ea_cons (e_var (sl := (rVal.at v_names)) rfl fun _ => (ea_nil ⟨v_names, r1, [], hr1, rfl, rfl, ⟨_, rfl, ⟨rfl, ?b4, fun hc => ⟨pureE' (condT hc ht3), rfl⟩⟩⟩⟩)))))) ⟨fun hc => ?_, fun hc => ?_⟩))
  case b4 =>
    intro hc
    have h := condF hc ht3
    replace h := bindE h
    obtain ⟨u2, hu2, h⟩ := h
    replace h := pureE h
    subst h
    refine (t_test (e_opB0 (g := fun i j => decide (j < i)) (e_lenT (ea_cons (e_to (d := v_names) (e_var (sl := (rVal.at v_names)) rfl ⟨rfl, nar_tup hu2, fun _ => (ea_nil ⟨_, rVal, _, rfl, ⟨_, rfl, (e_cvalI X.cr_Roster X.cv_Roster_MOST (e_var (sl := ((rClsO Z.C_Roster).at v_cls)) rfl ⟨rfl, ⟨_, rfl, ⟨_, rfl, ⟨rfl, rfl⟩⟩⟩⟩))⟩⟩)⟩))))))
  · replace h := condT hc h
    cases h
  · replace h := condF hc h
    refine s_next ?_
    replace h := bindE h
    obtain ⟨u5, hu5, h⟩ := h
    replace h := bindE h
    obtain ⟨r6, hr6, h⟩ := h
    refine s_seq (s_set (e_makeL (e_var (sl := ((rClsO Z.C_Roster).at v_cls)) rfl ⟨rfl, (e_makeK (ι := PyData) (β := ((Int × (List (List Nat)) × (List Int) × (List ((List Nat) × (List Int)))) × (List Int))) (C := Z.C_Roster) (E := E0) (fl := fl_Roster Z) (A := fun p i => [sRef p, rVal.at i]) (m := fun i => m_Roster_init i) (ea_cons (e_asV (d := (PyData.int (max (1 : Int) ((Builtin.Int.intBits ((u5.length : Int) - (1 : Int)) : Nat) : Int)))) (e_max2 (ea_cons (e_int fun _ => (ea_cons (e_bits (e_opI0 (g := fun i j => i - j) (e_lenT (ea_cons (e_to (d := v_names) (e_var (sl := (rVal.at v_names)) rfl ⟨rfl, nar_tup hu5, fun _ => (ea_nil ⟨_, rVal, _, rfl, ⟨_, rfl, (e_int ⟨_, rfl, ⟨_, rfl, fun _ => (ea_nil ⟨_, _, rfl, ⟨asV_of vInt _, fun _ => (ea_nil ⟨((PyData.int (max (1 : Int) ((Builtin.Int.intBits ((u5.length : Int) - (1 : Int)) : Nat) : Int)))), _, hr6, fun _ => rfl, fun px7 => ?_⟩)⟩⟩)⟩⟩)⟩⟩)⟩)))))))))))))⟩)))
    change NxT _ _ [some ((rClsO Z.C_Roster).at v_cls), some (rVal.at v_names), some (sRef px7)] _ [(px7, cObj Z.C_Roster [("present", ((rFour rInt (rTup rTx) (rTup rInt) (rTup (rPair rTx (rTup rInt)))).at r6.1)), ("past", ((rLst rInt).at r6.2))])]
    replace h := bindE h
    obtain ⟨r8, hr8, h⟩ := h
    replace h := bindE h
    obtain ⟨u9, hu9, h⟩ := h
    replace h := bindE h
    obtain ⟨u10, hu10, h⟩ := h
    replace h := bindE h
    obtain ⟨t11, ht11, h⟩ := h
    refine s_seq (s_fld 0 X.cl_Roster X.na_Roster_present (e_four (ea_cons (e_propC (E := E0) (ι := Addr × ((Int × (List (List Nat)) × (List Int) × (List ((List Nat) × (List Int)))) × (List Int))) (β := Int) (A := fun i => [sRef i.1]) (ci := fun i => [(i.1, cObj Z.C_Roster [("present", (rFour rInt (rTup rTx) (rTup rInt) (rTup (rPair rTx (rTup rInt)))).at i.2.1), ("past", (rLst rInt).at i.2.2)])]) (m := fun i => m_Roster_bits_C i.2) (res := fun i b => rInt.at b) (co := fun i b => [(i.1, cObj Z.C_Roster [("present", (rFour rInt (rTup rTx) (rTup rInt) (rTup (rPair rTx (rTup rInt)))).at i.2.1), ("past", (rLst rInt).at i.2.2)])]) 0 (e_var (sl := (sRef px7)) rfl ⟨_, _, rfl, rfl, (px7, (r6.1, r6.2)), r8, [], hr8, rfl, (List.Perm.refl _), fun _ => (ea_cons (e_to (d := v_names) (e_var (sl := (rVal.at v_names)) rfl ⟨rfl, nar_tupT hu9, fun _ => (ea_cons (e_tupRg (er_1 (e_lenT (ea_cons (e_to (d := v_names) (e_var (sl := (rVal.at v_names)) rfl ⟨rfl, nar_tup hu10, fun _ => (ea_nil ⟨_, rVal, _, rfl, ⟨_, rfl, ⟨_, ht11, fun _ => (ea_cons (e_tup (ea_nil ⟨_, (rPair rTx (rTup rInt)), ([] : List ((List Nat) × (List Int))), rfl, Nat.le_of_ble_eq_true rfl, fun _ => (ea_nil ⟨_, _, _, _, rInt, (rTup rTx), (rTup rInt), (rTup (rPair rTx (rTup rInt))), r8, u9, t11, ([] : List ((List Nat) × (List Int))), rfl, fun _ => (e_var (sl := (sRef px7)) rfl ⟨_, _, _, rfl, rfl, (show (2 : Nat) < 1000 by decide), (.here _ _), ?_⟩)⟩)⟩)))⟩⟩⟩)⟩)))))))⟩)))⟩)))))
    change NxT _ _ [some ((rClsO Z.C_Roster).at v_cls), some (rVal.at v_names), some (sRef px7)] _ [(px7, cObj Z.C_Roster [("present", ((rFour rInt (rTup rTx) (rTup rInt) (rTup (rPair rTx (rTup rInt)))).at (r8, u9, t11, ([] : List ((List Nat) × (List Int)))))), ("past", ((rLst rInt).at r6.2))])]
    replace h := pureE h
    subst h
    refine s_ret (e_still (fl := fl_Roster Z) 0 (e_var (sl := (sRef px7)) rfl ⟨_, ((r8, u9, t11, ([] : List ((List Nat) × (List Int)))), r6.2), rfl, rfl, ?_⟩))
    exact Rt.drop hrt .slnil
def mX_Roster_of (v_cls : Unit) (v_names : PyData) : Option (Nat × PyData) :=
  bind (m_are_names v_names) fun r1 =>
  bind (((bif (!r1) then (pure true) else ((bind (oTupD v_names) fun u2 => pure (decide ((12 : Int) < (u2.length : Int)))))) : Option Bool)) fun t3 =>
  (bif t3 then (some (1, v_names)) else none)
abbrev spX_Roster_of (K : PySem.W.Frag) (Z : Ads) (xt : XTL) : Sp := spXL xt (ι := (Unit × PyData)) (fun i => [(rClsO Z.C_Roster).at i.1, rVal.at i.2]) (fun i => []) (fun i => mX_Roster_of i.1 i.2)
abbrev spR_Roster_of (K : PySem.W.Frag) (Z : Ads) (xt : XTL) : Sp := spRL xt (ι := (Unit × PyData)) (β := ((Int × (List (List Nat)) × (List Int) × (List ((List Nat) × (List Int)))) × (List Int))) (fun i => [(rClsO Z.C_Roster).at i.1, rVal.at i.2]) (fun i => []) (fun i => rzOfV (mX_Roster_of i.1 i.2) (m_Roster_of i.1 i.2)) (fun i b => (rT_Roster Z).at b) (fun i b => [])
theorem okX_Roster_of {P : Program} {w : World} {K : PySem.W.Frag} {Z : Ads} {mg : Str → Option Value} {base : Heap} (X : Tx K mg Z) (PF : LP P X.fl_err) (G_are_names : FnG P w K mg base CX0 2 X.f_are_names X.d_are_names ["value"] (sp_are_names K Z)) : FnG P w K mg base (L2.CX P w) 3 X.f_Roster_of X.d_Roster_of ["cls", "names"] (spX_Roster_of K Z (xt_ X)) := by
  refine okR X.F_Roster_of sc_Roster_of (fun vs H Q E h => spXL_len h fun _ => rfl) (fun cdv A outer s H vs Q E hr tk h => ?_)
  refine ⟨(tSeq (tIfS (tOr (tNot (tB (tCall (sp_are_names K Z) [] E0 (tCons (tVar 1) tNil)))) (tTest (tOp rdGt (tCB (rdLen K) (tCons (tVar 1) tNil)) (ClX.tCVal K (tVar 0) "MOST")))) (tRaiseS X.ce_BadNames (spOne X.ce_BadNames "value") E (tCons (tVar 1) tNil)) tNext) tDead), (pss_cons (ps_if (PW.pt (pw_or (pt_not (pt_val (pe_callG (G_are_names) (hr.mono (by decide)) (by rfl) X.g_are_names X.F_are_names.kp X.b_are_names .nil pass0 (pa_cons (pv 1) pa_nil)))) (pw_or1 (pt_cmpR op_gt (pe_callB call_len_seq (by rfl) X.z_len bt_len (pa_cons (pv 1) pa_nil)) (ClX.pe_cval (pv 0)) (nomark _))))) (pss_one (ps_raiseS rfl tk (pmk_one X.er_BadNames.oex X.er_BadNames.iC X.er_BadNames.tI (ini_BadNames X PF) (hr.rm.mono (by decide)) (bi_BadNames X) (by rfl) X.ge_BadNames (pv 1)))) pss_nil) pss_dead), ?_⟩
  obtain ⟨⟨v_cls, v_names⟩, xc, xv, W, h, hcore, har, hE⟩ := h
  refine body hcore har (Nat.le_of_ble_eq_true rfl) ?_
  clear hcore har
  change mX_Roster_of v_cls v_names = some (xc, xv) at h
  unfold mX_Roster_of at h
  change NxT _ _ [some ((rClsO Z.C_Roster).at v_cls), some (rVal.at v_names), none] _ []
  replace h := bindE h
  obtain ⟨r1, hr1, h⟩ := h
  replace h := bindE h
  obtain ⟨t3, ht3, h⟩ := h
  refine s_seq (s_if (t_or (c := (!r1)) (d := t3) (t_not (t_val (e_call (ea_cons (e_var (sl := (rVal.at v_names)) rfl fun _ => (ea_nil ⟨v_names, r1, [], hr1, rfl, rfl, ⟨_, rfl, ⟨rfl, ?b4, fun hc => ⟨pureE' (condT hc ht3), rfl⟩⟩⟩⟩)))))) ⟨fun hc => ?_, fun hc => ?_⟩))
  case b4 =>
    intro hc
    have h := condF hc ht3
    replace h := bindE h
    obtain ⟨u2, hu2, h⟩ := h
    replace h := pureE h
    subst h
    refine (t_test (e_opB0 (g := fun i j => decide (j < i)) (e_lenT (ea_cons (e_to (d := v_names) (e_var (sl := (rVal.at v_names)) rfl ⟨rfl, nar_tup hu2, fun _ => (ea_nil ⟨_, rVal, _, rfl, ⟨_, rfl, (e_cvalI X.cr_Roster X.cv_Roster_MOST (e_var (sl := ((rClsO Z.C_Roster).at v_cls)) rfl ⟨rfl, ⟨_, rfl, ⟨_, rfl, ⟨rfl, rfl⟩⟩⟩⟩))⟩⟩)⟩))))))
  · replace h := condT hc h
    cases h
    exact s_raiseL1 (ea_cons (e_var (sl := (rVal.at v_names)) rfl fun _ => (ea_nil ⟨_, rfl, hE⟩)))
  · replace h := condF hc h
    cases h
def m_Roster_names (v_self : ((Int × (List (List Nat)) × (List Int) × (List ((List Nat) × (List Int)))) × (List Int))) : Option (List (List Nat)) :=
  pure v_self.1.2.1
abbrev sp_Roster_names (K : PySem.W.Frag) (Z : Ads) : Sp := spM (ι := ((Int × (List (List Nat)) × (List Int) × (List ((List Nat) × (List Int)))) × (List Int))) (β := (List (List Nat))) (fun i => [(rT_Roster Z).at i]) (fun i => []) (fun i => m_Roster_names i) (fun i b => (rTup rTx).at b) (fun i b => [])
abbrev N_Roster_names : List Str := ["self"]
theorem sc_Roster_names : FnScope N_Roster_names ["self"] (defScope s_Roster_names) := ⟨rfl, rfl, rfl, by decide +kernel, rfl, by decide +kernel, by decide +kernel⟩
theorem ok_Roster_names {P : Program} {w : World} {K : PySem.W.Frag} {Z : Ads} {mg : Str → Option Value} {base : Heap} (X : Tx K mg Z) : FnG P w K mg base CX0 1 X.f_Roster_names X.d_Roster_names ["self"] (sp_Roster_names K Z) := by
  refine okG X.F_Roster_names sc_Roster_names (fun vs H Q E h => spM_len h fun _ => rfl) (fun cdv A outer s H vs Q E hr h => ?_)
  refine ⟨(tRet (tOp (rIxT K) (tFld K (tVar 0) "present") (tC (.int 1)))), (pss_one (ps_ret (pe_ix ix_tup (pe_fld (pv 0) rfl) pe_int (fun _ _ => rfl)))), ?_⟩
  obtain ⟨v_self, r, W, h, hcore, har, hrt⟩ := h
  refine body hcore har (Nat.le_of_ble_eq_true rfl) ?_
  clear hcore har
  change m_Roster_names v_self = some r at h
  unfold m_Roster_names at h
  change NxT _ _ [some ((rT_Roster Z).at v_self)] _ []
  replace h := pureE h
  subst h
  refine s_ret (e_ixF1 (e_fld (fl := fl_Roster Z) 0 X.cl_Roster X.na_Roster_present (nd_Roster Z) (e_var (sl := ((rT_Roster Z).at v_self)) rfl ⟨_, _, rfl, rfl, fun _ => (e_int ⟨_, _, _, _, rInt, (rTup rTx), (rTup rInt), (rTup (rPair rTx (rTup rInt))), _, rfl, rfl, ?_⟩)⟩)))
  exact Rt.drop hrt .slnil
def m_Roster_numbers (v_self : ((Int × (List (List Nat)) × (List Int) × (List ((List Nat) × (List Int)))) × (List Int))) : Option (List Int) :=
  pure v_self.1.2.2.1
abbrev sp_Roster_numbers (K : PySem.W.Frag) (Z : Ads) : Sp := spM (ι := ((Int × (List (List Nat)) × (List Int) × (List ((List Nat) × (List Int)))) × (List Int))) (β := (List Int)) (fun i => [(rT_Roster Z).at i]) (fun i => []) (fun i => m_Roster_numbers i) (fun i b => (rTup rInt).at b) (fun i b => [])
abbrev N_Roster_numbers : List Str := ["self"]
theorem sc_Roster_numbers : FnScope N_Roster_numbers ["self"] (defScope s_Roster_numbers) := ⟨rfl, rfl, rfl, by decide +kernel, rfl, by decide +kernel, by decide +kernel⟩
theorem ok_Roster_numbers {P : Program} {w : World} {K : PySem.W.Frag} {Z : Ads} {mg : Str → Option Value} {base : Heap} (X : Tx K mg Z) : FnG P w K mg base CX0 1 X.f_Roster_numbers X.d_Roster_numbers ["self"] (sp_Roster_numbers K Z) := by
  refine okG X.F_Roster_numbers sc_Roster_numbers (fun vs H Q E h => spM_len h fun _ => rfl) (fun cdv A outer s H vs Q E hr h => ?_)
  refine ⟨(tRet (tOp (rIxT K) (tFld K (tVar 0) "present") (tC (.int 2)))), (pss_one (ps_ret (pe_ix ix_tup (pe_fld (pv 0) rfl) pe_int (fun _ _ => rfl)))), ?_⟩
  obtain ⟨v_self, r, W, h, hcore, har, hrt⟩ := h
  refine body hcore har (Nat.le_of_ble_eq_true rfl) ?_
  clear hcore har
  change m_Roster_numbers v_self = some r at h
  unfold m_Roster_numbers at h
  change NxT _ _ [some ((rT_Roster Z).at v_self)] _ []
  replace h := pureE h
  subst h
  refine s_ret (e_ixF2 (e_fld (fl := fl_Roster Z) 0 X.cl_Roster X.na_Roster_present (nd_Roster Z) (e_var (sl := ((rT_Roster Z).at v_self)) rfl ⟨_, _, rfl, rfl, fun _ => (e_int ⟨_, _, _, _, rInt, (rTup rTx), (rTup rInt), (rTup (rPair rTx (rTup rInt))), _, rfl, rfl, ?_⟩)⟩)))
  exact Rt.drop hrt .slnil
def m_Roster_titles (v_self : ((Int × (List (List Nat)) × (List Int) × (List ((List Nat) × (List Int)))) × (List Int))) : Option (List (List Nat)) :=
  pure (v_self.1.2.2.2.map fun (x1 : ((List Nat) × (List Int))) => x1.1)
abbrev sp_Roster_titles (K : PySem.W.Frag) (Z : Ads) : Sp := spM (ι := ((Int × (List (List Nat)) × (List Int) × (List ((List Nat) × (List Int)))) × (List Int))) (β := (List (List Nat))) (fun i => [(rT_Roster Z).at i]) (fun i => []) (fun i => m_Roster_titles i) (fun i b => (rTup rTx).at b) (fun i b => [])
abbrev N_Roster_titles : List Str := ["self", "title", "group"]
theorem sc_Roster_titles : FnScope N_Roster_titles ["self"] (defScope s_Roster_titles) := ⟨rfl, rfl, rfl, by decide +kernel, rfl, by decide +kernel, by decide +kernel⟩
theorem ok_Roster_titles {P : Program} {w : World} {K : PySem.W.Frag} {Z : Ads} {mg : Str → Option Value} {base : Heap} (X : Tx K mg Z) : FnG P w K mg base CX0 1 X.f_Roster_titles X.d_Roster_titles ["self"] (sp_Roster_titles K Z) := by
  refine okG X.F_Roster_titles sc_Roster_titles (fun vs H Q E h => spM_len h fun _ => rfl) (fun cdv A outer s H vs Q E hr h => ?_)
  refine ⟨(tRet (tCB (rdTupleOf K) (tCons (tLc (iTup K (tOp (rIxT K) (tFld K (tVar 0) "present") (tC (.int 3)))) (gTup K 2 (gCons (gName 1) (gCons (gName 2) gNil))) tYes (tVar 1) [1, 2]) tNil))), (pss_one (ps_ret (pe_callTy call_tuple_of (by rfl) X.z_tuple bt_tuple (pa_cons (pe_lc (own := [("title", 1), ("group", 2)]) (g := (gTup K 2 (gCons (gName 1) (gCons (gName 2) gNil)))) (tt := tYes) (te := (tVar 1)) rfl sc_Roster_titles.nd (pi_tup (pe_ix ix_tup (pe_fld (pv 0) rfl) pe_int (fun _ _ => rfl))) (blkOk_by (N := N_Roster_titles) (sc := (defScope s_Roster_titles)) (by decide +kernel)) (fun _ _ _ _ _ => (pg_tup rfl (pgs_cons (pg_name (i := 1) sc_Roster_titles.nd rfl (Or.inl rfl)) (pgs_cons (pg_name (i := 2) sc_Roster_titles.nd rfl (Or.inl rfl)) pgs_nil)))) (fun _ _ _ _ _ => pts_nil) (fun _ _ _ _ _ => (pv 1))) pa_nil)))), ?_⟩
  obtain ⟨v_self, r, W, h, hcore, har, hrt⟩ := h
  refine body hcore har (Nat.le_of_ble_eq_true rfl) ?_
  clear hcore har
  change m_Roster_titles v_self = some r at h
  unfold m_Roster_titles at h
  change NxT _ _ [some ((rT_Roster Z).at v_self), none, none] _ []
  replace h := pureE h
  subst h
  refine s_ret (e_tupL (ea_cons (lc_sound (is := [1, 2]) (by decide) (i_tup (e_ixF3 (e_fld (fl := fl_Roster Z) 0 X.cl_Roster X.na_Roster_present (nd_Roster Z) (e_var (sl := ((rT_Roster Z).at v_self)) rfl ⟨_, _, rfl, rfl, fun _ => (e_int ⟨_, _, _, _, rInt, (rTup rTx), (rTup rInt), (rTup (rPair rTx (rTup rInt))), _, rfl, rfl, ⟨_, (rPair rTx (rTup rInt)), _, rfl, ⟨_, _, _, (rPair rTx (rTup rInt)), v_self.1.2.2.2, (), fun (u : Unit) (x1 : ((List Nat) × (List Int))) => some (some x1.1, u), (v_self.1.2.2.2.map fun (x1 : ((List Nat) × (List Int))) => x1.1), (), rTx, fun _ => [], rfl, lcO_map _ _, rfl, ?b3, fun _ => (ea_nil ⟨_, rTx, _, rfl, ?_⟩)⟩⟩⟩)⟩)))))))
  case b3 =>
    intro W1 T1 k2 x1 o u1 h
    refine g_pair ?_
    cases h
    refine t_yes ⟨fun _ => ?_, fun z => nomatch z⟩
    refine (e_var (sl := (rTx.at x1.1)) rfl ⟨_, rfl, rfl, rfl⟩)
  exact Rt.drop hrt .slnil
def m_Roster_len (v_self : ((Int × (List (List Nat)) × (List Int) × (List ((List Nat) × (List Int)))) × (List Int))) : Option Int :=
  pure (v_self.1.2.1.length : Int)
abbrev sp_Roster_len (K : PySem.W.Frag) (Z : Ads) : Sp := spM (ι := ((Int × (List (List Nat)) × (List Int) × (List ((List Nat) × (List Int)))) × (List Int))) (β := Int) (fun i => [(rT_Roster Z).at i]) (fun i => []) (fun i => m_Roster_len i) (fun i b => rInt.at b) (fun i b => [])
abbrev N_Roster_len : List Str := ["self"]
theorem sc_Roster_len : FnScope N_Roster_len ["self"] (defScope s_Roster_len) := ⟨rfl, rfl, rfl, by decide +kernel, rfl, by decide +kernel, by decide +kernel⟩
theorem ok_Roster_len {P : Program} {w : World} {K : PySem.W.Frag} {Z : Ads} {mg : Str → Option Value} {base : Heap} (X : Tx K mg Z) : FnG P w K mg base CX0 1 X.f_Roster_len X.d_Roster_len ["self"] (sp_Roster_len K Z) := by
  refine okG X.F_Roster_len sc_Roster_len (fun vs H Q E h => spM_len h fun _ => rfl) (fun cdv A outer s H vs Q E hr h => ?_)
  refine ⟨(tRet (tCB (rdLen K) (tCons (tOp (rIxT K) (tFld K (tVar 0) "present") (tC (.int 1))) tNil))), (pss_one (ps_ret (pe_callB call_len_seq (by rfl) X.z_len bt_len (pa_cons (pe_ix ix_tup (pe_fld (pv 0) rfl) pe_int (fun _ _ => rfl)) pa_nil)))), ?_⟩
  obtain ⟨v_self, r, W, h, hcore, har, hrt⟩ := h
  refine body hcore har (Nat.le_of_ble_eq_true rfl) ?_
  clear hcore har
  change m_Roster_len v_self = some r at h
  unfold m_Roster_len at h
  change NxT _ _ [some ((rT_Roster Z).at v_self)] _ []
  replace h := pureE h
  subst h
  refine s_ret (e_lenT (ea_cons (e_ixF1 (e_fld (fl := fl_Roster Z) 0 X.cl_Roster X.na_Roster_present (nd_Roster Z) (e_var (sl := ((rT_Roster Z).at v_self)) rfl ⟨_, _, rfl, rfl, fun _ => (e_int ⟨_, _, _, _, rInt, (rTup rTx), (rTup rInt), (rTup (rPair rTx (rTup rInt))), _, rfl, rfl, fun _ => (ea_nil ⟨_, rTx, _, rfl, ?_⟩)⟩)⟩)))))
  exact Rt.drop hrt .slnil
def m_Roster_eq (v_self : ((Int × (List (List Nat)) × (List Int) × (List ((List Nat) × (List Int)))) × (List Int))) (v_other : ((Int × (List (List Nat)) × (List Int) × (List ((List Nat) × (List Int)))) × (List Int))) : Option Bool :=
  bind (((bif true then ((bind (oEq0 (e0Four (e0 eInt) (e0Tup e0Tx) (e0Tup (e0 eInt)) (e0Tup (e0Pair e0Tx (e0Tup (e0 eInt))))) v_self.1 v_other.1) fun t1 => pure t1)) else (pure false)) : Option Bool)) fun t2 =>
  pure t2
abbrev sp_Roster_eq (K : PySem.W.Frag) (Z : Ads) : Sp := spM (ι := ((Int × (List (List Nat)) × (List Int) × (List ((List Nat) × (List Int)))) × (List Int)) × ((Int × (List (List Nat)) × (List Int) × (List ((List Nat) × (List Int)))) × (List Int))) (β := Bool) (fun i => [(rT_Roster Z).at i.1, (rT_Roster Z).at i.2]) (fun i => []) (fun i => m_Roster_eq i.1 i.2) (fun i b => rBool.at b) (fun i b => [])
abbrev N_Roster_eq : List Str := ["self", "other"]
theorem sc_Roster_eq : FnScope N_Roster_eq ["self", "other"] (defScope s_Roster_eq) := ⟨rfl, rfl, rfl, by decide +kernel, rfl, by decide +kernel, by decide +kernel⟩
theorem ok_Roster_eq {P : Program} {w : World} {K : PySem.W.Frag} {Z : Ads} {mg : Str → Option Value} {base : Heap} (X : Tx K mg Z) : FnG P w K mg base CX0 1 X.f_Roster_eq X.d_Roster_eq ["self", "other"] (sp_Roster_eq K Z) := by
  refine okG X.F_Roster_eq sc_Roster_eq (fun vs H Q E h => spM_len h fun _ => rfl) (fun cdv A outer s H vs Q E hr h => ?_)
  refine ⟨(tRet (tAndV (tCB (rIsi K) (tCons (tVar 1) (tCons (tC (.ref Z.C_Roster)) tNil))) (tOp (rEqD K) (tFld K (tVar 0) "present") (tFld K (tVar 1) "present")))), (pss_one (ps_ret (pe_and (pe_callB call_isi (by rfl) X.z_isinstance bt_isinstance (pa_cons (pv 1) (pa_cons (pe_glob rfl X.gc_Roster rfl) pa_nil))) (pe_one (pe_cmpR (op_eqD hr.units) (pe_fld (pv 0) rfl) (pe_fld (pv 1) rfl) (nomark _)))))), ?_⟩
  obtain ⟨⟨v_self, v_other⟩, r, W, h, hcore, har, hrt⟩ := h
  refine body hcore har (Nat.le_of_ble_eq_true rfl) ?_
  clear hcore har
  change m_Roster_eq v_self v_other = some r at h
  unfold m_Roster_eq at h
  change NxT _ _ [some ((rT_Roster Z).at v_self), some ((rT_Roster Z).at v_other)] _ []
  replace h := bindE h
  obtain ⟨t2, ht2, h⟩ := h
  replace h := pureE h
  subst h
  refine s_ret (e_and (c := true) (d := t2) (e_isiO (ty := .ref Z.C_Roster) (D := Z.C_Roster) (b := true) (ea_cons (e_var (sl := ((rT_Roster Z).at v_other)) rfl fun _ => (ea_cons (e_clsO (fun _ => (ea_nil ⟨_, _, _, rec_ty X.is_Roster, rfl, kitOne_self _ _, ⟨rfl, ?b3, fun hc => ⟨pureE' (condF hc ht2), rfl⟩⟩⟩))))))) ?_)
  case b3 =>
    intro hc
    have h := condT hc ht2
    replace h := bindE h
    obtain ⟨t1, ht1, h⟩ := h
    replace h := pureE h
    subst h
    refine (e_eq0 (e_fld (fl := fl_Roster Z) 0 X.cl_Roster X.na_Roster_present (nd_Roster Z) (e_var (sl := ((rT_Roster Z).at v_self)) rfl ⟨_, _, rfl, rfl, fun _ => (e_fld (fl := fl_Roster Z) 0 X.cl_Roster X.na_Roster_present (nd_Roster Z) (e_var (sl := ((rT_Roster Z).at v_other)) rfl ⟨_, _, rfl, rfl, ⟨_, inferInstance, _, (e0Four (e0 eInt) (e0Tup e0Tx) (e0Tup (e0 eInt)) (e0Tup (e0Pair e0Tx (e0Tup (e0 eInt))))), _, _, _, by decide, rfl, rfl, ht1, ⟨rfl, rfl⟩⟩⟩))⟩)))
  exact Rt.drop hrt .slnil
def m_Roster_tests (v_self : ((Int × (List (List Nat)) × (List Int) × (List ((List Nat) × (List Int)))) × (List Int))) : Option (List Int) :=
  bind (m_Roster_titles v_self) fun r1 =>
  empO r1
abbrev sp_Roster_tests (K : PySem.W.Frag) (Z : Ads) : List V → Hp → List Int → Prop := fun vs G ys => ∃ i : ((Int × (List (List Nat)) × (List Int) × (List ((List Nat) × (List Int)))) × (List Int)), Args G [(rT_Roster Z).at i] vs ∧ m_Roster_tests i = some ys
abbrev N_Roster_tests : List Str := ["self", "title"]
theorem sc_Roster_tests : PlainScope N_Roster_tests ["self"] (defScope s_Roster_tests) := ⟨⟨rfl, rfl, rfl, by decide +kernel, rfl, by decide +kernel, by decide +kernel⟩, by decide +kernel⟩
theorem ok_Roster_tests {P : Program} {w : World} {K : PySem.W.Frag} {Z : Ads} {mg : Str → Option Value} {base : Heap} (X : Tx K mg Z) (G_Roster_titles : FnG P w K mg base CX0 1 X.f_Roster_titles X.d_Roster_titles ["self"] (sp_Roster_titles K Z)) : GenFn P w K mg base 2 X.f_Roster_tests X.d_Roster_tests ["self"] rInt (sp_Roster_tests K Z) := by
  refine okGen X.F_Roster_tests sc_Roster_tests (fun vs G ys ⟨i, ar, _⟩ => ar.length.symm) (fun Xc pins L A Wt cdv vs G0 ys e1 e2 e3 e4 e5 hsp hr Zp => ?_)
  subst e1 e2 e3 e4 e5
  obtain ⟨v_self, ar, h⟩ := hsp
  refine ⟨_, slots_start ar (Nat.le_of_ble_eq_true rfl), fun K1 J1 c1 hgc hk => ?_⟩
  change m_Roster_tests v_self = some ys at h
  unfold m_Roster_tests at h
  clear ar
  change Gg _ _ _ [some ((rT_Roster Z).at v_self), none] _ _ _ _ _ _
  replace h := bindE h
  obtain ⟨r1, hr1, h⟩ := h
  obtain ⟨et, rfl⟩ := empO_ok h
  subst et
  refine gg_cons (gg_plain (t := tFor (iTup Xc.K (tProp Z.C_Roster (sp_Roster_titles Xc.K Z) [] E0 (tVar 0))) (gName 1) tNo) (Gm' := [some ((rT_Roster Z).at v_self), none]) (cs' := []) hgc (fun _ _ _ => (ps_for PassesOwn.never rfl (pi_tup (pe_propG (pv 0) X.cl_Roster X.pr_Roster_titles G_Roster_titles (hr.mono (by decide)) X.b_Roster_titles pass0)) (pg_name (i := 1) sc_Roster_tests.g.nd rfl (Or.inl rfl)) (pss_one ps_no))) (fun W => (for_sound (is := []) (i_tup (e_propF (E := E0) (fl := fl_Roster Z) (ι := ((Int × (List (List Nat)) × (List Int) × (List ((List Nat) × (List Int)))) × (List Int))) (β := (List (List Nat))) (A := fun i => [(rT_Roster Z).at i]) (ci := fun i => []) (m := fun i => m_Roster_titles i) (res := fun i b => (rTup rTx).at b) (co := fun i b => []) (e_var (sl := ((rT_Roster Z).at v_self)) rfl ⟨_, rfl, v_self, [], _, hr1, rfl, rfl, ⟨_, rTx, _, rfl, ⟨_, Unit, Unit, rTx, [], (), (fun _ _ => none), .go (), (fun _ => [some ((rT_Roster Z).at v_self), none]), (fun _ => []), rfl, rfl, (by exact (And.intro rfl True.intro)), rfl, (fun _ _ _ _ h => nomatch h), (fun _ _ _ _ st => st)⟩⟩⟩))))) ?_)
  refine gg_nil ?_
  exact hk _ _ _ _ _
def m_Roster_changes (v_self : ((Int × (List (List Nat)) × (List Int) × (List ((List Nat) × (List Int)))) × (List Int))) : Option Int :=
  pure (v_self.2.length : Int)
abbrev sp_Roster_changes (K : PySem.W.Frag) (Z : Ads) : Sp := spM (ι := ((Int × (List (List Nat)) × (List Int) × (List ((List Nat) × (List Int)))) × (List Int))) (β := Int) (fun i => [(rT_Roster Z).at i]) (fun i => []) (fun i => m_Roster_changes i) (fun i b => rInt.at b) (fun i b => [])
abbrev N_Roster_changes : List Str := ["self"]
theorem sc_Roster_changes : FnScope N_Roster_changes ["self"] (defScope s_Roster_changes) := ⟨rfl, rfl, rfl, by decide +kernel, rfl, by decide +kernel, by decide +kernel⟩
theorem ok_Roster_changes {P : Program} {w : World} {K : PySem.W.Frag} {Z : Ads} {mg : Str → Option Value} {base : Heap} (X : Tx K mg Z) : FnG P w K mg base CX0 1 X.f_Roster_changes X.d_Roster_changes ["self"] (sp_Roster_changes K Z) := by
  refine okG X.F_Roster_changes sc_Roster_changes (fun vs H Q E h => spM_len h fun _ => rfl) (fun cdv A outer s H vs Q E hr h => ?_)
  refine ⟨(tRet (tCB (rdLen K) (tCons (tFld K (tVar 0) "past") tNil))), (pss_one (ps_ret (pe_callB call_len_seq (by rfl) X.z_len bt_len (pa_cons (pe_fld (pv 0) rfl) pa_nil)))), ?_⟩
  obtain ⟨v_self, r, W, h, hcore, har, hrt⟩ := h
  refine body hcore har (Nat.le_of_ble_eq_true rfl) ?_
  clear hcore har
  change m_Roster_changes v_self = some r at h
  unfold m_Roster_changes at h
  change NxT _ _ [some ((rT_Roster Z).at v_self)] _ []
  replace h := pureE h
  subst h
  refine s_ret (e_lenL (ea_cons (e_fld (fl := fl_Roster Z) 1 X.cl_Roster X.na_Roster_past (nd_Roster Z) (e_var (sl := ((rT_Roster Z).at v_self)) rfl ⟨_, _, rfl, rfl, fun _ => (ea_nil ⟨_, rInt, _, rfl, ?_⟩)⟩))))
  exact Rt.drop hrt .slnil
def m_l_cup (v_script : (List Int)) (v_k : Int) : Option Cup :=
  bind (((bif (decide (v_k < (v_script.length : Int))) then ((bind (atI v_script v_k) fun t1 => pure t1)) else ((bind (oMul (41 : Int) v_k) fun t2 => pure (t2 + (12 : Int))))) : Option Int)) fun t3 =>
  bind (oPow (10 : Int) (60 : Int)) fun t6 =>
  bind (oPow t6 (4 : Int)) fun t7 =>
  bind (oMod (t3.natAbs : Int) t7) fun t8 =>
  bind (oPow (10 : Int) (18 : Int)) fun t9 =>
  bind (oMul t8 (if (decide (t9 ≤ (t3.natAbs : Int))) then (1 : Int) else 0)) fun t10 =>
  bind (oMod t3 (2305843009213693951 : Int)) fun t11 =>
  bind (oMul t11 (59333 : Int)) fun t12 =>
  bind (oMul (6689 : Int) v_k) fun t13 =>
  bind (oMul t13 v_k) fun t14 =>
  bind (oMod ((t12 + t14) + (61 : Int)) (2305843009213693921 : Int)) fun t15 =>
  pure (t10, t15, (0 : Int))
abbrev sp_l_cup (K : PySem.W.Frag) (Z : Ads) : Sp := spC (ι := (List Int) × Int) (β := Cup) (fun i => [(rScr K).at i.1, rInt.at i.2]) (fun i => []) (fun i => m_l_cup i.1 i.2) (fun b => cCup b) (fun i b => [])
abbrev N_l_cup : List Str := ["_law_script", "_law_k", "_law_cell", "_law_own"]
theorem sc_l_cup : FnScope N_l_cup ["_law_script", "_law_k"] (defScope s_l_cup) := ⟨rfl, rfl, rfl, by decide +kernel, rfl, by decide +kernel, by decide +kernel⟩
theorem ok_l_cup {P : Program} {w : World} {K : PySem.W.Frag} {Z : Ads} {mg : Str → Option Value} {base : Heap} (X : Tx K mg Z) : FnG P w K mg base CX0 1 X.f_l_cup X.d_l_cup ["_law_script", "_law_k"] (sp_l_cup K Z) := by
  refine okG X.F_l_cup sc_l_cup (fun vs H Q E h => spC_len h fun _ => rfl) (fun cdv A outer s H vs Q E hr h => ?_)
  refine ⟨(tSeq (tAsg (tIf (tTest (tOp rdLt (tVar 1) (tCB (rdLen K) (tCons (tVar 0) tNil)))) (tOp (rIxL K) (tVar 0) (tVar 1)) (tOp rdAdd (tOp rdMul (tC (.int 41)) (tVar 1)) (tC (.int 12)))) (gName 2)) (tSeq (tAsg (tOp rdMul (tOp rdMod (tCB rdAbs (tCons (tVar 2) tNil)) (tOp rdPow (tOp rdPow (tC (.int 10)) (tC (.int 60))) (tC (.int 4)))) (tCB rdInt1 (tCons (tOp rdGe (tCB rdAbs (tCons (tVar 2) tNil)) (tOp rdPow (tC (.int 10)) (tC (.int 18)))) tNil))) (gName 3)) (tRet (tLst (tCons (tVar 3) (tCons (tOp rdMod (tOp rdAdd (tOp rdAdd (tOp rdMul (tOp rdMod (tVar 2) (tC (.int 2305843009213693951))) (tC (.int 59333))) (tOp rdMul (tOp rdMul (tC (.int 6689)) (tVar 1)) (tVar 1))) (tC (.int 61))) (tC (.int 2305843009213693921))) (tCons (tC (.int 0)) tNil))))))), (pss_cons (ps_set (i := 2) sc_l_cup.nd rfl (Or.inl rfl) (pe_ifExp (pt_cmpR op_lt (pv 1) (pe_callB call_len_seq (by rfl) X.z_len bt_len (pa_cons (pv 0) pa_nil)) (nomark _)) (pe_ix ix_list (pv 0) (pv 1) (fun _ _ => rfl)) (pe_op op_add (pe_op op_mulX pe_int (pv 1)) pe_int))) (pss_cons (ps_set (i := 3) sc_l_cup.nd rfl (Or.inl rfl) (pe_op op_mulX (pe_op op_mod (pe_callB call_abs (by rfl) X.z_abs bt_abs (pa_cons (pv 2) pa_nil)) (pe_op op_powW (pe_op op_powW pe_int pe_int) pe_int)) (pe_callTy call_int1 (by rfl) X.z_int bt_int (pa_cons (pe_cmpR op_ge (pe_callB call_abs (by rfl) X.z_abs bt_abs (pa_cons (pv 2) pa_nil)) (pe_op op_powW pe_int pe_int) (nomark _)) pa_nil)))) (pss_one (ps_ret (pe_lst (pa_cons (pv 3) (pa_cons (pe_op op_mod (pe_op op_add (pe_op op_add (pe_op op_mulX (pe_op op_mod (pv 2) pe_int) pe_int) (pe_op op_mulX (pe_op op_mulX pe_int (pv 1)) (pv 1))) pe_int) pe_int) (pa_cons pe_int pa_nil)))))))), ?_⟩
  obtain ⟨⟨v_script, v_k⟩, r, W, h, hcore, har, hrt⟩ := h
  refine body hcore har (Nat.le_of_ble_eq_true rfl) ?_
  clear hcore har
  change m_l_cup v_script v_k = some r at h
  unfold m_l_cup at h
  change NxT _ _ [some ((rScr K).at v_script), some (rInt.at v_k), none, none] _ []
  replace h := bindE h
  obtain ⟨t3, ht3, h⟩ := h
  refine s_seq (s_set (e_if (c := (decide (v_k < (v_script.length : Int)))) (sl := rInt.at t3) (cs' := []) (t_test (e_opB0 (g := fun i j => decide (i < j)) (e_var (sl := (rInt.at v_k)) rfl ⟨_, rfl, (e_lenS (ea_cons (e_var (sl := ((rScr K).at v_script)) rfl fun _ => (ea_nil ⟨_, rfl, ⟨_, rfl, ⟨_, rfl, ⟨rfl, ?b4, ?b5⟩⟩⟩⟩))))⟩))) ?_))
  case b4 =>
    intro hc
    have h := condT hc ht3
    replace h := bindE h
    obtain ⟨t1, ht1, h⟩ := h
    replace h := pureE h
    subst h
    refine (e_ixS (e_var (sl := ((rScr K).at v_script)) rfl fun _ => (e_var (sl := (rInt.at v_k)) rfl ⟨_, _, _, rfl, rfl, ht1, ⟨rfl, rfl⟩⟩)))
  case b5 =>
    intro hc
    have h := condF hc ht3
    replace h := bindE h
    obtain ⟨t2, ht2, h⟩ := h
    replace h := pureE h
    subst h
    refine (e_opI0 (g := fun i j => i + j) (e_opO oMul_ok (e_int ⟨_, rfl, (e_var (sl := (rInt.at v_k)) rfl ⟨_, _, rfl, ht2, ⟨_, rfl, (e_int ⟨_, rfl, ⟨rfl, rfl⟩⟩)⟩⟩)⟩)))
  change NxT _ _ [some ((rScr K).at v_script), some (rInt.at v_k), some (rInt.at t3), none] _ []
  replace h := bindE h
  obtain ⟨t6, ht6, h⟩ := h
  replace h := bindE h
  obtain ⟨t7, ht7, h⟩ := h
  replace h := bindE h
  obtain ⟨t8, ht8, h⟩ := h
  replace h := bindE h
  obtain ⟨t9, ht9, h⟩ := h
  replace h := bindE h
  obtain ⟨t10, ht10, h⟩ := h
  refine s_seq (s_set (e_opO oMul_ok (e_opO oMod_ok (e_abs (ea_cons (e_var (sl := (rInt.at t3)) rfl fun _ => (ea_nil ⟨_, rfl, ⟨_, rfl, (e_opO oPow_ok (e_opO oPow_ok (e_int ⟨_, rfl, (e_int ⟨_, _, rfl, ht6, ⟨_, rfl, (e_int ⟨_, _, rfl, ht7, ⟨_, _, rfl, ht8, ⟨_, rfl, (e_intB (ea_cons (e_opB0 (g := fun i j => decide (j ≤ i)) (e_abs (ea_cons (e_var (sl := (rInt.at t3)) rfl fun _ => (ea_nil ⟨_, rfl, ⟨_, rfl, (e_opO oPow_ok (e_int ⟨_, rfl, (e_int ⟨_, _, rfl, ht9, ⟨_, rfl, fun _ => (ea_nil ⟨_, rfl, ⟨_, _, rfl, ht10, ?_⟩⟩)⟩⟩)⟩))⟩⟩)))))))⟩⟩⟩)⟩⟩)⟩)))⟩⟩)))))))
  change NxT _ _ [some ((rScr K).at v_script), some (rInt.at v_k), some (rInt.at t3), some (rInt.at t10)] _ []
  replace h := bindE h
  obtain ⟨t11, ht11, h⟩ := h
  replace h := bindE h
  obtain ⟨t12, ht12, h⟩ := h
  replace h := bindE h
  obtain ⟨t13, ht13, h⟩ := h
  replace h := bindE h
  obtain ⟨t14, ht14, h⟩ := h
  replace h := bindE h
  obtain ⟨t15, ht15, h⟩ := h
  replace h := pureE h
  subst h
  refine s_ret (e_lstC (ea_cons (e_var (sl := (rInt.at t10)) rfl fun _ => (ea_cons (e_opO oMod_ok (e_opI0 (g := fun i j => i + j) (e_opI0 (g := fun i j => i + j) (e_opO oMul_ok (e_opO oMod_ok (e_var (sl := (rInt.at t3)) rfl ⟨_, rfl, (e_int ⟨_, _, rfl, ht11, ⟨_, rfl, (e_int ⟨_, _, rfl, ht12, ⟨_, rfl, (e_opO oMul_ok (e_opO oMul_ok (e_int ⟨_, rfl, (e_var (sl := (rInt.at v_k)) rfl ⟨_, _, rfl, ht13, ⟨_, rfl, (e_var (sl := (rInt.at v_k)) rfl ⟨_, _, rfl, ht14, ⟨_, rfl, ⟨_, rfl, (e_int ⟨_, rfl, ⟨_, rfl, (e_int ⟨_, _, rfl, ht15, fun _ => (ea_cons (e_int fun _ => (ea_nil ⟨_, rInt, ([t10, t15, (0 : Int)] : List Int), rfl, Nat.le_of_ble_eq_true rfl, fun pr => ?_⟩)))⟩)⟩⟩)⟩⟩⟩)⟩⟩)⟩)))⟩⟩)⟩⟩)⟩))))))))))
  exact hrt pr
def m_l_dip (k : Cup) (v_many : Int) : Option (Int × Cup) :=
  bind (atI [k.1, k.2.1, k.2.2] (0 : Int)) fun t1 =>
  (bif (decide ((0 : Int) < t1)) then ((bind (atI [k.1, k.2.1, k.2.2] (0 : Int)) fun t2 => (bind (oMod t2 v_many) fun t3 => (bind (atI [k.1, k.2.1, k.2.2] (0 : Int)) fun t4 => (bind (oDiv t4 v_many) fun t5 => pure (t3, (t5, k.2.1, k.2.2))))))) else ((bind (atI [k.1, k.2.1, k.2.2] (2 : Int)) fun t6 => (bind (atI [(k.1, k.2.1, (t6 + (1 : Int))).1, (k.1, k.2.1, (t6 + (1 : Int))).2.1, (k.1, k.2.1, (t6 + (1 : Int))).2.2] (2 : Int)) fun t7 => (bind (oMod t7 (5 : Int)) fun t8 => (bind (atI ([(2147483647 : Int), (2147483629 : Int), (2147483587 : Int), (2147483579 : Int), (2147483563 : Int)] : List Int) t8) fun t9 => (bind (atI [(k.1, k.2.1, (t6 + (1 : Int))).1, (k.1, k.2.1, (t6 + (1 : Int))).2.1, (k.1, k.2.1, (t6 + (1 : Int))).2.2] (1 : Int)) fun t10 => (bind (atI [(k.1, k.2.1, (t6 + (1 : Int))).1, (k.1, k.2.1, (t6 + (1 : Int))).2.1, (k.1, k.2.1, (t6 + (1 : Int))).2.2] (2 : Int)) fun t11 => (bind (oMul (77003 : Int) t11) fun t12 => (bind (atI [(k.1, k.2.1, (t6 + (1 : Int))).1, (k.1, k.2.1, (t6 + (1 : Int))).2.1, (k.1, k.2.1, (t6 + (1 : Int))).2.2] (2 : Int)) fun t13 => (bind (oMul t12 t13) fun t14 => (bind (oPow ((t10 + t14) + (47 : Int)) (3 : Int)) fun t15 => (bind (oMod t15 t9) fun t16 => (bind (oMod t16 (10037 : Int)) fun t17 => (bind (atI [(k.1, k.2.1, (t6 + (1 : Int))).1, (k.1, k.2.1, (t6 + (1 : Int))).2.1, (k.1, k.2.1, (t6 + (1 : Int))).2.2] (2 : Int)) fun t18 => (bind (oMul (71 : Int) t18) fun t19 => (bind (oMul t16 (t17 + t19)) fun t20 => (bind (oMod t20 (2305843009213693907 : Int)) fun t21 => (bind (oDiv t21 (101 : Int)) fun t22 => (bind (oMod t22 v_many) fun t23 => pure (t23, (k.1, k.2.1, (t6 + (1 : Int))))))))))))))))))))))))
abbrev sp_l_dip (K : PySem.W.Frag) (Z : Ads) : Sp := spM (ι := Addr × Cup × Int) (β := (Int × Cup)) (fun i => [sRef i.1, rInt.at i.2.2]) (fun i => [(i.1, cCup i.2.1)]) (fun i => m_l_dip i.2.1 i.2.2) (fun i b => rInt.at b.1) (fun i b => [(i.1, cCup b.2)])
abbrev N_l_dip : List Str := ["_law_cup_here", "_law_many", "_law_digit", "_law_prime", "_law_mixed"]
theorem sc_l_dip : FnScope N_l_dip ["_law_cup_here", "_law_many"] (defScope s_l_dip) := ⟨rfl, rfl, rfl, by decide +kernel, rfl, by decide +kernel, by decide +kernel⟩
theorem ok_l_dip {P : Program} {w : World} {K : PySem.W.Frag} {Z : Ads} {mg : Str → Option Value} {base : Heap} (X : Tx K mg Z) : FnG P w K mg base CX0 1 X.f_l_dip X.d_l_dip ["_law_cup_here", "_law_many"] (sp_l_dip K Z) := by
  refine okG X.F_l_dip sc_l_dip (fun vs H Q E h => spM_len h fun _ => rfl) (fun cdv A outer s H vs Q E hr h => ?_)
  refine ⟨(tSeq (tIfS (tTest (tOp rdGt (tOp (rIxL K) (tVar 0) (tC (.int 0))) (tC (.int 0)))) (tSeq (tAsg (tOp rdMod (tOp (rIxL K) (tVar 0) (tC (.int 0))) (tVar 1)) (gName 2)) (tSeq (tAsg (tOp rdDiv (tOp (rIxL K) (tVar 0) (tC (.int 0))) (tVar 1)) (gSub (tVar 0) (tC (.int 0)) rSetL)) (tRet (tVar 2)))) tNext) (tSeq (tAsg (tOp rdAdd (tOp (rIxL K) (tVar 0) (tC (.int 2))) (tC (.int 1))) (gSub (tVar 0) (tC (.int 2)) rSetL)) (tSeq (tAsg (tOp (rIxL K) (tLst (tCons (tC (.int 2147483647)) (tCons (tC (.int 2147483629)) (tCons (tC (.int 2147483587)) (tCons (tC (.int 2147483579)) (tCons (tC (.int 2147483563)) tNil)))))) (tOp rdMod (tOp (rIxL K) (tVar 0) (tC (.int 2))) (tC (.int 5)))) (gName 3)) (tSeq (tAsg (tOp rdMod (tOp rdPow (tOp rdAdd (tOp rdAdd (tOp (rIxL K) (tVar 0) (tC (.int 1))) (tOp rdMul (tOp rdMul (tC (.int 77003)) (tOp (rIxL K) (tVar 0) (tC (.int 2)))) (tOp (rIxL K) (tVar 0) (tC (.int 2))))) (tC (.int 47))) (tC (.int 3))) (tVar 3)) (gName 4)) (tRet (tOp rdMod (tOp rdDiv (tOp rdMod (tOp rdMul (tVar 4) (tOp rdAdd (tOp rdMod (tVar 4) (tC (.int 10037))) (tOp rdMul (tC (.int 71)) (tOp (rIxL K) (tVar 0) (tC (.int 2)))))) (tC (.int 2305843009213693907))) (tC (.int 101))) (tVar 1))))))), (pss_cons (ps_if (pt_cmpR op_gt (pe_ix ix_list (pv 0) pe_int (fun _ _ => rfl)) pe_int (nomark _)) (pss_cons (ps_set (i := 2) sc_l_dip.nd rfl (Or.inl rfl) (pe_op op_mod (pe_ix ix_list (pv 0) pe_int (fun _ _ => rfl)) (pv 1))) (pss_cons (ps_asg (pe_op op_fdivW (pe_ix ix_list (pv 0) pe_int (fun _ _ => rfl)) (pv 1)) (pg_sub (pv 0) pe_int set_list)) (pss_one (ps_ret (pv 2))))) pss_nil) (pss_cons (ps_asg (pe_op op_add (pe_ix ix_list (pv 0) pe_int (fun _ _ => rfl)) pe_int) (pg_sub (pv 0) pe_int set_list)) (pss_cons (ps_set (i := 3) sc_l_dip.nd rfl (Or.inl rfl) (pe_ix ix_list (pe_lst (pa_cons pe_int (pa_cons pe_int (pa_cons pe_int (pa_cons pe_int (pa_cons pe_int pa_nil)))))) (pe_op op_mod (pe_ix ix_list (pv 0) pe_int (fun _ _ => rfl)) pe_int) (fun _ _ => rfl))) (pss_cons (ps_set (i := 4) sc_l_dip.nd rfl (Or.inl rfl) (pe_op op_mod (pe_op op_powW (pe_op op_add (pe_op op_add (pe_ix ix_list (pv 0) pe_int (fun _ _ => rfl)) (pe_op op_mulX (pe_op op_mulX pe_int (pe_ix ix_list (pv 0) pe_int (fun _ _ => rfl))) (pe_ix ix_list (pv 0) pe_int (fun _ _ => rfl)))) pe_int) pe_int) (pv 3))) (pss_one (ps_ret (pe_op op_mod (pe_op op_fdivW (pe_op op_mod (pe_op op_mulX (pv 4) (pe_op op_add (pe_op op_mod (pv 4) pe_int) (pe_op op_mulX pe_int (pe_ix ix_list (pv 0) pe_int (fun _ _ => rfl))))) pe_int) pe_int) (pv 1)))))))), ?_⟩
  obtain ⟨⟨c, k, v_many⟩, r, W, h, hcore, har, hrt⟩ := h
  refine body hcore har (Nat.le_of_ble_eq_true rfl) ?_
  clear hcore har
  change m_l_dip k v_many = some r at h
  unfold m_l_dip at h
  change NxT _ _ [some (sRef c), some (rInt.at v_many), none, none, none] _ [(c, cCup k)]
  replace h := bindE h
  obtain ⟨t1, ht1, h⟩ := h
  refine s_seq (s_if (t_test (e_opB0 (g := fun i j => decide (j < i)) (e_ixC 0 (e_var (sl := (sRef c)) rfl fun _ => (e_int ⟨_, _, rInt, _, _, _, rfl, rfl, rfl, ht1, ⟨_, rfl, (e_int ⟨_, rfl, ⟨_, rfl, ⟨fun hc => ?_, fun hc => ?_⟩⟩⟩)⟩⟩))))))
  · replace h := condT hc h
    replace h := bindE h
    obtain ⟨t2, ht2, h⟩ := h
    replace h := bindE h
    obtain ⟨t3, ht3, h⟩ := h
    refine s_seq (s_set (e_opO oMod_ok (e_ixC 0 (e_var (sl := (sRef c)) rfl fun _ => (e_int ⟨_, _, rInt, _, _, _, rfl, rfl, rfl, ht2, ⟨_, rfl, (e_var (sl := (rInt.at v_many)) rfl ⟨_, _, rfl, ht3, ?_⟩)⟩⟩)))))
    change NxT _ _ [some (sRef c), some (rInt.at v_many), some (rInt.at t3), none, none] _ [(c, cCup k)]
    replace h := bindE h
    obtain ⟨t4, ht4, h⟩ := h
    replace h := bindE h
    obtain ⟨t5, ht5, h⟩ := h
    refine s_seq (s_setitem 0 (e_opO oDiv_ok (e_ixC 0 (e_var (sl := (sRef c)) rfl fun _ => (e_int ⟨_, _, rInt, _, _, _, rfl, rfl, rfl, ht4, ⟨_, rfl, (e_var (sl := (rInt.at v_many)) rfl ⟨_, _, rfl, ht5, fun _ => (e_var (sl := (sRef c)) rfl fun _ => (e_int ⟨_, _, rInt, _, _, _, _, rfl, rfl, rfl, rfl, rfl, ?_⟩))⟩)⟩⟩)))))
    change NxT _ _ [some (sRef c), some (rInt.at v_many), some (rInt.at t3), none, none] _ [(c, cCup (t5, k.2.1, k.2.2))]
    replace h := pureE h
    subst h
    refine s_ret (e_var (sl := (rInt.at t3)) rfl ?_)
    exact Rt.drop hrt (.cons₂ _ .slnil)
  · replace h := condF hc h
    refine s_next ?_
    replace h := bindE h
    obtain ⟨t6, ht6, h⟩ := h
    refine s_seq (s_setitem 0 (e_opI0 (g := fun i j => i + j) (e_ixC 0 (e_var (sl := (sRef c)) rfl fun _ => (e_int ⟨_, _, rInt, _, _, _, rfl, rfl, rfl, ht6, ⟨_, rfl, (e_int ⟨_, rfl, fun _ => (e_var (sl := (sRef c)) rfl fun _ => (e_int ⟨_, _, rInt, _, _, _, _, rfl, rfl, rfl, rfl, rfl, ?_⟩))⟩)⟩⟩)))))
    change NxT _ _ [some (sRef c), some (rInt.at v_many), none, none, none] _ [(c, cCup (k.1, k.2.1, (t6 + (1 : Int))))]
    replace h := bindE h
    obtain ⟨t7, ht7, h⟩ := h
    replace h := bindE h
    obtain ⟨t8, ht8, h⟩ := h
    replace h := bindE h
    obtain ⟨t9, ht9, h⟩ := h
    refine s_seq (s_set (e_ixL (e_lst (ea_cons (e_int fun _ => (ea_cons (e_int fun _ => (ea_cons (e_int fun _ => (ea_cons (e_int fun _ => (ea_cons (e_int fun _ => (ea_nil ⟨_, rInt, ([(2147483647 : Int), (2147483629 : Int), (2147483587 : Int), (2147483579 : Int), (2147483563 : Int)] : List Int), rfl, Nat.le_of_ble_eq_true rfl, fun _ => (e_opO oMod_ok (e_ixC 0 (e_var (sl := (sRef c)) rfl fun _ => (e_int ⟨_, _, rInt, _, _, _, rfl, rfl, rfl, ht7, ⟨_, rfl, (e_int ⟨_, _, rfl, ht8, ⟨_, rInt, _, _, _, rfl, rfl, ht9, ?_⟩⟩)⟩⟩))))⟩))))))))))))))
    change NxT _ _ [some (sRef c), some (rInt.at v_many), none, some (rInt.at t9), none] _ [(c, cCup (k.1, k.2.1, (t6 + (1 : Int))))]
    replace h := bindE h
    obtain ⟨t10, ht10, h⟩ := h
    replace h := bindE h
    obtain ⟨t11, ht11, h⟩ := h
    replace h := bindE h
    obtain ⟨t12, ht12, h⟩ := h
    replace h := bindE h
    obtain ⟨t13, ht13, h⟩ := h
    replace h := bindE h
    obtain ⟨t14, ht14, h⟩ := h
    replace h := bindE h
    obtain ⟨t15, ht15, h⟩ := h
    replace h := bindE h
    obtain ⟨t16, ht16, h⟩ := h
    refine s_seq (s_set (e_opO oMod_ok (e_opO oPow_ok (e_opI0 (g := fun i j => i + j) (e_opI0 (g := fun i j => i + j) (e_ixC 0 (e_var (sl := (sRef c)) rfl fun _ => (e_int ⟨_, _, rInt, _, _, _, rfl, rfl, rfl, ht10, ⟨_, rfl, (e_opO oMul_ok (e_opO oMul_ok (e_int ⟨_, rfl, (e_ixC 0 (e_var (sl := (sRef c)) rfl fun _ => (e_int ⟨_, _, rInt, _, _, _, rfl, rfl, rfl, ht11, ⟨_, _, rfl, ht12, ⟨_, rfl, (e_ixC 0 (e_var (sl := (sRef c)) rfl fun _ => (e_int ⟨_, _, rInt, _, _, _, rfl, rfl, rfl, ht13, ⟨_, _, rfl, ht14, ⟨_, rfl, ⟨_, rfl, (e_int ⟨_, rfl, ⟨_, rfl, (e_int ⟨_, _, rfl, ht15, ⟨_, rfl, (e_var (sl := (rInt.at t9)) rfl ⟨_, _, rfl, ht16, ?_⟩)⟩⟩)⟩⟩)⟩⟩⟩⟩)))⟩⟩⟩)))⟩)))⟩⟩))))))))
    change NxT _ _ [some (sRef c), some (rInt.at v_many), none, some (rInt.at t9), some (rInt.at t16)] _ [(c, cCup (k.1, k.2.1, (t6 + (1 : Int))))]
    replace h := bindE h
    obtain ⟨t17, ht17, h⟩ := h
    replace h := bindE h
    obtain ⟨t18, ht18, h⟩ := h
    replace h := bindE h
    obtain ⟨t19, ht19, h⟩ := h
    replace h := bindE h
    obtain ⟨t20, ht20, h⟩ := h
    replace h := bindE h
    obtain ⟨t21, ht21, h⟩ := h
    replace h := bindE h
    obtain ⟨t22, ht22, h⟩ := h
    replace h := bindE h
    obtain ⟨t23, ht23, h⟩ := h
    replace h := pureE h
    subst h
    refine s_ret (e_opO oMod_ok (e_opO oDiv_ok (e_opO oMod_ok (e_opO oMul_ok (e_var (sl := (rInt.at t16)) rfl ⟨_, rfl, (e_opI0 (g := fun i j => i + j) (e_opO oMod_ok (e_var (sl := (rInt.at t16)) rfl ⟨_, rfl, (e_int ⟨_, _, rfl, ht17, ⟨_, rfl, (e_opO oMul_ok (e_int ⟨_, rfl, (e_ixC 0 (e_var (sl := (sRef c)) rfl fun _ => (e_int ⟨_, _, rInt, _, _, _, rfl, rfl, rfl, ht18, ⟨_, _, rfl, ht19, ⟨_, rfl, ⟨_, _, rfl, ht20, ⟨_, rfl, (e_int ⟨_, _, rfl, ht21, ⟨_, rfl, (e_int ⟨_, _, rfl, ht22, ⟨_, rfl, (e_var (sl := (rInt.at v_many)) rfl ⟨_, _, rfl, ht23, ?_⟩)⟩⟩)⟩⟩)⟩⟩⟩⟩⟩)))⟩))⟩⟩)⟩)))⟩)))))
    exact Rt.drop hrt (.cons₂ _ .slnil)
def m_l_one (k : Cup) (v_some : (List Int)) : Option (Int × Cup) :=
  bind (m_l_dip k (v_some.length : Int)) fun r1 =>
  bind (atI v_some r1.1) fun t2 =>
  pure (t2, r1.2)
abbrev sp_l_one (K : PySem.W.Frag) (Z : Ads) : Sp := spM (ι := Addr × Cup × (List Int)) (β := (Int × Cup)) (fun i => [sRef i.1, (rLst rInt).at i.2.2]) (fun i => [(i.1, cCup i.2.1)]) (fun i => m_l_one i.2.1 i.2.2) (fun i b => rInt.at b.1) (fun i b => [(i.1, cCup b.2)])
abbrev N_l_one : List Str := ["_law_cup_here", "_law_some"]
theorem sc_l_one : FnScope N_l_one ["_law_cup_here", "_law_some"] (defScope s_l_one) := ⟨rfl, rfl, rfl, by decide +kernel, rfl, by decide +kernel, by decide +kernel⟩
theorem ok_l_one {P : Program} {w : World} {K : PySem.W.Frag} {Z : Ads} {mg : Str → Option Value} {base : Heap} (X : Tx K mg Z) (G_l_dip : FnG P w K mg base CX0 1 X.f_l_dip X.d_l_dip ["_law_cup_here", "_law_many"] (sp_l_dip K Z)) : FnG P w K mg base CX0 2 X.f_l_one X.d_l_one ["_law_cup_here", "_law_some"] (sp_l_one K Z) := by
  refine okG X.F_l_one sc_l_one (fun vs H Q E h => spM_len h fun _ => rfl) (fun cdv A outer s H vs Q E hr h => ?_)
  refine ⟨(tRet (tOp (rIxL K) (tVar 1) (tCall (sp_l_dip K Z) [] E0 (tCons (tVar 0) (tCons (tCB (rdLen K) (tCons (tVar 1) tNil)) tNil))))), (pss_one (ps_ret (pe_ix ix_list (pv 1) (pe_callG (G_l_dip) (hr.mono (by decide)) (by rfl) X.g_l_dip X.F_l_dip.kp X.b_l_dip .nil pass0 (pa_cons (pv 0) (pa_cons (pe_callB call_len_seq (by rfl) X.z_len bt_len (pa_cons (pv 1) pa_nil)) pa_nil))) (fun _ _ => rfl)))), ?_⟩
  obtain ⟨⟨c, k, v_some⟩, r, W, h, hcore, har, hrt⟩ := h
  refine body hcore har (Nat.le_of_ble_eq_true rfl) ?_
  clear hcore har
  change m_l_one k v_some = some r at h
  unfold m_l_one at h
  change NxT _ _ [some (sRef c), some ((rLst rInt).at v_some)] _ [(c, cCup k)]
  replace h := bindE h
  obtain ⟨r1, hr1, h⟩ := h
  replace h := bindE h
  obtain ⟨t2, ht2, h⟩ := h
  replace h := pureE h
  subst h
  refine s_ret (e_ixL (e_var (sl := ((rLst rInt).at v_some)) rfl fun _ => (e_call (ea_cons (e_var (sl := (sRef c)) rfl fun _ => (ea_cons (e_lenL (ea_cons (e_var (sl := ((rLst rInt).at v_some)) rfl fun _ => (ea_nil ⟨_, rInt, _, rfl, fun _ => (ea_nil ⟨(c, k, (v_some.length : Int)), r1, [], hr1, rfl, rfl, ⟨_, rInt, _, _, _, rfl, rfl, ht2, ?_⟩⟩)⟩))))))))))
  exact Rt.drop hrt (.cons₂ _ .slnil)
def m_l_one_V (k : Cup) (v_some : (List PyData)) : Option (PyData × Cup) :=
  bind (m_l_dip k (v_some.length : Int)) fun r1 =>
  bind (atI v_some r1.1) fun t2 =>
  pure (t2, r1.2)
abbrev sp_l_one_V (K : PySem.W.Frag) (Z : Ads) : Sp := spM (ι := Addr × Cup × (List PyData)) (β := (PyData × Cup)) (fun i => [sRef i.1, (rLst rVal).at i.2.2]) (fun i => [(i.1, cCup i.2.1)]) (fun i => m_l_one_V i.2.1 i.2.2) (fun i b => rVal.at b.1) (fun i b => [(i.1, cCup b.2)])
abbrev N_l_one_V : List Str := ["_law_cup_here", "_law_some"]
theorem sc_l_one_V : FnScope N_l_one_V ["_law_cup_here", "_law_some"] (defScope s_l_one) := ⟨rfl, rfl, rfl, by decide +kernel, rfl, by decide +kernel, by decide +kernel⟩
theorem ok_l_one_V {P : Program} {w : World} {K : PySem.W.Frag} {Z : Ads} {mg : Str → Option Value} {base : Heap} (X : Tx K mg Z) (G_l_dip : FnG P w K mg base CX0 1 X.f_l_dip X.d_l_dip ["_law_cup_here", "_law_many"] (sp_l_dip K Z)) : FnG P w K mg base CX0 2 X.f_l_one X.d_l_one ["_law_cup_here", "_law_some"] (sp_l_one_V K Z) := by
  refine okG X.F_l_one sc_l_one_V (fun vs H Q E h => spM_len h fun _ => rfl) (fun cdv A outer s H vs Q E hr h => ?_)
  refine ⟨(tRet (tOp (rIxL K) (tVar 1) (tCall (sp_l_dip K Z) [] E0 (tCons (tVar 0) (tCons (tCB (rdLen K) (tCons (tVar 1) tNil)) tNil))))), (pss_one (ps_ret (pe_ix ix_list (pv 1) (pe_callG (G_l_dip) (hr.mono (by decide)) (by rfl) X.g_l_dip X.F_l_dip.kp X.b_l_dip .nil pass0 (pa_cons (pv 0) (pa_cons (pe_callB call_len_seq (by rfl) X.z_len bt_len (pa_cons (pv 1) pa_nil)) pa_nil))) (fun _ _ => rfl)))), ?_⟩
  obtain ⟨⟨c, k, v_some⟩, r, W, h, hcore, har, hrt⟩ := h
  refine body hcore har (Nat.le_of_ble_eq_true rfl) ?_
  clear hcore har
  change m_l_one_V k v_some = some r at h
  unfold m_l_one_V at h
  change NxT _ _ [some (sRef c), some ((rLst rVal).at v_some)] _ [(c, cCup k)]
  replace h := bindE h
  obtain ⟨r1, hr1, h⟩ := h
  replace h := bindE h
  obtain ⟨t2, ht2, h⟩ := h
  replace h := pureE h
  subst h
  refine s_ret (e_ixL (e_var (sl := ((rLst rVal).at v_some)) rfl fun _ => (e_call (ea_cons (e_var (sl := (sRef c)) rfl fun _ => (ea_cons (e_lenL (ea_cons (e_var (sl := ((rLst rVal).at v_some)) rfl fun _ => (ea_nil ⟨_, rVal, _, rfl, fun _ => (ea_nil ⟨(c, k, (v_some.length : Int)), r1, [], hr1, rfl, rfl, ⟨_, rVal, _, _, _, rfl, rfl, ht2, ?_⟩⟩)⟩))))))))))
  exact Rt.drop hrt (.cons₂ _ .slnil)
def m_l_shuffled (k : Cup) (v_some : (List (List Nat))) : Option ((List (List Nat)) × Cup) :=
  bind (whileO (fun (b1 : (Cup × (List (List Nat)) × (List (List Nat)))) => (((bif (!b1.2.1.isEmpty) then ((bind (m_l_dip b1.1 (b1.2.1.length : Int)) fun r2 => (bind (oPopAt b1.2.1 r2.1) fun l3 => (bind (oApp b1.2.2 l3.1) fun l4 => pure (Fl.go (r2.2, l3.2, l4)))))) else (pure (Fl.brk (b1.1, b1.2.1, b1.2.2))))) : Option (Fl ((List (List Nat)) × Cup) (Cup × (List (List Nat)) × (List (List Nat)))))) 1000000000 (k, v_some, ([] : List (List Nat)))) fun o5 =>
  (match o5 with | .ret z => (pure z) | .go g7 => (pure (g7.2.2, g7.1)))
abbrev sp_l_shuffled (K : PySem.W.Frag) (Z : Ads) : Sp := spM (ι := Addr × Cup × (List (List Nat))) (β := ((List (List Nat)) × Cup)) (fun i => [sRef i.1, (rLst rTx).at i.2.2]) (fun i => [(i.1, cCup i.2.1)]) (fun i => m_l_shuffled i.2.1 i.2.2) (fun i b => (rLst rTx).at b.1) (fun i b => [(i.1, cCup b.2)])
abbrev N_l_shuffled : List Str := ["_law_cup_here", "_law_some", "_law_left", "_law_found"]
theorem sc_l_shuffled : FnScope N_l_shuffled ["_law_cup_here", "_law_some"] (defScope s_l_shuffled) := ⟨rfl, rfl, rfl, by decide +kernel, rfl, by decide +kernel, by decide +kernel⟩
theorem ok_l_shuffled {P : Program} {w : World} {K : PySem.W.Frag} {Z : Ads} {mg : Str → Option Value} {base : Heap} (X : Tx K mg Z) (G_l_dip : FnG P w K mg base CX0 1 X.f_l_dip X.d_l_dip ["_law_cup_here", "_law_many"] (sp_l_dip K Z)) : FnG P w K mg base CX0 2 X.f_l_shuffled X.d_l_shuffled ["_law_cup_here", "_law_some"] (sp_l_shuffled K Z) := by
  refine okG X.F_l_shuffled sc_l_shuffled (fun vs H Q E h => spM_len h fun _ => rfl) (fun cdv A outer s H vs Q E hr h => ?_)
  refine ⟨(tSeq (tPar 2 3 (tCons (tCB (rListOf K) (tCons (tVar 1) tNil)) (tCons (tLst tNil) tNil))) (tSeq (tWhile (tTest (tOp rNeL0 (tVar 2) (tLst tNil))) (tDrop (tBM K "list" rAppend (tVar 3) (tCons (tBM K "list" rPopAt (tVar 2) (tCons (tCall (sp_l_dip K Z) [] E0 (tCons (tVar 0) (tCons (tCB (rdLen K) (tCons (tVar 2) tNil)) tNil))) tNil)) tNil)))) (tRet (tVar 3)))), (pss_cons (ps_par rfl sc_l_shuffled.nd rfl rfl (by decide) rfl rfl (pa_cons (pe_callTy call_list_of (by rfl) X.z_list bt_list (pa_cons (pv 1) pa_nil)) (pa_cons (pe_lst pa_nil) pa_nil)) (by rfl)) (pss_cons (ps_while PassesOwn.never (pt_cmpR (op_neL0 hr.units) (pv 2) (pe_lst pa_nil) (nomark _)) (pss_one (ps_expr (pe_bm PySem.F.plainAttrs_list PySem.F.slot_list_append PySem.F.type_list_append mt_append (pv 3) (pa_cons (pe_bm PySem.F.plainAttrs_list PySem.F.slot_list_pop PySem.F.type_list_pop mt_popAt (pv 2) (pa_cons (pe_callG (G_l_dip) (hr.mono (by decide)) (by rfl) X.g_l_dip X.F_l_dip.kp X.b_l_dip .nil pass0 (pa_cons (pv 0) (pa_cons (pe_callB call_len_seq (by rfl) X.z_len bt_len (pa_cons (pv 2) pa_nil)) pa_nil))) pa_nil)) pa_nil))))) (pss_one (ps_ret (pv 3))))), ?_⟩
  obtain ⟨⟨c, k, v_some⟩, r, W, h, hcore, har, hrt⟩ := h
  refine body hcore har (Nat.le_of_ble_eq_true rfl) ?_
  clear hcore har
  change m_l_shuffled k v_some = some r at h
  unfold m_l_shuffled at h
  change NxT _ _ [some (sRef c), some ((rLst rTx).at v_some), none, none] _ [(c, cCup k)]
  refine s_seq (s_par (ea_cons (e_listLC (ea_cons (e_var (sl := ((rLst rTx).at v_some)) rfl fun _ => (ea_nil ⟨_, rTx, _, rfl, fun p__law_left => fun _ => (ea_cons (e_lstC (ea_nil ⟨_, rTx, ([] : List (List Nat)), rfl, Nat.le_of_ble_eq_true rfl, fun p__law_found => fun _ => (ea_nil ⟨_, _, rfl, ?_⟩)⟩)))⟩))))))
  change NxT _ _ [some (sRef c), some ((rLst rTx).at v_some), some (sRef p__law_left), some (sRef p__law_found)] _ [(c, cCup k), (p__law_left, cLst rTx v_some), (p__law_found, cLst rTx ([] : List (List Nat)))]
  replace h := bindE h
  obtain ⟨o5, ho5, h⟩ := h
  refine s_seq (while_sound (fun (b1 : (Cup × (List (List Nat)) × (List (List Nat)))) => [some (sRef c), some ((rLst rTx).at v_some), some (sRef p__law_left), some (sRef p__law_found)]) (fun (b1 : (Cup × (List (List Nat)) × (List (List Nat)))) => [(c, cCup b1.1), (p__law_left, cLst rTx b1.2.1), (p__law_found, cLst rTx b1.2.2)]) ho5 (by exact (And.intro rfl (And.intro rfl (And.intro rfl (And.intro rfl True.intro))))) rfl ?b6 ?_)
  case b6 =>
    have hR : ∀ z, o5 = .ret z → Rt Q W ((fun z => (rLst rTx).at z.1) z) ((fun z => [(c, cCup z.2)]) z) := fun z ez => by subst ez; have h := pureE h; subst h; exact hrt
    clear h
    intro b1 fl h N hN Bk hBk hz
    change Et _ _ [some (sRef c), some ((rLst rTx).at v_some), some (sRef p__law_left), some (sRef p__law_found)] _ [(c, cCup b1.1), (p__law_left, cLst rTx b1.2.1), (p__law_found, cLst rTx b1.2.2)] _
    refine (t_test (e_neL0 (r := rTx) (r2 := rTx) 1 (e_var (sl := (sRef p__law_left)) rfl fun _ => (e_lst (ea_nil ⟨_, rTx, ([] : List (List Nat)), rfl, Nat.le_of_ble_eq_true rfl, ⟨_, _, rfl, rfl, rfl, ⟨_, rfl, ⟨fun hc => ?_, fun hc => ?_⟩⟩⟩⟩)))))
    · replace h := condT hc h
      replace h := bindE h
      obtain ⟨r2, hr2, h⟩ := h
      replace h := bindE h
      obtain ⟨l3, hl3, h⟩ := h
      replace h := bindE h
      obtain ⟨l4, hl4, h⟩ := h
      refine (s_drop (e_append 2 (e_var (sl := (sRef p__law_found)) rfl ⟨_, _, rTx, _, rfl, rfl, fun _ => (ea_cons (e_popAt 1 (e_var (sl := (sRef p__law_left)) rfl ⟨_, _, rTx, _, rfl, rfl, fun _ => (ea_cons (e_call (ea_cons (e_var (sl := (sRef c)) rfl fun _ => (ea_cons (e_lenC 1 (ea_cons (e_var (sl := (sRef p__law_left)) rfl fun _ => (ea_nil ⟨_, _, rTx, _, rfl, rfl, fun _ => (ea_nil ⟨(c, b1.1, (b1.2.1.length : Int)), r2, [(p__law_left, cLst rTx b1.2.1), (p__law_found, cLst rTx b1.2.2)], hr2, rfl, rfl, fun _ => (ea_nil ⟨_, _, _, _, rfl, rfl, hl3, fun _ => (ea_nil ⟨_, _, _, rfl, rfl, hl4, ?_⟩)⟩)⟩)⟩)))))))))⟩)))⟩)))
      change NxT _ _ [some (sRef c), some ((rLst rTx).at v_some), some (sRef p__law_left), some (sRef p__law_found)] _ [(c, cCup r2.2), (p__law_left, cLst rTx l3.2), (p__law_found, cLst rTx l4)]
      replace h := pureE h
      subst h
      exact s_weak (by exact (And.intro rfl (And.intro rfl (And.intro rfl (And.intro rfl True.intro))))) (.cons₂ _ (.cons₂ _ (.cons₂ _ .slnil))) (hN (r2.2, l3.2, l4) rfl)
    · replace h := condF hc h
      replace h := pureE h
      subst h
      exact ⟨rfl, rfl⟩
  intro g7 eg7
  subst eg7
  try dsimp only at h
  change NxT _ _ [some (sRef c), some ((rLst rTx).at v_some), some (sRef p__law_left), some (sRef p__law_found)] _ [(c, cCup g7.1), (p__law_left, cLst rTx g7.2.1), (p__law_found, cLst rTx g7.2.2)]
  refine s_freeze 3 2 rfl rfl ?_
  change NxT _ _ [some (sRef c), some ((rLst rTx).at v_some), some (sRef p__law_left), some ((rLst rTx).at g7.2.2)] _ [(c, cCup g7.1), (p__law_left, cLst rTx g7.2.1)]
  replace h := pureE h
  subst h
  refine s_ret (e_var (sl := ((rLst rTx).at g7.2.2)) rfl ?_)
  exact Rt.drop hrt (.cons₂ _ (.cons _ .slnil))
def m_l_odd (k : Cup) : Option (PyData × Cup) :=
  bind (oPow (10 : Int) (30 : Int)) fun t1 =>
  bind (oCat ([PyData.none, (PyData.bool true), (PyData.bool false), (PyData.int (0 : Int)), (PyData.int (1 : Int)), (PyData.int (-(1 : Int))), (PyData.int (12 : Int)), (PyData.int t1), (PyData.str ("" : Str)), (PyData.str ("a" : Str)), (PyData.str ("-" : Str)), (PyData.tuple []), (PyData.list []), (PyData.dict []), (PyData.tuple [(PyData.int (0 : Int))]), (PyData.tuple [(PyData.int (1 : Int)), (PyData.int (0 : Int))]), (PyData.tuple [(PyData.tuple [(PyData.int (0 : Int))]), (PyData.int (1 : Int))]), (PyData.tuple [(PyData.tuple [(PyData.tuple [(PyData.int (0 : Int))]), (PyData.int (1 : Int))])])] : List PyData) ([(PyData.list [(PyData.tuple [(PyData.tuple [(PyData.int (0 : Int))]), (PyData.int (1 : Int))])]), (PyData.tuple [(PyData.tuple [(PyData.int (0 : Int)), (PyData.int (0 : Int))]), (PyData.int (1 : Int))]), (PyData.tuple [(PyData.tuple [(PyData.int (0 : Int))]), (PyData.int (0 : Int))]), (PyData.tuple [(PyData.tuple [(PyData.int (1 : Int)), (PyData.int (0 : Int))]), (PyData.int (2 : Int))]), (PyData.tuple [(PyData.tuple [(PyData.str ("a" : Str))]), (PyData.int (1 : Int))]), (PyData.tuple [(PyData.tuple [(PyData.bool true)]), (PyData.int (0 : Int))]), (PyData.tuple [(PyData.tuple [(PyData.int (0 : Int))]), PyData.none]), (PyData.dict [(PyData.str ("a" : Str), (PyData.int (1 : Int)))])] : List PyData)) fun t3 =>
  bind (m_l_one_V k t3) fun r4 =>
  bind (m_l_one r4.2 ([(0 : Int), (0 : Int), (0 : Int), (1 : Int), (2 : Int), (9 : Int)] : List Int)) fun r5 =>
  bind (oRange 0 r5.1) fun t6 =>
  bind (foldO (fun (b8 : (PyData × Cup)) (x7 : Int) => (((bind (m_l_one_V b8.2 ([(PyData.tuple [b8.1]), (PyData.list [b8.1]), (PyData.dict [(PyData.str ("a" : Str), b8.1)]), (PyData.tuple [b8.1, (PyData.int (1 : Int))]), (PyData.tuple [(PyData.int (1 : Int)), b8.1])] : List PyData)) fun r10 => pure (r10.1, r10.2))) : Option (PyData × Cup))) t6 (r4.1, r5.2)) fun o11 =>
  pure (o11.1, o11.2)
abbrev sp_l_odd (K : PySem.W.Frag) (Z : Ads) : Sp := spM (ι := Addr × Cup) (β := (PyData × Cup)) (fun i => [sRef i.1]) (fun i => [(i.1, cCup i.2)]) (fun i => m_l_odd i.2) (fun i b => rVal.at b.1) (fun i b => [(i.1, cCup b.2)])
abbrev N_l_odd : List Str := ["_law_cup_here", "_law_some", "_law_found", "_law_turn"]
theorem sc_l_odd : FnScope N_l_odd ["_law_cup_here"] (defScope s_l_odd) := ⟨rfl, rfl, rfl, by decide +kernel, rfl, by decide +kernel, by decide +kernel⟩
theorem ok_l_odd {P : Program} {w : World} {K : PySem.W.Frag} {Z : Ads} {mg : Str → Option Value} {base : Heap} (X : Tx K mg Z) (G_l_one : FnG P w K mg base CX0 2 X.f_l_one X.d_l_one ["_law_cup_here", "_law_some"] (sp_l_one K Z)) (G_l_one_V : FnG P w K mg base CX0 2 X.f_l_one X.d_l_one ["_law_cup_here", "_law_some"] (sp_l_one_V K Z)) : FnG P w K mg base CX0 3 X.f_l_odd X.d_l_odd ["_law_cup_here"] (sp_l_odd K Z) := by
  refine okG X.F_l_odd sc_l_odd (fun vs H Q E h => spM_len h fun _ => rfl) (fun cdv A outer s H vs Q E hr h => ?_)
  refine ⟨(tSeq (tAsg (tLst (tCons (tC .non) (tCons (tC (.bl true)) (tCons (tC (.bl false)) (tCons (tC (.int 0)) (tCons (tC (.int 1)) (tCons (tUn rdNeg (tC (.int 1))) (tCons (tC (.int 12)) (tCons (tOp rdPow (tC (.int 10)) (tC (.int 30))) (tCons (tC (.str ("" : Str))) (tCons (tC (.str ("a" : Str))) (tCons (tC (.str ("-" : Str))) (tCons (tTup tNil) (tCons (tLstB tNil) (tCons tDNewK (tCons (tTup (tCons (tC (.int 0)) tNil)) (tCons (tTup (tCons (tC (.int 1)) (tCons (tC (.int 0)) tNil))) (tCons (tTup (tCons (tTup (tCons (tC (.int 0)) tNil)) (tCons (tC (.int 1)) tNil))) (tCons (tTup (tCons (tTup (tCons (tTup (tCons (tC (.int 0)) tNil)) (tCons (tC (.int 1)) tNil))) tNil)) tNil))))))))))))))))))) (gName 1)) (tSeq (tAsg (tOp rCat (tVar 1) (tLst (tCons (tLstB (tCons (tTup (tCons (tTup (tCons (tC (.int 0)) tNil)) (tCons (tC (.int 1)) tNil))) tNil)) (tCons (tTup (tCons (tTup (tCons (tC (.int 0)) (tCons (tC (.int 0)) tNil))) (tCons (tC (.int 1)) tNil))) (tCons (tTup (tCons (tTup (tCons (tC (.int 0)) tNil)) (tCons (tC (.int 0)) tNil))) (tCons (tTup (tCons (tTup (tCons (tC (.int 1)) (tCons (tC (.int 0)) tNil))) (tCons (tC (.int 2)) tNil))) (tCons (tTup (tCons (tTup (tCons (tC (.str ("a" : Str))) tNil)) (tCons (tC (.int 1)) tNil))) (tCons (tTup (tCons (tTup (tCons (tC (.bl true)) tNil)) (tCons (tC (.int 0)) tNil))) (tCons (tTup (tCons (tTup (tCons (tC (.int 0)) tNil)) (tCons (tC .non) tNil))) (tCons (tDisp [((tC (.str ("a" : Str))), (tC (.int 1)))]) tNil)))))))))) (gName 1)) (tSeq (tAsg (tCall (sp_l_one_V K Z) [] E0 (tCons (tVar 0) (tCons (tVar 1) tNil))) (gName 2)) (tSeq (tFor (iRng1 (tCons (tCall (sp_l_one K Z) [] E0 (tCons (tVar 0) (tCons (tLst (tCons (tC (.int 0)) (tCons (tC (.int 0)) (tCons (tC (.int 0)) (tCons (tC (.int 1)) (tCons (tC (.int 2)) (tCons (tC (.int 9)) tNil))))))) tNil))) tNil)) (gName 3) (tAsg (tCall (sp_l_one_V K Z) [] E0 (tCons (tVar 0) (tCons (tLst (tCons (tTup (tCons (tVar 2) tNil)) (tCons (tLstB (tCons (tVar 2) tNil)) (tCons (tDisp [((tC (.str ("a" : Str))), (tVar 2))]) (tCons (tTup (tCons (tVar 2) (tCons (tC (.int 1)) tNil))) (tCons (tTup (tCons (tC (.int 1)) (tCons (tVar 2) tNil))) tNil)))))) tNil))) (gName 2))) (tRet (tVar 2)))))), (pss_cons (ps_set (i := 1) sc_l_odd.nd rfl (Or.inl rfl) (pe_lst (pa_cons pe_non (pa_cons pe_bl (pa_cons pe_bl (pa_cons pe_int (pa_cons pe_int (pa_cons (pe_un un_neg pe_int) (pa_cons pe_int (pa_cons (pe_op op_powW pe_int pe_int) (pa_cons pe_str (pa_cons pe_str (pa_cons pe_str (pa_cons (pe_tup pa_nil) (pa_cons (pe_lstB pa_nil) (pa_cons pe_dnewK (pa_cons (pe_tup (pa_cons pe_int pa_nil)) (pa_cons (pe_tup (pa_cons pe_int (pa_cons pe_int pa_nil))) (pa_cons (pe_tup (pa_cons (pe_tup (pa_cons pe_int pa_nil)) (pa_cons pe_int pa_nil))) (pa_cons (pe_tup (pa_cons (pe_tup (pa_cons (pe_tup (pa_cons pe_int pa_nil)) (pa_cons pe_int pa_nil))) pa_nil)) pa_nil)))))))))))))))))))) (pss_cons (ps_set (i := 1) sc_l_odd.nd rfl (Or.inl rfl) (pe_op op_cat (pv 1) (pe_lst (pa_cons (pe_lstB (pa_cons (pe_tup (pa_cons (pe_tup (pa_cons pe_int pa_nil)) (pa_cons pe_int pa_nil))) pa_nil)) (pa_cons (pe_tup (pa_cons (pe_tup (pa_cons pe_int (pa_cons pe_int pa_nil))) (pa_cons pe_int pa_nil))) (pa_cons (pe_tup (pa_cons (pe_tup (pa_cons pe_int pa_nil)) (pa_cons pe_int pa_nil))) (pa_cons (pe_tup (pa_cons (pe_tup (pa_cons pe_int (pa_cons pe_int pa_nil))) (pa_cons pe_int pa_nil))) (pa_cons (pe_tup (pa_cons (pe_tup (pa_cons pe_str pa_nil)) (pa_cons pe_int pa_nil))) (pa_cons (pe_tup (pa_cons (pe_tup (pa_cons pe_bl pa_nil)) (pa_cons pe_int pa_nil))) (pa_cons (pe_tup (pa_cons (pe_tup (pa_cons pe_int pa_nil)) (pa_cons pe_non pa_nil))) (pa_cons (pe_disp (pps_cons pe_str pe_int pps_nil) rfl rfl (by simp) (by decide)) pa_nil))))))))))) (pss_cons (ps_set (i := 2) sc_l_odd.nd rfl (Or.inl rfl) (pe_callG (G_l_one_V) (hr.mono (by decide)) (by rfl) X.g_l_one X.F_l_one.kp X.b_l_one .nil pass0 (pa_cons (pv 0) (pa_cons (pv 1) pa_nil)))) (pss_cons (ps_for PassesOwn.never rfl (pi_range1 (by rfl) X.z_range (pa_cons (pe_callG (G_l_one) (hr.mono (by decide)) (by rfl) X.g_l_one X.F_l_one.kp X.b_l_one .nil pass0 (pa_cons (pv 0) (pa_cons (pe_lst (pa_cons pe_int (pa_cons pe_int (pa_cons pe_int (pa_cons pe_int (pa_cons pe_int (pa_cons pe_int pa_nil))))))) pa_nil))) pa_nil)) (pg_name (i := 3) sc_l_odd.nd rfl (Or.inl rfl)) (pss_one (ps_set (i := 2) sc_l_odd.nd rfl (Or.inl rfl) (pe_callG (G_l_one_V) (hr.mono (by decide)) (by rfl) X.g_l_one X.F_l_one.kp X.b_l_one .nil pass0 (pa_cons (pv 0) (pa_cons (pe_lst (pa_cons (pe_tup (pa_cons (pv 2) pa_nil)) (pa_cons (pe_lstB (pa_cons (pv 2) pa_nil)) (pa_cons (pe_disp (pps_cons pe_str (pv 2) pps_nil) rfl rfl (by simp) (by decide)) (pa_cons (pe_tup (pa_cons (pv 2) (pa_cons pe_int pa_nil))) (pa_cons (pe_tup (pa_cons pe_int (pa_cons (pv 2) pa_nil))) pa_nil)))))) pa_nil)))))) (pss_one (ps_ret (pv 2))))))), ?_⟩
  obtain ⟨⟨c, k⟩, r, W, h, hcore, har, hrt⟩ := h
  refine body hcore har (Nat.le_of_ble_eq_true rfl) ?_
  clear hcore har
  change m_l_odd k = some r at h
  unfold m_l_odd at h
  change NxT _ _ [some (sRef c), none, none, none] _ [(c, cCup k)]
  replace h := bindE h
  obtain ⟨t1, ht1, h⟩ := h
  refine s_seq (s_set (e_lst (ea_cons (e_asV (d := PyData.none) (e_non ⟨asV_of vNon _, fun _ => (ea_cons (e_asV (d := (PyData.bool true)) (e_bl ⟨asV_of vBool _, fun _ => (ea_cons (e_asV (d := (PyData.bool false)) (e_bl ⟨asV_of vBool _, fun _ => (ea_cons (e_asV (d := (PyData.int (0 : Int))) (e_int ⟨asV_of vInt _, fun _ => (ea_cons (e_asV (d := (PyData.int (1 : Int))) (e_int ⟨asV_of vInt _, fun _ => (ea_cons (e_asV (d := (PyData.int (-(1 : Int)))) (e_un (g := fun i => -i) (e_int ⟨_, rfl, ⟨asV_of vInt _, fun _ => (ea_cons (e_asV (d := (PyData.int (12 : Int))) (e_int ⟨asV_of vInt _, fun _ => (ea_cons (e_asV (d := (PyData.int t1)) (e_opO oPow_ok (e_int ⟨_, rfl, (e_int ⟨_, _, rfl, ht1, ⟨asV_of vInt _, fun _ => (ea_cons (e_asV (d := (PyData.str ("" : Str))) (e_str ⟨asV_of vStr _, fun _ => (ea_cons (e_asV (d := (PyData.str ("a" : Str))) (e_str ⟨asV_of vStr _, fun _ => (ea_cons (e_asV (d := (PyData.str ("-" : Str))) (e_str ⟨asV_of vStr _, fun _ => (ea_cons (e_tupV (ea_nil ⟨[], .nil, Nat.le_of_ble_eq_true rfl, fun _ => (ea_cons (e_lstV (ea_nil ⟨[], .nil, Nat.le_of_ble_eq_true rfl, fun _ => (ea_cons (e_dic0V fun _ => (ea_cons (e_tupV (ea_cons (e_asV (d := (PyData.int (0 : Int))) (e_int ⟨asV_of vInt _, fun _ => (ea_nil ⟨[(PyData.int (0 : Int))], (.cons (asV_val _) .nil), Nat.le_of_ble_eq_true rfl, fun _ => (ea_cons (e_tupV (ea_cons (e_asV (d := (PyData.int (1 : Int))) (e_int ⟨asV_of vInt _, fun _ => (ea_cons (e_asV (d := (PyData.int (0 : Int))) (e_int ⟨asV_of vInt _, fun _ => (ea_nil ⟨[(PyData.int (1 : Int)), (PyData.int (0 : Int))], (.cons (asV_val _) (.cons (asV_val _) .nil)), Nat.le_of_ble_eq_true rfl, fun _ => (ea_cons (e_tupV (ea_cons (e_tupV (ea_cons (e_asV (d := (PyData.int (0 : Int))) (e_int ⟨asV_of vInt _, fun _ => (ea_nil ⟨[(PyData.int (0 : Int))], (.cons (asV_val _) .nil), Nat.le_of_ble_eq_true rfl, fun _ => (ea_cons (e_asV (d := (PyData.int (1 : Int))) (e_int ⟨asV_of vInt _, fun _ => (ea_nil ⟨[(PyData.tuple [(PyData.int (0 : Int))]), (PyData.int (1 : Int))], (.cons (asV_val _) (.cons (asV_val _) .nil)), Nat.le_of_ble_eq_true rfl, fun _ => (ea_cons (e_tupV (ea_cons (e_tupV (ea_cons (e_tupV (ea_cons (e_asV (d := (PyData.int (0 : Int))) (e_int ⟨asV_of vInt _, fun _ => (ea_nil ⟨[(PyData.int (0 : Int))], (.cons (asV_val _) .nil), Nat.le_of_ble_eq_true rfl, fun _ => (ea_cons (e_asV (d := (PyData.int (1 : Int))) (e_int ⟨asV_of vInt _, fun _ => (ea_nil ⟨[(PyData.tuple [(PyData.int (0 : Int))]), (PyData.int (1 : Int))], (.cons (asV_val _) (.cons (asV_val _) .nil)), Nat.le_of_ble_eq_true rfl, fun _ => (ea_nil ⟨[(PyData.tuple [(PyData.tuple [(PyData.int (0 : Int))]), (PyData.int (1 : Int))])], (.cons (asV_val _) .nil), Nat.le_of_ble_eq_true rfl, fun _ => (ea_nil ⟨_, rVal, ([PyData.none, (PyData.bool true), (PyData.bool false), (PyData.int (0 : Int)), (PyData.int (1 : Int)), (PyData.int (-(1 : Int))), (PyData.int (12 : Int)), (PyData.int t1), (PyData.str ("" : Str)), (PyData.str ("a" : Str)), (PyData.str ("-" : Str)), (PyData.tuple []), (PyData.list []), (PyData.dict []), (PyData.tuple [(PyData.int (0 : Int))]), (PyData.tuple [(PyData.int (1 : Int)), (PyData.int (0 : Int))]), (PyData.tuple [(PyData.tuple [(PyData.int (0 : Int))]), (PyData.int (1 : Int))]), (PyData.tuple [(PyData.tuple [(PyData.tuple [(PyData.int (0 : Int))]), (PyData.int (1 : Int))])])] : List PyData), rfl, Nat.le_of_ble_eq_true rfl, ?_⟩)⟩)⟩)⟩)))⟩)⟩)))))))))⟩)⟩)))⟩)⟩)))))))⟩)⟩)))⟩)))))⟩)⟩)))))))⟩)))⟩)))⟩)))⟩)))⟩)))⟩⟩)⟩))))⟩)))⟩⟩))))⟩)))⟩)))⟩)))⟩)))⟩)))))
  change NxT _ _ [some (sRef c), some ((rLst rVal).at ([PyData.none, (PyData.bool true), (PyData.bool false), (PyData.int (0 : Int)), (PyData.int (1 : Int)), (PyData.int (-(1 : Int))), (PyData.int (12 : Int)), (PyData.int t1), (PyData.str ("" : Str)), (PyData.str ("a" : Str)), (PyData.str ("-" : Str)), (PyData.tuple []), (PyData.list []), (PyData.dict []), (PyData.tuple [(PyData.int (0 : Int))]), (PyData.tuple [(PyData.int (1 : Int)), (PyData.int (0 : Int))]), (PyData.tuple [(PyData.tuple [(PyData.int (0 : Int))]), (PyData.int (1 : Int))]), (PyData.tuple [(PyData.tuple [(PyData.tuple [(PyData.int (0 : Int))]), (PyData.int (1 : Int))])])] : List PyData)), none, none] _ [(c, cCup k)]
  replace h := bindE h
  obtain ⟨t3, ht3, h⟩ := h
  refine s_seq (s_set (e_catL (e_var (sl := ((rLst rVal).at ([PyData.none, (PyData.bool true), (PyData.bool false), (PyData.int (0 : Int)), (PyData.int (1 : Int)), (PyData.int (-(1 : Int))), (PyData.int (12 : Int)), (PyData.int t1), (PyData.str ("" : Str)), (PyData.str ("a" : Str)), (PyData.str ("-" : Str)), (PyData.tuple []), (PyData.list []), (PyData.dict []), (PyData.tuple [(PyData.int (0 : Int))]), (PyData.tuple [(PyData.int (1 : Int)), (PyData.int (0 : Int))]), (PyData.tuple [(PyData.tuple [(PyData.int (0 : Int))]), (PyData.int (1 : Int))]), (PyData.tuple [(PyData.tuple [(PyData.tuple [(PyData.int (0 : Int))]), (PyData.int (1 : Int))])])] : List PyData))) rfl fun _ => (e_lst (ea_cons (e_lstV (ea_cons (e_tupV (ea_cons (e_tupV (ea_cons (e_asV (d := (PyData.int (0 : Int))) (e_int ⟨asV_of vInt _, fun _ => (ea_nil ⟨[(PyData.int (0 : Int))], (.cons (asV_val _) .nil), Nat.le_of_ble_eq_true rfl, fun _ => (ea_cons (e_asV (d := (PyData.int (1 : Int))) (e_int ⟨asV_of vInt _, fun _ => (ea_nil ⟨[(PyData.tuple [(PyData.int (0 : Int))]), (PyData.int (1 : Int))], (.cons (asV_val _) (.cons (asV_val _) .nil)), Nat.le_of_ble_eq_true rfl, fun _ => (ea_nil ⟨[(PyData.tuple [(PyData.tuple [(PyData.int (0 : Int))]), (PyData.int (1 : Int))])], (.cons (asV_val _) .nil), Nat.le_of_ble_eq_true rfl, fun _ => (ea_cons (e_tupV (ea_cons (e_tupV (ea_cons (e_asV (d := (PyData.int (0 : Int))) (e_int ⟨asV_of vInt _, fun _ => (ea_cons (e_asV (d := (PyData.int (0 : Int))) (e_int ⟨asV_of vInt _, fun _ => (ea_nil ⟨[(PyData.int (0 : Int)), (PyData.int (0 : Int))], (.cons (asV_val _) (.cons (asV_val _) .nil)), Nat.le_of_ble_eq_true rfl, fun _ => (ea_cons (e_asV (d := (PyData.int (1 : Int))) (e_int ⟨asV_of vInt _, fun _ => (ea_nil ⟨[(PyData.tuple [(PyData.int (0 : Int)), (PyData.int (0 : Int))]), (PyData.int (1 : Int))], (.cons (asV_val _) (.cons (asV_val _) .nil)), Nat.le_of_ble_eq_true rfl, fun _ => (ea_cons (e_tupV (ea_cons (e_tupV (ea_cons (e_asV (d := (PyData.int (0 : Int))) (e_int ⟨asV_of vInt _, fun _ => (ea_nil ⟨[(PyData.int (0 : Int))], (.cons (asV_val _) .nil), Nat.le_of_ble_eq_true rfl, fun _ => (ea_cons (e_asV (d := (PyData.int (0 : Int))) (e_int ⟨asV_of vInt _, fun _ => (ea_nil ⟨[(PyData.tuple [(PyData.int (0 : Int))]), (PyData.int (0 : Int))], (.cons (asV_val _) (.cons (asV_val _) .nil)), Nat.le_of_ble_eq_true rfl, fun _ => (ea_cons (e_tupV (ea_cons (e_tupV (ea_cons (e_asV (d := (PyData.int (1 : Int))) (e_int ⟨asV_of vInt _, fun _ => (ea_cons (e_asV (d := (PyData.int (0 : Int))) (e_int ⟨asV_of vInt _, fun _ => (ea_nil ⟨[(PyData.int (1 : Int)), (PyData.int (0 : Int))], (.cons (asV_val _) (.cons (asV_val _) .nil)), Nat.le_of_ble_eq_true rfl, fun _ => (ea_cons (e_asV (d := (PyData.int (2 : Int))) (e_int ⟨asV_of vInt _, fun _ => (ea_nil ⟨[(PyData.tuple [(PyData.int (1 : Int)), (PyData.int (0 : Int))]), (PyData.int (2 : Int))], (.cons (asV_val _) (.cons (asV_val _) .nil)), Nat.le_of_ble_eq_true rfl, fun _ => (ea_cons (e_tupV (ea_cons (e_tupV (ea_cons (e_asV (d := (PyData.str ("a" : Str))) (e_str ⟨asV_of vStr _, fun _ => (ea_nil ⟨[(PyData.str ("a" : Str))], (.cons (asV_val _) .nil), Nat.le_of_ble_eq_true rfl, fun _ => (ea_cons (e_asV (d := (PyData.int (1 : Int))) (e_int ⟨asV_of vInt _, fun _ => (ea_nil ⟨[(PyData.tuple [(PyData.str ("a" : Str))]), (PyData.int (1 : Int))], (.cons (asV_val _) (.cons (asV_val _) .nil)), Nat.le_of_ble_eq_true rfl, fun _ => (ea_cons (e_tupV (ea_cons (e_tupV (ea_cons (e_asV (d := (PyData.bool true)) (e_bl ⟨asV_of vBool _, fun _ => (ea_nil ⟨[(PyData.bool true)], (.cons (asV_val _) .nil), Nat.le_of_ble_eq_true rfl, fun _ => (ea_cons (e_asV (d := (PyData.int (0 : Int))) (e_int ⟨asV_of vInt _, fun _ => (ea_nil ⟨[(PyData.tuple [(PyData.bool true)]), (PyData.int (0 : Int))], (.cons (asV_val _) (.cons (asV_val _) .nil)), Nat.le_of_ble_eq_true rfl, fun _ => (ea_cons (e_tupV (ea_cons (e_tupV (ea_cons (e_asV (d := (PyData.int (0 : Int))) (e_int ⟨asV_of vInt _, fun _ => (ea_nil ⟨[(PyData.int (0 : Int))], (.cons (asV_val _) .nil), Nat.le_of_ble_eq_true rfl, fun _ => (ea_cons (e_asV (d := PyData.none) (e_non ⟨asV_of vNon _, fun _ => (ea_nil ⟨[(PyData.tuple [(PyData.int (0 : Int))]), PyData.none], (.cons (asV_val _) (.cons (asV_val _) .nil)), Nat.le_of_ble_eq_true rfl, fun _ => (ea_cons (e_dic1V fun p2 => (e_str ⟨_, rfl, fun _ => (e_asV (d := (PyData.int (1 : Int))) (e_int ⟨asV_of vInt _, ⟨[(c, cCup k)], _, rfl, asV_val _, fun _ => (ea_nil ⟨_, rVal, ([(PyData.list [(PyData.tuple [(PyData.tuple [(PyData.int (0 : Int))]), (PyData.int (1 : Int))])]), (PyData.tuple [(PyData.tuple [(PyData.int (0 : Int)), (PyData.int (0 : Int))]), (PyData.int (1 : Int))]), (PyData.tuple [(PyData.tuple [(PyData.int (0 : Int))]), (PyData.int (0 : Int))]), (PyData.tuple [(PyData.tuple [(PyData.int (1 : Int)), (PyData.int (0 : Int))]), (PyData.int (2 : Int))]), (PyData.tuple [(PyData.tuple [(PyData.str ("a" : Str))]), (PyData.int (1 : Int))]), (PyData.tuple [(PyData.tuple [(PyData.bool true)]), (PyData.int (0 : Int))]), (PyData.tuple [(PyData.tuple [(PyData.int (0 : Int))]), PyData.none]), (PyData.dict [(PyData.str ("a" : Str), (PyData.int (1 : Int)))])] : List PyData), rfl, Nat.le_of_ble_eq_true rfl, ⟨_, _, _, _, _, rfl, rfl, ht3, ?_⟩⟩)⟩⟩))⟩)))⟩)⟩)))⟩)⟩)))))))⟩)⟩)))⟩)⟩)))))))⟩)⟩)))⟩)⟩)))))))⟩)⟩)))⟩)⟩)))⟩)))))))⟩)⟩)))⟩)⟩)))))))⟩)⟩)))⟩)⟩)))⟩)))))))⟩)⟩)⟩)))⟩)⟩)))))))))))))
  change NxT _ _ [some (sRef c), some ((rLst rVal).at t3), none, none] _ [(c, cCup k)]
  replace h := bindE h
  obtain ⟨r4, hr4, h⟩ := h
  refine s_seq (s_set (e_call (ea_cons (e_var (sl := (sRef c)) rfl fun _ => (ea_cons (e_var (sl := ((rLst rVal).at t3)) rfl fun _ => (ea_nil ⟨(c, k, t3), r4, [], hr4, rfl, rfl, ?_⟩)))))))
  change NxT _ _ [some (sRef c), some ((rLst rVal).at t3), some (rVal.at r4.1), none] _ [(c, cCup r4.2)]
  replace h := bindE h
  obtain ⟨r5, hr5, h⟩ := h
  replace h := bindE h
  obtain ⟨t6, ht6, h⟩ := h
  replace h := bindE h
  obtain ⟨o11, ho11, h⟩ := h
  refine s_seq (fold_sound (is := [3]) (i_range1 (ea_cons (e_call (ea_cons (e_var (sl := (sRef c)) rfl fun _ => (ea_cons (e_lst (ea_cons (e_int fun _ => (ea_cons (e_int fun _ => (ea_cons (e_int fun _ => (ea_cons (e_int fun _ => (ea_cons (e_int fun _ => (ea_cons (e_int fun _ => (ea_nil ⟨_, rInt, ([(0 : Int), (0 : Int), (0 : Int), (1 : Int), (2 : Int), (9 : Int)] : List Int), rfl, Nat.le_of_ble_eq_true rfl, fun _ => (ea_nil ⟨(c, r4.2, ([(0 : Int), (0 : Int), (0 : Int), (1 : Int), (2 : Int), (9 : Int)] : List Int)), r5, [], hr5, rfl, rfl, fun _ => (ea_nil ⟨_, _, rfl, ht6, ⟨_, _, rInt, t6, (r4.1, r5.2), _, o11, fun (b8 : (PyData × Cup)) => [some (sRef c), some ((rLst rVal).at t3), some (rVal.at b8.1), none], fun (b8 : (PyData × Cup)) => [(c, cCup b8.2)], rfl, ho11, (by exact (And.intro rfl (And.intro rfl (And.intro rfl True.intro)))), rfl, ?b12, ?_⟩⟩)⟩)⟩)))))))))))))))))))))
  case b12 =>
    clear h
    intro T1 b8 x7 b1 h N Bk hN
    refine g_name ?_
    change NxT _ _ [some (sRef c), some ((rLst rVal).at t3), some (rVal.at b8.1), some (rInt.at x7)] _ [(c, cCup b8.2)]
    replace h := bindE h
    obtain ⟨r10, hr10, h⟩ := h
    refine (s_set (e_call (ea_cons (e_var (sl := (sRef c)) rfl fun _ => (ea_cons (e_lst (ea_cons (e_tupV (ea_cons (e_var (sl := (rVal.at b8.1)) rfl fun _ => (ea_nil ⟨[b8.1], (.cons (asV_val _) .nil), Nat.le_of_ble_eq_true rfl, fun _ => (ea_cons (e_lstV (ea_cons (e_var (sl := (rVal.at b8.1)) rfl fun _ => (ea_nil ⟨[b8.1], (.cons (asV_val _) .nil), Nat.le_of_ble_eq_true rfl, fun _ => (ea_cons (e_dic1V fun p9 => (e_str ⟨_, rfl, fun _ => (e_var (sl := (rVal.at b8.1)) rfl ⟨[(c, cCup b8.2)], _, rfl, asV_val _, fun _ => (ea_cons (e_tupV (ea_cons (e_var (sl := (rVal.at b8.1)) rfl fun _ => (ea_cons (e_asV (d := (PyData.int (1 : Int))) (e_int ⟨asV_of vInt _, fun _ => (ea_nil ⟨[b8.1, (PyData.int (1 : Int))], (.cons (asV_val _) (.cons (asV_val _) .nil)), Nat.le_of_ble_eq_true rfl, fun _ => (ea_cons (e_tupV (ea_cons (e_asV (d := (PyData.int (1 : Int))) (e_int ⟨asV_of vInt _, fun _ => (ea_cons (e_var (sl := (rVal.at b8.1)) rfl fun _ => (ea_nil ⟨[(PyData.int (1 : Int)), b8.1], (.cons (asV_val _) (.cons (asV_val _) .nil)), Nat.le_of_ble_eq_true rfl, fun _ => (ea_nil ⟨_, rVal, ([(PyData.tuple [b8.1]), (PyData.list [b8.1]), (PyData.dict [(PyData.str ("a" : Str), b8.1)]), (PyData.tuple [b8.1, (PyData.int (1 : Int))]), (PyData.tuple [(PyData.int (1 : Int)), b8.1])] : List PyData), rfl, Nat.le_of_ble_eq_true rfl, fun _ => (ea_nil ⟨(c, b8.2, ([(PyData.tuple [b8.1]), (PyData.list [b8.1]), (PyData.dict [(PyData.str ("a" : Str), b8.1)]), (PyData.tuple [b8.1, (PyData.int (1 : Int))]), (PyData.tuple [(PyData.int (1 : Int)), b8.1])] : List PyData)), r10, [], hr10, rfl, rfl, ?_⟩)⟩)⟩)))⟩)))))⟩)⟩)))))))⟩)⟩)))⟩)))))⟩)))))))))))
    change NxT _ _ [some (sRef c), some ((rLst rVal).at t3), some (rVal.at r10.1), some (rInt.at x7)] _ [(c, cCup r10.2)]
    replace h := pureE h
    subst h
    exact s_weak (by exact (And.intro rfl (And.intro rfl (And.intro rfl True.intro)))) (.cons₂ _ .slnil) hN
  change NxT _ _ [some (sRef c), some ((rLst rVal).at t3), some (rVal.at o11.1), none] _ [(c, cCup o11.2)]
  replace h := pureE h
  subst h
  refine s_ret (e_var (sl := (rVal.at o11.1)) rfl ?_)
  exact Rt.drop hrt (.cons₂ _ .slnil)
def mb_l_bent (mrec : Cup → PyData → Int → Option (PyData × Cup)) (k : Cup) (v_thing : PyData) (v_deep : Int) : Option (PyData × Cup) :=
  bind (((bif (decide ((0 : Int) < v_deep)) then ((bind (((bif (isTupD v_thing) then ((bind (oTupD v_thing) fun u1 => (bind (((bif (!u1.isEmpty) then ((bind (m_l_dip k (4 : Int)) fun r2 => pure ((decide ((0 : Int) < r2.1)), r2.2))) else (pure (false, k))) : Option (Bool × Cup))) fun t3 => pure (t3.1, t3.2)))) else (pure (false, k))) : Option (Bool × Cup))) fun t5 => pure (t5.1, t5.2))) else (pure (false, k))) : Option (Bool × Cup))) fun t7 =>
  (bif t7.1 then ((bind (oTupD v_thing) fun u9 => (bind (m_l_dip t7.2 (u9.length : Int)) fun r10 => (bind (oTupD v_thing) fun u11 => (bind (oTupD v_thing) fun u12 => (bind (atI u12 r10.1) fun t13 => (bind (mrec r10.2 t13 (v_deep - (1 : Int))) fun r14 => (bind (oCat (cutL u11 none (some r10.1)) ([r14.1] : List PyData)) fun t15 => (bind (oTupD v_thing) fun u16 => (bind (oCat t15 (cutL u16 (some (r10.1 + (1 : Int))) none)) fun t17 => pure (((vTup vVal).d t17), r14.2))))))))))) else ((bind (((bif (isTupD v_thing) then ((bind (m_l_dip t7.2 (2 : Int)) fun r18 => pure ((decide (r18.1 = (0 : Int))), r18.2))) else (pure (false, t7.2))) : Option (Bool × Cup))) fun t19 => (bif t19.1 then ((bind (oTupD v_thing) fun u21 => (bind (oTupD v_thing) fun u22 => (bind (oTupD v_thing) fun u23 => (bind (oCat u23 (cutL u22 (some (-(1 : Int))) none)) fun t24 => (bind (oTupD v_thing) fun u25 => (bind (oTupD v_thing) fun u26 => (bind (oTupD v_thing) fun u27 => (bind (m_l_one_V t19.2 ([(PyData.list u21), ((vTup vVal).d t24), ((vTup vVal).d u25.reverse), ((vTup vVal).d (cutL u26 (some (1 : Int)) none)), ((vTup vVal).d (cutL u27 none (some (-(1 : Int))))), (PyData.tuple [v_thing])] : List PyData)) fun r28 => pure (r28.1, r28.2)))))))))) else ((bind (((bif (isIntD v_thing) then ((bind (((bif (!(isBoolD v_thing)) then ((bind (m_l_dip t19.2 (2 : Int)) fun r29 => pure ((decide (r29.1 = (0 : Int))), r29.2))) else (pure (false, t19.2))) : Option (Bool × Cup))) fun t30 => pure (t30.1, t30.2))) else (pure (false, t19.2))) : Option (Bool × Cup))) fun t32 => (bif t32.1 then ((bind (oIntD v_thing) fun u34 => (bind (oIntD v_thing) fun u35 => (bind (oIntD v_thing) fun u36 => (bind (oIntD v_thing) fun u37 => (bind (oStrI u37) fun t38 => (bind (oIntD v_thing) fun u39 => (bind (m_l_one_V t32.2 ([(PyData.int (u34 + (1 : Int))), (PyData.int (u35 - (1 : Int))), (PyData.int (-u36)), (PyData.str t38), (PyData.tuple [v_thing]), (PyData.bool (decide (u39 = (1 : Int))))] : List PyData)) fun r40 => pure (r40.1, r40.2))))))))) else ((bind (m_l_odd t32.2) fun r41 => pure (r41.1, r41.2))))))))))
def m_l_bent : Nat → Cup → PyData → Int → Option (PyData × Cup)
  | 0 => fun _ _ _ => none
  | n + 1 => fun x0 x1 x2 => mb_l_bent (m_l_bent n) x0 x1 x2
abbrev sp_l_bent (K : PySem.W.Frag) (Z : Ads) (n : Nat) : Sp := spM (ι := Addr × Cup × PyData × Int) (β := (PyData × Cup)) (fun i => [sRef i.1, rVal.at i.2.2.1, rInt.at i.2.2.2]) (fun i => [(i.1, cCup i.2.1)]) (fun i => (m_l_bent n) i.2.1 i.2.2.1 i.2.2.2) (fun i b => rVal.at b.1) (fun i b => [(i.1, cCup b.2)])
abbrev N_l_bent : List Str := ["_law_cup_here", "_law_thing", "_law_deep", "_law_at"]
theorem sc_l_bent : FnScope N_l_bent ["_law_cup_here", "_law_thing", "_law_deep"] (defScope s_l_bent) := ⟨rfl, rfl, rfl, by decide +kernel, rfl, by decide +kernel, by decide +kernel⟩
theorem ok_l_bent {P : Program} {w : World} {K : PySem.W.Frag} {Z : Ads} {mg : Str → Option Value} {base : Heap} (X : Tx K mg Z) (G_l_dip : FnG P w K mg base CX0 1 X.f_l_dip X.d_l_dip ["_law_cup_here", "_law_many"] (sp_l_dip K Z)) (G_l_odd : FnG P w K mg base CX0 3 X.f_l_odd X.d_l_odd ["_law_cup_here"] (sp_l_odd K Z)) (G_l_one_V : FnG P w K mg base CX0 2 X.f_l_one X.d_l_one ["_law_cup_here", "_law_some"] (sp_l_one_V K Z)) : ∀ n : Nat, FnG P w K mg base CX0 (4 + n) X.f_l_bent X.d_l_bent ["_law_cup_here", "_law_thing", "_law_deep"] (sp_l_bent K Z n)
  | 0 => ⟨fun vs H Q E h => spM_len h fun _ => rfl, fun A ou s H ar us vs Q E hr e0 hb r h => by obtain ⟨i, r, W, h, _⟩ := h; cases h⟩
  | n + 1 => by
    have G_l_bent := ok_l_bent X G_l_dip G_l_odd G_l_one_V n
    refine okG X.F_l_bent sc_l_bent (fun vs H Q E h => spM_len h fun _ => rfl) (fun cdv A outer s H vs Q E hr h => ?_)
    have hr : RoomG (4 + n) _ := hr
    refine ⟨(tSeq (tIfS (tAnd (tTest (tOp rdGt (tVar 2) (tC (.int 0)))) (tAnd (tB (tCB (rIsi K) (tCons (tVar 1) (tCons (tC (.ty "tuple")) tNil)))) (tAnd (tTest (tOp rNeT0 (tVar 1) (tTup tNil))) (tTest (tOp rdGt (tCall (sp_l_dip K Z) [] E0 (tCons (tVar 0) (tCons (tC (.int 4)) tNil))) (tC (.int 0))))))) (tSeq (tAsg (tCall (sp_l_dip K Z) [] E0 (tCons (tVar 0) (tCons (tCB (rdLen K) (tCons (tVar 1) tNil)) tNil))) (gName 3)) (tRet (tOp (rCatA K) (tOp (rCatA K) (tSl (rSlA K) (tVar 1) tNoPart (tPart (tVar 3))) (tTup (tCons (tCall (sp_l_bent K Z n) [] E0 (tCons (tVar 0) (tCons (tOp (rIxT K) (tVar 1) (tVar 3)) (tCons (tOp rdSub (tVar 2) (tC (.int 1))) tNil)))) tNil))) (tSl (rSlA K) (tVar 1) (tPart (tOp rdAdd (tVar 3) (tC (.int 1)))) tNoPart)))) tNext) (tSeq (tIfS (tAnd (tB (tCB (rIsi K) (tCons (tVar 1) (tCons (tC (.ty "tuple")) tNil)))) (tTest (tOp rEq (tCall (sp_l_dip K Z) [] E0 (tCons (tVar 0) (tCons (tC (.int 2)) tNil))) (tC (.int 0))))) (tRet (tCall (sp_l_one_V K Z) [] E0 (tCons (tVar 0) (tCons (tLst (tCons (tCB (rListFar K) (tCons (tVar 1) tNil)) (tCons (tOp (rCatA K) (tVar 1) (tSl (rSlA K) (tVar 1) (tPart (tUn rdNeg (tC (.int 1)))) tNoPart)) (tCons (tRevT K (tVar 1)) (tCons (tSl (rSlA K) (tVar 1) (tPart (tC (.int 1))) tNoPart) (tCons (tSl (rSlA K) (tVar 1) tNoPart (tPart (tUn rdNeg (tC (.int 1))))) (tCons (tTup (tCons (tVar 1) tNil)) tNil))))))) tNil)))) tNext) (tSeq (tIfS (tAnd (tB (tCB (rIsi K) (tCons (tVar 1) (tCons (tC (.ty "int")) tNil)))) (tAnd (tNot (tB (tCB (rIsi K) (tCons (tVar 1) (tCons (tC (.ty "bool")) tNil))))) (tTest (tOp rEq (tCall (sp_l_dip K Z) [] E0 (tCons (tVar 0) (tCons (tC (.int 2)) tNil))) (tC (.int 0)))))) (tRet (tCall (sp_l_one_V K Z) [] E0 (tCons (tVar 0) (tCons (tLst (tCons (tOp rdAdd (tVar 1) (tC (.int 1))) (tCons (tOp rdSub (tVar 1) (tC (.int 1))) (tCons (tUn rdNeg (tVar 1)) (tCons (tCB rStrI (tCons (tVar 1) tNil)) (tCons (tTup (tCons (tVar 1) tNil)) (tCons (tOp rEq (tVar 1) (tC (.int 1))) tNil))))))) tNil)))) tNext) (tRet (tCall (sp_l_odd K Z) [] E0 (tCons (tVar 0) tNil)))))), (pss_cons (ps_if (PW.pt (pw_and (pt_cmpR op_gt (pv 2) pe_int (nomark _)) (pw_and (pt_val (pe_callB call_isi (by rfl) X.z_isinstance bt_isinstance (pa_cons (pv 1) (pa_cons (pe_bltn (by rfl) X.z_tuple bt_tuple rfl) pa_nil)))) (pw_and (pt_cmpR (op_neT0 hr.units) (pv 1) (pe_tup pa_nil) (nomark _)) (pw_and1 (pt_cmpR op_gt (pe_callG (G_l_dip) (hr.mono (by omega)) (by rfl) X.g_l_dip X.F_l_dip.kp X.b_l_dip .nil pass0 (pa_cons (pv 0) (pa_cons pe_int pa_nil))) pe_int (nomark _))))))) (pss_cons (ps_set (i := 3) sc_l_bent.nd rfl (Or.inl rfl) (pe_callG (G_l_dip) (hr.mono (by omega)) (by rfl) X.g_l_dip X.F_l_dip.kp X.b_l_dip .nil pass0 (pa_cons (pv 0) (pa_cons (pe_callB call_len_seq (by rfl) X.z_len bt_len (pa_cons (pv 1) pa_nil)) pa_nil)))) (pss_one (ps_ret (pe_op op_catA (pe_op op_catA (pe_slice sl_tupA (pv 1) po_none (po_some (pv 3))) (pe_tup (pa_cons (pe_callG (G_l_bent) (hr.mono (by omega)) (by rfl) X.g_l_bent X.F_l_bent.kp X.b_l_bent .nil pass0 (pa_cons (pv 0) (pa_cons (pe_ix ix_tup (pv 1) (pv 3) (fun _ _ => rfl)) (pa_cons (pe_op op_sub (pv 2) pe_int) pa_nil)))) pa_nil))) (pe_slice sl_tupA (pv 1) (po_some (pe_op op_add (pv 3) pe_int)) po_none))))) pss_nil) (pss_cons (ps_if (PW.pt (pw_and (pt_val (pe_callB call_isi (by rfl) X.z_isinstance bt_isinstance (pa_cons (pv 1) (pa_cons (pe_bltn (by rfl) X.z_tuple bt_tuple rfl) pa_nil)))) (pw_and1 (pt_cmpR op_eq (pe_callG (G_l_dip) (hr.mono (by omega)) (by rfl) X.g_l_dip X.F_l_dip.kp X.b_l_dip .nil pass0 (pa_cons (pv 0) (pa_cons pe_int pa_nil))) pe_int (nomark _))))) (pss_one (ps_ret (pe_callG (G_l_one_V) (hr.mono (by omega)) (by rfl) X.g_l_one X.F_l_one.kp X.b_l_one .nil pass0 (pa_cons (pv 0) (pa_cons (pe_lst (pa_cons (pe_callTy call_list_far (by rfl) X.z_list bt_list (pa_cons (pv 1) pa_nil)) (pa_cons (pe_op op_catA (pv 1) (pe_slice sl_tupA (pv 1) (po_some (pe_un un_neg pe_int)) po_none)) (pa_cons (pe_revT (pv 1)) (pa_cons (pe_slice sl_tupA (pv 1) (po_some pe_int) po_none) (pa_cons (pe_slice sl_tupA (pv 1) po_none (po_some (pe_un un_neg pe_int))) (pa_cons (pe_tup (pa_cons (pv 1) pa_nil)) pa_nil))))))) pa_nil))))) pss_nil) (pss_cons (ps_if (PW.pt (pw_and (pt_val (pe_callB call_isi (by rfl) X.z_isinstance bt_isinstance (pa_cons (pv 1) (pa_cons (pe_bltn (by rfl) X.z_int bt_int rfl) pa_nil)))) (pw_and (pt_not (pt_val (pe_callB call_isi (by rfl) X.z_isinstance bt_isinstance (pa_cons (pv 1) (pa_cons (pe_bltn (by rfl) X.z_bool bt_bool rfl) pa_nil))))) (pw_and1 (pt_cmpR op_eq (pe_callG (G_l_dip) (hr.mono (by omega)) (by rfl) X.g_l_dip X.F_l_dip.kp X.b_l_dip .nil pass0 (pa_cons (pv 0) (pa_cons pe_int pa_nil))) pe_int (nomark _)))))) (pss_one (ps_ret (pe_callG (G_l_one_V) (hr.mono (by omega)) (by rfl) X.g_l_one X.F_l_one.kp X.b_l_one .nil pass0 (pa_cons (pv 0) (pa_cons (pe_lst (pa_cons (pe_op op_add (pv 1) pe_int) (pa_cons (pe_op op_sub (pv 1) pe_int) (pa_cons (pe_un un_neg (pv 1)) (pa_cons (pe_callTy call_strI (by rfl) X.z_str bt_str (pa_cons (pv 1) pa_nil)) (pa_cons (pe_tup (pa_cons (pv 1) pa_nil)) (pa_cons (pe_cmpR op_eq (pv 1) pe_int (nomark _)) pa_nil))))))) pa_nil))))) pss_nil) (pss_one (ps_ret (pe_callG (G_l_odd) (hr.mono (by omega)) (by rfl) X.g_l_odd X.F_l_odd.kp X.b_l_odd .nil pass0 (pa_cons (pv 0) pa_nil))))))), ?_⟩
    obtain ⟨⟨c, k, v_thing, v_deep⟩, r, W, h, hcore, har, hrt⟩ := h
    refine body hcore har (Nat.le_of_ble_eq_true rfl) ?_
    clear hcore har
    change mb_l_bent (m_l_bent n) k v_thing v_deep = some r at h
    unfold mb_l_bent at h
    change NxT _ _ [some (sRef c), some (rVal.at v_thing), some (rInt.at v_deep), none] _ [(c, cCup k)]
    replace h := bindE h
    obtain ⟨t7, ht7, h⟩ := h
    refine s_seq (s_if (t_and (c := (decide ((0 : Int) < v_deep))) (d := t7.1) (cs' := [(c, cCup t7.2)]) (t_test (e_opB0 (g := fun i j => decide (j < i)) (e_var (sl := (rInt.at v_deep)) rfl ⟨_, rfl, (e_int ⟨_, rfl, ⟨_, rfl, ⟨rfl, ?b8, fun hc => (by have h := pureE (condF hc ht7); subst h; exact ⟨rfl, rfl⟩)⟩⟩⟩)⟩))) ⟨fun hc => ?_, fun hc => ?_⟩))
    case b8 =>
      intro hc
      have h := condT hc ht7
      replace h := bindE h
      obtain ⟨t5, ht5, h⟩ := h
      replace h := pureE h
      subst h
      refine (t_and (c := (isTupD v_thing)) (d := t5.1) (cs' := [(c, cCup t5.2)]) (t_val (e_isV (ea_cons (e_var (sl := (rVal.at v_thing)) rfl fun _ => (ea_cons (e_cls (fun _ => (ea_nil ⟨_, rfl, kit_tupD _ _, ⟨_, rfl, ⟨rfl, ?b6, fun hc => (by have h := pureE (condF hc ht5); subst h; exact ⟨rfl, rfl⟩)⟩⟩⟩)))))))) ⟨rfl, rfl⟩)
      case b6 =>
        intro hc
        have h := condT hc ht5
        replace h := bindE h
        obtain ⟨u1, hu1, h⟩ := h
        replace h := bindE h
        obtain ⟨t3, ht3, h⟩ := h
        replace h := pureE h
        subst h
        refine (t_and (c := (!u1.isEmpty)) (d := t3.1) (cs' := [(c, cCup t3.2)]) (t_test (e_neT0 (e_to (d := v_thing) (e_var (sl := (rVal.at v_thing)) rfl ⟨rfl, nar_tup hu1, fun _ => (e_tup (ea_nil ⟨_, rVal, ([] : List PyData), rfl, Nat.le_of_ble_eq_true rfl, ⟨_, _, rVal, rVal, _, rfl, rfl, ⟨_, rfl, ⟨rfl, ?b4, fun hc => (by have h := pureE (condF hc ht3); subst h; exact ⟨rfl, rfl⟩)⟩⟩⟩⟩))⟩)))) ⟨rfl, rfl⟩)
        case b4 =>
          intro hc
          have h := condT hc ht3
          replace h := bindE h
          obtain ⟨r2, hr2, h⟩ := h
          replace h := pureE h
          subst h
          refine (t_test (e_opB0 (g := fun i j => decide (j < i)) (e_call (ea_cons (e_var (sl := (sRef c)) rfl fun _ => (ea_cons (e_int fun _ => (ea_nil ⟨(c, k, (4 : Int)), r2, [], hr2, rfl, rfl, ⟨_, rfl, (e_int ⟨_, rfl, ⟨_, rfl, ⟨rfl, rfl⟩⟩⟩)⟩⟩))))))))
    · replace h := condT hc h
      replace h := bindE h
      obtain ⟨u9, hu9, h⟩ := h
      replace h := bindE h
      obtain ⟨r10, hr10, h⟩ := h
      refine s_seq (s_set (e_call (ea_cons (e_var (sl := (sRef c)) rfl fun _ => (ea_cons (e_lenT (ea_cons (e_to (d := v_thing) (e_var (sl := (rVal.at v_thing)) rfl ⟨rfl, nar_tup hu9, fun _ => (ea_nil ⟨_, rVal, _, rfl, fun _ => (ea_nil ⟨(c, t7.2, (u9.length : Int)), r10, [], hr10, rfl, rfl, ?_⟩)⟩)⟩)))))))))
      change NxT _ _ [some (sRef c), some (rVal.at v_thing), some (rInt.at v_deep), some (rInt.at r10.1)] _ [(c, cCup r10.2)]
      replace h := bindE h
      obtain ⟨u11, hu11, h⟩ := h
      replace h := bindE h
      obtain ⟨u12, hu12, h⟩ := h
      replace h := bindE h
      obtain ⟨t13, ht13, h⟩ := h
      replace h := bindE h
      obtain ⟨r14, hr14, h⟩ := h
      replace h := bindE h
      obtain ⟨t15, ht15, h⟩ := h
      replace h := bindE h
      obtain ⟨u16, hu16, h⟩ := h
      replace h := bindE h
      obtain ⟨t17, ht17, h⟩ := h
      replace h := pureE h
      subst h
      refine s_ret (e_asV (d := ((vTup vVal).d t17)) (e_catT (e_catT (e_slT (e_to (d := v_thing) (e_var (sl := (rVal.at v_thing)) rfl ⟨rfl, nar_tup hu11, fun _ => (eo_none (eo_some (e_var (sl := (rInt.at r10.1)) rfl ⟨_, rfl, ⟨_, rVal, _, rfl, fun _ => (e_tup (ea_cons (e_call (ea_cons (e_var (sl := (sRef c)) rfl fun _ => (ea_cons (e_ixT (e_to (d := v_thing) (e_var (sl := (rVal.at v_thing)) rfl ⟨rfl, nar_tup hu12, fun _ => (e_var (sl := (rInt.at r10.1)) rfl ⟨_, rVal, _, _, _, rfl, rfl, ht13, fun _ => (ea_cons (e_opI0 (g := fun i j => i - j) (e_var (sl := (rInt.at v_deep)) rfl ⟨_, rfl, (e_int ⟨_, rfl, fun _ => (ea_nil ⟨(c, r10.2, t13, (v_deep - (1 : Int))), r14, [], hr14, rfl, rfl, fun _ => (ea_nil ⟨_, rVal, ([r14.1] : List PyData), rfl, Nat.le_of_ble_eq_true rfl, ⟨_, _, _, _, _, rfl, rfl, ht15, fun _ => (e_slT (e_to (d := v_thing) (e_var (sl := (rVal.at v_thing)) rfl ⟨rfl, nar_tup hu16, fun _ => (eo_some (e_opI0 (g := fun i j => i + j) (e_var (sl := (rInt.at r10.1)) rfl ⟨_, rfl, (e_int ⟨_, rfl, ⟨_, rfl, (eo_none ⟨_, rVal, _, rfl, ⟨_, _, _, _, _, rfl, rfl, ht17, ⟨asV_of (vTup vVal) _, ?_⟩⟩⟩)⟩⟩)⟩)))⟩)))⟩⟩)⟩)⟩)⟩)))⟩)⟩)))))))))⟩⟩)))⟩))))))
      exact Rt.drop hrt (.cons₂ _ .slnil)
    · replace h := condF hc h
      refine s_next ?_
      replace h := bindE h
      obtain ⟨t19, ht19, h⟩ := h
      refine s_seq (s_if (t_and (c := (isTupD v_thing)) (d := t19.1) (cs' := [(c, cCup t19.2)]) (t_val (e_isV (ea_cons (e_var (sl := (rVal.at v_thing)) rfl fun _ => (ea_cons (e_cls (fun _ => (ea_nil ⟨_, rfl, kit_tupD _ _, ⟨_, rfl, ⟨rfl, ?b20, fun hc => (by have h := pureE (condF hc ht19); subst h; exact ⟨rfl, rfl⟩)⟩⟩⟩)))))))) ⟨fun hc => ?_, fun hc => ?_⟩))
      case b20 =>
        intro hc
        have h := condT hc ht19
        replace h := bindE h
        obtain ⟨r18, hr18, h⟩ := h
        replace h := pureE h
        subst h
        refine (t_test (e_eqI (e_call (ea_cons (e_var (sl := (sRef c)) rfl fun _ => (ea_cons (e_int fun _ => (ea_nil ⟨(c, t7.2, (2 : Int)), r18, [], hr18, rfl, rfl, ⟨_, rfl, (e_int ⟨_, rfl, ⟨_, rfl, ⟨rfl, rfl⟩⟩⟩)⟩⟩))))))))
      · replace h := condT hc h
        replace h := bindE h
        obtain ⟨u21, hu21, h⟩ := h
        replace h := bindE h
        obtain ⟨u22, hu22, h⟩ := h
        replace h := bindE h
        obtain ⟨u23, hu23, h⟩ := h
        replace h := bindE h
        obtain ⟨t24, ht24, h⟩ := h
        replace h := bindE h
        obtain ⟨u25, hu25, h⟩ := h
        replace h := bindE h
        obtain ⟨u26, hu26, h⟩ := h
        replace h := bindE h
        obtain ⟨u27, hu27, h⟩ := h
        replace h := bindE h
        obtain ⟨r28, hr28, h⟩ := h
        replace h := pureE h
        subst h
        refine s_ret (e_call (ea_cons (e_var (sl := (sRef c)) rfl fun _ => (ea_cons (e_lst (ea_cons (e_listFar (ea_cons (e_to (d := v_thing) (e_var (sl := (rVal.at v_thing)) rfl ⟨rfl, nar_tup hu21, fun _ => (ea_nil ⟨_, rfl, fun _ => (ea_cons (e_asV (d := ((vTup vVal).d t24)) (e_catT (e_to (d := v_thing) (e_var (sl := (rVal.at v_thing)) rfl ⟨rfl, nar_tup hu23, fun _ => (e_slT (e_to (d := v_thing) (e_var (sl := (rVal.at v_thing)) rfl ⟨rfl, nar_tup hu22, fun _ => (eo_some (e_un (g := fun i => -i) (e_int ⟨_, rfl, ⟨_, rfl, (eo_none ⟨_, rVal, _, rfl, ⟨_, _, _, _, _, rfl, rfl, ht24, ⟨asV_of (vTup vVal) _, fun _ => (ea_cons (e_asV (d := ((vTup vVal).d u25.reverse)) (e_revT (e_to (d := v_thing) (e_var (sl := (rVal.at v_thing)) rfl ⟨rfl, nar_tup hu25, ⟨_, rVal, _, rfl, ⟨asV_of (vTup vVal) _, fun _ => (ea_cons (e_asV (d := ((vTup vVal).d (cutL u26 (some (1 : Int)) none))) (e_slT (e_to (d := v_thing) (e_var (sl := (rVal.at v_thing)) rfl ⟨rfl, nar_tup hu26, fun _ => (eo_some (e_int ⟨_, rfl, (eo_none ⟨_, rVal, _, rfl, ⟨asV_of (vTup vVal) _, fun _ => (ea_cons (e_asV (d := ((vTup vVal).d (cutL u27 none (some (-(1 : Int)))))) (e_slT (e_to (d := v_thing) (e_var (sl := (rVal.at v_thing)) rfl ⟨rfl, nar_tup hu27, fun _ => (eo_none (eo_some (e_un (g := fun i => -i) (e_int ⟨_, rfl, ⟨_, rfl, ⟨_, rVal, _, rfl, ⟨asV_of (vTup vVal) _, fun _ => (ea_cons (e_tupV (ea_cons (e_var (sl := (rVal.at v_thing)) rfl fun _ => (ea_nil ⟨[v_thing], (.cons (asV_val _) .nil), Nat.le_of_ble_eq_true rfl, fun _ => (ea_nil ⟨_, rVal, ([(PyData.list u21), ((vTup vVal).d t24), ((vTup vVal).d u25.reverse), ((vTup vVal).d (cutL u26 (some (1 : Int)) none)), ((vTup vVal).d (cutL u27 none (some (-(1 : Int))))), (PyData.tuple [v_thing])] : List PyData), rfl, Nat.le_of_ble_eq_true rfl, fun _ => (ea_nil ⟨(c, t19.2, ([(PyData.list u21), ((vTup vVal).d t24), ((vTup vVal).d u25.reverse), ((vTup vVal).d (cutL u26 (some (1 : Int)) none)), ((vTup vVal).d (cutL u27 none (some (-(1 : Int))))), (PyData.tuple [v_thing])] : List PyData)), r28, [], hr28, rfl, rfl, ?_⟩)⟩)⟩)))))⟩⟩⟩⟩))))⟩)))))⟩⟩)⟩))⟩)))))⟩⟩⟩)))))⟩⟩⟩)⟩⟩)))⟩)))⟩)))))⟩)⟩))))))))))
        exact Rt.drop hrt (.cons₂ _ .slnil)
      · replace h := condF hc h
        refine s_next ?_
        replace h := bindE h
        obtain ⟨t32, ht32, h⟩ := h
        refine s_seq (s_if (t_and (c := (isIntD v_thing)) (d := t32.1) (cs' := [(c, cCup t32.2)]) (t_val (e_isV (ea_cons (e_var (sl := (rVal.at v_thing)) rfl fun _ => (ea_cons (e_cls (fun _ => (ea_nil ⟨_, rfl, kit_intD _ _, ⟨_, rfl, ⟨rfl, ?b33, fun hc => (by have h := pureE (condF hc ht32); subst h; exact ⟨rfl, rfl⟩)⟩⟩⟩)))))))) ⟨fun hc => ?_, fun hc => ?_⟩))
        case b33 =>
          intro hc
          have h := condT hc ht32
          replace h := bindE h
          obtain ⟨t30, ht30, h⟩ := h
          replace h := pureE h
          subst h
          refine (t_and (c := (!(isBoolD v_thing))) (d := t30.1) (cs' := [(c, cCup t30.2)]) (t_not (t_val (e_isV (ea_cons (e_var (sl := (rVal.at v_thing)) rfl fun _ => (ea_cons (e_cls (fun _ => (ea_nil ⟨_, rfl, kit_boolD _ _, ⟨_, rfl, ⟨rfl, ?b31, fun hc => (by have h := pureE (condF hc ht30); subst h; exact ⟨rfl, rfl⟩)⟩⟩⟩))))))))) ⟨rfl, rfl⟩)
          case b31 =>
            intro hc
            have h := condT hc ht30
            replace h := bindE h
            obtain ⟨r29, hr29, h⟩ := h
            replace h := pureE h
            subst h
            refine (t_test (e_eqI (e_call (ea_cons (e_var (sl := (sRef c)) rfl fun _ => (ea_cons (e_int fun _ => (ea_nil ⟨(c, t19.2, (2 : Int)), r29, [], hr29, rfl, rfl, ⟨_, rfl, (e_int ⟨_, rfl, ⟨_, rfl, ⟨rfl, rfl⟩⟩⟩)⟩⟩))))))))
        · replace h := condT hc h
          replace h := bindE h
          obtain ⟨u34, hu34, h⟩ := h
          replace h := bindE h
          obtain ⟨u35, hu35, h⟩ := h
          replace h := bindE h
          obtain ⟨u36, hu36, h⟩ := h
          replace h := bindE h
          obtain ⟨u37, hu37, h⟩ := h
          replace h := bindE h
          obtain ⟨t38, ht38, h⟩ := h
          replace h := bindE h
          obtain ⟨u39, hu39, h⟩ := h
          replace h := bindE h
          obtain ⟨r40, hr40, h⟩ := h
          replace h := pureE h
          subst h
          refine s_ret (e_call (ea_cons (e_var (sl := (sRef c)) rfl fun _ => (ea_cons (e_lst (ea_cons (e_asV (d := (PyData.int (u34 + (1 : Int)))) (e_opI0 (g := fun i j => i + j) (e_to (d := v_thing) (e_var (sl := (rVal.at v_thing)) rfl ⟨rfl, nar_int hu34, ⟨_, rfl, (e_int ⟨_, rfl, ⟨asV_of vInt _, fun _ => (ea_cons (e_asV (d := (PyData.int (u35 - (1 : Int)))) (e_opI0 (g := fun i j => i - j) (e_to (d := v_thing) (e_var (sl := (rVal.at v_thing)) rfl ⟨rfl, nar_int hu35, ⟨_, rfl, (e_int ⟨_, rfl, ⟨asV_of vInt _, fun _ => (ea_cons (e_asV (d := (PyData.int (-u36))) (e_un (g := fun i => -i) (e_to (d := v_thing) (e_var (sl := (rVal.at v_thing)) rfl ⟨rfl, nar_int hu36, ⟨_, rfl, ⟨asV_of vInt _, fun _ => (ea_cons (e_asV (d := (PyData.str t38)) (e_strI (ea_cons (e_to (d := v_thing) (e_var (sl := (rVal.at v_thing)) rfl ⟨rfl, nar_int hu37, fun _ => (ea_nil ⟨_, _, rfl, ht38, ⟨asV_of vStr _, fun _ => (ea_cons (e_tupV (ea_cons (e_var (sl := (rVal.at v_thing)) rfl fun _ => (ea_nil ⟨[v_thing], (.cons (asV_val _) .nil), Nat.le_of_ble_eq_true rfl, fun _ => (ea_cons (e_asV (d := (PyData.bool (decide (u39 = (1 : Int))))) (e_eqI (e_to (d := v_thing) (e_var (sl := (rVal.at v_thing)) rfl ⟨rfl, nar_int hu39, ⟨_, rfl, (e_int ⟨_, rfl, ⟨asV_of vBool _, fun _ => (ea_nil ⟨_, rVal, ([(PyData.int (u34 + (1 : Int))), (PyData.int (u35 - (1 : Int))), (PyData.int (-u36)), (PyData.str t38), (PyData.tuple [v_thing]), (PyData.bool (decide (u39 = (1 : Int))))] : List PyData), rfl, Nat.le_of_ble_eq_true rfl, fun _ => (ea_nil ⟨(c, t32.2, ([(PyData.int (u34 + (1 : Int))), (PyData.int (u35 - (1 : Int))), (PyData.int (-u36)), (PyData.str t38), (PyData.tuple [v_thing]), (PyData.bool (decide (u39 = (1 : Int))))] : List PyData)), r40, [], hr40, rfl, rfl, ?_⟩)⟩)⟩⟩)⟩⟩)))))⟩)))))⟩⟩)⟩))))))⟩⟩⟩)))))⟩⟩)⟩⟩)))))⟩⟩)⟩⟩))))))))))
          exact Rt.drop hrt (.cons₂ _ .slnil)
        · replace h := condF hc h
          refine s_next ?_
          replace h := bindE h
          obtain ⟨r41, hr41, h⟩ := h
          replace h := pureE h
          subst h
          refine s_ret (e_call (ea_cons (e_var (sl := (sRef c)) rfl fun _ => (ea_nil ⟨(c, t32.2), r41, [], hr41, rfl, rfl, ?_⟩))))
          exact Rt.drop hrt (.cons₂ _ .slnil)
def m_l_names_pool  : Option (List (List Nat)) :=
  pure ([([97] : List Nat), ([98] : List Nat), ([99] : List Nat), ([97, 100, 100] : List Nat), ([110, 97, 109, 101] : List Nat), ([122, 122, 122, 122, 122, 122, 122, 122] : List Nat), ([112, 108, 117, 115] : List Nat), ([109, 105, 110, 117, 115] : List Nat), ([116, 105, 109, 101, 115] : List Nat), ([105, 102] : List Nat), ([120] : List Nat), ([121] : List Nat), ([122] : List Nat), ([113] : List Nat)] : List (List Nat))
abbrev sp_l_names_pool (K : PySem.W.Frag) (Z : Ads) : Sp := spM (ι := Unit) (β := (List (List Nat))) (fun i => []) (fun i => []) (fun i => m_l_names_pool ) (fun i b => (rLst rTx).at b) (fun i b => [])
abbrev N_l_names_pool : List Str := []
theorem sc_l_names_pool : FnScope N_l_names_pool [] (defScope s_l_names_pool) := ⟨rfl, rfl, rfl, by decide +kernel, rfl, by decide +kernel, by decide +kernel⟩
theorem ok_l_names_pool {P : Program} {w : World} {K : PySem.W.Frag} {Z : Ads} {mg : Str → Option Value} {base : Heap} (X : Tx K mg Z) : FnG P w K mg base CX0 1 X.f_l_names_pool X.d_l_names_pool [] (sp_l_names_pool K Z) := by
  refine okG X.F_l_names_pool sc_l_names_pool (fun vs H Q E h => spM_len h fun _ => rfl) (fun cdv A outer s H vs Q E hr h => ?_)
  refine ⟨(tRet (tLst (tCons (tC (.str ("a" : Str))) (tCons (tC (.str ("b" : Str))) (tCons (tC (.str ("c" : Str))) (tCons (tC (.str ("add" : Str))) (tCons (tC (.str ("name" : Str))) (tCons (tC (.str ("zzzzzzzz" : Str))) (tCons (tC (.str ("plus" : Str))) (tCons (tC (.str ("minus" : Str))) (tCons (tC (.str ("times" : Str))) (tCons (tC (.str ("if" : Str))) (tCons (tC (.str ("x" : Str))) (tCons (tC (.str ("y" : Str))) (tCons (tC (.str ("z" : Str))) (tCons (tC (.str ("q" : Str))) tNil)))))))))))))))), (pss_one (ps_ret (pe_lst (pa_cons pe_str (pa_cons pe_str (pa_cons pe_str (pa_cons pe_str (pa_cons pe_str (pa_cons pe_str (pa_cons pe_str (pa_cons pe_str (pa_cons pe_str (pa_cons pe_str (pa_cons pe_str (pa_cons pe_str (pa_cons pe_str (pa_cons pe_str pa_nil))))))))))))))))), ?_⟩
  obtain ⟨⟨⟩, r, W, h, hcore, har, hrt⟩ := h
  refine body hcore har (Nat.le_of_ble_eq_true rfl) ?_
  clear hcore har
  change m_l_names_pool  = some r at h
  unfold m_l_names_pool at h
  change NxT _ _ [] _ []
  replace h := pureE h
  subst h
  refine s_ret (e_lst (ea_cons (e_tx (a := ([97] : List Nat)) (by decide +kernel) fun _ => (ea_cons (e_tx (a := ([98] : List Nat)) (by decide +kernel) fun _ => (ea_cons (e_tx (a := ([99] : List Nat)) (by decide +kernel) fun _ => (ea_cons (e_tx (a := ([97, 100, 100] : List Nat)) (by decide +kernel) fun _ => (ea_cons (e_tx (a := ([110, 97, 109, 101] : List Nat)) (by decide +kernel) fun _ => (ea_cons (e_tx (a := ([122, 122, 122, 122, 122, 122, 122, 122] : List Nat)) (by decide +kernel) fun _ => (ea_cons (e_tx (a := ([112, 108, 117, 115] : List Nat)) (by decide +kernel) fun _ => (ea_cons (e_tx (a := ([109, 105, 110, 117, 115] : List Nat)) (by decide +kernel) fun _ => (ea_cons (e_tx (a := ([116, 105, 109, 101, 115] : List Nat)) (by decide +kernel) fun _ => (ea_cons (e_tx (a := ([105, 102] : List Nat)) (by decide +kernel) fun _ => (ea_cons (e_tx (a := ([120] : List Nat)) (by decide +kernel) fun _ => (ea_cons (e_tx (a := ([121] : List Nat)) (by decide +kernel) fun _ => (ea_cons (e_tx (a := ([122] : List Nat)) (by decide +kernel) fun _ => (ea_cons (e_tx (a := ([113] : List Nat)) (by decide +kernel) fun _ => (ea_nil ⟨_, rTx, ([([97] : List Nat), ([98] : List Nat), ([99] : List Nat), ([97, 100, 100] : List Nat), ([110, 97, 109, 101] : List Nat), ([122, 122, 122, 122, 122, 122, 122, 122] : List Nat), ([112, 108, 117, 115] : List Nat), ([109, 105, 110, 117, 115] : List Nat), ([116, 105, 109, 101, 115] : List Nat), ([105, 102] : List Nat), ([120] : List Nat), ([121] : List Nat), ([122] : List Nat), ([113] : List Nat)] : List (List Nat)), rfl, Nat.le_of_ble_eq_true rfl, ?_⟩))))))))))))))))))))))))))))))
  exact Rt.drop hrt .slnil
def m_l_is_name (v_thing : PyData) : Option Bool :=
  bind (((bif (isStrD v_thing) then ((bind (oTxD v_thing) fun u1 => (bind (oTxI u1) fun t2 => (bind (((bif ((decide ((0 : Int) < (t2.length : Int))) && (decide ((t2.length : Int) < (9 : Int)))) then ((bind (oTxD v_thing) fun u3 => (bind (oTxI u3) fun t4 => pure ((t4.map fun (x5 : Nat) => (decide (x5 ∈ ([97, 98, 99, 100, 101, 102, 103, 104, 105, 106, 107, 108, 109, 110, 111, 112, 113, 114, 115, 116, 117, 118, 119, 120, 121, 122] : List Nat)))).all id)))) else (pure false)) : Option Bool)) fun t8 => pure t8)))) else (pure false)) : Option Bool)) fun t10 =>
  pure t10
abbrev sp_l_is_name (K : PySem.W.Frag) (Z : Ads) : Sp := spM (ι := PyData) (β := Bool) (fun i => [rVal.at i]) (fun i => []) (fun i => m_l_is_name i) (fun i b => rBool.at b) (fun i b => [])
abbrev N_l_is_name : List Str := ["_law_thing", "_law_letters", "_law_sign"]
theorem sc_l_is_name : FnScope N_l_is_name ["_law_thing"] (defScope s_l_is_name) := ⟨rfl, rfl, rfl, by decide +kernel, rfl, by decide +kernel, by decide +kernel⟩
theorem ok_l_is_name {P : Program} {w : World} {K : PySem.W.Frag} {Z : Ads} {mg : Str → Option Value} {base : Heap} (X : Tx K mg Z) : FnG P w K mg base CX0 1 X.f_l_is_name X.d_l_is_name ["_law_thing"] (sp_l_is_name K Z) := by
  refine okG X.F_l_is_name sc_l_is_name (fun vs H Q E h => spM_len h fun _ => rfl) (fun cdv A outer s H vs Q E hr h => ?_)
  refine ⟨(tSeq (tAsg (tC (.str ("abcdefghijklmnopqrstuvwxyz" : Str))) (gName 1)) (tRet (tAndV (tCB (rIsi K) (tCons (tVar 0) (tCons (tC (.ty "str")) tNil))) (tAndV (tChain rdLt rdLt (tC (.int 0)) (tCB rLenTx (tCons (tVar 0) tNil)) (tC (.int 9))) (tCB (rAll K) (tCons (tLc (iStr (tVar 0)) (gName 2) tYes (tOp rInSg (tVar 2) (tVar 1)) [2]) tNil)))))), (pss_cons (ps_set (i := 1) sc_l_is_name.nd rfl (Or.inr rfl) pe_str) (pss_one (ps_ret (pe_and (pe_callB call_isi (by rfl) X.z_isinstance bt_isinstance (pa_cons (pv 0) (pa_cons (pe_bltn (by rfl) X.z_str bt_str rfl) pa_nil))) (pe_and (pe_chain op_lt op_lt pe_int (pe_callB call_lenTx (by rfl) X.z_len bt_len (pa_cons (pv 0) pa_nil)) pe_int) (pe_one (pe_callB (cr_all rfl) (by rfl) X.z_all bt_all (pa_cons (pe_lc (own := [("_law_sign", 2)]) (g := (gName 2)) (tt := tYes) (te := (tOp rInSg (tVar 2) (tVar 1))) rfl sc_l_is_name.nd (pi_str (pv 0)) (blkOk_by (N := N_l_is_name) (sc := (defScope s_l_is_name)) (by decide +kernel)) (fun _ _ _ _ _ => (pg_name (i := 2) sc_l_is_name.nd rfl (Or.inl rfl))) (fun _ _ _ _ _ => pts_nil) (fun _ _ _ _ _ => (pe_cmpR op_inSg (pv 2) (pv 1) (by with_unfolding_all rfl)))) pa_nil)))))))), ?_⟩
  obtain ⟨v_thing, r, W, h, hcore, har, hrt⟩ := h
  refine body hcore har (Nat.le_of_ble_eq_true rfl) ?_
  clear hcore har
  change m_l_is_name v_thing = some r at h
  unfold m_l_is_name at h
  change NxT _ _ [some (rVal.at v_thing), none, none] _ []
  refine s_seq (s_set (e_tx (a := ([97, 98, 99, 100, 101, 102, 103, 104, 105, 106, 107, 108, 109, 110, 111, 112, 113, 114, 115, 116, 117, 118, 119, 120, 121, 122] : List Nat)) (by decide +kernel) ?_))
  change NxT _ _ [some (rVal.at v_thing), some (rTx.at ([97, 98, 99, 100, 101, 102, 103, 104, 105, 106, 107, 108, 109, 110, 111, 112, 113, 114, 115, 116, 117, 118, 119, 120, 121, 122] : List Nat)), none] _ []
  replace h := bindE h
  obtain ⟨t10, ht10, h⟩ := h
  replace h := pureE h
  subst h
  refine s_ret (e_and (c := (isStrD v_thing)) (d := t10) (e_isV (ea_cons (e_var (sl := (rVal.at v_thing)) rfl fun _ => (ea_cons (e_cls (fun _ => (ea_nil ⟨_, rfl, kit_strD _ _, ⟨rfl, ?b11, fun hc => ⟨pureE' (condF hc ht10), rfl⟩⟩⟩))))))) ?_)
  case b11 =>
    intro hc
    have h := condT hc ht10
    replace h := bindE h
    obtain ⟨u1, hu1, h⟩ := h
    replace h := bindE h
    obtain ⟨t2, ht2, h⟩ := h
    replace h := bindE h
    obtain ⟨t8, ht8, h⟩ := h
    replace h := pureE h
    subst h
    refine (e_and (c := ((decide ((0 : Int) < (t2.length : Int))) && (decide ((t2.length : Int) < (9 : Int))))) (d := t8) (e_chainI (g := fun i j => decide (i < j)) (g' := fun i j => decide (i < j)) (d := ((decide ((0 : Int) < (t2.length : Int))) && (decide ((t2.length : Int) < (9 : Int))))) (e_int ⟨_, rfl, (e_lenX (ea_cons (e_to (d := v_thing) (e_var (sl := (rVal.at v_thing)) rfl ⟨rfl, nar_tx hu1, fun _ => (ea_nil ⟨_, _, rfl, ht2, ⟨_, rfl, fun hc => (e_int ⟨_, rfl, andT hc, rfl⟩), fun hc => ⟨andF hc, rfl⟩⟩⟩)⟩))))⟩) ⟨rfl, ?b9, fun hc => ⟨pureE' (condF hc ht8), rfl⟩⟩) ⟨rfl, rfl⟩)
    case b9 =>
      intro hc
      have h := condT hc ht8
      replace h := bindE h
      obtain ⟨u3, hu3, h⟩ := h
      replace h := bindE h
      obtain ⟨t4, ht4, h⟩ := h
      replace h := pureE h
      subst h
      refine (e_all (ea_cons (lc_sound (is := [2]) (by decide) (i_str (e_to (d := v_thing) (e_var (sl := (rVal.at v_thing)) rfl ⟨rfl, nar_tx hu3, ⟨_, _, rfl, ht4, ⟨_, _, _, rSg, t4, (), fun (u : Unit) (x5 : Nat) => some (some (decide (x5 ∈ ([97, 98, 99, 100, 101, 102, 103, 104, 105, 106, 107, 108, 109, 110, 111, 112, 113, 114, 115, 116, 117, 118, 119, 120, 121, 122] : List Nat))), u), (t4.map fun (x5 : Nat) => (decide (x5 ∈ ([97, 98, 99, 100, 101, 102, 103, 104, 105, 106, 107, 108, 109, 110, 111, 112, 113, 114, 115, 116, 117, 118, 119, 120, 121, 122] : List Nat)))), (), rBool, fun _ => [], rfl, lcO_map _ _, rfl, ?b7, fun _ => (ea_nil ⟨_, rfl, ⟨rfl, rfl⟩⟩)⟩⟩⟩))))))
      case b7 =>
        intro W1 T1 k6 x5 o u1 h
        refine g_name ?_
        cases h
        refine t_yes ⟨fun _ => ?_, fun z => nomatch z⟩
        refine (e_inSg (e_var (sl := (rSg.at x5)) rfl ⟨_, rfl, fun _ => (e_var (sl := (rTx.at ([97, 98, 99, 100, 101, 102, 103, 104, 105, 106, 107, 108, 109, 110, 111, 112, 113, 114, 115, 116, 117, 118, 119, 120, 121, 122] : List Nat))) rfl ⟨_, rfl, ⟨_, rfl, rfl, rfl⟩⟩)⟩))
  exact Rt.drop hrt .slnil
def m_l_is_int (v_thing : PyData) (v_least : Int) (v_most : Int) : Option Bool :=
  bind (((bif (isIntD v_thing) then ((bind (((bif (!(isBoolD v_thing)) then ((bind (oIntD v_thing) fun u1 => pure ((decide (v_least ≤ u1)) && (decide (u1 ≤ v_most))))) else (pure false)) : Option Bool)) fun t2 => pure t2)) else (pure false)) : Option Bool)) fun t4 =>
  pure t4
abbrev sp_l_is_int (K : PySem.W.Frag) (Z : Ads) : Sp := spM (ι := PyData × Int × Int) (β := Bool) (fun i => [rVal.at i.1, rInt.at i.2.1, rInt.at i.2.2]) (fun i => []) (fun i => m_l_is_int i.1 i.2.1 i.2.2) (fun i b => rBool.at b) (fun i b => [])
abbrev N_l_is_int : List Str := ["_law_thing", "_law_least", "_law_most"]
theorem sc_l_is_int : FnScope N_l_is_int ["_law_thing", "_law_least", "_law_most"] (defScope s_l_is_int) := ⟨rfl, rfl, rfl, by decide +kernel, rfl, by decide +kernel, by decide +kernel⟩
theorem ok_l_is_int {P : Program} {w : World} {K : PySem.W.Frag} {Z : Ads} {mg : Str → Option Value} {base : Heap} (X : Tx K mg Z) : FnG P w K mg base CX0 1 X.f_l_is_int X.d_l_is_int ["_law_thing", "_law_least", "_law_most"] (sp_l_is_int K Z) := by
  refine okG X.F_l_is_int sc_l_is_int (fun vs H Q E h => spM_len h fun _ => rfl) (fun cdv A outer s H vs Q E hr h => ?_)
  refine ⟨(tRet (tAndV (tCB (rIsi K) (tCons (tVar 0) (tCons (tC (.ty "int")) tNil))) (tAndV (tNotV (tCB (rIsi K) (tCons (tVar 0) (tCons (tC (.ty "bool")) tNil)))) (tChain rdLe rdLe (tVar 1) (tVar 0) (tVar 2))))), (pss_one (ps_ret (pe_and (pe_callB call_isi (by rfl) X.z_isinstance bt_isinstance (pa_cons (pv 0) (pa_cons (pe_bltn (by rfl) X.z_int bt_int rfl) pa_nil))) (pe_and (pe_not (pe_callB call_isi (by rfl) X.z_isinstance bt_isinstance (pa_cons (pv 0) (pa_cons (pe_bltn (by rfl) X.z_bool bt_bool rfl) pa_nil)))) (pe_one (pe_chain op_le op_le (pv 1) (pv 0) (pv 2))))))), ?_⟩
  obtain ⟨⟨v_thing, v_least, v_most⟩, r, W, h, hcore, har, hrt⟩ := h
  refine body hcore har (Nat.le_of_ble_eq_true rfl) ?_
  clear hcore har
  change m_l_is_int v_thing v_least v_most = some r at h
  unfold m_l_is_int at h
  change NxT _ _ [some (rVal.at v_thing), some (rInt.at v_least), some (rInt.at v_most)] _ []
  replace h := bindE h
  obtain ⟨t4, ht4, h⟩ := h
  replace h := pureE h
  subst h
  refine s_ret (e_and (c := (isIntD v_thing)) (d := t4) (e_isV (ea_cons (e_var (sl := (rVal.at v_thing)) rfl fun _ => (ea_cons (e_cls (fun _ => (ea_nil ⟨_, rfl, kit_intD _ _, ⟨rfl, ?b5, fun hc => ⟨pureE' (condF hc ht4), rfl⟩⟩⟩))))))) ?_)
  case b5 =>
    intro hc
    have h := condT hc ht4
    replace h := bindE h
    obtain ⟨t2, ht2, h⟩ := h
    replace h := pureE h
    subst h
    refine (e_and (c := (!(isBoolD v_thing))) (d := t2) (e_not (e_isV (ea_cons (e_var (sl := (rVal.at v_thing)) rfl fun _ => (ea_cons (e_cls (fun _ => (ea_nil ⟨_, rfl, kit_boolD _ _, ⟨_, rfl, ⟨rfl, ?b3, fun hc => ⟨pureE' (condF hc ht2), rfl⟩⟩⟩⟩)))))))) ⟨rfl, rfl⟩)
    case b3 =>
      intro hc
      have h := condT hc ht2
      replace h := bindE h
      obtain ⟨u1, hu1, h⟩ := h
      replace h := pureE h
      subst h
      refine (e_chainI (g := fun i j => decide (i ≤ j)) (g' := fun i j => decide (i ≤ j)) (d := ((decide (v_least ≤ u1)) && (decide (u1 ≤ v_most)))) (e_var (sl := (rInt.at v_least)) rfl ⟨_, rfl, (e_to (d := v_thing) (e_var (sl := (rVal.at v_thing)) rfl ⟨rfl, nar_int hu1, ⟨_, rfl, fun hc => (e_var (sl := (rInt.at v_most)) rfl ⟨_, rfl, andT hc, rfl⟩), fun hc => ⟨andF hc, rfl⟩⟩⟩))⟩) ⟨rfl, rfl⟩)
  exact Rt.drop hrt .slnil
def m_l_asked (v_ask : RzV Str) : Option PyData :=
  (match v_ask with | .err 0 xv1 => ((bind (oCat ([true, false, false] : List Bool) ([false, false, false] : List Bool)) fun t2 => (bind (oCat t2 ([false, false, false] : List Bool)) fun t3 => (bind (oCat t3 ([false, false, false] : List Bool)) fun t4 => (bind (oApp t4 false) fun l5 => (bif ((!decide (((l5.count true : Nat) : Int) = (1 : Int))) || (!true)) then (none) else ((bind (oIdxB l5 true) fun t6 => (bif (decide (t6 ∈ ([(4 : Int), (8 : Int), (11 : Int)] : List Int))) then (none) else ((bif (decide (t6 ∈ ([(5 : Int), (7 : Int), (9 : Int)] : List Int))) then (none) else ((bif (decide (t6 = (12 : Int))) then (none) else ((bind (atI ([([98, 105, 116, 115] : List Nat), ([110, 97, 109, 101, 115] : List Nat), ([110, 111, 32, 110, 97, 109, 101] : List Nat), ([110, 117, 109, 98, 101, 114] : List Nat), ([] : List Nat), ([] : List Nat), ([110, 97, 109, 101] : List Nat), ([] : List Nat), ([] : List Nat), ([] : List Nat), ([110, 111, 32, 116, 105, 116, 108, 101] : List Nat)] : List (List Nat)) t6) fun t7 => pure (PyData.tuple [(vTx.d t7), xv1])))))))))))))))) | .err 1 xv1 => ((bind (oCat ([false, true, false] : List Bool) ([false, false, false] : List Bool)) fun t8 => (bind (oCat t8 ([false, false, false] : List Bool)) fun t9 => (bind (oCat t9 ([false, false, false] : List Bool)) fun t10 => (bind (oApp t10 false) fun l11 => (bif ((!decide (((l11.count true : Nat) : Int) = (1 : Int))) || (!true)) then (none) else ((bind (oIdxB l11 true) fun t12 => (bif (decide (t12 ∈ ([(4 : Int), (8 : Int), (11 : Int)] : List Int))) then (none) else ((bif (decide (t12 ∈ ([(5 : Int), (7 : Int), (9 : Int)] : List Int))) then (none) else ((bif (decide (t12 = (12 : Int))) then (none) else ((bind (atI ([([98, 105, 116, 115] : List Nat), ([110, 97, 109, 101, 115] : List Nat), ([110, 111, 32, 110, 97, 109, 101] : List Nat), ([110, 117, 109, 98, 101, 114] : List Nat), ([] : List Nat), ([] : List Nat), ([110, 97, 109, 101] : List Nat), ([] : List Nat), ([] : List Nat), ([] : List Nat), ([110, 111, 32, 116, 105, 116, 108, 101] : List Nat)] : List (List Nat)) t12) fun t13 => pure (PyData.tuple [(vTx.d t13), xv1])))))))))))))))) | .err (_ + 2) _ => none | .val xu14 => (pure (PyData.tuple [PyData.str ("returned" : Str), (vStr.d xu14)])))
abbrev N_l_asked : List Str := ["_law_ask", "_law_caught", "error", "_law_marks", "_law_at", "_law_word", "_law_words"]
theorem sc_l_asked : FnScope N_l_asked ["_law_ask"] (defScope s_l_asked) := ⟨rfl, rfl, rfl, by decide +kernel, rfl, by decide +kernel, by decide +kernel⟩
theorem gv_l_asked {P : Program} {w : World} {K : PySem.W.Frag} {Z : Ads} {mg : Str → Option Value} {base : Heap} (X : Tx K mg Z) (q : Str) : GivesS P w K mg base N_l_asked "_law_asked" s_l_asked X.f_l_asked "_law_ask" q (TTl (xt_ X) q rStr m_l_asked (fun b => rVal.at b)) := by
  intro A outer cdv f d s H Q tl hr act h
  obtain ⟨W, v_ask, r, hcore, hd, hask, h, hrt⟩ := h
  refine ⟨(tSeq (tAsg (tC .non) (gName 1)) (tTryK K (.ref X.cm_err) 2 (fun Wx => (tRet (tTup (tCons (tC (.str ("returned" : Str))) (tCons (tAsk f d q tl Wx) tNil))))) (fun _ _ _ => tAsg (tVar 2) (gName 1)) (fun _ _ _ _ => False) tDead (fun a cls d => (tSeq (tAsg (tLst (tCons (tCB (rIsX K a cls d) (tCons (tVar 1) (tCons (tC (.ref X.ce_BadBits)) tNil))) (tCons (tCB (rIsX K a cls d) (tCons (tVar 1) (tCons (tC (.ref X.ce_BadNames)) tNil))) (tCons (tCB (rIsX K a cls d) (tCons (tVar 1) (tCons (tC (.ref X.ce_NoName)) tNil))) tNil)))) (gName 3)) (tSeq (tAsg (tOp rCat (tVar 3) (tLst (tCons (tCB (rIsX K a cls d) (tCons (tVar 1) (tCons (tC (.ref X.ce_BadNumber)) tNil))) (tCons (tCB (rIsX K a cls d) (tCons (tVar 1) (tCons (tC (.ref X.ce_TakenNumber)) tNil))) (tCons (tCB (rIsX K a cls d) (tCons (tVar 1) (tCons (tC (.ref X.ce_NotTold)) tNil))) tNil))))) (gName 3)) (tSeq (tAsg (tOp rCat (tVar 3) (tLst (tCons (tCB (rIsX K a cls d) (tCons (tVar 1) (tCons (tC (.ref X.ce_BadName)) tNil))) (tCons (tCB (rIsX K a cls d) (tCons (tVar 1) (tCons (tC (.ref X.ce_TakenName)) tNil))) (tCons (tCB (rIsX K a cls d) (tCons (tVar 1) (tCons (tC (.ref X.ce_Full)) tNil))) tNil))))) (gName 3)) (tSeq (tAsg (tOp rCat (tVar 3) (tLst (tCons (tCB (rIsX K a cls d) (tCons (tVar 1) (tCons (tC (.ref X.ce_NoRoom)) tNil))) (tCons (tCB (rIsX K a cls d) (tCons (tVar 1) (tCons (tC (.ref X.ce_NoTitle)) tNil))) (tCons (tCB (rIsX K a cls d) (tCons (tVar 1) (tCons (tC (.ref X.ce_TooMany)) tNil))) tNil))))) (gName 3)) (tSeq (tDrop (tBM K "list" rAppend (tVar 3) (tCons (tCB (rIsX K a cls d) (tCons (tVar 1) (tCons (tC (.ref X.ce_NothingToUndo)) tNil))) tNil))) (tSeq (tIfS (tOr (tTest (tOp rNe (tBM K "list" (rCntB K) (tVar 3) (tCons (tC (.bl true)) tNil)) (tC (.int 1)))) (tNot (tB (tCB (rIsX K a cls d) (tCons (tVar 1) (tCons (tC (.ty "ValueError")) tNil)))))) tDead tNext) (tSeq (tAsg (tBM K "list" (rIndex K) (tVar 3) (tCons (tC (.bl true)) tNil)) (gName 4)) (tSeq (tIfS (tTest (tOp (rIn K false) (tVar 4) (tTup (tCons (tC (.int 4)) (tCons (tC (.int 8)) (tCons (tC (.int 11)) tNil)))))) tDead tNext) (tSeq (tIfS (tTest (tOp (rIn K false) (tVar 4) (tTup (tCons (tC (.int 5)) (tCons (tC (.int 7)) (tCons (tC (.int 9)) tNil)))))) tDead tNext) (tSeq (tIfS (tTest (tOp rEq (tVar 4) (tC (.int 12)))) tDead tNext) (tSeq (tAsg (tLst (tCons (tC (.str ("bits" : Str))) (tCons (tC (.str ("names" : Str))) (tCons (tC (.str ("no name" : Str))) (tCons (tC (.str ("number" : Str))) (tCons (tC (.str ("" : Str))) (tCons (tC (.str ("" : Str))) (tCons (tC (.str ("name" : Str))) (tCons (tC (.str ("" : Str))) (tCons (tC (.str ("" : Str))) (tCons (tC (.str ("" : Str))) (tCons (tC (.str ("no title" : Str))) tNil)))))))))))) (gName 6)) (tRet (tTup (tCons (tOp (rIxL K) (tVar 6) (tVar 4)) (tCons (tXfG K a cls d "value" (tVar 1)) tNil)))))))))))))))))), (pss_cons (ps_set (i := 1) sc_l_asked.nd rfl (Or.inl rfl) pe_non) (pss_try rfl rfl sc_l_asked.nd rfl rfl ⟨by rfl, rfl, .inl X.gm_err⟩ LamX.takes0 (fun Wx pn xe tkx po => pss_one (ps_ret (pe_tup (pa_cons pe_str (pa_cons (act Wx pn xe _ _ tkx) pa_nil))))) (fun a oe cls d pn z1 z2 => pss_one (ps_asg (pv 2) (pg_name sc_l_asked.nd rfl (.inl rfl)))) pss_dead (fun a oe cls d ca => (pss_cons (ps_set (i := 3) sc_l_asked.nd rfl (Or.inl rfl) (pe_lst (pa_cons (pe_callB (call_isX ca List.mem_cons_self) (by rfl) X.z_isinstance bt_isinstance (pa_cons (pv 1) (pa_cons (pe_glob rfl X.ge_BadBits rfl) pa_nil))) (pa_cons (pe_callB (call_isX ca List.mem_cons_self) (by rfl) X.z_isinstance bt_isinstance (pa_cons (pv 1) (pa_cons (pe_glob rfl X.ge_BadNames rfl) pa_nil))) (pa_cons (pe_callB (call_isX ca List.mem_cons_self) (by rfl) X.z_isinstance bt_isinstance (pa_cons (pv 1) (pa_cons (pe_glob rfl X.ge_NoName rfl) pa_nil))) pa_nil))))) (pss_cons (ps_set (i := 3) sc_l_asked.nd rfl (Or.inl rfl) (pe_op op_cat (pv 3) (pe_lst (pa_cons (pe_callB (call_isX ca List.mem_cons_self) (by rfl) X.z_isinstance bt_isinstance (pa_cons (pv 1) (pa_cons (pe_glob rfl X.ge_BadNumber rfl) pa_nil))) (pa_cons (pe_callB (call_isX ca List.mem_cons_self) (by rfl) X.z_isinstance bt_isinstance (pa_cons (pv 1) (pa_cons (pe_glob rfl X.ge_TakenNumber rfl) pa_nil))) (pa_cons (pe_callB (call_isX ca List.mem_cons_self) (by rfl) X.z_isinstance bt_isinstance (pa_cons (pv 1) (pa_cons (pe_glob rfl X.ge_NotTold rfl) pa_nil))) pa_nil)))))) (pss_cons (ps_set (i := 3) sc_l_asked.nd rfl (Or.inl rfl) (pe_op op_cat (pv 3) (pe_lst (pa_cons (pe_callB (call_isX ca List.mem_cons_self) (by rfl) X.z_isinstance bt_isinstance (pa_cons (pv 1) (pa_cons (pe_glob rfl X.ge_BadName rfl) pa_nil))) (pa_cons (pe_callB (call_isX ca List.mem_cons_self) (by rfl) X.z_isinstance bt_isinstance (pa_cons (pv 1) (pa_cons (pe_glob rfl X.ge_TakenName rfl) pa_nil))) (pa_cons (pe_callB (call_isX ca List.mem_cons_self) (by rfl) X.z_isinstance bt_isinstance (pa_cons (pv 1) (pa_cons (pe_glob rfl X.ge_Full rfl) pa_nil))) pa_nil)))))) (pss_cons (ps_set (i := 3) sc_l_asked.nd rfl (Or.inl rfl) (pe_op op_cat (pv 3) (pe_lst (pa_cons (pe_callB (call_isX ca List.mem_cons_self) (by rfl) X.z_isinstance bt_isinstance (pa_cons (pv 1) (pa_cons (pe_glob rfl X.ge_NoRoom rfl) pa_nil))) (pa_cons (pe_callB (call_isX ca List.mem_cons_self) (by rfl) X.z_isinstance bt_isinstance (pa_cons (pv 1) (pa_cons (pe_glob rfl X.ge_NoTitle rfl) pa_nil))) (pa_cons (pe_callB (call_isX ca List.mem_cons_self) (by rfl) X.z_isinstance bt_isinstance (pa_cons (pv 1) (pa_cons (pe_glob rfl X.ge_TooMany rfl) pa_nil))) pa_nil)))))) (pss_cons (ps_expr (pe_bm PySem.F.plainAttrs_list PySem.F.slot_list_append PySem.F.type_list_append mt_append (pv 3) (pa_cons (pe_callB (call_isX ca List.mem_cons_self) (by rfl) X.z_isinstance bt_isinstance (pa_cons (pv 1) (pa_cons (pe_glob rfl X.ge_NothingToUndo rfl) pa_nil))) pa_nil))) (pss_cons (ps_if (PW.pt (pw_or (pt_cmpR op_ne (pe_bm PySem.F.plainAttrs_list PySem.F.slot_list_count PySem.F.type_list_count mt_countB (pv 3) (pa_cons pe_bl pa_nil)) pe_int (nomark _)) (pw_or1 (pt_not (pt_val (pe_callB (call_isX ca List.mem_cons_self) (by rfl) X.z_isinstance bt_isinstance (pa_cons (pv 1) (pa_cons (pe_bltn (by rfl) X.z_ValueError PyProof.Rows.Boot.«ValueError» rfl) pa_nil)))))))) pss_dead pss_nil) (pss_cons (ps_set (i := 4) sc_l_asked.nd rfl (Or.inl rfl) (pe_bm PySem.F.plainAttrs_list PySem.F.slot_list_index PySem.F.type_list_index mt_index (pv 3) (pa_cons pe_bl pa_nil))) (pss_cons (ps_if (pt_cmpR op_in_seq (pv 4) (pe_tup (pa_cons pe_int (pa_cons pe_int (pa_cons pe_int pa_nil)))) (by with_unfolding_all rfl)) pss_dead pss_nil) (pss_cons (ps_if (pt_cmpR op_in_seq (pv 4) (pe_tup (pa_cons pe_int (pa_cons pe_int (pa_cons pe_int pa_nil)))) (by with_unfolding_all rfl)) pss_dead pss_nil) (pss_cons (ps_if (pt_cmpR op_eq (pv 4) pe_int (nomark _)) pss_dead pss_nil) (pss_cons (ps_set (i := 6) sc_l_asked.nd rfl (Or.inl rfl) (pe_lst (pa_cons pe_str (pa_cons pe_str (pa_cons pe_str (pa_cons pe_str (pa_cons pe_str (pa_cons pe_str (pa_cons pe_str (pa_cons pe_str (pa_cons pe_str (pa_cons pe_str (pa_cons pe_str pa_nil))))))))))))) (pss_one (ps_ret (pe_tup (pa_cons (pe_ix ix_list (pv 6) (pv 4) (fun _ _ => rfl)) (pa_cons (pe_xfG ca List.mem_cons_self (pv 1)) pa_nil))))))))))))))))))), ?_⟩
  refine body (sls := [sRef f]) hcore (.cons rfl .nil) (Nat.le_of_ble_eq_true rfl) ?_
  clear hcore
  change m_l_asked v_ask = some r at h
  unfold m_l_asked at h
  change NxT _ _ [some (sRef f), none, none, none, none, none, none] _ []
  refine s_seq (s_set (e_non ?_))
  change NxT _ _ [some (sRef f), some (rNon.at ()), none, none, none, none, none] _ []
  match v_ask, hask, h with
  | .err 0 xv1, hask, h =>
    refine s_askL (xt := xt_ X) 2 1 (Nat.le_of_ble_eq_true rfl) rfl hd hask vStr ⟨X.er_BadBits.exm, fun a dd => ?_⟩
    change NxT _ _ [some (sRef f), some (sErrL a dd ["value"] xv1), none, none, none, none, none] _ []
    refine s_seq (s_set (e_lstC (ea_cons (e_isXCL rfl rfl X.er_BadBits.excD (ea_cons (e_var (sl := (sErrL a dd ["value"] xv1)) rfl fun _ => (ea_cons (e_clsO (fun _ => (ea_nil ⟨_, true, rfl, X.ki_BadBits_BadBits, fun _ => (ea_cons (e_isXCL rfl rfl X.er_BadBits.excD (ea_cons (e_var (sl := (sErrL a dd ["value"] xv1)) rfl fun _ => (ea_cons (e_clsO (fun _ => (ea_nil ⟨_, false, rfl, X.ki_BadBits_BadNames, fun _ => (ea_cons (e_isXCL rfl rfl X.er_BadBits.excD (ea_cons (e_var (sl := (sErrL a dd ["value"] xv1)) rfl fun _ => (ea_cons (e_clsO (fun _ => (ea_nil ⟨_, false, rfl, X.ki_BadBits_NoName, fun _ => (ea_nil ⟨_, rBool, ([true, false, false] : List Bool), rfl, Nat.le_of_ble_eq_true rfl, fun p__law_marks => ?_⟩)⟩))))))))⟩))))))))⟩))))))))))
    change NxT _ _ [some (sRef f), some (sErrL a dd ["value"] xv1), none, some (sRef p__law_marks), none, none, none] _ [(p__law_marks, cLst rBool ([true, false, false] : List Bool))]
    refine s_freeze 3 0 rfl rfl ?_
    change NxT _ _ [some (sRef f), some (sErrL a dd ["value"] xv1), none, some ((rLst rBool).at ([true, false, false] : List Bool)), none, none, none] _ []
    replace h := bindE h
    obtain ⟨t2, ht2, h⟩ := h
    refine s_seq (s_set (e_catLC (e_var (sl := ((rLst rBool).at ([true, false, false] : List Bool))) rfl fun _ => (e_lst (ea_cons (e_isXCL rfl rfl X.er_BadBits.excD (ea_cons (e_var (sl := (sErrL a dd ["value"] xv1)) rfl fun _ => (ea_cons (e_clsO (fun _ => (ea_nil ⟨_, false, rfl, X.ki_BadBits_BadNumber, fun _ => (ea_cons (e_isXCL rfl rfl X.er_BadBits.excD (ea_cons (e_var (sl := (sErrL a dd ["value"] xv1)) rfl fun _ => (ea_cons (e_clsO (fun _ => (ea_nil ⟨_, false, rfl, X.ki_BadBits_TakenNumber, fun _ => (ea_cons (e_isXCL rfl rfl X.er_BadBits.excD (ea_cons (e_var (sl := (sErrL a dd ["value"] xv1)) rfl fun _ => (ea_cons (e_clsO (fun _ => (ea_nil ⟨_, false, rfl, X.ki_BadBits_NotTold, fun _ => (ea_nil ⟨_, rBool, ([false, false, false] : List Bool), rfl, Nat.le_of_ble_eq_true rfl, ⟨_, _, _, _, _, rfl, rfl, ht2, fun p__law_marks => ?_⟩⟩)⟩))))))))⟩))))))))⟩))))))))))))
    change NxT _ _ [some (sRef f), some (sErrL a dd ["value"] xv1), none, some (sRef p__law_marks), none, none, none] _ [(p__law_marks, cLst rBool t2)]
    refine s_freeze 3 0 rfl rfl ?_
    change NxT _ _ [some (sRef f), some (sErrL a dd ["value"] xv1), none, some ((rLst rBool).at t2), none, none, none] _ []
    replace h := bindE h
    obtain ⟨t3, ht3, h⟩ := h
    refine s_seq (s_set (e_catLC (e_var (sl := ((rLst rBool).at t2)) rfl fun _ => (e_lst (ea_cons (e_isXCL rfl rfl X.er_BadBits.excD (ea_cons (e_var (sl := (sErrL a dd ["value"] xv1)) rfl fun _ => (ea_cons (e_clsO (fun _ => (ea_nil ⟨_, false, rfl, X.ki_BadBits_BadName, fun _ => (ea_cons (e_isXCL rfl rfl X.er_BadBits.excD (ea_cons (e_var (sl := (sErrL a dd ["value"] xv1)) rfl fun _ => (ea_cons (e_clsO (fun _ => (ea_nil ⟨_, false, rfl, X.ki_BadBits_TakenName, fun _ => (ea_cons (e_isXCL rfl rfl X.er_BadBits.excD (ea_cons (e_var (sl := (sErrL a dd ["value"] xv1)) rfl fun _ => (ea_cons (e_clsO (fun _ => (ea_nil ⟨_, false, rfl, X.ki_BadBits_Full, fun _ => (ea_nil ⟨_, rBool, ([false, false, false] : List Bool), rfl, Nat.le_of_ble_eq_true rfl, ⟨_, _, _, _, _, rfl, rfl, ht3, fun p__law_marks => ?_⟩⟩)⟩))))))))⟩))))))))⟩))))))))))))
    change NxT _ _ [some (sRef f), some (sErrL a dd ["value"] xv1), none, some (sRef p__law_marks), none, none, none] _ [(p__law_marks, cLst rBool t3)]
    refine s_freeze 3 0 rfl rfl ?_
    change NxT _ _ [some (sRef f), some (sErrL a dd ["value"] xv1), none, some ((rLst rBool).at t3), none, none, none] _ []
    replace h := bindE h
    obtain ⟨t4, ht4, h⟩ := h
    refine s_seq (s_set (e_catLC (e_var (sl := ((rLst rBool).at t3)) rfl fun _ => (e_lst (ea_cons (e_isXCL rfl rfl X.er_BadBits.excD (ea_cons (e_var (sl := (sErrL a dd ["value"] xv1)) rfl fun _ => (ea_cons (e_clsO (fun _ => (ea_nil ⟨_, false, rfl, X.ki_BadBits_NoRoom, fun _ => (ea_cons (e_isXCL rfl rfl X.er_BadBits.excD (ea_cons (e_var (sl := (sErrL a dd ["value"] xv1)) rfl fun _ => (ea_cons (e_clsO (fun _ => (ea_nil ⟨_, false, rfl, X.ki_BadBits_NoTitle, fun _ => (ea_cons (e_isXCL rfl rfl X.er_BadBits.excD (ea_cons (e_var (sl := (sErrL a dd ["value"] xv1)) rfl fun _ => (ea_cons (e_clsO (fun _ => (ea_nil ⟨_, false, rfl, X.ki_BadBits_TooMany, fun _ => (ea_nil ⟨_, rBool, ([false, false, false] : List Bool), rfl, Nat.le_of_ble_eq_true rfl, ⟨_, _, _, _, _, rfl, rfl, ht4, fun p__law_marks => ?_⟩⟩)⟩))))))))⟩))))))))⟩))))))))))))
    change NxT _ _ [some (sRef f), some (sErrL a dd ["value"] xv1), none, some (sRef p__law_marks), none, none, none] _ [(p__law_marks, cLst rBool t4)]
    replace h := bindE h
    obtain ⟨l5, hl5, h⟩ := h
    refine s_seq (s_drop (e_append 0 (e_var (sl := (sRef p__law_marks)) rfl ⟨_, _, rBool, _, rfl, rfl, fun _ => (ea_cons (e_isXCL rfl rfl X.er_BadBits.excD (ea_cons (e_var (sl := (sErrL a dd ["value"] xv1)) rfl fun _ => (ea_cons (e_clsO (fun _ => (ea_nil ⟨_, false, rfl, X.ki_BadBits_NothingToUndo, fun _ => (ea_nil ⟨_, _, _, rfl, rfl, hl5, ?_⟩)⟩))))))))⟩)))
    change NxT _ _ [some (sRef f), some (sErrL a dd ["value"] xv1), none, some (sRef p__law_marks), none, none, none] _ [(p__law_marks, cLst rBool l5)]
    refine s_seq (s_if (t_or (c := (!decide (((l5.count true : Nat) : Int) = (1 : Int)))) (d := ((!decide (((l5.count true : Nat) : Int) = (1 : Int))) || (!true))) (t_test (e_neI (e_countBC 0 (e_var (sl := (sRef p__law_marks)) rfl ⟨_, _, rfl, rfl, fun _ => (ea_cons (e_bl fun _ => (ea_nil ⟨_, rfl, rfl, ⟨_, rfl, (e_int ⟨_, rfl, ⟨_, rfl, ⟨rfl, fun hc => (t_not (t_val (e_isXL rfl rfl X.er_BadBits.excD (ea_cons (e_var (sl := (sErrL a dd ["value"] xv1)) rfl fun _ => (ea_cons (e_cls (fun _ => (ea_nil ⟨.ty "ValueError", _, true, rfl, fun _ z => z, X.kv_BadBits, ⟨_, rfl, ⟨(orF hc).symm, rfl⟩⟩⟩))))))))), fun hc => ⟨orT hc, rfl⟩⟩⟩⟩)⟩⟩)))⟩)))) ⟨fun hc => ?_, fun hc => ?_⟩))
    · replace h := condT hc h
      cases h
    · replace h := condF hc h
      refine s_next ?_
      replace h := bindE h
      obtain ⟨t6, ht6, h⟩ := h
      refine s_seq (s_set (e_idxBC 0 (e_var (sl := (sRef p__law_marks)) rfl ⟨_, _, rfl, rfl, fun _ => (ea_cons (e_bl fun _ => (ea_nil ⟨_, _, rfl, rfl, ht6, ?_⟩)))⟩)))
      change NxT _ _ [some (sRef f), some (sErrL a dd ["value"] xv1), none, some (sRef p__law_marks), some (rInt.at t6), none, none] _ [(p__law_marks, cLst rBool l5)]
      refine s_seq (s_if (t_test (e_inT false (e_var (sl := (rInt.at t6)) rfl ⟨_, rfl, fun _ => (e_tup (ea_cons (e_int fun _ => (ea_cons (e_int fun _ => (ea_cons (e_int fun _ => (ea_nil ⟨_, rInt, ([(4 : Int), (8 : Int), (11 : Int)] : List Int), rfl, Nat.le_of_ble_eq_true rfl, ⟨_, rfl, ⟨_, rfl, ⟨fun hc => ?_, fun hc => ?_⟩⟩⟩⟩))))))))⟩))))
      · replace h := condT hc h
        cases h
      · replace h := condF hc h
        refine s_next ?_
        refine s_seq (s_if (t_test (e_inT false (e_var (sl := (rInt.at t6)) rfl ⟨_, rfl, fun _ => (e_tup (ea_cons (e_int fun _ => (ea_cons (e_int fun _ => (ea_cons (e_int fun _ => (ea_nil ⟨_, rInt, ([(5 : Int), (7 : Int), (9 : Int)] : List Int), rfl, Nat.le_of_ble_eq_true rfl, ⟨_, rfl, ⟨_, rfl, ⟨fun hc => ?_, fun hc => ?_⟩⟩⟩⟩))))))))⟩))))
        · replace h := condT hc h
          cases h
        · replace h := condF hc h
          refine s_next ?_
          refine s_seq (s_if (t_test (e_eqI (e_var (sl := (rInt.at t6)) rfl ⟨_, rfl, (e_int ⟨_, rfl, ⟨_, rfl, ⟨fun hc => ?_, fun hc => ?_⟩⟩⟩)⟩))))
          · replace h := condT hc h
            cases h
          · replace h := condF hc h
            refine s_next ?_
            refine s_seq (s_set (e_lst (ea_cons (e_tx (a := ([98, 105, 116, 115] : List Nat)) (by decide +kernel) fun _ => (ea_cons (e_tx (a := ([110, 97, 109, 101, 115] : List Nat)) (by decide +kernel) fun _ => (ea_cons (e_tx (a := ([110, 111, 32, 110, 97, 109, 101] : List Nat)) (by decide +kernel) fun _ => (ea_cons (e_tx (a := ([110, 117, 109, 98, 101, 114] : List Nat)) (by decide +kernel) fun _ => (ea_cons (e_tx (a := ([] : List Nat)) (by decide +kernel) fun _ => (ea_cons (e_tx (a := ([] : List Nat)) (by decide +kernel) fun _ => (ea_cons (e_tx (a := ([110, 97, 109, 101] : List Nat)) (by decide +kernel) fun _ => (ea_cons (e_tx (a := ([] : List Nat)) (by decide +kernel) fun _ => (ea_cons (e_tx (a := ([] : List Nat)) (by decide +kernel) fun _ => (ea_cons (e_tx (a := ([] : List Nat)) (by decide +kernel) fun _ => (ea_cons (e_tx (a := ([110, 111, 32, 116, 105, 116, 108, 101] : List Nat)) (by decide +kernel) fun _ => (ea_nil ⟨_, rTx, ([([98, 105, 116, 115] : List Nat), ([110, 97, 109, 101, 115] : List Nat), ([110, 111, 32, 110, 97, 109, 101] : List Nat), ([110, 117, 109, 98, 101, 114] : List Nat), ([] : List Nat), ([] : List Nat), ([110, 97, 109, 101] : List Nat), ([] : List Nat), ([] : List Nat), ([] : List Nat), ([110, 111, 32, 116, 105, 116, 108, 101] : List Nat)] : List (List Nat)), rfl, Nat.le_of_ble_eq_true rfl, ?_⟩)))))))))))))))))))))))))
            change NxT _ _ [some (sRef f), some (sErrL a dd ["value"] xv1), none, some (sRef p__law_marks), some (rInt.at t6), none, some ((rLst rTx).at ([([98, 105, 116, 115] : List Nat), ([110, 97, 109, 101, 115] : List Nat), ([110, 111, 32, 110, 97, 109, 101] : List Nat), ([110, 117, 109, 98, 101, 114] : List Nat), ([] : List Nat), ([] : List Nat), ([110, 97, 109, 101] : List Nat), ([] : List Nat), ([] : List Nat), ([] : List Nat), ([110, 111, 32, 116, 105, 116, 108, 101] : List Nat)] : List (List Nat)))] _ [(p__law_marks, cLst rBool l5)]
            replace h := bindE h
            obtain ⟨t7, ht7, h⟩ := h
            replace h := pureE h
            subst h
            refine s_ret (e_tupV (ea_cons (e_asV (d := (vTx.d t7)) (e_ixL (e_var (sl := ((rLst rTx).at ([([98, 105, 116, 115] : List Nat), ([110, 97, 109, 101, 115] : List Nat), ([110, 111, 32, 110, 97, 109, 101] : List Nat), ([110, 117, 109, 98, 101, 114] : List Nat), ([] : List Nat), ([] : List Nat), ([110, 97, 109, 101] : List Nat), ([] : List Nat), ([] : List Nat), ([] : List Nat), ([110, 111, 32, 116, 105, 116, 108, 101] : List Nat)] : List (List Nat)))) rfl fun _ => (e_var (sl := (rInt.at t6)) rfl ⟨_, rTx, _, _, _, rfl, rfl, ht7, ⟨asV_of vTx _, fun _ => (ea_cons (e_xfLG X.er_BadBits.xf X.er_BadBits.no rfl rfl (e_var (sl := (sErrL a dd ["value"] xv1)) rfl ⟨rfl, fun _ => (ea_nil ⟨[(vTx.d t7), xv1], (.cons (asV_val _) (.cons (asV_val _) .nil)), Nat.le_of_ble_eq_true rfl, ?_⟩)⟩)))⟩⟩))))))
            exact Rt.drop hrt (.cons _ .slnil)
  | .err 1 xv1, hask, h =>
    refine s_askL (xt := xt_ X) 2 1 (Nat.le_of_ble_eq_true rfl) rfl hd hask vStr ⟨X.er_BadNames.exm, fun a dd => ?_⟩
    change NxT _ _ [some (sRef f), some (sErrL a dd ["value"] xv1), none, none, none, none, none] _ []
    refine s_seq (s_set (e_lstC (ea_cons (e_isXCL rfl rfl X.er_BadNames.excD (ea_cons (e_var (sl := (sErrL a dd ["value"] xv1)) rfl fun _ => (ea_cons (e_clsO (fun _ => (ea_nil ⟨_, false, rfl, X.ki_BadNames_BadBits, fun _ => (ea_cons (e_isXCL rfl rfl X.er_BadNames.excD (ea_cons (e_var (sl := (sErrL a dd ["value"] xv1)) rfl fun _ => (ea_cons (e_clsO (fun _ => (ea_nil ⟨_, true, rfl, X.ki_BadNames_BadNames, fun _ => (ea_cons (e_isXCL rfl rfl X.er_BadNames.excD (ea_cons (e_var (sl := (sErrL a dd ["value"] xv1)) rfl fun _ => (ea_cons (e_clsO (fun _ => (ea_nil ⟨_, false, rfl, X.ki_BadNames_NoName, fun _ => (ea_nil ⟨_, rBool, ([false, true, false] : List Bool), rfl, Nat.le_of_ble_eq_true rfl, fun p__law_marks => ?_⟩)⟩))))))))⟩))))))))⟩))))))))))
    change NxT _ _ [some (sRef f), some (sErrL a dd ["value"] xv1), none, some (sRef p__law_marks), none, none, none] _ [(p__law_marks, cLst rBool ([false, true, false] : List Bool))]
    refine s_freeze 3 0 rfl rfl ?_
    change NxT _ _ [some (sRef f), some (sErrL a dd ["value"] xv1), none, some ((rLst rBool).at ([false, true, false] : List Bool)), none, none, none] _ []
    replace h := bindE h
    obtain ⟨t8, ht8, h⟩ := h
    refine s_seq (s_set (e_catLC (e_var (sl := ((rLst rBool).at ([false, true, false] : List Bool))) rfl fun _ => (e_lst (ea_cons (e_isXCL rfl rfl X.er_BadNames.excD (ea_cons (e_var (sl := (sErrL a dd ["value"] xv1)) rfl fun _ => (ea_cons (e_clsO (fun _ => (ea_nil ⟨_, false, rfl, X.ki_BadNames_BadNumber, fun _ => (ea_cons (e_isXCL rfl rfl X.er_BadNames.excD (ea_cons (e_var (sl := (sErrL a dd ["value"] xv1)) rfl fun _ => (ea_cons (e_clsO (fun _ => (ea_nil ⟨_, false, rfl, X.ki_BadNames_TakenNumber, fun _ => (ea_cons (e_isXCL rfl rfl X.er_BadNames.excD (ea_cons (e_var (sl := (sErrL a dd ["value"] xv1)) rfl fun _ => (ea_cons (e_clsO (fun _ => (ea_nil ⟨_, false, rfl, X.ki_BadNames_NotTold, fun _ => (ea_nil ⟨_, rBool, ([false, false, false] : List Bool), rfl, Nat.le_of_ble_eq_true rfl, ⟨_, _, _, _, _, rfl, rfl, ht8, fun p__law_marks => ?_⟩⟩)⟩))))))))⟩))))))))⟩))))))))))))
    change NxT _ _ [some (sRef f), some (sErrL a dd ["value"] xv1), none, some (sRef p__law_marks), none, none, none] _ [(p__law_marks, cLst rBool t8)]
    refine s_freeze 3 0 rfl rfl ?_
    change NxT _ _ [some (sRef f), some (sErrL a dd ["value"] xv1), none, some ((rLst rBool).at t8), none, none, none] _ []
    replace h := bindE h
    obtain ⟨t9, ht9, h⟩ := h
    refine s_seq (s_set (e_catLC (e_var (sl := ((rLst rBool).at t8)) rfl fun _ => (e_lst (ea_cons (e_isXCL rfl rfl X.er_BadNames.excD (ea_cons (e_var (sl := (sErrL a dd ["value"] xv1)) rfl fun _ => (ea_cons (e_clsO (fun _ => (ea_nil ⟨_, false, rfl, X.ki_BadNames_BadName, fun _ => (ea_cons (e_isXCL rfl rfl X.er_BadNames.excD (ea_cons (e_var (sl := (sErrL a dd ["value"] xv1)) rfl fun _ => (ea_cons (e_clsO (fun _ => (ea_nil ⟨_, false, rfl, X.ki_BadNames_TakenName, fun _ => (ea_cons (e_isXCL rfl rfl X.er_BadNames.excD (ea_cons (e_var (sl := (sErrL a dd ["value"] xv1)) rfl fun _ => (ea_cons (e_clsO (fun _ => (ea_nil ⟨_, false, rfl, X.ki_BadNames_Full, fun _ => (ea_nil ⟨_, rBool, ([false, false, false] : List Bool), rfl, Nat.le_of_ble_eq_true rfl, ⟨_, _, _, _, _, rfl, rfl, ht9, fun p__law_marks => ?_⟩⟩)⟩))))))))⟩))))))))⟩))))))))))))
    change NxT _ _ [some (sRef f), some (sErrL a dd ["value"] xv1), none, some (sRef p__law_marks), none, none, none] _ [(p__law_marks, cLst rBool t9)]
    refine s_freeze 3 0 rfl rfl ?_
    change NxT _ _ [some (sRef f), some (sErrL a dd ["value"] xv1), none, some ((rLst rBool).at t9), none, none, none] _ []
    replace h := bindE h
    obtain ⟨t10, ht10, h⟩ := h
    refine s_seq (s_set (e_catLC (e_var (sl := ((rLst rBool).at t9)) rfl fun _ => (e_lst (ea_cons (e_isXCL rfl rfl X.er_BadNames.excD (ea_cons (e_var (sl := (sErrL a dd ["value"] xv1)) rfl fun _ => (ea_cons (e_clsO (fun _ => (ea_nil ⟨_, false, rfl, X.ki_BadNames_NoRoom, fun _ => (ea_cons (e_isXCL rfl rfl X.er_BadNames.excD (ea_cons (e_var (sl := (sErrL a dd ["value"] xv1)) rfl fun _ => (ea_cons (e_clsO (fun _ => (ea_nil ⟨_, false, rfl, X.ki_BadNames_NoTitle, fun _ => (ea_cons (e_isXCL rfl rfl X.er_BadNames.excD (ea_cons (e_var (sl := (sErrL a dd ["value"] xv1)) rfl fun _ => (ea_cons (e_clsO (fun _ => (ea_nil ⟨_, false, rfl, X.ki_BadNames_TooMany, fun _ => (ea_nil ⟨_, rBool, ([false, false, false] : List Bool), rfl, Nat.le_of_ble_eq_true rfl, ⟨_, _, _, _, _, rfl, rfl, ht10, fun p__law_marks => ?_⟩⟩)⟩))))))))⟩))))))))⟩))))))))))))
    change NxT _ _ [some (sRef f), some (sErrL a dd ["value"] xv1), none, some (sRef p__law_marks), none, none, none] _ [(p__law_marks, cLst rBool t10)]
    replace h := bindE h
    obtain ⟨l11, hl11, h⟩ := h
    refine s_seq (s_drop (e_append 0 (e_var (sl := (sRef p__law_marks)) rfl ⟨_, _, rBool, _, rfl, rfl, fun _ => (ea_cons (e_isXCL rfl rfl X.er_BadNames.excD (ea_cons (e_var (sl := (sErrL a dd ["value"] xv1)) rfl fun _ => (ea_cons (e_clsO (fun _ => (ea_nil ⟨_, false, rfl, X.ki_BadNames_NothingToUndo, fun _ => (ea_nil ⟨_, _, _, rfl, rfl, hl11, ?_⟩)⟩))))))))⟩)))
    change NxT _ _ [some (sRef f), some (sErrL a dd ["value"] xv1), none, some (sRef p__law_marks), none, none, none] _ [(p__law_marks, cLst rBool l11)]
    refine s_seq (s_if (t_or (c := (!decide (((l11.count true : Nat) : Int) = (1 : Int)))) (d := ((!decide (((l11.count true : Nat) : Int) = (1 : Int))) || (!true))) (t_test (e_neI (e_countBC 0 (e_var (sl := (sRef p__law_marks)) rfl ⟨_, _, rfl, rfl, fun _ => (ea_cons (e_bl fun _ => (ea_nil ⟨_, rfl, rfl, ⟨_, rfl, (e_int ⟨_, rfl, ⟨_, rfl, ⟨rfl, fun hc => (t_not (t_val (e_isXL rfl rfl X.er_BadNames.excD (ea_cons (e_var (sl := (sErrL a dd ["value"] xv1)) rfl fun _ => (ea_cons (e_cls (fun _ => (ea_nil ⟨.ty "ValueError", _, true, rfl, fun _ z => z, X.kv_BadNames, ⟨_, rfl, ⟨(orF hc).symm, rfl⟩⟩⟩))))))))), fun hc => ⟨orT hc, rfl⟩⟩⟩⟩)⟩⟩)))⟩)))) ⟨fun hc => ?_, fun hc => ?_⟩))
    · replace h := condT hc h
      cases h
    · replace h := condF hc h
      refine s_next ?_
      replace h := bindE h
      obtain ⟨t12, ht12, h⟩ := h
      refine s_seq (s_set (e_idxBC 0 (e_var (sl := (sRef p__law_marks)) rfl ⟨_, _, rfl, rfl, fun _ => (ea_cons (e_bl fun _ => (ea_nil ⟨_, _, rfl, rfl, ht12, ?_⟩)))⟩)))
      change NxT _ _ [some (sRef f), some (sErrL a dd ["value"] xv1), none, some (sRef p__law_marks), some (rInt.at t12), none, none] _ [(p__law_marks, cLst rBool l11)]
      refine s_seq (s_if (t_test (e_inT false (e_var (sl := (rInt.at t12)) rfl ⟨_, rfl, fun _ => (e_tup (ea_cons (e_int fun _ => (ea_cons (e_int fun _ => (ea_cons (e_int fun _ => (ea_nil ⟨_, rInt, ([(4 : Int), (8 : Int), (11 : Int)] : List Int), rfl, Nat.le_of_ble_eq_true rfl, ⟨_, rfl, ⟨_, rfl, ⟨fun hc => ?_, fun hc => ?_⟩⟩⟩⟩))))))))⟩))))
      · replace h := condT hc h
        cases h
      · replace h := condF hc h
        refine s_next ?_
        refine s_seq (s_if (t_test (e_inT false (e_var (sl := (rInt.at t12)) rfl ⟨_, rfl, fun _ => (e_tup (ea_cons (e_int fun _ => (ea_cons (e_int fun _ => (ea_cons (e_int fun _ => (ea_nil ⟨_, rInt, ([(5 : Int), (7 : Int), (9 : Int)] : List Int), rfl, Nat.le_of_ble_eq_true rfl, ⟨_, rfl, ⟨_, rfl, ⟨fun hc => ?_, fun hc => ?_⟩⟩⟩⟩))))))))⟩))))
        · replace h := condT hc h
          cases h
        · replace h := condF hc h
          refine s_next ?_
          refine s_seq (s_if (t_test (e_eqI (e_var (sl := (rInt.at t12)) rfl ⟨_, rfl, (e_int ⟨_, rfl, ⟨_, rfl, ⟨fun hc => ?_, fun hc => ?_⟩⟩⟩)⟩))))
          · replace h := condT hc h
            cases h
          · replace h := condF hc h
            refine s_next ?_
            refine s_seq (s_set (e_lst (ea_cons (e_tx (a := ([98, 105, 116, 115] : List Nat)) (by decide +kernel) fun _ => (ea_cons (e_tx (a := ([110, 97, 109, 101, 115] : List Nat)) (by decide +kernel) fun _ => (ea_cons (e_tx (a := ([110, 111, 32, 110, 97, 109, 101] : List Nat)) (by decide +kernel) fun _ => (ea_cons (e_tx (a := ([110, 117, 109, 98, 101, 114] : List Nat)) (by decide +kernel) fun _ => (ea_cons (e_tx (a := ([] : List Nat)) (by decide +kernel) fun _ => (ea_cons (e_tx (a := ([] : List Nat)) (by decide +kernel) fun _ => (ea_cons (e_tx (a := ([110, 97, 109, 101] : List Nat)) (by decide +kernel) fun _ => (ea_cons (e_tx (a := ([] : List Nat)) (by decide +kernel) fun _ => (ea_cons (e_tx (a := ([] : List Nat)) (by decide +kernel) fun _ => (ea_cons (e_tx (a := ([] : List Nat)) (by decide +kernel) fun _ => (ea_cons (e_tx (a := ([110, 111, 32, 116, 105, 116, 108, 101] : List Nat)) (by decide +kernel) fun _ => (ea_nil ⟨_, rTx, ([([98, 105, 116, 115] : List Nat), ([110, 97, 109, 101, 115] : List Nat), ([110, 111, 32, 110, 97, 109, 101] : List Nat), ([110, 117, 109, 98, 101, 114] : List Nat), ([] : List Nat), ([] : List Nat), ([110, 97, 109, 101] : List Nat), ([] : List Nat), ([] : List Nat), ([] : List Nat), ([110, 111, 32, 116, 105, 116, 108, 101] : List Nat)] : List (List Nat)), rfl, Nat.le_of_ble_eq_true rfl, ?_⟩)))))))))))))))))))))))))
            change NxT _ _ [some (sRef f), some (sErrL a dd ["value"] xv1), none, some (sRef p__law_marks), some (rInt.at t12), none, some ((rLst rTx).at ([([98, 105, 116, 115] : List Nat), ([110, 97, 109, 101, 115] : List Nat), ([110, 111, 32, 110, 97, 109, 101] : List Nat), ([110, 117, 109, 98, 101, 114] : List Nat), ([] : List Nat), ([] : List Nat), ([110, 97, 109, 101] : List Nat), ([] : List Nat), ([] : List Nat), ([] : List Nat), ([110, 111, 32, 116, 105, 116, 108, 101] : List Nat)] : List (List Nat)))] _ [(p__law_marks, cLst rBool l11)]
            replace h := bindE h
            obtain ⟨t13, ht13, h⟩ := h
            replace h := pureE h
            subst h
            refine s_ret (e_tupV (ea_cons (e_asV (d := (vTx.d t13)) (e_ixL (e_var (sl := ((rLst rTx).at ([([98, 105, 116, 115] : List Nat), ([110, 97, 109, 101, 115] : List Nat), ([110, 111, 32, 110, 97, 109, 101] : List Nat), ([110, 117, 109, 98, 101, 114] : List Nat), ([] : List Nat), ([] : List Nat), ([110, 97, 109, 101] : List Nat), ([] : List Nat), ([] : List Nat), ([] : List Nat), ([110, 111, 32, 116, 105, 116, 108, 101] : List Nat)] : List (List Nat)))) rfl fun _ => (e_var (sl := (rInt.at t12)) rfl ⟨_, rTx, _, _, _, rfl, rfl, ht13, ⟨asV_of vTx _, fun _ => (ea_cons (e_xfLG X.er_BadNames.xf X.er_BadNames.no rfl rfl (e_var (sl := (sErrL a dd ["value"] xv1)) rfl ⟨rfl, fun _ => (ea_nil ⟨[(vTx.d t13), xv1], (.cons (asV_val _) (.cons (asV_val _) .nil)), Nat.le_of_ble_eq_true rfl, ?_⟩)⟩)))⟩⟩))))))
            exact Rt.drop hrt (.cons _ .slnil)
  | .err (_ + 2) _, hask, h => cases h
  | .val xu14, hask, h =>
    replace h := pureE h
    subst h
    refine s_askL (xt := xt_ X) 2 1 (Nat.le_of_ble_eq_true rfl) rfl hd hask vStr ?_
    exact hrt
def m_l_are_names (v_thing : PyData) : Option Bool :=
  bind (((bif (!(isTupD v_thing)) then (pure true) else ((bind (oTupD v_thing) fun u1 => (bind (((bif (!((decide ((0 : Int) < (u1.length : Int))) && (decide ((u1.length : Int) < (13 : Int))))) then (pure true) else ((bind (oTupD v_thing) fun u2 => (bind (mapO (fun (x3 : PyData) => (((bind (m_l_is_name x3) fun r5 => pure (some r5))) : Option (Option Bool))) u2) fun t7 => pure (!(t7.all id)))))) : Option Bool)) fun t8 => pure t8)))) : Option Bool)) fun t10 =>
  (bif t10 then (pure false) else ((bind (oTupT v_thing) fun u12 => (bind (oCntX u12) fun l13 => (bind (oTupD v_thing) fun u14 => pure (decide (l13 = (u14.length : Int))))))))
abbrev sp_l_are_names (K : PySem.W.Frag) (Z : Ads) : Sp := spM (ι := PyData) (β := Bool) (fun i => [rVal.at i]) (fun i => []) (fun i => m_l_are_names i) (fun i b => rBool.at b) (fun i b => [])
abbrev N_l_are_names : List Str := ["_law_thing", "_law_one_here"]
theorem sc_l_are_names : FnScope N_l_are_names ["_law_thing"] (defScope s_l_are_names) := ⟨rfl, rfl, rfl, by decide +kernel, rfl, by decide +kernel, by decide +kernel⟩
theorem ok_l_are_names {P : Program} {w : World} {K : PySem.W.Frag} {Z : Ads} {mg : Str → Option Value} {base : Heap} (X : Tx K mg Z) (G_l_is_name : FnG P w K mg base CX0 1 X.f_l_is_name X.d_l_is_name ["_law_thing"] (sp_l_is_name K Z)) : FnG P w K mg base CX0 2 X.f_l_are_names X.d_l_are_names ["_law_thing"] (sp_l_are_names K Z) := by
  refine okG X.F_l_are_names sc_l_are_names (fun vs H Q E h => spM_len h fun _ => rfl) (fun cdv A outer s H vs Q E hr h => ?_)
  refine ⟨(tSeq (tIfS (tOr (tNot (tB (tCB (rIsi K) (tCons (tVar 0) (tCons (tC (.ty "tuple")) tNil))))) (tOr (tNot (tTest (tChain rdLt rdLt (tC (.int 0)) (tCB (rdLen K) (tCons (tVar 0) tNil)) (tC (.int 13))))) (tNot (tB (tCB (rAll K) (tCons (tLc (iTup K (tVar 0)) (gName 1) tYes (tCall (sp_l_is_name K Z) [] E0 (tCons (tVar 1) tNil)) [1]) tNil)))))) (tRet (tC (.bl false))) tNext) (tRet (tOp rEq (tLenSetX K (tVar 0)) (tCB (rdLen K) (tCons (tVar 0) tNil))))), (pss_cons (ps_if (PW.pt (pw_or (pt_not (pt_val (pe_callB call_isi (by rfl) X.z_isinstance bt_isinstance (pa_cons (pv 0) (pa_cons (pe_bltn (by rfl) X.z_tuple bt_tuple rfl) pa_nil))))) (pw_or (pt_not (pt_chain op_lt op_lt pe_int (pe_callB call_len_seq (by rfl) X.z_len bt_len (pa_cons (pv 0) pa_nil)) pe_int)) (pw_or1 (pt_not (pt_val (pe_callB (cr_all rfl) (by rfl) X.z_all bt_all (pa_cons (pe_lc (own := [("_law_one_here", 1)]) (g := (gName 1)) (tt := tYes) (te := (tCall (sp_l_is_name K Z) [] E0 (tCons (tVar 1) tNil))) rfl sc_l_are_names.nd (pi_tup (pv 0)) (blkOk_by (N := N_l_are_names) (sc := (defScope s_l_are_names)) (by decide +kernel)) (fun _ _ _ _ _ => (pg_name (i := 1) sc_l_are_names.nd rfl (Or.inl rfl))) (fun _ _ _ _ _ => pts_nil) (fun _ _ _ _ _ => (pe_callG (G_l_is_name) (hr.mono (by decide)) (by rfl) X.g_l_is_name X.F_l_is_name.kp X.b_l_is_name .nil pass0 (pa_cons (pv 1) pa_nil)))) pa_nil)))))))) (pss_one (ps_ret pe_bl)) pss_nil) (pss_one (ps_ret (pe_cmpR op_eq (pe_lenSetX (by rfl) X.z_len (by rfl) X.z_set (pv 0)) (pe_callB call_len_seq (by rfl) X.z_len bt_len (pa_cons (pv 0) pa_nil)) (nomark _))))), ?_⟩
  obtain ⟨v_thing, r, W, h, hcore, har, hrt⟩ := h
  refine body hcore har (Nat.le_of_ble_eq_true rfl) ?_
  clear hcore har
  change m_l_are_names v_thing = some r at h
  unfold m_l_are_names at h
  change NxT _ _ [some (rVal.at v_thing), none] _ []
  replace h := bindE h
  obtain ⟨t10, ht10, h⟩ := h
  refine s_seq (s_if (t_or (c := (!(isTupD v_thing))) (d := t10) (t_not (t_val (e_isV (ea_cons (e_var (sl := (rVal.at v_thing)) rfl fun _ => (ea_cons (e_cls (fun _ => (ea_nil ⟨_, rfl, kit_tupD _ _, ⟨_, rfl, ⟨rfl, ?b11, fun hc => ⟨pureE' (condT hc ht10), rfl⟩⟩⟩⟩))))))))) ⟨fun hc => ?_, fun hc => ?_⟩))
  case b11 =>
    intro hc
    have h := condF hc ht10
    replace h := bindE h
    obtain ⟨u1, hu1, h⟩ := h
    replace h := bindE h
    obtain ⟨t8, ht8, h⟩ := h
    replace h := pureE h
    subst h
    refine (t_or (c := (!((decide ((0 : Int) < (u1.length : Int))) && (decide ((u1.length : Int) < (13 : Int)))))) (d := t8) (t_not (t_test (e_chainI (g := fun i j => decide (i < j)) (g' := fun i j => decide (i < j)) (d := ((decide ((0 : Int) < (u1.length : Int))) && (decide ((u1.length : Int) < (13 : Int))))) (e_int ⟨_, rfl, (e_lenT (ea_cons (e_to (d := v_thing) (e_var (sl := (rVal.at v_thing)) rfl ⟨rfl, nar_tup hu1, fun _ => (ea_nil ⟨_, rVal, _, rfl, ⟨_, rfl, fun hc => (e_int ⟨_, rfl, andT hc, rfl⟩), fun hc => ⟨andF hc, rfl⟩⟩⟩)⟩))))⟩) ⟨_, rfl, ⟨rfl, ?b9, fun hc => ⟨pureE' (condT hc ht8), rfl⟩⟩⟩))) ⟨rfl, rfl⟩)
    case b9 =>
      intro hc
      have h := condF hc ht8
      replace h := bindE h
      obtain ⟨u2, hu2, h⟩ := h
      replace h := bindE h
      obtain ⟨t7, ht7, h⟩ := h
      replace h := pureE h
      subst h
      refine (t_not (t_val (e_all (ea_cons (lc_sound (is := [1]) (by decide) (i_tup (e_to (d := v_thing) (e_var (sl := (rVal.at v_thing)) rfl ⟨rfl, nar_tup hu2, ⟨_, rVal, _, rfl, ⟨_, _, _, rVal, u2, (), _, t7, (), rBool, fun _ => [], rfl, lcO_mapO _ _ _ ht7, rfl, ?b6, fun _ => (ea_nil ⟨_, rfl, ⟨_, rfl, ⟨rfl, rfl⟩⟩⟩)⟩⟩⟩))))))))
      case b6 =>
        intro W1 T1 k4 x3 o u1 h
        obtain ⟨h, _⟩ := mapU h
        refine g_name ?_
        replace h := bindE h
        obtain ⟨r5, hr5, h⟩ := h
        replace h := pureE h
        subst h
        refine t_yes ⟨fun _ => ?_, fun z => nomatch z⟩
        refine (e_call (ea_cons (e_var (sl := (rVal.at x3)) rfl fun _ => (ea_nil ⟨x3, r5, [], hr5, rfl, rfl, ⟨_, rfl, rfl, rfl⟩⟩))))
  · replace h := condT hc h
    replace h := pureE h
    subst h
    refine s_ret (e_bl ?_)
    exact Rt.drop hrt .slnil
  · replace h := condF hc h
    refine s_next ?_
    replace h := bindE h
    obtain ⟨u12, hu12, h⟩ := h
    replace h := bindE h
    obtain ⟨l13, hl13, h⟩ := h
    replace h := bindE h
    obtain ⟨u14, hu14, h⟩ := h
    replace h := pureE h
    subst h
    refine s_ret (e_eqI (e_lenSetX (e_to (d := v_thing) (e_var (sl := (rVal.at v_thing)) rfl ⟨rfl, nar_tupT hu12, ⟨_, _, rfl, hl13, ⟨_, rfl, (e_lenT (ea_cons (e_to (d := v_thing) (e_var (sl := (rVal.at v_thing)) rfl ⟨rfl, nar_tup hu14, fun _ => (ea_nil ⟨_, rVal, _, rfl, ⟨_, rfl, ?_⟩⟩)⟩))))⟩⟩⟩))))
    exact Rt.drop hrt .slnil
def m_l_shown (v_roster : ((Int × (List (List Nat)) × (List Int) × (List ((List Nat) × (List Int)))) × (List Int))) : Option Str :=
  bind (m_Roster_bits v_roster) fun r1 =>
  bind (m_Roster_names v_roster) fun r2 =>
  bind (m_Roster_numbers v_roster) fun r3 =>
  bind (m_Roster_titles v_roster) fun r4 =>
  bind (oLen (m_Roster_len v_roster)) fun r5 =>
  bind (m_Roster_changes v_roster) fun r6 =>
  bind (noneO (m_Roster_tests v_roster)) fun l7 =>
  bind (oCat ([(PyData.int r1), ((vTup vTx).d r2), ((vTup vInt).d r3), ((vTup vTx).d r4), (PyData.int r5), (PyData.int r6)] : List PyData) ([(PyData.list [])] : List PyData)) fun t8 =>
  bind (oReprW (PyData.list t8)) fun t9 =>
  pure t9
abbrev sp_l_shown (K : PySem.W.Frag) (Z : Ads) : Sp := spM (ι := ((Int × (List (List Nat)) × (List Int) × (List ((List Nat) × (List Int)))) × (List Int))) (β := Str) (fun i => [(rT_Roster Z).at i]) (fun i => []) (fun i => m_l_shown i) (fun i b => rStr.at b) (fun i b => [])
abbrev N_l_shown : List Str := ["_law_roster", "_law_told"]
theorem sc_l_shown : FnScope N_l_shown ["_law_roster"] (defScope s_l_shown) := ⟨rfl, rfl, rfl, by decide +kernel, rfl, by decide +kernel, by decide +kernel⟩
theorem ok_l_shown {P : Program} {w : World} {K : PySem.W.Frag} {Z : Ads} {mg : Str → Option Value} {base : Heap} (X : Tx K mg Z) (G_Roster_len : FnG P w K mg base CX0 1 X.f_Roster_len X.d_Roster_len ["self"] (sp_Roster_len K Z)) (G_Roster_bits : FnG P w K mg base CX0 1 X.f_Roster_bits X.d_Roster_bits ["self"] (sp_Roster_bits K Z)) (G_Roster_changes : FnG P w K mg base CX0 1 X.f_Roster_changes X.d_Roster_changes ["self"] (sp_Roster_changes K Z)) (G_Roster_names : FnG P w K mg base CX0 1 X.f_Roster_names X.d_Roster_names ["self"] (sp_Roster_names K Z)) (G_Roster_numbers : FnG P w K mg base CX0 1 X.f_Roster_numbers X.d_Roster_numbers ["self"] (sp_Roster_numbers K Z)) (G_Roster_tests : GenFn P w K mg base 2 X.f_Roster_tests X.d_Roster_tests ["self"] rInt (sp_Roster_tests K Z)) (G_Roster_titles : FnG P w K mg base CX0 1 X.f_Roster_titles X.d_Roster_titles ["self"] (sp_Roster_titles K Z)) : FnG P w K mg base CX0 8 X.f_l_shown X.d_l_shown ["_law_roster"] (sp_l_shown K Z) := by
  refine okG X.F_l_shown sc_l_shown (fun vs H Q E h => spM_len h fun _ => rfl) (fun cdv A outer s H vs Q E hr h => ?_)
  refine ⟨(tSeq (tAsg (tLst (tCons (tProp Z.C_Roster (sp_Roster_bits K Z) [] E0 (tVar 0)) (tCons (tProp Z.C_Roster (sp_Roster_names K Z) [] E0 (tVar 0)) (tCons (tProp Z.C_Roster (sp_Roster_numbers K Z) [] E0 (tVar 0)) (tCons (tProp Z.C_Roster (sp_Roster_titles K Z) [] E0 (tVar 0)) (tCons (tCB (rLenOb Z.C_Roster (sp_Roster_len K Z) [] E0) (tCons (tVar 0) tNil)) (tCons (tMeth Z.C_Roster "changes" (sp_Roster_changes K Z) [] E0 (tVar 0) tNil) tNil))))))) (gName 1)) (tRet (tCB rReprW (tCons (tOp rCatFar (tVar 1) (tLst (tCons (tListGM Z.C_Roster "tests" (sp_Roster_tests K Z) (tVar 0)) tNil))) tNil)))), (pss_cons (ps_set (i := 1) sc_l_shown.nd rfl (Or.inl rfl) (pe_lst (pa_cons (pe_propG (pv 0) X.cl_Roster X.pr_Roster_bits G_Roster_bits (hr.mono (by decide)) X.b_Roster_bits pass0) (pa_cons (pe_propG (pv 0) X.cl_Roster X.pr_Roster_names G_Roster_names (hr.mono (by decide)) X.b_Roster_names pass0) (pa_cons (pe_propG (pv 0) X.cl_Roster X.pr_Roster_numbers G_Roster_numbers (hr.mono (by decide)) X.b_Roster_numbers pass0) (pa_cons (pe_propG (pv 0) X.cl_Roster X.pr_Roster_titles G_Roster_titles (hr.mono (by decide)) X.b_Roster_titles pass0) (pa_cons (pe_callB (call_lenG X.dm_Roster_len G_Roster_len (hr.mono (by decide)) X.b_Roster_len .nil pass0) (by rfl) X.z_len bt_len (pa_cons (pv 0) pa_nil)) (pa_cons (pe_methG0 (pv 0) X.cl_Roster X.me_Roster_changes G_Roster_changes (hr.mono (by decide)) X.b_Roster_changes .nil pass0) pa_nil)))))))) (pss_one (ps_ret (pe_callB (cr_reprW hr) (by rfl) X.z_repr bt_repr (pa_cons (pe_op op_catFar (pv 1) (pe_lst (pa_cons (pe_listGM (pv 0) X.cl_Roster X.me_Roster_tests G_Roster_tests (hr.mono (by decide)) rfl X.b_Roster_tests (by rfl) X.z_list bt_list) pa_nil))) pa_nil))))), ?_⟩
  obtain ⟨v_roster, r, W, h, hcore, har, hrt⟩ := h
  refine body hcore har (Nat.le_of_ble_eq_true rfl) ?_
  clear hcore har
  change m_l_shown v_roster = some r at h
  unfold m_l_shown at h
  change NxT _ _ [some ((rT_Roster Z).at v_roster), none] _ []
  replace h := bindE h
  obtain ⟨r1, hr1, h⟩ := h
  replace h := bindE h
  obtain ⟨r2, hr2, h⟩ := h
  replace h := bindE h
  obtain ⟨r3, hr3, h⟩ := h
  replace h := bindE h
  obtain ⟨r4, hr4, h⟩ := h
  replace h := bindE h
  obtain ⟨r5, hr5, h⟩ := h
  replace h := bindE h
  obtain ⟨r6, hr6, h⟩ := h
  refine s_seq (s_set (e_lst (ea_cons (e_asV (d := (PyData.int r1)) (e_propF (E := E0) (fl := fl_Roster Z) (ι := ((Int × (List (List Nat)) × (List Int) × (List ((List Nat) × (List Int)))) × (List Int))) (β := Int) (A := fun i => [(rT_Roster Z).at i]) (ci := fun i => []) (m := fun i => m_Roster_bits i) (res := fun i b => rInt.at b) (co := fun i b => []) (e_var (sl := ((rT_Roster Z).at v_roster)) rfl ⟨_, rfl, v_roster, r1, _, hr1, rfl, rfl, ⟨asV_of vInt _, fun _ => (ea_cons (e_asV (d := ((vTup vTx).d r2)) (e_propF (E := E0) (fl := fl_Roster Z) (ι := ((Int × (List (List Nat)) × (List Int) × (List ((List Nat) × (List Int)))) × (List Int))) (β := (List (List Nat))) (A := fun i => [(rT_Roster Z).at i]) (ci := fun i => []) (m := fun i => m_Roster_names i) (res := fun i b => (rTup rTx).at b) (co := fun i b => []) (e_var (sl := ((rT_Roster Z).at v_roster)) rfl ⟨_, rfl, v_roster, r2, _, hr2, rfl, rfl, ⟨asV_of (vTup vTx) _, fun _ => (ea_cons (e_asV (d := ((vTup vInt).d r3)) (e_propF (E := E0) (fl := fl_Roster Z) (ι := ((Int × (List (List Nat)) × (List Int) × (List ((List Nat) × (List Int)))) × (List Int))) (β := (List Int)) (A := fun i => [(rT_Roster Z).at i]) (ci := fun i => []) (m := fun i => m_Roster_numbers i) (res := fun i b => (rTup rInt).at b) (co := fun i b => []) (e_var (sl := ((rT_Roster Z).at v_roster)) rfl ⟨_, rfl, v_roster, r3, _, hr3, rfl, rfl, ⟨asV_of (vTup vInt) _, fun _ => (ea_cons (e_asV (d := ((vTup vTx).d r4)) (e_propF (E := E0) (fl := fl_Roster Z) (ι := ((Int × (List (List Nat)) × (List Int) × (List ((List Nat) × (List Int)))) × (List Int))) (β := (List (List Nat))) (A := fun i => [(rT_Roster Z).at i]) (ci := fun i => []) (m := fun i => m_Roster_titles i) (res := fun i b => (rTup rTx).at b) (co := fun i b => []) (e_var (sl := ((rT_Roster Z).at v_roster)) rfl ⟨_, rfl, v_roster, r4, _, hr4, rfl, rfl, ⟨asV_of (vTup vTx) _, fun _ => (ea_cons (e_asV (d := (PyData.int r5)) (e_lenOb (ι := ((Int × (List (List Nat)) × (List Int) × (List ((List Nat) × (List Int)))) × (List Int))) (α := ((Int × (List (List Nat)) × (List Int) × (List ((List Nat) × (List Int)))) × (List Int))) (C := Z.C_Roster) (E := E0) (fl := fl_Roster Z) (A := fun i => [(rT_Roster Z).at i]) (m := fun i => m_Roster_len i) (ea_cons (e_var (sl := ((rT_Roster Z).at v_roster)) rfl fun _ => (ea_nil ⟨_, v_roster, _, rfl, (oLen_ok hr5).1, rfl, (oLen_ok hr5).2.1, (oLen_ok hr5).2.2, ⟨asV_of vInt _, fun _ => (ea_cons (e_asV (d := (PyData.int r6)) (e_meth (ι := ((Int × (List (List Nat)) × (List Int) × (List ((List Nat) × (List Int)))) × (List Int))) (β := Int) (α := ((Int × (List (List Nat)) × (List Int) × (List ((List Nat) × (List Int)))) × (List Int))) (C := Z.C_Roster) (E := E0) (fl := fl_Roster Z) (A := fun i => [(rT_Roster Z).at i]) (ci := fun _ => []) (m := fun i => m_Roster_changes i) (res := fun _ b => rInt.at b) (co := fun _ _ => []) (mn := "changes") (hn := nn_Roster Z _ (by decide +kernel)) (e_var (sl := ((rT_Roster Z).at v_roster)) rfl ⟨_, rfl, fun _ => (ea_nil ⟨v_roster, _, _, hr6, rfl, rfl, ⟨asV_of vInt _, fun _ => (ea_nil ⟨_, rVal, ([(PyData.int r1), ((vTup vTx).d r2), ((vTup vInt).d r3), ((vTup vTx).d r4), (PyData.int r5), (PyData.int r6)] : List PyData), rfl, Nat.le_of_ble_eq_true rfl, ?_⟩)⟩⟩)⟩))))⟩⟩))))))⟩⟩))))⟩⟩))))⟩⟩))))⟩⟩))))))
  change NxT _ _ [some ((rT_Roster Z).at v_roster), some ((rLst rVal).at ([(PyData.int r1), ((vTup vTx).d r2), ((vTup vInt).d r3), ((vTup vTx).d r4), (PyData.int r5), (PyData.int r6)] : List PyData))] _ []
  replace h := bindE h
  obtain ⟨l7, hl7, h⟩ := h
  replace h := bindE h
  obtain ⟨t8, ht8, h⟩ := h
  replace h := bindE h
  obtain ⟨t9, ht9, h⟩ := h
  replace h := pureE h
  subst h
  refine s_ret (e_reprW (ea_cons (e_catFar (e_var (sl := ((rLst rVal).at ([(PyData.int r1), ((vTup vTx).d r2), ((vTup vInt).d r3), ((vTup vTx).d r4), (PyData.int r5), (PyData.int r6)] : List PyData))) rfl fun _ => (e_lst (ea_cons (e_listGM (fl := fl_Roster Z) (mm := m_Roster_tests) (lr_Roster Z) (nn_Roster Z _ (by decide +kernel)) (e_var (sl := ((rT_Roster Z).at v_roster)) rfl ⟨_, rfl, noneO_ok hl7, fun _ => (ea_nil ⟨_, rVal, ([(PyData.list [])] : List PyData), rfl, Nat.le_of_ble_eq_true rfl, ⟨_, _, _, rfl, rfl, ht8, fun _ => (ea_nil ⟨_, _, rfl, ht9, ?_⟩)⟩⟩)⟩))))))))
  exact Rt.drop hrt .slnil
def m_l_made_right (v_value : PyData) : Option Bool :=
  bind (rzOfV (mX_Roster_init v_value) (m_Roster_init v_value)) fun z1 =>
  bind (rzB (rzMV (fun b => b) z1) (fun b => m_l_shown b)) fun z2 =>
  bind (m_l_asked z2) fun r3 =>
  bind (oReprW v_value) fun t4 =>
  bind (oReprW (PyData.list [v_value, (PyData.tuple []), (PyData.tuple []), (PyData.tuple []), (PyData.int (0 : Int)), (PyData.int (0 : Int)), (PyData.list [])])) fun t5 =>
  bind (m_l_is_int v_value (1 : Int) (8 : Int)) fun r6 =>
  bind (((bif (!r6) then (pure ((PyData.tuple [(PyData.str ("bits" : Str)), v_value]))) else (pure ((PyData.tuple [(PyData.str ("returned" : Str)), (PyData.str t5)])))) : Option (PyData))) fun j7 =>
  bind (oReprW r3) fun t8 =>
  bind (oReprW j7) fun t9 =>
  bind (((bif (decide (t8 = t9)) then ((bind (oReprW v_value) fun t10 => pure (decide (t10 = t4)))) else (pure false)) : Option Bool)) fun t11 =>
  pure t11
abbrev sp_l_made_right (K : PySem.W.Frag) (Z : Ads) : Sp := spM (ι := PyData) (β := Bool) (fun i => [rVal.at i]) (fun i => [(Z.T_l_made_right, cTab "_law_made_right.<locals>.<lambda>")]) (fun i => m_l_made_right i) (fun i b => rBool.at b) (fun i b => [(Z.T_l_made_right, cTab "_law_made_right.<locals>.<lambda>")])
abbrev N_l_made_right : List Str := ["_law_value", "_law_told", "_law_noted", "_law_due"]
theorem sc_l_made_right : FnScope N_l_made_right ["_law_value"] (defScope s_l_made_right) := ⟨rfl, rfl, rfl, by decide +kernel, rfl, by decide +kernel, by decide +kernel⟩
theorem ok_l_made_right {P : Program} {w : World} {K : PySem.W.Frag} {Z : Ads} {mg : Str → Option Value} {base : Heap} (X : Tx K mg Z) (TB_l_made_right : LamX.TabB base mg X.ca_l_made_right Z.T_l_made_right) (G_Roster_init : FnG P w K mg base CX0 2 X.f_Roster_init X.d_Roster_init ["self", "bits"] (sp_Roster_init K Z)) (G_l_is_int : FnG P w K mg base CX0 1 X.f_l_is_int X.d_l_is_int ["_law_thing", "_law_least", "_law_most"] (sp_l_is_int K Z)) (G_l_shown : FnG P w K mg base CX0 8 X.f_l_shown X.d_l_shown ["_law_roster"] (sp_l_shown K Z)) (GX_Roster_init : FnG P w K mg base (L2.CX P w) 3 X.f_Roster_init X.d_Roster_init ["self", "bits"] (spX_Roster_init K Z (xt_ X))) : FnG P w K mg base CX0 13 X.f_l_made_right X.d_l_made_right ["_law_value"] (sp_l_made_right K Z) := by
  refine okGC X.FC_l_made_right sc_l_made_right (fun vs H Q E h => spM_len h fun _ => rfl) (fun A outer s H vs Q E hr h => ?_)
  refine ⟨(tSeq (tPar 1 2 (tCons (tLamS Z.T_l_made_right "_law_made_right.<locals>.<lambda>" (TTl (xt_ X) "_law_made_right.<locals>.<lambda>" rStr m_l_asked (fun b => rVal.at b)) (fun E => tCall (sp_l_shown K Z) [] E0 (tCons (tMake Z.C_Roster (spR_Roster_init K Z (xt_ X)) [] E (tCons (tVar 0) tNil)) tNil))) (tCons (tCB rReprW (tCons (tVar 0) tNil)) tNil))) (tSeq (tAsg (tTup (tCons (tC (.str ("returned" : Str))) (tCons (tCB rReprW (tCons (tLstB (tCons (tVar 0) (tCons (tTup tNil) (tCons (tTup tNil) (tCons (tTup tNil) (tCons (tC (.int 0)) (tCons (tC (.int 0)) (tCons (tLstB tNil) tNil)))))))) tNil)) tNil))) (gName 3)) (tSeq (tIfS (tNot (tB (tCall (sp_l_is_int K Z) [] E0 (tCons (tVar 0) (tCons (tC (.int 1)) (tCons (tC (.int 8)) tNil)))))) (tAsg (tTup (tCons (tC (.str ("bits" : Str))) (tCons (tVar 0) tNil))) (gName 3)) tNext) (tRet (tAndV (tOp rEq (tCB rReprW (tCons (tVar 1) tNil)) (tCB rReprW (tCons (tVar 3) tNil))) (tOp rEq (tCB rReprW (tCons (tVar 0) tNil)) (tVar 2))))))), (pss_cons (ps_par rfl sc_l_made_right.nd rfl rfl (by decide) rfl rfl (pa_cons (pe_lamS (k := 9) (TT := (TTl (xt_ X) "_law_made_right.<locals>.<lambda>" rStr m_l_asked (fun b => rVal.at b))) (t := (fun E => tCall (sp_l_shown K Z) [] E0 (tCons (tMake Z.C_Roster (spR_Roster_init K Z (xt_ X)) [] E (tCons (tVar 0) tNil)) tNil))) (q := "_law_made_right.<locals>.<lambda>") (by rfl) X.g_l_asked X.F_l_asked X.b_l_asked sc_l_asked rfl (by first | exact Or.inl rfl | exact Or.inr (Or.inl rfl)) (gv_l_asked X _) TB_l_made_right rfl rfl (hr.mono (by decide)) (LamX.lamS_by rfl) rfl (fun _ _ _ _ _ => rfl) (fun A2 ou2 s2 H2 E f2 d2 hr2 => (pe_callG (k := 8) G_l_shown (hr2.mono (by decide)) (by rfl) X.g_l_shown X.F_l_shown.kp X.b_l_shown .nil pass0 (pa_cons (pe_makeG X.mk_Roster (fnG_bothL (l := 3) (xt := xt_ X) G_Roster_init GX_Roster_init (by decide) (by decide)) (hr2.mono (by decide)) (by rfl) X.gc_Roster X.b_Roster_init .nil (passR (takes_of rfl rfl rfl rfl)) (pa_cons (pv 0) pa_nil)) pa_nil)))) (pa_cons (pe_callB (cr_reprW hr) (by rfl) X.z_repr bt_repr (pa_cons (pv 0) pa_nil)) pa_nil)) (by rfl)) (pss_cons (ps_set (i := 3) sc_l_made_right.nd rfl (Or.inl rfl) (pe_tup (pa_cons pe_str (pa_cons (pe_callB (cr_reprW hr) (by rfl) X.z_repr bt_repr (pa_cons (pe_lstB (pa_cons (pv 0) (pa_cons (pe_tup pa_nil) (pa_cons (pe_tup pa_nil) (pa_cons (pe_tup pa_nil) (pa_cons pe_int (pa_cons pe_int (pa_cons (pe_lstB pa_nil) pa_nil)))))))) pa_nil)) pa_nil)))) (pss_cons (ps_if (pt_not (pt_val (pe_callG (G_l_is_int) (hr.mono (by decide)) (by rfl) X.g_l_is_int X.F_l_is_int.kp X.b_l_is_int .nil pass0 (pa_cons (pv 0) (pa_cons pe_int (pa_cons pe_int pa_nil)))))) (pss_one (ps_set (i := 3) sc_l_made_right.nd rfl (Or.inl rfl) (pe_tup (pa_cons pe_str (pa_cons (pv 0) pa_nil))))) pss_nil) (pss_one (ps_ret (pe_and (pe_cmpR op_eq (pe_callB (cr_reprW hr) (by rfl) X.z_repr bt_repr (pa_cons (pv 1) pa_nil)) (pe_callB (cr_reprW hr) (by rfl) X.z_repr bt_repr (pa_cons (pv 3) pa_nil)) (nomark _)) (pe_one (pe_cmpR op_eq (pe_callB (cr_reprW hr) (by rfl) X.z_repr bt_repr (pa_cons (pv 0) pa_nil)) (pv 2) (nomark _))))))))), ?_⟩
  obtain ⟨v_value, r, W, h, hcore, har, hrt⟩ := h
  refine body hcore har (Nat.le_of_ble_eq_true rfl) ?_
  clear hcore har
  change m_l_made_right v_value = some r at h
  unfold m_l_made_right at h
  change NxT _ _ [some (rVal.at v_value), none, none, none] _ [(Z.T_l_made_right, cTab "_law_made_right.<locals>.<lambda>")]
  replace h := bindE h
  obtain ⟨z1, hz1, h⟩ := h
  replace h := bindE h
  obtain ⟨z2, hz2, h⟩ := h
  replace h := bindE h
  obtain ⟨r3, hr3, h⟩ := h
  replace h := bindE h
  obtain ⟨t4, ht4, h⟩ := h
  refine s_seq (s_par (ea_cons (e_lamSL 0 rfl (er_callOf (ι := ((Int × (List (List Nat)) × (List Int) × (List ((List Nat) × (List Int)))) × (List Int))) (β := Str) (A := fun i => [(rT_Roster Z).at i]) (m := fun i => m_l_shown i) (res := fun _ b => rStr.at b) (r1 := rT_Roster Z) (rg := rStr) (E0 := E0) (fun b => b) (er_makeL (ι := PyData) (β := ((Int × (List (List Nat)) × (List Int) × (List ((List Nat) × (List Int)))) × (List Int))) (C := Z.C_Roster) (fl := fl_Roster Z) (A := fun p i => [sRef p, rVal.at i]) (m := fun i => rzOfV (mX_Roster_init i) (m_Roster_init i)) (rg := rT_Roster Z) (fun b => b) (fun _ _ _ h => h) fun _ => (ea_cons (e_var (sl := (rVal.at v_value)) rfl fun _ => (ea_nil ⟨(v_value), _, hz1, fun _ => rfl, rfl, rfl⟩)))) (hz_of (A := fun i => [(rT_Roster Z).at i]) (m := fun i => m_l_shown i) (res := fun _ b => rStr.at b) (r1 := rT_Roster Z) (rg := rStr) (f := fun b => b) hz2 fun b y hy => ⟨b, y, hy, rfl, fun _ _ h => h, rfl⟩)) hr3 fun _ => (ea_cons (e_reprW (ea_cons (e_var (sl := (rVal.at v_value)) rfl fun _ => (ea_nil ⟨_, _, rfl, ht4, fun _ => (ea_nil ⟨_, _, rfl, ?_⟩)⟩))))))))
  change NxT _ _ [some (rVal.at v_value), some (rVal.at r3), some (rStr.at t4), none] _ [(Z.T_l_made_right, cTab "_law_made_right.<locals>.<lambda>")]
  replace h := bindE h
  obtain ⟨t5, ht5, h⟩ := h
  refine s_seq (s_set (e_tupV (ea_cons (e_asV (d := (PyData.str ("returned" : Str))) (e_str ⟨asV_of vStr _, fun _ => (ea_cons (e_asV (d := (PyData.str t5)) (e_reprW (ea_cons (e_lstV (ea_cons (e_var (sl := (rVal.at v_value)) rfl fun _ => (ea_cons (e_tupV (ea_nil ⟨[], .nil, Nat.le_of_ble_eq_true rfl, fun _ => (ea_cons (e_tupV (ea_nil ⟨[], .nil, Nat.le_of_ble_eq_true rfl, fun _ => (ea_cons (e_tupV (ea_nil ⟨[], .nil, Nat.le_of_ble_eq_true rfl, fun _ => (ea_cons (e_asV (d := (PyData.int (0 : Int))) (e_int ⟨asV_of vInt _, fun _ => (ea_cons (e_asV (d := (PyData.int (0 : Int))) (e_int ⟨asV_of vInt _, fun _ => (ea_cons (e_lstV (ea_nil ⟨[], .nil, Nat.le_of_ble_eq_true rfl, fun _ => (ea_nil ⟨[v_value, (PyData.tuple []), (PyData.tuple []), (PyData.tuple []), (PyData.int (0 : Int)), (PyData.int (0 : Int)), (PyData.list [])], (.cons (asV_val _) (.cons (asV_val _) (.cons (asV_val _) (.cons (asV_val _) (.cons (asV_val _) (.cons (asV_val _) (.cons (asV_val _) .nil))))))), Nat.le_of_ble_eq_true rfl, fun _ => (ea_nil ⟨_, _, rfl, ht5, ⟨asV_of vStr _, fun _ => (ea_nil ⟨[(PyData.str ("returned" : Str)), (PyData.str t5)], (.cons (asV_val _) (.cons (asV_val _) .nil)), Nat.le_of_ble_eq_true rfl, ?_⟩)⟩⟩)⟩)⟩)))⟩)))⟩)))⟩)))⟩)))⟩))))))))))⟩)))))
  change NxT _ _ [some (rVal.at v_value), some (rVal.at r3), some (rStr.at t4), some (rVal.at (PyData.tuple [(PyData.str ("returned" : Str)), (PyData.str t5)]))] _ [(Z.T_l_made_right, cTab "_law_made_right.<locals>.<lambda>")]
  replace h := bindE h
  obtain ⟨r6, hr6, h⟩ := h
  replace h := bindE h
  obtain ⟨j7, hj7, h⟩ := h
  refine s_seq (s_ifJ [some (rVal.at v_value), some (rVal.at r3), some (rStr.at t4), some (rVal.at j7)] [(Z.T_l_made_right, cTab "_law_made_right.<locals>.<lambda>")] (t_not (t_val (e_call (ea_cons (e_var (sl := (rVal.at v_value)) rfl fun _ => (ea_cons (e_int fun _ => (ea_cons (e_int fun _ => (ea_nil ⟨(v_value, (1 : Int), (8 : Int)), r6, [(Z.T_l_made_right, cTab "_law_made_right.<locals>.<lambda>")], hr6, rfl, rfl, ⟨_, rfl, ⟨fun hc N hN => ?_, fun hc N hN => ?_⟩⟩⟩)))))))))) ?_)
  · clear h
    have h := condT hc hj7
    refine (s_set (e_tupV (ea_cons (e_asV (d := (PyData.str ("bits" : Str))) (e_str ⟨asV_of vStr _, fun _ => (ea_cons (e_var (sl := (rVal.at v_value)) rfl fun _ => (ea_nil ⟨[(PyData.str ("bits" : Str)), v_value], (.cons (asV_val _) (.cons (asV_val _) .nil)), Nat.le_of_ble_eq_true rfl, ?_⟩)))⟩)))))
    change NxT _ _ [some (rVal.at v_value), some (rVal.at r3), some (rStr.at t4), some (rVal.at (PyData.tuple [(PyData.str ("bits" : Str)), v_value]))] _ [(Z.T_l_made_right, cTab "_law_made_right.<locals>.<lambda>")]
    replace h := pureE h
    subst h
    exact s_weak (by exact (And.intro rfl (And.intro rfl (And.intro rfl (And.intro rfl True.intro))))) (.cons₂ _ .slnil) hN
  · clear h
    have h := condF hc hj7
    refine s_next ?_
    replace h := pureE h
    subst h
    exact s_weak (by exact (And.intro rfl (And.intro rfl (And.intro rfl (And.intro rfl True.intro))))) (.cons₂ _ .slnil) hN
  change NxT _ _ [some (rVal.at v_value), some (rVal.at r3), some (rStr.at t4), some (rVal.at j7)] _ [(Z.T_l_made_right, cTab "_law_made_right.<locals>.<lambda>")]
  replace h := bindE h
  obtain ⟨t8, ht8, h⟩ := h
  replace h := bindE h
  obtain ⟨t9, ht9, h⟩ := h
  replace h := bindE h
  obtain ⟨t11, ht11, h⟩ := h
  replace h := pureE h
  subst h
  refine s_ret (e_and (c := (decide (t8 = t9))) (d := t11) (e_eqS (e_reprW (ea_cons (e_var (sl := (rVal.at r3)) rfl fun _ => (ea_nil ⟨_, _, rfl, ht8, ⟨_, rfl, fun _ => (e_reprW (ea_cons (e_var (sl := (rVal.at j7)) rfl fun _ => (ea_nil ⟨_, _, rfl, ht9, ⟨_, rfl, ⟨rfl, ?b12, fun hc => ⟨pureE' (condF hc ht11), rfl⟩⟩⟩⟩))))⟩⟩))))) ?_)
  case b12 =>
    intro hc
    have h := condT hc ht11
    replace h := bindE h
    obtain ⟨t10, ht10, h⟩ := h
    replace h := pureE h
    subst h
    refine (e_eqS (e_reprW (ea_cons (e_var (sl := (rVal.at v_value)) rfl fun _ => (ea_nil ⟨_, _, rfl, ht10, ⟨_, rfl, fun _ => (e_var (sl := (rStr.at t4)) rfl ⟨_, rfl, ⟨rfl, rfl⟩⟩)⟩⟩)))))
  exact Rt.drop hrt (.cons₂ _ .slnil)
def m_l_of_right (v_value : PyData) : Option Bool :=
  bind (rzOfV (mX_Roster_of () v_value) (m_Roster_of () v_value)) fun z1 =>
  bind (rzB (rzMV (fun b => b) z1) (fun b => m_l_shown b)) fun z2 =>
  bind (m_l_asked z2) fun r3 =>
  bind (oReprW v_value) fun t4 =>
  bind (m_l_are_names v_value) fun r5 =>
  bind (((bif r5 then ((bind (oTupD v_value) fun u15 => (bind (whileO (fun (b16 : (Int)) => (((bind (oShl (1 : Int) b16) fun t17 => (bif (decide (t17 < (u15.length : Int))) then (pure (Fl.go ((b16 + (1 : Int))))) else (pure (Fl.brk (b16)))))) : Option (Fl Bool (Int)))) 1000000000 ((1 : Int))) fun o18 => (match o18 with | .ret z => (none) | .go g20 => ((bind (oRange 0 (u15.length : Int)) fun t21 => (bind (oReprW (PyData.list [(PyData.int g20), v_value, ((vTup vInt).d t21), (PyData.tuple []), (PyData.int (u15.length : Int)), (PyData.int (0 : Int)), (PyData.list [])])) fun t22 => pure ((PyData.tuple [(PyData.str ("returned" : Str)), (PyData.str t22)]))))))))) else (pure ((PyData.tuple [(PyData.str ("names" : Str)), v_value])))) : Option (PyData))) fun j14 =>
  bind (oReprW r3) fun t23 =>
  bind (oReprW j14) fun t24 =>
  bind (((bif (decide (t23 = t24)) then ((bind (oReprW v_value) fun t25 => pure (decide (t25 = t4)))) else (pure false)) : Option Bool)) fun t26 =>
  pure t26
abbrev sp_l_of_right (K : PySem.W.Frag) (Z : Ads) : Sp := spM (ι := PyData) (β := Bool) (fun i => [rVal.at i]) (fun i => [(Z.T_l_of_right, cTab "_law_of_right.<locals>.<lambda>")]) (fun i => m_l_of_right i) (fun i b => rBool.at b) (fun i b => [(Z.T_l_of_right, cTab "_law_of_right.<locals>.<lambda>")])
abbrev N_l_of_right : List Str := ["_law_value", "_law_told", "_law_noted", "_law_due", "_law_count", "_law_size"]
theorem sc_l_of_right : FnScope N_l_of_right ["_law_value"] (defScope s_l_of_right) := ⟨rfl, rfl, rfl, by decide +kernel, rfl, by decide +kernel, by decide +kernel⟩
theorem ok_l_of_right {P : Program} {w : World} {K : PySem.W.Frag} {Z : Ads} {mg : Str → Option Value} {base : Heap} (X : Tx K mg Z) (TB_l_of_right : LamX.TabB base mg X.ca_l_of_right Z.T_l_of_right) (G_Roster_of : FnG P w K mg base CX0 4 X.f_Roster_of X.d_Roster_of ["cls", "names"] (sp_Roster_of K Z)) (G_l_are_names : FnG P w K mg base CX0 2 X.f_l_are_names X.d_l_are_names ["_law_thing"] (sp_l_are_names K Z)) (G_l_shown : FnG P w K mg base CX0 8 X.f_l_shown X.d_l_shown ["_law_roster"] (sp_l_shown K Z)) (GX_Roster_of : FnG P w K mg base (L2.CX P w) 3 X.f_Roster_of X.d_Roster_of ["cls", "names"] (spX_Roster_of K Z (xt_ X))) : FnG P w K mg base CX0 13 X.f_l_of_right X.d_l_of_right ["_law_value"] (sp_l_of_right K Z) := by
  refine okGC X.FC_l_of_right sc_l_of_right (fun vs H Q E h => spM_len h fun _ => rfl) (fun A outer s H vs Q E hr h => ?_)
  refine ⟨(tSeq (tPar 1 2 (tCons (tLamS Z.T_l_of_right "_law_of_right.<locals>.<lambda>" (TTl (xt_ X) "_law_of_right.<locals>.<lambda>" rStr m_l_asked (fun b => rVal.at b)) (fun E => tCall (sp_l_shown K Z) [] E0 (tCons (ClX.tCMeth Z.C_Roster (spR_Roster_of K Z (xt_ X)) E (tC (.ref Z.C_Roster)) (tCons (tVar 0) tNil)) tNil))) (tCons (tCB rReprW (tCons (tVar 0) tNil)) tNil))) (tSeq (tAsg (tTup (tCons (tC (.str ("names" : Str))) (tCons (tVar 0) tNil))) (gName 3)) (tSeq (tIfS (tB (tCall (sp_l_are_names K Z) [] E0 (tCons (tVar 0) tNil))) (tSeq (tPar 4 5 (tCons (tCB (rdLen K) (tCons (tVar 0) tNil)) (tCons (tC (.int 1)) tNil))) (tSeq (tWhile (tTest (tOp rdLt (tOp rdShl (tC (.int 1)) (tVar 5)) (tVar 4))) (tAsg (tOp rdAdd (tVar 5) (tC (.int 1))) (gName 5))) (tAsg (tTup (tCons (tC (.str ("returned" : Str))) (tCons (tCB rReprW (tCons (tLstB (tCons (tVar 5) (tCons (tVar 0) (tCons (tTupRg (tRg1 (tVar 4))) (tCons (tTup tNil) (tCons (tVar 4) (tCons (tC (.int 0)) (tCons (tLstB tNil) tNil)))))))) tNil)) tNil))) (gName 3)))) tNext) (tRet (tAndV (tOp rEq (tCB rReprW (tCons (tVar 1) tNil)) (tCB rReprW (tCons (tVar 3) tNil))) (tOp rEq (tCB rReprW (tCons (tVar 0) tNil)) (tVar 2))))))), (pss_cons (ps_par rfl sc_l_of_right.nd rfl rfl (by decide) rfl rfl (pa_cons (pe_lamS (k := 9) (TT := (TTl (xt_ X) "_law_of_right.<locals>.<lambda>" rStr m_l_asked (fun b => rVal.at b))) (t := (fun E => tCall (sp_l_shown K Z) [] E0 (tCons (ClX.tCMeth Z.C_Roster (spR_Roster_of K Z (xt_ X)) E (tC (.ref Z.C_Roster)) (tCons (tVar 0) tNil)) tNil))) (q := "_law_of_right.<locals>.<lambda>") (by rfl) X.g_l_asked X.F_l_asked X.b_l_asked sc_l_asked rfl (by first | exact Or.inl rfl | exact Or.inr (Or.inl rfl)) (gv_l_asked X _) TB_l_of_right rfl rfl (hr.mono (by decide)) (LamX.lamS_by rfl) rfl (fun _ _ _ _ _ => rfl) (fun A2 ou2 s2 H2 E f2 d2 hr2 => (pe_callG (k := 8) G_l_shown (hr2.mono (by decide)) (by rfl) X.g_l_shown X.F_l_shown.kp X.b_l_shown .nil pass0 (pa_cons (pe_cmethG (by exact pe_glob rfl X.gc_Roster rfl) X.cr_Roster X.cm_Roster_of (fnG_bothL (l := 4) (xt := xt_ X) G_Roster_of GX_Roster_of (by decide) (by decide)) (hr2.mono (by decide)) X.b_Roster_of (passR (takes_of rfl rfl rfl rfl)) (pa_cons (pv 0) pa_nil)) pa_nil)))) (pa_cons (pe_callB (cr_reprW hr) (by rfl) X.z_repr bt_repr (pa_cons (pv 0) pa_nil)) pa_nil)) (by rfl)) (pss_cons (ps_set (i := 3) sc_l_of_right.nd rfl (Or.inl rfl) (pe_tup (pa_cons pe_str (pa_cons (pv 0) pa_nil)))) (pss_cons (ps_if (pt_val (pe_callG (G_l_are_names) (hr.mono (by decide)) (by rfl) X.g_l_are_names X.F_l_are_names.kp X.b_l_are_names .nil pass0 (pa_cons (pv 0) pa_nil))) (pss_cons (ps_par rfl sc_l_of_right.nd rfl rfl (by decide) rfl rfl (pa_cons (pe_callB call_len_seq (by rfl) X.z_len bt_len (pa_cons (pv 0) pa_nil)) (pa_cons pe_int pa_nil)) (by rfl)) (pss_cons (ps_while PassesOwn.never (pt_cmpR op_lt (pe_op op_shlW pe_int (pv 5)) (pv 4) (nomark _)) (pss_one (ps_set (i := 5) sc_l_of_right.nd rfl (Or.inl rfl) (pe_op op_add (pv 5) pe_int)))) (pss_one (ps_set (i := 3) sc_l_of_right.nd rfl (Or.inl rfl) (pe_tup (pa_cons pe_str (pa_cons (pe_callB (cr_reprW hr) (by rfl) X.z_repr bt_repr (pa_cons (pe_lstB (pa_cons (pv 5) (pa_cons (pv 0) (pa_cons (pe_tupRg rfl (by rfl) X.z_tuple (prg_1 (by rfl) X.z_range (pv 4))) (pa_cons (pe_tup pa_nil) (pa_cons (pv 4) (pa_cons pe_int (pa_cons (pe_lstB pa_nil) pa_nil)))))))) pa_nil)) pa_nil))))))) pss_nil) (pss_one (ps_ret (pe_and (pe_cmpR op_eq (pe_callB (cr_reprW hr) (by rfl) X.z_repr bt_repr (pa_cons (pv 1) pa_nil)) (pe_callB (cr_reprW hr) (by rfl) X.z_repr bt_repr (pa_cons (pv 3) pa_nil)) (nomark _)) (pe_one (pe_cmpR op_eq (pe_callB (cr_reprW hr) (by rfl) X.z_repr bt_repr (pa_cons (pv 0) pa_nil)) (pv 2) (nomark _))))))))), ?_⟩
  obtain ⟨v_value, r, W, h, hcore, har, hrt⟩ := h
  refine body hcore har (Nat.le_of_ble_eq_true rfl) ?_
  clear hcore har
  change m_l_of_right v_value = some r at h
  unfold m_l_of_right at h
  change NxT _ _ [some (rVal.at v_value), none, none, none, none, none] _ [(Z.T_l_of_right, cTab "_law_of_right.<locals>.<lambda>")]
  replace h := bindE h
  obtain ⟨z1, hz1, h⟩ := h
  replace h := bindE h
  obtain ⟨z2, hz2, h⟩ := h
  replace h := bindE h
  obtain ⟨r3, hr3, h⟩ := h
  replace h := bindE h
  obtain ⟨t4, ht4, h⟩ := h
  refine s_seq (s_par (ea_cons (e_lamSL 0 rfl (er_callOf (ι := ((Int × (List (List Nat)) × (List Int) × (List ((List Nat) × (List Int)))) × (List Int))) (β := Str) (A := fun i => [(rT_Roster Z).at i]) (m := fun i => m_l_shown i) (res := fun _ b => rStr.at b) (r1 := rT_Roster Z) (rg := rStr) (E0 := E0) (fun b => b) (er_cmethL (ι := (Unit × PyData)) (β := ((Int × (List (List Nat)) × (List Int) × (List ((List Nat) × (List Int)))) × (List Int))) (C := Z.C_Roster) (A := fun i => [(rClsO Z.C_Roster).at i.1, rVal.at i.2]) (m := fun i => rzOfV (mX_Roster_of i.1 i.2) (m_Roster_of i.1 i.2)) (res := fun _ b => (rT_Roster Z).at b) (rg := rT_Roster Z) (fun b => b) (fun _ _ _ _ h => h) fun _ => (e_clsO ⟨rfl, fun _ => (ea_cons (e_var (sl := (rVal.at v_value)) rfl fun _ => (ea_nil ⟨((), v_value), _, hz1, rfl, rfl, rfl⟩)))⟩)) (hz_of (A := fun i => [(rT_Roster Z).at i]) (m := fun i => m_l_shown i) (res := fun _ b => rStr.at b) (r1 := rT_Roster Z) (rg := rStr) (f := fun b => b) hz2 fun b y hy => ⟨b, y, hy, rfl, fun _ _ h => h, rfl⟩)) hr3 fun _ => (ea_cons (e_reprW (ea_cons (e_var (sl := (rVal.at v_value)) rfl fun _ => (ea_nil ⟨_, _, rfl, ht4, fun _ => (ea_nil ⟨_, _, rfl, ?_⟩)⟩))))))))
  change NxT _ _ [some (rVal.at v_value), some (rVal.at r3), some (rStr.at t4), none, none, none] _ [(Z.T_l_of_right, cTab "_law_of_right.<locals>.<lambda>")]
  refine s_seq (s_set (e_tupV (ea_cons (e_asV (d := (PyData.str ("names" : Str))) (e_str ⟨asV_of vStr _, fun _ => (ea_cons (e_var (sl := (rVal.at v_value)) rfl fun _ => (ea_nil ⟨[(PyData.str ("names" : Str)), v_value], (.cons (asV_val _) (.cons (asV_val _) .nil)), Nat.le_of_ble_eq_true rfl, ?_⟩)))⟩)))))
  change NxT _ _ [some (rVal.at v_value), some (rVal.at r3), some (rStr.at t4), some (rVal.at (PyData.tuple [(PyData.str ("names" : Str)), v_value])), none, none] _ [(Z.T_l_of_right, cTab "_law_of_right.<locals>.<lambda>")]
  replace h := bindE h
  obtain ⟨r5, hr5, h⟩ := h
  replace h := bindE h
  obtain ⟨j14, hj14, h⟩ := h
  refine s_seq (s_ifJ [some (rVal.at v_value), some (rVal.at r3), some (rStr.at t4), some (rVal.at j14), none, none] [(Z.T_l_of_right, cTab "_law_of_right.<locals>.<lambda>")] (t_val (e_call (ea_cons (e_var (sl := (rVal.at v_value)) rfl fun _ => (ea_nil ⟨v_value, r5, [(Z.T_l_of_right, cTab "_law_of_right.<locals>.<lambda>")], hr5, rfl, rfl, ⟨_, rfl, ⟨fun hc N hN => ?_, fun hc N hN => ?_⟩⟩⟩))))) ?_)
  · clear h
    have h := condT hc hj14
    replace h := bindE h
    obtain ⟨u15, hu15, h⟩ := h
    refine s_seq (s_par (ea_cons (e_lenT (ea_cons (e_to (d := v_value) (e_var (sl := (rVal.at v_value)) rfl ⟨rfl, nar_tup hu15, fun _ => (ea_nil ⟨_, rVal, _, rfl, fun _ => (ea_cons (e_int fun _ => (ea_nil ⟨_, _, rfl, ?_⟩)))⟩)⟩))))))
    change NxT _ _ [some (rVal.at v_value), some (rVal.at r3), some (rStr.at t4), some (rVal.at (PyData.tuple [(PyData.str ("names" : Str)), v_value])), some (rInt.at (u15.length : Int)), some (rInt.at (1 : Int))] _ [(Z.T_l_of_right, cTab "_law_of_right.<locals>.<lambda>")]
    replace h := bindE h
    obtain ⟨o18, ho18, h⟩ := h
    refine s_seq (while_sound (fun (b16 : (Int)) => [some (rVal.at v_value), some (rVal.at r3), some (rStr.at t4), some (rVal.at (PyData.tuple [(PyData.str ("names" : Str)), v_value])), some (rInt.at (u15.length : Int)), some (rInt.at b16)]) (fun (b16 : (Int)) => [(Z.T_l_of_right, cTab "_law_of_right.<locals>.<lambda>")]) ho18 (by exact (And.intro rfl (And.intro rfl (And.intro rfl (And.intro rfl (And.intro rfl (And.intro rfl True.intro))))))) rfl ?b19 ?_)
    case b19 =>
      clear h
      intro b16 fl h N hN Bk hBk hz
      change Et _ _ [some (rVal.at v_value), some (rVal.at r3), some (rStr.at t4), some (rVal.at (PyData.tuple [(PyData.str ("names" : Str)), v_value])), some (rInt.at (u15.length : Int)), some (rInt.at b16)] _ [(Z.T_l_of_right, cTab "_law_of_right.<locals>.<lambda>")] _
      replace h := bindE h
      obtain ⟨t17, ht17, h⟩ := h
      refine (t_test (e_opB0 (g := fun i j => decide (i < j)) (e_opO oShl_ok (e_int ⟨_, rfl, (e_var (sl := (rInt.at b16)) rfl ⟨_, _, rfl, ht17, ⟨_, rfl, (e_var (sl := (rInt.at (u15.length : Int))) rfl ⟨_, rfl, ⟨_, rfl, ⟨fun hc => ?_, fun hc => ?_⟩⟩⟩)⟩⟩)⟩))))
      · replace h := condT hc h
        refine (s_set (e_opI0 (g := fun i j => i + j) (e_var (sl := (rInt.at b16)) rfl ⟨_, rfl, (e_int ⟨_, rfl, ?_⟩)⟩)))
        change NxT _ _ [some (rVal.at v_value), some (rVal.at r3), some (rStr.at t4), some (rVal.at (PyData.tuple [(PyData.str ("names" : Str)), v_value])), some (rInt.at (u15.length : Int)), some (rInt.at (b16 + (1 : Int)))] _ [(Z.T_l_of_right, cTab "_law_of_right.<locals>.<lambda>")]
        replace h := pureE h
        subst h
        exact s_weak (by exact (And.intro rfl (And.intro rfl (And.intro rfl (And.intro rfl (And.intro rfl (And.intro rfl True.intro))))))) (.cons₂ _ .slnil) (hN ((b16 + (1 : Int))) rfl)
      · replace h := condF hc h
        replace h := pureE h
        subst h
        exact ⟨rfl, rfl⟩
    intro g20 eg20
    subst eg20
    try dsimp only at h
    change NxT _ _ [some (rVal.at v_value), some (rVal.at r3), some (rStr.at t4), some (rVal.at (PyData.tuple [(PyData.str ("names" : Str)), v_value])), some (rInt.at (u15.length : Int)), some (rInt.at g20)] _ [(Z.T_l_of_right, cTab "_law_of_right.<locals>.<lambda>")]
    replace h := bindE h
    obtain ⟨t21, ht21, h⟩ := h
    replace h := bindE h
    obtain ⟨t22, ht22, h⟩ := h
    refine (s_set (e_tupV (ea_cons (e_asV (d := (PyData.str ("returned" : Str))) (e_str ⟨asV_of vStr _, fun _ => (ea_cons (e_asV (d := (PyData.str t22)) (e_reprW (ea_cons (e_lstV (ea_cons (e_asV (d := (PyData.int g20)) (e_var (sl := (rInt.at g20)) rfl ⟨asV_of vInt _, fun _ => (ea_cons (e_var (sl := (rVal.at v_value)) rfl fun _ => (ea_cons (e_asV (d := ((vTup vInt).d t21)) (e_tupRg (er_1 (e_var (sl := (rInt.at (u15.length : Int))) rfl ⟨_, rfl, ⟨_, ht21, ⟨asV_of (vTup vInt) _, fun _ => (ea_cons (e_tupV (ea_nil ⟨[], .nil, Nat.le_of_ble_eq_true rfl, fun _ => (ea_cons (e_asV (d := (PyData.int (u15.length : Int))) (e_var (sl := (rInt.at (u15.length : Int))) rfl ⟨asV_of vInt _, fun _ => (ea_cons (e_asV (d := (PyData.int (0 : Int))) (e_int ⟨asV_of vInt _, fun _ => (ea_cons (e_lstV (ea_nil ⟨[], .nil, Nat.le_of_ble_eq_true rfl, fun _ => (ea_nil ⟨[(PyData.int g20), v_value, ((vTup vInt).d t21), (PyData.tuple []), (PyData.int (u15.length : Int)), (PyData.int (0 : Int)), (PyData.list [])], (.cons (asV_val _) (.cons (asV_val _) (.cons (asV_val _) (.cons (asV_val _) (.cons (asV_val _) (.cons (asV_val _) (.cons (asV_val _) .nil))))))), Nat.le_of_ble_eq_true rfl, fun _ => (ea_nil ⟨_, _, rfl, ht22, ⟨asV_of vStr _, fun _ => (ea_nil ⟨[(PyData.str ("returned" : Str)), (PyData.str t22)], (.cons (asV_val _) (.cons (asV_val _) .nil)), Nat.le_of_ble_eq_true rfl, ?_⟩)⟩⟩)⟩)⟩)))⟩)))⟩)))⟩)))⟩⟩⟩)))))))⟩))))))))⟩)))))
    change NxT _ _ [some (rVal.at v_value), some (rVal.at r3), some (rStr.at t4), some (rVal.at (PyData.tuple [(PyData.str ("returned" : Str)), (PyData.str t22)])), some (rInt.at (u15.length : Int)), some (rInt.at g20)] _ [(Z.T_l_of_right, cTab "_law_of_right.<locals>.<lambda>")]
    replace h := pureE h
    subst h
    exact s_weak (by exact (And.intro rfl (And.intro rfl (And.intro rfl (And.intro rfl True.intro))))) (.cons₂ _ .slnil) hN
  · clear h
    have h := condF hc hj14
    refine s_next ?_
    replace h := pureE h
    subst h
    exact s_weak (by exact (And.intro rfl (And.intro rfl (And.intro rfl (And.intro rfl True.intro))))) (.cons₂ _ .slnil) hN
  change NxT _ _ [some (rVal.at v_value), some (rVal.at r3), some (rStr.at t4), some (rVal.at j14), none, none] _ [(Z.T_l_of_right, cTab "_law_of_right.<locals>.<lambda>")]
  replace h := bindE h
  obtain ⟨t23, ht23, h⟩ := h
  replace h := bindE h
  obtain ⟨t24, ht24, h⟩ := h
  replace h := bindE h
  obtain ⟨t26, ht26, h⟩ := h
  replace h := pureE h
  subst h
  refine s_ret (e_and (c := (decide (t23 = t24))) (d := t26) (e_eqS (e_reprW (ea_cons (e_var (sl := (rVal.at r3)) rfl fun _ => (ea_nil ⟨_, _, rfl, ht23, ⟨_, rfl, fun _ => (e_reprW (ea_cons (e_var (sl := (rVal.at j14)) rfl fun _ => (ea_nil ⟨_, _, rfl, ht24, ⟨_, rfl, ⟨rfl, ?b27, fun hc => ⟨pureE' (condF hc ht26), rfl⟩⟩⟩⟩))))⟩⟩))))) ?_)
  case b27 =>
    intro hc
    have h := condT hc ht26
    replace h := bindE h
    obtain ⟨t25, ht25, h⟩ := h
    replace h := pureE h
    subst h
    refine (e_eqS (e_reprW (ea_cons (e_var (sl := (rVal.at v_value)) rfl fun _ => (ea_nil ⟨_, _, rfl, ht25, ⟨_, rfl, fun _ => (e_var (sl := (rStr.at t4)) rfl ⟨_, rfl, ⟨rfl, rfl⟩⟩)⟩⟩)))))
  exact Rt.drop hrt (.cons₂ _ .slnil)
def m_law (v_script : (List Int)) : Option Bool :=
  bind (oRange 0 (max (1 : Int) (min (3 : Int) (v_script.length : Int)))) fun t1 =>
  bind (loopO (fun (b3 : Unit) (x2 : Int) => (((bind (m_l_cup v_script x2) fun r4 => (bind (oRange (-(1 : Int)) (11 : Int)) fun t6 => (bind (m_l_odd r4) fun r7 => (bind (oCat (t6.map vInt.d) ([(PyData.bool true), PyData.none, (PyData.str ("3" : Str)), r7.1] : List PyData)) fun t8 => (bind (mapO (fun (x9 : PyData) => (((bind (m_l_made_right x9) fun r11 => pure (some r11))) : Option (Option Bool))) t8) fun t13 => (bif (!(t13.all id)) then (pure (Fl.ret false)) else ((bind (m_l_names_pool) fun r14 => (bind (m_l_shuffled r7.2 r14) fun r15 => (bind (oRange 0 (14 : Int)) fun t16 => (bind (oRep (cutL r15.1 none (some (2 : Int))) (2 : Int)) fun t20 => (bind (oCat ((t16.map fun (x17 : Int) => (cutL r15.1 none (some x17))).map (vTup vTx).d) ([((vTup vTx).d t20), (PyData.list ((cutL r15.1 none (some (3 : Int))).map vTx.d))] : List PyData)) fun t21 => (bind (oCat t21 ([(PyData.str ("abc" : Str)), (PyData.tuple [(PyData.str ("abcdefghi" : Str))])] : List PyData)) fun t22 => (bind (oRange 0 (8 : Int)) fun t23 => (bind (lcO (fun (k25 : Cup) (x24 : Int) => (((bind (m_l_dip k25 (12 : Int)) fun r28 => (bind ((m_l_bent 6) r28.2 ((vTup vTx).d (cutL r15.1 none (some ((1 : Int) + r28.1)))) (2 : Int)) fun r29 => pure (some r29.1, r29.2)))) : Option (Option PyData × Cup))) t23 r15.2) fun t31 => (bind (oCat t22 t31.1) fun t32 => (bind (m_l_odd t31.2) fun r33 => (bind (oCat t32 ([r33.1] : List PyData)) fun t34 => (bind (mapO (fun (x35 : PyData) => (((bind (m_l_of_right x35) fun r37 => pure (some r37))) : Option (Option Bool))) t34) fun t39 => (bif (!(t39.all id)) then (pure (Fl.ret false)) else ((bind (m_Roster_of () ((vTup vTx).d (cutL r15.1 none (some (5 : Int))))) fun r40 => (bind (m_Roster_of () ((vTup vTx).d (cutL r15.1 none (some (5 : Int))))) fun r41 => (bind (m_Roster_eq r40 r41) fun r42 => (bind (((bif (!r42) then (pure true) else ((bind (m_Roster_init (PyData.int (3 : Int))) fun r43 => (bind (m_Roster_init (PyData.int (3 : Int))) fun r44 => (bind (m_Roster_eq r43 r44) fun r45 => (bind (((bif (!r45) then (pure true) else ((bind (m_l_shown r40) fun r46 => (bind (m_l_shown r41) fun r47 => pure (!(decide (r46 = r47))))))) : Option Bool)) fun t48 => pure t48)))))) : Option Bool)) fun t50 => (bif t50 then (pure (Fl.ret false)) else (pure (Fl.go ()))))))))))))))))))))))))))))) : Option (Fl Bool Unit))) t1 ()) fun o52 =>
  (match o52 with | .ret z => (pure z) | .go g54 => (pure (decide ((12 : Int) = (12 : Int)))))
abbrev sp_law (K : PySem.W.Frag) (Z : Ads) : Sp := spM (ι := (List Int)) (β := Bool) (fun i => [(rScr K).at i]) (fun i => [(Z.T_l_made_right, cTab "_law_made_right.<locals>.<lambda>"), (Z.T_l_of_right, cTab "_law_of_right.<locals>.<lambda>")]) (fun i => m_law i) (fun i b => rBool.at b) (fun i b => [(Z.T_l_made_right, cTab "_law_made_right.<locals>.<lambda>"), (Z.T_l_of_right, cTab "_law_of_right.<locals>.<lambda>")])
abbrev N_law : List Str := ["_law_script", "_law_k", "_law_cup_here", "_law_pool", "_law_some", "_law_one_here", "_law_other", "_law_value", "_law_count", "_law_turn"]
theorem sc_law : FnScope N_law ["_law_script"] (defScope s_law) := ⟨rfl, rfl, rfl, by decide +kernel, rfl, by decide +kernel, by decide +kernel⟩
theorem ok_law {P : Program} {w : World} {K : PySem.W.Frag} {Z : Ads} {mg : Str → Option Value} {base : Heap} (X : Tx K mg Z) (G_Roster_eq : FnG P w K mg base CX0 1 X.f_Roster_eq X.d_Roster_eq ["self", "other"] (sp_Roster_eq K Z)) (G_Roster_init : FnG P w K mg base CX0 2 X.f_Roster_init X.d_Roster_init ["self", "bits"] (sp_Roster_init K Z)) (G_Roster_of : FnG P w K mg base CX0 4 X.f_Roster_of X.d_Roster_of ["cls", "names"] (sp_Roster_of K Z)) (G_l_bent : FnG P w K mg base CX0 10 X.f_l_bent X.d_l_bent ["_law_cup_here", "_law_thing", "_law_deep"] (sp_l_bent K Z 6)) (G_l_cup : FnG P w K mg base CX0 1 X.f_l_cup X.d_l_cup ["_law_script", "_law_k"] (sp_l_cup K Z)) (G_l_dip : FnG P w K mg base CX0 1 X.f_l_dip X.d_l_dip ["_law_cup_here", "_law_many"] (sp_l_dip K Z)) (G_l_made_right : FnG P w K mg base CX0 13 X.f_l_made_right X.d_l_made_right ["_law_value"] (sp_l_made_right K Z)) (G_l_names_pool : FnG P w K mg base CX0 1 X.f_l_names_pool X.d_l_names_pool [] (sp_l_names_pool K Z)) (G_l_odd : FnG P w K mg base CX0 3 X.f_l_odd X.d_l_odd ["_law_cup_here"] (sp_l_odd K Z)) (G_l_of_right : FnG P w K mg base CX0 13 X.f_l_of_right X.d_l_of_right ["_law_value"] (sp_l_of_right K Z)) (G_l_shown : FnG P w K mg base CX0 8 X.f_l_shown X.d_l_shown ["_law_roster"] (sp_l_shown K Z)) (G_l_shuffled : FnG P w K mg base CX0 2 X.f_l_shuffled X.d_l_shuffled ["_law_cup_here", "_law_some"] (sp_l_shuffled K Z)) : FnG P w K mg base CX0 14 X.f_law X.d_law ["_law_script"] (sp_law K Z) := by
  refine okG X.F_law sc_law (fun vs H Q E h => spM_len h fun _ => rfl) (fun cdv A outer s H vs Q E hr h => ?_)
  refine ⟨(tSeq (tFor (iRng1 (tCons (tCB rdMax2 (tCons (tC (.int 1)) (tCons (tCB rdMin2 (tCons (tC (.int 3)) (tCons (tCB (rdLen K) (tCons (tVar 0) tNil)) tNil))) tNil))) tNil)) (gName 1) (tSeq (tAsg (tCall (sp_l_cup K Z) [] E0 (tCons (tVar 0) (tCons (tVar 1) tNil))) (gName 2)) (tSeq (tIfS (tNot (tB (tCB (rAll K) (tCons (tLc (iList K (tOp rCat (tLstRg (tRg2 (tUn rdNeg (tC (.int 1))) (tC (.int 11)))) (tLst (tCons (tC (.bl true)) (tCons (tC .non) (tCons (tC (.str ("3" : Str))) (tCons (tCall (sp_l_odd K Z) [] E0 (tCons (tVar 2) tNil)) tNil))))))) (gName 7) tYes (tCall (sp_l_made_right K Z) [] E0 (tCons (tVar 7) tNil)) [7]) tNil)))) (tRet (tC (.bl false))) tNext) (tSeq (tAsg (tCall (sp_l_shuffled K Z) [] E0 (tCons (tVar 2) (tCons (tCall (sp_l_names_pool K Z) [] E0 tNil) tNil))) (gName 3)) (tSeq (tAsg (tOp rCat (tLc (iRng1 (tCons (tC (.int 14)) tNil)) (gName 8) tYes (tCB (rdTupleOf K) (tCons (tSl (rSlL K) (tVar 3) tNoPart (tPart (tVar 8))) tNil)) [8]) (tLst (tCons (tCB (rdTupleOf K) (tCons (tOp rRep (tSl (rSlL K) (tVar 3) tNoPart (tPart (tC (.int 2)))) (tC (.int 2))) tNil)) (tCons (tCB (rListFarL K) (tCons (tSl (rSlL K) (tVar 3) tNoPart (tPart (tC (.int 3)))) tNil)) tNil)))) (gName 4)) (tSeq (tAsg (tOp rCat (tVar 4) (tLst (tCons (tC (.str ("abc" : Str))) (tCons (tTup (tCons (tC (.str ("abcdefghi" : Str))) tNil)) tNil)))) (gName 4)) (tSeq (tAsg (tOp rCat (tOp rCat (tVar 4) (tLc (iRng1 (tCons (tC (.int 8)) tNil)) (gName 9) tYes (tCall (sp_l_bent K Z 6) [] E0 (tCons (tVar 2) (tCons (tCB (rdTupleOf K) (tCons (tSl (rSlL K) (tVar 3) tNoPart (tPart (tOp rdAdd (tC (.int 1)) (tCall (sp_l_dip K Z) [] E0 (tCons (tVar 2) (tCons (tC (.int 12)) tNil)))))) tNil)) (tCons (tC (.int 2)) tNil)))) [9])) (tLst (tCons (tCall (sp_l_odd K Z) [] E0 (tCons (tVar 2) tNil)) tNil))) (gName 4)) (tSeq (tIfS (tNot (tB (tCB (rAll K) (tCons (tLc (iList K (tVar 4)) (gName 7) tYes (tCall (sp_l_of_right K Z) [] E0 (tCons (tVar 7) tNil)) [7]) tNil)))) (tRet (tC (.bl false))) tNext) (tSeq (tPar 5 6 (tCons (ClX.tCMeth Z.C_Roster (sp_Roster_of K Z) E0 (tC (.ref Z.C_Roster)) (tNames [0] 1 (tCons (tCB (rdTupleOf K) (tCons (tSl (rSlL K) (tVar 3) tNoPart (tPart (tC (.int 5)))) tNil)) tNil))) (tCons (ClX.tCMeth Z.C_Roster (sp_Roster_of K Z) E0 (tC (.ref Z.C_Roster)) (tCons (tCB (rdTupleOf K) (tCons (tSl (rSlL K) (tVar 3) tNoPart (tPart (tC (.int 5)))) tNil)) tNil)) tNil))) (tIfS (tOr (tTest (tOp (rNeOb Z.C_Roster (sp_Roster_eq K Z) [] E0) (tVar 5) (tVar 6))) (tOr (tTest (tOp (rNeOb Z.C_Roster (sp_Roster_eq K Z) [] E0) (tMake Z.C_Roster (sp_Roster_init K Z) [] E0 (tNames [0] 1 (tCons (tC (.int 3)) tNil))) (tMake Z.C_Roster (sp_Roster_init K Z) [] E0 (tCons (tC (.int 3)) tNil)))) (tTest (tOp rNe (tCall (sp_l_shown K Z) [] E0 (tCons (tVar 5) tNil)) (tCall (sp_l_shown K Z) [] E0 (tCons (tVar 6) tNil)))))) (tRet (tC (.bl false))) tNext)))))))))) (tRet (tOp rEq (ClX.tCVal K (tC (.ref Z.C_Roster)) "MOST") (tC (.int 12))))), (pss_cons (ps_for PassesOwn.never rfl (pi_range1 (by rfl) X.z_range (pa_cons (pe_callB (call_max2 rfl) (by rfl) X.z_max bt_max (pa_cons pe_int (pa_cons (pe_callB (call_min2 rfl) (by rfl) X.z_min bt_min (pa_cons pe_int (pa_cons (pe_callB call_len_seq (by rfl) X.z_len bt_len (pa_cons (pv 0) pa_nil)) pa_nil))) pa_nil))) pa_nil)) (pg_name (i := 1) sc_law.nd rfl (Or.inl rfl)) (pss_cons (ps_set (i := 2) sc_law.nd rfl (Or.inr rfl) (pe_callG (G_l_cup) (hr.mono (by decide)) (by rfl) X.g_l_cup X.F_l_cup.kp X.b_l_cup .nil pass0 (pa_cons (pv 0) (pa_cons (pv 1) pa_nil)))) (pss_cons (ps_if (pt_not (pt_val (pe_callB (cr_all rfl) (by rfl) X.z_all bt_all (pa_cons (pe_lc (own := [("_law_value", 7)]) (g := (gName 7)) (tt := tYes) (te := (tCall (sp_l_made_right K Z) [] E0 (tCons (tVar 7) tNil))) rfl sc_law.nd (pi_list (pe_op op_cat (pe_listRg rfl (by rfl) X.z_list (prg_2 (by rfl) X.z_range (pe_un un_neg pe_int) pe_int)) (pe_lst (pa_cons pe_bl (pa_cons pe_non (pa_cons pe_str (pa_cons (pe_callG (G_l_odd) (hr.mono (by decide)) (by rfl) X.g_l_odd X.F_l_odd.kp X.b_l_odd .nil pass0 (pa_cons (pv 2) pa_nil)) pa_nil))))))) (blkOk_by (N := N_law) (sc := (defScope s_law)) (by decide +kernel)) (fun _ _ _ _ _ => (pg_name (i := 7) sc_law.nd rfl (Or.inl rfl))) (fun _ _ _ _ _ => pts_nil) (fun _ _ _ _ _ => (pe_callG (G_l_made_right) (hr.mono (by decide)) (by rfl) X.g_l_made_right X.F_l_made_right.kp X.b_l_made_right .nil pass0 (pa_cons (pv 7) pa_nil)))) pa_nil)))) (pss_one (ps_ret pe_bl)) pss_nil) (pss_cons (ps_set (i := 3) sc_law.nd rfl (Or.inr rfl) (pe_callG (G_l_shuffled) (hr.mono (by decide)) (by rfl) X.g_l_shuffled X.F_l_shuffled.kp X.b_l_shuffled .nil pass0 (pa_cons (pv 2) (pa_cons (pe_callG0 (G_l_names_pool) (hr.mono (by decide)) (by rfl) X.g_l_names_pool X.F_l_names_pool.kp X.b_l_names_pool .nil pass0) pa_nil)))) (pss_cons (ps_set (i := 4) sc_law.nd rfl (Or.inl rfl) (pe_op op_cat (pe_lc (own := [("_law_count", 8)]) (g := (gName 8)) (tt := tYes) (te := (tCB (rdTupleOf K) (tCons (tSl (rSlL K) (tVar 3) tNoPart (tPart (tVar 8))) tNil))) rfl sc_law.nd (pi_range1 (by rfl) X.z_range (pa_cons pe_int pa_nil)) (blkOk_by (N := N_law) (sc := (defScope s_law)) (by decide +kernel)) (fun _ _ _ _ _ => (pg_name (i := 8) sc_law.nd rfl (Or.inl rfl))) (fun _ _ _ _ _ => pts_nil) (fun _ _ _ _ _ => (pe_callTy call_tuple_of (by rfl) X.z_tuple bt_tuple (pa_cons (pe_slice sl_list (pv 3) po_none (po_some (pv 8))) pa_nil)))) (pe_lst (pa_cons (pe_callTy call_tuple_of (by rfl) X.z_tuple bt_tuple (pa_cons (pe_op op_rep (pe_slice sl_list (pv 3) po_none (po_some pe_int)) pe_int) pa_nil)) (pa_cons (pe_callTy call_list_farL (by rfl) X.z_list bt_list (pa_cons (pe_slice sl_list (pv 3) po_none (po_some pe_int)) pa_nil)) pa_nil))))) (pss_cons (ps_set (i := 4) sc_law.nd rfl (Or.inl rfl) (pe_op op_cat (pv 4) (pe_lst (pa_cons pe_str (pa_cons (pe_tup (pa_cons pe_str pa_nil)) pa_nil))))) (pss_cons (ps_set (i := 4) sc_law.nd rfl (Or.inl rfl) (pe_op op_cat (pe_op op_cat (pv 4) (pe_lc (own := [("_law_turn", 9)]) (g := (gName 9)) (tt := tYes) (te := (tCall (sp_l_bent K Z 6) [] E0 (tCons (tVar 2) (tCons (tCB (rdTupleOf K) (tCons (tSl (rSlL K) (tVar 3) tNoPart (tPart (tOp rdAdd (tC (.int 1)) (tCall (sp_l_dip K Z) [] E0 (tCons (tVar 2) (tCons (tC (.int 12)) tNil)))))) tNil)) (tCons (tC (.int 2)) tNil))))) rfl sc_law.nd (pi_range1 (by rfl) X.z_range (pa_cons pe_int pa_nil)) (blkOk_by (N := N_law) (sc := (defScope s_law)) (by decide +kernel)) (fun _ _ _ _ _ => (pg_name (i := 9) sc_law.nd rfl (Or.inl rfl))) (fun _ _ _ _ _ => pts_nil) (fun _ _ _ _ _ => (pe_callG (G_l_bent) (hr.mono (by decide)) (by rfl) X.g_l_bent X.F_l_bent.kp X.b_l_bent .nil pass0 (pa_cons (pv 2) (pa_cons (pe_callTy call_tuple_of (by rfl) X.z_tuple bt_tuple (pa_cons (pe_slice sl_list (pv 3) po_none (po_some (pe_op op_add pe_int (pe_callG (G_l_dip) (hr.mono (by decide)) (by rfl) X.g_l_dip X.F_l_dip.kp X.b_l_dip .nil pass0 (pa_cons (pv 2) (pa_cons pe_int pa_nil)))))) pa_nil)) (pa_cons pe_int pa_nil))))))) (pe_lst (pa_cons (pe_callG (G_l_odd) (hr.mono (by decide)) (by rfl) X.g_l_odd X.F_l_odd.kp X.b_l_odd .nil pass0 (pa_cons (pv 2) pa_nil)) pa_nil)))) (pss_cons (ps_if (pt_not (pt_val (pe_callB (cr_all rfl) (by rfl) X.z_all bt_all (pa_cons (pe_lc (own := [("_law_value", 7)]) (g := (gName 7)) (tt := tYes) (te := (tCall (sp_l_of_right K Z) [] E0 (tCons (tVar 7) tNil))) rfl sc_law.nd (pi_list (pv 4)) (blkOk_by (N := N_law) (sc := (defScope s_law)) (by decide +kernel)) (fun _ _ _ _ _ => (pg_name (i := 7) sc_law.nd rfl (Or.inl rfl))) (fun _ _ _ _ _ => pts_nil) (fun _ _ _ _ _ => (pe_callG (G_l_of_right) (hr.mono (by decide)) (by rfl) X.g_l_of_right X.F_l_of_right.kp X.b_l_of_right .nil pass0 (pa_cons (pv 7) pa_nil)))) pa_nil)))) (pss_one (ps_ret pe_bl)) pss_nil) (pss_cons (ps_par rfl sc_law.nd rfl rfl (by decide) rfl rfl (pa_cons (pe_cmethGN (by exact pe_glob rfl X.gc_Roster rfl) X.cr_Roster X.cm_Roster_of G_Roster_of (hr.mono (by decide)) X.w0_Roster_of pass0 (pk_cons (pe_callTy call_tuple_of (by rfl) X.z_tuple bt_tuple (pa_cons (pe_slice sl_list (pv 3) po_none (po_some pe_int)) pa_nil)) pk_nil)) (pa_cons (pe_cmethG (by exact pe_glob rfl X.gc_Roster rfl) X.cr_Roster X.cm_Roster_of G_Roster_of (hr.mono (by decide)) X.b_Roster_of pass0 (pa_cons (pe_callTy call_tuple_of (by rfl) X.z_tuple bt_tuple (pa_cons (pe_slice sl_list (pv 3) po_none (po_some pe_int)) pa_nil)) pa_nil)) pa_nil)) (by rfl)) (pss_one (ps_if (PW.pt (pw_or (pt_cmpR (op_neG X.dm_Roster_eq X.ne_Roster G_Roster_eq (hr.mono (by decide)) X.b_Roster_eq .nil pass0) (pv 5) (pv 6) (nomark _)) (pw_or (pt_cmpR (op_neG X.dm_Roster_eq X.ne_Roster G_Roster_eq (hr.mono (by decide)) X.b_Roster_eq .nil pass0) (pe_makeGN X.mk_Roster G_Roster_init (hr.mono (by decide)) (by rfl) X.gc_Roster X.w1_Roster_init pass0 (pk_cons pe_int pk_nil)) (pe_makeG X.mk_Roster G_Roster_init (hr.mono (by decide)) (by rfl) X.gc_Roster X.b_Roster_init .nil pass0 (pa_cons pe_int pa_nil)) (nomark _)) (pw_or1 (pt_cmpR op_ne (pe_callG (G_l_shown) (hr.mono (by decide)) (by rfl) X.g_l_shown X.F_l_shown.kp X.b_l_shown .nil pass0 (pa_cons (pv 5) pa_nil)) (pe_callG (G_l_shown) (hr.mono (by decide)) (by rfl) X.g_l_shown X.F_l_shown.kp X.b_l_shown .nil pass0 (pa_cons (pv 6) pa_nil)) (nomark _)))))) (pss_one (ps_ret pe_bl)) pss_nil))))))))))) (pss_one (ps_ret (pe_cmpR op_eq (ClX.pe_cval (by exact pe_glob rfl X.gc_Roster rfl)) pe_int (nomark _))))), ?_⟩
  obtain ⟨v_script, r, W, h, hcore, har, hrt⟩ := h
  refine body hcore har (Nat.le_of_ble_eq_true rfl) ?_
  clear hcore har
  change m_law v_script = some r at h
  unfold m_law at h
  change NxT _ _ [some ((rScr K).at v_script), none, none, none, none, none, none, none, none, none] _ [(Z.T_l_made_right, cTab "_law_made_right.<locals>.<lambda>"), (Z.T_l_of_right, cTab "_law_of_right.<locals>.<lambda>")]
  replace h := bindE h
  obtain ⟨t1, ht1, h⟩ := h
  replace h := bindE h
  obtain ⟨o52, ho52, h⟩ := h
  refine s_seq (for_sound (is := [1]) (i_range1 (ea_cons (e_max2 (ea_cons (e_int fun _ => (ea_cons (e_min2 (ea_cons (e_int fun _ => (ea_cons (e_lenS (ea_cons (e_var (sl := ((rScr K).at v_script)) rfl fun _ => (ea_nil ⟨_, rfl, fun _ => (ea_nil ⟨_, _, rfl, fun _ => (ea_nil ⟨_, _, rfl, fun _ => (ea_nil ⟨_, _, rfl, ht1, ⟨_, _, _, rInt, t1, (), _, o52, fun (b3 : Unit) => [some ((rScr K).at v_script), none, none, none, none, none, none, none, none, none], fun (b3 : Unit) => [(Z.T_l_made_right, cTab "_law_made_right.<locals>.<lambda>"), (Z.T_l_of_right, cTab "_law_of_right.<locals>.<lambda>")], rfl, ho52, (by exact (And.intro rfl True.intro)), rfl, ?b53, ?_⟩⟩)⟩)⟩)⟩)))))))))))))))
  case b53 =>
    have hR : ∀ z, o52 = .ret z → Rt Q W ((fun z => rBool.at z) z) ((fun z => [(Z.T_l_made_right, cTab "_law_made_right.<locals>.<lambda>"), (Z.T_l_of_right, cTab "_law_of_right.<locals>.<lambda>")]) z) := fun z ez => by subst ez; have h := pureE h; subst h; exact hrt
    clear h
    intro T1 b3 x2 fl h N Bk hN hBk hz
    refine g_name ?_
    change NxT _ _ [some ((rScr K).at v_script), some (rInt.at x2), none, none, none, none, none, none, none, none] _ [(Z.T_l_made_right, cTab "_law_made_right.<locals>.<lambda>"), (Z.T_l_of_right, cTab "_law_of_right.<locals>.<lambda>")]
    replace h := bindE h
    obtain ⟨r4, hr4, h⟩ := h
    refine s_seq (s_set (e_callC (ea_cons (e_var (sl := ((rScr K).at v_script)) rfl fun _ => (ea_cons (e_var (sl := (rInt.at x2)) rfl fun _ => (ea_nil ⟨(v_script, x2), r4, [(Z.T_l_made_right, cTab "_law_made_right.<locals>.<lambda>"), (Z.T_l_of_right, cTab "_law_of_right.<locals>.<lambda>")], hr4, rfl, rfl, fun p5 => ?_⟩)))))))
    change NxT _ _ [some ((rScr K).at v_script), some (rInt.at x2), some (sRef p5), none, none, none, none, none, none, none] _ [(p5, cCup r4), (Z.T_l_made_right, cTab "_law_made_right.<locals>.<lambda>"), (Z.T_l_of_right, cTab "_law_of_right.<locals>.<lambda>")]
    replace h := bindE h
    obtain ⟨t6, ht6, h⟩ := h
    replace h := bindE h
    obtain ⟨r7, hr7, h⟩ := h
    replace h := bindE h
    obtain ⟨t8, ht8, h⟩ := h
    replace h := bindE h
    obtain ⟨t13, ht13, h⟩ := h
    refine s_seq (s_if (t_not (t_val (e_all (ea_cons (lc_sound (is := [7]) (by decide) (i_lst (e_catL (e_cnv (sl' := (rLst rVal).at (t6.map vInt.d)) (e_listRg (er_2 (e_un (g := fun i => -i) (e_int ⟨_, rfl, ⟨_, rfl, (e_int ⟨_, rfl, ⟨_, ht6, ⟨rfl, cnv_lstV vInt, fun _ => (e_lst (ea_cons (e_asV (d := (PyData.bool true)) (e_bl ⟨asV_of vBool _, fun _ => (ea_cons (e_asV (d := PyData.none) (e_non ⟨asV_of vNon _, fun _ => (ea_cons (e_asV (d := (PyData.str ("3" : Str))) (e_str ⟨asV_of vStr _, fun _ => (ea_cons (e_call (ea_cons (e_var (sl := (sRef p5)) rfl fun _ => (ea_nil ⟨(p5, r4), r7, [(Z.T_l_made_right, cTab "_law_made_right.<locals>.<lambda>"), (Z.T_l_of_right, cTab "_law_of_right.<locals>.<lambda>")], hr7, rfl, rfl, fun _ => (ea_nil ⟨_, rVal, ([(PyData.bool true), PyData.none, (PyData.str ("3" : Str)), r7.1] : List PyData), rfl, Nat.le_of_ble_eq_true rfl, ⟨_, _, _, _, _, rfl, rfl, ht8, ⟨_, rVal, _, rfl, ⟨_, _, _, rVal, t8, (), _, t13, (), rBool, fun _ => [(p5, cCup r7.2), (Z.T_l_made_right, cTab "_law_made_right.<locals>.<lambda>"), (Z.T_l_of_right, cTab "_law_of_right.<locals>.<lambda>")], rfl, lcO_mapO _ _ _ ht13, rfl, ?b12, fun _ => (ea_nil ⟨_, rfl, ⟨_, rfl, ⟨fun hc => ?_, fun hc => ?_⟩⟩⟩)⟩⟩⟩⟩)⟩)))))⟩)))⟩)))⟩))))⟩⟩⟩)⟩⟩)))))))))))))
    case b12 =>
      intro W1 T1 k10 x9 o u1 h
      obtain ⟨h, _⟩ := mapU h
      refine g_name ?_
      replace h := bindE h
      obtain ⟨r11, hr11, h⟩ := h
      replace h := pureE h
      subst h
      refine t_yes ⟨fun _ => ?_, fun z => nomatch z⟩
      refine (ev_perm (List.Perm.refl _) (e_call (ea_perm (ea_cons (e_var (sl := (rVal.at x9)) rfl fun _ => (ea_nil ⟨_, List.Perm.swap _ _ _, x9, r11, [(p5, cCup r7.2), (Z.T_l_of_right, cTab "_law_of_right.<locals>.<lambda>")], hr11, rfl, rfl, _, List.Perm.swap _ _ _, ⟨_, rfl, rfl, rfl⟩⟩))))))
    · replace h := condT hc h
      replace h := pureE h
      subst h
      refine s_ret (e_bl ?_)
      exact Rt.drop (hR _ (hz _ rfl)) (.cons _ (.cons₂ _ (.cons₂ _ .slnil)))
    · replace h := condF hc h
      refine s_next ?_
      replace h := bindE h
      obtain ⟨r14, hr14, h⟩ := h
      replace h := bindE h
      obtain ⟨r15, hr15, h⟩ := h
      refine s_seq (s_set (e_call (ea_cons (e_var (sl := (sRef p5)) rfl fun _ => (ea_cons (e_call (ea_nil ⟨(), r14, [(p5, cCup r7.2), (Z.T_l_made_right, cTab "_law_made_right.<locals>.<lambda>"), (Z.T_l_of_right, cTab "_law_of_right.<locals>.<lambda>")], hr14, rfl, rfl, fun _ => (ea_nil ⟨(p5, r7.2, r14), r15, [(Z.T_l_made_right, cTab "_law_made_right.<locals>.<lambda>"), (Z.T_l_of_right, cTab "_law_of_right.<locals>.<lambda>")], hr15, rfl, rfl, ?_⟩)⟩)))))))
      change NxT _ _ [some ((rScr K).at v_script), some (rInt.at x2), some (sRef p5), some ((rLst rTx).at r15.1), none, none, none, none, none, none] _ [(p5, cCup r15.2), (Z.T_l_made_right, cTab "_law_made_right.<locals>.<lambda>"), (Z.T_l_of_right, cTab "_law_of_right.<locals>.<lambda>")]
      replace h := bindE h
      obtain ⟨t16, ht16, h⟩ := h
      replace h := bindE h
      obtain ⟨t20, ht20, h⟩ := h
      replace h := bindE h
      obtain ⟨t21, ht21, h⟩ := h
      refine s_seq (s_set (e_catL (e_cnv (sl' := (rLst rVal).at ((t16.map fun (x17 : Int) => (cutL r15.1 none (some x17))).map (vTup vTx).d)) (lc_sound (is := [8]) (by decide) (i_range1 (ea_cons (e_int fun _ => (ea_nil ⟨_, _, rfl, ht16, ⟨_, _, _, rInt, t16, (), fun (u : Unit) (x17 : Int) => some (some (cutL r15.1 none (some x17)), u), (t16.map fun (x17 : Int) => (cutL r15.1 none (some x17))), (), (rTup rTx), fun _ => [(p5, cCup r15.2), (Z.T_l_made_right, cTab "_law_made_right.<locals>.<lambda>"), (Z.T_l_of_right, cTab "_law_of_right.<locals>.<lambda>")], rfl, lcO_map _ _, rfl, ?b19, ⟨rfl, cnv_lstV (vTup vTx), fun _ => (e_lst (ea_cons (e_asV (d := ((vTup vTx).d t20)) (e_tupL (ea_cons (e_repL (e_slL (e_var (sl := ((rLst rTx).at r15.1)) rfl fun _ => (eo_none (eo_some (e_int ⟨_, rfl, ⟨_, rTx, _, rfl, fun _ => (e_int ⟨_, _, _, _, _, rfl, rfl, ht20, fun _ => (ea_nil ⟨_, rTx, _, rfl, ⟨asV_of (vTup vTx) _, fun _ => (ea_cons (e_listFarL (ea_cons (e_cnv (sl' := (rLst rVal).at ((cutL r15.1 none (some (3 : Int))).map vTx.d)) (e_slL (e_var (sl := ((rLst rTx).at r15.1)) rfl fun _ => (eo_none (eo_some (e_int ⟨_, rfl, ⟨_, rTx, _, rfl, ⟨rfl, cnv_lstV vTx, fun _ => (ea_nil ⟨_, rfl, fun _ => (ea_nil ⟨_, rVal, ([((vTup vTx).d t20), (PyData.list ((cutL r15.1 none (some (3 : Int))).map vTx.d))] : List PyData), rfl, Nat.le_of_ble_eq_true rfl, ⟨_, _, _, _, _, rfl, rfl, ht21, ?_⟩⟩)⟩)⟩⟩⟩)))))))))⟩⟩)⟩)⟩⟩)))))))))))⟩⟩⟩))))))))
      case b19 =>
        intro W1 T1 k18 x17 o u1 h
        refine g_name ?_
        cases h
        refine t_yes ⟨fun _ => ?_, fun z => nomatch z⟩
        refine (e_tupL (ea_cons (e_slL (e_var (sl := ((rLst rTx).at r15.1)) rfl fun _ => (eo_none (eo_some (e_var (sl := (rInt.at x17)) rfl ⟨_, rfl, ⟨_, rTx, _, rfl, fun _ => (ea_nil ⟨_, rTx, _, rfl, ⟨_, rfl, rfl, rfl⟩⟩)⟩⟩)))))))
      change NxT _ _ [some ((rScr K).at v_script), some (rInt.at x2), some (sRef p5), some ((rLst rTx).at r15.1), some ((rLst rVal).at t21), none, none, none, none, none] _ [(p5, cCup r15.2), (Z.T_l_made_right, cTab "_law_made_right.<locals>.<lambda>"), (Z.T_l_of_right, cTab "_law_of_right.<locals>.<lambda>")]
      replace h := bindE h
      obtain ⟨t22, ht22, h⟩ := h
      refine s_seq (s_set (e_catL (e_var (sl := ((rLst rVal).at t21)) rfl fun _ => (e_lst (ea_cons (e_asV (d := (PyData.str ("abc" : Str))) (e_str ⟨asV_of vStr _, fun _ => (ea_cons (e_tupV (ea_cons (e_asV (d := (PyData.str ("abcdefghi" : Str))) (e_str ⟨asV_of vStr _, fun _ => (ea_nil ⟨[(PyData.str ("abcdefghi" : Str))], (.cons (asV_val _) .nil), Nat.le_of_ble_eq_true rfl, fun _ => (ea_nil ⟨_, rVal, ([(PyData.str ("abc" : Str)), (PyData.tuple [(PyData.str ("abcdefghi" : Str))])] : List PyData), rfl, Nat.le_of_ble_eq_true rfl, ⟨_, _, _, _, _, rfl, rfl, ht22, ?_⟩⟩)⟩)⟩)))))⟩)))))))
      change NxT _ _ [some ((rScr K).at v_script), some (rInt.at x2), some (sRef p5), some ((rLst rTx).at r15.1), some ((rLst rVal).at t22), none, none, none, none, none] _ [(p5, cCup r15.2), (Z.T_l_made_right, cTab "_law_made_right.<locals>.<lambda>"), (Z.T_l_of_right, cTab "_law_of_right.<locals>.<lambda>")]
      replace h := bindE h
      obtain ⟨t23, ht23, h⟩ := h
      replace h := bindE h
      obtain ⟨t31, ht31, h⟩ := h
      replace h := bindE h
      obtain ⟨t32, ht32, h⟩ := h
      replace h := bindE h
      obtain ⟨r33, hr33, h⟩ := h
      replace h := bindE h
      obtain ⟨t34, ht34, h⟩ := h
      refine s_seq (s_set (e_catL (e_catL (e_var (sl := ((rLst rVal).at t22)) rfl fun _ => (lc_sound (is := [9]) (by decide) (i_range1 (ea_cons (e_int fun _ => (ea_nil ⟨_, _, rfl, ht23, ⟨_, _, _, rInt, t23, r15.2, _, t31.1, t31.2, rVal, fun k => [(p5, cCup k), (Z.T_l_made_right, cTab "_law_made_right.<locals>.<lambda>"), (Z.T_l_of_right, cTab "_law_of_right.<locals>.<lambda>")], rfl, ht31, rfl, ?b30, ⟨_, _, _, _, _, rfl, rfl, ht32, fun _ => (e_lst (ea_cons (e_call (ea_cons (e_var (sl := (sRef p5)) rfl fun _ => (ea_nil ⟨(p5, t31.2), r33, [(Z.T_l_made_right, cTab "_law_made_right.<locals>.<lambda>"), (Z.T_l_of_right, cTab "_law_of_right.<locals>.<lambda>")], hr33, rfl, rfl, fun _ => (ea_nil ⟨_, rVal, ([r33.1] : List PyData), rfl, Nat.le_of_ble_eq_true rfl, ⟨_, _, _, _, _, rfl, rfl, ht34, ?_⟩⟩)⟩))))))⟩⟩⟩)))))))))
      case b30 =>
        intro W1 T1 k25 x24 o u1 h
        refine g_name ?_
        replace h := bindE h
        obtain ⟨r28, hr28, h⟩ := h
        replace h := bindE h
        obtain ⟨r29, hr29, h⟩ := h
        replace h := pureE h
        cases h
        refine t_yes ⟨fun _ => ?_, fun z => nomatch z⟩
        refine (e_call (ea_cons (e_var (sl := (sRef p5)) rfl fun _ => (ea_cons (e_asV (d := ((vTup vTx).d (cutL r15.1 none (some ((1 : Int) + r28.1))))) (e_tupL (ea_cons (e_slL (e_var (sl := ((rLst rTx).at r15.1)) rfl fun _ => (eo_none (eo_some (e_opI0 (g := fun i j => i + j) (e_int ⟨_, rfl, (e_call (ea_cons (e_var (sl := (sRef p5)) rfl fun _ => (ea_cons (e_int fun _ => (ea_nil ⟨(p5, k25, (12 : Int)), r28, [(Z.T_l_made_right, cTab "_law_made_right.<locals>.<lambda>"), (Z.T_l_of_right, cTab "_law_of_right.<locals>.<lambda>")], hr28, rfl, rfl, ⟨_, rfl, ⟨_, rfl, ⟨_, rTx, _, rfl, fun _ => (ea_nil ⟨_, rTx, _, rfl, ⟨asV_of (vTup vTx) _, fun _ => (ea_cons (e_int fun _ => (ea_nil ⟨(p5, r28.2, ((vTup vTx).d (cutL r15.1 none (some ((1 : Int) + r28.1)))), (2 : Int)), r29, [(Z.T_l_made_right, cTab "_law_made_right.<locals>.<lambda>"), (Z.T_l_of_right, cTab "_law_of_right.<locals>.<lambda>")], hr29, rfl, rfl, ⟨_, rfl, rfl, rfl⟩⟩)))⟩⟩)⟩⟩⟩⟩))))))⟩)))))))))))))
      change NxT _ _ [some ((rScr K).at v_script), some (rInt.at x2), some (sRef p5), some ((rLst rTx).at r15.1), some ((rLst rVal).at t34), none, none, none, none, none] _ [(p5, cCup r33.2), (Z.T_l_made_right, cTab "_law_made_right.<locals>.<lambda>"), (Z.T_l_of_right, cTab "_law_of_right.<locals>.<lambda>")]
      replace h := bindE h
      obtain ⟨t39, ht39, h⟩ := h
      refine s_seq (s_if (t_not (t_val (e_all (ea_cons (lc_sound (is := [7]) (by decide) (i_lst (e_var (sl := ((rLst rVal).at t34)) rfl ⟨_, rVal, _, rfl, ⟨_, _, _, rVal, t34, (), _, t39, (), rBool, fun _ => [(p5, cCup r33.2), (Z.T_l_made_right, cTab "_law_made_right.<locals>.<lambda>"), (Z.T_l_of_right, cTab "_law_of_right.<locals>.<lambda>")], rfl, lcO_mapO _ _ _ ht39, rfl, ?b38, fun _ => (ea_nil ⟨_, rfl, ⟨_, rfl, ⟨fun hc => ?_, fun hc => ?_⟩⟩⟩)⟩⟩))))))))
      case b38 =>
        intro W1 T1 k36 x35 o u1 h
        obtain ⟨h, _⟩ := mapU h
        refine g_name ?_
        replace h := bindE h
        obtain ⟨r37, hr37, h⟩ := h
        replace h := pureE h
        subst h
        refine t_yes ⟨fun _ => ?_, fun z => nomatch z⟩
        refine (ev_perm (List.Perm.refl _) (e_call (ea_perm (ea_cons (e_var (sl := (rVal.at x35)) rfl fun _ => (ea_nil ⟨_, perm_front (j := 2) rfl, x35, r37, [(p5, cCup r33.2), (Z.T_l_made_right, cTab "_law_made_right.<locals>.<lambda>")], hr37, rfl, rfl, _, (perm_front (cs := [(p5, cCup r33.2), (Z.T_l_made_right, cTab "_law_made_right.<locals>.<lambda>"), (Z.T_l_of_right, cTab "_law_of_right.<locals>.<lambda>")]) (j := 2) rfl).symm, ⟨_, rfl, rfl, rfl⟩⟩))))))
      · replace h := condT hc h
        replace h := pureE h
        subst h
        refine s_ret (e_bl ?_)
        exact Rt.drop (hR _ (hz _ rfl)) (.cons _ (.cons₂ _ (.cons₂ _ .slnil)))
      · replace h := condF hc h
        refine s_next ?_
        replace h := bindE h
        obtain ⟨r40, hr40, h⟩ := h
        replace h := bindE h
        obtain ⟨r41, hr41, h⟩ := h
        refine s_seq (s_par (ea_cons (e_cmeth (ι := Unit × PyData) (β := ((Int × (List (List Nat)) × (List Int) × (List ((List Nat) × (List Int)))) × (List Int))) (A := fun i => [(rClsO Z.C_Roster).at i.1, rVal.at i.2]) (ci := fun i => []) (m := fun i => m_Roster_of i.1 i.2) (res := fun i b => (rT_Roster Z).at b) (co := fun i b => []) (E := E0) (e_clsO ⟨rfl, fun _ => (ea_names (ea_cons (e_asV (d := ((vTup vTx).d (cutL r15.1 none (some (5 : Int))))) (e_tupL (ea_cons (e_slL (e_var (sl := ((rLst rTx).at r15.1)) rfl fun _ => (eo_none (eo_some (e_int ⟨_, rfl, ⟨_, rTx, _, rfl, fun _ => (ea_nil ⟨_, rTx, _, rfl, ⟨asV_of (vTup vTx) _, fun _ => (ea_nil ⟨rfl, ⟨((), ((vTup vTx).d (cutL r15.1 none (some (5 : Int))))), r40, _, hr40, rfl, rfl, fun _ => (ea_cons (e_cmeth (ι := Unit × PyData) (β := ((Int × (List (List Nat)) × (List Int) × (List ((List Nat) × (List Int)))) × (List Int))) (A := fun i => [(rClsO Z.C_Roster).at i.1, rVal.at i.2]) (ci := fun i => []) (m := fun i => m_Roster_of i.1 i.2) (res := fun i b => (rT_Roster Z).at b) (co := fun i b => []) (E := E0) (e_clsO ⟨rfl, fun _ => (ea_cons (e_asV (d := ((vTup vTx).d (cutL r15.1 none (some (5 : Int))))) (e_tupL (ea_cons (e_slL (e_var (sl := ((rLst rTx).at r15.1)) rfl fun _ => (eo_none (eo_some (e_int ⟨_, rfl, ⟨_, rTx, _, rfl, fun _ => (ea_nil ⟨_, rTx, _, rfl, ⟨asV_of (vTup vTx) _, fun _ => (ea_nil ⟨((), ((vTup vTx).d (cutL r15.1 none (some (5 : Int))))), r41, _, hr41, rfl, rfl, fun _ => (ea_nil ⟨_, _, rfl, ?_⟩)⟩)⟩⟩)⟩⟩)))))))))⟩)))⟩⟩)⟩⟩)⟩⟩))))))))))⟩))))
        change NxT _ _ [some ((rScr K).at v_script), some (rInt.at x2), some (sRef p5), some ((rLst rTx).at r15.1), some ((rLst rVal).at t34), some ((rT_Roster Z).at r40), some ((rT_Roster Z).at r41), none, none, none] _ [(p5, cCup r33.2), (Z.T_l_made_right, cTab "_law_made_right.<locals>.<lambda>"), (Z.T_l_of_right, cTab "_law_of_right.<locals>.<lambda>")]
        replace h := bindE h
        obtain ⟨r42, hr42, h⟩ := h
        replace h := bindE h
        obtain ⟨t50, ht50, h⟩ := h
        refine (s_if (t_or (c := (!r42)) (d := t50) (t_test (e_neOb (ι := ((Int × (List (List Nat)) × (List Int) × (List ((List Nat) × (List Int)))) × (List Int)) × ((Int × (List (List Nat)) × (List Int) × (List ((List Nat) × (List Int)))) × (List Int))) (α := ((Int × (List (List Nat)) × (List Int) × (List ((List Nat) × (List Int)))) × (List Int))) (C := Z.C_Roster) (E := E0) (fl := fl_Roster Z) (A := fun i => [(rT_Roster Z).at i.1, (rT_Roster Z).at i.2]) (m := fun i => m_Roster_eq i.1 i.2) (e_var (sl := ((rT_Roster Z).at r40)) rfl fun _ => (e_var (sl := ((rT_Roster Z).at r41)) rfl ⟨_, _, (r40, r41), _, rfl, rfl, hr42, rfl, ⟨_, rfl, ⟨rfl, ?b51, fun hc => ⟨pureE' (condT hc ht50), rfl⟩⟩⟩⟩)))) ⟨fun hc => ?_, fun hc => ?_⟩))
        case b51 =>
          intro hc
          have h := condF hc ht50
          replace h := bindE h
          obtain ⟨r43, hr43, h⟩ := h
          replace h := bindE h
          obtain ⟨r44, hr44, h⟩ := h
          replace h := bindE h
          obtain ⟨r45, hr45, h⟩ := h
          replace h := bindE h
          obtain ⟨t48, ht48, h⟩ := h
          replace h := pureE h
          subst h
          refine (t_or (c := (!r45)) (d := t48) (t_test (e_neOb (ι := ((Int × (List (List Nat)) × (List Int) × (List ((List Nat) × (List Int)))) × (List Int)) × ((Int × (List (List Nat)) × (List Int) × (List ((List Nat) × (List Int)))) × (List Int))) (α := ((Int × (List (List Nat)) × (List Int) × (List ((List Nat) × (List Int)))) × (List Int))) (C := Z.C_Roster) (E := E0) (fl := fl_Roster Z) (A := fun i => [(rT_Roster Z).at i.1, (rT_Roster Z).at i.2]) (m := fun i => m_Roster_eq i.1 i.2) (e_makeF (ι := PyData) (β := ((Int × (List (List Nat)) × (List Int) × (List ((List Nat) × (List Int)))) × (List Int))) (C := Z.C_Roster) (E := E0) (fl := fl_Roster Z) (A := fun p i => [sRef p, rVal.at i]) (m := fun i => m_Roster_init i) (ea_names (ea_cons (e_asV (d := (PyData.int (3 : Int))) (e_int ⟨asV_of vInt _, fun _ => (ea_nil ⟨rfl, ⟨((PyData.int (3 : Int))), _, hr43, fun _ => rfl, fun _ => (e_makeF (ι := PyData) (β := ((Int × (List (List Nat)) × (List Int) × (List ((List Nat) × (List Int)))) × (List Int))) (C := Z.C_Roster) (E := E0) (fl := fl_Roster Z) (A := fun p i => [sRef p, rVal.at i]) (m := fun i => m_Roster_init i) (ea_cons (e_asV (d := (PyData.int (3 : Int))) (e_int ⟨asV_of vInt _, fun _ => (ea_nil ⟨((PyData.int (3 : Int))), _, hr44, fun _ => rfl, ⟨_, _, (r43, r44), _, rfl, rfl, hr45, rfl, ⟨_, rfl, ⟨rfl, ?b49, fun hc => ⟨pureE' (condT hc ht48), rfl⟩⟩⟩⟩⟩)⟩))))⟩⟩)⟩))))))) ⟨rfl, rfl⟩)
          case b49 =>
            intro hc
            have h := condF hc ht48
            replace h := bindE h
            obtain ⟨r46, hr46, h⟩ := h
            replace h := bindE h
            obtain ⟨r47, hr47, h⟩ := h
            replace h := pureE h
            subst h
            refine (t_test (e_neS (e_call (ea_cons (e_var (sl := ((rT_Roster Z).at r40)) rfl fun _ => (ea_nil ⟨r40, r46, [(p5, cCup r33.2), (Z.T_l_made_right, cTab "_law_made_right.<locals>.<lambda>"), (Z.T_l_of_right, cTab "_law_of_right.<locals>.<lambda>")], hr46, rfl, rfl, ⟨_, rfl, fun _ => (e_call (ea_cons (e_var (sl := ((rT_Roster Z).at r41)) rfl fun _ => (ea_nil ⟨r41, r47, [(p5, cCup r33.2), (Z.T_l_made_right, cTab "_law_made_right.<locals>.<lambda>"), (Z.T_l_of_right, cTab "_law_of_right.<locals>.<lambda>")], hr47, rfl, rfl, ⟨_, rfl, ⟨_, rfl, ⟨rfl, rfl⟩⟩⟩⟩))))⟩⟩))))))
        · replace h := condT hc h
          replace h := pureE h
          subst h
          refine s_ret (e_bl ?_)
          exact Rt.drop (hR _ (hz _ rfl)) (.cons _ (.cons₂ _ (.cons₂ _ .slnil)))
        · replace h := condF hc h
          refine s_next ?_
          replace h := pureE h
          subst h
          exact s_weak (by exact (And.intro rfl True.intro)) (.cons _ (.cons₂ _ (.cons₂ _ .slnil))) (hN () rfl)
  intro g54 eg54
  subst eg54
  try dsimp only at h
  change NxT _ _ [some ((rScr K).at v_script), none, none, none, none, none, none, none, none, none] _ [(Z.T_l_made_right, cTab "_law_made_right.<locals>.<lambda>"), (Z.T_l_of_right, cTab "_law_of_right.<locals>.<lambda>")]
  replace h := pureE h
  subst h
  refine s_ret (e_eqI (e_cvalI X.cr_Roster X.cv_Roster_MOST (e_clsO ⟨rfl, ⟨_, rfl, (e_int ⟨_, rfl, ?_⟩)⟩⟩)))
  exact Rt.drop hrt (.cons₂ _ (.cons₂ _ .slnil))
theorem all_ok {P : Program} {w : World} {K : PySem.W.Frag} {Z : Ads} {mg : Str → Option Value} {base : Heap} (X : Tx K mg Z) (PF : LP P X.fl_err) (TB_l_made_right : LamX.TabB base mg X.ca_l_made_right Z.T_l_made_right) (TB_l_of_right : LamX.TabB base mg X.ca_l_of_right Z.T_l_of_right) : FnG P w K mg base CX0 14 X.f_law X.d_law ["_law_script"] (sp_law K Z) := by
  have G_is_between : FnG P w K mg base CX0 1 X.f_is_between X.d_is_between ["value", "least", "most"] (sp_is_between K Z) := ok_is_between X
  have G_is_name : FnG P w K mg base CX0 1 X.f_is_name X.d_is_name ["value"] (sp_is_name K Z) := ok_is_name X
  have G_are_names : FnG P w K mg base CX0 2 X.f_are_names X.d_are_names ["value"] (sp_are_names K Z) := ok_are_names X G_is_name
  have G_Roster_init : FnG P w K mg base CX0 2 X.f_Roster_init X.d_Roster_init ["self", "bits"] (sp_Roster_init K Z) := ok_Roster_init X G_is_between
  have GX_Roster_init : FnG P w K mg base (L2.CX P w) 3 X.f_Roster_init X.d_Roster_init ["self", "bits"] (spX_Roster_init K Z (xt_ X)) := okX_Roster_init X PF G_is_between
  have G_Roster_bits : FnG P w K mg base CX0 1 X.f_Roster_bits X.d_Roster_bits ["self"] (sp_Roster_bits K Z) := ok_Roster_bits X
  have G_Roster_bits_C : FnG P w K mg base CX0 1 X.f_Roster_bits X.d_Roster_bits ["self"] (sp_Roster_bits_C K Z) := ok_Roster_bits_C X
  have G_Roster_of : FnG P w K mg base CX0 4 X.f_Roster_of X.d_Roster_of ["cls", "names"] (sp_Roster_of K Z) := ok_Roster_of X G_Roster_init G_Roster_bits_C G_are_names
  have GX_Roster_of : FnG P w K mg base (L2.CX P w) 3 X.f_Roster_of X.d_Roster_of ["cls", "names"] (spX_Roster_of K Z (xt_ X)) := okX_Roster_of X PF G_are_names
  have G_Roster_names : FnG P w K mg base CX0 1 X.f_Roster_names X.d_Roster_names ["self"] (sp_Roster_names K Z) := ok_Roster_names X
  have G_Roster_numbers : FnG P w K mg base CX0 1 X.f_Roster_numbers X.d_Roster_numbers ["self"] (sp_Roster_numbers K Z) := ok_Roster_numbers X
  have G_Roster_titles : FnG P w K mg base CX0 1 X.f_Roster_titles X.d_Roster_titles ["self"] (sp_Roster_titles K Z) := ok_Roster_titles X
  have G_Roster_len : FnG P w K mg base CX0 1 X.f_Roster_len X.d_Roster_len ["self"] (sp_Roster_len K Z) := ok_Roster_len X
  have G_Roster_eq : FnG P w K mg base CX0 1 X.f_Roster_eq X.d_Roster_eq ["self", "other"] (sp_Roster_eq K Z) := ok_Roster_eq X
  have G_Roster_tests : GenFn P w K mg base 2 X.f_Roster_tests X.d_Roster_tests ["self"] rInt (sp_Roster_tests K Z) := ok_Roster_tests X G_Roster_titles
  have G_Roster_changes : FnG P w K mg base CX0 1 X.f_Roster_changes X.d_Roster_changes ["self"] (sp_Roster_changes K Z) := ok_Roster_changes X
  have G_l_cup : FnG P w K mg base CX0 1 X.f_l_cup X.d_l_cup ["_law_script", "_law_k"] (sp_l_cup K Z) := ok_l_cup X
  have G_l_dip : FnG P w K mg base CX0 1 X.f_l_dip X.d_l_dip ["_law_cup_here", "_law_many"] (sp_l_dip K Z) := ok_l_dip X
  have G_l_one : FnG P w K mg base CX0 2 X.f_l_one X.d_l_one ["_law_cup_here", "_law_some"] (sp_l_one K Z) := ok_l_one X G_l_dip
  have G_l_one_V : FnG P w K mg base CX0 2 X.f_l_one X.d_l_one ["_law_cup_here", "_law_some"] (sp_l_one_V K Z) := ok_l_one_V X G_l_dip
  have G_l_shuffled : FnG P w K mg base CX0 2 X.f_l_shuffled X.d_l_shuffled ["_law_cup_here", "_law_some"] (sp_l_shuffled K Z) := ok_l_shuffled X G_l_dip
  have G_l_odd : FnG P w K mg base CX0 3 X.f_l_odd X.d_l_odd ["_law_cup_here"] (sp_l_odd K Z) := ok_l_odd X G_l_one G_l_one_V
  have G_l_bent : FnG P w K mg base CX0 10 X.f_l_bent X.d_l_bent ["_law_cup_here", "_law_thing", "_law_deep"] (sp_l_bent K Z 6) := ok_l_bent X G_l_dip G_l_odd G_l_one_V 6
  have G_l_names_pool : FnG P w K mg base CX0 1 X.f_l_names_pool X.d_l_names_pool [] (sp_l_names_pool K Z) := ok_l_names_pool X
  have G_l_is_name : FnG P w K mg base CX0 1 X.f_l_is_name X.d_l_is_name ["_law_thing"] (sp_l_is_name K Z) := ok_l_is_name X
  have G_l_is_int : FnG P w K mg base CX0 1 X.f_l_is_int X.d_l_is_int ["_law_thing", "_law_least", "_law_most"] (sp_l_is_int K Z) := ok_l_is_int X
  have G_l_are_names : FnG P w K mg base CX0 2 X.f_l_are_names X.d_l_are_names ["_law_thing"] (sp_l_are_names K Z) := ok_l_are_names X G_l_is_name
  have G_l_shown : FnG P w K mg base CX0 8 X.f_l_shown X.d_l_shown ["_law_roster"] (sp_l_shown K Z) := ok_l_shown X G_Roster_len G_Roster_bits G_Roster_changes G_Roster_names G_Roster_numbers G_Roster_tests G_Roster_titles
  have G_l_made_right : FnG P w K mg base CX0 13 X.f_l_made_right X.d_l_made_right ["_law_value"] (sp_l_made_right K Z) := ok_l_made_right X TB_l_made_right G_Roster_init G_l_is_int G_l_shown GX_Roster_init
  have G_l_of_right : FnG P w K mg base CX0 13 X.f_l_of_right X.d_l_of_right ["_law_value"] (sp_l_of_right K Z) := ok_l_of_right X TB_l_of_right G_Roster_of G_l_are_names G_l_shown GX_Roster_of
  have G_law : FnG P w K mg base CX0 14 X.f_law X.d_law ["_law_script"] (sp_law K Z) := ok_law X G_Roster_eq G_Roster_init G_Roster_of G_l_bent G_l_cup G_l_dip G_l_made_right G_l_names_pool G_l_odd G_l_of_right G_l_shown G_l_shuffled
  exact G_law
theorem all_mk {l : PySem.W.OpenLaw} {w : World} {K : PySem.W.Frag} {h : Heap} {mg : Str → Option Value} {fa : Addr} (X : K.In h) (G : h.Ns mainGlobals mg) (hfa : mg "law" = some (.ref fa))
    {C_Roster : Addr}
    {f0 : Addr} {od0 an0 : Option Addr} {sl0 : Array (Option Value)} {oc0 kV0 dc0 pm0 cd0 ct0 : Value}
    {f1 : Addr} {od1 an1 : Option Addr} {sl1 : Array (Option Value)} {oc1 kV1 dc1 pm1 cd1 ct1 : Value}
    {f2 : Addr} {od2 an2 : Option Addr} {sl2 : Array (Option Value)} {oc2 kV2 dc2 pm2 cd2 ct2 : Value}
    {f3 : Addr} {od3 an3 : Option Addr} {sl3 : Array (Option Value)} {oc3 kV3 dc3 pm3 cd3 ct3 : Value}
    {f4 : Addr} {od4 an4 : Option Addr} {sl4 : Array (Option Value)} {oc4 kV4 dc4 pm4 cd4 ct4 : Value}
    {f5 : Addr} {od5 an5 : Option Addr} {sl5 : Array (Option Value)} {oc5 kV5 dc5 pm5 cd5 ct5 : Value}
    {f6 : Addr} {od6 an6 : Option Addr} {sl6 : Array (Option Value)} {oc6 kV6 dc6 pm6 cd6 ct6 : Value}
    {f7 : Addr} {od7 an7 : Option Addr} {sl7 : Array (Option Value)} {oc7 kV7 dc7 pm7 cd7 ct7 : Value}
    {f8 : Addr} {od8 an8 : Option Addr} {sl8 : Array (Option Value)} {oc8 kV8 dc8 pm8 cd8 ct8 : Value}
    {f9 : Addr} {od9 an9 : Option Addr} {sl9 : Array (Option Value)} {oc9 kV9 dc9 pm9 cd9 ct9 : Value}
    {f10 : Addr} {od10 an10 : Option Addr} {sl10 : Array (Option Value)} {oc10 kV10 dc10 pm10 cd10 ct10 : Value}
    {f11 : Addr} {od11 an11 : Option Addr} {sl11 : Array (Option Value)} {oc11 kV11 dc11 pm11 cd11 ct11 : Value}
    {f12 : Addr} {od12 an12 : Option Addr} {sl12 : Array (Option Value)} {oc12 kV12 dc12 pm12 cd12 ct12 : Value}
    {f13 : Addr} {od13 an13 : Option Addr} {sl13 : Array (Option Value)} {oc13 kV13 dc13 pm13 cd13 ct13 : Value}
    {f14 : Addr} {od14 an14 : Option Addr} {sl14 : Array (Option Value)} {oc14 kV14 dc14 pm14 cd14 ct14 : Value}
    {f15 : Addr} {od15 an15 : Option Addr} {sl15 : Array (Option Value)} {oc15 kV15 dc15 pm15 cd15 ct15 : Value}
    {f16 : Addr} {od16 an16 : Option Addr} {sl16 : Array (Option Value)} {oc16 kV16 dc16 pm16 cd16 ct16 : Value}
    {f17 : Addr} {od17 an17 : Option Addr} {sl17 : Array (Option Value)} {oc17 kV17 dc17 pm17 cd17 ct17 : Value}
    {f18 : Addr} {od18 an18 : Option Addr} {sl18 : Array (Option Value)} {oc18 kV18 dc18 pm18 cd18 ct18 : Value}
    {f19 : Addr} {od19 an19 : Option Addr} {sl19 : Array (Option Value)} {oc19 kV19 dc19 pm19 cd19 ct19 : Value}
    {f20 : Addr} {od20 an20 : Option Addr} {sl20 : Array (Option Value)} {oc20 kV20 dc20 pm20 cd20 ct20 : Value}
    {f21 : Addr} {od21 an21 : Option Addr} {sl21 : Array (Option Value)} {oc21 kV21 dc21 pm21 cd21 ct21 : Value}
    {f22 : Addr} {od22 an22 : Option Addr} {sl22 : Array (Option Value)} {oc22 kV22 dc22 pm22 cd22 ct22 : Value}
    {f23 : Addr} {od23 an23 : Option Addr} {sl23 : Array (Option Value)} {oc23 kV23 dc23 pm23 cd23 ct23 : Value}
    {f24 : Addr} {od24 an24 : Option Addr} {sl24 : Array (Option Value)} {oc24 kV24 dc24 pm24 cd24 ct24 : Value}
    {f25 ca25 pa25 : Addr} {od25 an25 cad25 : Option Addr} {sl25 cas25 : Array (Option Value)} {cav25 : Array Value} {oc25 kV25 dc25 pm25 ct25 cac25 : Value}
    {f26 ca26 pa26 : Addr} {od26 an26 cad26 : Option Addr} {sl26 cas26 : Array (Option Value)} {cav26 : Array Value} {oc26 kV26 dc26 pm26 ct26 cac26 : Value}
    {f27 : Addr} {od27 an27 : Option Addr} {sl27 : Array (Option Value)} {oc27 kV27 dc27 pm27 cd27 ct27 : Value}
    {M_err : Addr} {file_err : Str} {C_BadBits N_BadBits fI_BadBits cda_BadBits cc_BadBits C_BadNames N_BadNames fI_BadNames cda_BadNames cc_BadNames : Addr}
    {nm_BadBits q_BadBits name_BadBits : Str} {bs_BadBits bm_BadBits : List Value} {sn_BadBits : List Str} {sub_BadBits : List Value} {ab_BadBits : Bool} {col_BadBits : Option Bool} {dd_BadBits : Option Addr} {s0_BadBits s1_BadBits s2_BadBits s3_BadBits s5_BadBits : Option Value} {kV_BadBits doc_BadBits pm_BadBits ct_BadBits oc_BadBits ccl_BadBits cl_BadBits : Value} {an_BadBits od_BadBits cdd_BadBits cld_BadBits : Option Addr} {osl_BadBits ccs_BadBits csl_BadBits : Array (Option Value)} {vs_BadBits : Array Value} {tf_BadBits : Tok}
    {nm_BadNames q_BadNames name_BadNames : Str} {bs_BadNames bm_BadNames : List Value} {sn_BadNames : List Str} {sub_BadNames : List Value} {ab_BadNames : Bool} {col_BadNames : Option Bool} {dd_BadNames : Option Addr} {s0_BadNames s1_BadNames s2_BadNames s3_BadNames s5_BadNames : Option Value} {kV_BadNames doc_BadNames pm_BadNames ct_BadNames oc_BadNames ccl_BadNames cl_BadNames : Value} {an_BadNames od_BadNames cdd_BadNames cld_BadNames : Option Addr} {osl_BadNames ccs_BadNames csl_BadNames : Array (Option Value)} {vs_BadNames : Array Value} {tf_BadNames : Tok}
    {C_NoName : Addr} (aE_NoName : PySem.W.nsIn K mainGlobals "NoName" = some (some (.ref C_NoName)))
    {C_BadNumber : Addr} (aE_BadNumber : PySem.W.nsIn K mainGlobals "BadNumber" = some (some (.ref C_BadNumber)))
    {C_TakenNumber : Addr} (aE_TakenNumber : PySem.W.nsIn K mainGlobals "TakenNumber" = some (some (.ref C_TakenNumber)))
    {C_NotTold : Addr} (aE_NotTold : PySem.W.nsIn K mainGlobals "NotTold" = some (some (.ref C_NotTold)))
    {C_BadName : Addr} (aE_BadName : PySem.W.nsIn K mainGlobals "BadName" = some (some (.ref C_BadName)))
    {C_TakenName : Addr} (aE_TakenName : PySem.W.nsIn K mainGlobals "TakenName" = some (some (.ref C_TakenName)))
    {C_Full : Addr} (aE_Full : PySem.W.nsIn K mainGlobals "Full" = some (some (.ref C_Full)))
    {C_NoRoom : Addr} (aE_NoRoom : PySem.W.nsIn K mainGlobals "NoRoom" = some (some (.ref C_NoRoom)))
    {C_NoTitle : Addr} (aE_NoTitle : PySem.W.nsIn K mainGlobals "NoTitle" = some (some (.ref C_NoTitle)))
    {C_TooMany : Addr} (aE_TooMany : PySem.W.nsIn K mainGlobals "TooMany" = some (some (.ref C_TooMany)))
    {C_NothingToUndo : Addr} (aE_NothingToUndo : PySem.W.nsIn K mainGlobals "NothingToUndo" = some (some (.ref C_NothingToUndo)))
    (aM_err : PySem.W.nsIn K mainGlobals "MaskError" = some (some (.ref M_err)))
    (aE_BadBits : PySem.W.nsIn K mainGlobals "BadBits" = some (some (.ref C_BadBits)))
    (lC_BadBits : K.lookup C_BadBits = some (excClassObj nm_BadBits q_BadBits C_BadBits N_BadBits bs_BadBits bm_BadBits true sn_BadBits sub_BadBits ab_BadBits col_BadBits dd_BadBits s0_BadBits s1_BadBits s2_BadBits s3_BadBits s5_BadBits "ValueError.__new__"))
    (rv_BadBits : PySem.HandSPX.refsVE bm_BadBits = true)
    (sa_BadBits : PySem.W.findIn K (.ref C_BadBits) "__setattr__" = some (some (.builtin "object.__setattr__")))
    (ex_BadBits : PySem.W.subIn K (.ref C_BadBits) (.type "BaseException") = some true)
    (ty_BadBits : PySem.W.typeIn K (.ref C_BadBits) = some (.type "type"))
    (kc_BadBits : PySem.W.keepIn K (.ref C_BadBits) = true)
    (iC_BadBits : PySem.W.findIn K (.ref C_BadBits) "__init__" = some (some (.ref fI_BadBits)))
    (tI_BadBits : PySem.W.typeIn K (.ref fI_BadBits) = some (.type "function"))
    (lF_BadBits : K.lookup fI_BadBits = some ⟨oc_BadBits, od_BadBits, .func (PySem.W.ksFn name_BadBits "BadBits.__init__" (defArgs (inClass (top 5) 0)) (defBody (inClass (top 5) 0)) (defScope (inClass (top 5) 0)) .none kV_BadBits doc_BadBits pm_BadBits an_BadBits (.ref cda_BadBits) ct_BadBits cc_BadBits), osl_BadBits⟩)
    (cd_BadBits : PySem.W.codeIn K (.ref cda_BadBits) "BadBits.__init__" = true)
    (lc_BadBits : K.lookup cda_BadBits = some ⟨ccl_BadBits, cdd_BadBits, .fields vs_BadBits, ccs_BadBits⟩)
    (lv_BadBits : vs_BadBits[2]? = some (.str file_err tf_BadBits))
    (lk_BadBits : K.lookup cc_BadBits = some ⟨cl_BadBits, cld_BadBits, .cell (some (.ref C_BadBits)), csl_BadBits⟩)
    (mr_BadBits : PySem.W.ks_superIn K C_BadBits C_BadBits "__init__" = some (some (.builtin "ValueError.__init__")))
    (ms_BadBits : PySem.W.mroIn K C_BadBits (.ref C_BadBits) = some true)
    (sv_BadBits : PySem.W.subIn K (.ref C_BadBits) (.type "ValueError") = some true)
    (st_BadBits : PySem.W.nsIn K cStatics "thirdparty.any" = some none)
    (no_BadBits : PySem.W.findIn K (.ref C_BadBits) "value" = some none)
    (ga_BadBits : PySem.W.findIn K (.ref C_BadBits) "__getattribute__" = some (some (.builtin "BaseException.__getattribute__")))
    (gg_BadBits : PySem.W.findIn K (.ref C_BadBits) "__getattr__" = some none)
    (hd_BadBits : PySem.W.hasDictIn K C_BadBits = true)
    (ca_BadBits : PySem.W.findIn K (.ref C_BadBits) "__class__" = some (some (.builtin "object.__class__")))
    (sg_BadBits : PySem.W.specialIn K (.builtin "object.__class__") "__get__" = some (some (.builtin "getset_descriptor.__get__")))
    (tk_BadBits : PySem.W.takesIn K (.builtin "object.__class__") = some true)
    (mo_BadBits : PySem.W.mroIn K C_BadBits (.type "object") = some true)
    (ci_BadBits : (PySem.W.clsIn K C_BadBits).isSome = true)
    (em_BadBits : PySem.W.exmOne K (.ref C_BadBits) (.ref M_err) = some true)
    (aE_BadNames : PySem.W.nsIn K mainGlobals "BadNames" = some (some (.ref C_BadNames)))
    (lC_BadNames : K.lookup C_BadNames = some (excClassObj nm_BadNames q_BadNames C_BadNames N_BadNames bs_BadNames bm_BadNames true sn_BadNames sub_BadNames ab_BadNames col_BadNames dd_BadNames s0_BadNames s1_BadNames s2_BadNames s3_BadNames s5_BadNames "ValueError.__new__"))
    (rv_BadNames : PySem.HandSPX.refsVE bm_BadNames = true)
    (sa_BadNames : PySem.W.findIn K (.ref C_BadNames) "__setattr__" = some (some (.builtin "object.__setattr__")))
    (ex_BadNames : PySem.W.subIn K (.ref C_BadNames) (.type "BaseException") = some true)
    (ty_BadNames : PySem.W.typeIn K (.ref C_BadNames) = some (.type "type"))
    (kc_BadNames : PySem.W.keepIn K (.ref C_BadNames) = true)
    (iC_BadNames : PySem.W.findIn K (.ref C_BadNames) "__init__" = some (some (.ref fI_BadNames)))
    (tI_BadNames : PySem.W.typeIn K (.ref fI_BadNames) = some (.type "function"))
    (lF_BadNames : K.lookup fI_BadNames = some ⟨oc_BadNames, od_BadNames, .func (PySem.W.ksFn name_BadNames "BadNames.__init__" (defArgs (inClass (top 6) 0)) (defBody (inClass (top 6) 0)) (defScope (inClass (top 6) 0)) .none kV_BadNames doc_BadNames pm_BadNames an_BadNames (.ref cda_BadNames) ct_BadNames cc_BadNames), osl_BadNames⟩)
    (cd_BadNames : PySem.W.codeIn K (.ref cda_BadNames) "BadNames.__init__" = true)
    (lc_BadNames : K.lookup cda_BadNames = some ⟨ccl_BadNames, cdd_BadNames, .fields vs_BadNames, ccs_BadNames⟩)
    (lv_BadNames : vs_BadNames[2]? = some (.str file_err tf_BadNames))
    (lk_BadNames : K.lookup cc_BadNames = some ⟨cl_BadNames, cld_BadNames, .cell (some (.ref C_BadNames)), csl_BadNames⟩)
    (mr_BadNames : PySem.W.ks_superIn K C_BadNames C_BadNames "__init__" = some (some (.builtin "ValueError.__init__")))
    (ms_BadNames : PySem.W.mroIn K C_BadNames (.ref C_BadNames) = some true)
    (sv_BadNames : PySem.W.subIn K (.ref C_BadNames) (.type "ValueError") = some true)
    (st_BadNames : PySem.W.nsIn K cStatics "thirdparty.any" = some none)
    (no_BadNames : PySem.W.findIn K (.ref C_BadNames) "value" = some none)
    (ga_BadNames : PySem.W.findIn K (.ref C_BadNames) "__getattribute__" = some (some (.builtin "BaseException.__getattribute__")))
    (gg_BadNames : PySem.W.findIn K (.ref C_BadNames) "__getattr__" = some none)
    (hd_BadNames : PySem.W.hasDictIn K C_BadNames = true)
    (ca_BadNames : PySem.W.findIn K (.ref C_BadNames) "__class__" = some (some (.builtin "object.__class__")))
    (sg_BadNames : PySem.W.specialIn K (.builtin "object.__class__") "__get__" = some (some (.builtin "getset_descriptor.__get__")))
    (tk_BadNames : PySem.W.takesIn K (.builtin "object.__class__") = some true)
    (mo_BadNames : PySem.W.mroIn K C_BadNames (.type "object") = some true)
    (ci_BadNames : (PySem.W.clsIn K C_BadNames).isSome = true)
    (em_BadNames : PySem.W.exmOne K (.ref C_BadNames) (.ref M_err) = some true)
    (kv_BadBits : PySem.W.kitOne K (.ref C_BadBits) (.type "ValueError") = some true)
    (ki_BadBits_BadBits : PySem.W.kitOne K (.ref C_BadBits) (.ref C_BadBits) = some true)
    (ki_BadBits_BadName : PySem.W.kitOne K (.ref C_BadBits) (.ref C_BadName) = some false)
    (ki_BadBits_BadNames : PySem.W.kitOne K (.ref C_BadBits) (.ref C_BadNames) = some false)
    (ki_BadBits_BadNumber : PySem.W.kitOne K (.ref C_BadBits) (.ref C_BadNumber) = some false)
    (ki_BadBits_Full : PySem.W.kitOne K (.ref C_BadBits) (.ref C_Full) = some false)
    (ki_BadBits_NoName : PySem.W.kitOne K (.ref C_BadBits) (.ref C_NoName) = some false)
    (ki_BadBits_NoRoom : PySem.W.kitOne K (.ref C_BadBits) (.ref C_NoRoom) = some false)
    (ki_BadBits_NoTitle : PySem.W.kitOne K (.ref C_BadBits) (.ref C_NoTitle) = some false)
    (ki_BadBits_NotTold : PySem.W.kitOne K (.ref C_BadBits) (.ref C_NotTold) = some false)
    (ki_BadBits_NothingToUndo : PySem.W.kitOne K (.ref C_BadBits) (.ref C_NothingToUndo) = some false)
    (ki_BadBits_TakenName : PySem.W.kitOne K (.ref C_BadBits) (.ref C_TakenName) = some false)
    (ki_BadBits_TakenNumber : PySem.W.kitOne K (.ref C_BadBits) (.ref C_TakenNumber) = some false)
    (ki_BadBits_TooMany : PySem.W.kitOne K (.ref C_BadBits) (.ref C_TooMany) = some false)
    (kv_BadNames : PySem.W.kitOne K (.ref C_BadNames) (.type "ValueError") = some true)
    (ki_BadNames_BadBits : PySem.W.kitOne K (.ref C_BadNames) (.ref C_BadBits) = some false)
    (ki_BadNames_BadName : PySem.W.kitOne K (.ref C_BadNames) (.ref C_BadName) = some false)
    (ki_BadNames_BadNames : PySem.W.kitOne K (.ref C_BadNames) (.ref C_BadNames) = some true)
    (ki_BadNames_BadNumber : PySem.W.kitOne K (.ref C_BadNames) (.ref C_BadNumber) = some false)
    (ki_BadNames_Full : PySem.W.kitOne K (.ref C_BadNames) (.ref C_Full) = some false)
    (ki_BadNames_NoName : PySem.W.kitOne K (.ref C_BadNames) (.ref C_NoName) = some false)
    (ki_BadNames_NoRoom : PySem.W.kitOne K (.ref C_BadNames) (.ref C_NoRoom) = some false)
    (ki_BadNames_NoTitle : PySem.W.kitOne K (.ref C_BadNames) (.ref C_NoTitle) = some false)
    (ki_BadNames_NotTold : PySem.W.kitOne K (.ref C_BadNames) (.ref C_NotTold) = some false)
    (ki_BadNames_NothingToUndo : PySem.W.kitOne K (.ref C_BadNames) (.ref C_NothingToUndo) = some false)
    (ki_BadNames_TakenName : PySem.W.kitOne K (.ref C_BadNames) (.ref C_TakenName) = some false)
    (ki_BadNames_TakenNumber : PySem.W.kitOne K (.ref C_BadNames) (.ref C_TakenNumber) = some false)
    (ki_BadNames_TooMany : PySem.W.kitOne K (.ref C_BadNames) (.ref C_TooMany) = some false)
    (pf_err : LP l.prog file_err)
    (aC_Roster : PySem.W.nsIn K mainGlobals "Roster" = some (some (.ref C_Roster)))
    (pg_Roster : PySem.W.plainGet K C_Roster Str.empty = true) (hd_Roster : PySem.W.hasDictIn K C_Roster = true) (po_Roster : PySem.W.plainOver K C_Roster = true) (sa_Roster : PySem.W.findIn K (.ref C_Roster) "__setattr__" = some (some (.builtin "object.__setattr__")))
    (mk_Roster : PySem.W.makesIn K C_Roster = true) (kc_Roster : PySem.W.keepIn K (.ref C_Roster) = true)
    (na_Roster_present : PySem.W.findIn K (.ref C_Roster) "present" = some none)
    (na_Roster_past : PySem.W.findIn K (.ref C_Roster) "past" = some none)
    (cr1_Roster : PySem.W.readsIn K C_Roster (.type "type") = true) (cr2_Roster : PySem.W.specialIn K (.ref C_Roster) "__getattribute__" = some (some (.builtin "type.__getattribute__")))
    {tk_Roster_MOST : Tok} (cv_Roster_MOST : PySem.W.findCls K (.ref C_Roster) (.type "type") "MOST" = some (.val (.int 12 tk_Roster_MOST)))
    (ha_Roster : PySem.W.findIn K (.ref C_Roster) "__class__" = some (some (.builtin "object.__class__"))) (hn_Roster : PySem.W.specialIn K (.builtin "object.__class__") "__get__" = some (some (.builtin "getset_descriptor.__get__"))) (ht_Roster : PySem.W.takesIn K (.builtin "object.__class__") = some true) (hm_Roster : PySem.W.mroIn K C_Roster (.type "object") = some true)
    (nn_Roster : PySem.W.findIn K (.ref C_Roster) "__ne__" = some (some (.builtin "object.__ne__"))) (nm_Roster : PySem.W.mroIn K C_Roster (.type "object") = some true)
    (a0 : PySem.W.nsIn K mainGlobals "is_between" = some (some (.ref f0)))
    (l0 : K.lookup f0 = some ⟨oc0, od0, .func (PySem.W.fnOf "is_between" "is_between" (defArgs s_is_between) (defBody s_is_between) (defScope s_is_between) .none kV0 dc0 pm0 an0 cd0 ct0), sl0⟩) (c0 : PySem.W.codeIn K cd0 "is_between" = true) (k0 : PySem.W.keepIn K (.ref f0) = true)
    (a1 : PySem.W.nsIn K mainGlobals "is_name" = some (some (.ref f1)))
    (l1 : K.lookup f1 = some ⟨oc1, od1, .func (PySem.W.fnOf "is_name" "is_name" (defArgs s_is_name) (defBody s_is_name) (defScope s_is_name) .none kV1 dc1 pm1 an1 cd1 ct1), sl1⟩) (c1 : PySem.W.codeIn K cd1 "is_name" = true) (k1 : PySem.W.keepIn K (.ref f1) = true)
    (a2 : PySem.W.nsIn K mainGlobals "are_names" = some (some (.ref f2)))
    (l2 : K.lookup f2 = some ⟨oc2, od2, .func (PySem.W.fnOf "are_names" "are_names" (defArgs s_are_names) (defBody s_are_names) (defScope s_are_names) .none kV2 dc2 pm2 an2 cd2 ct2), sl2⟩) (c2 : PySem.W.codeIn K cd2 "are_names" = true) (k2 : PySem.W.keepIn K (.ref f2) = true)
    (a3 : PySem.W.findIn K (.ref C_Roster) "__init__" = some (some (.ref f3))) (i3 : PySem.W.isFn K (.ref f3) = true)
    (l3 : K.lookup f3 = some ⟨oc3, od3, .func (PySem.W.fnOf "__init__" "Roster.__init__" (defArgs s_Roster_init) (defBody s_Roster_init) (defScope s_Roster_init) .none kV3 dc3 pm3 an3 cd3 ct3), sl3⟩) (c3 : PySem.W.codeIn K cd3 "Roster.__init__" = true) (k3 : PySem.W.keepIn K (.ref f3) = true)
    {p4 : Addr} {rest4 : List Value} (a4 : PySem.W.findIn K (.ref C_Roster) "bits" = some (some (.ref p4))) (pg4 : PySem.W.specialIn K (.ref p4) "__get__" = some (some (.builtin "property.__get__"))) (pt4 : PySem.W.takesIn K (.ref p4) = some true) (pr4 : PySem.W.recIn K p4 "property" = some (.ref f4 :: rest4))
    (l4 : K.lookup f4 = some ⟨oc4, od4, .func (PySem.W.fnOf "bits" "Roster.bits" (defArgs s_Roster_bits) (defBody s_Roster_bits) (defScope s_Roster_bits) .none kV4 dc4 pm4 an4 cd4 ct4), sl4⟩) (c4 : PySem.W.codeIn K cd4 "Roster.bits" = true) (k4 : PySem.W.keepIn K (.ref f4) = true)
    {p5 : Addr} {rest5 : List Value} (a5 : PySem.W.findCls K (.ref C_Roster) (.type "type") "of" = some (.get (.builtin "classmethod.__get__") (.ref p5) .none (.ref C_Roster))) (pr5 : PySem.W.recIn K p5 "classmethod" = some (.ref f5 :: rest5)) (pf5 : PySem.W.fnIn K f5 = true)
    (l5 : K.lookup f5 = some ⟨oc5, od5, .func (PySem.W.fnOf "of" "Roster.of" (defArgs s_Roster_of) (defBody s_Roster_of) (defScope s_Roster_of) .none kV5 dc5 pm5 an5 cd5 ct5), sl5⟩) (c5 : PySem.W.codeIn K cd5 "Roster.of" = true) (k5 : PySem.W.keepIn K (.ref f5) = true)
    {p6 : Addr} {rest6 : List Value} (a6 : PySem.W.findIn K (.ref C_Roster) "names" = some (some (.ref p6))) (pg6 : PySem.W.specialIn K (.ref p6) "__get__" = some (some (.builtin "property.__get__"))) (pt6 : PySem.W.takesIn K (.ref p6) = some true) (pr6 : PySem.W.recIn K p6 "property" = some (.ref f6 :: rest6))
    (l6 : K.lookup f6 = some ⟨oc6, od6, .func (PySem.W.fnOf "names" "Roster.names" (defArgs s_Roster_names) (defBody s_Roster_names) (defScope s_Roster_names) .none kV6 dc6 pm6 an6 cd6 ct6), sl6⟩) (c6 : PySem.W.codeIn K cd6 "Roster.names" = true) (k6 : PySem.W.keepIn K (.ref f6) = true)
    {p7 : Addr} {rest7 : List Value} (a7 : PySem.W.findIn K (.ref C_Roster) "numbers" = some (some (.ref p7))) (pg7 : PySem.W.specialIn K (.ref p7) "__get__" = some (some (.builtin "property.__get__"))) (pt7 : PySem.W.takesIn K (.ref p7) = some true) (pr7 : PySem.W.recIn K p7 "property" = some (.ref f7 :: rest7))
    (l7 : K.lookup f7 = some ⟨oc7, od7, .func (PySem.W.fnOf "numbers" "Roster.numbers" (defArgs s_Roster_numbers) (defBody s_Roster_numbers) (defScope s_Roster_numbers) .none kV7 dc7 pm7 an7 cd7 ct7), sl7⟩) (c7 : PySem.W.codeIn K cd7 "Roster.numbers" = true) (k7 : PySem.W.keepIn K (.ref f7) = true)
    {p8 : Addr} {rest8 : List Value} (a8 : PySem.W.findIn K (.ref C_Roster) "titles" = some (some (.ref p8))) (pg8 : PySem.W.specialIn K (.ref p8) "__get__" = some (some (.builtin "property.__get__"))) (pt8 : PySem.W.takesIn K (.ref p8) = some true) (pr8 : PySem.W.recIn K p8 "property" = some (.ref f8 :: rest8))
    (l8 : K.lookup f8 = some ⟨oc8, od8, .func (PySem.W.fnOf "titles" "Roster.titles" (defArgs s_Roster_titles) (defBody s_Roster_titles) (defScope s_Roster_titles) .none kV8 dc8 pm8 an8 cd8 ct8), sl8⟩) (c8 : PySem.W.codeIn K cd8 "Roster.titles" = true) (k8 : PySem.W.keepIn K (.ref f8) = true)
    (a9 : PySem.W.findIn K (.ref C_Roster) "__len__" = some (some (.ref f9))) (i9 : PySem.W.isFn K (.ref f9) = true)
    (l9 : K.lookup f9 = some ⟨oc9, od9, .func (PySem.W.fnOf "__len__" "Roster.__len__" (defArgs s_Roster_len) (defBody s_Roster_len) (defScope s_Roster_len) .none kV9 dc9 pm9 an9 cd9 ct9), sl9⟩) (c9 : PySem.W.codeIn K cd9 "Roster.__len__" = true) (k9 : PySem.W.keepIn K (.ref f9) = true)
    (a10 : PySem.W.findIn K (.ref C_Roster) "__eq__" = some (some (.ref f10))) (i10 : PySem.W.isFn K (.ref f10) = true)
    (l10 : K.lookup f10 = some ⟨oc10, od10, .func (PySem.W.fnOf "__eq__" "Roster.__eq__" (defArgs s_Roster_eq) (defBody s_Roster_eq) (defScope s_Roster_eq) .none kV10 dc10 pm10 an10 cd10 ct10), sl10⟩) (c10 : PySem.W.codeIn K cd10 "Roster.__eq__" = true) (k10 : PySem.W.keepIn K (.ref f10) = true)
    (a11 : PySem.W.findIn K (.ref C_Roster) "tests" = some (some (.ref f11))) (i11 : PySem.W.isFn K (.ref f11) = true)
    (l11 : K.lookup f11 = some ⟨oc11, od11, .func (PySem.W.fnOf "tests" "Roster.tests" (defArgs s_Roster_tests) (defBody s_Roster_tests) (defScope s_Roster_tests) .none kV11 dc11 pm11 an11 cd11 ct11), sl11⟩) (c11 : PySem.W.codeIn K cd11 "Roster.tests" = true) (k11 : PySem.W.keepIn K (.ref f11) = true)
    (a12 : PySem.W.findIn K (.ref C_Roster) "changes" = some (some (.ref f12))) (i12 : PySem.W.isFn K (.ref f12) = true)
    (l12 : K.lookup f12 = some ⟨oc12, od12, .func (PySem.W.fnOf "changes" "Roster.changes" (defArgs s_Roster_changes) (defBody s_Roster_changes) (defScope s_Roster_changes) .none kV12 dc12 pm12 an12 cd12 ct12), sl12⟩) (c12 : PySem.W.codeIn K cd12 "Roster.changes" = true) (k12 : PySem.W.keepIn K (.ref f12) = true)
    (a13 : PySem.W.nsIn K mainGlobals "_law_cup" = some (some (.ref f13)))
    (l13 : K.lookup f13 = some ⟨oc13, od13, .func (PySem.W.fnOf "_law_cup" "_law_cup" (defArgs s_l_cup) (defBody s_l_cup) (defScope s_l_cup) .none kV13 dc13 pm13 an13 cd13 ct13), sl13⟩) (c13 : PySem.W.codeIn K cd13 "_law_cup" = true) (k13 : PySem.W.keepIn K (.ref f13) = true)
    (a14 : PySem.W.nsIn K mainGlobals "_law_dip" = some (some (.ref f14)))
    (l14 : K.lookup f14 = some ⟨oc14, od14, .func (PySem.W.fnOf "_law_dip" "_law_dip" (defArgs s_l_dip) (defBody s_l_dip) (defScope s_l_dip) .none kV14 dc14 pm14 an14 cd14 ct14), sl14⟩) (c14 : PySem.W.codeIn K cd14 "_law_dip" = true) (k14 : PySem.W.keepIn K (.ref f14) = true)
    (a15 : PySem.W.nsIn K mainGlobals "_law_one" = some (some (.ref f15)))
    (l15 : K.lookup f15 = some ⟨oc15, od15, .func (PySem.W.fnOf "_law_one" "_law_one" (defArgs s_l_one) (defBody s_l_one) (defScope s_l_one) .none kV15 dc15 pm15 an15 cd15 ct15), sl15⟩) (c15 : PySem.W.codeIn K cd15 "_law_one" = true) (k15 : PySem.W.keepIn K (.ref f15) = true)
    (a16 : PySem.W.nsIn K mainGlobals "_law_shuffled" = some (some (.ref f16)))
    (l16 : K.lookup f16 = some ⟨oc16, od16, .func (PySem.W.fnOf "_law_shuffled" "_law_shuffled" (defArgs s_l_shuffled) (defBody s_l_shuffled) (defScope s_l_shuffled) .none kV16 dc16 pm16 an16 cd16 ct16), sl16⟩) (c16 : PySem.W.codeIn K cd16 "_law_shuffled" = true) (k16 : PySem.W.keepIn K (.ref f16) = true)
    (a17 : PySem.W.nsIn K mainGlobals "_law_odd" = some (some (.ref f17)))
    (l17 : K.lookup f17 = some ⟨oc17, od17, .func (PySem.W.fnOf "_law_odd" "_law_odd" (defArgs s_l_odd) (defBody s_l_odd) (defScope s_l_odd) .none kV17 dc17 pm17 an17 cd17 ct17), sl17⟩) (c17 : PySem.W.codeIn K cd17 "_law_odd" = true) (k17 : PySem.W.keepIn K (.ref f17) = true)
    (a18 : PySem.W.nsIn K mainGlobals "_law_bent" = some (some (.ref f18)))
    (l18 : K.lookup f18 = some ⟨oc18, od18, .func (PySem.W.fnOf "_law_bent" "_law_bent" (defArgs s_l_bent) (defBody s_l_bent) (defScope s_l_bent) .none kV18 dc18 pm18 an18 cd18 ct18), sl18⟩) (c18 : PySem.W.codeIn K cd18 "_law_bent" = true) (k18 : PySem.W.keepIn K (.ref f18) = true)
    (a19 : PySem.W.nsIn K mainGlobals "_law_names_pool" = some (some (.ref f19)))
    (l19 : K.lookup f19 = some ⟨oc19, od19, .func (PySem.W.fnOf "_law_names_pool" "_law_names_pool" (defArgs s_l_names_pool) (defBody s_l_names_pool) (defScope s_l_names_pool) .none kV19 dc19 pm19 an19 cd19 ct19), sl19⟩) (c19 : PySem.W.codeIn K cd19 "_law_names_pool" = true) (k19 : PySem.W.keepIn K (.ref f19) = true)
    (a20 : PySem.W.nsIn K mainGlobals "_law_is_name" = some (some (.ref f20)))
    (l20 : K.lookup f20 = some ⟨oc20, od20, .func (PySem.W.fnOf "_law_is_name" "_law_is_name" (defArgs s_l_is_name) (defBody s_l_is_name) (defScope s_l_is_name) .none kV20 dc20 pm20 an20 cd20 ct20), sl20⟩) (c20 : PySem.W.codeIn K cd20 "_law_is_name" = true) (k20 : PySem.W.keepIn K (.ref f20) = true)
    (a21 : PySem.W.nsIn K mainGlobals "_law_is_int" = some (some (.ref f21)))
    (l21 : K.lookup f21 = some ⟨oc21, od21, .func (PySem.W.fnOf "_law_is_int" "_law_is_int" (defArgs s_l_is_int) (defBody s_l_is_int) (defScope s_l_is_int) .none kV21 dc21 pm21 an21 cd21 ct21), sl21⟩) (c21 : PySem.W.codeIn K cd21 "_law_is_int" = true) (k21 : PySem.W.keepIn K (.ref f21) = true)
    (a22 : PySem.W.nsIn K mainGlobals "_law_asked" = some (some (.ref f22)))
    (l22 : K.lookup f22 = some ⟨oc22, od22, .func (PySem.W.fnOf "_law_asked" "_law_asked" (defArgs s_l_asked) (defBody s_l_asked) (defScope s_l_asked) .none kV22 dc22 pm22 an22 cd22 ct22), sl22⟩) (c22 : PySem.W.codeIn K cd22 "_law_asked" = true) (k22 : PySem.W.keepIn K (.ref f22) = true)
    (a23 : PySem.W.nsIn K mainGlobals "_law_are_names" = some (some (.ref f23)))
    (l23 : K.lookup f23 = some ⟨oc23, od23, .func (PySem.W.fnOf "_law_are_names" "_law_are_names" (defArgs s_l_are_names) (defBody s_l_are_names) (defScope s_l_are_names) .none kV23 dc23 pm23 an23 cd23 ct23), sl23⟩) (c23 : PySem.W.codeIn K cd23 "_law_are_names" = true) (k23 : PySem.W.keepIn K (.ref f23) = true)
    (a24 : PySem.W.nsIn K mainGlobals "_law_shown" = some (some (.ref f24)))
    (l24 : K.lookup f24 = some ⟨oc24, od24, .func (PySem.W.fnOf "_law_shown" "_law_shown" (defArgs s_l_shown) (defBody s_l_shown) (defScope s_l_shown) .none kV24 dc24 pm24 an24 cd24 ct24), sl24⟩) (c24 : PySem.W.codeIn K cd24 "_law_shown" = true) (k24 : PySem.W.keepIn K (.ref f24) = true)
    (a25 : PySem.W.nsIn K mainGlobals "_law_made_right" = some (some (.ref f25)))
    (l25 : K.lookup f25 = some ⟨oc25, od25, .func (PySem.W.fnOf "_law_made_right" "_law_made_right" (defArgs s_l_made_right) (defBody s_l_made_right) (defScope s_l_made_right) .none kV25 dc25 pm25 an25 (.ref ca25) ct25), sl25⟩) (c25 : PySem.W.codeIn K (.ref ca25) "_law_made_right" = true) (k25 : PySem.W.keepIn K (.ref f25) = true)
    (lc25 : K.lookup ca25 = some ⟨cac25, cad25, .fields cav25, cas25⟩) (lv25 : cav25[11]? = some (.ref pa25))
    (a26 : PySem.W.nsIn K mainGlobals "_law_of_right" = some (some (.ref f26)))
    (l26 : K.lookup f26 = some ⟨oc26, od26, .func (PySem.W.fnOf "_law_of_right" "_law_of_right" (defArgs s_l_of_right) (defBody s_l_of_right) (defScope s_l_of_right) .none kV26 dc26 pm26 an26 (.ref ca26) ct26), sl26⟩) (c26 : PySem.W.codeIn K (.ref ca26) "_law_of_right" = true) (k26 : PySem.W.keepIn K (.ref f26) = true)
    (lc26 : K.lookup ca26 = some ⟨cac26, cad26, .fields cav26, cas26⟩) (lv26 : cav26[11]? = some (.ref pa26))
    (a27 : PySem.W.nsIn K mainGlobals "law" = some (some (.ref f27)))
    (l27 : K.lookup f27 = some ⟨oc27, od27, .func (PySem.W.fnOf "law" "law" (defArgs s_law) (defBody s_law) (defScope s_law) .none kV27 dc27 pm27 an27 cd27 ct27), sl27⟩) (c27 : PySem.W.codeIn K cd27 "law" = true) (k27 : PySem.W.keepIn K (.ref f27) = true)
    {tk_LETTERS : Tok} (c_LETTERS : PySem.W.nsIn K mainGlobals "LETTERS" = some (some (.str ("abcdefghijklmnopqrstuvwxyz" : Str) tk_LETTERS)))
    {tk_MOST_BITS : Tok} (c_MOST_BITS : PySem.W.nsIn K mainGlobals "MOST_BITS" = some (some (.int 8 tk_MOST_BITS)))
    {tk_MOST_LETTERS : Tok} (c_MOST_LETTERS : PySem.W.nsIn K mainGlobals "MOST_LETTERS" = some (some (.int 8 tk_MOST_LETTERS)))
    (z_ValueError : PySem.W.nsIn K mainGlobals "ValueError" = some none)
    (z_abs : PySem.W.nsIn K mainGlobals "abs" = some none)
    (z_all : PySem.W.nsIn K mainGlobals "all" = some none)
    (z_bool : PySem.W.nsIn K mainGlobals "bool" = some none)
    (z_int : PySem.W.nsIn K mainGlobals "int" = some none)
    (z_isinstance : PySem.W.nsIn K mainGlobals "isinstance" = some none)
    (z_len : PySem.W.nsIn K mainGlobals "len" = some none)
    (z_list : PySem.W.nsIn K mainGlobals "list" = some none)
    (z_max : PySem.W.nsIn K mainGlobals "max" = some none)
    (z_min : PySem.W.nsIn K mainGlobals "min" = some none)
    (z_range : PySem.W.nsIn K mainGlobals "range" = some none)
    (z_repr : PySem.W.nsIn K mainGlobals "repr" = some none)
    (z_set : PySem.W.nsIn K mainGlobals "set" = some none)
    (z_str : PySem.W.nsIn K mainGlobals "str" = some none)
    (z_super : PySem.W.nsIn K mainGlobals "super" = some none)
    (z_tuple : PySem.W.nsIn K mainGlobals "tuple" = some none)
    : ∃ fd : FuncData, (∀ (s : Shared) (v : Value), BindsTo s fd ⟨[v], []⟩ [("_law_script", v)]) ∧ ∀ base : Heap, K.In base → base.Ns mainGlobals mg → (∀ p ∈ [(ca25, pa25), (ca26, pa26)], LamX.TabB base mg p.1 p.2) → FnG l.prog w K mg base CX0 14 fa fd ["_law_script"] (sp_law K ⟨pa25, pa26, 0⟩) := by
  have e := hfa.symm.trans (PySem.W.mg_of X G a27)
  cases e
  have F0 := fun_mk (st := s_is_between) l0 c0 k0
  have b0 := F0.binds (ps := ["value", "least", "most"]) fun _ _ _ _ _ _ us hl => match us, hl with | [_, _, _], _ => rfl
  have F1 := fun_mk (st := s_is_name) l1 c1 k1
  have b1 := F1.binds (ps := ["value"]) fun _ _ _ _ _ _ us hl => match us, hl with | [_], _ => rfl
  have F2 := fun_mk (st := s_are_names) l2 c2 k2
  have b2 := F2.binds (ps := ["value"]) fun _ _ _ _ _ _ us hl => match us, hl with | [_], _ => rfl
  have F3 := fun_mk (st := s_Roster_init) l3 c3 k3
  have b3 := F3.binds (ps := ["self", "bits"]) fun _ _ _ _ _ _ us hl => match us, hl with | [_, _], _ => rfl
  have F4 := fun_mk (st := s_Roster_bits) l4 c4 k4
  have b4 := F4.binds (ps := ["self"]) fun _ _ _ _ _ _ us hl => match us, hl with | [_], _ => rfl
  have F5 := fun_mk (st := s_Roster_of) l5 c5 k5
  have b5 := F5.binds (ps := ["cls", "names"]) fun _ _ _ _ _ _ us hl => match us, hl with | [_, _], _ => rfl
  have F6 := fun_mk (st := s_Roster_names) l6 c6 k6
  have b6 := F6.binds (ps := ["self"]) fun _ _ _ _ _ _ us hl => match us, hl with | [_], _ => rfl
  have F7 := fun_mk (st := s_Roster_numbers) l7 c7 k7
  have b7 := F7.binds (ps := ["self"]) fun _ _ _ _ _ _ us hl => match us, hl with | [_], _ => rfl
  have F8 := fun_mk (st := s_Roster_titles) l8 c8 k8
  have b8 := F8.binds (ps := ["self"]) fun _ _ _ _ _ _ us hl => match us, hl with | [_], _ => rfl
  have F9 := fun_mk (st := s_Roster_len) l9 c9 k9
  have b9 := F9.binds (ps := ["self"]) fun _ _ _ _ _ _ us hl => match us, hl with | [_], _ => rfl
  have F10 := fun_mk (st := s_Roster_eq) l10 c10 k10
  have b10 := F10.binds (ps := ["self", "other"]) fun _ _ _ _ _ _ us hl => match us, hl with | [_, _], _ => rfl
  have F11 := fun_mk (st := s_Roster_tests) l11 c11 k11
  have b11 := F11.binds (ps := ["self"]) fun _ _ _ _ _ _ us hl => match us, hl with | [_], _ => rfl
  have F12 := fun_mk (st := s_Roster_changes) l12 c12 k12
  have b12 := F12.binds (ps := ["self"]) fun _ _ _ _ _ _ us hl => match us, hl with | [_], _ => rfl
  have F13 := fun_mk (st := s_l_cup) l13 c13 k13
  have b13 := F13.binds (ps := ["_law_script", "_law_k"]) fun _ _ _ _ _ _ us hl => match us, hl with | [_, _], _ => rfl
  have F14 := fun_mk (st := s_l_dip) l14 c14 k14
  have b14 := F14.binds (ps := ["_law_cup_here", "_law_many"]) fun _ _ _ _ _ _ us hl => match us, hl with | [_, _], _ => rfl
  have F15 := fun_mk (st := s_l_one) l15 c15 k15
  have b15 := F15.binds (ps := ["_law_cup_here", "_law_some"]) fun _ _ _ _ _ _ us hl => match us, hl with | [_, _], _ => rfl
  have F16 := fun_mk (st := s_l_shuffled) l16 c16 k16
  have b16 := F16.binds (ps := ["_law_cup_here", "_law_some"]) fun _ _ _ _ _ _ us hl => match us, hl with | [_, _], _ => rfl
  have F17 := fun_mk (st := s_l_odd) l17 c17 k17
  have b17 := F17.binds (ps := ["_law_cup_here"]) fun _ _ _ _ _ _ us hl => match us, hl with | [_], _ => rfl
  have F18 := fun_mk (st := s_l_bent) l18 c18 k18
  have b18 := F18.binds (ps := ["_law_cup_here", "_law_thing", "_law_deep"]) fun _ _ _ _ _ _ us hl => match us, hl with | [_, _, _], _ => rfl
  have F19 := fun_mk (st := s_l_names_pool) l19 c19 k19
  have b19 := F19.binds (ps := []) fun _ _ _ _ _ _ us hl => match us, hl with | [], _ => rfl
  have F20 := fun_mk (st := s_l_is_name) l20 c20 k20
  have b20 := F20.binds (ps := ["_law_thing"]) fun _ _ _ _ _ _ us hl => match us, hl with | [_], _ => rfl
  have F21 := fun_mk (st := s_l_is_int) l21 c21 k21
  have b21 := F21.binds (ps := ["_law_thing", "_law_least", "_law_most"]) fun _ _ _ _ _ _ us hl => match us, hl with | [_, _, _], _ => rfl
  have F22 := fun_mk (st := s_l_asked) l22 c22 k22
  have b22 := F22.binds (ps := ["_law_ask"]) fun _ _ _ _ _ _ us hl => match us, hl with | [_], _ => rfl
  have F23 := fun_mk (st := s_l_are_names) l23 c23 k23
  have b23 := F23.binds (ps := ["_law_thing"]) fun _ _ _ _ _ _ us hl => match us, hl with | [_], _ => rfl
  have F24 := fun_mk (st := s_l_shown) l24 c24 k24
  have b24 := F24.binds (ps := ["_law_roster"]) fun _ _ _ _ _ _ us hl => match us, hl with | [_], _ => rfl
  have F25 := fun_mk (st := s_l_made_right) l25 c25 k25
  have b25 := F25.binds (ps := ["_law_value"]) fun _ _ _ _ _ _ us hl => match us, hl with | [_], _ => rfl
  have F26 := fun_mk (st := s_l_of_right) l26 c26 k26
  have b26 := F26.binds (ps := ["_law_value"]) fun _ _ _ _ _ _ us hl => match us, hl with | [_], _ => rfl
  have F27 := fun_mk (st := s_law) l27 c27 k27
  have b27 := F27.binds (ps := ["_law_script"]) fun _ _ _ _ _ _ us hl => match us, hl with | [_], _ => rfl
  have ow0 := own_names_mk (ps := ["cls", "names"]) (ks := ["names"]) (π := [0]) F5 fun _ _ _ _ _ _ _ us hl => match us, hl with | [_], _ => rfl
  have ow1 := own_names_mk (ps := ["self", "bits"]) (ks := ["bits"]) (π := [0]) F3 fun _ _ _ _ _ _ _ us hl => match us, hl with | [_], _ => rfl
  exact ⟨_, fun s v => .of_eq rfl, fun base _ _ tb => all_ok (Z := ⟨pa25, pa26, C_Roster⟩) ⟨_, _, F0, PySem.W.mg_of X G a0, b0, _, _, F1, PySem.W.mg_of X G a1, b1, _, _, F2, PySem.W.mg_of X G a2, b2, _, _, F3, b3, ⟨mk_Roster, a3, i3, kc_Roster⟩, _, _, F4, b4, _, ⟨a4, pg4, pt4, ⟨_, pr4⟩⟩, _, _, F5, b5, _, ⟨a5, ⟨_, pr5⟩, pf5⟩, _, _, F6, b6, _, ⟨a6, pg6, pt6, ⟨_, pr6⟩⟩, _, _, F7, b7, _, ⟨a7, pg7, pt7, ⟨_, pr7⟩⟩, _, _, F8, b8, _, ⟨a8, pg8, pt8, ⟨_, pr8⟩⟩, _, _, F9, b9, ⟨a9, i9⟩, _, _, F10, b10, ⟨a10, i10⟩, _, _, F11, b11, ⟨a11, i11, k11⟩, _, _, F12, b12, ⟨a12, i12, k12⟩, _, _, F13, PySem.W.mg_of X G a13, b13, _, _, F14, PySem.W.mg_of X G a14, b14, _, _, F15, PySem.W.mg_of X G a15, b15, _, _, F16, PySem.W.mg_of X G a16, b16, _, _, F17, PySem.W.mg_of X G a17, b17, _, _, F18, PySem.W.mg_of X G a18, b18, _, _, F19, PySem.W.mg_of X G a19, b19, _, _, F20, PySem.W.mg_of X G a20, b20, _, _, F21, PySem.W.mg_of X G a21, b21, _, _, F22, PySem.W.mg_of X G a22, b22, _, _, F23, PySem.W.mg_of X G a23, b23, _, _, F24, PySem.W.mg_of X G a24, b24, _, _, F25, PySem.W.mg_of X G a25, b25, _, funC_mk l25 c25, _, _, F26, PySem.W.mg_of X G a26, b26, _, funC_mk l26 c26, _, _, F27, PySem.W.mg_of X G a27, b27, ⟨pg_Roster, hd_Roster, po_Roster, sa_Roster⟩, PySem.W.mg_of X G aC_Roster, na_Roster_present, na_Roster_past, ⟨cr1_Roster, cr2_Roster⟩, _, ⟨cv_Roster_MOST, ⟨_, rfl⟩⟩, ⟨⟨pg_Roster, hd_Roster, po_Roster, sa_Roster⟩, ha_Roster, hn_Roster, ht_Roster, hm_Roster⟩, ⟨nn_Roster, nm_Roster⟩, ow0, ow1, _, PySem.W.mg_of X G c_LETTERS, _, PySem.W.mg_of X G c_MOST_BITS, _, PySem.W.mg_of X G c_MOST_LETTERS, PySem.W.mg_none_of X G z_ValueError, PySem.W.mg_none_of X G z_abs, PySem.W.mg_none_of X G z_all, PySem.W.mg_none_of X G z_bool, PySem.W.mg_none_of X G z_int, PySem.W.mg_none_of X G z_isinstance, PySem.W.mg_none_of X G z_len, PySem.W.mg_none_of X G z_list, PySem.W.mg_none_of X G z_max, PySem.W.mg_none_of X G z_min, PySem.W.mg_none_of X G z_range, PySem.W.mg_none_of X G z_repr, PySem.W.mg_none_of X G z_set, PySem.W.mg_none_of X G z_str, PySem.W.mg_none_of X G z_super, PySem.W.mg_none_of X G z_tuple, _, PySem.W.mg_of X G aM_err, _, _, _, _, _, _, errK_mk lC_BadBits rv_BadBits sa_BadBits ex_BadBits ty_BadBits kc_BadBits iC_BadBits tI_BadBits lF_BadBits cd_BadBits lc_BadBits lv_BadBits lk_BadBits mr_BadBits ms_BadBits sv_BadBits st_BadBits no_BadBits ga_BadBits gg_BadBits hd_BadBits ca_BadBits sg_BadBits tk_BadBits mo_BadBits ci_BadBits em_BadBits, PySem.W.mg_of X G aE_BadBits, _, _, _, _, _, errK_mk lC_BadNames rv_BadNames sa_BadNames ex_BadNames ty_BadNames kc_BadNames iC_BadNames tI_BadNames lF_BadNames cd_BadNames lc_BadNames lv_BadNames lk_BadNames mr_BadNames ms_BadNames sv_BadNames st_BadNames no_BadNames ga_BadNames gg_BadNames hd_BadNames ca_BadNames sg_BadNames tk_BadNames mo_BadNames ci_BadNames em_BadNames, PySem.W.mg_of X G aE_BadNames, _, PySem.W.mg_of X G aE_NoName, _, PySem.W.mg_of X G aE_BadNumber, _, PySem.W.mg_of X G aE_TakenNumber, _, PySem.W.mg_of X G aE_NotTold, _, PySem.W.mg_of X G aE_BadName, _, PySem.W.mg_of X G aE_TakenName, _, PySem.W.mg_of X G aE_Full, _, PySem.W.mg_of X G aE_NoRoom, _, PySem.W.mg_of X G aE_NoTitle, _, PySem.W.mg_of X G aE_TooMany, _, PySem.W.mg_of X G aE_NothingToUndo, kv_BadBits, ki_BadBits_BadBits, ki_BadBits_BadName, ki_BadBits_BadNames, ki_BadBits_BadNumber, ki_BadBits_Full, ki_BadBits_NoName, ki_BadBits_NoRoom, ki_BadBits_NoTitle, ki_BadBits_NotTold, ki_BadBits_NothingToUndo, ki_BadBits_TakenName, ki_BadBits_TakenNumber, ki_BadBits_TooMany, kv_BadNames, ki_BadNames_BadBits, ki_BadNames_BadName, ki_BadNames_BadNames, ki_BadNames_BadNumber, ki_BadNames_Full, ki_BadNames_NoName, ki_BadNames_NoRoom, ki_BadNames_NoTitle, ki_BadNames_NotTold, ki_BadNames_NothingToUndo, ki_BadNames_TakenName, ki_BadNames_TakenNumber, ki_BadNames_TooMany⟩ pf_err (tb (ca25, pa25) (by simp)) (tb (ca26, pa26) (by simp))⟩
/-! ## plain: a value that is there and keeps P -/
def Tot {α : Type} (m : Option α) (P : α → Prop) : Prop := ∃ a, m = some a ∧ P a
section
variable {α β γ ρ : Type} {P : α → Prop} {Q : β → Prop}
theorem Tot.bind {m : Option α} {f : α → Option β} (h : Tot m P) (k : ∀ a, P a → Tot (f a) Q) : Tot (bind m f) Q := by
  obtain ⟨a, e, p⟩ := h
  obtain ⟨b, e2, q⟩ := k a p
  refine ⟨b, ?_, q⟩
  rw [e]
  exact e2
theorem Tot.ret {a : α} (h : P a) : Tot (pure a) P := ⟨a, rfl, h⟩
theorem Tot.some {a : α} (h : P a) : Tot (some a) P := ⟨a, rfl, h⟩
theorem Tot.imp {m : Option α} {P' : α → Prop} (h : Tot m P) (k : ∀ a, P a → P' a) : Tot m P' := let ⟨a, e, p⟩ := h; ⟨a, e, k a p⟩
theorem Tot.cond {c : Bool} {a b : Option α} (h1 : c = true → Tot a P) (h2 : c = false → Tot b P) : Tot (bif c then a else b) P := by
  cases c with
  | true => exact h1 rfl
  | false => exact h2 rfl
theorem Tot.of {m : Option α} {a : α} (e : m = Option.some a) (p : P a) : Tot m P := ⟨a, e, p⟩
theorem Tot.get {m : Option α} {a : α} (h : Tot m (· = a)) : m = Option.some a := by obtain ⟨b, e, rfl⟩ := h; exact e
theorem Tot.ite {c : Prop} [Decidable c] {a : α} (hc : c) (p : P a) : Tot (if c then Option.some a else none) P := ⟨a, by rw [if_pos hc], p⟩
/-! loops -/
theorem Tot.fold {f : β → α → Option β} {I : Nat → β → Prop} : ∀ (xs : List α) (b : β) (i : Nat), I i b → (∀ j x b, xs[j]? = Option.some x → I (i + j) b → Tot (f b x) (I (i + j + 1))) → Tot (foldO f xs b) (I (i + xs.length))
  | [], b, i, h, _ => ⟨b, rfl, h⟩
  | x :: xs, b, i, h, hs => by
    obtain ⟨b', e, h'⟩ := hs 0 x b rfl h
    have ih := Tot.fold (f := f) (I := I) xs b' (i + 1) h' fun j y c hj hc => by
      have := hs (j + 1) y c (by simpa using hj) (by rw [show i + (j + 1) = i + 1 + j by omega]; exact hc)
      rw [show i + (j + 1) + 1 = i + 1 + j + 1 by omega] at this
      exact this
    unfold foldO
    rw [e]
    rw [show i + (x :: xs).length = i + 1 + xs.length by rw [List.length_cons]; omega]
    exact ih
/-- a loop that may be left: B behind a break, R behind a return -/
theorem Tot.loop {f : β → α → Option (Fl ρ β)} {I : Nat → β → Prop} {B : β → Prop} {R : ρ → Prop} : ∀ (xs : List α) (b : β) (i : Nat), I i b →
    (∀ j x b, xs[j]? = Option.some x → I (i + j) b → Tot (f b x) fun fl => match fl with | .go b' => I (i + j + 1) b' | .brk b' => B b' | .ret r => R r) →
    Tot (loopO f xs b) fun o => match o with | .go b => I (i + xs.length) b ∨ B b | .ret r => R r
  | [], b, i, h, _ => ⟨_, rfl, .inl h⟩
  | x :: xs, b, i, h, hs => by
    obtain ⟨fl, e, h'⟩ := hs 0 x b rfl h
    unfold loopO
    rw [e]
    cases fl with
    | go b' =>
      have ih := Tot.loop (f := f) (I := I) (B := B) (R := R) xs b' (i + 1) h' fun j y c hj hc => by
        have := hs (j + 1) y c (by simpa using hj) (by rw [show i + (j + 1) = i + 1 + j by omega]; exact hc)
        rw [show i + (j + 1) + 1 = i + 1 + j + 1 by omega] at this
        exact this
      rw [show i + (x :: xs).length = i + 1 + xs.length by rw [List.length_cons]; omega]
      exact ih
    | brk b' => exact ⟨_, rfl, .inr h'⟩
    | ret r => exact ⟨_, rfl, h'⟩
/-- a loop in which each turn goes on -/
theorem Tot.loopGo {f : β → α → Option (Fl ρ β)} {I : Nat → β → Prop} (xs : List α) (b : β) (h : I 0 b) (hs : ∀ j x b, xs[j]? = Option.some x → I j b → Tot (f b x) fun fl => ∃ b', fl = .go b' ∧ I (j + 1) b') :
    Tot (loopO f xs b) fun o => ∃ b', o = .go b' ∧ I xs.length b' := by
  have := Tot.loop (f := f) (I := I) (B := fun _ => False) (R := fun _ => False) xs b 0 h fun j x b hj hb => by
    rw [Nat.zero_add] at hb ⊢
    exact (hs j x b hj hb).imp fun fl ⟨b', e, h'⟩ => by subst e; exact h'
  refine this.imp fun o ho => ?_
  cases o with
  | go b' => rw [Nat.zero_add] at ho; exact ⟨b', rfl, ho.elim id False.elim⟩
  | ret r => exact ho.elim
theorem Tot.lc {f : β → α → Option (Option γ × β)} {I : Nat → List γ → β → Prop} : ∀ (xs : List α) (b : β) (i : Nat) (acc : List γ), I i acc b →
    (∀ j x b acc, xs[j]? = Option.some x → I (i + j) acc b → Tot (f b x) fun r => I (i + j + 1) (acc ++ (match r.1 with | Option.some y => [y] | none => [])) r.2) → Tot (lcO f xs b) fun r => I (i + xs.length) (acc ++ r.1) r.2
  | [], b, i, acc, h, _ => ⟨_, rfl, by show I i (acc ++ []) b; rw [List.append_nil]; exact h⟩
  | x :: xs, b, i, acc, h, hs => by
    obtain ⟨⟨o, b'⟩, e, h'⟩ := hs 0 x b acc rfl h
    obtain ⟨⟨ys, b2⟩, e2, h2⟩ := Tot.lc (f := f) (I := I) xs b' (i + 1) _ h' fun j y c acc hj hc => by
      have := hs (j + 1) y c acc (by simpa using hj) (by rw [show i + (j + 1) = i + 1 + j by omega]; exact hc)
      rw [show i + (j + 1) + 1 = i + 1 + j + 1 by omega] at this
      exact this
    unfold lcO
    rw [e]
    dsimp only
    rw [e2]
    refine ⟨_, rfl, ?_⟩
    rw [show i + (x :: xs).length = i + 1 + xs.length by rw [List.length_cons]; omega]
    cases o with
    | none => simpa using h2
    | some y => simpa using h2
theorem mapO_some {f : α → Option (Option γ)} {g : α → Option γ} : ∀ {xs : List α}, (∀ x ∈ xs, f x = Option.some (g x)) → mapO f xs = Option.some (xs.filterMap g)
  | [], _ => rfl
  | x :: xs, h => by
    unfold mapO
    rw [h x List.mem_cons_self, mapO_some (xs := xs) fun y hy => h y (List.mem_cons_of_mem _ hy)]
    cases e : g x with
    | none => rw [List.filterMap_cons_none e]
    | some y => rw [List.filterMap_cons_some e]
theorem mapO_map {f : α → Option (Option γ)} {g : α → γ} {xs : List α} (h : ∀ x ∈ xs, f x = Option.some (Option.some (g x))) : mapO f xs = Option.some (xs.map g) := by
  rw [mapO_some (g := fun x => Option.some (g x)) h]
  congr 1
  induction xs with
  | nil => rfl
  | cons x xs ih => rw [List.filterMap_cons_some (f := fun x => Option.some (g x)) (b := g x) rfl, List.map_cons, ih fun y hy => h y (List.mem_cons_of_mem _ hy)]
end
theorem loop_one {ρ : Type} {m : Option (Lo ρ Unit)} {P : Prop} (h : Tot m fun o => ∃ b', o = .go b' ∧ P) : m = some (.go ()) ∧ P := by
  obtain ⟨o, e, b', rfl, p⟩ := h
  exact ⟨e, p⟩
/-! ints -/
theorem sml64 {i : Int} (h1 : -18446744073709551616 < i) (h2 : i < 18446744073709551616) : Sml i := sml_of (n := 64) (by decide) (by show i.natAbs < 18446744073709551616; omega)
theorem tot_shl {i j : Int} {P : Int → Prop} (h0 : 0 ≤ j) (h1 : j ≤ 100000) (h2 : Sml i) (p : P (i * 2 ^ j.toNat)) : Tot (oShl i j) P := Tot.ite ⟨h0, h1, h2⟩ p
theorem tot_shr {i j : Int} {P : Int → Prop} (h0 : 0 ≤ j) (p : P (i / 2 ^ j.toNat)) : Tot (oShr i j) P := Tot.ite h0 p
theorem tot_mul {i j : Int} {P : Int → Prop} (h1 : Sml i) (h2 : Sml j) (p : P (i * j)) : Tot (oMul i j) P := Tot.ite ⟨h1, h2⟩ p
theorem tot_div {i j : Int} {P : Int → Prop} (h1 : 0 < j) (h2 : Sml j) (p : P (i / j)) : Tot (oDiv i j) P := Tot.ite ⟨h1, h2⟩ p
theorem tot_mod {i j : Int} {P : Int → Prop} (h1 : 0 < j) (p : P (i % j)) : Tot (oMod i j) P := Tot.ite h1 p
theorem tot_pow {i j : Int} {P : Int → Prop} (h1 : 0 ≤ j) (h2 : j ≤ 1000) (h3 : Sml i) (p : P (i ^ j.toNat)) : Tot (oPow i j) P := Tot.ite ⟨h1, h2, h3⟩ p
theorem tot_app {α : Type} {xs : List α} {x : α} {P : List α → Prop} (h : xs.length < 16777216) (p : P (xs ++ [x])) : Tot (oApp xs x) P := Tot.ite (by rw [sizeLine_eq]; exact h) p
theorem tot_range {i j : Int} {P : List Int → Prop} (h1 : -4611686018427387904 ≤ i) (h2 : i < 4611686018427387904) (h3 : -4611686018427387904 ≤ j) (h4 : j < 4611686018427387904) (h5 : j - i ≤ 16777216) (p : P (rangeI i j)) : Tot (oRange i j) P := by
  refine Tot.ite ⟨⟨?_, ?_⟩, ⟨?_, ?_⟩, ?_⟩ p
  · show -4611686018427387904 ≤ i; exact h1
  · show i < 4611686018427387904; exact h2
  · show -4611686018427387904 ≤ j; exact h3
  · show j < 4611686018427387904; exact h4
  · rw [sizeLine_eq]; omega
theorem rangeI_get {i j : Int} {k : Nat} {x : Int} (h : (rangeI i j)[k]? = some x) : x = i + (k : Int) ∧ (k : Int) < j - i := by
  unfold rangeI at h
  rw [List.getElem?_map] at h
  by_cases hk : k < (j - i).toNat
  · rw [List.getElem?_range hk] at h
    cases h
    exact ⟨rfl, by omega⟩
  · rw [List.getElem?_eq_none (by rw [List.length_range]; omega)] at h
    cases h
theorem at_nat {α : Type} {xs : List α} {j : Nat} {x : α} {P : α → Prop} (h : xs[j]? = some x) (p : P x) : Tot (atI xs (j : Int)) P := ⟨x, atI_nat h, p⟩
theorem at_int {α : Type} {xs : List α} {i : Int} {P : α → Prop} (h0 : 0 ≤ i) (h1 : i < xs.length) (p : ∀ x, xs[i.toNat]? = some x → P x) : Tot (atI xs i) P := by
  obtain ⟨j, rfl⟩ := Int.eq_ofNat_of_zero_le h0
  have hj : j < xs.length := by omega
  have hx := List.getElem?_eq_getElem hj
  exact ⟨xs[j], atI_nat hx, p _ (by rw [Int.toNat_natCast]; exact hx)⟩
theorem int_pow_pos {a : Int} (h : 0 < a) : ∀ n : Nat, 0 < a ^ n
  | 0 => by rw [Int.pow_zero]; decide
  | n + 1 => by rw [Int.pow_succ]; exact Int.mul_pos (int_pow_pos h n) h
theorem two_pow_pos (n : Nat) : (0 : Int) < 2 ^ n := int_pow_pos (by decide) n
theorem cast_two_pow (n : Nat) : ((2 ^ n : Nat) : Int) = 2 ^ n := by
  induction n with
  | zero => rfl
  | succ n ih => rw [Nat.pow_succ, Int.pow_succ, Int.natCast_mul, ih]; rfl
theorem bitAnd_mask (i : Int) (k : Nat) : Builtin.bitAnd i (2 ^ k - 1) = i % 2 ^ k := PySem.W.kbt_mask i k

/-! ## the cup -/
def CupOk (k : Cup) (n : Int) : Prop := 0 ≤ k.2.1 ∧ k.2.1 < 2305843009213693921 ∧ 0 ≤ k.2.2 ∧ k.2.2 ≤ n
theorem CupOk.mono {k : Cup} {n m : Int} (h : CupOk k n) (l : n ≤ m) : CupOk k m := ⟨h.1, h.2.1, h.2.2.1, Int.le_trans h.2.2.2 l⟩
theorem three_at (a b c : Int) : atI [a, b, c] 0 = some a ∧ atI [a, b, c] 2 = some c ∧ atI [a, b, c] 1 = some b := ⟨rfl, rfl, rfl⟩
theorem five_at (a b c d e : Int) (i : Int) (h0 : 0 ≤ i) (h1 : i < 5) : ∃ x, atI [a, b, c, d, e] i = some x ∧ (x = a ∨ x = b ∨ x = c ∨ x = d ∨ x = e) := by
  have : i = 0 ∨ i = 1 ∨ i = 2 ∨ i = 3 ∨ i = 4 := by omega
  rcases this with e | e | e | e | e <;> subst e
  · exact ⟨_, rfl, .inl rfl⟩
  · exact ⟨_, rfl, .inr (.inl rfl)⟩
  · exact ⟨_, rfl, .inr (.inr (.inl rfl))⟩
  · exact ⟨_, rfl, .inr (.inr (.inr (.inl rfl)))⟩
  · exact ⟨_, rfl, .inr (.inr (.inr (.inr rfl)))⟩
theorem dip_ok {k : Cup} {many N : Int} (hk : CupOk k N) (hN : N ≤ 1000000) (h0 : 0 < many) (hs : Sml many) : Tot (m_l_dip k many) fun r => 0 ≤ r.1 ∧ r.1 < many ∧ CupOk r.2 (N + 1) := by
  obtain ⟨k0, k1, k2⟩ := k
  obtain ⟨a1, a2, a3, a4⟩ := hk
  dsimp only at a1 a2 a3 a4
  unfold m_l_dip
  refine Tot.bind (P := (· = k0)) (Tot.of rfl rfl) fun t1 e1 => ?_
  subst e1
  refine Tot.cond (fun hc => ?_) fun hc => ?_
  · refine Tot.bind (P := (· = t1)) (Tot.of rfl rfl) fun t2 e => ?_
    subst e
    refine Tot.bind (P := fun r => 0 ≤ r ∧ r < many) (tot_mod h0 ⟨Int.emod_nonneg _ (by omega), Int.emod_lt_of_pos _ h0⟩) fun t3 h3 => ?_
    refine Tot.bind (P := (· = t2)) (Tot.of rfl rfl) fun t4 e => ?_
    subst e
    refine Tot.bind (P := fun _ => True) (tot_div h0 hs trivial) fun t5 _ => ?_
    exact Tot.ret ⟨h3.1, h3.2, a1, a2, a3, show k2 ≤ N + 1 by omega⟩
  · refine Tot.bind (P := (· = k2)) (Tot.of rfl rfl) fun t e => ?_
    subst e
    refine Tot.bind (P := (· = t + 1)) (Tot.of rfl rfl) fun u e => ?_
    subst e
    refine Tot.bind (P := fun r => 0 ≤ r ∧ r < 5) (tot_mod (by decide) ⟨Int.emod_nonneg _ (by decide), Int.emod_lt_of_pos _ (by decide)⟩) fun t3 h3 => ?_
    obtain ⟨p, ep, hp⟩ := five_at 2147483647 2147483629 2147483587 2147483579 2147483563 t3 h3.1 h3.2
    refine Tot.bind (P := fun r => 2147483563 ≤ r ∧ r ≤ 2147483647) (Tot.of ep (by omega)) fun q hq => ?_
    refine Tot.bind (P := (· = k1)) (Tot.of rfl rfl) fun t5 e => ?_
    subst e
    refine Tot.bind (P := (· = t + 1)) (Tot.of rfl rfl) fun t6 e => ?_
    subst e
    refine Tot.bind (P := fun r => 0 ≤ r ∧ r ≤ 77003 * 1000001) (tot_mul (sml64 (by decide) (by decide)) (sml64 (by omega) (by omega)) ⟨by omega, by omega⟩) fun t7 h7 => ?_
    refine Tot.bind (P := (· = t + 1)) (Tot.of rfl rfl) fun t8 e => ?_
    subst e
    refine Tot.bind (P := fun r => 0 ≤ r ∧ r ≤ 77003 * 1000001 * 1000001) (tot_mul (sml64 (by omega) (by omega)) (sml64 (by omega) (by omega)) ⟨Int.mul_nonneg h7.1 (by omega), Int.mul_le_mul h7.2 (by omega) (by omega) (by decide)⟩) fun t9 h9 => ?_
    refine Tot.bind (P := fun _ => True) (tot_pow (by decide) (by decide) (sml64 (by omega) (by omega)) trivial) fun t10 _ => ?_
    refine Tot.bind (P := fun r => 0 ≤ r ∧ r ≤ 2147483647) (tot_mod (by omega) ⟨Int.emod_nonneg _ (by omega), by have := Int.emod_lt_of_pos t10 (show 0 < q by omega); omega⟩) fun t11 h11 => ?_
    refine Tot.bind (P := fun r => 0 ≤ r ∧ r < 10037) (tot_mod (by decide) ⟨Int.emod_nonneg _ (by decide), Int.emod_lt_of_pos _ (by decide)⟩) fun t12 h12 => ?_
    refine Tot.bind (P := (· = t + 1)) (Tot.of rfl rfl) fun t13 e => ?_
    subst e
    refine Tot.bind (P := fun r => 0 ≤ r ∧ r ≤ 71 * 1000001) (tot_mul (sml64 (by decide) (by decide)) (sml64 (by omega) (by omega)) ⟨by omega, by omega⟩) fun t14 h14 => ?_
    refine Tot.bind (P := fun _ => True) (tot_mul (sml64 (by omega) (by omega)) (sml64 (by omega) (by omega)) trivial) fun t15 _ => ?_
    refine Tot.bind (P := fun _ => True) (tot_mod (by decide) trivial) fun t16 _ => ?_
    refine Tot.bind (P := fun _ => True) (tot_div (by decide) (sml64 (by decide) (by decide)) trivial) fun t17 _ => ?_
    refine Tot.bind (P := fun r => 0 ≤ r ∧ r < many) (tot_mod h0 ⟨Int.emod_nonneg _ (by omega), Int.emod_lt_of_pos _ h0⟩) fun t18 h18 => ?_
    exact Tot.ret ⟨h18.1, h18.2, a1, a2, show 0 ≤ t + 1 by omega, show t + 1 ≤ N + 1 by omega⟩
theorem cup_ok {ns : List Int} {k : Int} (h0 : 0 ≤ k) (h1 : k < 1000) : Tot (m_l_cup ns k) fun c => CupOk c 0 := by
  unfold m_l_cup
  refine Tot.bind (P := fun _ => True) (Tot.cond (fun hc => ?_) fun hc => ?_) fun t3 _ => ?_
  · exact Tot.bind (P := fun _ => True) (at_int h0 (of_decide_eq_true hc) fun _ _ => trivial) fun _ _ => Tot.ret trivial
  · exact Tot.bind (P := fun _ => True) (tot_mul (sml64 (by decide) (by decide)) (sml64 (by omega) (by omega)) trivial) fun _ _ => Tot.ret trivial
  refine Tot.bind (P := fun r => r = 10 ^ 60) (tot_pow (by decide) (by decide) (sml64 (by decide) (by decide)) rfl) fun t6 e6 => ?_
  have s6 : Sml t6 := by subst e6; exact sml_of (n := 200) (by decide) (by decide +kernel)
  refine Tot.bind (P := fun r => 0 < r ∧ r.natAbs < 2 ^ 800) (tot_pow (by decide) (by decide) s6 (by subst e6; exact ⟨by decide +kernel, by decide +kernel⟩)) fun t7 h7 => ?_
  refine Tot.bind (P := fun r => Sml r) (tot_mod h7.1 (sml_of (n := 800) (by decide) (by
    have a := Int.emod_nonneg (t3.natAbs : Int) (show t7 ≠ 0 by omega)
    have b := Int.emod_lt_of_pos (t3.natAbs : Int) h7.1
    exact Nat.lt_of_lt_of_le (by omega : _ < t7.natAbs) (Nat.le_of_lt h7.2)))) fun t8 h8 => ?_
  refine Tot.bind (P := fun _ => True) (tot_pow (by decide) (by decide) (sml64 (by decide) (by decide)) trivial) fun t9 _ => ?_
  refine Tot.bind (P := fun _ => True) (tot_mul h8 (by split <;> exact sml64 (by decide) (by decide)) trivial) fun t10 _ => ?_
  refine Tot.bind (P := fun r => 0 ≤ r ∧ r < 2305843009213693951) (tot_mod (by decide) ⟨Int.emod_nonneg _ (by decide), Int.emod_lt_of_pos _ (by decide)⟩) fun t11 h11 => ?_
  refine Tot.bind (P := fun _ => True) (tot_mul (sml64 (by omega) (by omega)) (sml64 (by decide) (by decide)) trivial) fun t12 _ => ?_
  refine Tot.bind (P := fun r => 0 ≤ r ∧ r ≤ 6689 * 1000) (tot_mul (sml64 (by decide) (by decide)) (sml64 (by omega) (by omega)) ⟨by omega, by omega⟩) fun t13 h13 => ?_
  refine Tot.bind (P := fun _ => True) (tot_mul (sml64 (by omega) (by omega)) (sml64 (by omega) (by omega)) trivial) fun t14 _ => ?_
  refine Tot.bind (P := fun r => 0 ≤ r ∧ r < 2305843009213693921) (tot_mod (by decide) ⟨Int.emod_nonneg _ (by decide), Int.emod_lt_of_pos _ (by decide)⟩) fun t15 h15 => ?_
  exact Tot.ret ⟨h15.1, h15.2, (by show (0 : Int) ≤ 0; decide), (by show (0 : Int) ≤ 0; decide)⟩

/-! ## what is in a range -/
theorem rangeI_mem {a b x : Int} : x ∈ rangeI a b ↔ a ≤ x ∧ x < b := by
  unfold rangeI
  rw [List.mem_map]
  constructor
  · rintro ⟨k, hk, e⟩
    have := List.mem_range.mp hk
    omega
  · rintro ⟨h1, h2⟩
    exact ⟨(x - a).toNat, List.mem_range.mpr (by omega), by omega⟩
theorem rangeI_nodup (a b : Int) : (rangeI a b).Nodup := by
  unfold rangeI
  exact List.pairwise_map.mpr (List.nodup_range.imp fun {x y} h e => h (by omega))
theorem rangeI_up (a b : Int) : (rangeI a b).Pairwise (· < ·) := by
  unfold rangeI
  exact List.pairwise_map.mpr (List.pairwise_lt_range.imp fun {x y} h => by omega)

theorem cut_to {α : Type} {xs : List α} {i : Int} (h : 0 ≤ i) : cutL xs none (some i) = xs.take i.toNat := by
  obtain ⟨m, rfl⟩ := Int.eq_ofNat_of_zero_le h
  unfold cutL
  rw [HT.sIx_none, HT.sIx_nat, List.drop_zero, Nat.sub_zero, Int.toNat_natCast]
  rcases Nat.le_total m xs.length with h | h
  · rw [Nat.min_eq_left h]
  · rw [Nat.min_eq_right h, List.take_of_length_le (Nat.le_refl _), List.take_of_length_le h]

/-- a while loop whose index falls -/
theorem Tot.while {β ρ : Type} {f : β → Option (Fl ρ β)} {I : Nat → β → Prop} {B : β → Prop} {R : ρ → Prop} (hs : ∀ j b, I j b → Tot (f b) fun fl => match fl with | .go b' => ∃ j', j = j' + 1 ∧ I j' b' | .brk b' => B b' | .ret r => R r) :
    ∀ (j n : Nat) (b : β), j < n → I j b → Tot (whileO f n b) fun o => match o with | .go b' => B b' | .ret r => R r
  | j, 0, b, h, _ => absurd h (Nat.not_lt_zero _)
  | j, n + 1, b, h, hI => by
    obtain ⟨fl, e, h'⟩ := hs j b hI
    unfold whileO
    rw [e]
    cases fl with
    | go b' =>
      obtain ⟨j', ej, h'⟩ := h'
      subst ej
      exact Tot.while hs j' n b' (Nat.lt_of_succ_lt_succ h) h'
    | brk b' => exact ⟨_, rfl, h'⟩
    | ret r => exact ⟨_, rfl, h'⟩
/-- .. that is not left by a return -/
theorem Tot.whileGo {β ρ : Type} {f : β → Option (Fl ρ β)} {I : Nat → β → Prop} {B : β → Prop} (hs : ∀ j b, I j b → Tot (f b) fun fl => (∃ b', fl = .go b' ∧ ∃ j', j = j' + 1 ∧ I j' b') ∨ (∃ b', fl = .brk b' ∧ B b')) (j n : Nat) (b : β) (h : j < n) (hI : I j b) :
    Tot (whileO f n b) fun o => ∃ b', o = .go b' ∧ B b' := by
  refine (Tot.while (B := B) (R := fun _ => False) (fun j b hI => (hs j b hI).imp fun fl h => ?_) j n b h hI).imp fun o ho => ?_
  · rcases h with ⟨b', e, j', ej, h⟩ | ⟨b', e, h⟩
    · subst e; exact ⟨j', ej, h⟩
    · subst e; exact h
  · cases o with
    | go b' => exact ⟨b', rfl, ho⟩
    | ret r => exact ho.elim

/-! ## values of any kind: small ones -/
mutual
def lf (M L : Nat) : PyData → Bool
  | .none | .bool _ => true
  | .int i => decide (i.natAbs ≤ M)
  | .str x => (x.cps.toList.all fun c => decide (c < 16 ^ 8)) && decide (x.cps.size ≤ 200)
  | .list xs => lfAll M L xs
  | .tuple xs => decide (xs.length ≤ L) && lfAll M L xs
  | .dict kvs => lfKv M L kvs
def lfAll (M L : Nat) : List PyData → Bool
  | [] => true
  | x :: xs => lf M L x && lfAll M L xs
def lfKv (M L : Nat) : List (PyData × PyData) → Bool
  | [] => true
  | (k, v) :: r => lf M L k && lf M L v && lfKv M L r
end
theorem lfAll_iff {M L : Nat} : ∀ {xs : List PyData}, lfAll M L xs = true ↔ ∀ x ∈ xs, lf M L x = true
  | [] => by simp [lfAll]
  | x :: xs => by
    rw [lfAll, Bool.and_eq_true, lfAll_iff (xs := xs)]
    simp
mutual
theorem lf_mono {M N L K : Nat} (h : M ≤ N) (g : L ≤ K) : ∀ d : PyData, lf M L d = true → lf N K d = true
  | .none, _ => rfl
  | .bool _, _ => rfl
  | .int i, e => by
    have := of_decide_eq_true (show decide (i.natAbs ≤ M) = true from e)
    exact decide_eq_true (by omega)
  | .str x, e => e
  | .list xs, e => lfAll_mono h g xs e
  | .tuple xs, e => by
    rw [lf, Bool.and_eq_true] at e ⊢
    exact ⟨decide_eq_true (Nat.le_trans (of_decide_eq_true e.1) g), lfAll_mono h g xs e.2⟩
  | .dict kvs, e => lfKv_mono h g kvs e
theorem lfAll_mono {M N L K : Nat} (h : M ≤ N) (g : L ≤ K) : ∀ xs : List PyData, lfAll M L xs = true → lfAll N K xs = true
  | [], _ => rfl
  | x :: xs, e => by
    rw [lfAll, Bool.and_eq_true] at e ⊢
    exact ⟨lf_mono h g x e.1, lfAll_mono h g xs e.2⟩
theorem lfKv_mono {M N L K : Nat} (h : M ≤ N) (g : L ≤ K) : ∀ xs : List (PyData × PyData), lfKv M L xs = true → lfKv N K xs = true
  | [], _ => rfl
  | (k, v) :: r, e => by
    rw [lfKv, Bool.and_eq_true, Bool.and_eq_true] at e ⊢
    exact ⟨⟨lf_mono h g k e.1.1, lf_mono h g v e.1.2⟩, lfKv_mono h g r e.2⟩
end
theorem log_low {i : Int} (h : i.natAbs ≤ 2 ^ 100) : i.natAbs.log2 < 101 := by
  by_cases e : i.natAbs = 0
  · rw [e]; decide
  · exact (Nat.log2_lt e).mpr (Nat.lt_of_le_of_lt h (by decide))
theorem int_text_low {i : Int} (h : i.natAbs ≤ 2 ^ 100) : (PyData.shown (.int i)).length ≤ 200 := by
  show (Str.ofString (toString i)).length ≤ 200
  rw [PySem.ofString_length]
  have := int_text_length_le (k := 101) (by decide) (log_low h)
  omega
mutual
theorem lf_short {M L : Nat} (hM : M ≤ 2 ^ 100) : ∀ d : PyData, lf M L d = true → d.leavesShort 200 = true ∧ d.showable = true
  | .none, _ => ⟨rfl, rfl⟩
  | .bool _, _ => ⟨rfl, rfl⟩
  | .int i, e => by
    have h := of_decide_eq_true (show decide (i.natAbs ≤ M) = true from e)
    have h2 : i.natAbs ≤ 2 ^ 100 := Nat.le_trans h hM
    exact ⟨decide_eq_true (int_text_low h2), decide_eq_true (by have := log_low h2; omega)⟩
  | .str x, e => by
    rw [LW.lf, Bool.and_eq_true] at e
    exact ⟨e.1, rfl⟩
  | .list xs, e => lfAll_short hM xs e
  | .tuple xs, e => by
    rw [LW.lf, Bool.and_eq_true] at e
    exact lfAll_short hM xs e.2
  | .dict kvs, e => lfKv_short hM kvs e
theorem lfAll_short {M L : Nat} (hM : M ≤ 2 ^ 100) : ∀ xs : List PyData, lfAll M L xs = true → PyData.leavesShortAll 200 xs = true ∧ PyData.showableAll xs = true
  | [], _ => ⟨rfl, rfl⟩
  | x :: xs, e => by
    rw [lfAll, Bool.and_eq_true] at e
    obtain ⟨a, b⟩ := lf_short hM x e.1
    obtain ⟨c, d⟩ := lfAll_short hM xs e.2
    rw [PyData.leavesShortAll, PyData.showableAll, a, b, c, d]
    exact ⟨rfl, rfl⟩
theorem lfKv_short {M L : Nat} (hM : M ≤ 2 ^ 100) : ∀ xs : List (PyData × PyData), lfKv M L xs = true → PyData.leavesShortKv 200 xs = true ∧ PyData.showableKv xs = true
  | [], _ => ⟨rfl, rfl⟩
  | (k, v) :: r, e => by
    rw [lfKv, Bool.and_eq_true, Bool.and_eq_true] at e
    obtain ⟨a, b⟩ := lf_short hM k e.1.1
    obtain ⟨a2, b2⟩ := lf_short hM v e.1.2
    obtain ⟨c, d⟩ := lfKv_short hM r e.2
    rw [PyData.leavesShortKv, PyData.showableKv, a, b, a2, b2, c, d]
    exact ⟨rfl, rfl⟩
end
/-- small: ints up to M, the weight up to W, D deep -/
structure Vk (M L W D : Nat) (d : PyData) : Prop where
  lf : lf M L d = true
  wt : d.weight ≤ W
  dp : d.depth ≤ D
theorem Vk.mono {M L W D M' L' W' D' : Nat} {d : PyData} (h : Vk M L W D d) (h1 : M ≤ M') (h4 : L ≤ L') (h2 : W ≤ W') (h3 : D ≤ D') : Vk M' L' W' D' d := ⟨lf_mono h1 h4 d h.lf, Nat.le_trans h.wt h2, Nat.le_trans h.dp h3⟩
theorem repr_val {M L W D : Nat} {d : PyData} (h : Vk M L W D d) (hM : M ≤ 2 ^ 100) (hW : W ≤ 50000) (hD : D ≤ 60) : oReprW d = some d.shown := by
  obtain ⟨a, b⟩ := lf_short hM d h.lf
  refine if_pos ⟨b, Nat.le_trans h.dp hD, ?_⟩
  have := PyData.shown_le 200 (by decide) d a
  have w := h.wt
  have : (200 + 2) * d.weight ≤ 202 * 50000 := Nat.mul_le_mul_left _ (Nat.le_trans w hW)
  rw [sizeLine_eq]
  omega
theorem weight_all {xs : List PyData} : PyData.weightAll xs = (xs.map fun x => x.weight + 1).sum := by
  induction xs with
  | nil => rfl
  | cons x xs ih => rw [PyData.weightAll, ih, List.map_cons, List.sum_cons]
theorem len_weight : ∀ xs : List PyData, xs.length ≤ PyData.weightAll xs
  | [] => Nat.le_refl _
  | x :: xs => by
    have := len_weight xs
    rw [PyData.weightAll, List.length_cons]
    omega
theorem weight_app (xs ys : List PyData) : PyData.weightAll (xs ++ ys) = PyData.weightAll xs + PyData.weightAll ys := by
  rw [weight_all, weight_all, weight_all, List.map_append, List.sum_append]
theorem weight_sub {xs ys : List PyData} (h : xs.Sublist ys) : PyData.weightAll xs ≤ PyData.weightAll ys := by
  induction h with
  | slnil => exact Nat.le_refl _
  | cons a _ ih => rw [PyData.weightAll]; omega
  | cons_cons a _ ih => rw [PyData.weightAll, PyData.weightAll]; omega
theorem weight_rev (xs : List PyData) : PyData.weightAll xs.reverse = PyData.weightAll xs := by
  rw [weight_all, weight_all, List.map_reverse, List.sum_reverse]
theorem depth_all {D : Nat} : ∀ {xs : List PyData}, PyData.depthAll xs ≤ D ↔ ∀ x ∈ xs, x.depth ≤ D
  | [] => by simp [PyData.depthAll]
  | x :: xs => by
    rw [PyData.depthAll, Nat.max_le, depth_all (xs := xs)]
    simp
theorem weight_mem {xs : List PyData} {x : PyData} (h : x ∈ xs) : x.weight + 1 ≤ PyData.weightAll xs := by
  induction xs with
  | nil => cases h
  | cons y ys ih =>
    rw [PyData.weightAll]
    rcases List.mem_cons.mp h with e | h
    · rw [e]; omega
    · have := ih h; omega
/-- the parts of a tuple -/
theorem Vk.parts {M L W D : Nat} {xs : List PyData} (h : Vk M L W D (.tuple xs)) : xs.length ≤ L ∧ lfAll M L xs = true ∧ PyData.weightAll xs ≤ W ∧ PyData.depthAll xs + 1 ≤ D := by
  have e := h.lf
  rw [LW.lf, Bool.and_eq_true] at e
  exact ⟨of_decide_eq_true e.1, e.2, h.wt, h.dp⟩
theorem Vk.ofParts {M L W D : Nat} {xs : List PyData} (h0 : xs.length ≤ L) (h1 : lfAll M L xs = true) (h2 : PyData.weightAll xs ≤ W) (h3 : PyData.depthAll xs + 1 ≤ D) : Vk M L W D (.tuple xs) := ⟨by rw [LW.lf, h1, decide_eq_true h0]; rfl, h2, h3⟩
theorem Vk.ofPartsL {M L W D : Nat} {xs : List PyData} (h1 : lfAll M L xs = true) (h2 : PyData.weightAll xs ≤ W) (h3 : PyData.depthAll xs + 1 ≤ D) : Vk M L W D (.list xs) := ⟨h1, h2, h3⟩
theorem lf_app {M L : Nat} {xs ys : List PyData} (h : lfAll M L xs = true) (g : lfAll M L ys = true) : lfAll M L (xs ++ ys) = true := lfAll_iff.mpr fun x hx => (List.mem_append.mp hx).elim (lfAll_iff.mp h x) (lfAll_iff.mp g x)
theorem lf_subset {M L : Nat} {xs ys : List PyData} (h : lfAll M L ys = true) (s : ∀ x ∈ xs, x ∈ ys) : lfAll M L xs = true := lfAll_iff.mpr fun x hx => lfAll_iff.mp h x (s x hx)
theorem depth_subset {D : Nat} {xs ys : List PyData} (h : PyData.depthAll ys ≤ D) (s : ∀ x ∈ xs, x ∈ ys) : PyData.depthAll xs ≤ D := depth_all.mpr fun x hx => depth_all.mp h x (s x hx)
theorem depth_app {D : Nat} {xs ys : List PyData} (h : PyData.depthAll xs ≤ D) (g : PyData.depthAll ys ≤ D) : PyData.depthAll (xs ++ ys) ≤ D := depth_all.mpr fun x hx => (List.mem_append.mp hx).elim (depth_all.mp h x) (depth_all.mp g x)
theorem cut_sub {α : Type} (xs : List α) (lo hi : Option Int) : (cutL xs lo hi).Sublist xs := by
  unfold cutL
  exact (List.take_sublist _ _).trans (List.drop_sublist _ _)
theorem int_vk {M : Nat} {i : Int} (h : i.natAbs ≤ M) (hM : M ≤ 2 ^ 100) (L D : Nat) : Vk M L 101 D (.int i) := by
  refine ⟨decide_eq_true h, ?_, Nat.zero_le _⟩
  show (if i == 0 then 0 else i.natAbs.log2 + 1) ≤ 101
  have := log_low (Nat.le_trans h hM)
  split <;> omega
theorem chars_low (s : String) : ((Str.ofString s).cps.toList.all fun c => decide (c < 16 ^ 8)) = true := by
  rw [List.all_eq_true]
  intro c hc
  rw [Str.ofString_eq_toList] at hc
  obtain ⟨ch, _, e⟩ := List.mem_map.mp (show c ∈ s.toList.map Char.toNat by simpa using hc)
  refine decide_eq_true ?_
  have v := ch.valid
  have h : ch.toNat < 0x110000 := by
    rcases v with v | v
    · exact Nat.lt_trans v (by decide)
    · exact v.2
  rw [← e]
  exact Nat.lt_trans h (by decide)
/-! ## drawn values, and values with a part otherwise -/
theorem one_V_ok {k : Cup} {xs : List PyData} {N : Int} (hk : CupOk k N) (hN : N ≤ 990000) (hx : xs ≠ []) (hl : xs.length ≤ 1000) : Tot (m_l_one_V k xs) fun r => r.1 ∈ xs ∧ CupOk r.2 (N + 1) := by
  have lp : 0 < xs.length := List.length_pos_iff.mpr hx
  unfold m_l_one_V
  refine Tot.bind (dip_ok hk (by omega) (by omega) (sml64 (by omega) (by omega))) fun r1 ⟨a1, a2, c1⟩ => ?_
  exact Tot.bind (at_int (P := fun z => z ∈ xs) a1 a2 fun x hx => List.mem_of_getElem? hx) fun t2 h2 => Tot.ret ⟨h2, c1⟩
theorem one_ok {k : Cup} {xs : List Int} {N : Int} (hk : CupOk k N) (hN : N ≤ 990000) (hx : xs ≠ []) (hl : xs.length ≤ 1000) : Tot (m_l_one k xs) fun r => r.1 ∈ xs ∧ CupOk r.2 (N + 1) := by
  have lp : 0 < xs.length := List.length_pos_iff.mpr hx
  unfold m_l_one
  refine Tot.bind (dip_ok hk (by omega) (by omega) (sml64 (by omega) (by omega))) fun r1 ⟨a1, a2, c1⟩ => ?_
  exact Tot.bind (at_int (P := fun z => z ∈ xs) a1 a2 fun x hx => List.mem_of_getElem? hx) fun t2 h2 => Tot.ret ⟨h2, c1⟩
def vkB (M L W D : Nat) (d : PyData) : Bool := lf M L d && decide (d.weight ≤ W) && decide (d.depth ≤ D)
theorem vkB_vk {M L W D : Nat} {d : PyData} (h : vkB M L W D d = true) : Vk M L W D d := by
  unfold vkB at h
  rw [Bool.and_eq_true, Bool.and_eq_true] at h
  exact ⟨h.1.1, of_decide_eq_true h.1.2, of_decide_eq_true h.2⟩
theorem weight_tuple (xs : List PyData) : (PyData.tuple xs).weight = PyData.weightAll xs := rfl
theorem weight_list (xs : List PyData) : (PyData.list xs).weight = PyData.weightAll xs := rfl
theorem depth_tuple (xs : List PyData) : (PyData.tuple xs).depth = PyData.depthAll xs + 1 := rfl
theorem depth_list (xs : List PyData) : (PyData.list xs).depth = PyData.depthAll xs + 1 := rfl
theorem wa1 (x : PyData) : PyData.weightAll [x] = x.weight + 1 := rfl
theorem da1 (x : PyData) : PyData.depthAll [x] = x.depth := Nat.max_eq_left (Nat.zero_le _)
theorem lfa1 {M L : Nat} {x : PyData} (h : lf M L x = true) : lfAll M L [x] = true := by rw [lfAll, h]; rfl
theorem vk_t1 {M L W D : Nat} {x : PyData} (h : Vk M L W D x) (hL : 1 ≤ L) : Vk M L (W + 1) (D + 1) (.tuple [x]) := Vk.ofParts hL (lfa1 h.lf) (by rw [wa1]; have := h.wt; omega) (by rw [da1]; have := h.dp; omega)
theorem vk_l1 {M L W D : Nat} {x : PyData} (h : Vk M L W D x) : Vk M L (W + 1) (D + 1) (.list [x]) := ⟨lfa1 h.lf, by rw [weight_list, wa1]; have := h.wt; omega, by rw [depth_list, da1]; have := h.dp; omega⟩
theorem vk_t2 {M L W1 W2 D : Nat} {x y : PyData} (h : Vk M L W1 D x) (g : Vk M L W2 D y) (hL : 2 ≤ L) : Vk M L (W1 + W2 + 2) (D + 1) (.tuple [x, y]) := Vk.ofParts hL (by
  show (lf M L x && (lf M L y && true)) = true
  rw [h.lf, g.lf]; rfl) (by
  show x.weight + 1 + (y.weight + 1 + 0) ≤ _
  have := h.wt; have := g.wt; omega) (by
  show max x.depth (max y.depth 0) + 1 ≤ _
  have := h.dp; have := g.dp; omega)
def oddSome : List PyData := [PyData.none, (PyData.bool true), (PyData.bool false), (PyData.int (0 : Int)), (PyData.int (1 : Int)), (PyData.int (-(1 : Int))), (PyData.int (12 : Int)), (PyData.int (10 ^ 30)), (PyData.str ("" : Str)), (PyData.str ("a" : Str)), (PyData.str ("-" : Str)), (PyData.tuple []), (PyData.list []), (PyData.dict []), (PyData.tuple [(PyData.int (0 : Int))]), (PyData.tuple [(PyData.int (1 : Int)), (PyData.int (0 : Int))]), (PyData.tuple [(PyData.tuple [(PyData.int (0 : Int))]), (PyData.int (1 : Int))]), (PyData.tuple [(PyData.tuple [(PyData.tuple [(PyData.int (0 : Int))]), (PyData.int (1 : Int))])])] ++ [(PyData.list [(PyData.tuple [(PyData.tuple [(PyData.int (0 : Int))]), (PyData.int (1 : Int))])]), (PyData.tuple [(PyData.tuple [(PyData.int (0 : Int)), (PyData.int (0 : Int))]), (PyData.int (1 : Int))]), (PyData.tuple [(PyData.tuple [(PyData.int (0 : Int))]), (PyData.int (0 : Int))]), (PyData.tuple [(PyData.tuple [(PyData.int (1 : Int)), (PyData.int (0 : Int))]), (PyData.int (2 : Int))]), (PyData.tuple [(PyData.tuple [(PyData.str ("a" : Str))]), (PyData.int (1 : Int))]), (PyData.tuple [(PyData.tuple [(PyData.bool true)]), (PyData.int (0 : Int))]), (PyData.tuple [(PyData.tuple [(PyData.int (0 : Int))]), PyData.none]), (PyData.dict [(PyData.str ("a" : Str), (PyData.int (1 : Int)))])]
theorem odd_all : oddSome.all (vkB (10 ^ 30) 2 110 4) = true := by decide +kernel
/-- the bounds of a drawn value -/
abbrev Odd1 (M : Nat) (d : PyData) : Prop := Vk M 2 200 13 d
theorem odd_ok {k : Cup} {N : Int} {M : Nat} (hM : 10 ^ 30 ≤ M) (hk : CupOk k N) (hN : N ≤ 980000) : Tot (m_l_odd k) fun r => Odd1 M r.1 ∧ CupOk r.2 (N + 11) := by
  unfold m_l_odd
  refine Tot.bind (P := (· = 10 ^ 30)) (tot_pow (by decide) (by decide) (sml64 (by decide) (by decide)) rfl) fun t1 e => ?_
  subst e
  refine Tot.bind (P := (· = oddSome)) (Tot.ite (by rw [sizeLine_eq]; simp) rfl) fun t3 e => ?_
  subst e
  refine Tot.bind (one_V_ok hk (by omega) (by unfold oddSome; simp) (by unfold oddSome; simp)) fun r4 ⟨h4, c4⟩ => ?_
  have v4 := vkB_vk (List.all_eq_true.mp odd_all _ h4)
  refine Tot.bind (one_ok c4 (by omega) (by simp) (by simp)) fun r5 ⟨h5, c5⟩ => ?_
  have b5 : 0 ≤ r5.1 ∧ r5.1 ≤ 9 := by
    simp only [List.mem_cons, List.not_mem_nil, or_false] at h5
    omega
  refine Tot.bind (P := (· = rangeI 0 r5.1)) (tot_range (by omega) (by omega) (by omega) (by omega) (by omega) rfl) fun t6 e => ?_
  subst e
  have len : (rangeI 0 r5.1).length = r5.1.toNat := by rw [len_rangeI]; omega
  refine Tot.bind (Tot.fold (I := fun j (b : PyData × Cup) => Vk M 2 (110 + 10 * j) (4 + j) b.1 ∧ CupOk b.2 (N + 2 + (j : Int))) _ _ 0 ⟨v4.mono hM (by omega) (by omega) (by omega), c5.mono (by omega)⟩ fun j x b hx ⟨hv, hc⟩ => ?_) fun o ⟨hv, hc⟩ => ?_
  · obtain ⟨ex, hj⟩ := rangeI_get hx
    rw [Nat.zero_add] at hv hc ⊢
    have hv1 : lf M 2 b.1 = true := hv.lf
    have hw := hv.wt
    have hd := hv.dp
    have i1 : lf M 2 (.int 1) = true := decide_eq_true (by show 1 ≤ M; omega)
    have out : ∀ z ∈ ([(PyData.tuple [b.1]), (PyData.list [b.1]), (PyData.dict [(PyData.str ("a" : Str), b.1)]), (PyData.tuple [b.1, (PyData.int (1 : Int))]), (PyData.tuple [(PyData.int (1 : Int)), b.1])] : List PyData), Vk M 2 (110 + 10 * (j + 1)) (4 + (j + 1)) z := by
      intro z hz
      have wi : (PyData.int 1).weight = 1 := rfl
      have sa : (PyData.str ("a" : Str)).weight = 1 := by decide +kernel
      have la : lf M 2 (PyData.str ("a" : Str)) = true := by
        show lf 0 2 (PyData.str ("a" : Str)) = true
        decide +kernel
      simp only [List.mem_cons, List.not_mem_nil, or_false] at hz
      rcases hz with e | e | e | e | e <;> subst e
      · exact (vk_t1 hv (by decide)).mono (Nat.le_refl _) (by omega) (by omega) (by omega)
      · exact (vk_l1 hv).mono (Nat.le_refl _) (by omega) (by omega) (by omega)
      · refine ⟨?_, ?_, ?_⟩
        · show (lf M 2 (PyData.str ("a" : Str)) && lf M 2 b.1 && true) = true
          rw [la, hv1]; rfl
        · show PyData.weightKv [(PyData.str ("a" : Str), b.1)] ≤ _
          rw [PyData.weightKv, PyData.weightKv, sa]
          omega
        · show max (max 0 b.1.depth) 0 + 1 ≤ _
          omega
      · exact (vk_t2 hv ⟨i1, Nat.le_of_eq wi, Nat.zero_le _⟩ (by decide)).mono (Nat.le_refl _) (by omega) (by omega) (by omega)
      · exact (vk_t2 (⟨i1, Nat.le_of_eq wi, Nat.zero_le _⟩ : Vk M 2 1 (4 + j) (.int 1)) hv (by decide)).mono (Nat.le_refl _) (by omega) (by omega) (by omega)
    exact Tot.bind (one_V_ok hc (by omega) (by simp) (by simp)) fun r10 ⟨h10, c10⟩ => Tot.ret ⟨out _ h10, c10.mono (by omega)⟩
  · rw [len, Nat.zero_add] at hv hc
    exact Tot.ret ⟨hv.mono (Nat.le_refl _) (by omega) (by omega) (by omega), hc.mono (by omega)⟩

/-! ## values with a part otherwise: the lengths of tuples, too -/
theorem str_int_ok {i : Int} {M L : Nat} (h : i.natAbs ≤ M) (hM : M ≤ 2 ^ 100) : Tot (oStrI i) fun z => lf M L (.str z) = true ∧ (PyData.str z).weight ≤ 200 := by
  have l := log_low (Nat.le_trans h hM)
  have sz : (((toString i : String) : Str)).cps.size ≤ 200 := int_text_low (Nat.le_trans h hM)
  exact Tot.ite (by omega) ⟨by
    show ((((toString i : String) : Str).cps.toList.all fun c => decide (c < 16 ^ 8)) && decide (((toString i : String) : Str).cps.size ≤ 200)) = true
    rw [chars_low, decide_eq_true sz]
    rfl, sz⟩
/-- weight, after a part is put otherwise -/
abbrev bentW (n W : Nat) : Nat := (n + 2) * (W + 1) + 250
theorem isTup_of {d : PyData} (h : isTupD d = true) : ∃ xs, d = .tuple xs := by cases d <;> first | exact ⟨_, rfl⟩ | cases h
theorem isInt_of {d : PyData} (h : isIntD d = true) (g : isBoolD d = false) : ∃ i, d = .int i := by
  cases d with
  | int i => exact ⟨i, rfl⟩
  | bool b => exact absurd g (by simp [isBoolD])
  | _ => cases h
theorem cut_fro {α : Type} {xs : List α} {i : Int} (h : 0 ≤ i) : cutL xs (some i) none = xs.drop i.toNat := by
  obtain ⟨m, rfl⟩ := Int.eq_ofNat_of_zero_le h
  unfold cutL
  rw [HT.sIx_none, HT.sIx_nat, Int.toNat_natCast]
  rcases Nat.le_total m xs.length with h | h
  · rw [Nat.min_eq_left h]
    exact List.take_of_length_le (by rw [List.length_drop]; exact Nat.le_refl _)
  · rw [Nat.min_eq_right h]
    simp [List.drop_eq_nil_of_le h]
theorem vtv (t : List PyData) : (vTup vVal).d t = .tuple t := congrArg PyData.tuple (List.map_id t)
theorem sub_vk {M L W D : Nat} {xs ys : List PyData} (h : Vk M L W D (.tuple xs)) (s : ys.Sublist xs) : Vk M L W D (.tuple ys) := Vk.ofParts (Nat.le_trans s.length_le h.parts.1) (lf_subset h.parts.2.1 fun x hx => s.subset hx) (Nat.le_trans (weight_sub s) h.parts.2.2.1) (Nat.le_trans (Nat.add_le_add_right (depth_subset (Nat.le_refl _) fun x hx => s.subset hx) 1) h.parts.2.2.2)
theorem part_vk {M L W D : Nat} {xs : List PyData} {x : PyData} (h : Vk M L W D (.tuple xs)) (hx : x ∈ xs) : Vk M L W (D - 1) x := ⟨lfAll_iff.mp h.parts.2.1 x hx, by have := weight_mem hx; have := h.parts.2.2.1; omega, by have := depth_all.mp (Nat.le_refl (PyData.depthAll xs)) x hx; have := h.parts.2.2.2; omega⟩
theorem bent_step {mrec : Cup → PyData → Int → Option (PyData × Cup)} {M L W D Wc : Nat} {k : Cup} {d : PyData} {deep N E : Int} (hM0 : 10 ^ 30 ≤ M) (hM : M < 2 ^ 100) (hd : Vk M L W D d) (hL : L ≤ 10000) (hk : CupOk k N) (hN : N ≤ 900000) (hE : 0 ≤ E) (hWc : 2 * W + 250 ≤ W + 1 + Wc)
    (hrec : ∀ x c, 0 < deep → Vk M L W (D - 1) x → CupOk c (N + 2) → Tot (mrec c x (deep - 1)) fun r => Vk (M + 1) (L + 2) Wc (D - 1 + 15) r.1 ∧ CupOk r.2 (N + 20 + E)) :
    Tot (mb_l_bent mrec k d deep) fun r => Vk (M + 1) (L + 2) (W + 1 + Wc) (D + 15) r.1 ∧ CupOk r.2 (N + 20 + E) := by
  unfold mb_l_bent
  refine Tot.bind (P := fun r => (r.1 = true → 0 < deep ∧ ∃ xs, d = .tuple xs ∧ xs ≠ []) ∧ CupOk r.2 (N + 1)) (Tot.cond (fun h0 => ?_) fun _ => Tot.ret ⟨fun h => (by cases h), hk.mono (by omega)⟩) fun t7 ⟨h7, c7⟩ => ?_
  · refine Tot.bind (P := fun r => (r.1 = true → ∃ xs, d = .tuple xs ∧ xs ≠ []) ∧ CupOk r.2 (N + 1)) (Tot.cond (fun h1 => ?_) fun _ => Tot.ret ⟨fun h => (by cases h), hk.mono (by omega)⟩) fun t5 ⟨h5, c5⟩ => Tot.ret ⟨fun h => ⟨of_decide_eq_true h0, h5 h⟩, c5⟩
    obtain ⟨xs, e⟩ := isTup_of h1
    subst e
    refine Tot.bind (P := (· = xs)) (Tot.of rfl rfl) fun u1 e => ?_
    subst e
    refine Tot.bind (P := fun r => (r.1 = true → u1 ≠ []) ∧ CupOk r.2 (N + 1)) (Tot.cond (fun h2 => ?_) fun _ => Tot.ret ⟨fun h => (by cases h), hk.mono (by omega)⟩) fun t3 ⟨h3, c3⟩ => Tot.ret ⟨fun h => ⟨u1, rfl, h3 h⟩, c3⟩
    refine Tot.bind (dip_ok hk (by omega) (by decide) (sml64 (by decide) (by decide))) fun r2 ⟨_, _, c2⟩ => Tot.ret ⟨fun _ e => ?_, c2⟩
    rw [e] at h2
    cases h2
  refine Tot.cond (fun hc => ?_) fun _ => ?_
  · obtain ⟨hp, xs, e, ne⟩ := h7 hc
    subst e
    have lp : 0 < xs.length := List.length_pos_iff.mpr ne
    have lL : xs.length ≤ L := hd.parts.1
    have hD : 1 ≤ D := by have := hd.parts.2.2.2; omega
    refine Tot.bind (P := (· = xs)) (Tot.of rfl rfl) fun u9 e => ?_
    subst e
    refine Tot.bind (dip_ok c7 (by omega) (by omega) (sml64 (by omega) (by omega))) fun r10 ⟨a1, a2, c10⟩ => ?_
    refine Tot.bind (P := (· = u9)) (Tot.of rfl rfl) fun u11 e => ?_
    subst e
    refine Tot.bind (P := (· = u11)) (Tot.of rfl rfl) fun u12 e => ?_
    subst e
    refine Tot.bind (at_int (P := fun z => z ∈ u12) a1 a2 fun x hx => List.mem_of_getElem? hx) fun t13 h13 => ?_
    refine Tot.bind (hrec t13 r10.2 hp (part_vk hd h13) (c10.mono (by omega))) fun r14 ⟨v14, c14⟩ => ?_
    rw [cut_to a1]
    refine Tot.bind (P := (· = u12.take r10.1.toNat ++ [r14.1])) (Tot.ite (by rw [sizeLine_eq, List.length_take]; simp; omega) rfl) fun t15 e => ?_
    subst e
    refine Tot.bind (P := (· = u12)) (Tot.of rfl rfl) fun u16 e => ?_
    subst e
    rw [cut_fro (show 0 ≤ r10.1 + 1 by omega)]
    refine Tot.bind (P := (· = (u16.take r10.1.toNat ++ [r14.1]) ++ u16.drop (r10.1 + 1).toNat)) (Tot.ite (by rw [sizeLine_eq, List.length_append, List.length_take, List.length_drop]; simp; omega) rfl) fun t17 e => ?_
    subst e
    rw [vtv]
    refine Tot.ret ⟨Vk.ofParts ?_ ?_ ?_ ?_, c14⟩
    · rw [List.length_append, List.length_append, List.length_take, List.length_drop]
      simp
      omega
    · have up := lfAll_mono (Nat.le_succ M) (show L ≤ L + 2 by omega) _ hd.parts.2.1
      refine lf_app (lf_app ?_ (lfa1 v14.lf)) ?_
      · exact lf_subset up fun x hx => List.mem_of_mem_take hx
      · exact lf_subset up fun x hx => List.mem_of_mem_drop hx
    · have sp : (u16.take r10.1.toNat ++ u16.drop (r10.1 + 1).toNat).Sublist u16 := by
        conv => rhs; rw [← List.take_append_drop r10.1.toNat u16]
        refine List.Sublist.append (List.Sublist.refl _) ?_
        exact List.drop_sublist_drop_left _ (by omega)
      have w1 := weight_sub sp
      have w2 := v14.wt
      have w3 := hd.parts.2.2.1
      rw [weight_app, weight_app, wa1]
      rw [weight_app] at w1
      omega
    · have w2 := v14.dp
      have w3 := hd.parts.2.2.2
      have : PyData.depthAll ((u16.take r10.1.toNat ++ [r14.1]) ++ u16.drop (r10.1 + 1).toNat) ≤ D + 14 := by
        refine depth_app (depth_app ?_ (by rw [da1]; omega)) ?_
        · exact depth_subset (by omega) fun x hx => List.mem_of_mem_take hx
        · exact depth_subset (by omega) fun x hx => List.mem_of_mem_drop hx
      omega
  · refine Tot.bind (P := fun r => (r.1 = true → ∃ xs, d = .tuple xs) ∧ CupOk r.2 (N + 2)) (Tot.cond (fun h1 => ?_) fun _ => Tot.ret ⟨fun h => (by cases h), c7.mono (by omega)⟩) fun t19 ⟨h19, c19⟩ => ?_
    · refine Tot.bind (dip_ok c7 (by omega) (by decide) (sml64 (by decide) (by decide))) fun r18 ⟨_, _, c18⟩ => Tot.ret ⟨fun _ => isTup_of h1, c18.mono (by omega)⟩
    refine Tot.cond (fun hc => ?_) fun _ => ?_
    · obtain ⟨xs, e⟩ := h19 hc
      subst e
      have lL : xs.length ≤ L := hd.parts.1
      have hf := hd.parts.2.1
      have hw := hd.parts.2.2.1
      have hdp := hd.parts.2.2.2
      have mono : ∀ {z : PyData}, Vk M (L + 2) (2 * W + 250) (D + 1) z → Vk (M + 1) (L + 2) (W + 1 + Wc) (D + 15) z := fun h => h.mono (by omega) (Nat.le_refl _) (by omega) (by omega)
      have up := lfAll_mono (Nat.le_refl M) (show L ≤ L + 2 by omega) _ hf
      refine Tot.bind (P := (· = xs)) (Tot.of rfl rfl) fun u21 e => ?_
      subst e
      refine Tot.bind (P := (· = u21)) (Tot.of rfl rfl) fun u22 e => ?_
      subst e
      refine Tot.bind (P := (· = u22)) (Tot.of rfl rfl) fun u23 e => ?_
      subst e
      have s1 := cut_sub u23 (some (-(1 : Int))) none
      have s2 := cut_sub u23 (some (1 : Int)) none
      have s3 := cut_sub u23 none (some (-(1 : Int)))
      refine Tot.bind (P := (· = u23 ++ cutL u23 (some (-(1 : Int))) none)) (Tot.ite (by rw [sizeLine_eq]; have := s1.length_le; omega) rfl) fun t24 e => ?_
      subst e
      refine Tot.bind (P := (· = u23)) (Tot.of rfl rfl) fun u25 e => ?_
      subst e
      refine Tot.bind (P := (· = u25)) (Tot.of rfl rfl) fun u26 e => ?_
      subst e
      refine Tot.bind (P := (· = u26)) (Tot.of rfl rfl) fun u27 e => ?_
      subst e
      refine Tot.bind (one_V_ok c19 (by omega) (by simp) (by simp)) fun r28 ⟨h28, c28⟩ => Tot.ret ⟨?_, c28.mono (by omega)⟩
      have lastlen : (cutL u27 (some (-(1 : Int))) none).length ≤ 1 := by
        unfold cutL
        rw [HT.sIx_none, List.length_take, List.length_drop]
        unfold HT.sIx
        simp
        omega
      have h28 : r28.1 ∈ ([(PyData.list u27), ((vTup vVal).d (u27 ++ cutL u27 (some (-(1 : Int))) none)), ((vTup vVal).d u27.reverse), ((vTup vVal).d (cutL u27 (some (1 : Int)) none)), ((vTup vVal).d (cutL u27 none (some (-(1 : Int))))), (PyData.tuple [.tuple u27])] : List PyData) := h28
      rw [vtv, vtv, vtv, vtv] at h28
      simp only [List.mem_cons, List.not_mem_nil, or_false] at h28
      show Vk (M + 1) (L + 2) (W + 1 + Wc) (D + 15) r28.1
      generalize r28.1 = z at h28 ⊢
      rcases h28 with e | e | e | e | e | e <;> subst e
      · exact mono (Vk.ofPartsL up (by omega) (by omega))
      · refine mono (Vk.ofParts ?_ (lf_app up (lf_subset up fun x hx => s1.subset hx)) ?_ ?_)
        · rw [List.length_append]
          omega
        · rw [weight_app]
          have := weight_sub s1
          omega
        · have := depth_app (D := D) (xs := u27) (ys := cutL u27 (some (-(1 : Int))) none) (by omega) (depth_subset (by omega) fun x hx => s1.subset hx)
          omega
      · refine mono (Vk.ofParts ?_ (lf_subset up fun x hx => List.mem_reverse.mp hx) ?_ ?_)
        · rw [List.length_reverse]; omega
        · rw [weight_rev]; omega
        · have := depth_subset (D := PyData.depthAll u27) (xs := u27.reverse) (Nat.le_refl _) fun x hx => List.mem_reverse.mp hx
          omega
      · exact mono ((sub_vk hd s2).mono (Nat.le_refl _) (by omega) (by omega) (by omega))
      · exact mono ((sub_vk hd s3).mono (Nat.le_refl _) (by omega) (by omega) (by omega))
      · exact mono ((vk_t1 (hd.mono (Nat.le_refl _) (show L ≤ L + 2 by omega) (Nat.le_refl _) (Nat.le_refl _)) (by omega)).mono (Nat.le_refl _) (Nat.le_refl _) (by omega) (by omega))
    · refine Tot.bind (P := fun r => (r.1 = true → ∃ i, d = .int i) ∧ CupOk r.2 (N + 3)) (Tot.cond (fun h1 => ?_) fun _ => Tot.ret ⟨fun h => (by cases h), c19.mono (by omega)⟩) fun t32 ⟨h32, c32⟩ => ?_
      · refine Tot.bind (P := fun r => (r.1 = true → ∃ i, d = .int i) ∧ CupOk r.2 (N + 3)) (Tot.cond (fun h2 => ?_) fun _ => Tot.ret ⟨fun h => (by cases h), c19.mono (by omega)⟩) fun t30 ⟨h30, c30⟩ => Tot.ret ⟨h30, c30⟩
        refine Tot.bind (dip_ok c19 (by omega) (by decide) (sml64 (by decide) (by decide))) fun r29 ⟨_, _, c29⟩ => Tot.ret ⟨fun _ => isInt_of h1 (by simpa using h2), c29.mono (by omega)⟩
      refine Tot.cond (fun hc => ?_) fun _ => ?_
      · obtain ⟨i, e⟩ := h32 hc
        subst e
        have hi : i.natAbs ≤ M := of_decide_eq_true hd.lf
        refine Tot.bind (P := (· = i)) (Tot.of rfl rfl) fun u34 e => ?_
        subst e
        refine Tot.bind (P := (· = u34)) (Tot.of rfl rfl) fun u35 e => ?_
        subst e
        refine Tot.bind (P := (· = u35)) (Tot.of rfl rfl) fun u36 e => ?_
        subst e
        refine Tot.bind (P := (· = u36)) (Tot.of rfl rfl) fun u37 e => ?_
        subst e
        refine Tot.bind (str_int_ok (L := L + 2) hi (by omega)) fun t38 ⟨s1, s2⟩ => ?_
        refine Tot.bind (P := (· = u37)) (Tot.of rfl rfl) fun u39 e => ?_
        subst e
        refine Tot.bind (one_V_ok c32 (by omega) (by simp) (by simp)) fun r40 ⟨h40, c40⟩ => Tot.ret ⟨?_, c40.mono (by omega)⟩
        simp only [List.mem_cons, List.not_mem_nil, or_false] at h40
        show Vk (M + 1) (L + 2) (W + 1 + Wc) (D + 15) r40.1
        generalize r40.1 = z at h40 ⊢
        have hMM : M + 1 ≤ 2 ^ 100 := hM
        rcases h40 with e | e | e | e | e | e <;> subst e
        · exact (int_vk (M := M + 1) (by omega) hMM (L + 2) 0).mono (Nat.le_refl _) (Nat.le_refl _) (by omega) (by omega)
        · exact (int_vk (M := M + 1) (by omega) hMM (L + 2) 0).mono (Nat.le_refl _) (Nat.le_refl _) (by omega) (by omega)
        · exact (int_vk (M := M + 1) (by omega) hMM (L + 2) 0).mono (Nat.le_refl _) (Nat.le_refl _) (by omega) (by omega)
        · exact ⟨s1, by omega, Nat.zero_le _⟩
        · exact (vk_t1 (hd.mono (Nat.le_refl _) (show L ≤ L + 2 by omega) (Nat.le_refl _) (Nat.le_refl _)) (by omega)).mono (by omega) (Nat.le_refl _) (by omega) (by omega)
        · exact ⟨rfl, Nat.zero_le _, Nat.zero_le _⟩
      · exact Tot.bind (odd_ok hM0 c32 (by omega)) fun r41 ⟨v, c41⟩ => Tot.ret ⟨v.mono (by omega) (by omega) (by omega) (by omega), c41.mono (by omega)⟩
theorem bent_ok {M : Nat} (hM0 : 10 ^ 30 ≤ M) (hM : M < 2 ^ 100) : ∀ (n L W D : Nat) (k : Cup) (d : PyData) (deep N : Int), Vk M L W D d → L ≤ 10000 → W ≤ 10000 → deep ≤ (n : Int) → CupOk k N → N + 4 * n ≤ 900000 →
    Tot (m_l_bent (n + 1) k d deep) fun r => Vk (M + 1) (L + 2) (bentW n W) (D + 15) r.1 ∧ CupOk r.2 (N + 20 + 2 * n) := by
  intro n
  induction n with
  | zero =>
    intro L W D k d deep N hd hL hW hp hk hN
    refine (bent_step (Wc := W + 250) (E := 0) hM0 hM hd hL hk (by omega) (by omega) (by omega) fun x c h => ?_).imp fun r ⟨h1, h3⟩ => ⟨h1.mono (Nat.le_refl _) (Nat.le_refl _) (by unfold bentW; omega) (Nat.le_refl _), h3.mono (by omega)⟩
    exact absurd h (by omega)
  | succ n ih =>
    intro L W D k d deep N hd hL hW hp hk hN
    refine (bent_step (Wc := bentW n W) (E := 2 * ((n + 1 : Nat) : Int)) hM0 hM hd hL hk (by omega) (by omega) (by unfold bentW; rw [Nat.add_mul]; have := Nat.zero_le (n * (W + 1)); omega) fun x c h hx hc => ?_).imp fun r ⟨h1, h3⟩ => ⟨h1.mono (Nat.le_refl _) (Nat.le_refl _) (by unfold bentW; rw [show n + 1 + 2 = (n + 2) + 1 from rfl, Nat.add_mul (n + 2) 1]; omega) (Nat.le_refl _), h3.mono (by omega)⟩
    exact (ih L W (D - 1) c x (deep - 1) (N + 2) hx hL hW (by omega) hc (by omega)).imp fun r ⟨h1, h3⟩ => ⟨h1, h3.mono (by omega)⟩

/-! ## values that can be shown -/
structure Rp (W D : Nat) (d : PyData) : Prop where
  leaf : d.leavesShort 200 = true
  show' : d.showable = true
  wt : d.weight ≤ W
  dp : d.depth ≤ D
theorem Vk.rp {M L W D : Nat} {d : PyData} (h : Vk M L W D d) (hM : M ≤ 2 ^ 100) : Rp W D d := ⟨(lf_short hM d h.lf).1, (lf_short hM d h.lf).2, h.wt, h.dp⟩
theorem Rp.mono {W D W' D' : Nat} {d : PyData} (h : Rp W D d) (h1 : W ≤ W') (h2 : D ≤ D') : Rp W' D' d := ⟨h.leaf, h.show', Nat.le_trans h.wt h1, Nat.le_trans h.dp h2⟩
theorem Rp.text {W D : Nat} {d : PyData} (h : Rp W D d) (hW : W ≤ 80000) (hD : D ≤ 60) : oReprW d = some d.shown := by
  refine if_pos ⟨h.show', Nat.le_trans h.dp hD, ?_⟩
  have := PyData.shown_le 200 (by decide) d h.leaf
  have w := h.wt
  have : (200 + 2) * d.weight ≤ 202 * 80000 := Nat.mul_le_mul_left _ (Nat.le_trans w hW)
  rw [sizeLine_eq]
  omega
theorem rp_t2 {W1 W2 D : Nat} {x y : PyData} (h : Rp W1 D x) (g : Rp W2 D y) : Rp (W1 + W2 + 2) (D + 1) (.tuple [x, y]) := ⟨by
  show (x.leavesShort 200 && (y.leavesShort 200 && true)) = true
  rw [h.leaf, g.leaf]; rfl, by
  show (x.showable && (y.showable && true)) = true
  rw [h.show', g.show']; rfl, by
  show x.weight + 1 + (y.weight + 1 + 0) ≤ _
  have := h.wt; have := g.wt; omega, by
  show max x.depth (max y.depth 0) + 1 ≤ _
  have := h.dp; have := g.dp; omega⟩
theorem rp_word (s : String) (h : (Str.ofString s).cps.toList.all (fun c => decide (c < 16 ^ 8)) = true) (h2 : (Str.ofString s).cps.size ≤ 10) (D : Nat) : Rp 10 D (PyData.str (s : Str)) := ⟨h, rfl, h2, Nat.zero_le _⟩
theorem Rp.own {W D : Nat} {d : PyData} (h : Rp W D d) (hW : W ≤ 80000) : oRepr d = some d.shown := by
  refine if_pos ⟨h.show', ?_⟩
  have := PyData.shown_le 200 (by decide) d h.leaf
  have w := h.wt
  have : (200 + 2) * d.weight ≤ 202 * 80000 := Nat.mul_le_mul_left _ (Nat.le_trans w hW)
  rw [sizeLine_eq]
  omega
theorem rp_all {W D : Nat} : ∀ {xs : List PyData}, (∀ x ∈ xs, Rp W D x) → PyData.leavesShortAll 200 xs = true ∧ PyData.showableAll xs = true ∧ PyData.weightAll xs ≤ (W + 1) * xs.length ∧ PyData.depthAll xs ≤ D
  | [], _ => ⟨rfl, rfl, Nat.le_refl _, Nat.zero_le _⟩
  | x :: xs, h => by
    obtain ⟨a, b, c, e⟩ := rp_all fun y hy => h y (List.mem_cons_of_mem _ hy)
    have v := h x (by simp)
    have w := v.wt
    have d := v.dp
    rw [List.length_cons, PyData.leavesShortAll, PyData.showableAll, PyData.weightAll, PyData.depthAll, a, b, v.leaf, v.show', Nat.mul_succ]
    exact ⟨rfl, rfl, by omega, Nat.max_le.mpr ⟨d, e⟩⟩
theorem rp_tup {W D n : Nat} {xs : List PyData} (h : ∀ x ∈ xs, Rp W D x) (hn : xs.length ≤ n) : Rp ((W + 1) * n) (D + 1) (.tuple xs) := by
  obtain ⟨a, b, c, e⟩ := rp_all h
  exact ⟨a, b, Nat.le_trans c (Nat.mul_le_mul_left _ hn), Nat.succ_le_succ e⟩
theorem rp_lst {W D n : Nat} {xs : List PyData} (h : ∀ x ∈ xs, Rp W D x) (hn : xs.length ≤ n) : Rp ((W + 1) * n) (D + 1) (.list xs) := by
  obtain ⟨a, b, c, e⟩ := rp_all h
  exact ⟨a, b, Nat.le_trans c (Nat.mul_le_mul_left _ hn), Nat.succ_le_succ e⟩
theorem rp_int {i : Int} (h : i.natAbs < 2 ^ 150) (D : Nat) : Rp 151 D (.int i) := by
  have lg : i.natAbs.log2 < 150 := by
    by_cases e : i.natAbs = 0
    · rw [e]; decide
    · exact (Nat.log2_lt e).mpr h
  refine ⟨decide_eq_true ?_, decide_eq_true (by omega), ?_, Nat.zero_le _⟩
  · show (Str.ofString (toString i)).length ≤ 200
    rw [PySem.ofString_length]
    have := int_text_length_le (k := 150) (by decide) lg
    omega
  · show (if i == 0 then 0 else i.natAbs.log2 + 1) ≤ 151
    split <;> omega
theorem rp_bool (b : Bool) (D : Nat) : Rp 1 D (.bool b) := ⟨rfl, rfl, by cases b <;> decide, Nat.zero_le _⟩
theorem rp_none (D : Nat) : Rp 1 D .none := ⟨rfl, rfl, by decide, Nat.zero_le _⟩
theorem rp_str {s : String} {n : Nat} (h : s.length ≤ n) (D : Nat) : Rp n D (.str (s : Str)) := ⟨chars_low s, rfl, by
  show (Str.ofString s).length ≤ n
  rw [PySem.ofString_length]
  exact h, Nat.zero_le _⟩

/-- the law asks a given number of times -/
theorem all_right {f : Cup → Int → Option (Option Bool × Cup)} {n : Int} {k : Cup} (h0 : 0 ≤ n) (h1 : n ≤ 100) (hk : CupOk k 0) (d : Int) (hd : 0 ≤ d ∧ d ≤ 5000) (hf : ∀ c x (N : Int), CupOk c N → N ≤ 600000 → Tot (f c x) fun r => r.1 = some true ∧ CupOk r.2 (N + d)) :
    Tot (lcO f (rangeI 0 n) k) fun r => r.1.all id = true := by
  have hb : ∀ j : Nat, (j : Int) < n → (j : Int) * d ≤ 100 * 5000 := fun j hj => Int.mul_le_mul (by omega) hd.2 hd.1 (by omega)
  refine (Tot.lc (I := fun i (acc : List Bool) c => acc.all id = true ∧ CupOk c ((i : Int) * d)) _ _ 0 [] ⟨rfl, by rw [show ((0 : Nat) : Int) * d = 0 from Int.zero_mul d]; exact hk⟩ fun j x b acc hx ⟨a1, a2⟩ => ?_).imp fun r h => ?_
  · obtain ⟨ex, hj⟩ := rangeI_get hx
    rw [Nat.zero_add] at a2 ⊢
    have := hb j (by omega)
    refine (hf b x _ a2 (by omega)).imp fun r ⟨e, c⟩ => ?_
    rw [e]
    refine ⟨by rw [List.all_append, a1]; rfl, ?_⟩
    rw [Int.natCast_add, Int.add_mul]
    show CupOk r.2 ((j : Int) * d + 1 * d)
    rw [Int.one_mul]
    exact c
  · simpa using h.1

/-! ## the signs of what is shown -/
def Low (x : Str) : Prop := ∀ c ∈ x.cps.toList, c < 16 ^ 8
theorem low_app {a b : Str} (ha : Low a) (hb : Low b) : Low (a ++ b) := fun c hc => by
  have e : (a ++ b).cps.toList = a.cps.toList ++ b.cps.toList := by show (a.cps ++ b.cps).toList = _; simp
  rw [e] at hc
  exact (List.mem_append.mp hc).elim (ha c) (hb c)
theorem low_of (s : String) : Low (Str.ofString s) := fun c hc => of_decide_eq_true (List.all_eq_true.mp (chars_low s) c hc)
theorem char_low (ch : Char) : ch.toNat < 16 ^ 8 := by
  have v := ch.valid
  have h : ch.toNat < 0x110000 := by
    rcases v with v | v
    · exact Nat.lt_trans v (by decide)
    · exact v.2
  exact Nat.lt_trans h (by decide)
theorem low_char {q c : Nat} (hc : c < 16 ^ 8) : ∀ z ∈ Builtin.Str.reprChar q c, z < 16 ^ 8 := by
  have hx : ∀ (w : Nat), ∀ z ∈ (List.replicate (w - ((Nat.toDigits 16 c).map Char.toNat).length) 48 ++ (Nat.toDigits 16 c).map Char.toNat), z < 16 ^ 8 := fun w z hz => by
    rcases List.mem_append.mp hz with h | h
    · rw [(List.mem_replicate.mp h).2]; decide
    · obtain ⟨ch, _, e⟩ := List.mem_map.mp h
      rw [← e]
      exact char_low ch
  have two : ∀ a b : Nat, a < 16 ^ 8 → b < 16 ^ 8 → ∀ z ∈ [a, b], z < 16 ^ 8 := fun a b ha hb z hz => by
    simp only [List.mem_cons, List.not_mem_nil, or_false] at hz
    rcases hz with h | h <;> rw [h] <;> assumption
  have app : ∀ (a b : Nat) (l : List Nat), a < 16 ^ 8 → b < 16 ^ 8 → (∀ z ∈ l, z < 16 ^ 8) → ∀ z ∈ [a, b] ++ l, z < 16 ^ 8 := fun a b l ha hb hl z hz => (List.mem_append.mp hz).elim (two a b ha hb z) (hl z)
  unfold Builtin.Str.reprChar
  dsimp only
  split
  · exact two 92 c (by decide) hc
  · split
    · exact two 92 110 (by decide) (by decide)
    · split
      · exact two 92 114 (by decide) (by decide)
      · split
        · exact two 92 116 (by decide) (by decide)
        · split
          · intro z hz
            rw [List.mem_singleton.mp hz]
            exact hc
          · split
            · exact app 92 120 _ (by decide) (by decide) (hx 2)
            · split
              · exact app 92 117 _ (by decide) (by decide) (hx 4)
              · exact app 92 85 _ (by decide) (by decide) (hx 8)
theorem low_fold {q : Nat} : ∀ (l : List Nat) (acc : Array Nat), (∀ c ∈ l, c < 16 ^ 8) → (∀ z ∈ acc.toList, z < 16 ^ 8) → ∀ z ∈ (l.foldl (fun out c => out ++ (Builtin.Str.reprChar q c).toArray) acc).toList, z < 16 ^ 8
  | [], acc, _, h => h
  | c :: l, acc, hl, h => by
    rw [List.foldl_cons]
    refine low_fold l _ (fun x hx => hl x (List.mem_cons_of_mem _ hx)) fun z hz => ?_
    rw [Array.toList_append] at hz
    rcases List.mem_append.mp hz with hz | hz
    · exact h z hz
    · exact low_char (hl c (by simp)) z hz
theorem low_repr {x : Str} (h : Low x) : Low (reprText x) := fun c hc => by
  have hq : reprQuote x < 16 ^ 8 := by
    unfold reprQuote
    split <;> decide
  have hc : c ∈ ((x.cps.foldl (fun out c => out ++ (Builtin.Str.reprChar (reprQuote x) c).toArray) #[reprQuote x]).push (reprQuote x)).toList := hc
  rw [Array.toList_push, List.mem_append] at hc
  rcases hc with hc | hc
  · rw [← Array.foldl_toList] at hc
    refine low_fold _ _ h (fun z hz => ?_) c hc
    rw [List.mem_singleton.mp (show z ∈ [reprQuote x] from hz)]
    exact hq
  · rw [List.mem_singleton.mp hc]
    exact hq
theorem low_from : ∀ (ts : List Str) (k : Nat) (acc : Str), (∀ t ∈ ts, Low t) → Low acc → Low (textFrom k acc ts)
  | [], _, _, _, h => h
  | t :: ts, k, acc, hl, h => by
    show Low (textFrom (k + 1) (acc ++ (if k > 0 then ", " else "" : String) ++ t) ts)
    exact low_from ts _ _ (fun x hx => hl x (List.mem_cons_of_mem _ hx)) (low_app (low_app h (low_of _)) (hl t (by simp)))
theorem low_join : ∀ ts : List Str, (∀ t ∈ ts, Low t) → Low (Str.join ", " ts)
  | [], _ => fun c hc => by cases (show c ∈ ([] : List Nat) from hc)
  | [x], h => h x (by simp)
  | x :: y :: r, h => by
    show Low (x ++ ", " ++ Str.join ", " (y :: r))
    exact low_app (low_app (h x (by simp)) (low_of _)) (low_join (y :: r) fun t ht => h t (List.mem_cons_of_mem _ ht))
mutual
theorem low_shown {B : Nat} : ∀ d : PyData, d.leavesShort B = true → Low d.shown
  | .none, _ => low_of "None"
  | .bool b, _ => by cases b <;> first | exact low_of "False" | exact low_of "True"
  | .int i, _ => low_of (toString i)
  | .str x, h => by
    have h : (x.cps.toList.all fun c => decide (c < 16 ^ 8)) = true := h
    exact low_repr fun c hc => of_decide_eq_true (List.all_eq_true.mp h c hc)
  | .list xs, h => low_app (low_from _ _ _ (low_all xs h) (low_of "[")) (low_of "]")
  | .tuple xs, h => low_app (low_app (low_of "(") (low_join _ (low_all xs h))) (low_of _)
  | .dict kvs, h => low_app (low_app (low_of "{") (low_join _ (low_kv kvs h))) (low_of "}")
theorem low_all {B : Nat} : ∀ xs : List PyData, PyData.leavesShortAll B xs = true → ∀ t ∈ PyData.shownAll xs, Low t
  | [], _ => fun t ht => by cases ht
  | x :: xs, h => fun t ht => by
    rw [PyData.leavesShortAll, Bool.and_eq_true] at h
    rcases List.mem_cons.mp ht with e | ht
    · rw [e]; exact low_shown x h.1
    · exact low_all xs h.2 t ht
theorem low_kv {B : Nat} : ∀ kvs : List (PyData × PyData), PyData.leavesShortKv B kvs = true → ∀ t ∈ PyData.shownKv kvs, Low t
  | [], _ => fun t ht => by cases ht
  | (k, v) :: r, h => fun t ht => by
    rw [PyData.leavesShortKv, Bool.and_eq_true, Bool.and_eq_true] at h
    rcases List.mem_cons.mp ht with e | ht
    · rw [e]
      exact low_app (low_app (low_shown k h.1.1) (low_of _)) (low_shown v h.1.2)
    · exact low_kv r h.2 t ht
end
/-- what is shown, as a text that may be shown -/
theorem rp_shown {W D : Nat} {d : PyData} (h : Rp W D d) (D' : Nat) : Rp (202 * W + 200) D' (.str d.shown) := ⟨List.all_eq_true.mpr fun c hc => decide_eq_true (low_shown d h.leaf c hc), rfl, by
  show d.shown.length ≤ _
  have := PyData.shown_le 200 (by decide) d h.leaf
  have w := h.wt
  have : (200 + 2) * d.weight ≤ 202 * W := Nat.mul_le_mul_left _ w
  omega, Nat.zero_le _⟩

/-! ## drawn orders of texts -/
theorem take_outX {α : Type} : ∀ {l : List α} {i : Nat} (h : i < l.length), (l[i] :: l.eraseIdx i).Perm l
  | [], _, h => absurd h (Nat.not_lt_zero _)
  | x :: l, 0, _ => List.Perm.refl _
  | x :: l, i + 1, h => (List.Perm.swap x _ _).trans ((take_outX (l := l) (i := i) (Nat.lt_of_succ_lt_succ h)).cons x)
theorem shuffled_ok {k : Cup} {xs : List (List Nat)} {N : Int} (hk : CupOk k N) (hN : N ≤ 900000) (hl : xs.length ≤ 100) : Tot (m_l_shuffled k xs) fun r => r.1.Perm xs ∧ CupOk r.2 (N + 100) := by
  unfold m_l_shuffled
  refine Tot.bind (Tot.whileGo (I := fun j (b : Cup × List (List Nat) × List (List Nat)) => b.2.1.length = j ∧ (b.2.1 ++ b.2.2).Perm xs ∧ CupOk b.1 (N + (b.2.2.length : Int))) (B := fun b => b.2.2.Perm xs ∧ CupOk b.1 (N + 100)) (fun j b ⟨i1, i2, i3⟩ => ?_) xs.length 1000000000 _ (by omega) ⟨rfl, by rw [List.append_nil], hk.mono (by show N ≤ N + 0; omega)⟩) fun o ⟨b, eo, h1, h2⟩ => ?_
  · have ln := i2.length_eq
    rw [List.length_append] at ln
    refine Tot.cond (fun z => ?_) fun z => Tot.ret (.inr ⟨_, rfl, ?_, i3.mono (by show N + (b.2.2.length : Int) ≤ _; omega)⟩)
    · have z : b.2.1 ≠ [] := fun e => by rw [e] at z; cases z
      have pos := List.length_pos_iff.mpr z
      refine Tot.bind (dip_ok i3 (by omega) (by omega) (sml64 (by omega) (by omega))) fun r2 ⟨d1, d2, d3⟩ => ?_
      have hi : r2.1.toNat < b.2.1.length := by omega
      refine Tot.bind (P := (· = (b.2.1[r2.1.toNat], b.2.1.eraseIdx r2.1.toNat))) (Tot.of (by unfold oPopAt; rw [if_pos ⟨d1, d2⟩, List.getElem?_eq_getElem hi]) rfl) fun l3 e3 => ?_
      subst e3
      refine Tot.bind (P := (· = b.2.2 ++ [b.2.1[r2.1.toNat]])) (tot_app (by omega) rfl) fun l4 e4 => Tot.ret (.inl ⟨_, rfl, j - 1, by omega, ?_, ?_, ?_⟩)
      · show (b.2.1.eraseIdx r2.1.toNat).length = j - 1
        rw [List.length_eraseIdx_of_lt hi]; omega
      · show (b.2.1.eraseIdx r2.1.toNat ++ l4).Perm xs
        rw [e4]
        refine List.Perm.trans ?_ i2
        have p1 := take_outX hi
        have p2 : (b.2.1.eraseIdx r2.1.toNat ++ (b.2.2 ++ [b.2.1[r2.1.toNat]])).Perm (b.2.1[r2.1.toNat] :: (b.2.1.eraseIdx r2.1.toNat ++ b.2.2)) := by
          rw [← List.append_assoc]
          exact List.perm_append_singleton _ _
        exact p2.trans (p1.append_right b.2.2)
      · show CupOk r2.2 (N + (l4.length : Int))
        rw [e4, List.length_append]
        exact d3.mono (by show N + (b.2.2.length : Int) + 1 ≤ _; show _ ≤ N + ((b.2.2.length + 1 : Nat) : Int); omega)
    · have z : b.2.1 = [] := by
        cases e : b.2.1 with
        | nil => rfl
        | cons x l => rw [e] at z; cases z
      rw [z, List.nil_append] at i2
      exact i2
  · subst eo
    exact Tot.ret ⟨h1, h2⟩
/-! ## names -/
abbrev ABC : List Nat := [97, 98, 99, 100, 101, 102, 103, 104, 105, 106, 107, 108, 109, 110, 111, 112, 113, 114, 115, 116, 117, 118, 119, 120, 121, 122]
def okW (a : List Nat) : Bool := (decide ((1 : Int) ≤ (a.length : Int)) && decide ((a.length : Int) ≤ (8 : Int))) && (a.map fun (c : Nat) => (decide (c ∈ ABC))).all id
def nameB : PyData → Bool
  | .str x => okW x.cps.toList
  | _ => false
def txD : PyData → List Nat
  | .str x => x.cps.toList
  | _ => []
theorem len_str {M L : Nat} {x : Str} (h : lf M L (.str x) = true) : oTxI x.cps.toList = some x.cps.toList := by
  rw [LW.lf, Bool.and_eq_true] at h
  refine if_pos ?_
  have := of_decide_eq_true h.2
  rw [sizeLine_eq, Array.length_toList]
  omega
theorem is_name_ok {M L : Nat} {d : PyData} (h : lf M L d = true) : m_is_name d = some (nameB d) := by
  cases d with
  | str x =>
    have e := len_str h
    show bind (bind (oTxI x.cps.toList) fun t2 => pure (!((decide ((1 : Int) ≤ (t2.length : Int))) && (decide ((t2.length : Int) ≤ (8 : Int)))))) (fun t3 => bif t3 then (pure false) else bind (oTxI x.cps.toList) fun t6 => pure ((t6.map fun (x7 : Nat) => (decide (x7 ∈ ABC))).all id)) = some (okW x.cps.toList)
    rw [e]
    show (bif !(decide ((1 : Int) ≤ (x.cps.toList.length : Int)) && decide ((x.cps.toList.length : Int) ≤ (8 : Int))) then some false else some ((x.cps.toList.map fun (c : Nat) => (decide (c ∈ ABC))).all id)) = some (okW x.cps.toList)
    unfold okW
    cases decide ((1 : Int) ≤ (x.cps.toList.length : Int)) && decide ((x.cps.toList.length : Int) ≤ (8 : Int)) <;> rfl
  | _ => rfl
theorem l_is_name_ok {M L : Nat} {d : PyData} (h : lf M L d = true) : m_l_is_name d = some (nameB d) := by
  cases d with
  | str x =>
    have e := len_str h
    show bind (bind (oTxI x.cps.toList) fun t2 => bind ((bif ((decide ((0 : Int) < (t2.length : Int))) && (decide ((t2.length : Int) < (9 : Int)))) then bind (oTxI x.cps.toList) fun t4 => pure ((t4.map fun (x5 : Nat) => (decide (x5 ∈ ABC))).all id) else (pure false)) : Option Bool) fun t8 => pure t8) (fun t10 => pure t10) = some (okW x.cps.toList)
    rw [e]
    show bind (bind (bif ((decide ((0 : Int) < (x.cps.toList.length : Int))) && (decide ((x.cps.toList.length : Int) < (9 : Int)))) then some ((x.cps.toList.map fun (c : Nat) => (decide (c ∈ ABC))).all id) else some false) fun t8 => some t8) (fun t => some t) = some (okW x.cps.toList)
    unfold okW
    have e1 : decide ((0 : Int) < (x.cps.toList.length : Int)) = decide ((1 : Int) ≤ (x.cps.toList.length : Int)) := decide_eq_decide.mpr (by omega)
    have e2 : decide ((x.cps.toList.length : Int) < 9) = decide ((x.cps.toList.length : Int) ≤ 8) := decide_eq_decide.mpr (by omega)
    rw [e1, e2]
    cases decide ((1 : Int) ≤ (x.cps.toList.length : Int)) && decide ((x.cps.toList.length : Int) ≤ (8 : Int)) <;> rfl
  | _ => rfl
theorem txs_of : ∀ {ds : List PyData}, (ds.map nameB).all id = true → oTxsD ds = some (ds.map txD)
  | [], _ => rfl
  | d :: ds, h => by
    rw [List.map_cons, List.all_cons, Bool.and_eq_true] at h
    cases d with
    | str x =>
      show (oTxsD ds).map (x.cps.toList :: ·) = _
      rw [txs_of h.2]
      rfl
    | _ => cases h.1
def namesB : PyData → Bool
  | .tuple ds => !ds.isEmpty && ((ds.map nameB).all id && decide ((cntF (ds.map txD) : Int) = (ds.length : Int)))
  | _ => false
def dueB : PyData → Bool
  | .tuple ds => decide ((ds.length : Int) < 13) && namesB (.tuple ds)
  | _ => false
theorem cnt_ok {ds : List PyData} (h : ds.length < 64) : oCntX (ds.map txD) = some (cntF (ds.map txD) : Int) := if_pos (by rw [List.length_map]; exact h)
theorem are_names_ok {M L W D : Nat} {d : PyData} (h : Vk M L W D d) (hL : L < 64) : m_are_names d = some (namesB d) := by
  cases d with
  | tuple ds =>
    obtain ⟨p1, p2, _, _⟩ := h.parts
    have em : mapO (fun (x3 : PyData) => (((bind (m_is_name x3) fun r5 => pure (some r5))) : Option (Option Bool))) ds = some (ds.map nameB) := mapO_map fun x hx => by rw [is_name_ok (lfAll_iff.mp p2 x hx)]; rfl
    show bind (bind ((bif ds.isEmpty then (pure true) else (bind (mapO (fun (x3 : PyData) => (((bind (m_is_name x3) fun r5 => pure (some r5))) : Option (Option Bool))) ds) fun t7 => pure (!(t7.all id)))) : Option Bool) fun t8 => pure t8) (fun t10 => bif t10 then (pure false) else bind (oTxsD ds) fun u12 => bind (oCntX u12) fun l13 => pure (decide (l13 = (ds.length : Int)))) = _
    rw [em]
    show bind (bind (bif ds.isEmpty then some true else some (!((ds.map nameB).all id))) fun t8 => some t8) (fun t10 => bif t10 then (some false) else bind (oTxsD ds) fun u12 => bind (oCntX u12) fun l13 => some (decide (l13 = (ds.length : Int)))) = some (namesB (.tuple ds))
    show _ = some (!ds.isEmpty && ((ds.map nameB).all id && decide ((cntF (ds.map txD) : Int) = (ds.length : Int))))
    cases h1 : ds.isEmpty with
    | true => rfl
    | false =>
      cases h2 : (ds.map nameB).all id with
      | false => rfl
      | true =>
        show bind (oTxsD ds) (fun u12 => bind (oCntX u12) fun l13 => some (decide (l13 = (ds.length : Int)))) = _
        rw [txs_of h2]
        show bind (oCntX (ds.map txD)) (fun l13 => some (decide (l13 = (ds.length : Int)))) = _
        rw [cnt_ok (by omega)]
        rfl
  | _ => rfl
theorem l_are_names_ok {M L W D : Nat} {d : PyData} (h : Vk M L W D d) (hL : L < 64) : m_l_are_names d = some (dueB d) := by
  cases d with
  | tuple ds =>
    obtain ⟨p1, p2, _, _⟩ := h.parts
    have em : mapO (fun (x3 : PyData) => (((bind (m_l_is_name x3) fun r5 => pure (some r5))) : Option (Option Bool))) ds = some (ds.map nameB) := mapO_map fun x hx => by rw [l_is_name_ok (lfAll_iff.mp p2 x hx)]; rfl
    show bind (bind ((bif (!((decide ((0 : Int) < (ds.length : Int))) && (decide ((ds.length : Int) < (13 : Int))))) then (pure true) else (bind (mapO (fun (x3 : PyData) => (((bind (m_l_is_name x3) fun r5 => pure (some r5))) : Option (Option Bool))) ds) fun t7 => pure (!(t7.all id)))) : Option Bool) fun t8 => pure t8) (fun t10 => bif t10 then (pure false) else bind (oTxsD ds) fun u12 => bind (oCntX u12) fun l13 => pure (decide (l13 = (ds.length : Int)))) = _
    rw [em]
    show bind (bind (bif (!((decide ((0 : Int) < (ds.length : Int))) && (decide ((ds.length : Int) < (13 : Int))))) then some true else some (!((ds.map nameB).all id))) fun t8 => some t8) (fun t10 => bif t10 then (some false) else bind (oTxsD ds) fun u12 => bind (oCntX u12) fun l13 => some (decide (l13 = (ds.length : Int)))) = some (dueB (.tuple ds))
    show _ = some (decide ((ds.length : Int) < 13) && (!ds.isEmpty && ((ds.map nameB).all id && decide ((cntF (ds.map txD) : Int) = (ds.length : Int)))))
    have e1 : decide ((0 : Int) < (ds.length : Int)) = !ds.isEmpty := by cases ds <;> simp <;> omega
    rw [e1]
    cases h1 : ds.isEmpty with
    | true =>
      cases decide ((ds.length : Int) < 13) <;> rfl
    | false =>
      cases h0 : decide ((ds.length : Int) < 13) with
      | false => rfl
      | true =>
        cases h2 : (ds.map nameB).all id with
        | false => rfl
        | true =>
          show bind (oTxsD ds) (fun u12 => bind (oCntX u12) fun l13 => some (decide (l13 = (ds.length : Int)))) = _
          rw [txs_of h2]
          show bind (oCntX (ds.map txD)) (fun l13 => some (decide (l13 = (ds.length : Int)))) = _
          rw [cnt_ok (by omega)]
          rfl
  | _ => rfl
/-! ## rosters made -/
def btwB : PyData → Bool
  | .int i => decide ((1 : Int) ≤ i) && decide (i ≤ (8 : Int))
  | _ => false
theorem is_between_ok (d : PyData) : m_is_between d 1 8 = some (btwB d) := by cases d <;> rfl
theorem l_is_int_ok (d : PyData) : m_l_is_int d 1 8 = some (btwB d) := by cases d <;> rfl
abbrev Ros : Type := (Int × (List (List Nat)) × (List Int) × (List ((List Nat) × (List Int)))) × (List Int)
theorem init_ok {i : Int} (h1 : 1 ≤ i) (h2 : i ≤ 8) : m_Roster_init (.int i) = some ((i, [], [], []), []) := by
  unfold m_Roster_init
  rw [is_between_ok]
  show (bif !(decide ((1 : Int) ≤ i) && decide (i ≤ (8 : Int))) then (none : Option Ros) else some ((i, [], [], []), [])) = _
  rw [decide_eq_true h1, decide_eq_true h2]
  rfl
theorem initX_ok (d : PyData) : mX_Roster_init d = (bif !(btwB d) then some (0, d) else none) := by
  unfold mX_Roster_init
  rw [is_between_ok]
  rfl
theorem wh_brk {β ρ : Type} {f : β → Option (Fl ρ β)} {b c : β} (n : Nat) (h : f b = some (.brk c)) : whileO f (n + 1) b = some (.go c) := by unfold whileO; rw [h]
theorem wh_go {β ρ : Type} {f : β → Option (Fl ρ β)} {b c : β} (n : Nat) (h : f b = some (.go c)) : whileO f (n + 1) b = whileO f n c := by rw [whileO, h]
abbrev sizeF (n : Nat) : Int → Option (Fl Bool Int) := fun (b16 : (Int)) => (((bind (oShl (1 : Int) b16) fun t17 => (bif (decide (t17 < (n : Int))) then (pure (Fl.go ((b16 + (1 : Int))))) else (pure (Fl.brk (b16)))))) : Option (Fl Bool (Int)))
theorem sizeF_ok (n : Nat) {b p : Int} (h0 : 0 ≤ b) (h1 : b ≤ 100) (e : (1 : Int) * 2 ^ b.toNat = p) : sizeF n b = if p < (n : Int) then some (.go (b + 1)) else some (.brk b) := by
  have e1 : oShl 1 b = some p := by rw [← e]; exact if_pos ⟨h0, by omega, sml64 (by decide) (by decide)⟩
  show bind (oShl 1 b) _ = _
  rw [e1]
  show (bif (decide (p < (n : Int))) then some (Fl.go (b + 1)) else some (Fl.brk b)) = _
  by_cases h : p < (n : Int)
  · rw [if_pos h, decide_eq_true h]; rfl
  · rw [if_neg h, decide_eq_false h]; rfl
def sz (n : Nat) : Int := if n ≤ 2 then 1 else if n ≤ 4 then 2 else if n ≤ 8 then 3 else 4
theorem size_ok {n : Nat} (h2 : n ≤ 12) : whileO (sizeF n) 1000000000 1 = some (.go (sz n)) := by
  have f1 := sizeF_ok n (b := 1) (p := 2) (by decide) (by decide) rfl
  have f2 := sizeF_ok n (b := 2) (p := 4) (by decide) (by decide) rfl
  have f3 := sizeF_ok n (b := 3) (p := 8) (by decide) (by decide) rfl
  have f4 := sizeF_ok n (b := 4) (p := 16) (by decide) (by decide) rfl
  unfold sz
  by_cases c1 : n ≤ 2
  · rw [if_pos c1]
    exact wh_brk 999999999 (by rw [f1, if_neg (by omega)])
  rw [if_neg c1]
  refine (wh_go 999999999 (by rw [f1, if_pos (by omega)])).trans ?_
  by_cases c2 : n ≤ 4
  · rw [if_pos c2]
    exact wh_brk 999999998 (by show sizeF n 2 = _; rw [f2, if_neg (by omega)])
  rw [if_neg c2]
  refine (wh_go 999999998 (by show sizeF n 2 = _; rw [f2, if_pos (by omega)])).trans ?_
  by_cases c3 : n ≤ 8
  · rw [if_pos c3]
    exact wh_brk 999999997 (by show sizeF n 3 = _; rw [f3, if_neg (by omega)])
  rw [if_neg c3]
  refine (wh_go 999999997 (by show sizeF n 3 = _; rw [f3, if_pos (by omega)])).trans ?_
  exact wh_brk 999999996 (by show sizeF n 4 = _; rw [f4, if_neg (by omega)])
theorem bits_all : (List.range 13).all (fun n => n == 0 || decide (max (1 : Int) ((Builtin.Int.intBits ((n : Int) - (1 : Int)) : Nat) : Int) = sz n)) = true := by decide +kernel
theorem bits_ok {n : Nat} (h1 : 1 ≤ n) (h2 : n ≤ 12) : max (1 : Int) ((Builtin.Int.intBits ((n : Int) - (1 : Int)) : Nat) : Int) = sz n := by
  have := List.all_eq_true.mp bits_all n (List.mem_range.mpr (by omega))
  rw [Bool.or_eq_true] at this
  rcases this with h | h
  · have := eq_of_beq h
    omega
  · exact of_decide_eq_true h
theorem sz_le (n : Nat) : 1 ≤ sz n ∧ sz n ≤ 4 := by
  unfold sz
  split
  · omega
  · split
    · omega
    · split <;> omega
theorem due_parts {d : PyData} (h : dueB d = true) : ∃ ds, d = .tuple ds ∧ 1 ≤ ds.length ∧ ds.length ≤ 12 ∧ (ds.map nameB).all id = true ∧ namesB d = true := by
  cases d with
  | tuple ds =>
    unfold dueB at h
    rw [Bool.and_eq_true] at h
    have h1 := of_decide_eq_true h.1
    have h2 := h.2
    unfold namesB at h2
    rw [Bool.and_eq_true, Bool.and_eq_true] at h2
    refine ⟨ds, rfl, ?_, by omega, h2.2.1, h.2⟩
    cases ds with
    | nil => exact absurd h2.1 (by decide)
    | cons x xs => simp
  | _ => cases h
theorem ofX_ok {M L W D : Nat} {d : PyData} (h : Vk M L W D d) (hL : L < 64) : mX_Roster_of () d = (bif dueB d then none else some (1, d)) := by
  unfold mX_Roster_of
  rw [are_names_ok h hL]
  cases d with
  | tuple ds =>
    show bind (bif !(namesB (.tuple ds)) then some true else some (decide ((12 : Int) < (ds.length : Int)))) (fun t3 => bif t3 then some (1, PyData.tuple ds) else none) = bif (decide ((ds.length : Int) < 13) && namesB (.tuple ds)) then none else some (1, PyData.tuple ds)
    have e : decide ((ds.length : Int) < 13) = !decide ((12 : Int) < (ds.length : Int)) := by rw [← decide_not]; exact decide_eq_decide.mpr (by omega)
    rw [e]
    cases namesB (.tuple ds) <;> cases decide ((12 : Int) < (ds.length : Int)) <;> rfl
  | _ => rfl
theorem of_ok {M L W D : Nat} {d : PyData} (h : Vk M L W D d) (hL : L < 64) (hd : dueB d = true) : ∃ ds, d = .tuple ds ∧ m_Roster_of () d = some ((sz ds.length, ds.map txD, rangeI 0 (ds.length : Int), []), []) := by
  obtain ⟨ds, e, l1, l2, hn, hB⟩ := due_parts hd
  subst e
  refine ⟨ds, rfl, ?_⟩
  refine Tot.get ?_
  unfold m_Roster_of
  refine Tot.bind (P := (· = true)) (Tot.of ((are_names_ok h hL).trans (by rw [hB])) rfl) fun r1 e => ?_
  subst e
  refine Tot.bind (P := (· = false)) (Tot.cond (fun h => by cases h) fun _ => ?_) fun t3 e => ?_
  · refine Tot.bind (P := (· = ds)) (Tot.of rfl rfl) fun u2 e => Tot.ret ?_
    subst e
    exact decide_eq_false (by omega)
  subst e
  refine Tot.cond (fun h => by cases h) fun _ => ?_
  refine Tot.bind (P := (· = ds)) (Tot.of rfl rfl) fun u5 e => ?_
  subst e
  rw [bits_ok l1 l2]
  refine Tot.bind (P := (· = ((sz u5.length, [], [], []), []))) (Tot.of (init_ok (sz_le _).1 (by have := (sz_le u5.length).2; omega)) rfl) fun r6 e => ?_
  subst e
  refine Tot.bind (P := (· = sz u5.length)) (Tot.of rfl rfl) fun r8 e => ?_
  subst e
  refine Tot.bind (P := (· = u5.map txD)) (Tot.of (txs_of hn) rfl) fun u9 e => ?_
  subst e
  refine Tot.bind (P := (· = u5)) (Tot.of rfl rfl) fun u10 e => ?_
  subst e
  exact Tot.bind (P := (· = rangeI 0 (u10.length : Int))) (tot_range (by omega) (by omega) (by omega) (by omega) (by omega) rfl) fun t11 e => Tot.ret (by rw [e])
/-! ## texts -/
theorem rp_cons {W1 W2 D : Nat} {x : PyData} {xs : List PyData} (h : Rp W1 D x) (g : Rp W2 (D + 1) (.list xs)) : Rp (W1 + 1 + W2) (D + 1) (.list (x :: xs)) := ⟨by
  show (x.leavesShort 200 && PyData.leavesShortAll 200 xs) = true
  rw [h.leaf, show PyData.leavesShortAll 200 xs = true from g.leaf]; rfl, by
  show (x.showable && PyData.showableAll xs) = true
  rw [h.show', show PyData.showableAll xs = true from g.show']; rfl, by
  show x.weight + 1 + PyData.weightAll xs ≤ _
  have := h.wt
  have : PyData.weightAll xs ≤ W2 := g.wt
  omega, by
  show max x.depth (PyData.depthAll xs) + 1 ≤ _
  have := h.dp
  have : PyData.depthAll xs + 1 ≤ D + 1 := g.dp
  omega⟩
theorem rp_nil (D : Nat) : Rp 0 (D + 1) (.list []) := ⟨rfl, rfl, Nat.le_refl _, by show 0 + 1 ≤ D + 1; omega⟩
theorem rp_nilT (D : Nat) : Rp 0 (D + 1) (.tuple []) := ⟨rfl, rfl, Nat.le_refl _, by show 0 + 1 ≤ D + 1; omega⟩
theorem rp_small {i : Int} (h0 : 0 ≤ i) (h1 : i ≤ 15) (D : Nat) : Rp 4 D (.int i) := by
  have r := rp_int (i := i) (Nat.lt_of_lt_of_le (show i.natAbs < 16 by omega) (by decide)) D
  refine ⟨r.leaf, r.show', ?_, Nat.zero_le _⟩
  show (if i == 0 then 0 else i.natAbs.log2 + 1) ≤ 4
  split
  · omega
  · rename_i h
    have hn : i.natAbs ≠ 0 := fun e => h (by
      have : i = 0 := by omega
      rw [this]
      rfl)
    have : i.natAbs.log2 < 4 := (Nat.log2_lt hn).mpr (Nat.lt_of_le_of_lt (show i.natAbs ≤ 15 by omega) (by decide))
    omega
theorem rp_name {d : PyData} (h : nameB d = true) (D : Nat) : Rp 8 D d := by
  cases d with
  | str x =>
    have h : okW x.cps.toList = true := h
    unfold okW at h
    rw [Bool.and_eq_true, Bool.and_eq_true] at h
    have l := of_decide_eq_true h.1.2
    refine ⟨List.all_eq_true.mpr fun c hc => decide_eq_true ?_, rfl, ?_, Nat.zero_le _⟩
    · have := of_decide_eq_true (List.all_eq_true.mp h.2 _ (List.mem_map.mpr ⟨c, hc, rfl⟩))
      have : c ≤ 122 := by
        simp only [ABC, List.mem_cons, List.not_mem_nil, or_false] at this
        omega
      exact Nat.lt_of_le_of_lt this (by decide)
    · show x.cps.size ≤ 8
      rw [← Array.length_toList]
      omega
  | _ => cases h
theorem vTx_txD : ∀ {ds : List PyData}, (ds.map nameB).all id = true → (ds.map txD).map vTx.d = ds
  | [], _ => rfl
  | d :: ds, h => by
    rw [List.map_cons, List.all_cons, Bool.and_eq_true] at h
    rw [List.map_cons, List.map_cons, vTx_txD h.2]
    cases d with
    | str x => rw [show vTx.d (txD (.str x)) = .str (SX.S x.cps.toList) from rfl, SX.S_tl]
    | _ => cases h.1
/-- what is told of a new roster -/
def told (b : Int) (d : PyData) (n : Int) (is : List Int) : PyData := .list [.int b, d, (vTup vInt).d is, .tuple [], .int n, .int 0, .list []]
theorem told_rp {b n : Int} {d : PyData} {is : List Int} (hb : 0 ≤ b ∧ b ≤ 15) (hn : 0 ≤ n ∧ n ≤ 12) (hd : Rp 108 1 d) (hi : ∀ i ∈ is, 0 ≤ i ∧ i ≤ 12) (hl : is.length ≤ 12) : Rp 300 2 (told b d n is) := by
  have ri : Rp 60 1 ((vTup vInt).d is) := by
    refine (rp_tup (W := 4) (D := 0) (n := 12) (xs := is.map PyData.int) (fun x hx => ?_) (by rw [List.length_map]; exact hl)).mono (by decide) (by decide)
    obtain ⟨i, hi', e⟩ := List.mem_map.mp hx
    subst e
    exact rp_small (hi i hi').1 (by have := (hi i hi').2; omega) 0
  exact (rp_cons (D := 1) (rp_small hb.1 hb.2 1) (rp_cons hd (rp_cons ri (rp_cons (rp_nilT 0) (rp_cons (rp_small hn.1 (by omega) 1) (rp_cons (rp_small (i := 0) (by decide) (by decide) 1) (rp_cons (rp_nil 0) (rp_nil 1)))))))).mono (by decide) (by decide)
theorem oLen_nat (n : Nat) (h : n ≤ 1000) : oLen (some (n : Int)) = some (n : Int) := by
  have h2 : (n : Int) < 2 ^ 63 := Int.lt_of_le_of_lt (Int.ofNat_le.mpr h) (by decide +kernel)
  unfold oLen
  exact if_pos ⟨Int.natCast_nonneg _, h2⟩
theorem shown_ok {b : Int} {xs : List (List Nat)} {is : List Int} (hb : 0 ≤ b ∧ b ≤ 15) (hd : Rp 108 1 ((vTup vTx).d xs)) (hi : ∀ i ∈ is, 0 ≤ i ∧ i ≤ 12) (hl : is.length ≤ 12) (hx : xs.length ≤ 12) : m_l_shown ((b, xs, is, []), []) = some (told b ((vTup vTx).d xs) (xs.length : Int) is).shown := by
  have r := told_rp (n := (xs.length : Int)) hb ⟨by omega, by omega⟩ hd hi hl
  refine Tot.get ?_
  unfold m_l_shown
  refine Tot.bind (P := (· = b)) (Tot.of rfl rfl) fun r1 e => ?_
  subst e
  refine Tot.bind (P := (· = xs)) (Tot.of rfl rfl) fun r2 e => ?_
  subst e
  refine Tot.bind (P := (· = is)) (Tot.of rfl rfl) fun r3 e => ?_
  subst e
  refine Tot.bind (P := (· = [])) (Tot.of rfl rfl) fun r4 e => ?_
  subst e
  refine Tot.bind (P := (· = (r2.length : Int))) (Tot.of (oLen_nat r2.length (by omega)) rfl) fun r5 e => ?_
  subst e
  refine Tot.bind (P := (· = 0)) (Tot.of rfl rfl) fun r6 e => ?_
  subst e
  refine Tot.bind (P := fun _ => True) (Tot.of rfl trivial) fun l7 _ => ?_
  refine Tot.bind (P := (· = [.int r1, (vTup vTx).d r2, (vTup vInt).d r3, .tuple [], .int (r2.length : Int), .int 0, .list []])) (Tot.ite (by rw [sizeLine_eq]; simp) rfl) fun t8 e => ?_
  subst e
  exact Tot.bind (P := (· = (told r1 ((vTup vTx).d r2) (r2.length : Int) r3).shown)) (Tot.of (r.text (by decide) (by decide)) rfl) fun t9 e => Tot.ret e
theorem asked_val (t : Str) : m_l_asked (.val t) = some (.tuple [.str ("returned" : Str), .str t]) := rfl
theorem asked_0 (d : PyData) : m_l_asked (.err 0 d) = some (.tuple [vTx.d [98, 105, 116, 115], d]) := rfl
theorem asked_1 (d : PyData) : m_l_asked (.err 1 d) = some (.tuple [vTx.d [110, 97, 109, 101, 115], d]) := rfl
theorem word_bits : vTx.d [98, 105, 116, 115] = .str ("bits" : Str) := congrArg PyData.str (by decide +kernel)
theorem word_names : vTx.d [110, 97, 109, 101, 115] = .str ("names" : Str) := congrArg PyData.str (by decide +kernel)
theorem word_rp (s : String) (h : s.length ≤ 10) (D : Nat) : Rp 10 D (PyData.str (s : Str)) := rp_str h D
theorem made_ok {M L W D : Nat} {d : PyData} (h : Vk M L W D d) (hM : M ≤ 2 ^ 100) (hW : W ≤ 60000) (hD : D ≤ 50) : m_l_made_right d = some true := by
  have rd := h.rp hM
  have td := rd.text (by omega) (by omega)
  refine Tot.get ?_
  unfold m_l_made_right
  cases hb : btwB d with
  | false =>
    refine Tot.bind (P := (· = .err 0 d)) (Tot.of (rzV_err (by rw [initX_ok, hb]; rfl)) rfl) fun z1 e => ?_
    subst e
    refine Tot.bind (P := (· = .err 0 d)) (Tot.of rfl rfl) fun z2 e => ?_
    subst e
    have r3 : Rp (10 + W + 2) (D + 1) (.tuple [PyData.str ("bits" : Str), d]) := rp_t2 (word_rp "bits" (by decide) D) rd
    refine Tot.bind (P := (· = .tuple [.str ("bits" : Str), d])) (Tot.of (asked_0 d) (by rw [word_bits])) fun r e => ?_
    subst e
    refine Tot.bind (P := (· = d.shown)) (Tot.of td rfl) fun t4 e => ?_
    subst e
    have rb : Rp (W + 1 + 300) (D + 3) (PyData.list [d, (PyData.tuple []), (PyData.tuple []), (PyData.tuple []), (PyData.int (0 : Int)), (PyData.int (0 : Int)), (PyData.list [])]) :=
      (rp_cons (D := D + 2) (rd.mono (Nat.le_refl _) (by omega)) (rp_cons (rp_nilT (D + 1)) (rp_cons (rp_nilT (D + 1)) (rp_cons (rp_nilT (D + 1)) (rp_cons (rp_small (i := 0) (by decide) (by decide) (D + 2)) (rp_cons (rp_small (i := 0) (by decide) (by decide) (D + 2)) (rp_cons (rp_nil (D + 1)) (rp_nil (D + 2))))))))).mono (by omega) (Nat.le_refl _)
    refine Tot.bind (P := fun _ => True) (Tot.of (rb.text (by omega) (by omega)) trivial) fun t5 _ => ?_
    refine Tot.bind (P := (· = false)) (Tot.of ((l_is_int_ok d).trans (by rw [hb])) rfl) fun r6 e => ?_
    subst e
    refine Tot.bind (P := (· = .tuple [.str ("bits" : Str), d])) (Tot.of rfl rfl) fun j7 e => ?_
    subst e
    refine Tot.bind (P := (· = (PyData.tuple [.str ("bits" : Str), d]).shown)) (Tot.of (r3.text (by omega) (by omega)) rfl) fun t8 e => ?_
    subst e
    refine Tot.bind (P := (· = (PyData.tuple [.str ("bits" : Str), d]).shown)) (Tot.of (r3.text (by omega) (by omega)) rfl) fun t9 e => ?_
    subst e
    refine Tot.bind (P := (· = true)) (Tot.cond (fun _ => ?_) fun z => absurd rfl (of_decide_eq_false z)) fun t11 e => Tot.ret e
    exact Tot.bind (P := (· = d.shown)) (Tot.of td rfl) fun t10 e => Tot.ret (decide_eq_true e)
  | true =>
    obtain ⟨i, e, i1, i2⟩ : ∃ i, d = .int i ∧ 1 ≤ i ∧ i ≤ 8 := by
      cases d with
      | int i =>
        have hb : (decide ((1 : Int) ≤ i) && decide (i ≤ (8 : Int))) = true := hb
        rw [Bool.and_eq_true] at hb
        exact ⟨i, rfl, of_decide_eq_true hb.1, of_decide_eq_true hb.2⟩
      | _ => cases hb
    subst e
    have rt : Rp 300 2 (told i (.tuple []) 0 []) := told_rp ⟨by omega, by omega⟩ (by decide) ((rp_nilT 0).mono (by decide) (Nat.le_refl _)) (fun i h => by cases h) (by decide)
    refine Tot.bind (P := (· = .val ((i, [], [], []), []))) (Tot.of (rzV_val (by rw [initX_ok, hb]; rfl) (init_ok i1 i2)) rfl) fun z1 e => ?_
    subst e
    refine Tot.bind (P := (· = .val (told i (.tuple []) 0 []).shown)) (Tot.of (by
      show (m_l_shown ((i, [], [], []), [])).map RzV.val = some (RzV.val (told i (.tuple []) 0 []).shown)
      rw [shown_ok ⟨by omega, by omega⟩ ((rp_nilT 0).mono (by decide) (Nat.le_refl _)) (fun i h => by cases h) (by decide) (by decide)]
      rfl) rfl) fun z2 e => ?_
    subst e
    refine Tot.bind (P := (· = .tuple [.str ("returned" : Str), .str (told i (.tuple []) 0 []).shown])) (Tot.of (asked_val _) rfl) fun r e => ?_
    subst e
    have r3 := rp_t2 (word_rp "returned" (by decide) 0) (rp_shown rt 0)
    refine Tot.bind (P := (· = (PyData.int i).shown)) (Tot.of td rfl) fun t4 e => ?_
    subst e
    refine Tot.bind (P := (· = (told i (.tuple []) 0 []).shown)) (Tot.of (rt.text (by decide) (by decide)) rfl) fun t5 e => ?_
    subst e
    refine Tot.bind (P := (· = true)) (Tot.of ((l_is_int_ok _).trans (by rw [hb])) rfl) fun r6 e => ?_
    subst e
    refine Tot.bind (P := (· = .tuple [.str ("returned" : Str), .str (told i (.tuple []) 0 []).shown])) (Tot.of rfl rfl) fun j7 e => ?_
    subst e
    refine Tot.bind (P := (· = (PyData.tuple [.str ("returned" : Str), .str (told i (.tuple []) 0 []).shown]).shown)) (Tot.of (r3.text (by decide) (by decide)) rfl) fun t8 e => ?_
    subst e
    refine Tot.bind (P := (· = (PyData.tuple [.str ("returned" : Str), .str (told i (.tuple []) 0 []).shown]).shown)) (Tot.of (r3.text (by decide) (by decide)) rfl) fun t9 e => ?_
    subst e
    refine Tot.bind (P := (· = true)) (Tot.cond (fun _ => ?_) fun z => absurd rfl (of_decide_eq_false z)) fun t11 e => Tot.ret e
    exact Tot.bind (P := (· = (PyData.int i).shown)) (Tot.of td rfl) fun t10 e => Tot.ret (decide_eq_true e)
theorem rp_names {ds : List PyData} (h : (ds.map nameB).all id = true) (hl : ds.length ≤ 12) : Rp 108 1 (.tuple ds) := (rp_tup (W := 8) (D := 0) (n := 12) (fun x hx => rp_name (List.all_eq_true.mp h _ (List.mem_map.mpr ⟨x, hx, rfl⟩)) 0) hl).mono (by decide) (by decide)
theorem of_right_ok {M L W D : Nat} {d : PyData} (h : Vk M L W D d) (hL : L < 64) (hM : M ≤ 2 ^ 100) (hW : W ≤ 60000) (hD : D ≤ 50) : m_l_of_right d = some true := by
  have rd := h.rp hM
  have td := rd.text (by omega) (by omega)
  refine Tot.get ?_
  unfold m_l_of_right
  cases hb : dueB d with
  | false =>
    refine Tot.bind (P := (· = .err 1 d)) (Tot.of (rzV_err (by rw [ofX_ok h hL, hb]; rfl)) rfl) fun z1 e => ?_
    subst e
    refine Tot.bind (P := (· = .err 1 d)) (Tot.of rfl rfl) fun z2 e => ?_
    subst e
    have r3 : Rp (10 + W + 2) (D + 1) (.tuple [PyData.str ("names" : Str), d]) := rp_t2 (word_rp "names" (by decide) D) rd
    refine Tot.bind (P := (· = .tuple [.str ("names" : Str), d])) (Tot.of (asked_1 d) (by rw [word_names])) fun r e => ?_
    subst e
    refine Tot.bind (P := (· = d.shown)) (Tot.of td rfl) fun t4 e => ?_
    subst e
    refine Tot.bind (P := (· = false)) (Tot.of ((l_are_names_ok h hL).trans (by rw [hb])) rfl) fun r5 e => ?_
    subst e
    refine Tot.bind (P := (· = .tuple [.str ("names" : Str), d])) (Tot.of rfl rfl) fun j7 e => ?_
    subst e
    refine Tot.bind (P := (· = (PyData.tuple [.str ("names" : Str), d]).shown)) (Tot.of (r3.text (by omega) (by omega)) rfl) fun t8 e => ?_
    subst e
    refine Tot.bind (P := (· = (PyData.tuple [.str ("names" : Str), d]).shown)) (Tot.of (r3.text (by omega) (by omega)) rfl) fun t9 e => ?_
    subst e
    refine Tot.bind (P := (· = true)) (Tot.cond (fun _ => ?_) fun z => absurd rfl (of_decide_eq_false z)) fun t11 e => Tot.ret e
    exact Tot.bind (P := (· = d.shown)) (Tot.of td rfl) fun t10 e => Tot.ret (decide_eq_true e)
  | true =>
    obtain ⟨ds, e, eo⟩ := of_ok h hL hb
    obtain ⟨ds', e', l1, l2, hn, _⟩ := due_parts hb
    subst e
    cases e'
    have s := sz_le ds.length
    have rn := rp_names hn l2
    have ev : (vTup vTx).d (ds.map txD) = .tuple ds := congrArg PyData.tuple (vTx_txD hn)
    have hi : ∀ i ∈ rangeI 0 (ds.length : Int), 0 ≤ i ∧ i ≤ 12 := fun i hi => by
      have := rangeI_mem.mp hi
      omega
    have ll : (rangeI 0 (ds.length : Int)).length ≤ 12 := by rw [len_rangeI]; omega
    have rt : Rp 300 2 (told (sz ds.length) (.tuple ds) (ds.length : Int) (rangeI 0 (ds.length : Int))) := told_rp ⟨by omega, by omega⟩ ⟨by omega, by omega⟩ rn hi ll
    have es := shown_ok (b := sz ds.length) (xs := ds.map txD) (is := rangeI 0 (ds.length : Int)) ⟨by omega, by omega⟩ (by rw [ev]; exact rn) hi ll (by rw [List.length_map]; exact l2)
    rw [ev, List.length_map] at es
    generalize htt : told (sz ds.length) (.tuple ds) (ds.length : Int) (rangeI 0 (ds.length : Int)) = tt at rt es
    refine Tot.bind (P := (· = .val ((sz ds.length, ds.map txD, rangeI 0 (ds.length : Int), []), []))) (Tot.of (rzV_val (by rw [ofX_ok h hL, hb]; rfl) eo) rfl) fun z1 e => ?_
    subst e
    refine Tot.bind (P := (· = .val tt.shown)) (Tot.of (by
      show (m_l_shown ((sz ds.length, ds.map txD, rangeI 0 (ds.length : Int), []), [])).map RzV.val = _
      rw [es]
      rfl) rfl) fun z2 e => ?_
    subst e
    refine Tot.bind (P := (· = .tuple [.str ("returned" : Str), .str tt.shown])) (Tot.of (asked_val _) rfl) fun r e => ?_
    subst e
    have r3 := rp_t2 (word_rp "returned" (by decide) 0) (rp_shown rt 0)
    refine Tot.bind (P := (· = (PyData.tuple ds).shown)) (Tot.of td rfl) fun t4 e => ?_
    subst e
    refine Tot.bind (P := (· = true)) (Tot.of ((l_are_names_ok h hL).trans (by rw [hb])) rfl) fun r6 e => ?_
    subst e
    refine Tot.bind (P := (· = .tuple [.str ("returned" : Str), .str tt.shown])) (Tot.cond (fun _ => ?_) fun z => by cases z) fun j7 e => ?_
    · refine Tot.bind (P := (· = ds)) (Tot.of rfl rfl) fun u15 e => ?_
      subst e
      refine Tot.bind (P := (· = .go (sz u15.length))) (Tot.of (size_ok l2) rfl) fun o18 e => ?_
      subst e
      refine Tot.bind (P := (· = rangeI 0 (u15.length : Int))) (tot_range (by omega) (by omega) (by omega) (by omega) (by omega) rfl) fun t21 e => ?_
      subst e
      refine Tot.bind (P := (· = tt.shown)) (Tot.of ((congrArg oReprW htt).trans (rt.text (by decide) (by decide))) rfl) fun t22 e => Tot.ret ?_
      rw [e]
    subst e
    refine Tot.bind (P := (· = (PyData.tuple [.str ("returned" : Str), .str tt.shown]).shown)) (Tot.of (r3.text (by decide) (by decide)) rfl) fun t8 e => ?_
    subst e
    refine Tot.bind (P := (· = (PyData.tuple [.str ("returned" : Str), .str tt.shown]).shown)) (Tot.of (r3.text (by decide) (by decide)) rfl) fun t9 e => ?_
    subst e
    refine Tot.bind (P := (· = true)) (Tot.cond (fun _ => ?_) fun z => absurd rfl (of_decide_eq_false z)) fun t11 e => Tot.ret e
    exact Tot.bind (P := (· = (PyData.tuple ds).shown)) (Tot.of td rfl) fun t10 e => Tot.ret (decide_eq_true e)
/-! ## the law -/
abbrev POOL : List (List Nat) := [([97] : List Nat), ([98] : List Nat), ([99] : List Nat), ([97, 100, 100] : List Nat), ([110, 97, 109, 101] : List Nat), ([122, 122, 122, 122, 122, 122, 122, 122] : List Nat), ([112, 108, 117, 115] : List Nat), ([109, 105, 110, 117, 115] : List Nat), ([116, 105, 109, 101, 115] : List Nat), ([105, 102] : List Nat), ([120] : List Nat), ([121] : List Nat), ([122] : List Nat), ([113] : List Nat)]
theorem pool_all : POOL.all (fun w => okW w && vkB 0 0 8 0 (.str (SX.S w)) && PyData.canLay0 (.str (SX.S w))) = true := by decide +kernel
theorem pool_at {w : List Nat} (h : w ∈ POOL) : okW w = true ∧ Vk 0 0 8 0 (.str (SX.S w)) ∧ PyData.canLay0 (.str (SX.S w)) = true := by
  have := List.all_eq_true.mp pool_all w h
  rw [Bool.and_eq_true, Bool.and_eq_true] at this
  exact ⟨this.1.1, vkB_vk this.1.2, this.2⟩
theorem pool_nodup : POOL.Nodup := by decide
theorem cnt_go : ∀ (xs acc : List (List Nat)) (n : Nat), xs.Nodup → (∀ x ∈ xs, x ∉ acc) → (xs.foldl cnF (acc, n)).2 = n + xs.length
  | [], _, _, _, _ => rfl
  | x :: xs, acc, n, h, g => by
    have h := List.nodup_cons.mp h
    rw [List.foldl_cons]
    have e : cnF (acc, n) x = (x :: acc, n + 1) := by
      unfold cnF
      rw [if_neg (g x (by simp))]
    rw [e, cnt_go xs (x :: acc) (n + 1) h.2 fun y hy hm => ?_, List.length_cons]
    · omega
    · rcases List.mem_cons.mp hm with e | e
      · subst e; exact h.1 hy
      · exact g y (List.mem_cons_of_mem _ hy) e
theorem cnt_nodup {xs : List (List Nat)} (h : xs.Nodup) : cntF xs = xs.length := (cnt_go xs [] 0 h fun _ _ => List.not_mem_nil).trans (Nat.zero_add _)
theorem vk_words {xs : List (List Nat)} (h : ∀ w ∈ xs, w ∈ POOL) {n : Nat} (hl : xs.length ≤ n) (hn : n ≤ 14) : Vk (10 ^ 30) 14 (9 * n) 1 ((vTup vTx).d xs) := by
  have hv : ∀ x ∈ xs.map vTx.d, Vk 0 0 8 0 x := fun x hx => by
    obtain ⟨w, hw, e⟩ := List.mem_map.mp hx
    subst e
    exact (pool_at (h w hw)).2.1
  have hw : ∀ ys : List PyData, (∀ y ∈ ys, Vk 0 0 8 0 y) → PyData.weightAll ys ≤ 9 * ys.length := by
    intro ys
    induction ys with
    | nil => intro _; exact Nat.le_refl _
    | cons y ys ih =>
      intro hy
      have h1 := (hy y (by simp)).wt
      have h2 := ih fun z hz => hy z (List.mem_cons_of_mem _ hz)
      rw [PyData.weightAll, List.length_cons]
      omega
  refine Vk.ofParts (by rw [List.length_map]; omega) (lfAll_iff.mpr fun x hx => lf_mono (Nat.zero_le _) (Nat.zero_le _) x (hv x hx).lf) ?_ ?_
  · have := hw _ hv
    rw [List.length_map] at this
    omega
  · have := depth_all.mpr fun x hx => (hv x hx).dp
    omega
theorem due_words {xs : List (List Nat)} (h : ∀ w ∈ xs, w ∈ POOL) (hn : xs.Nodup) (h1 : 1 ≤ xs.length) (h2 : xs.length ≤ 12) : dueB ((vTup vTx).d xs) = true := by
  have e1 : (xs.map vTx.d).map nameB = xs.map fun _ => true := by
    rw [List.map_map]
    exact List.map_congr_left fun w hw => (pool_at (h w hw)).1
  have e2 : (xs.map vTx.d).map txD = xs := by
    rw [List.map_map]
    exact (List.map_congr_left (g := id) fun w _ => rfl).trans (List.map_id xs)
  show (decide (((xs.map vTx.d).length : Int) < 13) && (!(xs.map vTx.d).isEmpty && (((xs.map vTx.d).map nameB).all id && decide ((cntF ((xs.map vTx.d).map txD) : Int) = ((xs.map vTx.d).length : Int))))) = true
  rw [e1, e2, cnt_nodup hn, List.length_map, decide_eq_true (by omega), decide_eq_true rfl]
  cases xs with
  | nil => simp at h1
  | cons x xs => simp
theorem lay_words : ∀ {xs : List (List Nat)}, (∀ w ∈ xs, w ∈ POOL) → PyData.canLayAll0 (xs.map e0Tx.d) = true
  | [], _ => rfl
  | w :: xs, h => by
    show (PyData.canLay0 (.str (SX.S w)) && PyData.canLayAll0 (xs.map e0Tx.d)) = true
    rw [(pool_at (h w (by simp))).2.2, lay_words fun y hy => h y (List.mem_cons_of_mem _ hy)]
    rfl
theorem lay_ints : ∀ xs : List Int, PyData.canLayAll0 (xs.map (e0 eInt).d) = true
  | [] => rfl
  | x :: xs => by
    show (true && PyData.canLayAll0 (xs.map (e0 eInt).d)) = true
    rw [lay_ints xs]
    rfl
set_option synthInstance.maxSize 4000 in
theorem eq_self {b : Int} {xs : List (List Nat)} {is : List Int} (h : ∀ w ∈ xs, w ∈ POOL) : m_Roster_eq ((b, xs, is, []), []) ((b, xs, is, []), []) = some true := by
  have e : oEq0 (e0Four (e0 eInt) (e0Tup e0Tx) (e0Tup (e0 eInt)) (e0Tup (e0Pair e0Tx (e0Tup (e0 eInt))))) (b, xs, is, []) (b, xs, is, []) = some true := by
    have c : ((e0Four (e0 eInt) (e0Tup e0Tx) (e0Tup (e0 eInt)) (e0Tup (e0Pair e0Tx (e0Tup (e0 eInt))))).d (b, xs, is, [])).canLay0 = true := by
      show (true && (PyData.canLayAll0 (xs.map e0Tx.d) && (PyData.canLayAll0 (is.map (e0 eInt).d) && (true && true)))) = true
      rw [lay_words h, lay_ints]
      rfl
    unfold oEq0
    rw [if_pos ⟨c, c⟩, decide_eq_true rfl]
  unfold m_Roster_eq
  show bind (bind (oEq0 (e0Four (e0 eInt) (e0Tup e0Tx) (e0Tup (e0 eInt)) (e0Tup (e0Pair e0Tx (e0Tup (e0 eInt))))) (b, xs, is, []) (b, xs, is, [])) fun t1 => some t1) (fun t => some t) = _
  rw [e]
  rfl
theorem law_true (ns : List Int) (hl : ns.length ≤ 63) : m_law ns = some true := by
  refine Tot.get ?_
  unfold m_law
  refine Tot.bind (P := (· = rangeI 0 (max 1 (min 3 (ns.length : Int))))) (tot_range (by omega) (by omega) (by omega) (by omega) (by omega) rfl) fun t1 e1 => ?_
  subst e1
  refine Tot.bind (Tot.loopGo (I := fun _ _ => True) _ _ trivial fun j x b hj _ => ?_) fun o ⟨b, eo, _⟩ => ?_
  · obtain ⟨ex, hj⟩ := rangeI_get hj
    refine Tot.bind (cup_ok (by omega) (by omega)) fun c hc => ?_
    refine Tot.bind (P := (· = rangeI (-1) 11)) (tot_range (by omega) (by omega) (by omega) (by omega) (by omega) rfl) fun t6 e6 => ?_
    subst e6
    refine Tot.bind (odd_ok (M := 10 ^ 30) (Nat.le_refl _) hc (by omega)) fun r7 ⟨v7, c7⟩ => ?_
    have l6 : (rangeI (-1) 11).length = 12 := by rw [len_rangeI]; rfl
    refine Tot.bind (P := (· = (rangeI (-1) 11).map vInt.d ++ [(PyData.bool true), PyData.none, (PyData.str ("3" : Str)), r7.1])) (Tot.ite (by rw [sizeLine_eq, List.length_map, l6]; simp) rfl) fun t8 e => ?_
    subst e
    have v8 : ∀ d ∈ (rangeI (-1) 11).map vInt.d ++ [(PyData.bool true), PyData.none, (PyData.str ("3" : Str)), r7.1], Vk (10 ^ 30) 2 200 13 d := fun d hd => by
      rcases List.mem_append.mp hd with hd | hd
      · obtain ⟨i, hi, e⟩ := List.mem_map.mp hd
        subst e
        have := rangeI_mem.mp hi
        exact (int_vk (M := 10 ^ 30) (Nat.le_trans (show i.natAbs ≤ 11 by omega) (by decide)) (by decide) 2 13).mono (Nat.le_refl _) (Nat.le_refl _) (by decide) (Nat.le_refl _)
      · simp only [List.mem_cons, List.not_mem_nil, or_false] at hd
        rcases hd with e | e | e | e
        · subst e; exact ⟨rfl, by decide, by decide⟩
        · subst e; exact ⟨rfl, by decide, by decide⟩
        · subst e
          exact (vkB_vk (M := 0) (L := 0) (W := 8) (D := 0) (by decide +kernel)).mono (Nat.zero_le _) (Nat.zero_le _) (by decide) (by decide)
        · subst e; exact v7
    refine Tot.bind (P := fun t => t.all id = true) (Tot.of (mapO_map (g := fun _ => true) fun x hx => ?_) (by rw [List.all_map]; simp)) fun t13 h13 => ?_
    · rw [made_ok (v8 x hx) (by decide) (by decide) (by decide)]
      rfl
    rw [h13]
    refine Tot.cond (fun h => by cases h) fun _ => ?_
    refine Tot.bind (P := (· = POOL)) (Tot.of rfl rfl) fun r14 e => ?_
    subst e
    refine Tot.bind (shuffled_ok c7 (by omega) (by decide)) fun r15 ⟨p15, c15⟩ => ?_
    have l15 : r15.1.length = 14 := p15.length_eq
    have m15 : ∀ w ∈ r15.1, w ∈ POOL := fun w hw => p15.mem_iff.mp hw
    have n15 : r15.1.Nodup := p15.nodup_iff.mpr pool_nodup
    refine Tot.bind (P := (· = rangeI 0 14)) (tot_range (by omega) (by omega) (by omega) (by omega) (by omega) rfl) fun t16 e => ?_
    subst e
    rw [cut_to (i := 2) (by decide)]
    refine Tot.bind (P := (· = (List.replicate 2 (r15.1.take 2)).flatten)) (Tot.ite ⟨(fun e => by
      have := congrArg List.length e
      rw [List.length_take, l15] at this
      cases this), by decide, by decide, by rw [List.length_take, l15]; decide⟩ rfl) fun t20 e => ?_
    have m20 : ∀ w ∈ t20, w ∈ POOL := fun w hw => by
      rw [e] at hw
      obtain ⟨l, hl, hw⟩ := List.mem_flatten.mp hw
      rw [(List.mem_replicate.mp hl).2] at hw
      exact m15 w (List.mem_of_mem_take hw)
    have l20 : t20.length ≤ 4 := by
      rw [e, len_rep, List.length_take, l15]
      decide
    clear e
    have l16 : (rangeI 0 14).length = 14 := by rw [len_rangeI]; rfl
    have v21a : ∀ d ∈ ((rangeI 0 14).map (fun (x17 : Int) => (cutL r15.1 none (some x17)))).map (vTup vTx).d, Vk (10 ^ 30 + 1) 16 1139 16 d := fun d hd => by
      rw [List.map_map] at hd
      obtain ⟨i, hi, e⟩ := List.mem_map.mp hd
      subst e
      have hi := rangeI_mem.mp hi
      show Vk _ _ _ _ ((vTup vTx).d (cutL r15.1 none (some i)))
      rw [cut_to hi.1]
      exact (vk_words (n := 14) (fun w hw => m15 w (List.mem_of_mem_take hw)) (by rw [List.length_take]; omega) (Nat.le_refl _)).mono (by decide) (by decide) (by decide) (by decide)
    rw [cut_to (i := 3) (by decide)]
    have v21b : Vk (10 ^ 30 + 1) 16 1139 16 ((vTup vTx).d t20) := (vk_words (n := 14) m20 (by omega) (Nat.le_refl _)).mono (by decide) (by decide) (by decide) (by decide)
    have v21c : Vk (10 ^ 30 + 1) 16 1139 16 (PyData.list ((r15.1.take 3).map vTx.d)) := by
      have v := (vk_words (n := 14) (xs := r15.1.take 3) (fun w hw => m15 w (List.mem_of_mem_take hw)) (by rw [List.length_take]; omega) (Nat.le_refl _)).mono (show 10 ^ 30 ≤ 10 ^ 30 + 1 by decide) (show 14 ≤ 16 by decide) (show 9 * 14 ≤ 1139 by decide) (show 1 ≤ 16 by decide)
      have p := Vk.parts (xs := (r15.1.take 3).map vTx.d) v
      exact Vk.ofPartsL p.2.1 p.2.2.1 p.2.2.2
    refine Tot.bind (P := fun t => t.length = 16 ∧ ∀ d ∈ t, Vk (10 ^ 30 + 1) 16 1139 16 d) (Tot.ite (by rw [sizeLine_eq, List.length_map, List.length_map, l16]; simp) ⟨by rw [List.length_append, List.length_map, List.length_map, l16]; rfl, fun d hd => ?_⟩) fun t21 ⟨l21, v21⟩ => ?_
    · rcases List.mem_append.mp hd with hd | hd
      · exact v21a d hd
      · simp only [List.mem_cons, List.not_mem_nil, or_false] at hd
        rcases hd with e | e <;> subst e
        · exact v21b
        · exact v21c
    refine Tot.bind (P := fun t => t.length = 18 ∧ ∀ d ∈ t, Vk (10 ^ 30 + 1) 16 1139 16 d) (Tot.ite (by rw [sizeLine_eq, l21]; simp) ⟨by rw [List.length_append, l21]; rfl, fun d hd => ?_⟩) fun t22 ⟨l22, v22⟩ => ?_
    · rcases List.mem_append.mp hd with hd | hd
      · exact v21 d hd
      · simp only [List.mem_cons, List.not_mem_nil, or_false] at hd
        rcases hd with e | e <;> subst e
        · exact (vkB_vk (M := 0) (L := 0) (W := 8) (D := 0) (by decide +kernel)).mono (Nat.zero_le _) (Nat.zero_le _) (by decide) (by decide)
        · exact (vkB_vk (M := 0) (L := 1) (W := 20) (D := 1) (by decide +kernel)).mono (Nat.zero_le _) (by decide) (by decide) (by decide)
    refine Tot.bind (P := (· = rangeI 0 8)) (tot_range (by omega) (by omega) (by omega) (by omega) (by omega) rfl) fun t23 e => ?_
    subst e
    have l23 : (rangeI 0 8).length = 8 := by rw [len_rangeI]; rfl
    refine Tot.bind (Tot.lc (I := fun i (acc : List PyData) c => acc.length = i ∧ (∀ d ∈ acc, Vk (10 ^ 30 + 1) 16 1139 16 d) ∧ CupOk c (0 + 11 + 100 + (i : Int) * 40)) _ _ 0 [] ⟨rfl, fun d hd => (by cases hd), c15.mono (by omega)⟩ fun i x c acc hx ⟨a1, a2, a3⟩ => ?_) fun t31 ⟨l31, v31, c31⟩ => ?_
    · obtain ⟨ex, hj⟩ := rangeI_get hx
      rw [Nat.zero_add] at a1 a3 ⊢
      refine Tot.bind (dip_ok a3 (by omega) (by decide) (sml64 (by decide) (by decide))) fun r28 ⟨b1, b2, c28⟩ => ?_
      rw [cut_to (show 0 ≤ 1 + r28.1 by omega)]
      refine Tot.bind (bent_ok (M := 10 ^ 30) (Nat.le_refl _) (by decide) 5 14 126 1 r28.2 _ 2 _ ((vk_words (n := 14) (fun w hw => m15 w (List.mem_of_mem_take hw)) (by rw [List.length_take]; omega) (Nat.le_refl _)).mono (Nat.le_refl _) (Nat.le_refl _) (by decide) (Nat.le_refl _)) (by decide) (by decide) (by decide) c28 (by omega)) fun r29 ⟨v29, c29⟩ => Tot.ret ⟨?_, ?_, c29.mono (by omega)⟩
      · show (acc ++ [r29.1]).length = i + 1
        rw [List.length_append, a1]
        rfl
      · intro d hd
        rcases List.mem_append.mp (show d ∈ acc ++ [r29.1] from hd) with hd | hd
        · exact a2 d hd
        · rw [List.mem_singleton.mp hd]
          exact v29.mono (Nat.le_refl _) (by decide) (by decide) (by decide)
    rw [List.nil_append] at l31 v31
    rw [Nat.zero_add, l23] at l31 c31
    refine Tot.bind (P := fun t => t.length = 26 ∧ ∀ d ∈ t, Vk (10 ^ 30 + 1) 16 1139 16 d) (Tot.ite (by rw [sizeLine_eq, l22, l31]; decide) ⟨by rw [List.length_append, l22, l31], fun d hd => (List.mem_append.mp hd).elim (v22 d) (v31 d)⟩) fun t32 ⟨l32, v32⟩ => ?_
    refine Tot.bind (odd_ok (M := 10 ^ 30) (Nat.le_refl _) c31 (by omega)) fun r33 ⟨v33, c33⟩ => ?_
    refine Tot.bind (P := fun t => ∀ d ∈ t, Vk (10 ^ 30 + 1) 16 1139 16 d) (Tot.ite (by rw [sizeLine_eq, l32]; show 26 + 1 ≤ 16777216; decide) fun d hd => (List.mem_append.mp hd).elim (v32 d) fun h => by
      rw [List.mem_singleton.mp h]
      exact v33.mono (by decide) (by decide) (by decide) (by decide)) fun t34 v34 => ?_
    refine Tot.bind (P := fun t => t.all id = true) (Tot.of (mapO_map (g := fun _ => true) fun x hx => ?_) (by rw [List.all_map]; simp)) fun t39 h39 => ?_
    · rw [of_right_ok (v34 x hx) (by decide) (by decide) (by decide) (by decide)]
      rfl
    rw [h39]
    refine Tot.cond (fun h => by cases h) fun _ => ?_
    rw [cut_to (i := 5) (by decide)]
    have l5 : (r15.1.take (5 : Int).toNat).length = 5 := by rw [List.length_take, l15]; rfl
    have m5 : ∀ w ∈ r15.1.take (5 : Int).toNat, w ∈ POOL := fun w hw => m15 w (List.mem_of_mem_take hw)
    have n5 : (r15.1.take (5 : Int).toNat).Nodup := n15.sublist (List.take_sublist _ _)
    have vk5 := vk_words (n := 14) m5 (by omega) (Nat.le_refl _)
    have d5 := due_words m5 n5 (by omega) (by omega)
    generalize r15.1.take (5 : Int).toNat = xs at *
    obtain ⟨ds, ed, eo⟩ := of_ok vk5 (by decide) d5
    have ed : ds = xs.map vTx.d := by
      have : PyData.tuple (xs.map vTx.d) = PyData.tuple ds := ed
      injection this with h
      exact h.symm
    have e2 : (xs.map vTx.d).map txD = xs := by
      rw [List.map_map]
      exact (List.map_congr_left (g := id) fun w _ => rfl).trans (List.map_id xs)
    rw [ed, e2, List.length_map, l5] at eo
    refine Tot.bind (P := (· = ((sz 5, xs, rangeI 0 ((5 : Nat) : Int), []), []))) (Tot.of eo rfl) fun r40 e => ?_
    subst e
    refine Tot.bind (P := (· = ((sz 5, xs, rangeI 0 ((5 : Nat) : Int), []), []))) (Tot.of eo rfl) fun r41 e => ?_
    subst e
    refine Tot.bind (P := (· = true)) (Tot.of (eq_self m5) rfl) fun r42 e => ?_
    subst e
    refine Tot.bind (P := (· = false)) (Tot.cond (fun h => by cases h) fun _ => ?_) fun t50 e => ?_
    · refine Tot.bind (P := (· = ((3, [], [], []), []))) (Tot.of (init_ok (by decide) (by decide)) rfl) fun r43 e => ?_
      subst e
      refine Tot.bind (P := (· = ((3, [], [], []), []))) (Tot.of (init_ok (by decide) (by decide)) rfl) fun r44 e => ?_
      subst e
      refine Tot.bind (P := (· = true)) (Tot.of (eq_self fun w h => by cases h) rfl) fun r45 e => ?_
      subst e
      refine Tot.bind (P := (· = false)) (Tot.cond (fun h => by cases h) fun _ => ?_) fun t48 e => Tot.ret e
      have rn : Rp 108 1 ((vTup vTx).d xs) := by
        obtain ⟨ds', e', l1, l2, hn, _⟩ := due_parts d5
        rw [e']
        exact rp_names hn l2
      have es := shown_ok (b := sz 5) (xs := xs) (is := rangeI 0 ((5 : Nat) : Int)) (by decide) rn (fun i hi => by have := rangeI_mem.mp hi; omega) (by rw [len_rangeI]; decide) (by omega)
      refine Tot.bind (P := (· = (told (sz 5) ((vTup vTx).d xs) (xs.length : Int) (rangeI 0 ((5 : Nat) : Int))).shown)) (Tot.of es rfl) fun r46 e => ?_
      subst e
      refine Tot.bind (P := (· = (told (sz 5) ((vTup vTx).d xs) (xs.length : Int) (rangeI 0 ((5 : Nat) : Int))).shown)) (Tot.of es rfl) fun r47 e => Tot.ret ?_
      rw [e, decide_eq_true rfl]
      rfl
    · subst e
      exact Tot.cond (fun h => by cases h) fun _ => Tot.ret ⟨(), rfl, trivial⟩
  · subst eo
    exact Tot.ret rfl
theorem law_end {K : PySem.W.Frag} {Z : Ads} {H : Hp} {a : Addr} {ns : List Int} {E : XK} (hT : Z.T_l_made_right ≠ Z.T_l_of_right) (hl : ns.length ≤ 63) (hO : OnlyT H [Z.T_l_made_right, Z.T_l_of_right]) (hS : SqL K H a (ns.map V.int)) : sp_law K Z [.ref a] H (fun v _ => v = .bl true) E := by
  obtain ⟨W, c, hS'⟩ := only_coreT (ts := [(Z.T_l_made_right, "_law_made_right.<locals>.<lambda>"), (Z.T_l_of_right, "_law_of_right.<locals>.<lambda>")]) (by simp [hT]) hO hS
  exact ⟨ns, true, W, law_true ns hl, c, .cons ⟨hl, a, rfl, hS'⟩ .nil, fun v H ⟨F, c, e⟩ => e⟩

end LW
open PySem PySem.W PyProof.Rows in
set_option maxHeartbeats 0 in
theorem PySem.Challenge.cw_maskgroups_k53_rosters_made_holds : PySem.Challenge.rw_maskgroups_k53_rosters_made.Holds := by
  w_on; o_law; k_head; (case hw => w_witness2)
  k_fill
  refine ML.walk_GT (l := PySem.Challenge.rw_maskgroups_k53_rosters_made) (n := 63) (k := 14) (x := "_law_script") (CX := fun _ => L2.CX0) (cp := [(753, 749), (760, 756)]) (sp := fun w => LW.sp_law _ ⟨749, 756, 0⟩) rfl (by decide) rfl ⟨⟨rfl, by decide, by decide⟩, rfl⟩ (fun w h Y => PySem.W.km_in_of Y) ?hE ?oT ?cT ?F (fun w H a ns hl hO hS => LW.law_end (by decide) hl hO hS) (fun _ _ _ _ _ h => h)
  case F =>
    intro w mg fa h KX G hmg
    refine' LW.all_mk KX G hmg ?aE_NoName ?aE_BadNumber ?aE_TakenNumber ?aE_NotTold ?aE_BadName ?aE_TakenName ?aE_Full ?aE_NoRoom ?aE_NoTitle ?aE_TooMany ?aE_NothingToUndo ?aM_err ?aE_BadBits ?lC_BadBits ?rv_BadBits ?sa_BadBits ?ex_BadBits ?ty_BadBits ?kc_BadBits ?iC_BadBits ?tI_BadBits ?lF_BadBits ?cd_BadBits ?lc_BadBits ?lv_BadBits ?lk_BadBits ?mr_BadBits ?ms_BadBits ?sv_BadBits ?st_BadBits ?no_BadBits ?ga_BadBits ?gg_BadBits ?hd_BadBits ?ca_BadBits ?sg_BadBits ?tk_BadBits ?mo_BadBits ?ci_BadBits ?em_BadBits ?aE_BadNames ?lC_BadNames ?rv_BadNames ?sa_BadNames ?ex_BadNames ?ty_BadNames ?kc_BadNames ?iC_BadNames ?tI_BadNames ?lF_BadNames ?cd_BadNames ?lc_BadNames ?lv_BadNames ?lk_BadNames ?mr_BadNames ?ms_BadNames ?sv_BadNames ?st_BadNames ?no_BadNames ?ga_BadNames ?gg_BadNames ?hd_BadNames ?ca_BadNames ?sg_BadNames ?tk_BadNames ?mo_BadNames ?ci_BadNames ?em_BadNames ?kv_BadBits ?ki_BadBits_BadBits ?ki_BadBits_BadName ?ki_BadBits_BadNames ?ki_BadBits_BadNumber ?ki_BadBits_Full ?ki_BadBits_NoName ?ki_BadBits_NoRoom ?ki_BadBits_NoTitle ?ki_BadBits_NotTold ?ki_BadBits_NothingToUndo ?ki_BadBits_TakenName ?ki_BadBits_TakenNumber ?ki_BadBits_TooMany ?kv_BadNames ?ki_BadNames_BadBits ?ki_BadNames_BadName ?ki_BadNames_BadNames ?ki_BadNames_BadNumber ?ki_BadNames_Full ?ki_BadNames_NoName ?ki_BadNames_NoRoom ?ki_BadNames_NoTitle ?ki_BadNames_NotTold ?ki_BadNames_NothingToUndo ?ki_BadNames_TakenName ?ki_BadNames_TakenNumber ?ki_BadNames_TooMany ?pf_err ?aC_Roster ?pg_Roster ?hd_Roster ?po_Roster ?sa_Roster ?mk_Roster ?kc_Roster ?na_Roster_present ?na_Roster_past ?cr1_Roster ?cr2_Roster ?cv_Roster_MOST ?ha_Roster ?hn_Roster ?ht_Roster ?hm_Roster ?nn_Roster ?nm_Roster ?a0 ?l0 ?c0 ?k0 ?a1 ?l1 ?c1 ?k1 ?a2 ?l2 ?c2 ?k2 ?a3 ?i3 ?l3 ?c3 ?k3 ?a4 ?pg4 ?pt4 ?pr4 ?l4 ?c4 ?k4 ?a5 ?pr5 ?pf5 ?l5 ?c5 ?k5 ?a6 ?pg6 ?pt6 ?pr6 ?l6 ?c6 ?k6 ?a7 ?pg7 ?pt7 ?pr7 ?l7 ?c7 ?k7 ?a8 ?pg8 ?pt8 ?pr8 ?l8 ?c8 ?k8 ?a9 ?i9 ?l9 ?c9 ?k9 ?a10 ?i10 ?l10 ?c10 ?k10 ?a11 ?i11 ?l11 ?c11 ?k11 ?a12 ?i12 ?l12 ?c12 ?k12 ?a13 ?l13 ?c13 ?k13 ?a14 ?l14 ?c14 ?k14 ?a15 ?l15 ?c15 ?k15 ?a16 ?l16 ?c16 ?k16 ?a17 ?l17 ?c17 ?k17 ?a18 ?l18 ?c18 ?k18 ?a19 ?l19 ?c19 ?k19 ?a20 ?l20 ?c20 ?k20 ?a21 ?l21 ?c21 ?k21 ?a22 ?l22 ?c22 ?k22 ?a23 ?l23 ?c23 ?k23 ?a24 ?l24 ?c24 ?k24 ?a25 ?l25 ?c25 ?k25 ?lc25 ?lv25 ?a26 ?l26 ?c26 ?k26 ?lc26 ?lv26 ?a27 ?l27 ?c27 ?k27 ?c_LETTERS ?c_MOST_BITS ?c_MOST_LETTERS ?z_ValueError ?z_abs ?z_all ?z_bool ?z_int ?z_isinstance ?z_len ?z_list ?z_max ?z_min ?z_range ?z_repr ?z_set ?z_str ?z_super ?z_tuple
    (case aE_NoName => first | k_is | kernel_rfl); (case aE_BadNumber => first | k_is | kernel_rfl); (case aE_TakenNumber => first | k_is | kernel_rfl); (case aE_NotTold => first | k_is | kernel_rfl); (case aE_BadName => first | k_is | kernel_rfl); (case aE_TakenName => first | k_is | kernel_rfl); (case aE_Full => first | k_is | kernel_rfl); (case aE_NoRoom => first | k_is | kernel_rfl); (case aE_NoTitle => first | k_is | kernel_rfl); (case aE_TooMany => first | k_is | kernel_rfl); (case aE_NothingToUndo => first | k_is | kernel_rfl); (case aM_err => first | k_is | kernel_rfl); (case aE_BadBits => first | k_is | kernel_rfl); (case lC_BadBits => first | k_is | kernel_rfl); (case rv_BadBits => rfl); (case sa_BadBits => first | k_is | kernel_rfl); (case ex_BadBits => first | k_is | kernel_rfl); (case ty_BadBits => first | k_is | kernel_rfl); (case kc_BadBits => first | k_is | kernel_rfl); (case iC_BadBits => first | k_is | kernel_rfl); (case tI_BadBits => first | k_is | kernel_rfl); (case lF_BadBits => first | k_is | kernel_rfl); (case cd_BadBits => first | k_is | kernel_rfl); (case lc_BadBits => first | k_is | kernel_rfl); (case lv_BadBits => rfl); (case lk_BadBits => first | k_is | kernel_rfl); (case mr_BadBits => first | k_is | kernel_rfl); (case ms_BadBits => first | k_is | kernel_rfl); (case sv_BadBits => first | k_is | kernel_rfl); (case st_BadBits => first | k_is | kernel_rfl); (case no_BadBits => first | k_is | kernel_rfl); (case ga_BadBits => first | k_is | kernel_rfl); (case gg_BadBits => first | k_is | kernel_rfl); (case hd_BadBits => first | k_is | kernel_rfl); (case ca_BadBits => first | k_is | kernel_rfl); (case sg_BadBits => first | k_is | kernel_rfl); (case tk_BadBits => first | k_is | kernel_rfl); (case mo_BadBits => first | k_is | kernel_rfl); (case ci_BadBits => first | k_is | kernel_rfl); (case em_BadBits => first | k_is | kernel_rfl); (case aE_BadNames => first | k_is | kernel_rfl); (case lC_BadNames => first | k_is | kernel_rfl); (case rv_BadNames => rfl); (case sa_BadNames => first | k_is | kernel_rfl); (case ex_BadNames => first | k_is | kernel_rfl); (case ty_BadNames => first | k_is | kernel_rfl); (case kc_BadNames => first | k_is | kernel_rfl); (case iC_BadNames => first | k_is | kernel_rfl); (case tI_BadNames => first | k_is | kernel_rfl); (case lF_BadNames => first | k_is | kernel_rfl); (case cd_BadNames => first | k_is | kernel_rfl); (case lc_BadNames => first | k_is | kernel_rfl); (case lv_BadNames => rfl); (case lk_BadNames => first | k_is | kernel_rfl); (case mr_BadNames => first | k_is | kernel_rfl); (case ms_BadNames => first | k_is | kernel_rfl); (case sv_BadNames => first | k_is | kernel_rfl); (case st_BadNames => first | k_is | kernel_rfl); (case no_BadNames => first | k_is | kernel_rfl); (case ga_BadNames => first | k_is | kernel_rfl); (case gg_BadNames => first | k_is | kernel_rfl); (case hd_BadNames => first | k_is | kernel_rfl); (case ca_BadNames => first | k_is | kernel_rfl); (case sg_BadNames => first | k_is | kernel_rfl); (case tk_BadNames => first | k_is | kernel_rfl); (case mo_BadNames => first | k_is | kernel_rfl); (case ci_BadNames => first | k_is | kernel_rfl); (case em_BadNames => first | k_is | kernel_rfl); (case kv_BadBits => first | k_is | kernel_rfl); (case ki_BadBits_BadBits => first | k_is | kernel_rfl); (case ki_BadBits_BadName => first | k_is | kernel_rfl); (case ki_BadBits_BadNames => first | k_is | kernel_rfl); (case ki_BadBits_BadNumber => first | k_is | kernel_rfl); (case ki_BadBits_Full => first | k_is | kernel_rfl); (case ki_BadBits_NoName => first | k_is | kernel_rfl); (case ki_BadBits_NoRoom => first | k_is | kernel_rfl); (case ki_BadBits_NoTitle => first | k_is | kernel_rfl); (case ki_BadBits_NotTold => first | k_is | kernel_rfl); (case ki_BadBits_NothingToUndo => first | k_is | kernel_rfl); (case ki_BadBits_TakenName => first | k_is | kernel_rfl); (case ki_BadBits_TakenNumber => first | k_is | kernel_rfl); (case ki_BadBits_TooMany => first | k_is | kernel_rfl); (case kv_BadNames => first | k_is | kernel_rfl); (case ki_BadNames_BadBits => first | k_is | kernel_rfl); (case ki_BadNames_BadName => first | k_is | kernel_rfl); (case ki_BadNames_BadNames => first | k_is | kernel_rfl); (case ki_BadNames_BadNumber => first | k_is | kernel_rfl); (case ki_BadNames_Full => first | k_is | kernel_rfl); (case ki_BadNames_NoName => first | k_is | kernel_rfl); (case ki_BadNames_NoRoom => first | k_is | kernel_rfl); (case ki_BadNames_NoTitle => first | k_is | kernel_rfl); (case ki_BadNames_NotTold => first | k_is | kernel_rfl); (case ki_BadNames_NothingToUndo => first | k_is | kernel_rfl); (case ki_BadNames_TakenName => first | k_is | kernel_rfl); (case ki_BadNames_TakenNumber => first | k_is | kernel_rfl); (case ki_BadNames_TooMany => first | k_is | kernel_rfl); (case pf_err => exact ⟨by first | rfl | kernel_rfl | decide +kernel, by first | rfl | kernel_rfl | decide +kernel⟩); (case aC_Roster => k_is); (case pg_Roster => k_is); (case hd_Roster => first | k_is | kernel_rfl); (case po_Roster => k_is); (case sa_Roster => first | k_is | kernel_rfl); (case mk_Roster => k_is); (case kc_Roster => first | k_is | kernel_rfl); (case na_Roster_present => k_is); (case na_Roster_past => k_is); (case cr1_Roster => first | k_is | kernel_rfl); (case cr2_Roster => first | k_is | kernel_rfl); (case cv_Roster_MOST => first | k_is | kernel_rfl); (case ha_Roster => k_is); (case hn_Roster => k_is); (case ht_Roster => k_is); (case hm_Roster => k_is); (case nn_Roster => k_is); (case nm_Roster => k_is); (case a0 => first | k_is | kernel_rfl); (case l0 => k_is); (case c0 => k_is); (case k0 => k_is); (case a1 => first | k_is | kernel_rfl); (case l1 => k_is); (case c1 => k_is); (case k1 => k_is); (case a2 => first | k_is | kernel_rfl); (case l2 => k_is); (case c2 => k_is); (case k2 => k_is); (case a3 => first | k_is | kernel_rfl); (case i3 => k_is); (case l3 => k_is); (case c3 => k_is); (case k3 => k_is); (case a4 => first | k_is | kernel_rfl); (case pg4 => first | k_is | kernel_rfl); (case pt4 => first | k_is | kernel_rfl); (case pr4 => first | k_is | kernel_rfl); (case l4 => k_is); (case c4 => k_is); (case k4 => k_is); (case a5 => first | k_is | kernel_rfl); (case pr5 => first | k_is | kernel_rfl); (case pf5 => first | k_is | kernel_rfl); (case l5 => k_is); (case c5 => k_is); (case k5 => k_is); (case a6 => first | k_is | kernel_rfl); (case pg6 => first | k_is | kernel_rfl); (case pt6 => first | k_is | kernel_rfl); (case pr6 => first | k_is | kernel_rfl); (case l6 => k_is); (case c6 => k_is); (case k6 => k_is); (case a7 => first | k_is | kernel_rfl); (case pg7 => first | k_is | kernel_rfl); (case pt7 => first | k_is | kernel_rfl); (case pr7 => first | k_is | kernel_rfl); (case l7 => k_is); (case c7 => k_is); (case k7 => k_is); (case a8 => first | k_is | kernel_rfl); (case pg8 => first | k_is | kernel_rfl); (case pt8 => first | k_is | kernel_rfl); (case pr8 => first | k_is | kernel_rfl); (case l8 => k_is); (case c8 => k_is); (case k8 => k_is); (case a9 => first | k_is | kernel_rfl); (case i9 => k_is); (case l9 => k_is); (case c9 => k_is); (case k9 => k_is); (case a10 => first | k_is | kernel_rfl); (case i10 => k_is); (case l10 => k_is); (case c10 => k_is); (case k10 => k_is); (case a11 => first | k_is | kernel_rfl); (case i11 => k_is); (case l11 => k_is); (case c11 => k_is); (case k11 => k_is); (case a12 => first | k_is | kernel_rfl); (case i12 => k_is); (case l12 => k_is); (case c12 => k_is); (case k12 => k_is); (case a13 => first | k_is | kernel_rfl); (case l13 => k_is); (case c13 => k_is); (case k13 => k_is); (case a14 => first | k_is | kernel_rfl); (case l14 => k_is); (case c14 => k_is); (case k14 => k_is); (case a15 => first | k_is | kernel_rfl); (case l15 => k_is); (case c15 => k_is); (case k15 => k_is); (case a16 => first | k_is | kernel_rfl); (case l16 => k_is); (case c16 => k_is); (case k16 => k_is); (case a17 => first | k_is | kernel_rfl); (case l17 => k_is); (case c17 => k_is); (case k17 => k_is); (case a18 => first | k_is | kernel_rfl); (case l18 => k_is); (case c18 => k_is); (case k18 => k_is); (case a19 => first | k_is | kernel_rfl); (case l19 => k_is); (case c19 => k_is); (case k19 => k_is); (case a20 => first | k_is | kernel_rfl); (case l20 => k_is); (case c20 => k_is); (case k20 => k_is); (case a21 => first | k_is | kernel_rfl); (case l21 => k_is); (case c21 => k_is); (case k21 => k_is); (case a22 => first | k_is | kernel_rfl); (case l22 => k_is); (case c22 => k_is); (case k22 => k_is); (case a23 => first | k_is | kernel_rfl); (case l23 => k_is); (case c23 => k_is); (case k23 => k_is); (case a24 => first | k_is | kernel_rfl); (case l24 => k_is); (case c24 => k_is); (case k24 => k_is); (case a25 => first | k_is | kernel_rfl); (case l25 => k_is); (case c25 => k_is); (case k25 => k_is); (case lc25 => first | k_is | kernel_rfl); (case lv25 => rfl); (case a26 => first | k_is | kernel_rfl); (case l26 => k_is); (case c26 => k_is); (case k26 => k_is); (case lc26 => first | k_is | kernel_rfl); (case lv26 => rfl); (case a27 => first | k_is | kernel_rfl); (case l27 => k_is); (case c27 => k_is); (case k27 => k_is); (case c_LETTERS => k_is); (case c_MOST_BITS => k_is); (case c_MOST_LETTERS => k_is); (case z_ValueError => k_is); (case z_abs => k_is); (case z_all => k_is); (case z_bool => k_is); (case z_int => k_is); (case z_isinstance => k_is); (case z_len => k_is); (case z_list => k_is); (case z_max => k_is); (case z_min => k_is); (case z_range => k_is); (case z_repr => k_is); (case z_set => k_is); (case z_str => k_is); (case z_super => k_is); (case z_tuple => k_is)
  case hE =>
    intro w h Y p hp
    have e := PySem.W.km_tabs_of Y
    simp only [List.mem_cons, List.not_mem_nil, or_false] at hp
    rcases hp with rfl | rfl <;> exact e _ (by simp)
  case oT =>
    intro w p hp
    simp only [List.mem_cons, List.not_mem_nil, or_false] at hp
    rcases hp with rfl | rfl <;> kernel_rfl
  case cT =>
    intro w p hp
    simp only [List.mem_cons, List.not_mem_nil, or_false] at hp
    rcases hp with rfl | rfl <;> kernel_rfl
