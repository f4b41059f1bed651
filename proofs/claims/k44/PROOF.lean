import PyProof.Rows.All
import Wide.All
import OpenK.AllK
import Wide.FinOn
import HandS.Base
import HandS.Call
import HandS.List
import HandS.Comp
import HandS.Ends
import HandS.Words
import HandS.Zip
import HandS.WideBits
import HandS.TupMul
import HandS.TupLe
import HandS.TupAny
import HandS.Style
import PySem.Challenge.RW_maskgroups_k44_bits_there_and_back
set_option Elab.async false
set_option linter.all false
set_option maxRecDepth 100000
set_option maxHeartbeats 8000000
namespace ML
open PySem Spec PyProof.Rows L2

/-! ## the state: frozen part F, cells that change cs, what is the callers' alone B -/
structure Sl where
  p : Hp → V → Prop
  mono : ∀ {F F' : Hp} {v : V}, Same F F' → p F v → p F' v
structure Cl where
  p : Hp → HO → Prop
  mono : ∀ {F F' : Hp} {o : HO}, Same F F' → p F o → p F' o
abbrev Cells := List (Addr × Cl)
abbrev Gam := List (Option Sl)
abbrev Tms := List (V × Sl)
structure Wd where
  F : Hp
  B : Hp
structure Core (W : Wd) (F : Hp) (cs : Cells) (H : Hp) : Prop where
  f0 : Same W.F F
  fh : Same F H
  bh : Same W.B H
  bf : ∀ a o, W.B a = some o → F a = none
  nd : (cs.map (·.1)).Nodup
  cell : ∀ x ∈ cs, F x.1 = none ∧ W.B x.1 = none ∧ ∃ o, H x.1 = some o ∧ x.2.p F o
def Slots (F : Hp) (G : Gam) (s : L2.St) : Prop := s.length = G.length ∧ ∀ (i : Nat) (sl : Sl), G[i]? = some (some sl) → ∃ v, s[i]? = some (some v) ∧ sl.p F v
def Temps (F : Hp) (T : Tms) : Prop := ∀ x ∈ T, x.2.p F x.1
def Sta (W : Wd) (G : Gam) (T : Tms) (cs : Cells) (s : L2.St) (H : Hp) : Prop := ∃ F, Core W F cs H ∧ Slots F G s ∧ Temps F T
def Exit (W : Wd) (sl : Sl) (cs : Cells) (v : V) (H : Hp) : Prop := ∃ F, Core W F cs H ∧ sl.p F v

theorem Slots.mono {F F' : Hp} {G : Gam} {s : L2.St} (e : Same F F') (h : Slots F G s) : Slots F' G s :=
  ⟨h.1, fun i sl hi => let ⟨v, h1, h2⟩ := h.2 i sl hi; ⟨v, h1, sl.mono e h2⟩⟩
theorem Temps.mono {F F' : Hp} {T : Tms} (e : Same F F') (h : Temps F T) : Temps F' T := fun x hx => x.2.mono e (h x hx)
theorem Temps.cons {F : Hp} {T : Tms} {v : V} {sl : Sl} (h1 : sl.p F v) (h : Temps F T) : Temps F ((v, sl) :: T) := fun x hx => by
  rcases List.mem_cons.mp hx with e | e
  · subst e; exact h1
  · exact h x e
theorem Temps.tail {F : Hp} {T : Tms} {x : V × Sl} (h : Temps F (x :: T)) : Temps F T := fun y hy => h y (List.mem_cons_of_mem _ hy)
theorem Temps.head {F : Hp} {T : Tms} {v : V} {sl : Sl} (h : Temps F ((v, sl) :: T)) : sl.p F v := h (v, sl) List.mem_cons_self
theorem Temps.nil {F : Hp} : Temps F [] := fun x hx => absurd hx (by simp)
theorem Sta.pop {W G T cs s H} {x : V × Sl} (h : Sta W G (x :: T) cs s H) : Sta W G T cs s H := let ⟨F, a, b, c⟩ := h; ⟨F, a, b, c.tail⟩
theorem Sta.push {W G T cs s H} {v : V} {sl : Sl} (h : Sta W G T cs s H) (hs : ∀ F, sl.p F v) : Sta W G ((v, sl) :: T) cs s H := let ⟨F, a, b, c⟩ := h; ⟨F, a, b, c.cons (hs F)⟩
theorem Sta.clear {W G T cs s H} (h : Sta W G T cs s H) : Sta W G [] cs s H := let ⟨F, a, b, c⟩ := h; ⟨F, a, b, Temps.nil⟩
theorem Sta.top {W G T cs s H} {v : V} {sl : Sl} (h : Sta W G ((v, sl) :: T) cs s H) : ∃ F, Core W F cs H ∧ Slots F G s ∧ sl.p F v ∧ Temps F T := let ⟨F, a, b, c⟩ := h; ⟨F, a, b, c.head, c.tail⟩

/-! ### the heap grows; a cell is written -/
theorem same_upd {H : Hp} {p : Addr} {o : HO} (h : H p = none) : Same H (upd H p o) := fun b x e => by
  rw [upd_ne (ne_of_none e h)]
  exact e
/-- a new frozen object -/
theorem Core.new {W F cs H} (h : Core W F cs H) {p : Addr} {o : HO} (hp : H p = none) : Core W (upd F p o) cs (upd H p o) := by
  have fp : F p = none := h.fh.free hp
  have sF : Same F (upd F p o) := same_upd fp
  have sH : Same H (upd H p o) := same_upd hp
  refine ⟨h.f0.trans sF, fun b u e => ?_, h.bh.trans sH, fun a u e => ?_, h.nd, fun x hx => ?_⟩
  · by_cases hb : b = p
    · subst hb; rw [upd_same] at e ⊢; exact e
    · rw [upd_ne hb] at e ⊢; exact h.fh b u e
  · have : a ≠ p := fun z => by subst z; have := h.bh _ _ e; rw [hp] at this; cases this
    rw [upd_ne this]; exact h.bf a u e
  · obtain ⟨h1, h2, u, h3, h4⟩ := h.cell x hx
    have : x.1 ≠ p := ne_of_none h3 hp
    exact ⟨by rw [upd_ne this]; exact h1, h2, u, sH _ _ h3, x.2.mono sF h4⟩
/-- a new cell -/
theorem Core.newCell {W F cs H} (h : Core W F cs H) {p : Addr} {o : HO} {c : Cl} (hp : H p = none) (hc : c.p F o) : Core W F (cs ++ [(p, c)]) (upd H p o) := by
  have fp : F p = none := h.fh.free hp
  have sH : Same H (upd H p o) := same_upd hp
  have np : ∀ x ∈ cs, x.1 ≠ p := fun x hx => let ⟨_, _, u, h3, _⟩ := h.cell x hx; ne_of_none h3 hp
  refine ⟨h.f0, h.fh.trans sH, h.bh.trans sH, h.bf, ?_, fun x hx => ?_⟩
  · rw [List.map_append, List.nodup_append]
    refine ⟨h.nd, by simp, fun a ha b hb e => ?_⟩
    have eb : b = p := by simpa using hb
    obtain ⟨x, hx, ex⟩ := List.mem_map.mp ha
    exact np x hx (by rw [ex, e, eb])
  · rcases List.mem_append.mp hx with hx | hx
    · obtain ⟨h1, h2, u, h3, h4⟩ := h.cell x hx
      exact ⟨h1, h2, u, sH _ _ h3, h4⟩
    · have e : x = (p, c) := by simpa using hx
      subst e
      exact ⟨fp, h.bh.free hp, o, upd_same, hc⟩
theorem _root_.List.Nodup.getElem?_inj_of {α : Type} {l : List α} (nd : l.Nodup) {i j : Nat} (hi : i < l.length) (e : l[i]? = l[j]?) : i = j := (List.getElem?_inj hi nd).mp e
theorem nodup_at {cs : Cells} (nd : (cs.map (·.1)).Nodup) {j : Nat} {p : Addr} {c : Cl} (hj : cs[j]? = some (p, c)) {i : Nat} {x : Addr × Cl} (hi : cs[i]? = some x) (hne : i ≠ j) : x.1 ≠ p := by
  intro e
  have h1 : (cs.map (·.1))[i]? = some p := by rw [List.getElem?_map, hi]; simp [e]
  have h2 : (cs.map (·.1))[j]? = some p := by rw [List.getElem?_map, hj]; rfl
  have hl := (List.getElem?_eq_some_iff.mp h1).1
  exact hne (nd.getElem?_inj_of hl (h1.trans h2.symm))
theorem map_set_fst (cs : Cells) (j : Nat) (p : Addr) (c c' : Cl) (hj : cs[j]? = some (p, c)) : (cs.set j (p, c')).map (·.1) = cs.map (·.1) := by
  apply List.ext_getElem?
  intro i
  rw [List.getElem?_map, List.getElem?_map, List.getElem?_set]
  by_cases e : j = i
  · subst e
    have := (List.getElem?_eq_some_iff.mp hj).1
    rw [if_pos rfl, if_pos this, hj]
    rfl
  · rw [if_neg e]
/-- a cell is written -/
theorem Core.write {W F cs H} (h : Core W F cs H) {j : Nat} {p : Addr} {c c' : Cl} {o : HO} (hj : cs[j]? = some (p, c)) (hc : c'.p F o) : Core W F (cs.set j (p, c')) (upd H p o) := by
  obtain ⟨h1, h2, u, h3, h4⟩ := h.cell (p, c) (List.mem_of_getElem? hj)
  have nF : ∀ b u, F b = some u → b ≠ p := fun b u e z => by subst z; rw [h1] at e; cases e
  have nB : ∀ b u, W.B b = some u → b ≠ p := fun b u e z => by subst z; rw [h2] at e; cases e
  refine ⟨h.f0, fun b u e => ?_, fun b u e => ?_, h.bf, ?_, fun x hx => ?_⟩
  · rw [upd_ne (nF b u e)]; exact h.fh b u e
  · rw [upd_ne (nB b u e)]; exact h.bh b u e
  · rw [map_set_fst cs j p c c' hj]; exact h.nd
  · obtain ⟨i, hi⟩ := List.mem_iff_getElem?.mp hx
    rw [List.getElem?_set] at hi
    by_cases e : j = i
    · subst e
      have hl := (List.getElem?_eq_some_iff.mp hj).1
      rw [if_pos rfl, if_pos hl] at hi
      have e2 := (Option.some.inj hi).symm
      subst e2
      exact ⟨h1, h2, o, upd_same, hc⟩
    · rw [if_neg e] at hi
      have ne := nodup_at h.nd hj hi (Ne.symm e)
      obtain ⟨a1, a2, w, a3, a4⟩ := h.cell x (List.mem_of_getElem? hi)
      exact ⟨a1, a2, w, by rw [upd_ne ne]; exact a3, a4⟩
/-- a cell is frozen -/
theorem Core.freeze {W F cs H} (h : Core W F cs H) {j : Nat} {p : Addr} {c : Cl} (hj : cs[j]? = some (p, c)) : ∃ o F', H p = some o ∧ c.p F' o ∧ F' p = some o ∧ Same F F' ∧ Core W F' (cs.eraseIdx j) H := by
  obtain ⟨h1, h2, u, h3, h4⟩ := h.cell (p, c) (List.mem_of_getElem? hj)
  have sF : Same F (upd F p u) := same_upd h1
  have nB : ∀ b o, W.B b = some o → b ≠ p := fun b o e z => by subst z; rw [h2] at e; cases e
  refine ⟨u, upd F p u, h3, c.mono sF h4, upd_same, sF, h.f0.trans sF, fun b o e => ?_, h.bh, fun a o e => ?_, ?_, fun x hx => ?_⟩
  · by_cases hb : b = p
    · subst hb; rw [upd_same] at e; cases e; exact h3
    · rw [upd_ne hb] at e; exact h.fh b o e
  · rw [upd_ne (nB a o e)]; exact h.bf a o e
  · have : (cs.eraseIdx j).map (·.1) = (cs.map (·.1)).eraseIdx j := by
      apply List.ext_getElem?
      intro i
      rw [List.getElem?_map, List.getElem?_eraseIdx, List.getElem?_eraseIdx]
      split <;> rw [List.getElem?_map]
    rw [this]
    exact h.nd.sublist (List.eraseIdx_sublist _ _)
  · obtain ⟨i, hi⟩ := List.mem_iff_getElem?.mp hx
    have ne : x.1 ≠ p := by
      rw [List.getElem?_eraseIdx] at hi
      split at hi
      · rename_i hlt; exact nodup_at h.nd hj hi (by omega)
      · rename_i hlt; exact nodup_at h.nd hj hi (by omega)
    obtain ⟨a1, a2, w, a3, a4⟩ := h.cell x (List.mem_of_mem_eraseIdx hx)
    exact ⟨by rw [upd_ne ne]; exact a1, a2, w, a3, x.2.mono sF a4⟩
/-- cells forgotten -/
theorem Core.drop {W F cs cs' H} (h : Core W F cs H) (hs : cs'.Sublist cs) : Core W F cs' H :=
  ⟨h.f0, h.fh, h.bh, h.bf, h.nd.sublist (hs.map _), fun x hx => h.cell x (hs.subset hx)⟩

/-! ### typed values -/
structure R (α : Type) where
  p : α → Hp → V → Prop
  mono : ∀ {a : α} {F F' : Hp} {v : V}, Same F F' → p a F v → p a F' v
def R.at {α : Type} (r : R α) (a : α) : Sl := ⟨r.p a, r.mono⟩
def rInt : R Int := ⟨fun i _ v => v = .int i, fun _ h => h⟩
def rBool : R Bool := ⟨fun b _ v => v = .bl b, fun _ h => h⟩
def rStr : R Str := ⟨fun x _ v => v = .str x, fun _ h => h⟩
def rNon : R Unit := ⟨fun _ _ v => v = .non, fun _ h => h⟩
def rOpt {α : Type} (r : R α) : R (Option α) := ⟨fun a F v => match a with | none => v = .non | some x => r.p x F v, fun {a} _ _ _ e h => by
  cases a with
  | none => exact h
  | some x => exact r.mono e h⟩
inductive All2 {α β : Type} (P : α → β → Prop) : List α → List β → Prop
  | nil : All2 P [] []
  | cons {a b l m} : P a b → All2 P l m → All2 P (a :: l) (b :: m)
theorem All2.imp {α β : Type} {P Q : α → β → Prop} (f : ∀ a b, P a b → Q a b) : ∀ {l m}, All2 P l m → All2 Q l m
  | _, _, .nil => .nil
  | _, _, .cons h t => .cons (f _ _ h) (All2.imp f t)
theorem All2.length {α β : Type} {P : α → β → Prop} : ∀ {l : List α} {m : List β}, All2 P l m → l.length = m.length
  | _, _, .nil => rfl
  | _, _, .cons _ t => by rw [List.length_cons, List.length_cons, All2.length t]
theorem All2.get {α β : Type} {P : α → β → Prop} : ∀ {l : List α} {m : List β} {i : Nat} {a : α}, All2 P l m → l[i]? = some a → ∃ b, m[i]? = some b ∧ P a b
  | _, _, _, _, .nil, h => by simp at h
  | _, _, 0, _, .cons q t, h => by simp at h; subst h; exact ⟨_, rfl, q⟩
  | _, _, i + 1, a, .cons q t, h => by
    obtain ⟨b, h1, h2⟩ := All2.get (i := i) (a := a) t (by simpa using h)
    exact ⟨b, by simpa using h1, h2⟩
theorem All2.get' {α β : Type} {P : α → β → Prop} : ∀ {l : List α} {m : List β} {i : Nat} {b : β}, All2 P l m → m[i]? = some b → ∃ a, l[i]? = some a ∧ P a b
  | _, _, _, _, .nil, h => by simp at h
  | _, _, 0, _, .cons q t, h => by simp at h; subst h; exact ⟨_, rfl, q⟩
  | _, _, i + 1, a, .cons q t, h => by
    obtain ⟨b, h1, h2⟩ := All2.get' (i := i) (b := a) t (by simpa using h)
    exact ⟨b, by simpa using h1, h2⟩
theorem All2.app {α β : Type} {P : α → β → Prop} : ∀ {l l' : List α} {m m' : List β}, All2 P l m → All2 P l' m' → All2 P (l ++ l') (m ++ m')
  | _, _, _, _, .nil, h => h
  | _, _, _, _, .cons q t, h => .cons q (All2.app t h)
theorem All2.take {α β : Type} {P : α → β → Prop} : ∀ {l : List α} {m : List β} (n : Nat), All2 P l m → All2 P (l.take n) (m.take n)
  | _, _, 0, _ => by simp; exact .nil
  | _, _, n + 1, .nil => .nil
  | _, _, n + 1, .cons q t => .cons q (All2.take n t)
theorem All2.drop {α β : Type} {P : α → β → Prop} : ∀ {l : List α} {m : List β} (n : Nat), All2 P l m → All2 P (l.drop n) (m.drop n)
  | _, _, 0, h => h
  | _, _, n + 1, .nil => .nil
  | _, _, n + 1, .cons q t => All2.drop n t
theorem All2.set {α β : Type} {P : α → β → Prop} {a : α} {b : β} (q : P a b) : ∀ {l : List α} {m : List β} (n : Nat), All2 P l m → All2 P (l.set n a) (m.set n b)
  | _, _, _, .nil => .nil
  | _, _, 0, .cons _ t => .cons q t
  | _, _, n + 1, .cons z t => .cons z (All2.set q n t)
theorem All2.erase {α β : Type} {P : α → β → Prop} : ∀ {l : List α} {m : List β} (n : Nat), All2 P l m → All2 P (l.eraseIdx n) (m.eraseIdx n)
  | _, _, _, .nil => .nil
  | _, _, 0, .cons _ t => t
  | _, _, n + 1, .cons z t => .cons z (All2.erase n t)
theorem All2.rev {α β : Type} {P : α → β → Prop} {l : List α} {m : List β} (h : All2 P l m) : All2 P l.reverse m.reverse := by
  induction h with
  | nil => exact .nil
  | cons q _ ih => rw [List.reverse_cons, List.reverse_cons]; exact ih.app (.cons q .nil)
/-- a tuple; a list that stands still -/
def rTup {α : Type} (r : R α) : R (List α) := ⟨fun xs F v => xs.length ≤ sizeLine ∧ ∃ a vs, v = .ref a ∧ F a = some (.tup vs) ∧ All2 (fun x u => r.p x F u) xs vs,
  fun {_ _ _ _} e ⟨h0, a, vs, h1, h2, h3⟩ => ⟨h0, a, vs, h1, e _ _ h2, h3.imp fun _ _ q => r.mono e q⟩⟩
def rLst {α : Type} (r : R α) : R (List α) := ⟨fun xs F v => xs.length ≤ sizeLine ∧ ∃ a vs, v = .ref a ∧ F a = some (.lst vs) ∧ All2 (fun x u => r.p x F u) xs vs,
  fun {_ _ _ _} e ⟨h0, a, vs, h1, h2, h3⟩ => ⟨h0, a, vs, h1, e _ _ h2, h3.imp fun _ _ q => r.mono e q⟩⟩
def rPair {α β : Type} (r : R α) (q : R β) : R (α × β) := ⟨fun x F v => ∃ a u w, v = .ref a ∧ F a = some (.tup [u, w]) ∧ r.p x.1 F u ∧ q.p x.2 F w,
  fun {_ _ _ _} e ⟨a, u, w, h1, h2, h3, h4⟩ => ⟨a, u, w, h1, e _ _ h2, r.mono e h3, q.mono e h4⟩⟩
/-- the very object at p -/
def sRef (p : Addr) : Sl := ⟨fun _ v => v = .ref p, fun _ h => h⟩
/-- a cell that holds a list -/
def cLst {α : Type} (r : R α) (xs : List α) : Cl := ⟨fun F o => xs.length ≤ sizeLine ∧ ∃ vs, o = .lst vs ∧ All2 (fun x u => r.p x F u) xs vs, fun {_ _ _} e ⟨h0, vs, h1, h2⟩ => ⟨h0, vs, h1, h2.imp fun _ _ q => r.mono e q⟩⟩

/-! ### the judgements -/
def Ev (te : TE) (W : Wd) (G : Gam) (T : Tms) (cs : Cells) (K : Sl → Cells → Prop) : Prop :=
  ∀ s H, Sta W G T cs s H → ∀ Q : VK, (∀ sl cs', K sl cs' → ∀ v H', Sta W G ((v, sl) :: T) cs' s H' → Q v H') → te s H Q
def Et (tt : TT) (W : Wd) (G : Gam) (T : Tms) (cs : Cells) (K : Bool → Cells → Prop) : Prop :=
  ∀ s H, Sta W G T cs s H → ∀ Q : Bool → Hp → Prop, (∀ b cs', K b cs' → ∀ H', Sta W G T cs' s H' → Q b H') → tt s H Q
def Args (F : Hp) : List Sl → List V → Prop := All2 (fun sl v => sl.p F v)
def EvA (ta : TA) (W : Wd) (G : Gam) (T : Tms) (cs : Cells) (K : List Sl → Cells → Prop) : Prop :=
  ∀ s H, Sta W G T cs s H → ∀ Q : List V → Hp → Prop, (∀ sls cs', K sls cs' → ∀ vs H', (∃ F, Core W F cs' H' ∧ Slots F G s ∧ Temps F T ∧ Args F sls vs) → Q vs H') → ta s H Q
def Nx (P : L2.St → Hp → Prop) (W : Wd) (G : Gam) (cs : Cells) : Prop := ∀ s H, Sta W G [] cs s H → P s H
def Rt (P : VK) (W : Wd) (sl : Sl) (cs : Cells) : Prop := ∀ v H, Exit W sl cs v H → P v H

section
variable {W : Wd} {G : Gam} {T : Tms} {cs : Cells} {K : Sl → Cells → Prop} {KB : Bool → Cells → Prop} {ta tb tc : TE} {tt tu : TT}
theorem Ev.imp {K' : Sl → Cells → Prop} (h : Ev ta W G T cs K) (f : ∀ sl cs', K sl cs' → K' sl cs') : Ev ta W G T cs K' := fun s H st Q q => h s H st Q fun sl cs' k => q sl cs' (f sl cs' k)
theorem Et.imp {K' : Bool → Cells → Prop} (h : Et tt W G T cs KB) (f : ∀ b cs', KB b cs' → K' b cs') : Et tt W G T cs K' := fun s H st Q q => h s H st Q fun b cs' k => q b cs' (f b cs' k)
theorem int_top {v : V} {i : Int} {s H} (h : Sta W G ((v, rInt.at i) :: T) cs s H) : v = .int i := let ⟨_, _, _, h, _⟩ := h.top; h
theorem bool_top {v : V} {i : Bool} {s H} (h : Sta W G ((v, rBool.at i) :: T) cs s H) : v = .bl i := let ⟨_, _, _, h, _⟩ := h.top; h
theorem str_top {v : V} {i : Str} {s H} (h : Sta W G ((v, rStr.at i) :: T) cs s H) : v = .str i := let ⟨_, _, _, h, _⟩ := h.top; h
theorem non_top {v : V} {s H} (h : Sta W G ((v, rNon.at ()) :: T) cs s H) : v = .non := let ⟨_, _, _, h, _⟩ := h.top; h
theorem ref_top {v : V} {p : Addr} {s H} (h : Sta W G ((v, sRef p) :: T) cs s H) : v = .ref p := let ⟨_, _, _, h, _⟩ := h.top; h

/-! ### names, constants -/
theorem e_var {i : Nat} {sl : Sl} (hi : G[i]? = some (some sl)) (k : K sl cs) : Ev (tVar i) W G T cs K := fun s H st Q q => by
  obtain ⟨F, c, sg, t⟩ := st
  obtain ⟨v, h1, h2⟩ := sg.2 i sl hi
  exact ⟨v, h1, q sl cs k v H ⟨F, c, sg, t.cons h2⟩⟩
theorem e_int {i : Int} (k : K (rInt.at i) cs) : Ev (tC (.int i)) W G T cs K := fun s H st Q q => q _ cs k _ H (st.push fun _ => rfl)
theorem e_bl {i : Bool} (k : K (rBool.at i) cs) : Ev (tC (.bl i)) W G T cs K := fun s H st Q q => q _ cs k _ H (st.push fun _ => rfl)
theorem e_str {i : Str} (k : K (rStr.at i) cs) : Ev (tC (.str i)) W G T cs K := fun s H st Q q => q _ cs k _ H (st.push fun _ => rfl)
theorem e_non (k : K (rNon.at ()) cs) : Ev (tC .non) W G T cs K := fun s H st Q q => q _ cs k _ H (st.push fun _ => rfl)

/-! ### ints -/
theorem e_opI0 {g : Int → Int → Int} (ha : Ev ta W G T cs fun sa cs1 => ∃ i, sa = rInt.at i ∧ Ev tb W G T cs1 fun sb cs2 => ∃ j, sb = rInt.at j ∧ K (rInt.at (g i j)) cs2) :
    Ev (tOp (rI0 fun i j => .int (g i j)) ta tb) W G T cs K := fun s H st Q q => by
  refine ha s H st _ fun sa cs1 ⟨i, e, hb⟩ va H1 st1 => ?_
  subst e
  refine hb s H1 st1.pop _ fun sb cs2 ⟨j, e, k⟩ vb H2 st2 => ?_
  subst e
  exact ⟨i, j, int_top st1, int_top st2, q _ _ k _ H2 (st2.pop.push fun _ => rfl)⟩
theorem e_opB0 {g : Int → Int → Bool} (ha : Ev ta W G T cs fun sa cs1 => ∃ i, sa = rInt.at i ∧ Ev tb W G T cs1 fun sb cs2 => ∃ j, sb = rInt.at j ∧ K (rBool.at (g i j)) cs2) :
    Ev (tOp (rI0 fun i j => .bl (g i j)) ta tb) W G T cs K := fun s H st Q q => by
  refine ha s H st _ fun sa cs1 ⟨i, e, hb⟩ va H1 st1 => ?_
  subst e
  refine hb s H1 st1.pop _ fun sb cs2 ⟨j, e, k⟩ vb H2 st2 => ?_
  subst e
  exact ⟨i, j, int_top st1, int_top st2, q _ _ k _ H2 (st2.pop.push fun _ => rfl)⟩
theorem e_opO {C : Int → Int → Prop} {g : Int → Int → Int} {o : Int → Int → Option Int} (ho : ∀ i j t, o i j = some t → C i j ∧ t = g i j)
    (ha : Ev ta W G T cs fun sa cs1 => ∃ i, sa = rInt.at i ∧ Ev tb W G T cs1 fun sb cs2 => ∃ j t, sb = rInt.at j ∧ o i j = some t ∧ K (rInt.at t) cs2) :
    Ev (tOp (rI C fun i j => .int (g i j)) ta tb) W G T cs K := fun s H st Q q => by
  refine ha s H st _ fun sa cs1 ⟨i, e, hb⟩ va H1 st1 => ?_
  subst e
  refine hb s H1 st1.pop _ fun sb cs2 ⟨j, t, e, et, k⟩ vb H2 st2 => ?_
  subst e
  obtain ⟨hc, e⟩ := ho i j t et
  subst e
  exact ⟨i, j, int_top st1, int_top st2, hc, q _ _ k _ H2 (st2.pop.push fun _ => rfl)⟩
theorem e_un {g : Int → Int} (ha : Ev ta W G T cs fun sa cs1 => ∃ i, sa = rInt.at i ∧ K (rInt.at (g i)) cs1) : Ev (tUn (rU fun i => .int (g i)) ta) W G T cs K := fun s H st Q q => by
  refine ha s H st _ fun sa cs1 ⟨i, e, k⟩ va H1 st1 => ?_
  subst e
  exact ⟨i, int_top st1, q _ _ k _ H1 (st1.pop.push fun _ => rfl)⟩
theorem e_eqI (ha : Ev ta W G T cs fun sa cs1 => ∃ i, sa = rInt.at i ∧ Ev tb W G T cs1 fun sb cs2 => ∃ j, sb = rInt.at j ∧ K (rBool.at (decide (i = j))) cs2) :
    Ev (tOp rEq ta tb) W G T cs K := fun s H st Q q => by
  refine ha s H st _ fun sa cs1 ⟨i, e, hb⟩ va H1 st1 => ?_
  subst e
  refine hb s H1 st1.pop _ fun sb cs2 ⟨j, e, k⟩ vb H2 st2 => ?_
  subst e
  rw [int_top st1, int_top st2]
  refine ⟨rfl, q _ _ k _ H2 (st2.pop.push fun _ => ?_)⟩
  show V.bl _ = V.bl _
  congr 1
  simp
theorem e_neI (ha : Ev ta W G T cs fun sa cs1 => ∃ i, sa = rInt.at i ∧ Ev tb W G T cs1 fun sb cs2 => ∃ j, sb = rInt.at j ∧ K (rBool.at (!decide (i = j))) cs2) :
    Ev (tOp rNe ta tb) W G T cs K := fun s H st Q q => by
  refine ha s H st _ fun sa cs1 ⟨i, e, hb⟩ va H1 st1 => ?_
  subst e
  refine hb s H1 st1.pop _ fun sb cs2 ⟨j, e, k⟩ vb H2 st2 => ?_
  subst e
  rw [int_top st1, int_top st2]
  refine ⟨rfl, q _ _ k _ H2 (st2.pop.push fun _ => ?_)⟩
  show V.bl _ = V.bl _
  congr 1
  simp

/-! ### tests -/
theorem t_val (ha : Ev ta W G T cs fun sa cs1 => ∃ b, sa = rBool.at b ∧ KB b cs1) : Et (tB ta) W G T cs KB := fun s H st Q q => by
  refine ha s H st _ fun sa cs1 ⟨b, e, k⟩ va H1 st1 => ?_
  subst e
  exact ⟨b, bool_top st1, q b cs1 k H1 st1.pop⟩
theorem t_test (ha : Ev ta W G T cs fun sa cs1 => ∃ b, sa = rBool.at b ∧ KB b cs1) : Et (tTest ta) W G T cs KB := fun s H st Q q => by
  refine ha s H st _ fun sa cs1 ⟨b, e, k⟩ va H1 st1 => ?_
  subst e
  exact ⟨b, bool_top st1, q b cs1 k H1 st1.pop⟩
theorem t_not (ha : Et tt W G T cs fun b cs1 => KB (!b) cs1) : Et (tNot tt) W G T cs KB := fun s H st Q q => ha s H st _ fun b cs1 k H1 st1 => q (!b) cs1 k H1 st1
/-- and: total right side -/
theorem t_and {c : Bool} {d : Bool} {cs' : Cells} (ha : Et tt W G T cs fun b cs1 => b = c ∧ (c = true → Et tu W G T cs1 fun b2 cs2 => b2 = d ∧ cs2 = cs') ∧ (c = false → d = false ∧ cs1 = cs')) (k : KB d cs') : Et (tAnd tt tu) W G T cs KB := fun s H st Q q => by
  refine ha s H st _ fun b cs1 ⟨e, h1, h2⟩ H1 st1 => ?_
  subst e
  cases b with
  | true => rw [if_pos rfl]; exact h1 rfl s H1 st1 _ fun b2 cs2 ⟨e1, e2⟩ H2 st2 => by subst e1 e2; exact q _ _ k H2 st2
  | false => rw [if_neg Bool.false_ne_true]; obtain ⟨e1, e2⟩ := h2 rfl; subst e1 e2; exact q _ _ k H1 st1
theorem t_or {c : Bool} {d : Bool} {cs' : Cells} (ha : Et tt W G T cs fun b cs1 => b = c ∧ (c = false → Et tu W G T cs1 fun b2 cs2 => b2 = d ∧ cs2 = cs') ∧ (c = true → d = true ∧ cs1 = cs')) (k : KB d cs') : Et (tOr tt tu) W G T cs KB := fun s H st Q q => by
  refine ha s H st _ fun b cs1 ⟨e, h1, h2⟩ H1 st1 => ?_
  subst e
  cases b with
  | false => rw [if_neg Bool.false_ne_true]; exact h1 rfl s H1 st1 _ fun b2 cs2 ⟨e1, e2⟩ H2 st2 => by subst e1 e2; exact q _ _ k H2 st2
  | true => rw [if_pos rfl]; obtain ⟨e1, e2⟩ := h2 rfl; subst e1 e2; exact q _ _ k H1 st1
theorem e_and {c : Bool} {d : Bool} {cs' : Cells} (ha : Ev ta W G T cs fun sa cs1 => sa = rBool.at c ∧ (c = true → Ev tb W G T cs1 fun sb cs2 => sb = rBool.at d ∧ cs2 = cs') ∧ (c = false → d = false ∧ cs1 = cs')) (k : K (rBool.at d) cs') : Ev (tAndV ta tb) W G T cs K := fun s H st Q q => by
  refine ha s H st _ fun sa cs1 ⟨e, h1, h2⟩ va H1 st1 => ?_
  subst e
  refine ⟨c, bool_top st1, ?_⟩
  cases c with
  | true => rw [if_pos rfl]; exact h1 rfl s H1 st1.pop _ fun sb cs2 ⟨e1, e2⟩ vb H2 st2 => by subst e1 e2; exact q _ _ k _ H2 st2
  | false => rw [if_neg Bool.false_ne_true]; obtain ⟨e1, e2⟩ := h2 rfl; subst e1 e2; exact q _ _ k _ H1 (st1.pop.push fun _ => rfl)
theorem e_or {c : Bool} {d : Bool} {cs' : Cells} (ha : Ev ta W G T cs fun sa cs1 => sa = rBool.at c ∧ (c = false → Ev tb W G T cs1 fun sb cs2 => sb = rBool.at d ∧ cs2 = cs') ∧ (c = true → d = true ∧ cs1 = cs')) (k : K (rBool.at d) cs') : Ev (tOrV ta tb) W G T cs K := fun s H st Q q => by
  refine ha s H st _ fun sa cs1 ⟨e, h1, h2⟩ va H1 st1 => ?_
  subst e
  refine ⟨c, bool_top st1, ?_⟩
  cases c with
  | false => rw [if_neg Bool.false_ne_true]; exact h1 rfl s H1 st1.pop _ fun sb cs2 ⟨e1, e2⟩ vb H2 st2 => by subst e1 e2; exact q _ _ k _ H2 st2
  | true => rw [if_pos rfl]; obtain ⟨e1, e2⟩ := h2 rfl; subst e1 e2; exact q _ _ k _ H1 (st1.pop.push fun _ => rfl)
theorem e_not (ha : Ev ta W G T cs fun sa cs1 => ∃ b, sa = rBool.at b ∧ K (rBool.at (!b)) cs1) : Ev (tNotV ta) W G T cs K := fun s H st Q q => by
  refine ha s H st _ fun sa cs1 ⟨b, e, k⟩ va H1 st1 => ?_
  subst e
  exact ⟨b, bool_top st1, q _ _ k _ H1 (st1.pop.push fun _ => rfl)⟩
/-- a if t else b: the answer's description is said ahead -/
theorem e_if {c : Bool} {sl : Sl} {cs' : Cells} (ht : Et tt W G T cs fun b cs1 => b = c ∧ (c = true → Ev ta W G T cs1 fun sa cs2 => sa = sl ∧ cs2 = cs') ∧ (c = false → Ev tb W G T cs1 fun sb cs2 => sb = sl ∧ cs2 = cs')) (k : K sl cs') : Ev (tIf tt ta tb) W G T cs K := fun s H st Q q => by
  refine ht s H st _ fun b cs1 ⟨e, h1, h2⟩ H1 st1 => ?_
  subst e
  cases b with
  | true => rw [if_pos rfl]; exact h1 rfl s H1 st1 _ fun sb cs2 ⟨e1, e2⟩ vb H2 st2 => by subst e1 e2; exact q _ _ k _ H2 st2
  | false => rw [if_neg Bool.false_ne_true]; exact h2 rfl s H1 st1 _ fun sb cs2 ⟨e1, e2⟩ vb H2 st2 => by subst e1 e2; exact q _ _ k _ H2 st2

/-! ### arguments -/
theorem ea_nil {K : List Sl → Cells → Prop} (k : K [] cs) : EvA tNil W G T cs K := fun s H ⟨F, c, sg, t⟩ Q q => q [] cs k [] H ⟨F, c, sg, t, .nil⟩
theorem ea_cons {K : List Sl → Cells → Prop} {tr : TA} (ha : Ev ta W G T cs fun sa cs1 => ∀ va, EvA tr W G ((va, sa) :: T) cs1 fun sls cs2 => K (sa :: sls) cs2) : EvA (tCons ta tr) W G T cs K := fun s H st Q q => by
  refine ha s H st _ fun sa cs1 h1 va H1 st1 => ?_
  refine h1 va s H1 st1 _ fun sls cs2 k vs H2 ⟨F, c, sg, t, ar⟩ => ?_
  exact q _ _ k _ H2 ⟨F, c, sg, t.tail, .cons t.head ar⟩
end
end ML

namespace ML
open PySem Spec PyProof.Rows L2

section
variable {W : Wd} {G G' : Gam} {T : Tms} {cs : Cells} {K : Sl → Cells → Prop} {KB : Bool → Cells → Prop} {ta tb tc te : TE} {tt tu : TT} {D : Ends} {t1 t2 : TS} {α β γ ρ : Type}

/-! ## statements -/
variable {nx bk ct : L2.St → Hp → Prop} {rt : VK}
def NxT (P : L2.St → Hp → Prop) (W : Wd) (G : Gam) (T : Tms) (cs : Cells) : Prop := ∀ s H, Sta W G T cs s H → P s H
theorem s_seq (h : NxT (t1 ⟨t2 ⟨nx, rt, bk, ct⟩, rt, bk, ct⟩) W G T cs) : NxT (tSeq t1 t2 ⟨nx, rt, bk, ct⟩) W G T cs := h
theorem s_next (h : NxT nx W G T cs) : NxT (tNext ⟨nx, rt, bk, ct⟩) W G T cs := h
theorem s_brk (h : NxT bk W G T cs) : NxT (tBreak ⟨nx, rt, bk, ct⟩) W G T cs := h
theorem s_cont (h : NxT ct W G T cs) : NxT (tCont ⟨nx, rt, bk, ct⟩) W G T cs := h
theorem Slots.set {F : Hp} {s : L2.St} {i : Nat} {v : V} {sl : Sl} (h : Slots F G s) (hv : sl.p F v) : Slots F (G.set i (some sl)) (s.set i (some v)) := by
  refine ⟨by rw [List.length_set, List.length_set]; exact h.1, fun j sl' hj => ?_⟩
  rw [List.getElem?_set] at hj ⊢
  by_cases e : i = j
  · subst e
    rw [if_pos rfl] at hj ⊢
    split at hj
    · rename_i hl
      cases hj
      rw [if_pos (by rw [h.1]; exact hl)]
      exact ⟨v, rfl, hv⟩
    · cases hj
  · rw [if_neg e] at hj ⊢
    exact h.2 j sl' hj
theorem s_set {i : Nat} (h : Ev te W G T cs fun sl cs1 => NxT nx W (G.set i (some sl)) T cs1) : NxT (tAsg te (gName i) ⟨nx, rt, bk, ct⟩) W G T cs := fun s H st => by
  refine h s H st _ fun sl cs1 k v H1 ⟨F, c, sg, t⟩ => ?_
  exact k _ H1 ⟨F, c, sg.set t.head, t.tail⟩
theorem s_drop (h : Ev te W G T cs fun _ cs1 => NxT nx W G T cs1) : NxT (tDrop te ⟨nx, rt, bk, ct⟩) W G T cs := fun s H st => by
  refine h s H st _ fun sl cs1 k v H1 st1 => ?_
  exact k _ H1 st1.pop
theorem s_ret (h : Ev te W G T cs fun sl cs1 => Rt rt W sl cs1) : NxT (tRet te ⟨nx, rt, bk, ct⟩) W G T cs := fun s H st => by
  refine h s H st _ fun sl cs1 k v H1 ⟨F, c, sg, t⟩ => ?_
  exact k _ H1 ⟨F, c, t.head⟩
theorem Rt.imp {P : VK} {sl sl' : Sl} (h : Rt P W sl cs) (f : ∀ F v, sl'.p F v → sl.p F v) : Rt P W sl' cs := fun v H ⟨F, c, q⟩ => h v H ⟨F, c, f _ _ q⟩
theorem Rt.drop {P : VK} {sl : Sl} {cs' : Cells} (h : Rt P W sl cs) (hs : cs.Sublist cs') : Rt P W sl cs' := fun v H ⟨F, c, q⟩ => h v H ⟨F, c.drop hs, q⟩
theorem s_retN (h : Rt rt W (rNon.at ()) cs) : NxT (tRetN ⟨nx, rt, bk, ct⟩) W G T cs := fun s H ⟨F, c, sg, t⟩ => h _ H ⟨F, c, rfl⟩
theorem s_if (h : Et tt W G T cs fun b cs1 => (b = true → NxT (t1 D) W G T cs1) ∧ (b = false → NxT (t2 D) W G T cs1)) : NxT (tIfS tt t1 t2 D) W G T cs := fun s H st => by
  refine h s H st _ fun b cs1 ⟨k1, k2⟩ H1 st1 => ?_
  cases b with
  | true => rw [if_pos rfl]; exact k1 rfl s H1 st1
  | false => rw [if_neg Bool.false_ne_true]; exact k2 rfl s H1 st1
/-- weaken: slots forgotten, cells forgotten -/
def Wkn : Gam → Gam → Prop
  | [], [] => True
  | _ :: g, none :: g' => Wkn g g'
  | some a :: g, some b :: g' => a = b ∧ Wkn g g'
  | _, _ => False
theorem Wkn.get : ∀ {g g' : Gam}, Wkn g g' → g.length = g'.length ∧ ∀ (i : Nat) (sl : Sl), g'[i]? = some (some sl) → g[i]? = some (some sl)
  | [], [], _ => ⟨rfl, fun _ _ h => h⟩
  | [], none :: _, h => h.elim
  | [], some _ :: _, h => h.elim
  | none :: _, [], h => h.elim
  | some _ :: _, [], h => h.elim
  | none :: g, some _ :: _, h => h.elim
  | x :: g, none :: g', h => by
    have h' : Wkn g g' := by cases x <;> exact h
    obtain ⟨h1, h2⟩ := Wkn.get h'
    refine ⟨by rw [List.length_cons, List.length_cons, h1], fun i sl hi => ?_⟩
    cases i with
    | zero => simp at hi
    | succ i => simpa using h2 i sl (by simpa using hi)
  | some a :: g, some b :: g', ⟨e, h⟩ => by
    subst e
    obtain ⟨h1, h2⟩ := Wkn.get h
    refine ⟨by rw [List.length_cons, List.length_cons, h1], fun i sl hi => ?_⟩
    cases i with
    | zero => exact hi
    | succ i => simpa using h2 i sl (by simpa using hi)
theorem Slots.weak {F : Hp} {s : L2.St} (w : Wkn G G') (h : Slots F G s) : Slots F G' s := by
  obtain ⟨h1, h2⟩ := w.get
  exact ⟨h.1.trans h1, fun i sl hi => h.2 i sl (h2 i sl hi)⟩
theorem s_weak {P : L2.St → Hp → Prop} {cs' : Cells} (w : Wkn G G') (hs : cs'.Sublist cs) (h : NxT P W G' T cs') : NxT P W G T cs := fun s H ⟨F, c, sg, t⟩ => h s H ⟨F, c.drop hs, sg.weak w, t⟩
/-- the list in a slot stands still from here on -/
theorem s_freeze {P : L2.St → Hp → Prop} {r : R α} {xs : List α} {p : Addr} (i j : Nat) (hi : G[i]? = some (some (sRef p))) (hj : cs[j]? = some (p, cLst r xs)) (h : NxT P W (G.set i (some ((rLst r).at xs))) T (cs.eraseIdx j)) : NxT P W G T cs := fun s H ⟨F, c, sg, t⟩ => by
  obtain ⟨o, F', h1, ⟨hz, vs, e, h2⟩, h3, sF, c'⟩ := c.freeze hj
  subst e
  obtain ⟨v, hv, ev⟩ := sg.2 i _ hi
  have hs : s = s.set i (some v) := by
    apply List.ext_getElem?
    intro k
    rw [List.getElem?_set]
    split
    · rename_i e; subst e; split
      · exact hv
      · rename_i hn; rw [List.getElem?_eq_none (by omega)]
    · rfl
  have ev' : v = .ref p := ev
  refine h s H ⟨F', c', ?_, t.mono sF⟩
  rw [hs]
  exact (sg.mono sF).set ⟨hz, p, vs, ev', h3, h2⟩

/-! ## targets -/
theorem wipe_get (s : L2.St) (j : Nat) : ∀ vs : List Nat, (wipe s vs)[j]? = if j ∈ vs then (if j < s.length then some none else none) else s[j]?
  | [] => by simp [wipe]
  | v :: vs => by
    unfold wipe
    rw [List.getElem?_set, wipe_get s j vs, wipe_length]
    by_cases e : v = j
    · subst e; simp
    · rw [if_neg e]
      have : (j ∈ v :: vs) ↔ j ∈ vs := by simp [Ne.symm e]
      simp only [this]
theorem wipe_set (s : L2.St) (i : Nat) (x : Option V) (vs : List Nat) (h : i ∈ vs) : wipe (s.set i x) vs = wipe s vs := by
  apply List.ext_getElem?
  intro j
  rw [wipe_get, wipe_get, List.length_set, List.getElem?_set]
  by_cases e : i = j
  · subst e; simp [h]
  · rw [if_neg e]
theorem wipe_wipe (s : L2.St) (vs : List Nat) : wipe (wipe s vs) vs = wipe s vs := by
  apply List.ext_getElem?
  intro j
  rw [wipe_get, wipe_get, wipe_length]
  by_cases e : j ∈ vs <;> simp [e]
def wipeG (G : Gam) : List Nat → Gam
  | [] => G
  | v :: vs => (wipeG G vs).set v none
theorem Slots.wipe {F : Hp} {s : L2.St} (h : Slots F G s) : ∀ vs : List Nat, Slots F (wipeG G vs) (L2.wipe s vs)
  | [] => h
  | v :: vs => by
    have ih := Slots.wipe h vs
    refine ⟨by unfold wipeG L2.wipe; rw [List.length_set, List.length_set]; exact ih.1, fun j sl hj => ?_⟩
    unfold wipeG at hj
    unfold L2.wipe
    rw [List.getElem?_set] at hj ⊢
    by_cases e : v = j
    · subst e; rw [if_pos rfl] at hj; split at hj <;> cases hj
    · rw [if_neg e] at hj ⊢; exact ih.2 j sl hj
def Tg (g : TG) (is : List Nat) (W : Wd) (G : Gam) (T : Tms) (cs : Cells) (sl : Sl) (K : Gam → Prop) : Prop :=
  ∀ v s H, Sta W G ((v, sl) :: T) cs s H → ∀ Q : L2.St → Hp → Prop, (∀ G', K G' → ∀ s', Sta W G' T cs s' H → (∀ vs : List Nat, (∀ i ∈ is, i ∈ vs) → wipe s' vs = wipe s vs) → Q s' H) → g v s H Q
theorem g_name {i : Nat} {sl : Sl} {K : Gam → Prop} (k : K (G.set i (some sl))) : Tg (gName i) [i] W G T cs sl K := fun v s H ⟨F, c, sg, t⟩ Q q =>
  q _ k _ ⟨F, c, sg.set t.head, t.tail⟩ fun vs h => wipe_set s i _ vs (h i (by simp))
theorem g_pair {KF : PySem.W.Frag} {i j : Nat} {r : R α} {q : R β} {x : α × β} {K : Gam → Prop} (k : K ((G.set i (some (r.at x.1))).set j (some (q.at x.2)))) : Tg (gTup KF 2 (gCons (gName i) (gCons (gName j) gNil))) [i, j] W G T cs ((rPair r q).at x) K := fun v s H ⟨F, c, sg, t⟩ Q k' => by
  obtain ⟨a, u, w, h1, h2, h3, h4⟩ := t.head
  refine ⟨a, [u, w], h1, SqT.of (c.fh _ _ h2), rfl, u, [w], rfl, w, [], rfl, rfl, ?_⟩
  refine k' _ k _ ⟨F, c, (sg.set h3).set h4, t.tail⟩ fun vs h => ?_
  rw [wipe_set _ j _ vs (h j (by simp)), wipe_set _ i _ vs (h i (by simp))]
/-- name, (name, name) .. any tuple of typed parts is had by pairs alone; (a, b), c -/
theorem g_pairP {KF : PySem.W.Frag} {i j l : Nat} {r : R α} {q : R β} {p : R γ} {x : (α × β) × γ} {K : Gam → Prop} (k : K (((G.set i (some (r.at x.1.1))).set j (some (q.at x.1.2))).set l (some (p.at x.2)))) :
    Tg (gTup KF 2 (gCons (gTup KF 2 (gCons (gName i) (gCons (gName j) gNil))) (gCons (gName l) gNil))) [i, j, l] W G T cs ((rPair (rPair r q) p).at x) K := fun v s H ⟨F, c, sg, t⟩ Q k' => by
  obtain ⟨a, u, w, h1, h2, ⟨a', u', w', h1', h2', h3', h4'⟩, h4⟩ := t.head
  refine ⟨a, [u, w], h1, SqT.of (c.fh _ _ h2), rfl, u, [w], rfl, ?_⟩
  refine ⟨a', [u', w'], h1', SqT.of (c.fh _ _ h2'), rfl, u', [w'], rfl, w', [], rfl, rfl, w, [], rfl, rfl, ?_⟩
  refine k' _ k _ ⟨F, c, ((sg.set h3').set h4').set h4, t.tail⟩ fun vs h => ?_
  rw [wipe_set _ l _ vs (h l (by simp)), wipe_set _ j _ vs (h j (by simp)), wipe_set _ i _ vs (h i (by simp))]
/-- target = value -/
theorem s_asg {g : TG} {is : List Nat} (h : Ev te W G T cs fun sl cs1 => Tg g is W G T cs1 sl fun G' => NxT nx W G' T cs1) : NxT (tAsg te g ⟨nx, rt, bk, ct⟩) W G T cs := fun s H st => by
  refine h s H st _ fun sl cs1 k v H1 st1 => ?_
  exact k v s H1 st1 _ fun G' k' s' st' _ => k' s' H1 st'

/-! ## what is walked -/
structure Wk (J : It) (W : Wd) (T0 : Tms) (items : List Sl) : Prop where
  go : ∀ i F H cs, i < items.length → Core W F cs H → Temps F T0 → J.go i H
  yld : ∀ i F H cs x H' sl, items[i]? = some sl → Core W F cs H → Temps F T0 → J.yld i H x H' → ∃ F', Core W F' cs H' ∧ Same F F' ∧ sl.p F' x
  stop : ∀ F H cs, Core W F cs H → Temps F T0 → J.stop items.length H
def EvI (wi : TI) (W : Wd) (G : Gam) (T : Tms) (cs : Cells) (K : List Sl → Cells → Prop) : Prop :=
  ∀ s H, Sta W G T cs s H → ∀ R : It → Hp → Prop, (∀ J T0 items cs', K items cs' → items.length ≤ sizeLine → (∀ B, Wk J ⟨W.F, B⟩ T0 items) → ∀ H', Sta W G (T0 ++ T) cs' s H' → R J H') → wi s H R
theorem Temps.app {F : Hp} {T0 T : Tms} (h0 : Temps F T0) (h : Temps F T) : Temps F (T0 ++ T) := fun x hx => (List.mem_append.mp hx).elim (h0 x) (h x)
theorem Temps.left {F : Hp} {T0 T : Tms} (h : Temps F (T0 ++ T)) : Temps F T0 := fun x hx => h x (List.mem_append_left _ hx)
theorem Temps.right {F : Hp} {T0 T : Tms} (h : Temps F (T0 ++ T)) : Temps F T := fun x hx => h x (List.mem_append_right _ hx)
theorem Core.B {F : Hp} {H : Hp} (h : Core W F cs H) (B : Hp) (h1 : Same B H) (h2 : ∀ a o, B a = some o → F a = none) (h3 : ∀ x ∈ cs, B x.1 = none) : Core ⟨W.F, B⟩ F cs H :=
  ⟨h.f0, h.fh, h1, h2, h.nd, fun x hx => ⟨(h.cell x hx).1, h3 x hx, (h.cell x hx).2.2⟩⟩
theorem i_tup {KF : PySem.W.Frag} {KI : List Sl → Cells → Prop} (h : Ev te W G T cs fun sl cs1 => ∃ (α : Type) (r : R α) (xs : List α), sl = (rTup r).at xs ∧ KI (xs.map r.at) cs1) : EvI (iTup KF te) W G T cs KI := fun s H st R q => by
  refine h s H st _ fun sl cs1 ⟨α, r, xs, e, k⟩ v H1 st1 => ?_
  subst e
  obtain ⟨F, c, sg, t⟩ := id st1
  obtain ⟨hz, a, vs, rfl, hF, hA⟩ := t.head
  refine ⟨a, rfl, ⟨vs, SqT.of (c.fh _ _ hF)⟩, q _ [(V.ref a, (rTup r).at xs)] _ cs1 k (by rw [List.length_map]; exact hz) (fun B => ?_) H1 st1⟩
  have get : ∀ (F : Hp), Temps F [(V.ref a, (rTup r).at xs)] → ∃ us, F a = some (.tup us) ∧ All2 (fun x u => r.p x F u) xs us := fun F t => by
    obtain ⟨_, a', us, e, h1, h2⟩ := t.head
    cases e
    exact ⟨us, h1, h2⟩
  refine ⟨fun i F H cs hi c t => ?_, fun i F H cs x H' sl hi c t y => ?_, fun F H cs c t => ?_⟩
  · obtain ⟨us, h1, h2⟩ := get F t
    rw [List.length_map] at hi
    obtain ⟨u, h3, _⟩ := h2.get (List.getElem?_eq_getElem hi)
    exact ⟨us, u, SqT.of (c.fh _ _ h1), h3⟩
  · obtain ⟨us, h1, h2⟩ := get F t
    obtain ⟨e, y⟩ := y
    subst e
    have y' := y us (SqT.of (c.fh _ _ h1))
    rw [List.getElem?_map] at hi
    obtain ⟨z, hz', ez⟩ := h2.get' y'
    rw [hz'] at hi
    cases hi
    exact ⟨F, c, Same.refl F, ez⟩
  · obtain ⟨us, h1, h2⟩ := get F t
    exact ⟨us, SqT.of (c.fh _ _ h1), by rw [List.length_map, ← h2.length]; exact Nat.le_refl _⟩
theorem i_lst {KF : PySem.W.Frag} {KI : List Sl → Cells → Prop} (h : Ev te W G T cs fun sl cs1 => ∃ (α : Type) (r : R α) (xs : List α), sl = (rLst r).at xs ∧ KI (xs.map r.at) cs1) : EvI (iList KF te) W G T cs KI := fun s H st R q => by
  refine h s H st _ fun sl cs1 ⟨α, r, xs, e, k⟩ v H1 st1 => ?_
  subst e
  obtain ⟨F, c, sg, t⟩ := id st1
  obtain ⟨hz, a, vs, rfl, hF, hA⟩ := t.head
  refine ⟨a, rfl, ⟨vs, SqL.of (c.fh _ _ hF)⟩, q _ [(V.ref a, (rLst r).at xs)] _ cs1 k (by rw [List.length_map]; exact hz) (fun B => ?_) H1 st1⟩
  have get : ∀ (F : Hp), Temps F [(V.ref a, (rLst r).at xs)] → ∃ us, F a = some (.lst us) ∧ All2 (fun x u => r.p x F u) xs us := fun F t => by
    obtain ⟨_, a', us, e, h1, h2⟩ := t.head
    cases e
    exact ⟨us, h1, h2⟩
  refine ⟨fun i F H cs hi c t => ?_, fun i F H cs x H' sl hi c t y => ?_, fun F H cs c t => ?_⟩
  · obtain ⟨us, h1, h2⟩ := get F t
    rw [List.length_map] at hi
    obtain ⟨u, h3, _⟩ := h2.get (List.getElem?_eq_getElem hi)
    exact ⟨us, u, SqL.of (c.fh _ _ h1), h3⟩
  · obtain ⟨us, h1, h2⟩ := get F t
    obtain ⟨e, y⟩ := y
    subst e
    have y' := y us (SqL.of (c.fh _ _ h1))
    rw [List.getElem?_map] at hi
    obtain ⟨z, hz', ez⟩ := h2.get' y'
    rw [hz'] at hi
    cases hi
    exact ⟨F, c, Same.refl F, ez⟩
  · obtain ⟨us, h1, h2⟩ := get F t
    exact ⟨us, SqL.of (c.fh _ _ h1), by rw [List.length_map, ← h2.length]; exact Nat.le_refl _⟩
def rangeI (lo hi : Int) : List Int := (List.range (hi - lo).toNat).map fun (k : Nat) => lo + (k : Int)
theorem wk_range (lo : Int) (n : Nat) (B : Hp) : Wk (Itr lo n) ⟨W.F, B⟩ [] (((List.range n).map fun (k : Nat) => lo + (k : Int)).map rInt.at) := by
  refine ⟨fun i F H cs hi c t => by show i < n; simpa using hi, fun i F H cs x H' sl hi c t y => ?_, fun F H cs c t => by show n ≤ _; simp⟩
  obtain ⟨e, y⟩ := y
  subst e
  rw [List.getElem?_map, List.getElem?_map] at hi
  refine ⟨F, c, Same.refl F, ?_⟩
  by_cases hl : i < n
  · rw [List.getElem?_range hl] at hi
    cases hi
    exact y
  · rw [List.getElem?_eq_none (by simp; omega)] at hi
    cases hi
def small62 (i : Int) : Prop := -(2 ^ 62) ≤ i ∧ i < 2 ^ 62
instance {i : Int} : Decidable (small62 i) := by unfold small62; infer_instance
def oRange (i j : Int) : Option (List Int) := if small62 i ∧ small62 j ∧ (j - i).toNat ≤ sizeLine then some (rangeI i j) else none
theorem oRange_ok {i j : Int} {xs : List Int} (h : oRange i j = some xs) : (small62 i ∧ small62 j ∧ (j - i).toNat ≤ sizeLine) ∧ xs = rangeI i j := by
  unfold oRange at h
  split at h
  · rename_i hc; exact ⟨hc, (Option.some.inj h).symm⟩
  · cases h
theorem len_rangeI (i j : Int) : (rangeI i j).length = (j - i).toNat := by unfold rangeI; simp
theorem args1i {F : Hp} {j : Int} {vs : List V} (ar : Args F [rInt.at j] vs) : vs = [.int j] := by
  cases ar with
  | cons a b => cases b; rw [show _ = V.int j from a]
theorem args2 {F : Hp} {i j : Int} {vs : List V} (ar : Args F [rInt.at i, rInt.at j] vs) : vs = [.int i, .int j] := by
  cases ar with
  | cons a b =>
    cases b with
    | cons a' b' => cases b'; rw [show _ = V.int i from a, show _ = V.int j from a']
theorem i_range1 {t : TA} {KI : List Sl → Cells → Prop} (h : EvA t W G T cs fun sls cs1 => ∃ (j : Int) (xs : List Int), sls = [rInt.at j] ∧ oRange 0 j = some xs ∧ KI (xs.map rInt.at) cs1) : EvI (iRng1 t) W G T cs KI := fun s H st R q => by
  refine h s H st _ fun sls cs1 ⟨j, xs, e, ho, k⟩ vs H1 ⟨F, c, sg, t, ar⟩ => ?_
  subst e
  obtain ⟨⟨_, ⟨b1, b2⟩, b3⟩, e⟩ := oRange_ok ho
  subst e
  have e := args1i ar
  subst e
  refine ⟨j, rfl, b1, b2, q _ [] _ cs1 k (by rw [List.length_map, len_rangeI]; exact b3) (fun B => ?_) H1 ⟨F, c, sg, t⟩⟩
  have := wk_range (W := W) 0 j.toNat B
  unfold rangeI
  rw [Int.sub_zero]
  exact this
theorem i_range2 {t : TA} {KI : List Sl → Cells → Prop} (h : EvA t W G T cs fun sls cs1 => ∃ (i j : Int) (xs : List Int), sls = [rInt.at i, rInt.at j] ∧ oRange i j = some xs ∧ KI (xs.map rInt.at) cs1) : EvI (iRng2 t) W G T cs KI := fun s H st R q => by
  refine h s H st _ fun sls cs1 ⟨i, j, xs, e, ho, k⟩ vs H1 ⟨F, c, sg, t, ar⟩ => ?_
  subst e
  obtain ⟨⟨⟨b1, b2⟩, ⟨b3, b4⟩, b5⟩, e⟩ := oRange_ok ho
  subst e
  have e := args2 ar
  subst e
  exact ⟨i, j, rfl, ⟨b1, b2, b3, b4⟩, q _ [] _ cs1 k (by rw [List.length_map, len_rangeI]; exact b5) (fun B => wk_range (W := W) i (j - i).toNat B) H1 ⟨F, c, sg, t⟩⟩

/-! ## for -/
inductive Fl (ρ β : Type) where
  | go (b : β) | brk (b : β) | ret (r : ρ)
inductive Lo (ρ β : Type) where
  | go (b : β) | ret (r : ρ)
def loopO (f : β → α → Option (Fl ρ β)) : List α → β → Option (Lo ρ β)
  | [], b => some (.go b)
  | x :: xs, b => match f b x with
    | none => none
    | some (.go b') => loopO f xs b'
    | some (.brk b') => some (.go b')
    | some (.ret r) => some (.ret r)
def foldO (f : β → α → Option β) : List α → β → Option β
  | [], b => some b
  | x :: xs, b => match f b x with
    | none => none
    | some b' => foldO f xs b'
theorem foldO_loop (f : β → α → Option β) : ∀ (xs : List α) (b b' : β), foldO f xs b = some b' → loopO (ρ := Empty) (fun b x => (f b x).map .go) xs b = some (.go b')
  | [], b, b', h => by cases h; rfl
  | x :: xs, b, b', h => by
    unfold foldO at h
    unfold loopO
    cases e : f b x with
    | none => rw [e] at h; cases h
    | some c => rw [e] at h; exact foldO_loop f xs c b' h
theorem for_sound {wi : TI} {g : TG} {tb : TS} {is : List Nat} (h : EvI wi W G T cs fun items cs1 => ∃ (α β ρ : Type) (r : R α) (xs : List α) (b0 : β) (f : β → α → Option (Fl ρ β)) (out : Lo ρ β) (Gb : β → Gam) (cb : β → Cells),
      items = xs.map r.at ∧ loopO f xs b0 = some out ∧ Wkn G (Gb b0) ∧ cs1 = cb b0 ∧
      (∀ T' b x fl, f b x = some fl → ∀ N Bk : L2.St → Hp → Prop, (∀ b', fl = .go b' → NxT N W (Gb b') T' (cb b')) → (∀ b', fl = .brk b' → NxT Bk W (Gb b') T' (cb b')) → (∀ z, fl = .ret z → out = .ret z) →
        Tg g is W (Gb b) T' (cb b) (r.at x) fun G' => NxT (tb ⟨N, rt, Bk, N⟩) W G' T' (cb b)) ∧
      (∀ b', out = .go b' → NxT nx W (Gb b') T (cb b'))) : NxT (tFor wi g tb ⟨nx, rt, bk, ct⟩) W G T cs := fun s H st => by
  refine h s H st _ fun J T0 items cs1 ⟨α, β, ρ, r, xs, b0, f, out, Gb, cb, e1, hl, hw, e2, body, after⟩ hz wk H1 ⟨F1, c1, sg1, t1⟩ => ?_
  subst e1 e2
  have wk := wk W.B
  refine ⟨fun i m s H => i + m = xs.length ∧ ∃ b, loopO f (xs.drop i) b = some out ∧ Sta W (Gb b) (T0 ++ T) (cb b) s H, ⟨xs.length, by omega, b0, hl, F1, c1, sg1.weak hw, t1⟩, ?_⟩
  rintro i m s H ⟨em, b, hlo, F, c, sg, t⟩
  by_cases hi : i < xs.length
  · refine .inr ⟨wk.go i F H _ (by simpa using hi) c t.left, ?_⟩
    have hd : xs.drop i = xs[i] :: xs.drop (i + 1) := List.drop_eq_getElem_cons hi
    rw [hd] at hlo
    unfold loopO at hlo
    cases ef : f b xs[i] with
    | none => rw [ef] at hlo; cases hlo
    | some fl =>
      rw [ef] at hlo
      have bd : ∀ b', out = .go b' → NxT nx W (Gb b') (T0 ++ T) (cb b') := fun b' eo s H ⟨F, c, sg, t⟩ => after b' eo s H ⟨F, c, sg, t.right⟩
      refine ⟨fun s' H' => ∃ b', fl = .go b' ∧ Sta W (Gb b') (T0 ++ T) (cb b') s' H', fun s' H' ⟨b', ef', st'⟩ => ?_, fun x H' y => ?_⟩
      · subst ef'
        exact ⟨m - 1, by omega, by omega, b', hlo, st'⟩
      · have hx : (xs.map r.at)[i]? = some (r.at xs[i]) := by rw [List.getElem?_map, List.getElem?_eq_getElem hi]; rfl
        obtain ⟨F', c', sF, px⟩ := wk.yld i F H _ x H' _ hx c t.left y
        refine body (T0 ++ T) b xs[i] fl ef _ nx (fun b' e s H st => ⟨b', e, st⟩) (fun b' e => ?_) (fun z e => ?_) x s H' ⟨F', c', sg.mono sF, (t.mono sF).cons px⟩ _ fun G' k s' st' _ => k s' H' st'
        · subst e
          exact bd b' (Option.some.inj hlo).symm
        · subst e
          exact (Option.some.inj hlo).symm
  · have ei : i = xs.length := by omega
    subst ei
    refine .inl ⟨?_, ?_⟩
    · have := wk.stop F H _ c t.left
      rwa [List.length_map] at this
    · rw [List.drop_length] at hlo
      exact after b (Option.some.inj hlo).symm s H ⟨F, c, sg, t.right⟩
/-- no way out but the end -/
theorem fold_sound {wi : TI} {g : TG} {tb : TS} {is : List Nat} (h : EvI wi W G T cs fun items cs1 => ∃ (α β : Type) (r : R α) (xs : List α) (b0 : β) (f : β → α → Option β) (out : β) (Gb : β → Gam) (cb : β → Cells),
      items = xs.map r.at ∧ foldO f xs b0 = some out ∧ Wkn G (Gb b0) ∧ cs1 = cb b0 ∧
      (∀ T' b x b', f b x = some b' → ∀ N Bk : L2.St → Hp → Prop, NxT N W (Gb b') T' (cb b') →
        Tg g is W (Gb b) T' (cb b) (r.at x) fun G' => NxT (tb ⟨N, rt, Bk, N⟩) W G' T' (cb b)) ∧
      NxT nx W (Gb out) T (cb out)) : NxT (tFor wi g tb ⟨nx, rt, bk, ct⟩) W G T cs := by
  refine for_sound (is := is) ?_
  intro s H st Q q
  refine h s H st Q fun J T0 items cs' ⟨α, β, r, xs, b0, f, out, Gb, cb, e1, hl, hw, e2, body, after⟩ hz wk H' st' => q J T0 items cs' ⟨α, β, Empty, r, xs, b0, _, .go out, Gb, cb, e1, foldO_loop f xs b0 out hl, hw, e2, fun T' b x fl hf N Bk hN _ _ => ?_, fun b' e => ?_⟩ hz wk H' st'
  · cases ef : f b x with
    | none => rw [ef] at hf; cases hf
    | some b' =>
      rw [ef] at hf
      cases hf
      exact body T' b x b' ef N Bk (hN b' rfl)
  · cases e; exact after

/-! ## comprehensions -/
def lcO (f : β → α → Option (Option γ × β)) : List α → β → Option (List γ × β)
  | [], b => some ([], b)
  | x :: xs, b => match f b x with
    | none => none
    | some (o, b') => match lcO f xs b' with
      | none => none
      | some (ys, b'') => some (match o with | some y => y :: ys | none => ys, b'')
theorem lcO_cons {f : β → α → Option (Option γ × β)} {x : α} {xs : List α} {b b2 : β} {ys : List γ} (h : lcO f (x :: xs) b = some (ys, b2)) : ∃ o b' zs, f b x = some (o, b') ∧ lcO f xs b' = some (zs, b2) ∧ ys = (match o with | some y => y :: zs | none => zs) := by
  unfold lcO at h
  cases e : f b x with
  | none => rw [e] at h; cases h
  | some p =>
    obtain ⟨o, b'⟩ := p
    rw [e] at h
    dsimp only at h
    cases e2 : lcO f xs b' with
    | none => rw [e2] at h; cases h
    | some q =>
      obtain ⟨zs, b3⟩ := q
      rw [e2] at h
      dsimp only at h
      have h' := Option.some.inj h
      exact ⟨o, b', zs, rfl, by rw [e2, (Prod.mk.inj h').2], (Prod.mk.inj h').1.symm⟩
theorem lcO_len {f : β → α → Option (Option γ × β)} : ∀ {xs : List α} {b b2 : β} {ys : List γ}, lcO f xs b = some (ys, b2) → ys.length ≤ xs.length
  | [], b, b2, ys, h => by cases h; exact Nat.le_refl _
  | x :: xs, b, b2, ys, h => by
    obtain ⟨o, b', zs, h1, h2, h3⟩ := lcO_cons h
    have := lcO_len h2
    rw [h3]
    cases o <;> simp <;> omega
/-- the list stays a cell -/
theorem lc_cell {wi : TI} {g : TG} {vs : List Nat} {is : List Nat} (hvs : ∀ i ∈ is, i ∈ vs) (h : EvI wi W G T cs fun items cs1 => ∃ (α β γ : Type) (r : R α) (xs : List α) (b0 : β) (f : β → α → Option (Option γ × β)) (ys : List γ) (b1 : β) (rr : R γ) (cb : β → Cells),
      items = xs.map r.at ∧ lcO f xs b0 = some (ys, b1) ∧ cs1 = cb b0 ∧
      (∀ W' T' b x o b', f b x = some (o, b') →
        Tg g is W' (wipeG G vs) T' (cb b) (r.at x) fun G' => Et tt W' G' T' (cb b) fun c cs3 => (c = true → Ev te W' G' T' cs3 fun sl cs4 => ∃ y, o = some y ∧ sl = rr.at y ∧ cs4 = cb b') ∧ (c = false → o = none ∧ cs3 = cb b')) ∧
      ∀ p, K (sRef p) (cb b1 ++ [(p, cLst rr ys)])) : Ev (tLc wi g tt te vs) W G T cs K := fun s H st Q q => by
  refine h s H st _ fun J T0 items cs1 ⟨α, β, γ, r, xs, b0, f, ys, b1, rr, cb, e1, hl, e2, body, k⟩ hsz wk H1 ⟨F1, c1, sg1, t1⟩ => ?_
  subst e1 e2
  rw [List.length_map] at hsz
  intro Dp hD
  have fD : F1 Dp = none := c1.fh.free hD
  have bD : W.B Dp = none := c1.bh.free hD
  -- the invariant: what is made so far
  refine ⟨fun i m H => i + m = xs.length ∧ ∃ (b : β) (acc : List γ) (zs : List γ), lcO f (xs.drop i) b = some (zs, b1) ∧ ys = acc ++ zs ∧ acc.length ≤ i ∧ ∃ F, Core W F (cb b ++ [(Dp, cLst rr acc)]) H ∧ Slots F G s ∧ Temps F (T0 ++ T), ⟨xs.length, by omega, b0, [], ys, hl, rfl, Nat.le_refl _, F1, c1.newCell hD ⟨Nat.zero_le _, [], rfl, .nil⟩, sg1, t1⟩, ?_⟩
  rintro i m H ⟨em, b, acc, zs, hlo, ey, hacc, F, c, sg, t⟩
  by_cases hi : i < xs.length
  · refine .inr ⟨(wk W.B).go i F H _ (by simpa using hi) c t.left, ?_⟩
    have hd : xs.drop i = xs[i] :: xs.drop (i + 1) := List.drop_eq_getElem_cons hi
    rw [hd] at hlo
    obtain ⟨o, b', zs', hf, hl', ez⟩ := lcO_cons hlo
    refine ⟨_, fun H' hN => hN, fun x H' y => ?_⟩
    have hx : (xs.map r.at)[i]? = some (r.at xs[i]) := by rw [List.getElem?_map, List.getElem?_eq_getElem hi]; rfl
    obtain ⟨F', c', sF, px⟩ := (wk W.B).yld i F H _ x H' _ hx c t.left y
    -- the list made so far goes to the background
    obtain ⟨d1, d2, od, d3, d4⟩ := c'.cell (Dp, cLst rr acc) (List.mem_append_right _ (by simp))
    have nb : ∀ x ∈ cb b, x.1 ≠ Dp := fun x hx e => by
      have nd := c'.nd
      rw [List.map_append, List.nodup_append] at nd
      exact nd.2.2 x.1 (List.mem_map_of_mem hx) Dp (by simp) e
    have cW : Core ⟨W.F, upd W.B Dp od⟩ F' (cb b) H' := by
      refine (c'.drop (List.sublist_append_left _ _)).B (upd W.B Dp od) (fun a o e => ?_) (fun a o e => ?_) fun x hx => ?_
      · by_cases ha : a = Dp
        · subst ha; rw [upd_same] at e; cases e; exact d3
        · rw [upd_ne ha] at e; exact c'.bh a o e
      · by_cases ha : a = Dp
        · subst ha; exact d1
        · rw [upd_ne ha] at e; exact c'.bf a o e
      · rw [upd_ne (nb x hx)]; exact (c'.cell x (List.mem_append_left _ hx)).2.1
    have back : ∀ {F2 : Hp} {cs2 : Cells} {H2 : Hp}, Core ⟨W.F, upd W.B Dp od⟩ F2 cs2 H2 → Core W F2 (cs2 ++ [(Dp, cLst rr acc)]) H2 ∨ ¬ Same F' F2 := fun {F2 cs2 H2} c2 => by
      by_cases hs : Same F' F2
      · refine .inl ⟨c2.f0, c2.fh, fun a o e => c2.bh a o ?_, fun a o e => c2.bf a o ?_, ?_, fun x hx => ?_⟩
        · show upd W.B Dp od a = some o
          rw [upd_ne (ne_of_none e bD)]; exact e
        · show upd W.B Dp od a = some o
          rw [upd_ne (ne_of_none e bD)]; exact e
        · rw [List.map_append, List.nodup_append]
          refine ⟨c2.nd, by simp, fun a ha b hb e => ?_⟩
          have eb : b = Dp := by simpa using hb
          obtain ⟨x, hx, ex⟩ := List.mem_map.mp ha
          have h0 := (c2.cell x hx).2.1
          have : upd W.B Dp od x.1 = none := h0
          rw [ex, e, eb, upd_same] at this
          cases this
        · rcases List.mem_append.mp hx with hx | hx
          · obtain ⟨a1, a2, a3⟩ := c2.cell x hx
            have a2' : upd W.B Dp od x.1 = none := a2
            by_cases hxd : x.1 = Dp
            · rw [hxd, upd_same] at a2'; cases a2'
            · rw [upd_ne hxd] at a2'; exact ⟨a1, a2', a3⟩
          · have e : x = (Dp, cLst rr acc) := by simpa using hx
            subst e
            exact ⟨c2.bf Dp od (show upd W.B Dp od Dp = some od from upd_same), bD, od, c2.bh Dp od (show upd W.B Dp od Dp = some od from upd_same), (cLst rr acc).mono hs d4⟩
      · exact .inr hs
    -- F' stays below: kept by a world whose frozen part is F'
    have cW' : Core ⟨F', upd W.B Dp od⟩ F' (cb b) H' := ⟨Same.refl F', cW.fh, cW.bh, cW.bf, cW.nd, cW.cell⟩
    have toW : ∀ {F2 : Hp} {cs2 : Cells} {H2 : Hp}, Core ⟨F', upd W.B Dp od⟩ F2 cs2 H2 → Core W F2 (cs2 ++ [(Dp, cLst rr acc)]) H2 := fun {F2 cs2 H2} c2 => by
      have c3 : Core ⟨W.F, upd W.B Dp od⟩ F2 cs2 H2 := ⟨c'.f0.trans c2.f0, c2.fh, c2.bh, c2.bf, c2.nd, c2.cell⟩
      rcases back c3 with z | z
      · exact z
      · exact absurd c2.f0 z
    refine body ⟨F', upd W.B Dp od⟩ (T0 ++ T) b xs[i] o b' hf x (wipe s vs) H' ⟨F', cW', (sg.mono sF).wipe vs, (t.mono sF).cons px⟩ _ fun G2 ht s2 st2 hw => ⟨by rw [hw vs hvs, wipe_wipe], ?_⟩
    refine ht s2 H' st2 _ fun cc cs3 ⟨k1, k2⟩ H3 st3 => ?_
    cases cc with
    | true =>
      rw [if_pos rfl]
      refine k1 rfl s2 H3 st3 _ fun sl cs4 ⟨y, eo, es, e4⟩ v4 H4 ⟨F4, c4, sg4, t4⟩ => ?_
      subst eo es e4
      have c5 := toW c4
      obtain ⟨_, _, o5, d5, ⟨hz5, ws, eo5, h5⟩⟩ := c5.cell (Dp, cLst rr acc) (List.mem_append_right _ (by simp))
      subst eo5
      have hlt : ws.length < sizeLine := by
        have := h5.length
        omega
      refine ⟨ws, d5, hlt, m - 1, by omega, by omega, b', acc ++ [y], zs', hl', ?_, ?_, F4, ?_, sg.mono (sF.trans c4.f0), t4.tail⟩
      · rw [ey, ez]; simp
      · rw [List.length_append, List.length_singleton]; omega
      · have hj : (cb b' ++ [(Dp, cLst rr acc)])[(cb b').length]? = some (Dp, cLst rr acc) := by simp
        have := c5.write (c' := cLst rr (acc ++ [y])) (o := .lst (ws ++ [v4])) hj ⟨by rw [List.length_append, List.length_singleton, h5.length]; exact hlt, _, rfl, h5.app (.cons t4.head .nil)⟩
        rw [show (cb b' ++ [(Dp, cLst rr acc)]).set (cb b').length (Dp, cLst rr (acc ++ [y])) = cb b' ++ [(Dp, cLst rr (acc ++ [y]))] by simp [List.set_append]] at this
        exact this
    | false =>
      rw [if_neg Bool.false_ne_true]
      obtain ⟨eo, e3⟩ := k2 rfl
      subst eo e3
      obtain ⟨F4, c4, sg4, t4⟩ := st3
      exact ⟨m - 1, by omega, by omega, b', acc, zs', hl', by rw [ey, ez], by omega, F4, toW c4, sg.mono (sF.trans c4.f0), t4⟩
  · have ei : i = xs.length := by omega
    subst ei
    refine .inl ⟨?_, ?_⟩
    · have := (wk W.B).stop F H _ c t.left
      rwa [List.length_map] at this
    · rw [List.drop_length] at hlo
      have e := Option.some.inj hlo
      have e1 : zs = [] := (Prod.mk.inj e).1.symm
      have e2 : b = b1 := (Prod.mk.inj e).2
      subst e1 e2
      rw [List.append_nil] at ey
      subst ey
      exact q _ _ (k Dp) _ H ⟨F, c, sg, t.right.cons rfl⟩
/-- the list stands still -/
theorem lc_sound {wi : TI} {g : TG} {vs : List Nat} {is : List Nat} (hvs : ∀ i ∈ is, i ∈ vs) (h : EvI wi W G T cs fun items cs1 => ∃ (α β γ : Type) (r : R α) (xs : List α) (b0 : β) (f : β → α → Option (Option γ × β)) (ys : List γ) (b1 : β) (rr : R γ) (cb : β → Cells),
      items = xs.map r.at ∧ lcO f xs b0 = some (ys, b1) ∧ cs1 = cb b0 ∧
      (∀ W' T' b x o b', f b x = some (o, b') →
        Tg g is W' (wipeG G vs) T' (cb b) (r.at x) fun G' => Et tt W' G' T' (cb b) fun c cs3 => (c = true → Ev te W' G' T' cs3 fun sl cs4 => ∃ y, o = some y ∧ sl = rr.at y ∧ cs4 = cb b') ∧ (c = false → o = none ∧ cs3 = cb b')) ∧
      K ((rLst rr).at ys) (cb b1)) : Ev (tLc wi g tt te vs) W G T cs K := fun s H st Q q => by
  refine lc_cell (K := fun sl cs' => ∃ (γ : Type) (rr : R γ) (ys : List γ) (c0 : Cells) (p : Addr), sl = sRef p ∧ cs' = c0 ++ [(p, cLst rr ys)] ∧ K ((rLst rr).at ys) c0) hvs ?_ s H st Q fun sl cs' ⟨γ, rr, ys, c0, p, e1, e2, k⟩ v H' ⟨F, c, sg, t⟩ => ?_
  · intro s H st R q
    exact h s H st R fun J T0 items cs1 ⟨α, β, γ, r, xs, b0, f, ys, b1, rr, cb, e1, hl, e2, body, k⟩ hsz wk H1 st1 => q J T0 items cs1 ⟨α, β, γ, r, xs, b0, f, ys, b1, rr, cb, e1, hl, e2, body, fun p => ⟨γ, rr, ys, cb b1, p, rfl, rfl, k⟩⟩ hsz wk H1 st1
  · subst e1 e2
    have hj : (c0 ++ [(p, cLst rr ys)])[c0.length]? = some (p, cLst rr ys) := by simp
    obtain ⟨o, F', h1, ⟨hz, ws, eo, h2⟩, h3, sF, c'⟩ := c.freeze hj
    subst eo
    have ee : (c0 ++ [(p, cLst rr ys)]).eraseIdx c0.length = c0 := by
      rw [List.eraseIdx_append_of_length_le (Nat.le_refl _)]; simp
    rw [ee] at c'
    have ev : v = .ref p := t.head
    exact q _ _ k v H' ⟨F', c', sg.mono sF, (t.tail.mono sF).cons ⟨hz, p, ws, ev, h3, h2⟩⟩
end
end ML

namespace ML
open PySem Spec PyProof.Rows L2

section
variable {nx bk ct : L2.St → Hp → Prop} {rt : VK}
variable {W : Wd} {G G' : Gam} {T : Tms} {cs : Cells} {K : Sl → Cells → Prop} {KB : Bool → Cells → Prop} {ta tb tc te to ti : TE} {tt tu : TT} {D : Ends} {t1 t2 : TS} {t : TA} {α β γ ρ : Type} {KF : PySem.W.Frag}

/-! ## guarded operators on ints -/
@[irreducible] def Sml (i : Int) : Prop := i.natAbs < 2 ^ 4096
theorem sml_iff {i : Int} : Sml i ↔ i.natAbs < 2 ^ 4096 := by unfold Sml; exact Iff.rfl
instance {i : Int} : Decidable (Sml i) := decidable_of_iff _ (sml_iff (i := i)).symm
theorem sml_of {i : Int} {n : Nat} (hn : n ≤ 4096) (h : i.natAbs < 2 ^ n) : Sml i := sml_iff.mpr (Nat.lt_of_lt_of_le h (Nat.pow_le_pow_right (by decide) hn))
theorem Sml.bits {i : Int} (h : Sml i) : Builtin.Int.intBits i ≤ 4096 := PyProof.Rows.intBits_le (sml_iff.mp h)
def oShl (i j : Int) : Option Int := if 0 ≤ j ∧ j ≤ 100000 ∧ Sml i then some (i * 2 ^ j.toNat) else none
def oShr (i j : Int) : Option Int := if 0 ≤ j then some (i / 2 ^ j.toNat) else none
def oMul (i j : Int) : Option Int := if Sml i ∧ Sml j then some (i * j) else none
def oDiv (i j : Int) : Option Int := if 0 < j ∧ Sml j then some (i / j) else none
def oMod (i j : Int) : Option Int := if 0 < j then some (i % j) else none
def oPow (i j : Int) : Option Int := if 0 ≤ j ∧ j ≤ 1000 ∧ Sml i then some (i ^ j.toNat) else none
def CPowW (i j : Int) : Prop := 0 ≤ j ∧ (Builtin.Int.intBits i : Int) * j ≤ 2 ^ 27
theorem op_powW {X : Cx} : OpR X (binaryOp .Pow) (rI CPowW fun i j => .int (i ^ j.toNat)) := opI fun _ _ _ _ _ _ _ hc q => pow_int hc.1 hc.2 q
theorem of_ite {c : Prop} [Decidable c] {a : α} {b : α} (h : (if c then some a else none) = some b) : c ∧ b = a := by
  split at h
  · rename_i hc; exact ⟨hc, (Option.some.inj h).symm⟩
  · cases h
theorem oShl_ok (i j t : Int) (h : oShl i j = some t) : CShl i j ∧ t = i * 2 ^ j.toNat := by
  obtain ⟨⟨h1, h2, h3⟩, e⟩ := of_ite h
  have := h3.bits
  have e27 : (2 : Int) ^ 27 = 134217728 := by decide
  exact ⟨⟨h1, by rw [e27]; omega⟩, e⟩
theorem oShr_ok (i j t : Int) (h : oShr i j = some t) : 0 ≤ j ∧ t = i / 2 ^ j.toNat := of_ite h
theorem oMul_ok (i j t : Int) (h : oMul i j = some t) : CMulX i j ∧ t = i * j := by
  obtain ⟨⟨h1, h2⟩, e⟩ := of_ite h
  have b1 := h1.bits
  have b2 := h2.bits
  refine ⟨?_, e⟩
  unfold CMulX
  omega
theorem oDiv_ok (i j t : Int) (h : oDiv i j = some t) : CDivW i j ∧ t = i / j := by
  obtain ⟨⟨h1, h2⟩, e⟩ := of_ite h
  exact ⟨wide_div h1 (sml_iff.mp h2) (by decide) (by decide), e⟩
theorem oMod_ok (i j t : Int) (h : oMod i j = some t) : 0 < j ∧ t = i % j := of_ite h
theorem oPow_ok (i j t : Int) (h : oPow i j = some t) : CPowW i j ∧ t = i ^ j.toNat := by
  obtain ⟨⟨h1, h2, h3⟩, e⟩ := of_ite h
  have b := h3.bits
  have e27 : (2 : Int) ^ 27 = 134217728 := by decide
  refine ⟨⟨h1, ?_⟩, e⟩
  rw [e27]
  have : (Builtin.Int.intBits i : Int) * j ≤ 4096 * 1000 := Int.mul_le_mul (by omega) h2 h1 (by decide)
  omega

/-! ## arguments taken apart -/
theorem args1 {F : Hp} {a : Sl} {vs : List V} (ar : Args F [a] vs) : ∃ v, vs = [v] ∧ a.p F v := by
  cases ar with
  | cons p q => cases q; exact ⟨_, rfl, p⟩
theorem args2' {F : Hp} {a b : Sl} {vs : List V} (ar : Args F [a, b] vs) : ∃ v w, vs = [v, w] ∧ a.p F v ∧ b.p F w := by
  cases ar with
  | cons p q =>
    cases q with
    | cons p' q' => cases q'; exact ⟨_, _, rfl, p, p'⟩
theorem args_map {F : Hp} {r : R α} : ∀ {xs : List α} {vs : List V}, Args F (xs.map r.at) vs → All2 (fun x u => r.p x F u) xs vs
  | [], _, .nil => .nil
  | _ :: _, _, .cons p q => .cons p (args_map q)

/-! ## displays -/
theorem small_len {n : Nat} (h : n ≤ 1000) : n ≤ sizeLine := by rw [sizeLine_eq]; omega
theorem e_lst (h : EvA t W G T cs fun sls cs1 => ∃ (α : Type) (r : R α) (xs : List α), sls = xs.map r.at ∧ xs.length ≤ 1000 ∧ K ((rLst r).at xs) cs1) : Ev (tLst t) W G T cs K := fun s H st Q q => by
  refine h s H st _ fun sls cs1 ⟨α, r, xs, e, hz, k⟩ vs H1 ⟨F, c, sg, tm, ar⟩ => ?_
  subst e
  have a2 := args_map ar
  refine ⟨by rw [← a2.length]; exact small_len hz, fun p hp => ?_⟩
  have sF : Same F (upd F p (.lst vs)) := same_upd (c.fh.free hp)
  exact q _ _ k _ _ ⟨_, c.new hp, sg.mono sF, (tm.mono sF).cons ⟨small_len hz, p, vs, rfl, upd_same, a2.imp fun _ _ z => r.mono sF z⟩⟩
theorem e_lstC (h : EvA t W G T cs fun sls cs1 => ∃ (α : Type) (r : R α) (xs : List α), sls = xs.map r.at ∧ xs.length ≤ 1000 ∧ ∀ p, K (sRef p) (cs1 ++ [(p, cLst r xs)])) : Ev (tLst t) W G T cs K := fun s H st Q q => by
  refine h s H st _ fun sls cs1 ⟨α, r, xs, e, hz, k⟩ vs H1 ⟨F, c, sg, tm, ar⟩ => ?_
  subst e
  have a2 := args_map ar
  exact ⟨by rw [← a2.length]; exact small_len hz, fun p hp => q _ _ (k p) _ _ ⟨F, c.newCell hp ⟨small_len hz, vs, rfl, a2⟩, sg, tm.cons rfl⟩⟩
theorem e_tup (h : EvA t W G T cs fun sls cs1 => ∃ (α : Type) (r : R α) (xs : List α), sls = xs.map r.at ∧ xs.length ≤ 1000 ∧ K ((rTup r).at xs) cs1) : Ev (tTup t) W G T cs K := fun s H st Q q => by
  refine h s H st _ fun sls cs1 ⟨α, r, xs, e, hz, k⟩ vs H1 ⟨F, c, sg, tm, ar⟩ => ?_
  subst e
  have a2 := args_map ar
  refine ⟨by rw [← a2.length]; exact small_len hz, fun p hp => ?_⟩
  have sF : Same F (upd F p (.tup vs)) := same_upd (c.fh.free hp)
  exact q _ _ k _ _ ⟨_, c.new hp, sg.mono sF, (tm.mono sF).cons ⟨small_len hz, p, vs, rfl, upd_same, a2.imp fun _ _ z => r.mono sF z⟩⟩
theorem e_pair (h : EvA t W G T cs fun sls cs1 => ∃ (α β : Type) (r : R α) (r' : R β) (a : α) (b : β), sls = [r.at a, r'.at b] ∧ K ((rPair r r').at (a, b)) cs1) : Ev (tTup t) W G T cs K := fun s H st Q q => by
  refine h s H st _ fun sls cs1 ⟨α, β, r, r', a, b, e, k⟩ vs H1 ⟨F, c, sg, tm, ar⟩ => ?_
  subst e
  obtain ⟨v, w, rfl, h1, h2⟩ := args2' ar
  refine ⟨by show 2 ≤ sizeLine; decide, fun p hp => ?_⟩
  have sF : Same F (upd F p (.tup [v, w])) := same_upd (c.fh.free hp)
  exact q _ _ k _ _ ⟨_, c.new hp, sg.mono sF, (tm.mono sF).cons ⟨p, v, w, rfl, upd_same, r.mono sF h1, r'.mono sF h2⟩⟩

/-! ## subscripts -/
theorem all2_atI {P : α → V → Prop} {xs : List α} {vs : List V} {i : Int} {x : α} (a : All2 P xs vs) (h : atI xs i = some x) : ∃ v, atI vs i = some v ∧ P x v := by
  unfold atI at h ⊢
  rw [← a.length]
  cases e : ixN xs.length i with
  | none => rw [e] at h; cases h
  | some j =>
    rw [e] at h
    obtain ⟨v, h1, h2⟩ := a.get h
    exact ⟨v, h1, h2⟩
theorem e_ixT (ha : Ev ta W G T cs fun sa cs1 => ∀ va, Ev tb W G ((va, sa) :: T) cs1 fun sb cs2 => ∃ (α : Type) (r : R α) (xs : List α) (i : Int) (x : α), sa = (rTup r).at xs ∧ sb = rInt.at i ∧ atI xs i = some x ∧ K (r.at x) cs2) :
    Ev (tOp (rIxT KF) ta tb) W G T cs K := fun s H st Q q => by
  refine ha s H st _ fun sa cs1 h1 va H1 st1 => ?_
  refine h1 va s H1 st1 _ fun sb cs2 ⟨α, r, xs, i, x, e1, e2, hx, k⟩ vb H2 ⟨F, c, sg, tm⟩ => ?_
  subst e1 e2
  obtain ⟨hz, a, vs, rfl, hF, hA⟩ := tm.tail.head
  obtain ⟨v, hv, pv⟩ := all2_atI hA hx
  have eb : vb = .int i := tm.head
  exact ⟨a, vs, i, v, rfl, eb, SqT.of (c.fh _ _ hF), hv, q _ _ k _ H2 ⟨F, c, sg, tm.tail.tail.cons pv⟩⟩
theorem e_ixL (ha : Ev ta W G T cs fun sa cs1 => ∀ va, Ev tb W G ((va, sa) :: T) cs1 fun sb cs2 => ∃ (α : Type) (r : R α) (xs : List α) (i : Int) (x : α), sa = (rLst r).at xs ∧ sb = rInt.at i ∧ atI xs i = some x ∧ K (r.at x) cs2) :
    Ev (tOp (rIxL KF) ta tb) W G T cs K := fun s H st Q q => by
  refine ha s H st _ fun sa cs1 h1 va H1 st1 => ?_
  refine h1 va s H1 st1 _ fun sb cs2 ⟨α, r, xs, i, x, e1, e2, hx, k⟩ vb H2 ⟨F, c, sg, tm⟩ => ?_
  subst e1 e2
  obtain ⟨hz, a, vs, rfl, hF, hA⟩ := tm.tail.head
  obtain ⟨v, hv, pv⟩ := all2_atI hA hx
  have eb : vb = .int i := tm.head
  exact ⟨a, vs, i, v, rfl, eb, SqL.of (c.fh _ _ hF), hv, q _ _ k _ H2 ⟨F, c, sg, tm.tail.tail.cons pv⟩⟩
theorem Core.lst {F : Hp} {H : Hp} (c : Core W F cs H) {j : Nat} {p : Addr} {r : R α} {xs : List α} (hj : cs[j]? = some (p, cLst r xs)) : xs.length ≤ sizeLine ∧ ∃ vs, H p = some (.lst vs) ∧ All2 (fun x u => r.p x F u) xs vs := by
  obtain ⟨h1, h2, o, h3, hz, vs, e, h4⟩ := c.cell _ (List.mem_of_getElem? hj)
  subst e
  exact ⟨hz, vs, h3, h4⟩
theorem e_ixC (j : Nat) (ha : Ev ta W G T cs fun sa cs1 => ∀ va, Ev tb W G ((va, sa) :: T) cs1 fun sb cs2 => ∃ (α : Type) (p : Addr) (r : R α) (xs : List α) (i : Int) (x : α), sa = sRef p ∧ cs2[j]? = some (p, cLst r xs) ∧ sb = rInt.at i ∧ atI xs i = some x ∧ K (r.at x) cs2) :
    Ev (tOp (rIxL KF) ta tb) W G T cs K := fun s H st Q q => by
  refine ha s H st _ fun sa cs1 h1 va H1 st1 => ?_
  refine h1 va s H1 st1 _ fun sb cs2 ⟨α, p, r, xs, i, x, e1, hj, e2, hx, k⟩ vb H2 ⟨F, c, sg, tm⟩ => ?_
  subst e1 e2
  obtain ⟨hz, vs, hH, hA⟩ := c.lst hj
  obtain ⟨v, hv, pv⟩ := all2_atI hA hx
  have eb : vb = .int i := tm.head
  have ea : va = .ref p := tm.tail.head
  exact ⟨p, vs, i, v, ea, eb, SqL.of hH, hv, q _ _ k _ H2 ⟨F, c, sg, tm.tail.tail.cons pv⟩⟩
/-- xs[i] = v -/
def oSet (xs : List α) (i : Int) (x : α) : Option (List α) := match ixN xs.length i with
  | none => none
  | some j => some (xs.set j x)
theorem s_setitem (j : Nat) (hv : Ev te W G T cs fun sv cs1 => ∀ vv, Ev to W G ((vv, sv) :: T) cs1 fun so cs2 => ∀ vo, Ev ti W G ((vo, so) :: (vv, sv) :: T) cs2 fun si cs3 =>
      ∃ (α : Type) (p : Addr) (r : R α) (xs ys : List α) (i : Int) (x : α), sv = r.at x ∧ so = sRef p ∧ si = rInt.at i ∧ cs3[j]? = some (p, cLst r xs) ∧ oSet xs i x = some ys ∧ NxT nx W G T (cs3.set j (p, cLst r ys))) :
    NxT (tAsg te (gSub to ti rSetL) ⟨nx, rt, bk, ct⟩) W G T cs := fun s H st => by
  refine hv s H st _ fun sv cs1 h1 vv H1 st1 => ?_
  refine h1 vv s H1 st1 _ fun so cs2 h2 vo H2 st2 => ?_
  refine h2 vo s H2 st2 _ fun si cs3 ⟨α, p, r, xs, ys, i, x, e1, e2, e3, hj, hy, k⟩ vi H3 ⟨F, c, sg, tm⟩ => ?_
  subst e1 e2 e3
  obtain ⟨hz, vs, hH, hA⟩ := c.lst hj
  have ei : vi = .int i := tm.head
  have eo : vo = .ref p := tm.tail.head
  have pv := tm.tail.tail.head
  unfold oSet at hy
  cases en : ixN xs.length i with
  | none => rw [en] at hy; cases hy
  | some n =>
    rw [en] at hy
    cases hy
    refine ⟨p, vs, i, n, eo, ei, hH, by rw [← hA.length]; exact en, ?_⟩
    exact k s _ ⟨F, c.write hj ⟨by rw [List.length_set]; exact hz, _, rfl, All2.set (P := fun x u => r.p x F u) pv n hA⟩, sg, tm.tail.tail.tail⟩

/-! ## len, tuple(..), list(..) -/
theorem e_lenT (h : EvA t W G T cs fun sls cs1 => ∃ (α : Type) (r : R α) (xs : List α), sls = [(rTup r).at xs] ∧ K (rInt.at (xs.length : Int)) cs1) : Ev (tCB (fun xs H Q => ∃ p ys, xs = [.ref p] ∧ (SqL KF H p ys ∨ SqT KF H p ys) ∧ Q (.int ys.length) H) t) W G T cs K := fun s H st Q q => by
  refine h s H st _ fun sls cs1 ⟨α, r, xs, e, k⟩ vs H1 ⟨F, c, sg, tm, ar⟩ => ?_
  subst e
  obtain ⟨v, rfl, hz, a, us, rfl, hF, hA⟩ := args1 ar
  exact ⟨a, us, rfl, .inr (SqT.of (c.fh _ _ hF)), q _ _ k _ H1 ⟨F, c, sg, tm.cons (by rw [hA.length]; rfl)⟩⟩
theorem e_lenL (h : EvA t W G T cs fun sls cs1 => ∃ (α : Type) (r : R α) (xs : List α), sls = [(rLst r).at xs] ∧ K (rInt.at (xs.length : Int)) cs1) : Ev (tCB (fun xs H Q => ∃ p ys, xs = [.ref p] ∧ (SqL KF H p ys ∨ SqT KF H p ys) ∧ Q (.int ys.length) H) t) W G T cs K := fun s H st Q q => by
  refine h s H st _ fun sls cs1 ⟨α, r, xs, e, k⟩ vs H1 ⟨F, c, sg, tm, ar⟩ => ?_
  subst e
  obtain ⟨v, rfl, hz, a, us, rfl, hF, hA⟩ := args1 ar
  exact ⟨a, us, rfl, .inl (SqL.of (c.fh _ _ hF)), q _ _ k _ H1 ⟨F, c, sg, tm.cons (by rw [hA.length]; rfl)⟩⟩
theorem e_lenC (j : Nat) (h : EvA t W G T cs fun sls cs1 => ∃ (α : Type) (p : Addr) (r : R α) (xs : List α), sls = [sRef p] ∧ cs1[j]? = some (p, cLst r xs) ∧ K (rInt.at (xs.length : Int)) cs1) : Ev (tCB (fun xs H Q => ∃ p ys, xs = [.ref p] ∧ (SqL KF H p ys ∨ SqT KF H p ys) ∧ Q (.int ys.length) H) t) W G T cs K := fun s H st Q q => by
  refine h s H st _ fun sls cs1 ⟨α, p, r, xs, e, hj, k⟩ vs H1 ⟨F, c, sg, tm, ar⟩ => ?_
  subst e
  obtain ⟨v, rfl, ev⟩ := args1 ar
  obtain ⟨hz, us, hH, hA⟩ := c.lst hj
  have ev' : v = .ref p := ev
  subst ev'
  exact ⟨p, us, rfl, .inl (SqL.of hH), q _ _ k _ H1 ⟨F, c, sg, tm.cons (by rw [hA.length]; rfl)⟩⟩
def rTupleOf (KF : PySem.W.Frag) : List V → Hp → VK → Prop := fun xs H Q => ∃ p ys, xs = [.ref p] ∧ ((SqL KF H p ys ∧ ∀ l, H l = none → Q (.ref l) (upd H l (.tup ys))) ∨ (SqT KF H p ys ∧ Q (.ref p) H))
theorem e_tupL (h : EvA t W G T cs fun sls cs1 => ∃ (α : Type) (r : R α) (xs : List α), sls = [(rLst r).at xs] ∧ K ((rTup r).at xs) cs1) : Ev (tCB (fun xs H Q => ∃ p ys, xs = [.ref p] ∧ ((SqL KF H p ys ∧ ∀ l, H l = none → Q (.ref l) (upd H l (.tup ys))) ∨ (SqT KF H p ys ∧ Q (.ref p) H))) t) W G T cs K := fun s H st Q q => by
  refine h s H st _ fun sls cs1 ⟨α, r, xs, e, k⟩ vs H1 ⟨F, c, sg, tm, ar⟩ => ?_
  subst e
  obtain ⟨v, rfl, hz, a, us, rfl, hF, hA⟩ := args1 ar
  refine ⟨a, us, rfl, .inl ⟨SqL.of (c.fh _ _ hF), fun p hp => ?_⟩⟩
  have sF : Same F (upd F p (.tup us)) := same_upd (c.fh.free hp)
  exact q _ _ k _ _ ⟨_, c.new hp, sg.mono sF, (tm.mono sF).cons ⟨hz, p, us, rfl, upd_same, hA.imp fun _ _ z => r.mono sF z⟩⟩
theorem e_tupC (j : Nat) (h : EvA t W G T cs fun sls cs1 => ∃ (α : Type) (p : Addr) (r : R α) (xs : List α), sls = [sRef p] ∧ cs1[j]? = some (p, cLst r xs) ∧ K ((rTup r).at xs) cs1) : Ev (tCB (fun xs H Q => ∃ p ys, xs = [.ref p] ∧ ((SqL KF H p ys ∧ ∀ l, H l = none → Q (.ref l) (upd H l (.tup ys))) ∨ (SqT KF H p ys ∧ Q (.ref p) H))) t) W G T cs K := fun s H st Q q => by
  refine h s H st _ fun sls cs1 ⟨α, p, r, xs, e, hj, k⟩ vs H1 ⟨F, c, sg, tm, ar⟩ => ?_
  subst e
  obtain ⟨v, rfl, ev⟩ := args1 ar
  obtain ⟨hz, us, hH, hA⟩ := c.lst hj
  have ev' : v = .ref p := ev
  subst ev'
  refine ⟨p, us, rfl, .inl ⟨SqL.of hH, fun l hl => ?_⟩⟩
  have sF : Same F (upd F l (.tup us)) := same_upd (c.fh.free hl)
  exact q _ _ k _ _ ⟨_, c.new hl, sg.mono sF, (tm.mono sF).cons ⟨hz, l, us, rfl, upd_same, hA.imp fun _ _ z => r.mono sF z⟩⟩
theorem e_tupT (h : EvA t W G T cs fun sls cs1 => ∃ (α : Type) (r : R α) (xs : List α), sls = [(rTup r).at xs] ∧ K ((rTup r).at xs) cs1) : Ev (tCB (fun xs H Q => ∃ p ys, xs = [.ref p] ∧ ((SqL KF H p ys ∧ ∀ l, H l = none → Q (.ref l) (upd H l (.tup ys))) ∨ (SqT KF H p ys ∧ Q (.ref p) H))) t) W G T cs K := fun s H st Q q => by
  refine h s H st _ fun sls cs1 ⟨α, r, xs, e, k⟩ vs H1 ⟨F, c, sg, tm, ar⟩ => ?_
  subst e
  obtain ⟨v, rfl, hz, a, us, rfl, hF, hA⟩ := args1 ar
  exact ⟨a, us, rfl, .inr ⟨SqT.of (c.fh _ _ hF), q _ _ k _ _ ⟨F, c, sg, tm.cons ⟨hz, a, us, rfl, hF, hA⟩⟩⟩⟩

/-! ## methods of lists -/
def oApp (xs : List α) (x : α) : Option (List α) := if xs.length < sizeLine then some (xs ++ [x]) else none
theorem e_append (j : Nat) (ho : Ev to W G T cs fun so cs1 => ∃ (α : Type) (p : Addr) (r : R α) (xs0 : List α), so = sRef p ∧ cs1[j]? = some (p, cLst r xs0) ∧ ∀ vo, EvA t W G ((vo, so) :: T) cs1 fun sls cs2 => ∃ (xs ys : List α) (x : α), sls = [r.at x] ∧ cs2[j]? = some (p, cLst r xs) ∧ oApp xs x = some ys ∧ K (rNon.at ()) (cs2.set j (p, cLst r ys))) :
    Ev (tBM KF "list" rAppend to t) W G T cs K := fun s H st Q q => by
  refine ho s H st _ fun so cs1 ⟨α, p, r, xs0, e, hj1, h1⟩ vo H1 st1 => ?_
  subst e
  obtain ⟨F1, c1, sg1, tm1⟩ := id st1
  have eo : vo = .ref p := tm1.head
  subst eo
  obtain ⟨_, us0, hH0, _⟩ := c1.lst hj1
  refine ⟨.inl ⟨rfl, _, SqL.of hH0⟩, h1 _ s H1 st1 _ fun sls cs2 ⟨xs, ys, x, e2, hj2, hy, k⟩ vs H2 ⟨F, c, sg, tm, ar⟩ => ?_⟩
  subst e2
  obtain ⟨v, rfl, pv⟩ := args1 ar
  obtain ⟨hz, us, hH, hA⟩ := c.lst hj2
  obtain ⟨hlt, e⟩ := of_ite hy
  subst e
  refine ⟨p, us, v, rfl, rfl, hH, by rw [← hA.length]; exact hlt, q _ _ k _ _ ⟨F, c.write hj2 ⟨by rw [List.length_append, List.length_singleton]; exact hlt, _, rfl, hA.app (.cons pv .nil)⟩, sg, tm.tail.cons rfl⟩⟩
def oExt (xs zs : List α) : Option (List α) := if xs.length + zs.length ≤ sizeLine then some (xs ++ zs) else none
theorem e_extend (j : Nat) (ho : Ev to W G T cs fun so cs1 => ∃ (α : Type) (p : Addr) (r : R α) (xs0 : List α), so = sRef p ∧ cs1[j]? = some (p, cLst r xs0) ∧ ∀ vo, EvA t W G ((vo, so) :: T) cs1 fun sls cs2 => ∃ (xs ys zs : List α), sls = [(rLst r).at zs] ∧ cs2[j]? = some (p, cLst r xs) ∧ oExt xs zs = some ys ∧ K (rNon.at ()) (cs2.set j (p, cLst r ys))) :
    Ev (tBM KF "list" rExtend to t) W G T cs K := fun s H st Q q => by
  refine ho s H st _ fun so cs1 ⟨α, p, r, xs0, e, hj1, h1⟩ vo H1 st1 => ?_
  subst e
  obtain ⟨F1, c1, sg1, tm1⟩ := id st1
  have eo : vo = .ref p := tm1.head
  subst eo
  obtain ⟨_, us0, hH0, _⟩ := c1.lst hj1
  refine ⟨.inl ⟨rfl, _, SqL.of hH0⟩, h1 _ s H1 st1 _ fun sls cs2 ⟨xs, ys, zs, e2, hj2, hy, k⟩ vs H2 ⟨F, c, sg, tm, ar⟩ => ?_⟩
  subst e2
  obtain ⟨v, rfl, hz2, b, ws, rfl, hF, hB⟩ := args1 ar
  obtain ⟨hz, us, hH, hA⟩ := c.lst hj2
  obtain ⟨hlt, e⟩ := of_ite hy
  subst e
  refine ⟨p, b, us, ws, rfl, rfl, hH, c.fh _ _ hF, by rw [← hA.length, ← hB.length]; exact hlt, q _ _ k _ _ ⟨F, c.write hj2 ⟨by rw [List.length_append]; exact hlt, _, rfl, hA.app hB⟩, sg, tm.tail.cons rfl⟩⟩
/-- xs.pop(i), 0 <= i -/
def oPopAt (xs : List α) (i : Int) : Option (α × List α) := if 0 ≤ i ∧ i < xs.length then (match xs[i.toNat]? with | some x => some (x, xs.eraseIdx i.toNat) | none => none) else none
theorem e_popAt (j : Nat) (ho : Ev to W G T cs fun so cs1 => ∃ (α : Type) (p : Addr) (r : R α) (xs0 : List α), so = sRef p ∧ cs1[j]? = some (p, cLst r xs0) ∧ ∀ vo, EvA t W G ((vo, so) :: T) cs1 fun sls cs2 => ∃ (xs : List α) (i : Int) (x : α) (ys : List α), sls = [rInt.at i] ∧ cs2[j]? = some (p, cLst r xs) ∧ oPopAt xs i = some (x, ys) ∧ K (r.at x) (cs2.set j (p, cLst r ys))) :
    Ev (tBM KF "list" rPopAt to t) W G T cs K := fun s H st Q q => by
  refine ho s H st _ fun so cs1 ⟨α, p, r, xs0, e, hj1, h1⟩ vo H1 st1 => ?_
  subst e
  obtain ⟨F1, c1, sg1, tm1⟩ := id st1
  have eo : vo = .ref p := tm1.head
  subst eo
  obtain ⟨_, us0, hH0, _⟩ := c1.lst hj1
  refine ⟨.inl ⟨rfl, _, SqL.of hH0⟩, h1 _ s H1 st1 _ fun sls cs2 ⟨xs, i, x, ys, e2, hj2, hy, k⟩ vs H2 ⟨F, c, sg, tm, ar⟩ => ?_⟩
  subst e2
  obtain ⟨v, rfl, pv⟩ := args1 ar
  obtain ⟨hz, us, hH, hA⟩ := c.lst hj2
  unfold oPopAt at hy
  split at hy
  · rename_i hc
    split at hy
    · rename_i x' hx
      cases hy
      obtain ⟨u, hu, pu⟩ := hA.get hx
      have ev : v = .int i := pv
      subst ev
      have hs := sizeLine_eq
      have hl := hA.length
      refine ⟨p, us, i, i.toNat, u, rfl, rfl, hH, by omega, by omega, ?_, hu, q _ _ k _ _ ⟨F, c.write hj2 ⟨?_, _, rfl, All2.erase (P := fun x u => r.p x F u) _ hA⟩, sg, tm.tail.cons pu⟩⟩
      · exact PySem.StrLaws.seqIndex_nonneg hc.1 (by omega)
      · have := len_erase xs i.toNat
        omega
    · cases hy
  · cases hy

/-! ## builtins -/
theorem e_abs (h : EvA t W G T cs fun sls cs1 => ∃ i, sls = [rInt.at i] ∧ K (rInt.at (i.natAbs : Int)) cs1) : Ev (tCB (fun xs H Q => ∃ i, xs = [.int i] ∧ Q (.int (if i < 0 then -i else i)) H) t) W G T cs K := fun s H st Q q => by
  refine h s H st _ fun sls cs1 ⟨i, e, k⟩ vs H1 ⟨F, c, sg, tm, ar⟩ => ?_
  subst e
  obtain ⟨v, rfl, ev⟩ := args1 ar
  have ev' : v = .int i := ev
  subst ev'
  refine ⟨i, rfl, q _ _ k _ H1 ⟨F, c, sg, tm.cons ?_⟩⟩
  show V.int _ = V.int _
  congr 1
  split <;> omega
theorem e_max2 (h : EvA t W G T cs fun sls cs1 => ∃ i j : Int, sls = [rInt.at i, rInt.at j] ∧ K (rInt.at (max i j)) cs1) : Ev (tCB (fun xs H Q => ∃ i j, xs = [.int i, .int j] ∧ Q (.int (if j > i then j else i)) H) t) W G T cs K := fun s H st Q q => by
  refine h s H st _ fun sls cs1 ⟨i, j, e, k⟩ vs H1 ⟨F, c, sg, tm, ar⟩ => ?_
  subst e
  have e := args2 ar
  subst e
  refine ⟨i, j, rfl, q _ _ k _ H1 ⟨F, c, sg, tm.cons ?_⟩⟩
  show V.int _ = V.int _
  congr 1
  split <;> omega
theorem e_min2 (h : EvA t W G T cs fun sls cs1 => ∃ i j : Int, sls = [rInt.at i, rInt.at j] ∧ K (rInt.at (min i j)) cs1) : Ev (tCB (fun xs H Q => ∃ i j, xs = [.int i, .int j] ∧ Q (.int (if j < i then j else i)) H) t) W G T cs K := fun s H st Q q => by
  refine h s H st _ fun sls cs1 ⟨i, j, e, k⟩ vs H1 ⟨F, c, sg, tm, ar⟩ => ?_
  subst e
  have e := args2 ar
  subst e
  refine ⟨i, j, rfl, q _ _ k _ H1 ⟨F, c, sg, tm.cons ?_⟩⟩
  show V.int _ = V.int _
  congr 1
  split <;> omega
theorem e_intB (h : EvA t W G T cs fun sls cs1 => ∃ b : Bool, sls = [rBool.at b] ∧ K (rInt.at (if b then 1 else 0)) cs1) : Ev (tCB (fun xs H Q => (∃ i, xs = [.int i] ∧ Q (.int i) H) ∨ ∃ k, xs = [.bl k] ∧ Q (.int (if k then 1 else 0)) H) t) W G T cs K := fun s H st Q q => by
  refine h s H st _ fun sls cs1 ⟨b, e, k⟩ vs H1 ⟨F, c, sg, tm, ar⟩ => ?_
  subst e
  obtain ⟨v, rfl, ev⟩ := args1 ar
  have ev' : v = .bl b := ev
  subst ev'
  exact .inr ⟨b, rfl, q _ _ k _ H1 ⟨F, c, sg, tm.cons rfl⟩⟩
theorem all2_bl {F : Hp} : ∀ {bs : List Bool} {us : List V}, All2 (fun x u => rBool.p x F u) bs us → us = bs.map V.bl
  | _, _, .nil => rfl
  | _, _, .cons p q => by rw [List.map_cons, ← all2_bl q, show _ = V.bl _ from p]
theorem all2_int {F : Hp} : ∀ {bs : List Int} {us : List V}, All2 (fun x u => rInt.p x F u) bs us → us = bs.map V.int
  | _, _, .nil => rfl
  | _, _, .cons p q => by rw [List.map_cons, ← all2_int q, show _ = V.int _ from p]
theorem e_all (h : EvA t W G T cs fun sls cs1 => ∃ bs, sls = [(rLst rBool).at bs] ∧ K (rBool.at (bs.all id)) cs1) : Ev (tCB (rAll KF) t) W G T cs K := fun s H st Q q => by
  refine h s H st _ fun sls cs1 ⟨bs, e, k⟩ vs H1 ⟨F, c, sg, tm, ar⟩ => ?_
  subst e
  obtain ⟨v, rfl, hz, a, us, rfl, hF, hA⟩ := args1 ar
  exact ⟨a, bs, rfl, SqL.of (by rw [← all2_bl hA]; exact c.fh _ _ hF), q _ _ k _ H1 ⟨F, c, sg, tm.cons rfl⟩⟩
theorem e_any (h : EvA t W G T cs fun sls cs1 => ∃ bs, sls = [(rLst rBool).at bs] ∧ K (rBool.at (bs.any id)) cs1) : Ev (tCB (rAny KF) t) W G T cs K := fun s H st Q q => by
  refine h s H st _ fun sls cs1 ⟨bs, e, k⟩ vs H1 ⟨F, c, sg, tm, ar⟩ => ?_
  subst e
  obtain ⟨v, rfl, hz, a, us, rfl, hF, hA⟩ := args1 ar
  exact ⟨a, bs, rfl, SqL.of (by rw [← all2_bl hA]; exact c.fh _ _ hF), q _ _ k _ H1 ⟨F, c, sg, tm.cons rfl⟩⟩

/-! ## == of data -/
structure REq {α : Type} [DecidableEq α] (r : R α) where
  d : α → PyData
  ok : ∀ {K : PySem.W.Frag} {F H : Hp} {a : α} {v : V}, r.p a F v → Same F H → Dp K H v (d a)
  lay : ∀ a, (d a).canLay0 = true
  n : Nat
  dep : ∀ a, (d a).depth ≤ n
  eqv : ∀ a b, PyData.eqv (d a) (d b) = decide (a = b)
def eInt : REq rInt where
  d := .int
  ok := fun {K F H a v} h _ => by have e : v = .int a := h; subst e; exact Dp.int a
  lay := fun _ => rfl
  n := 1
  dep := fun a => by simp [PyData.depth]
  eqv := fun a b => by simp [PyData.eqv, Bool.beq_eq_decide_eq]
def eBool : REq rBool where
  d := .bool
  ok := fun {K F H a v} h _ => by have e : v = .bl a := h; subst e; exact Dp.bl a
  lay := fun _ => rfl
  n := 1
  dep := fun a => by simp [PyData.depth]
  eqv := fun a b => by simp [PyData.eqv, Bool.beq_eq_decide_eq]
theorem dpAll {r : R α} [DecidableEq α] (e : REq r) {K : PySem.W.Frag} {F H : Hp} (s : Same F H) : ∀ {xs : List α} {us : List V}, All2 (fun x u => r.p x F u) xs us → DpAll K H us (xs.map e.d)
  | _, _, .nil => .nil
  | _, _, .cons p q => .cons (e.ok p s) (dpAll e s q)
theorem layAll {r : R α} [DecidableEq α] (e : REq r) : ∀ xs : List α, PyData.canLayAll0 (xs.map e.d) = true
  | [] => rfl
  | x :: xs => by rw [List.map_cons, PyData.canLayAll0, e.lay x, layAll e xs]; rfl
theorem depAll {r : R α} [DecidableEq α] (e : REq r) : ∀ xs : List α, PyData.depthAll (xs.map e.d) ≤ e.n
  | [] => by simp [PyData.depthAll]
  | x :: xs => by
    rw [List.map_cons, PyData.depthAll]
    have h1 := e.dep x
    have h2 := depAll e xs
    omega
theorem eqvAll {r : R α} [DecidableEq α] (e : REq r) : ∀ xs ys : List α, PyData.eqvAll (xs.map e.d) (ys.map e.d) = decide (xs = ys)
  | [], [] => by simp [PyData.eqvAll]
  | [], _ :: _ => by simp [PyData.eqvAll]
  | _ :: _, [] => by simp [PyData.eqvAll]
  | x :: xs, y :: ys => by
    rw [List.map_cons, List.map_cons, PyData.eqvAll, e.eqv, eqvAll e xs ys]
    by_cases h1 : x = y <;> by_cases h2 : xs = ys <;> simp [h1, h2]
def eTup {r : R α} [DecidableEq α] (e : REq r) : REq (rTup r) where
  d := fun xs => .tuple (xs.map e.d)
  ok := fun {K F H a v} h s => by
    obtain ⟨_, p, vs, rfl, h2, h3⟩ := h
    exact Dp.tup (SqT.of (s _ _ h2)) (dpAll e s h3)
  lay := fun xs => by rw [PyData.canLay0]; exact layAll e xs
  n := e.n + 1
  dep := fun xs => by
    rw [PyData.depth]
    have := depAll e xs
    omega
  eqv := fun a b => by rw [PyData.eqv]; exact eqvAll e a b
def eLst {r : R α} [DecidableEq α] (e : REq r) : REq (rLst r) where
  d := fun xs => .list (xs.map e.d)
  ok := fun {K F H a v} h s => by
    obtain ⟨_, p, vs, rfl, h2, h3⟩ := h
    exact Dp.lst (SqL.of (s _ _ h2)) (dpAll e s h3)
  lay := fun xs => by rw [PyData.canLay0]; exact layAll e xs
  n := e.n + 1
  dep := fun xs => by
    rw [PyData.depth]
    have := depAll e xs
    omega
  eqv := fun a b => by rw [PyData.eqv]; exact eqvAll e a b
def ePair {r : R α} {r' : R β} [DecidableEq α] [DecidableEq β] (e : REq r) (e' : REq r') : REq (rPair r r') where
  d := fun x => .tuple [e.d x.1, e'.d x.2]
  ok := fun {K F H a v} h s => by
    obtain ⟨p, u, w, rfl, h2, h3, h4⟩ := h
    exact Dp.tup (SqT.of (s _ _ h2)) (.cons (e.ok h3 s) (.cons (e'.ok h4 s) .nil))
  lay := fun x => by simp [PyData.canLay0, PyData.canLayAll0, e.lay, e'.lay]
  n := max e.n e'.n + 1
  dep := fun x => by
    have h1 := e.dep x.1
    have h2 := e'.dep x.2
    simp only [PyData.depth, PyData.depthAll]
    omega
  eqv := fun a b => by
    obtain ⟨a1, a2⟩ := a
    obtain ⟨b1, b2⟩ := b
    simp only [PyData.eqv, PyData.eqvAll, e.eqv, e'.eqv, Bool.and_true]
    by_cases h1 : a1 = b1 <;> by_cases h2 : a2 = b2 <;> simp [h1, h2]
theorem REq.shaped {r : R α} [DecidableEq α] (e : REq r) (hn : e.n ≤ 64) (a : α) : SeqAt.shaped (e.d a) = true := by
  unfold SeqAt.shaped
  rw [e.lay a, decide_eq_true (Nat.le_trans (e.dep a) hn)]
  rfl
theorem e_eqD (ha : Ev ta W G T cs fun sa cs1 => ∀ va, Ev tb W G ((va, sa) :: T) cs1 fun sb cs2 => ∃ (α : Type) (_ : DecidableEq α) (r : R α) (e : REq r) (x y : α), e.n ≤ 64 ∧ sa = r.at x ∧ sb = r.at y ∧ K (rBool.at (decide (x = y))) cs2) :
    Ev (tOp (rEqD KF) ta tb) W G T cs K := fun s H st Q q => by
  refine ha s H st _ fun sa cs1 h1 va H1 st1 => ?_
  refine h1 va s H1 st1 _ fun sb cs2 ⟨α, _, r, e, x, y, hn, e1, e2, k⟩ vb H2 ⟨F, c, sg, tm⟩ => ?_
  subst e1 e2
  have pb : r.p y F vb := tm.head
  have pa : r.p x F va := tm.tail.head
  refine ⟨_, _, e.ok pa c.fh, e.ok pb c.fh, e.shaped hn x, e.shaped hn y, ?_⟩
  rw [e.eqv]
  exact q _ _ k _ H2 ⟨F, c, sg, tm.tail.tail.cons rfl⟩
theorem e_neD (ha : Ev ta W G T cs fun sa cs1 => ∀ va, Ev tb W G ((va, sa) :: T) cs1 fun sb cs2 => ∃ (α : Type) (_ : DecidableEq α) (r : R α) (e : REq r) (x y : α), e.n ≤ 64 ∧ sa = r.at x ∧ sb = r.at y ∧ K (rBool.at (!decide (x = y))) cs2) :
    Ev (tOp (rNeD KF) ta tb) W G T cs K := fun s H st Q q => by
  refine ha s H st _ fun sa cs1 h1 va H1 st1 => ?_
  refine h1 va s H1 st1 _ fun sb cs2 ⟨α, _, r, e, x, y, hn, e1, e2, k⟩ vb H2 ⟨F, c, sg, tm⟩ => ?_
  subst e1 e2
  have pb : r.p y F vb := tm.head
  have pa : r.p x F va := tm.tail.head
  refine ⟨_, _, e.ok pa c.fh, e.ok pb c.fh, e.shaped hn x, e.shaped hn y, ?_⟩
  rw [e.eqv]
  exact q _ _ k _ H2 ⟨F, c, sg, tm.tail.tail.cons rfl⟩

/-! ## calls -/
def spM {ι β : Type} (A : ι → List Sl) (ci : ι → Cells) (m : ι → Option β) (res : ι → β → Sl) (co : ι → β → Cells) : Sp := fun vs H Q _ =>
  ∃ (i : ι) (b : β) (W : Wd), m i = some b ∧ Core W W.F (ci i) H ∧ Args W.F (A i) vs ∧ Rt Q W (res i b) (co i b)
theorem spM_len {ι β : Type} {A : ι → List Sl} {ci : ι → Cells} {m : ι → Option β} {res : ι → β → Sl} {co : ι → β → Cells} {n : Nat} {vs : List V} {H : Hp} {Q : VK} {E : XK} (h : spM A ci m res co vs H Q E) (hA : ∀ i, (A i).length = n) : vs.length = n := by
  obtain ⟨i, b, W, _, _, ar, _⟩ := h
  rw [← hA i]
  exact ar.length.symm
open Classical in
/-- the callers' world ahead of a call that uses the cells us -/
noncomputable def Wd.sub (F H : Hp) (us : Cells) : Wd := ⟨F, fun a => if F a = none ∧ ∀ x ∈ us, x.1 ≠ a then H a else none⟩
theorem Core.sub {F H : Hp} {us rest : Cells} (c : Core W F (us ++ rest) H) : Core (Wd.sub F H us) F us H := by
  refine ⟨Same.refl F, c.fh, fun a o e => ?_, fun a o e => ?_, (c.drop (List.sublist_append_left _ _)).nd, fun x hx => ?_⟩
  · unfold Wd.sub at e; dsimp only at e
    split at e
    · exact e
    · cases e
  · unfold Wd.sub at e; dsimp only at e
    split at e
    · rename_i h; exact h.1
    · cases e
  · obtain ⟨h1, h2, o, h3, h4⟩ := c.cell x (List.mem_append_left _ hx)
    refine ⟨h1, ?_, o, h3, h4⟩
    unfold Wd.sub; dsimp only
    rw [if_neg]
    exact fun z => z.2 x hx rfl
theorem Core.unsub {F F2 H H2 : Hp} {us rest co : Cells} (c : Core W F (us ++ rest) H) (c2 : Core (Wd.sub F H us) F2 co H2) : Core W F2 (co ++ rest) H2 := by
  have bB : ∀ a o, H a = some o → F a = none → (∀ x ∈ us, x.1 ≠ a) → (Wd.sub F H us).B a = some o := fun a o e hf hu => by
    unfold Wd.sub; dsimp only
    rw [if_pos ⟨hf, hu⟩]; exact e
  have bw : ∀ a o, W.B a = some o → (Wd.sub F H us).B a = some o := fun a o e => bB a o (c.bh a o e) (c.bf a o e) fun x hx z => by
    have := (c.cell x (List.mem_append_left _ hx)).2.1
    rw [z, e] at this; cases this
  have br : ∀ x ∈ rest, ∃ o, H x.1 = some o ∧ x.2.p F o ∧ (Wd.sub F H us).B x.1 = some o := fun x hx => by
    obtain ⟨h1, h2, o, h3, h4⟩ := c.cell x (List.mem_append_right _ hx)
    refine ⟨o, h3, h4, bB _ _ h3 h1 fun y hy e => ?_⟩
    have nd := c.nd
    rw [List.map_append, List.nodup_append] at nd
    exact nd.2.2 y.1 (List.mem_map_of_mem hy) x.1 (List.mem_map_of_mem hx) e
  refine ⟨c.f0.trans c2.f0, c2.fh, fun a o e => c2.bh a o (bw a o e), fun a o e => c2.bf a o (bw a o e), ?_, fun x hx => ?_⟩
  · rw [List.map_append, List.nodup_append]
    refine ⟨c2.nd, (c.drop (List.sublist_append_right _ _)).nd, fun a ha b hb e => ?_⟩
    obtain ⟨x, hx, ex⟩ := List.mem_map.mp ha
    obtain ⟨y, hy, ey⟩ := List.mem_map.mp hb
    obtain ⟨o, _, _, h⟩ := br y hy
    have h0 := (c2.cell x hx).2.1
    rw [ex, e, ← ey, h] at h0
    cases h0
  · rcases List.mem_append.mp hx with hx | hx
    · obtain ⟨a1, a2, a3⟩ := c2.cell x hx
      refine ⟨a1, ?_, a3⟩
      cases e : W.B x.1 with
      | none => rfl
      | some o => rw [bw _ _ e] at a2; cases a2
    · obtain ⟨o, h3, h4, hb⟩ := br x hx
      exact ⟨c2.bf _ _ hb, (c.cell x (List.mem_append_right _ hx)).2.1, o, c2.bh _ _ hb, x.2.mono c2.f0 h4⟩
theorem e_call {ι β : Type} {A : ι → List Sl} {ci : ι → Cells} {m : ι → Option β} {res : ι → β → Sl} {co : ι → β → Cells} {E : XK}
    (h : EvA t W G T cs fun sls cs1 => ∃ (i : ι) (b : β) (rest : Cells), m i = some b ∧ sls = A i ∧ cs1 = ci i ++ rest ∧ K (res i b) (co i b ++ rest)) : Ev (tCall (spM A ci m res co) [] E t) W G T cs K := fun s H st Q q => by
  refine h s H st _ fun sls cs1 ⟨i, b, rest, hm, e1, e2, k⟩ vs H1 ⟨F, c, sg, tm, ar⟩ => ?_
  subst e1 e2
  rw [List.append_nil]
  refine ⟨i, b, Wd.sub F H1 (ci i), hm, c.sub, ar, fun v H2 ⟨F2, c2, pv⟩ => ?_⟩
  have sF : Same F F2 := c2.f0
  exact q _ _ k v H2 ⟨F2, c.unsub c2, sg.mono sF, (tm.mono sF).cons pv⟩
/-- a def's body from its promise -/
theorem Sta.enter {N : List Str} {sls : List Sl} {vs : List V} {F H : Hp} (c : Core W W.F cs H) (ar : Args W.F sls vs) (hn : sls.length ≤ N.length) : Sta W (sls.map some ++ List.replicate (N.length - sls.length) none) [] cs (L2.start N vs) H := by
  refine ⟨W.F, c, ⟨?_, fun i sl hi => ?_⟩, Temps.nil⟩
  · unfold L2.start
    have := ar.length
    simp only [List.length_append, List.length_map, List.length_replicate]
    omega
  · have hl := ar.length
    by_cases h : i < sls.length
    · rw [List.getElem?_append_left (by simpa using h), List.getElem?_map, List.getElem?_eq_getElem h] at hi
      simp at hi
      obtain ⟨v, h1, h2⟩ := ar.get (List.getElem?_eq_getElem h)
      refine ⟨v, ?_, by rw [← hi]; exact h2⟩
      unfold L2.start
      rw [List.getElem?_append_left (by simp; omega), List.getElem?_map, h1]
      rfl
    · rw [List.getElem?_append_right (by simp; omega), List.getElem?_replicate] at hi
      split at hi <;> cases hi
theorem body {N : List Str} {sls : List Sl} {vs : List V} {H : Hp} {P : L2.St → Hp → Prop} (c : Core W W.F cs H) (ar : Args W.F sls vs) (hn : sls.length ≤ N.length) (h : NxT P W (sls.map some ++ List.replicate (N.length - sls.length) none) [] cs) : P (L2.start N vs) H := h _ _ (Sta.enter (F := W.F) c ar hn)
end
end ML

namespace ML
open PySem Spec PyProof.Rows L2

/-! ## tuple * int -/
theorem tuple_mul1 (l : Addr) (items : Array Value) (n : Nat) (dd : Option Addr) (sl : Array (Option Value)) (u : Tok) :
    Meets (Builtin.«tuple.__mul__» ⟨[.ref l, .int 1 u], []⟩) (fun _ R s => s.heap.get? l = some { cls := .type "tuple", dict := dd, data := .seq items n, slots := sl } ∧ R (.ok (.ret (Value.ref l))) s) :=
  .of_wp fun prog w A R s h => by
    obtain ⟨hp, g, d, tk, os⟩ := s
    obtain ⟨hl, h⟩ := h
    have f1 := AutoSeq1.idx_int
    have c0 : (decide ((1 : Int) < -(2 ^ 63)) || decide ((1 : Int) ≥ 2 ^ 63)) = false := by decide
    have c1 : (items.isEmpty || (1 : Int) == 1) = true := by simp
    wp_walk using wpAny_loadPart' hl
    exact ⟨_, rfl, h⟩
def rRep1 (K : PySem.W.Frag) : R2 := fun x y H Q => ∃ l xs, x = .ref l ∧ y = .int 1 ∧ SqT K H l xs ∧ Q (.ref l) H
theorem op_rep1 {X : Cx} : OpR X (binaryOp .Mult) (rRep1 X.K) := by
  intro pins s σ H x y v u Q I rx ry h
  obtain ⟨l, xs, rfl, rfl, hT, q⟩ := h
  cases rx
  obtain ⟨t, rfl⟩ := ry
  obtain ⟨its, r, ⟨⟨cls, dd, data, sl⟩, ho, hc, n, hd⟩, hs⟩ := I.tuple hT
  simp only at hc hd
  subst hc hd
  refine wpAny_binaryOp_repeat_ref (T := "tuple") (U := "int") (by decide) ⟨_, ho, rfl⟩ (fun s' => typeIs_int s' 1 t) noFill_tuple_mul F.fills_int_mul F.slot_int_rmul repeat_tuple F.slot_int_index.lookup
    (call_meets F.slot_int_rmul (typeIs_int s 1 t) F.entry_int_rmul (F.args_int_rmul_2 _ _) (int_rmul_tuple 1 t l its.toArray n dd sl)
      ⟨ho, rfl, ⟨_, ho, rfl⟩, call_meets F.slot_tuple_mul ⟨_, ho, rfl⟩ F.entry_tuple_mul (F.args_tuple_mul_2 _ _) (tuple_mul1 l its.toArray n dd sl t) ⟨ho, ?_⟩⟩)
  exact ⟨.ref l, H, I, rfl, q⟩
def rRepB (K : PySem.W.Frag) : R2 := fun x y H Q => rRep1 K x y H Q ∨ rRepT K x y H Q
theorem op_repB {X : Cx} : OpR X (binaryOp .Mult) (rRepB X.K) := op_rep1.or op_repT

section
variable {nx bk ct : L2.St → Hp → Prop} {rt : VK}
variable {W : Wd} {G G' : Gam} {T : Tms} {cs : Cells} {K : Sl → Cells → Prop} {KB : Bool → Cells → Prop} {ta tb tc te to ti : TE} {tt tu : TT} {D : Ends} {t1 t2 : TS} {t : TA} {α β γ ρ : Type} {KF : PySem.W.Frag}
def oRep (xs : List α) (k : Int) : Option (List α) := if xs ≠ [] ∧ 1 ≤ k ∧ k ≤ 1000 ∧ xs.length ≤ 1000 then some (List.replicate k.toNat xs).flatten else none
theorem All2.rep {P : α → V → Prop} {xs : List α} {vs : List V} (a : All2 P xs vs) : ∀ n, All2 P (List.replicate n xs).flatten (List.replicate n vs).flatten
  | 0 => .nil
  | n + 1 => by rw [List.replicate_succ, List.replicate_succ, List.flatten_cons, List.flatten_cons]; exact a.app (All2.rep a n)
theorem len_rep (xs : List α) (n : Nat) : (List.replicate n xs).flatten.length = n * xs.length := by
  induction n with
  | zero => simp
  | succ n ih => rw [List.replicate_succ, List.flatten_cons, List.length_append, ih, Nat.succ_mul, Nat.add_comm]
theorem e_repT (ha : Ev ta W G T cs fun sa cs1 => ∀ va, Ev tb W G ((va, sa) :: T) cs1 fun sb cs2 => ∃ (α : Type) (r : R α) (xs ys : List α) (i : Int), sa = (rTup r).at xs ∧ sb = rInt.at i ∧ oRep xs i = some ys ∧ K ((rTup r).at ys) cs2) :
    Ev (tOp (rRepB KF) ta tb) W G T cs K := fun s H st Q q => by
  refine ha s H st _ fun sa cs1 h1 va H1 st1 => ?_
  refine h1 va s H1 st1 _ fun sb cs2 ⟨α, r, xs, ys, i, e1, e2, hy, k⟩ vb H2 ⟨F, c, sg, tm⟩ => ?_
  subst e1 e2
  obtain ⟨hz, a, vs, rfl, hF, hA⟩ := tm.tail.head
  have eb : vb = .int i := tm.head
  obtain ⟨⟨c1, c2, c3, c4⟩, e⟩ := of_ite hy
  subst e
  have hl := hA.length
  have hne : vs ≠ [] := fun e => c1 (by
    rw [e] at hl
    exact List.eq_nil_of_length_eq_zero hl)
  by_cases h1 : i = 1
  · subst h1
    have ex : (List.replicate (Int.toNat 1) xs).flatten = xs := by
      show (List.replicate 1 xs).flatten = xs
      simp
    rw [ex] at k
    exact .inl ⟨a, vs, rfl, eb, SqT.of (c.fh _ _ hF), q _ _ k _ H2 ⟨F, c, sg, tm.tail.tail.cons ⟨hz, a, vs, rfl, hF, hA⟩⟩⟩
  · refine .inr ⟨a, i, vs, rfl, eb, SqT.of (c.fh _ _ hF), hne, by omega, c3, by omega, fun p hp => ?_⟩
    have sF : Same F (upd F p (.tup (List.replicate i.toNat vs).flatten)) := same_upd (c.fh.free hp)
    refine q _ _ k _ _ ⟨_, c.new hp, sg.mono sF, (tm.tail.tail.mono sF).cons ⟨?_, p, _, rfl, upd_same, (hA.rep _).imp fun _ _ z => r.mono sF z⟩⟩
    rw [len_rep, sizeLine_eq]
    have : i.toNat * xs.length ≤ 1000 * 1000 := Nat.mul_le_mul (by omega) c4
    omega
/-! ## a, b = x, y -/
theorem s_par {i j : Nat} (h : EvA t W G T cs fun sls cs1 => ∃ a b, sls = [a, b] ∧ NxT nx W ((G.set i (some a)).set j (some b)) T cs1) : NxT (tPar i j t ⟨nx, rt, bk, ct⟩) W G T cs := fun s H st => by
  refine h s H st _ fun sls cs1 ⟨a, b, e, k⟩ vs H1 ⟨F, c, sg, tm, ar⟩ => ?_
  subst e
  obtain ⟨v, w, rfl, h1, h2⟩ := args2' ar
  exact ⟨v, w, rfl, k _ H1 ⟨F, c, (sg.set h1).set h2, tm⟩⟩
/-! ## a tuple of anything -/
def sTup (sls : List Sl) : Sl := ⟨fun F v => ∃ a vs, v = .ref a ∧ F a = some (.tup vs) ∧ Args F sls vs, fun e ⟨a, vs, h1, h2, h3⟩ => ⟨a, vs, h1, e _ _ h2, h3.imp fun sl _ q => sl.mono e q⟩⟩
theorem e_tupS (h : EvA t W G T cs fun sls cs1 => sls.length ≤ 1000 ∧ K (sTup sls) cs1) : Ev (tTup t) W G T cs K := fun s H st Q q => by
  refine h s H st _ fun sls cs1 ⟨hz, k⟩ vs H1 ⟨F, c, sg, tm, ar⟩ => ?_
  refine ⟨by rw [← ar.length]; exact small_len hz, fun p hp => ?_⟩
  have sF : Same F (upd F p (.tup vs)) := same_upd (c.fh.free hp)
  exact q _ _ k _ _ ⟨_, c.new hp, sg.mono sF, (tm.mono sF).cons ⟨p, vs, rfl, upd_same, ar.imp fun sl _ z => sl.mono sF z⟩⟩
/-- targets one by one -/
def Tgs (g : TGs) (is : List Nat) (W : Wd) (G : Gam) (T : Tms) (cs : Cells) (sls : List Sl) (K : Gam → Prop) : Prop :=
  ∀ vs s H, (∃ F, Core W F cs H ∧ Slots F G s ∧ Temps F T ∧ Args F sls vs) → ∀ Q : L2.St → Hp → Prop, (∀ G', K G' → ∀ s', Sta W G' T cs s' H → (∀ vs : List Nat, (∀ i ∈ is, i ∈ vs) → wipe s' vs = wipe s vs) → Q s' H) → g vs s H Q
theorem gs_nil {K : Gam → Prop} (k : K G) : Tgs gNil [] W G T cs [] K := fun vs s H ⟨F, c, sg, tm, ar⟩ Q q => by
  cases ar
  exact ⟨rfl, q _ k s ⟨F, c, sg, tm⟩ fun _ _ => rfl⟩
theorem gs_name {i : Nat} {is : List Nat} {g : TGs} {sl : Sl} {sls : List Sl} {K : Gam → Prop} (k : Tgs g is W (G.set i (some sl)) T cs sls K) : Tgs (gCons (gName i) g) (i :: is) W G T cs (sl :: sls) K := fun vs s H ⟨F, c, sg, tm, ar⟩ Q q => by
  cases ar with
  | cons p r =>
    refine ⟨_, _, rfl, ?_⟩
    refine k _ _ H ⟨F, c, sg.set p, tm, r⟩ _ fun G' k' s' st' hw => q G' k' s' st' fun vs hv => ?_
    rw [hw vs fun j hj => hv j (List.mem_cons_of_mem _ hj), wipe_set s i _ vs (hv i List.mem_cons_self)]
theorem g_tupS {KF : PySem.W.Frag} {n : Nat} {is : List Nat} {g : TGs} {sls : List Sl} {K : Gam → Prop} (hn : sls.length = n) (k : Tgs g is W G T cs sls K) : Tg (gTup KF n g) is W G T cs (sTup sls) K := fun v s H ⟨F, c, sg, tm⟩ Q q => by
  obtain ⟨a, vs, h1, h2, h3⟩ := tm.head
  exact ⟨a, vs, h1, SqT.of (c.fh _ _ h2), by rw [← h3.length]; exact hn, k vs s H ⟨F, c, sg, tm.tail, h3⟩ Q q⟩
/-! ## zip -/
theorem wk_zipT {r : R α} {q : R β} {xs : List α} {ys : List β} {a b : Addr} {B : Hp} : Wk (RZ.ItzT KF a b) ⟨W.F, B⟩ [(V.ref a, (rTup r).at xs), (V.ref b, (rTup q).at ys)] ((xs.zip ys).map (rPair r q).at) := by
  have get : ∀ (F : Hp), Temps F [(V.ref a, (rTup r).at xs), (V.ref b, (rTup q).at ys)] → ∃ us ws, F a = some (.tup us) ∧ F b = some (.tup ws) ∧ All2 (fun x u => r.p x F u) xs us ∧ All2 (fun x u => q.p x F u) ys ws := fun F t => by
    obtain ⟨_, a', us, e, h1, h2⟩ := t.head
    obtain ⟨_, b', ws, e', h1', h2'⟩ := t.tail.head
    cases e; cases e'
    exact ⟨us, ws, h1, h1', h2, h2'⟩
  refine ⟨fun i F H cs hi c t => ?_, fun i F H cs x H' sl hi c t y => ?_, fun F H cs c t => ?_⟩
  · obtain ⟨us, ws, h1, h2, h3, h4⟩ := get F t
    rw [List.length_map, List.length_zip] at hi
    obtain ⟨u, hu, _⟩ := h3.get (List.getElem?_eq_getElem (show i < xs.length by omega))
    obtain ⟨w, hw, _⟩ := h4.get (List.getElem?_eq_getElem (show i < ys.length by omega))
    exact ⟨us, ws, u, w, SqT.of (c.fh _ _ h1), SqT.of (c.fh _ _ h2), hu, hw⟩
  · obtain ⟨us, ws, h1, h2, h3, h4⟩ := get F t
    obtain ⟨T, x', y', rfl, hT, rfl, f1, f2⟩ := y
    obtain ⟨z, hz, pz⟩ := h3.get' (f1 us (SqT.of (c.fh _ _ h1)))
    obtain ⟨z2, hz2, pz2⟩ := h4.get' (f2 ws (SqT.of (c.fh _ _ h2)))
    have sF : Same F (upd F T (.tup [x', y'])) := same_upd (c.fh.free hT)
    rw [List.getElem?_map, (List.getElem?_zip_eq_some (z := (z, z2))).mpr ⟨hz, hz2⟩] at hi
    cases hi
    exact ⟨_, c.new hT, sF, T, x', y', rfl, upd_same, r.mono sF pz, q.mono sF pz2⟩
  · obtain ⟨us, ws, h1, h2, h3, h4⟩ := get F t
    refine ⟨us, ws, SqT.of (c.fh _ _ h1), SqT.of (c.fh _ _ h2), ?_⟩
    rw [List.length_map, List.length_zip]
    have := h3.length
    have := h4.length
    omega
theorem i_zipT {KI : List Sl → Cells → Prop} (h : EvA t W G T cs fun sls cs1 => ∃ (α β : Type) (r : R α) (q : R β) (xs : List α) (ys : List β), sls = [(rTup r).at xs, (rTup q).at ys] ∧ KI ((xs.zip ys).map (rPair r q).at) cs1) : EvI (RZ.iZipA KF t) W G T cs KI := fun s H st R k => by
  refine h s H st _ fun sls cs1 ⟨α, β, r, q, xs, ys, e, ki⟩ vs H1 ⟨F, c, sg, tm, ar⟩ => ?_
  subst e
  obtain ⟨v, w, rfl, p1, p2⟩ := args2' ar
  obtain ⟨hz, a, us, rfl, hF, hA⟩ := id p1
  obtain ⟨hz2, b, ws, rfl, hF2, hA2⟩ := id p2
  exact ⟨a, b, us, ws, rfl, .inr ⟨SqT.of (c.fh _ _ hF), SqT.of (c.fh _ _ hF2), k _ _ _ cs1 ki (by rw [List.length_map, List.length_zip]; omega) (fun B => wk_zipT) H1 ⟨F, c, sg, Temps.app (Temps.cons p1 (Temps.cons p2 Temps.nil)) tm⟩⟩⟩
theorem wk_zipL {r : R α} {q : R β} {xs : List α} {ys : List β} {a b : Addr} {B : Hp} : Wk (Itz KF a b) ⟨W.F, B⟩ [(V.ref a, (rLst r).at xs), (V.ref b, (rLst q).at ys)] ((xs.zip ys).map (rPair r q).at) := by
  have get : ∀ (F : Hp), Temps F [(V.ref a, (rLst r).at xs), (V.ref b, (rLst q).at ys)] → ∃ us ws, F a = some (.lst us) ∧ F b = some (.lst ws) ∧ All2 (fun x u => r.p x F u) xs us ∧ All2 (fun x u => q.p x F u) ys ws := fun F t => by
    obtain ⟨_, a', us, e, h1, h2⟩ := t.head
    obtain ⟨_, b', ws, e', h1', h2'⟩ := t.tail.head
    cases e; cases e'
    exact ⟨us, ws, h1, h1', h2, h2'⟩
  refine ⟨fun i F H cs hi c t => ?_, fun i F H cs x H' sl hi c t y => ?_, fun F H cs c t => ?_⟩
  · obtain ⟨us, ws, h1, h2, h3, h4⟩ := get F t
    rw [List.length_map, List.length_zip] at hi
    obtain ⟨u, hu, _⟩ := h3.get (List.getElem?_eq_getElem (show i < xs.length by omega))
    obtain ⟨w, hw, _⟩ := h4.get (List.getElem?_eq_getElem (show i < ys.length by omega))
    exact ⟨us, ws, u, w, SqL.of (c.fh _ _ h1), SqL.of (c.fh _ _ h2), hu, hw⟩
  · obtain ⟨us, ws, h1, h2, h3, h4⟩ := get F t
    obtain ⟨T, x', y', rfl, hT, rfl, f1, f2⟩ := y
    obtain ⟨z, hz, pz⟩ := h3.get' (f1 us (SqL.of (c.fh _ _ h1)))
    obtain ⟨z2, hz2, pz2⟩ := h4.get' (f2 ws (SqL.of (c.fh _ _ h2)))
    have sF : Same F (upd F T (.tup [x', y'])) := same_upd (c.fh.free hT)
    rw [List.getElem?_map, (List.getElem?_zip_eq_some (z := (z, z2))).mpr ⟨hz, hz2⟩] at hi
    cases hi
    exact ⟨_, c.new hT, sF, T, x', y', rfl, upd_same, r.mono sF pz, q.mono sF pz2⟩
  · obtain ⟨us, ws, h1, h2, h3, h4⟩ := get F t
    refine ⟨us, ws, SqL.of (c.fh _ _ h1), SqL.of (c.fh _ _ h2), ?_⟩
    rw [List.length_map, List.length_zip]
    have := h3.length
    have := h4.length
    omega
theorem i_zipL {KI : List Sl → Cells → Prop} (h : EvA t W G T cs fun sls cs1 => ∃ (α β : Type) (r : R α) (q : R β) (xs : List α) (ys : List β), sls = [(rLst r).at xs, (rLst q).at ys] ∧ KI ((xs.zip ys).map (rPair r q).at) cs1) : EvI (RZ.iZipA KF t) W G T cs KI := fun s H st R k => by
  refine h s H st _ fun sls cs1 ⟨α, β, r, q, xs, ys, e, ki⟩ vs H1 ⟨F, c, sg, tm, ar⟩ => ?_
  subst e
  obtain ⟨v, w, rfl, p1, p2⟩ := args2' ar
  obtain ⟨hz, a, us, rfl, hF, hA⟩ := id p1
  obtain ⟨hz2, b, ws, rfl, hF2, hA2⟩ := id p2
  exact ⟨a, b, us, ws, rfl, .inl ⟨SqL.of (c.fh _ _ hF), SqL.of (c.fh _ _ hF2), k _ _ _ cs1 ki (by rw [List.length_map, List.length_zip]; omega) (fun B => wk_zipL) H1 ⟨F, c, sg, Temps.app (Temps.cons p1 (Temps.cons p2 Temps.nil)) tm⟩⟩⟩
/-! ## the script -/
def rScr (KF : PySem.W.Frag) : R (List Int) := ⟨fun ns F v => ns.length ≤ 63 ∧ ∃ a, v = .ref a ∧ SqL KF F a (ns.map V.int), fun e ⟨h0, a, h1, h2⟩ => ⟨h0, a, h1, e.seq h2⟩⟩
theorem e_lenS (h : EvA t W G T cs fun sls cs1 => ∃ xs, sls = [(rScr KF).at xs] ∧ K (rInt.at (xs.length : Int)) cs1) : Ev (tCB (fun xs H Q => ∃ p ys, xs = [.ref p] ∧ (SqL KF H p ys ∨ SqT KF H p ys) ∧ Q (.int ys.length) H) t) W G T cs K := fun s H st Q q => by
  refine h s H st _ fun sls cs1 ⟨xs, e, k⟩ vs H1 ⟨F, c, sg, tm, ar⟩ => ?_
  subst e
  obtain ⟨v, rfl, hz, a, rfl, hA⟩ := args1 ar
  exact ⟨a, _, rfl, .inl (c.fh.seq hA), q _ _ k _ H1 ⟨F, c, sg, tm.cons (by rw [List.length_map]; rfl)⟩⟩
theorem e_ixS (ha : Ev ta W G T cs fun sa cs1 => ∀ va, Ev tb W G ((va, sa) :: T) cs1 fun sb cs2 => ∃ (xs : List Int) (i x : Int), sa = (rScr KF).at xs ∧ sb = rInt.at i ∧ atI xs i = some x ∧ K (rInt.at x) cs2) :
    Ev (tOp (rIxL KF) ta tb) W G T cs K := fun s H st Q q => by
  refine ha s H st _ fun sa cs1 h1 va H1 st1 => ?_
  refine h1 va s H1 st1 _ fun sb cs2 ⟨xs, i, x, e1, e2, hx, k⟩ vb H2 ⟨F, c, sg, tm⟩ => ?_
  subst e1 e2
  obtain ⟨hz, a, rfl, hA⟩ := tm.tail.head
  have eb : vb = .int i := tm.head
  refine ⟨a, _, i, .int x, rfl, eb, c.fh.seq hA, ?_, q _ _ k _ H2 ⟨F, c, sg, tm.tail.tail.cons rfl⟩⟩
  unfold atI at hx ⊢
  rw [List.length_map]
  cases e : ixN xs.length i with
  | none => rw [e] at hx; cases hx
  | some j =>
    rw [e] at hx
    have hx' : xs[j]? = some x := hx
    show (xs.map V.int)[j]? = _
    rw [List.getElem?_map, hx']
    rfl
/-! ## comprehensions: the simple kinds -/
theorem t_yes (k : KB true cs) : Et tYes W G T cs KB := fun s H st Q q => q true cs k H st
theorem lcO_map (f : α → γ) : ∀ xs : List α, lcO (fun (u : Unit) x => some (some (f x), u)) xs () = some (xs.map f, ())
  | [] => rfl
  | x :: xs => by unfold lcO; simp only [lcO_map f xs]; rfl
theorem lcO_filter (c : α → Bool) (f : α → γ) : ∀ xs : List α, lcO (fun (u : Unit) x => bif c x then some (some (f x), u) else some (none, u)) xs () = some ((xs.filter c).map f, ())
  | [] => rfl
  | x :: xs => by
    unfold lcO
    cases h : c x with
    | true => simp only [lcO_filter c f xs, cond_true]; rw [List.filter_cons_of_pos h]; rfl
    | false => simp only [lcO_filter c f xs, cond_false]; rw [List.filter_cons_of_neg (by rw [h]; exact Bool.false_ne_true)]
/-- may fail, without a state -/
def mapO (f : α → Option (Option γ)) : List α → Option (List γ)
  | [] => some []
  | x :: xs => match f x with
    | none => none
    | some o => match mapO f xs with
      | none => none
      | some ys => some (match o with | some y => y :: ys | none => ys)
theorem lcO_mapO (f : α → Option (Option γ)) : ∀ (xs : List α) (ys : List γ), mapO f xs = some ys → lcO (fun (u : Unit) x => (f x).map fun o => (o, u)) xs () = some (ys, ())
  | [], ys, h => by cases h; rfl
  | x :: xs, ys, h => by
    unfold mapO at h
    unfold lcO
    cases e : f x with
    | none => rw [e] at h; cases h
    | some o =>
      rw [e] at h
      dsimp only at h
      cases e2 : mapO f xs with
      | none => rw [e2] at h; cases h
      | some zs =>
        rw [e2] at h
        dsimp only at h
        simp only [Option.map_some, lcO_mapO f xs zs e2]
        cases h
        rfl
/-! ## taking a mirror's hypothesis apart -/
theorem bindE {m : Option α} {f : α → Option β} {r : β} (h : (m >>= f) = some r) : ∃ a, m = some a ∧ f a = some r := by
  cases m with
  | none => cases h
  | some a => exact ⟨a, rfl, h⟩
theorem condT {c : Bool} {a b x : α} (hc : c = true) (h : (bif c then a else b) = x) : a = x := by rw [hc] at h; exact h
theorem condF {c : Bool} {a b x : α} (hc : c = false) (h : (bif c then a else b) = x) : b = x := by rw [hc] at h; exact h
theorem pureE {a r : α} (h : (pure a : Option α) = some r) : a = r := Option.some.inj h
theorem pureE' {a r : α} (h : (pure a : Option α) = some r) : r = a := (Option.some.inj h).symm
theorem andF {c : Bool} {d : Bool} (hc : c = false) : (c && d) = false := by rw [hc]; rfl
theorem andT {c : Bool} {d : Bool} (hc : c = true) : (c && d) = d := by rw [hc]; rfl
theorem orF {c : Bool} {d : Bool} (hc : c = false) : (c || d) = d := by rw [hc]; rfl
theorem orT {c : Bool} {d : Bool} (hc : c = true) : (c || d) = true := by rw [hc]; rfl
end
section
variable {nx bk ct : L2.St → Hp → Prop} {rt : VK}
variable {W : Wd} {G Gj : Gam} {T : Tms} {cs cj : Cells} {K : Sl → Cells → Prop} {ta tb te : TE} {tt : TT} {D : Ends} {t1 t2 : TS} {t : TA} {α γ : Type} {KF : PySem.W.Frag}
/-- both ways meet behind the if -/
theorem s_ifJ (Gj : Gam) (cj : Cells) (h : Et tt W G T cs fun b cs1 => (b = true → ∀ N, NxT N W Gj T cj → NxT (t1 ⟨N, rt, bk, ct⟩) W G T cs1) ∧ (b = false → ∀ N, NxT N W Gj T cj → NxT (t2 ⟨N, rt, bk, ct⟩) W G T cs1)) (rest : NxT nx W Gj T cj) : NxT (tIfS tt t1 t2 ⟨nx, rt, bk, ct⟩) W G T cs :=
  s_if (h.imp fun b cs1 ⟨h1, h2⟩ => ⟨fun e => h1 e nx rest, fun e => h2 e nx rest⟩)
theorem mapU {f : Option (Option γ)} {u u1 : Unit} {o : Option γ} (h : (f.map fun o => (o, u)) = some (o, u1)) : f = some o ∧ u1 = u := by
  cases f with
  | none => cases h
  | some p => cases h; exact ⟨rfl, rfl⟩
theorem condT' {c : Bool} {a b : α} (hc : c = true) : (bif c then a else b) = a := by rw [hc]; rfl
theorem condF' {c : Bool} {a b : α} (hc : c = false) : (bif c then a else b) = b := by rw [hc]; rfl
/-- a list that is a cell beside a list that stands still -/
theorem e_eqC (j : Nat) (ha : Ev ta W G T cs fun sa cs1 => ∀ va, Ev tb W G ((va, sa) :: T) cs1 fun sb cs2 => ∃ (α : Type) (_ : DecidableEq α) (r : R α) (e : REq r) (p : Addr) (x y : List α), e.n ≤ 60 ∧ sa = sRef p ∧ cs2[j]? = some (p, cLst r x) ∧ sb = (rLst r).at y ∧ K (rBool.at (decide (x = y))) cs2) :
    Ev (tOp (rEqD KF) ta tb) W G T cs K := fun s H st Q q => by
  refine ha s H st _ fun sa cs1 h1 va H1 st1 => ?_
  refine h1 va s H1 st1 _ fun sb cs2 ⟨α, _, r, e, p, x, y, hn, e1, hj, e2, k⟩ vb H2 ⟨F, c, sg, tm⟩ => ?_
  subst e1 e2
  obtain ⟨hz, vs, hH, hA⟩ := c.lst hj
  have pb : (rLst r).p y F vb := tm.head
  have pa : va = .ref p := tm.tail.head
  subst pa
  refine ⟨_, _, Dp.lst (SqL.of hH) (dpAll e c.fh hA), (eLst e).ok pb c.fh, (eLst e).shaped (show e.n + 1 ≤ 64 by omega) x, (eLst e).shaped (show e.n + 1 ≤ 64 by omega) y, ?_⟩
  rw [show PyData.eqv (.list (x.map e.d)) ((eLst e).d y) = decide (x = y) from (eLst e).eqv x y]
  exact q _ _ k _ H2 ⟨F, c, sg, tm.tail.tail.cons rfl⟩
theorem e_neC (j : Nat) (ha : Ev ta W G T cs fun sa cs1 => ∀ va, Ev tb W G ((va, sa) :: T) cs1 fun sb cs2 => ∃ (α : Type) (_ : DecidableEq α) (r : R α) (e : REq r) (p : Addr) (x y : List α), e.n ≤ 60 ∧ sa = sRef p ∧ cs2[j]? = some (p, cLst r x) ∧ sb = (rLst r).at y ∧ K (rBool.at (!decide (x = y))) cs2) :
    Ev (tOp (rNeD KF) ta tb) W G T cs K := fun s H st Q q => by
  refine ha s H st _ fun sa cs1 h1 va H1 st1 => ?_
  refine h1 va s H1 st1 _ fun sb cs2 ⟨α, _, r, e, p, x, y, hn, e1, hj, e2, k⟩ vb H2 ⟨F, c, sg, tm⟩ => ?_
  subst e1 e2
  obtain ⟨hz, vs, hH, hA⟩ := c.lst hj
  have pb : (rLst r).p y F vb := tm.head
  have pa : va = .ref p := tm.tail.head
  subst pa
  refine ⟨_, _, Dp.lst (SqL.of hH) (dpAll e c.fh hA), (eLst e).ok pb c.fh, (eLst e).shaped (show e.n + 1 ≤ 64 by omega) x, (eLst e).shaped (show e.n + 1 ≤ 64 by omega) y, ?_⟩
  rw [show PyData.eqv (.list (x.map e.d)) ((eLst e).d y) = decide (x = y) from (eLst e).eqv x y]
  exact q _ _ k _ H2 ⟨F, c, sg, tm.tail.tail.cons rfl⟩
end
/-! ## the readings' names -/
abbrev rdLen (KF : PySem.W.Frag) : List V → Hp → VK → Prop := fun xs H Q => ∃ p ys, xs = [.ref p] ∧ (SqL KF H p ys ∨ SqT KF H p ys) ∧ Q (.int ys.length) H
abbrev rdTupleOf (KF : PySem.W.Frag) : List V → Hp → VK → Prop := fun xs H Q => ∃ p ys, xs = [.ref p] ∧ ((SqL KF H p ys ∧ ∀ l, H l = none → Q (.ref l) (upd H l (.tup ys))) ∨ (SqT KF H p ys ∧ Q (.ref p) H))
abbrev rdAbs : List V → Hp → VK → Prop := fun xs H Q => ∃ i, xs = [.int i] ∧ Q (.int (if i < 0 then -i else i)) H
abbrev rdMax2 : List V → Hp → VK → Prop := fun xs H Q => ∃ i j, xs = [.int i, .int j] ∧ Q (.int (if j > i then j else i)) H
abbrev rdMin2 : List V → Hp → VK → Prop := fun xs H Q => ∃ i j, xs = [.int i, .int j] ∧ Q (.int (if j < i then j else i)) H
abbrev rdInt1 : List V → Hp → VK → Prop := fun xs H Q => (∃ i, xs = [.int i] ∧ Q (.int i) H) ∨ ∃ k, xs = [.bl k] ∧ Q (.int (if k then 1 else 0)) H
abbrev rdAdd : R2 := rI0 fun i j => .int (i + j)
abbrev rdSub : R2 := rI0 fun i j => .int (i - j)
abbrev rdAnd : R2 := rI0 fun i j => .int (Builtin.bitAnd i j)
abbrev rdOr : R2 := rI0 fun i j => .int (Builtin.bitOr i j)
abbrev rdXor : R2 := rI0 fun i j => .int (Builtin.bitXor i j)
abbrev rdLt : R2 := rI0 fun i j => .bl (decide (i < j))
abbrev rdLe : R2 := rI0 fun i j => .bl (decide (i ≤ j))
abbrev rdGt : R2 := rI0 fun i j => .bl (decide (j < i))
abbrev rdGe : R2 := rI0 fun i j => .bl (decide (j ≤ i))
abbrev rdMul : R2 := rI CMulX fun i j => .int (i * j)
abbrev rdDiv : R2 := rI CDivW fun i j => .int (i / j)
abbrev rdMod : R2 := rI (fun _ j => 0 < j) fun i j => .int (i % j)
abbrev rdPow : R2 := rI CPowW fun i j => .int (i ^ j.toNat)
abbrev rdShl : R2 := rI CShl fun i j => .int (i * 2 ^ j.toNat)
abbrev rdShr : R2 := rI (fun _ j => 0 ≤ j) fun i j => .int (i / 2 ^ j.toNat)
abbrev rdNeg : V → Hp → VK → Prop := rU fun i => .int (-i)
abbrev rdInv : V → Hp → VK → Prop := rU fun i => .int (Builtin.bitNot i)
def Cup := Int × Int × Int
def cCup (k : Cup) : Cl := cLst rInt [k.1, k.2.1, k.2.2]

/-! ## built-ins by name -/
theorem bt_len : bootBuiltins "len" = some (.builtin "len") := PySem.boot_len
theorem bt_all : bootBuiltins "all" = some (.builtin "all") := PyProof.Rows.boot_all
theorem bt_any : bootBuiltins "any" = some (.builtin "any") := PyProof.Rows.boot_any
theorem bt_max : bootBuiltins "max" = some (.builtin "max") := PyProof.Rows.boot_max
theorem bt_min : bootBuiltins "min" = some (.builtin "min") := PyProof.Rows.boot_min
theorem bt_sum : bootBuiltins "sum" = some (.builtin "sum") := PyProof.Rows.boot_sum
theorem bt_abs : bootBuiltins "abs" = some (.builtin "abs") := PyProof.Rows.boot_abs
theorem bt_sorted : bootBuiltins "sorted" = some (.builtin "sorted") := PyProof.Rows.boot_sorted
theorem bt_repr : bootBuiltins "repr" = some (.builtin "repr") := PyProof.Rows.boot_repr
theorem bt_isinstance : bootBuiltins "isinstance" = some (.builtin "isinstance") := PyProof.Rows.boot_isinstance
theorem bt_int : bootBuiltins "int" = some (.type "int") := PyProof.Rows.boot_int
theorem bt_bool : bootBuiltins "bool" = some (.type "bool") := PyProof.Rows.boot_bool
theorem bt_str : bootBuiltins "str" = some (.type "str") := PyProof.Rows.boot_str
theorem bt_tuple : bootBuiltins "tuple" = some (.type "tuple") := PyProof.Rows.boot_tuple
theorem bt_list : bootBuiltins "list" = some (.type "list") := PyProof.Rows.boot_list
theorem bt_set : bootBuiltins "set" = some (.type "set") := PyProof.Rows.boot_set
theorem bt_dict : bootBuiltins "dict" = some (.type "dict") := PyProof.Rows.boot_dict
theorem bt_range : bootBuiltins "range" = some (.type "range") := PyProof.Rows.boot_range
theorem bt_zip : bootBuiltins "zip" = some (.type "zip") := PyProof.Rows.boot_zip
theorem bt_enumerate : bootBuiltins "enumerate" = some (.type "enumerate") := PyProof.Rows.boot_enumerate
end ML

namespace ML
open PySem Spec PyProof.Rows L2
section
variable {nx bk ct : L2.St → Hp → Prop} {rt : VK}
variable {W : Wd} {G G' : Gam} {T : Tms} {cs : Cells} {K : Sl → Cells → Prop} {KB : Bool → Cells → Prop} {ta tb tc te to ti : TE} {tt tu : TT} {D : Ends} {t1 t2 : TS} {t : TA} {α β γ ρ : Type} {KF : PySem.W.Frag}
/-! ## x op= e -/
theorem s_augI0 {i : Nat} {a : Int} {g : Int → Int → Int} (hi : G[i]? = some (some (rInt.at a))) (h : Ev te W G T cs fun sl cs1 => ∃ j, sl = rInt.at j ∧ NxT nx W (G.set i (some (rInt.at (g a j)))) T cs1) : NxT (tAug i te (rI0 fun i j => .int (g i j)) ⟨nx, rt, bk, ct⟩) W G T cs := fun s H st => by
  obtain ⟨F, c, sg, tm⟩ := id st
  obtain ⟨v, hv, pv⟩ := sg.2 i _ hi
  refine ⟨v, hv, h s H st _ fun sl cs1 ⟨j, e, k⟩ vb H1 ⟨F1, c1, sg1, tm1⟩ => ?_⟩
  subst e
  have ev : v = .int a := pv
  have eb : vb = .int j := tm1.head
  exact ⟨a, j, ev, eb, k _ H1 ⟨F1, c1, sg1.set (sl := rInt.at (g a j)) rfl, tm1.tail⟩⟩
theorem s_par3 {i j l : Nat} (h : EvA t W G T cs fun sls cs1 => ∃ a b c, sls = [a, b, c] ∧ NxT nx W (((G.set i (some a)).set j (some b)).set l (some c)) T cs1) : NxT (tPar3 i j l t ⟨nx, rt, bk, ct⟩) W G T cs := fun s H st => by
  refine h s H st _ fun sls cs1 ⟨a, b, c, e, k⟩ vs H1 ⟨F, cc, sg, tm, ar⟩ => ?_
  subst e
  obtain ⟨u, v, w, rfl, h1, h2, h3⟩ : ∃ u v w, vs = [u, v, w] ∧ a.p F u ∧ b.p F v ∧ c.p F w := by
    cases ar with
    | cons p q =>
      cases q with
      | cons p' q' =>
        cases q' with
        | cons p'' q'' => cases q''; exact ⟨_, _, _, rfl, p, p', p''⟩
  exact ⟨u, v, w, rfl, k _ H1 ⟨F, cc, ((sg.set h1).set h2).set h3, tm⟩⟩
/-! ## a tuple and a tuple -/
def oCat (xs ys : List α) : Option (List α) := if xs.length + ys.length ≤ sizeLine then some (xs ++ ys) else none
theorem e_catT (ha : Ev ta W G T cs fun sa cs1 => ∀ va, Ev tb W G ((va, sa) :: T) cs1 fun sb cs2 => ∃ (α : Type) (r : R α) (xs ys zs : List α), sa = (rTup r).at xs ∧ sb = (rTup r).at ys ∧ oCat xs ys = some zs ∧ K ((rTup r).at zs) cs2) :
    Ev (tOp (rCatA KF) ta tb) W G T cs K := fun s H st Q q => by
  refine ha s H st _ fun sa cs1 h1 va H1 st1 => ?_
  refine h1 va s H1 st1 _ fun sb cs2 ⟨α, r, xs, ys, zs, e1, e2, hy, k⟩ vb H2 ⟨F, c, sg, tm⟩ => ?_
  subst e1 e2
  obtain ⟨hz, a, vs, rfl, hF, hA⟩ := tm.tail.head
  obtain ⟨hz2, b, ws, rfl, hF2, hA2⟩ := tm.head
  obtain ⟨hl, e⟩ := of_ite hy
  subst e
  have l1 := hA.length
  have l2 := hA2.length
  refine ⟨a, b, vs, ws, rfl, rfl, SqT.of (c.fh _ _ hF), SqT.of (c.fh _ _ hF2), by omega, fun e => ?_, fun n e => ?_, fun n1 n2 p hp => ?_⟩
  · have ex : xs = [] := List.eq_nil_of_length_eq_zero (by rw [l1, e]; rfl)
    rw [ex, List.nil_append] at k
    exact q _ _ k _ H2 ⟨F, c, sg, tm.tail.tail.cons ⟨hz2, b, ws, rfl, hF2, hA2⟩⟩
  · have ey : ys = [] := List.eq_nil_of_length_eq_zero (by rw [l2, e]; rfl)
    rw [ey, List.append_nil] at k
    exact q _ _ k _ H2 ⟨F, c, sg, tm.tail.tail.cons ⟨hz, a, vs, rfl, hF, hA⟩⟩
  · have sF : Same F (upd F p (.tup (vs ++ ws))) := same_upd (c.fh.free hp)
    exact q _ _ k _ _ ⟨_, c.new hp, sg.mono sF, (tm.tail.tail.mono sF).cons ⟨by rw [List.length_append]; exact hl, p, _, rfl, upd_same, (hA.app hA2).imp fun _ _ z => r.mono sF z⟩⟩
/-! ## slices -/
def cutL (xs : List α) (lo hi : Option Int) : List α := (xs.drop (HT.sIx xs.length 0 lo)).take (HT.sIx xs.length xs.length hi - HT.sIx xs.length 0 lo)
theorem cutL_len (xs : List α) (lo hi : Option Int) : (cutL xs lo hi).length ≤ xs.length := by
  unfold cutL
  rw [List.length_take, List.length_drop]
  omega
theorem All2.cut {P : α → V → Prop} {xs : List α} {vs : List V} (a : All2 P xs vs) (lo hi : Option Int) : All2 P (cutL xs lo hi) (cutV vs lo hi) := by
  unfold cutL cutV
  rw [a.length]
  exact (a.drop _).take _
def EvO (to : TO) (W : Wd) (G : Gam) (T : Tms) (cs : Cells) (K : Option Int → Cells → Prop) : Prop :=
  ∀ s H, Sta W G T cs s H → ∀ Q : Option Int → Hp → Prop, (∀ o cs', K o cs' → ∀ H', Sta W G T cs' s H' → Q o H') → to s H Q
theorem eo_none {K : Option Int → Cells → Prop} (k : K none cs) : EvO tNoPart W G T cs K := fun s H st Q q => q none cs k H st
theorem eo_some {K : Option Int → Cells → Prop} (h : Ev te W G T cs fun sl cs1 => ∃ i, sl = rInt.at i ∧ K (some i) cs1) : EvO (tPart te) W G T cs K := fun s H st Q q => by
  refine h s H st _ fun sl cs1 ⟨i, e, k⟩ v H1 st1 => ?_
  subst e
  exact ⟨i, int_top st1, q _ _ k H1 st1.pop⟩
theorem e_slT {tl th : TO} (ha : Ev ta W G T cs fun sa cs1 => ∀ va, EvO tl W G ((va, sa) :: T) cs1 fun lo cs2 => EvO th W G ((va, sa) :: T) cs2 fun hi cs3 => ∃ (α : Type) (r : R α) (xs : List α), sa = (rTup r).at xs ∧ K ((rTup r).at (cutL xs lo hi)) cs3) :
    Ev (tSl (rSlA KF) ta tl th) W G T cs K := fun s H st Q q => by
  refine ha s H st _ fun sa cs1 h1 va H1 st1 => ?_
  refine h1 va s H1 st1 _ fun lo cs2 h2 H2 st2 => ?_
  refine h2 s H2 st2 _ fun hi cs3 ⟨α, r, xs, e1, k⟩ H3 ⟨F, c, sg, tm⟩ => ?_
  subst e1
  obtain ⟨hz, a, vs, rfl, hF, hA⟩ := tm.head
  have hl := hA.length
  refine ⟨a, vs, rfl, SqT.of (c.fh _ _ hF), fun ⟨e1, e2⟩ => ?_, fun _ p hp => ?_⟩
  · have ex : cutL xs lo hi = xs := by
      unfold cutL
      rw [hl, e1, e2, List.drop_zero, Nat.sub_zero, ← hl, List.take_length]
    rw [ex] at k
    exact q _ _ k _ H3 ⟨F, c, sg, tm.tail.cons ⟨hz, a, vs, rfl, hF, hA⟩⟩
  · have sF : Same F (upd F p (.tup (cutV vs lo hi))) := same_upd (c.fh.free hp)
    exact q _ _ k _ _ ⟨_, c.new hp, sg.mono sF, (tm.tail.mono sF).cons ⟨Nat.le_trans (cutL_len _ _ _) hz, p, _, rfl, upd_same, (hA.cut lo hi).imp fun _ _ z => r.mono sF z⟩⟩
theorem e_slL {tl th : TO} (ha : Ev ta W G T cs fun sa cs1 => ∀ va, EvO tl W G ((va, sa) :: T) cs1 fun lo cs2 => EvO th W G ((va, sa) :: T) cs2 fun hi cs3 => ∃ (α : Type) (r : R α) (xs : List α), sa = (rLst r).at xs ∧ K ((rLst r).at (cutL xs lo hi)) cs3) :
    Ev (tSl (rSlL KF) ta tl th) W G T cs K := fun s H st Q q => by
  refine ha s H st _ fun sa cs1 h1 va H1 st1 => ?_
  refine h1 va s H1 st1 _ fun lo cs2 h2 H2 st2 => ?_
  refine h2 s H2 st2 _ fun hi cs3 ⟨α, r, xs, e1, k⟩ H3 ⟨F, c, sg, tm⟩ => ?_
  subst e1
  obtain ⟨hz, a, vs, rfl, hF, hA⟩ := tm.head
  refine ⟨a, vs, rfl, SqL.of (c.fh _ _ hF), fun p hp => ?_⟩
  have sF : Same F (upd F p (.lst (cutV vs lo hi))) := same_upd (c.fh.free hp)
  exact q _ _ k _ _ ⟨_, c.new hp, sg.mono sF, (tm.tail.mono sF).cons ⟨Nat.le_trans (cutL_len _ _ _) hz, p, _, rfl, upd_same, (hA.cut lo hi).imp fun _ _ z => r.mono sF z⟩⟩
/-! ## a pair's parts -/
theorem e_ixP0 (ha : Ev ta W G T cs fun sa cs1 => ∀ va, Ev tb W G ((va, sa) :: T) cs1 fun sb cs2 => ∃ (α β : Type) (r : R α) (q : R β) (x : α × β), sa = (rPair r q).at x ∧ sb = rInt.at 0 ∧ K (r.at x.1) cs2) :
    Ev (tOp (rIxT KF) ta tb) W G T cs K := fun s H st Q q => by
  refine ha s H st _ fun sa cs1 h1 va H1 st1 => ?_
  refine h1 va s H1 st1 _ fun sb cs2 ⟨α, β, r, r', x, e1, e2, k⟩ vb H2 ⟨F, c, sg, tm⟩ => ?_
  subst e1 e2
  obtain ⟨a, u, w, rfl, hF, p1, p2⟩ := tm.tail.head
  have eb : vb = .int 0 := tm.head
  exact ⟨a, [u, w], 0, u, rfl, eb, SqT.of (c.fh _ _ hF), rfl, q _ _ k _ H2 ⟨F, c, sg, tm.tail.tail.cons p1⟩⟩
theorem e_ixP1 (ha : Ev ta W G T cs fun sa cs1 => ∀ va, Ev tb W G ((va, sa) :: T) cs1 fun sb cs2 => ∃ (α β : Type) (r : R α) (q : R β) (x : α × β), sa = (rPair r q).at x ∧ sb = rInt.at 1 ∧ K (q.at x.2) cs2) :
    Ev (tOp (rIxT KF) ta tb) W G T cs K := fun s H st Q q => by
  refine ha s H st _ fun sa cs1 h1 va H1 st1 => ?_
  refine h1 va s H1 st1 _ fun sb cs2 ⟨α, β, r, r', x, e1, e2, k⟩ vb H2 ⟨F, c, sg, tm⟩ => ?_
  subst e1 e2
  obtain ⟨a, u, w, rfl, hF, p1, p2⟩ := tm.tail.head
  have eb : vb = .int 1 := tm.head
  exact ⟨a, [u, w], 1, w, rfl, eb, SqT.of (c.fh _ _ hF), rfl, q _ _ k _ H2 ⟨F, c, sg, tm.tail.tail.cons p2⟩⟩
end
/-! ## a def that hands back a new list that its caller changes -/
section
variable {nx bk ct : L2.St → Hp → Prop} {rt : VK}
variable {W : Wd} {G : Gam} {T : Tms} {cs : Cells} {K : Sl → Cells → Prop} {t : TA}
def spC {ι β : Type} (A : ι → List Sl) (ci : ι → Cells) (m : ι → Option β) (new : β → Cl) (co : ι → β → Cells) : Sp := fun vs H Q _ =>
  ∃ (i : ι) (b : β) (W : Wd), m i = some b ∧ Core W W.F (ci i) H ∧ Args W.F (A i) vs ∧ ∀ p, Rt Q W (sRef p) (co i b ++ [(p, new b)])
theorem spC_len {ι β : Type} {A : ι → List Sl} {ci : ι → Cells} {m : ι → Option β} {new : β → Cl} {co : ι → β → Cells} {n : Nat} {vs : List V} {H : Hp} {Q : VK} {E : XK} (h : spC A ci m new co vs H Q E) (hA : ∀ i, (A i).length = n) : vs.length = n := by
  obtain ⟨i, b, W, _, _, ar, _⟩ := h
  rw [← hA i]
  exact ar.length.symm
theorem e_callC {ι β : Type} {A : ι → List Sl} {ci : ι → Cells} {m : ι → Option β} {new : β → Cl} {co : ι → β → Cells} {E : XK}
    (h : EvA t W G T cs fun sls cs1 => ∃ (i : ι) (b : β) (rest : Cells), m i = some b ∧ sls = A i ∧ cs1 = ci i ++ rest ∧ ∀ p, K (sRef p) (co i b ++ [(p, new b)] ++ rest)) : Ev (tCall (spC A ci m new co) [] E t) W G T cs K := fun s H st Q q => by
  refine h s H st _ fun sls cs1 ⟨i, b, rest, hm, e1, e2, k⟩ vs H1 ⟨F, c, sg, tm, ar⟩ => ?_
  subst e1 e2
  rw [List.append_nil]
  refine ⟨i, b, Wd.sub F H1 (ci i), hm, c.sub, ar, fun p v H2 ⟨F2, c2, pv⟩ => ?_⟩
  have sF : Same F F2 := c2.f0
  exact q _ _ (k p) v H2 ⟨F2, c.unsub c2, sg.mono sF, (tm.mono sF).cons pv⟩
end
/-! ## the law's end -/
theorem only_core {H : Hp} {ns : List Int} {a : Addr} {KF : PySem.W.Frag} (hS : SqL KF H a (ns.map V.int)) : Core ⟨H, fun _ => none⟩ H [] H :=
  ⟨Same.refl H, Same.refl H, fun _ _ e => (by cases e), fun _ _ e => (by cases e), List.nodup_nil, fun _ h => absurd h (by simp)⟩
end ML

namespace LW
open PySem Spec PyProof.Rows L2 ML
def top (i : Nat) : Stmt := PySem.Challenge.pw_maskgroups_k44_bits_there_and_back.main.body.getD i (.Pass ⟨0, 0, 0, 0⟩)
abbrev s_joined : Stmt := top 1
abbrev s_without_bit : Stmt := top 2
abbrev s_l_cup : Stmt := top 4
abbrev s_l_dip : Stmt := top 5
abbrev s_l_numbers : Stmt := top 6
abbrev s_l_right : Stmt := top 7
abbrev s_law : Stmt := top 8
structure Tx (K : PySem.W.Frag) (mg : Str → Option Value) where
  f_joined : Addr
  d_joined : FuncData
  F_joined : Fun K "joined" "joined" s_joined f_joined d_joined
  g_joined : mg "joined" = some (.ref f_joined)
  b_joined : Binds K d_joined ["one", "other", "bits"] []
  f_without_bit : Addr
  d_without_bit : FuncData
  F_without_bit : Fun K "without_bit" "without_bit" s_without_bit f_without_bit d_without_bit
  g_without_bit : mg "without_bit" = some (.ref f_without_bit)
  b_without_bit : Binds K d_without_bit ["code", "bit"] []
  f_l_cup : Addr
  d_l_cup : FuncData
  F_l_cup : Fun K "_law_cup" "_law_cup" s_l_cup f_l_cup d_l_cup
  g_l_cup : mg "_law_cup" = some (.ref f_l_cup)
  b_l_cup : Binds K d_l_cup ["_law_script", "_law_k"] []
  f_l_dip : Addr
  d_l_dip : FuncData
  F_l_dip : Fun K "_law_dip" "_law_dip" s_l_dip f_l_dip d_l_dip
  g_l_dip : mg "_law_dip" = some (.ref f_l_dip)
  b_l_dip : Binds K d_l_dip ["_law_cup_here", "_law_many"] []
  f_l_numbers : Addr
  d_l_numbers : FuncData
  F_l_numbers : Fun K "_law_numbers" "_law_numbers" s_l_numbers f_l_numbers d_l_numbers
  g_l_numbers : mg "_law_numbers" = some (.ref f_l_numbers)
  b_l_numbers : Binds K d_l_numbers ["_law_cup_here", "_law_count", "_law_bits"] []
  f_l_right : Addr
  d_l_right : FuncData
  F_l_right : Fun K "_law_right" "_law_right" s_l_right f_l_right d_l_right
  g_l_right : mg "_law_right" = some (.ref f_l_right)
  b_l_right : Binds K d_l_right ["_law_cup_here"] []
  f_law : Addr
  d_law : FuncData
  F_law : Fun K "law" "law" s_law f_law d_law
  g_law : mg "law" = some (.ref f_law)
  b_law : Binds K d_law ["_law_script"] []
  z_abs : mg "abs" = none
  z_all : mg "all" = none
  z_int : mg "int" = none
  z_len : mg "len" = none
  z_max : mg "max" = none
  z_min : mg "min" = none
  z_range : mg "range" = none
  z_tuple : mg "tuple" = none
  z_zip : mg "zip" = none
def m_joined (v_one : (List Int)) (v_other : (List Int)) (v_bits : Int) : Option (List Int) :=
  bind (mapO (fun (x1 : (Int × Int)) => (((bind (oShl x1.2 v_bits) fun t3 => pure (some (x1.1 + t3)))) : Option (Option Int))) (v_one.zip v_other)) fun t5 =>
  pure t5
abbrev sp_joined (K : PySem.W.Frag) : Sp := spM (ι := (List Int) × (List Int) × Int) (β := (List Int)) (fun i => [(rTup rInt).at i.1, (rTup rInt).at i.2.1, rInt.at i.2.2]) (fun i => []) (fun i => m_joined i.1 i.2.1 i.2.2) (fun i b => (rTup rInt).at b) (fun i b => [])
abbrev N_joined : List Str := ["one", "other", "bits", "low", "high"]
theorem sc_joined : FnScope N_joined ["one", "other", "bits"] (defScope s_joined) := ⟨rfl, rfl, rfl, by decide +kernel, rfl, by decide +kernel, by decide +kernel⟩
theorem ok_joined {P : Program} {w : World} {K : PySem.W.Frag} {mg : Str → Option Value} {base : Heap} (X : Tx K mg) : FnOk P w K mg base CX0 1 X.f_joined X.d_joined ["one", "other", "bits"] (sp_joined K) := by
  refine X.F_joined.ok sc_joined (fun vs H Q E h => spM_len h fun _ => rfl) (fun cdv A outer s H vs Q E hr h => ?_)
  refine ⟨(tRet (tCB (rdTupleOf K) (tCons (tLc (RZ.iZipA K (tCons (tVar 0) (tCons (tVar 1) tNil))) (gTup K 2 (gCons (gName 3) (gCons (gName 4) gNil))) tYes (tOp rdAdd (tVar 3) (tOp rdShl (tVar 4) (tVar 2))) [3, 4]) tNil))), (pss_one (ps_ret (pe_callTy call_tuple_of (by rfl) X.z_tuple bt_tuple (pa_cons (pe_lc (own := [("low", 3), ("high", 4)]) (g := (gTup K 2 (gCons (gName 3) (gCons (gName 4) gNil)))) (tt := tYes) (te := (tOp rdAdd (tVar 3) (tOp rdShl (tVar 4) (tVar 2)))) rfl sc_joined.nd (RZ.pi_zipA (by rfl) X.z_zip (pa_cons (pv 0) (pa_cons (pv 1) pa_nil))) (blkOk_by (N := N_joined) (sc := (defScope s_joined)) (by decide +kernel)) (fun _ _ _ _ _ => (pg_tup rfl (pgs_cons (pg_name (i := 3) sc_joined.nd rfl (Or.inl rfl)) (pgs_cons (pg_name (i := 4) sc_joined.nd rfl (Or.inl rfl)) pgs_nil)))) (fun _ _ _ _ _ => pts_nil) (fun _ _ _ _ _ => (pe_op op_add (pv 3) (pe_op op_shlW (pv 4) (pv 2))))) pa_nil)))), ?_⟩
  obtain ⟨⟨v_one, v_other, v_bits⟩, r, W, h, hcore, har, hrt⟩ := h
  refine body hcore har (Nat.le_of_ble_eq_true rfl) ?_
  clear hcore har
  change m_joined v_one v_other v_bits = some r at h
  unfold m_joined at h
  change NxT _ _ [some ((rTup rInt).at v_one), some ((rTup rInt).at v_other), some (rInt.at v_bits), none, none] _ []
  replace h := bindE h
  obtain ⟨t5, ht5, h⟩ := h
  replace h := pureE h
  subst h
  refine s_ret (e_tupL (ea_cons (lc_sound (is := [3, 4]) (by decide) (i_zipT (ea_cons (e_var (sl := ((rTup rInt).at v_one)) rfl fun _ => (ea_cons (e_var (sl := ((rTup rInt).at v_other)) rfl fun _ => (ea_nil ⟨_, _, rInt, rInt, _, _, rfl, ⟨_, _, _, (rPair rInt rInt), (v_one.zip v_other), (), _, t5, (), rInt, fun _ => [], rfl, lcO_mapO _ _ _ ht5, rfl, ?b4, fun _ => (ea_nil ⟨_, rInt, _, rfl, ?_⟩)⟩⟩)))))))))
  case b4 =>
    intro W1 T1 k2 x1 o u1 h
    obtain ⟨h, _⟩ := mapU h
    refine g_pair ?_
    replace h := bindE h
    obtain ⟨t3, ht3, h⟩ := h
    replace h := pureE h
    subst h
    refine t_yes ⟨fun _ => ?_, fun z => nomatch z⟩
    refine (e_opI0 (g := fun i j => i + j) (e_var (sl := (rInt.at x1.1)) rfl ⟨_, rfl, (e_opO oShl_ok (e_var (sl := (rInt.at x1.2)) rfl ⟨_, rfl, (e_var (sl := (rInt.at v_bits)) rfl ⟨_, _, rfl, ht3, ⟨_, rfl, ⟨_, rfl, rfl, rfl⟩⟩⟩)⟩))⟩))
  exact Rt.drop hrt .slnil
def m_without_bit (v_code : (List Int)) (v_bit : Int) : Option (List Int) :=
  bind (mapO (fun (x1 : Int) => (((bind (oShl (1 : Int) v_bit) fun t3 => (bind (oShr x1 (v_bit + (1 : Int))) fun t4 => (bind (oShl t4 v_bit) fun t5 => pure (some ((Builtin.bitAnd x1 (t3 - (1 : Int))) + t5)))))) : Option (Option Int))) v_code) fun t7 =>
  pure t7
abbrev sp_without_bit (K : PySem.W.Frag) : Sp := spM (ι := (List Int) × Int) (β := (List Int)) (fun i => [(rTup rInt).at i.1, rInt.at i.2]) (fun i => []) (fun i => m_without_bit i.1 i.2) (fun i b => (rTup rInt).at b) (fun i b => [])
abbrev N_without_bit : List Str := ["code", "bit", "number"]
theorem sc_without_bit : FnScope N_without_bit ["code", "bit"] (defScope s_without_bit) := ⟨rfl, rfl, rfl, by decide +kernel, rfl, by decide +kernel, by decide +kernel⟩
theorem ok_without_bit {P : Program} {w : World} {K : PySem.W.Frag} {mg : Str → Option Value} {base : Heap} (X : Tx K mg) : FnOk P w K mg base CX0 1 X.f_without_bit X.d_without_bit ["code", "bit"] (sp_without_bit K) := by
  refine X.F_without_bit.ok sc_without_bit (fun vs H Q E h => spM_len h fun _ => rfl) (fun cdv A outer s H vs Q E hr h => ?_)
  refine ⟨(tRet (tCB (rdTupleOf K) (tCons (tLc (iTup K (tVar 0)) (gName 2) tYes (tOp rdAdd (tOp rdAnd (tVar 2) (tOp rdSub (tOp rdShl (tC (.int 1)) (tVar 1)) (tC (.int 1)))) (tOp rdShl (tOp rdShr (tVar 2) (tOp rdAdd (tVar 1) (tC (.int 1)))) (tVar 1))) [2]) tNil))), (pss_one (ps_ret (pe_callTy call_tuple_of (by rfl) X.z_tuple bt_tuple (pa_cons (pe_lc (own := [("number", 2)]) (g := (gName 2)) (tt := tYes) (te := (tOp rdAdd (tOp rdAnd (tVar 2) (tOp rdSub (tOp rdShl (tC (.int 1)) (tVar 1)) (tC (.int 1)))) (tOp rdShl (tOp rdShr (tVar 2) (tOp rdAdd (tVar 1) (tC (.int 1)))) (tVar 1)))) rfl sc_without_bit.nd (pi_tup (pv 0)) (blkOk_by (N := N_without_bit) (sc := (defScope s_without_bit)) (by decide +kernel)) (fun _ _ _ _ _ => (pg_name (i := 2) sc_without_bit.nd rfl (Or.inl rfl))) (fun _ _ _ _ _ => pts_nil) (fun _ _ _ _ _ => (pe_op op_add (pe_op op_and (pv 2) (pe_op op_sub (pe_op op_shlW pe_int (pv 1)) pe_int)) (pe_op op_shlW (pe_op op_shr (pv 2) (pe_op op_add (pv 1) pe_int)) (pv 1))))) pa_nil)))), ?_⟩
  obtain ⟨⟨v_code, v_bit⟩, r, W, h, hcore, har, hrt⟩ := h
  refine body hcore har (Nat.le_of_ble_eq_true rfl) ?_
  clear hcore har
  change m_without_bit v_code v_bit = some r at h
  unfold m_without_bit at h
  change NxT _ _ [some ((rTup rInt).at v_code), some (rInt.at v_bit), none] _ []
  replace h := bindE h
  obtain ⟨t7, ht7, h⟩ := h
  replace h := pureE h
  subst h
  refine s_ret (e_tupL (ea_cons (lc_sound (is := [2]) (by decide) (i_tup (e_var (sl := ((rTup rInt).at v_code)) rfl ⟨_, rInt, _, rfl, ⟨_, _, _, rInt, v_code, (), _, t7, (), rInt, fun _ => [], rfl, lcO_mapO _ _ _ ht7, rfl, ?b6, fun _ => (ea_nil ⟨_, rInt, _, rfl, ?_⟩)⟩⟩)))))
  case b6 =>
    intro W1 T1 k2 x1 o u1 h
    obtain ⟨h, _⟩ := mapU h
    refine g_name ?_
    replace h := bindE h
    obtain ⟨t3, ht3, h⟩ := h
    replace h := bindE h
    obtain ⟨t4, ht4, h⟩ := h
    replace h := bindE h
    obtain ⟨t5, ht5, h⟩ := h
    replace h := pureE h
    subst h
    refine t_yes ⟨fun _ => ?_, fun z => nomatch z⟩
    refine (e_opI0 (g := fun i j => i + j) (e_opI0 (g := Builtin.bitAnd) (e_var (sl := (rInt.at x1)) rfl ⟨_, rfl, (e_opI0 (g := fun i j => i - j) (e_opO oShl_ok (e_int ⟨_, rfl, (e_var (sl := (rInt.at v_bit)) rfl ⟨_, _, rfl, ht3, ⟨_, rfl, (e_int ⟨_, rfl, ⟨_, rfl, ⟨_, rfl, (e_opO oShl_ok (e_opO oShr_ok (e_var (sl := (rInt.at x1)) rfl ⟨_, rfl, (e_opI0 (g := fun i j => i + j) (e_var (sl := (rInt.at v_bit)) rfl ⟨_, rfl, (e_int ⟨_, rfl, ⟨_, _, rfl, ht4, ⟨_, rfl, (e_var (sl := (rInt.at v_bit)) rfl ⟨_, _, rfl, ht5, ⟨_, rfl, ⟨_, rfl, rfl, rfl⟩⟩⟩)⟩⟩⟩)⟩))⟩)))⟩⟩⟩)⟩⟩)⟩)))⟩)))
  exact Rt.drop hrt .slnil
def m_l_cup (v_script : (List Int)) (v_k : Int) : Option Cup :=
  bind (((bif (decide (v_k < (v_script.length : Int))) then ((bind (atI v_script v_k) fun t1 => pure t1)) else ((bind (oMul (41 : Int) v_k) fun t2 => pure (t2 + (12 : Int))))) : Option Int)) fun t3 =>
  bind (oPow (10 : Int) (60 : Int)) fun t6 =>
  bind (oPow t6 (4 : Int)) fun t7 =>
  bind (oMod (t3.natAbs : Int) t7) fun t8 =>
  bind (oPow (10 : Int) (18 : Int)) fun t9 =>
  bind (oMul t8 (if (decide (t9 ≤ (t3.natAbs : Int))) then (1 : Int) else 0)) fun t10 =>
  bind (oMod t3 (2305843009213693951 : Int)) fun t11 =>
  bind (oMul t11 (59333 : Int)) fun t12 =>
  bind (oMul (6689 : Int) v_k) fun t13 =>
  bind (oMul t13 v_k) fun t14 =>
  bind (oMod ((t12 + t14) + (61 : Int)) (2305843009213693921 : Int)) fun t15 =>
  pure (t10, t15, (0 : Int))
abbrev sp_l_cup (K : PySem.W.Frag) : Sp := spC (ι := (List Int) × Int) (β := Cup) (fun i => [(rScr K).at i.1, rInt.at i.2]) (fun i => []) (fun i => m_l_cup i.1 i.2) (fun b => cCup b) (fun i b => [])
abbrev N_l_cup : List Str := ["_law_script", "_law_k", "_law_cell", "_law_own"]
theorem sc_l_cup : FnScope N_l_cup ["_law_script", "_law_k"] (defScope s_l_cup) := ⟨rfl, rfl, rfl, by decide +kernel, rfl, by decide +kernel, by decide +kernel⟩
theorem ok_l_cup {P : Program} {w : World} {K : PySem.W.Frag} {mg : Str → Option Value} {base : Heap} (X : Tx K mg) : FnOk P w K mg base CX0 1 X.f_l_cup X.d_l_cup ["_law_script", "_law_k"] (sp_l_cup K) := by
  refine X.F_l_cup.ok sc_l_cup (fun vs H Q E h => spC_len h fun _ => rfl) (fun cdv A outer s H vs Q E hr h => ?_)
  refine ⟨(tSeq (tAsg (tIf (tTest (tOp rdLt (tVar 1) (tCB (rdLen K) (tCons (tVar 0) tNil)))) (tOp (rIxL K) (tVar 0) (tVar 1)) (tOp rdAdd (tOp rdMul (tC (.int 41)) (tVar 1)) (tC (.int 12)))) (gName 2)) (tSeq (tAsg (tOp rdMul (tOp rdMod (tCB rdAbs (tCons (tVar 2) tNil)) (tOp rdPow (tOp rdPow (tC (.int 10)) (tC (.int 60))) (tC (.int 4)))) (tCB rdInt1 (tCons (tOp rdGe (tCB rdAbs (tCons (tVar 2) tNil)) (tOp rdPow (tC (.int 10)) (tC (.int 18)))) tNil))) (gName 3)) (tRet (tLst (tCons (tVar 3) (tCons (tOp rdMod (tOp rdAdd (tOp rdAdd (tOp rdMul (tOp rdMod (tVar 2) (tC (.int 2305843009213693951))) (tC (.int 59333))) (tOp rdMul (tOp rdMul (tC (.int 6689)) (tVar 1)) (tVar 1))) (tC (.int 61))) (tC (.int 2305843009213693921))) (tCons (tC (.int 0)) tNil))))))), (pss_cons (ps_set (i := 2) sc_l_cup.nd rfl (Or.inl rfl) (pe_ifExp (pt_cmpR op_lt (pv 1) (pe_callB call_len_seq (by rfl) X.z_len bt_len (pa_cons (pv 0) pa_nil)) (nomark _)) (pe_ix ix_list (pv 0) (pv 1) (fun _ _ => rfl)) (pe_op op_add (pe_op op_mulX pe_int (pv 1)) pe_int))) (pss_cons (ps_set (i := 3) sc_l_cup.nd rfl (Or.inl rfl) (pe_op op_mulX (pe_op op_mod (pe_callB call_abs (by rfl) X.z_abs bt_abs (pa_cons (pv 2) pa_nil)) (pe_op op_powW (pe_op op_powW pe_int pe_int) pe_int)) (pe_callTy call_int1 (by rfl) X.z_int bt_int (pa_cons (pe_cmpR op_ge (pe_callB call_abs (by rfl) X.z_abs bt_abs (pa_cons (pv 2) pa_nil)) (pe_op op_powW pe_int pe_int) (nomark _)) pa_nil)))) (pss_one (ps_ret (pe_lst (pa_cons (pv 3) (pa_cons (pe_op op_mod (pe_op op_add (pe_op op_add (pe_op op_mulX (pe_op op_mod (pv 2) pe_int) pe_int) (pe_op op_mulX (pe_op op_mulX pe_int (pv 1)) (pv 1))) pe_int) pe_int) (pa_cons pe_int pa_nil)))))))), ?_⟩
  obtain ⟨⟨v_script, v_k⟩, r, W, h, hcore, har, hrt⟩ := h
  refine body hcore har (Nat.le_of_ble_eq_true rfl) ?_
  clear hcore har
  change m_l_cup v_script v_k = some r at h
  unfold m_l_cup at h
  change NxT _ _ [some ((rScr K).at v_script), some (rInt.at v_k), none, none] _ []
  replace h := bindE h
  obtain ⟨t3, ht3, h⟩ := h
  refine s_seq (s_set (e_if (c := (decide (v_k < (v_script.length : Int)))) (sl := rInt.at t3) (cs' := []) (t_test (e_opB0 (g := fun i j => decide (i < j)) (e_var (sl := (rInt.at v_k)) rfl ⟨_, rfl, (e_lenS (ea_cons (e_var (sl := ((rScr K).at v_script)) rfl fun _ => (ea_nil ⟨_, rfl, ⟨_, rfl, ⟨_, rfl, ⟨rfl, ?b4, ?b5⟩⟩⟩⟩))))⟩))) ?_))
  case b4 =>
    intro hc
    have h := condT hc ht3
    replace h := bindE h
    obtain ⟨t1, ht1, h⟩ := h
    replace h := pureE h
    subst h
    refine (e_ixS (e_var (sl := ((rScr K).at v_script)) rfl fun _ => (e_var (sl := (rInt.at v_k)) rfl ⟨_, _, _, rfl, rfl, ht1, ⟨rfl, rfl⟩⟩)))
  case b5 =>
    intro hc
    have h := condF hc ht3
    replace h := bindE h
    obtain ⟨t2, ht2, h⟩ := h
    replace h := pureE h
    subst h
    refine (e_opI0 (g := fun i j => i + j) (e_opO oMul_ok (e_int ⟨_, rfl, (e_var (sl := (rInt.at v_k)) rfl ⟨_, _, rfl, ht2, ⟨_, rfl, (e_int ⟨_, rfl, ⟨rfl, rfl⟩⟩)⟩⟩)⟩)))
  change NxT _ _ [some ((rScr K).at v_script), some (rInt.at v_k), some (rInt.at t3), none] _ []
  replace h := bindE h
  obtain ⟨t6, ht6, h⟩ := h
  replace h := bindE h
  obtain ⟨t7, ht7, h⟩ := h
  replace h := bindE h
  obtain ⟨t8, ht8, h⟩ := h
  replace h := bindE h
  obtain ⟨t9, ht9, h⟩ := h
  replace h := bindE h
  obtain ⟨t10, ht10, h⟩ := h
  refine s_seq (s_set (e_opO oMul_ok (e_opO oMod_ok (e_abs (ea_cons (e_var (sl := (rInt.at t3)) rfl fun _ => (ea_nil ⟨_, rfl, ⟨_, rfl, (e_opO oPow_ok (e_opO oPow_ok (e_int ⟨_, rfl, (e_int ⟨_, _, rfl, ht6, ⟨_, rfl, (e_int ⟨_, _, rfl, ht7, ⟨_, _, rfl, ht8, ⟨_, rfl, (e_intB (ea_cons (e_opB0 (g := fun i j => decide (j ≤ i)) (e_abs (ea_cons (e_var (sl := (rInt.at t3)) rfl fun _ => (ea_nil ⟨_, rfl, ⟨_, rfl, (e_opO oPow_ok (e_int ⟨_, rfl, (e_int ⟨_, _, rfl, ht9, ⟨_, rfl, fun _ => (ea_nil ⟨_, rfl, ⟨_, _, rfl, ht10, ?_⟩⟩)⟩⟩)⟩))⟩⟩)))))))⟩⟩⟩)⟩⟩)⟩)))⟩⟩)))))))
  change NxT _ _ [some ((rScr K).at v_script), some (rInt.at v_k), some (rInt.at t3), some (rInt.at t10)] _ []
  replace h := bindE h
  obtain ⟨t11, ht11, h⟩ := h
  replace h := bindE h
  obtain ⟨t12, ht12, h⟩ := h
  replace h := bindE h
  obtain ⟨t13, ht13, h⟩ := h
  replace h := bindE h
  obtain ⟨t14, ht14, h⟩ := h
  replace h := bindE h
  obtain ⟨t15, ht15, h⟩ := h
  replace h := pureE h
  subst h
  refine s_ret (e_lstC (ea_cons (e_var (sl := (rInt.at t10)) rfl fun _ => (ea_cons (e_opO oMod_ok (e_opI0 (g := fun i j => i + j) (e_opI0 (g := fun i j => i + j) (e_opO oMul_ok (e_opO oMod_ok (e_var (sl := (rInt.at t3)) rfl ⟨_, rfl, (e_int ⟨_, _, rfl, ht11, ⟨_, rfl, (e_int ⟨_, _, rfl, ht12, ⟨_, rfl, (e_opO oMul_ok (e_opO oMul_ok (e_int ⟨_, rfl, (e_var (sl := (rInt.at v_k)) rfl ⟨_, _, rfl, ht13, ⟨_, rfl, (e_var (sl := (rInt.at v_k)) rfl ⟨_, _, rfl, ht14, ⟨_, rfl, ⟨_, rfl, (e_int ⟨_, rfl, ⟨_, rfl, (e_int ⟨_, _, rfl, ht15, fun _ => (ea_cons (e_int fun _ => (ea_nil ⟨_, rInt, ([t10, t15, (0 : Int)] : List Int), rfl, Nat.le_of_ble_eq_true rfl, fun pr => ?_⟩)))⟩)⟩⟩)⟩⟩⟩)⟩⟩)⟩)))⟩⟩)⟩⟩)⟩))))))))))
  exact hrt pr
def m_l_dip (k : Cup) (v_many : Int) : Option (Int × Cup) :=
  bind (atI [k.1, k.2.1, k.2.2] (0 : Int)) fun t1 =>
  (bif (decide ((0 : Int) < t1)) then ((bind (atI [k.1, k.2.1, k.2.2] (0 : Int)) fun t2 => (bind (oMod t2 v_many) fun t3 => (bind (atI [k.1, k.2.1, k.2.2] (0 : Int)) fun t4 => (bind (oDiv t4 v_many) fun t5 => pure (t3, (t5, k.2.1, k.2.2))))))) else ((bind (atI [k.1, k.2.1, k.2.2] (2 : Int)) fun t6 => (bind (atI [(k.1, k.2.1, (t6 + (1 : Int))).1, (k.1, k.2.1, (t6 + (1 : Int))).2.1, (k.1, k.2.1, (t6 + (1 : Int))).2.2] (2 : Int)) fun t7 => (bind (oMod t7 (5 : Int)) fun t8 => (bind (atI ([(2147483647 : Int), (2147483629 : Int), (2147483587 : Int), (2147483579 : Int), (2147483563 : Int)] : List Int) t8) fun t9 => (bind (atI [(k.1, k.2.1, (t6 + (1 : Int))).1, (k.1, k.2.1, (t6 + (1 : Int))).2.1, (k.1, k.2.1, (t6 + (1 : Int))).2.2] (1 : Int)) fun t10 => (bind (atI [(k.1, k.2.1, (t6 + (1 : Int))).1, (k.1, k.2.1, (t6 + (1 : Int))).2.1, (k.1, k.2.1, (t6 + (1 : Int))).2.2] (2 : Int)) fun t11 => (bind (oMul (77003 : Int) t11) fun t12 => (bind (atI [(k.1, k.2.1, (t6 + (1 : Int))).1, (k.1, k.2.1, (t6 + (1 : Int))).2.1, (k.1, k.2.1, (t6 + (1 : Int))).2.2] (2 : Int)) fun t13 => (bind (oMul t12 t13) fun t14 => (bind (oPow ((t10 + t14) + (47 : Int)) (3 : Int)) fun t15 => (bind (oMod t15 t9) fun t16 => (bind (oMod t16 (10037 : Int)) fun t17 => (bind (atI [(k.1, k.2.1, (t6 + (1 : Int))).1, (k.1, k.2.1, (t6 + (1 : Int))).2.1, (k.1, k.2.1, (t6 + (1 : Int))).2.2] (2 : Int)) fun t18 => (bind (oMul (71 : Int) t18) fun t19 => (bind (oMul t16 (t17 + t19)) fun t20 => (bind (oMod t20 (2305843009213693907 : Int)) fun t21 => (bind (oDiv t21 (101 : Int)) fun t22 => (bind (oMod t22 v_many) fun t23 => pure (t23, (k.1, k.2.1, (t6 + (1 : Int))))))))))))))))))))))))
abbrev sp_l_dip (K : PySem.W.Frag) : Sp := spM (ι := Addr × Cup × Int) (β := (Int × Cup)) (fun i => [sRef i.1, rInt.at i.2.2]) (fun i => [(i.1, cCup i.2.1)]) (fun i => m_l_dip i.2.1 i.2.2) (fun i b => rInt.at b.1) (fun i b => [(i.1, cCup b.2)])
abbrev N_l_dip : List Str := ["_law_cup_here", "_law_many", "_law_digit", "_law_prime", "_law_mixed"]
theorem sc_l_dip : FnScope N_l_dip ["_law_cup_here", "_law_many"] (defScope s_l_dip) := ⟨rfl, rfl, rfl, by decide +kernel, rfl, by decide +kernel, by decide +kernel⟩
theorem ok_l_dip {P : Program} {w : World} {K : PySem.W.Frag} {mg : Str → Option Value} {base : Heap} (X : Tx K mg) : FnOk P w K mg base CX0 1 X.f_l_dip X.d_l_dip ["_law_cup_here", "_law_many"] (sp_l_dip K) := by
  refine X.F_l_dip.ok sc_l_dip (fun vs H Q E h => spM_len h fun _ => rfl) (fun cdv A outer s H vs Q E hr h => ?_)
  refine ⟨(tSeq (tIfS (tTest (tOp rdGt (tOp (rIxL K) (tVar 0) (tC (.int 0))) (tC (.int 0)))) (tSeq (tAsg (tOp rdMod (tOp (rIxL K) (tVar 0) (tC (.int 0))) (tVar 1)) (gName 2)) (tSeq (tAsg (tOp rdDiv (tOp (rIxL K) (tVar 0) (tC (.int 0))) (tVar 1)) (gSub (tVar 0) (tC (.int 0)) rSetL)) (tRet (tVar 2)))) tNext) (tSeq (tAsg (tOp rdAdd (tOp (rIxL K) (tVar 0) (tC (.int 2))) (tC (.int 1))) (gSub (tVar 0) (tC (.int 2)) rSetL)) (tSeq (tAsg (tOp (rIxL K) (tLst (tCons (tC (.int 2147483647)) (tCons (tC (.int 2147483629)) (tCons (tC (.int 2147483587)) (tCons (tC (.int 2147483579)) (tCons (tC (.int 2147483563)) tNil)))))) (tOp rdMod (tOp (rIxL K) (tVar 0) (tC (.int 2))) (tC (.int 5)))) (gName 3)) (tSeq (tAsg (tOp rdMod (tOp rdPow (tOp rdAdd (tOp rdAdd (tOp (rIxL K) (tVar 0) (tC (.int 1))) (tOp rdMul (tOp rdMul (tC (.int 77003)) (tOp (rIxL K) (tVar 0) (tC (.int 2)))) (tOp (rIxL K) (tVar 0) (tC (.int 2))))) (tC (.int 47))) (tC (.int 3))) (tVar 3)) (gName 4)) (tRet (tOp rdMod (tOp rdDiv (tOp rdMod (tOp rdMul (tVar 4) (tOp rdAdd (tOp rdMod (tVar 4) (tC (.int 10037))) (tOp rdMul (tC (.int 71)) (tOp (rIxL K) (tVar 0) (tC (.int 2)))))) (tC (.int 2305843009213693907))) (tC (.int 101))) (tVar 1))))))), (pss_cons (ps_if (pt_cmpR op_gt (pe_ix ix_list (pv 0) pe_int (fun _ _ => rfl)) pe_int (nomark _)) (pss_cons (ps_set (i := 2) sc_l_dip.nd rfl (Or.inl rfl) (pe_op op_mod (pe_ix ix_list (pv 0) pe_int (fun _ _ => rfl)) (pv 1))) (pss_cons (ps_asg (pe_op op_fdivW (pe_ix ix_list (pv 0) pe_int (fun _ _ => rfl)) (pv 1)) (pg_sub (pv 0) pe_int set_list)) (pss_one (ps_ret (pv 2))))) pss_nil) (pss_cons (ps_asg (pe_op op_add (pe_ix ix_list (pv 0) pe_int (fun _ _ => rfl)) pe_int) (pg_sub (pv 0) pe_int set_list)) (pss_cons (ps_set (i := 3) sc_l_dip.nd rfl (Or.inl rfl) (pe_ix ix_list (pe_lst (pa_cons pe_int (pa_cons pe_int (pa_cons pe_int (pa_cons pe_int (pa_cons pe_int pa_nil)))))) (pe_op op_mod (pe_ix ix_list (pv 0) pe_int (fun _ _ => rfl)) pe_int) (fun _ _ => rfl))) (pss_cons (ps_set (i := 4) sc_l_dip.nd rfl (Or.inl rfl) (pe_op op_mod (pe_op op_powW (pe_op op_add (pe_op op_add (pe_ix ix_list (pv 0) pe_int (fun _ _ => rfl)) (pe_op op_mulX (pe_op op_mulX pe_int (pe_ix ix_list (pv 0) pe_int (fun _ _ => rfl))) (pe_ix ix_list (pv 0) pe_int (fun _ _ => rfl)))) pe_int) pe_int) (pv 3))) (pss_one (ps_ret (pe_op op_mod (pe_op op_fdivW (pe_op op_mod (pe_op op_mulX (pv 4) (pe_op op_add (pe_op op_mod (pv 4) pe_int) (pe_op op_mulX pe_int (pe_ix ix_list (pv 0) pe_int (fun _ _ => rfl))))) pe_int) pe_int) (pv 1)))))))), ?_⟩
  obtain ⟨⟨c, k, v_many⟩, r, W, h, hcore, har, hrt⟩ := h
  refine body hcore har (Nat.le_of_ble_eq_true rfl) ?_
  clear hcore har
  change m_l_dip k v_many = some r at h
  unfold m_l_dip at h
  change NxT _ _ [some (sRef c), some (rInt.at v_many), none, none, none] _ [(c, cCup k)]
  replace h := bindE h
  obtain ⟨t1, ht1, h⟩ := h
  refine s_seq (s_if (t_test (e_opB0 (g := fun i j => decide (j < i)) (e_ixC 0 (e_var (sl := (sRef c)) rfl fun _ => (e_int ⟨_, _, rInt, _, _, _, rfl, rfl, rfl, ht1, ⟨_, rfl, (e_int ⟨_, rfl, ⟨_, rfl, ⟨fun hc => ?_, fun hc => ?_⟩⟩⟩)⟩⟩))))))
  · replace h := condT hc h
    replace h := bindE h
    obtain ⟨t2, ht2, h⟩ := h
    replace h := bindE h
    obtain ⟨t3, ht3, h⟩ := h
    refine s_seq (s_set (e_opO oMod_ok (e_ixC 0 (e_var (sl := (sRef c)) rfl fun _ => (e_int ⟨_, _, rInt, _, _, _, rfl, rfl, rfl, ht2, ⟨_, rfl, (e_var (sl := (rInt.at v_many)) rfl ⟨_, _, rfl, ht3, ?_⟩)⟩⟩)))))
    change NxT _ _ [some (sRef c), some (rInt.at v_many), some (rInt.at t3), none, none] _ [(c, cCup k)]
    replace h := bindE h
    obtain ⟨t4, ht4, h⟩ := h
    replace h := bindE h
    obtain ⟨t5, ht5, h⟩ := h
    refine s_seq (s_setitem 0 (e_opO oDiv_ok (e_ixC 0 (e_var (sl := (sRef c)) rfl fun _ => (e_int ⟨_, _, rInt, _, _, _, rfl, rfl, rfl, ht4, ⟨_, rfl, (e_var (sl := (rInt.at v_many)) rfl ⟨_, _, rfl, ht5, fun _ => (e_var (sl := (sRef c)) rfl fun _ => (e_int ⟨_, _, rInt, _, _, _, _, rfl, rfl, rfl, rfl, rfl, ?_⟩))⟩)⟩⟩)))))
    change NxT _ _ [some (sRef c), some (rInt.at v_many), some (rInt.at t3), none, none] _ [(c, cCup (t5, k.2.1, k.2.2))]
    replace h := pureE h
    subst h
    refine s_ret (e_var (sl := (rInt.at t3)) rfl ?_)
    exact Rt.drop hrt (.cons₂ _ .slnil)
  · replace h := condF hc h
    refine s_next ?_
    replace h := bindE h
    obtain ⟨t6, ht6, h⟩ := h
    refine s_seq (s_setitem 0 (e_opI0 (g := fun i j => i + j) (e_ixC 0 (e_var (sl := (sRef c)) rfl fun _ => (e_int ⟨_, _, rInt, _, _, _, rfl, rfl, rfl, ht6, ⟨_, rfl, (e_int ⟨_, rfl, fun _ => (e_var (sl := (sRef c)) rfl fun _ => (e_int ⟨_, _, rInt, _, _, _, _, rfl, rfl, rfl, rfl, rfl, ?_⟩))⟩)⟩⟩)))))
    change NxT _ _ [some (sRef c), some (rInt.at v_many), none, none, none] _ [(c, cCup (k.1, k.2.1, (t6 + (1 : Int))))]
    replace h := bindE h
    obtain ⟨t7, ht7, h⟩ := h
    replace h := bindE h
    obtain ⟨t8, ht8, h⟩ := h
    replace h := bindE h
    obtain ⟨t9, ht9, h⟩ := h
    refine s_seq (s_set (e_ixL (e_lst (ea_cons (e_int fun _ => (ea_cons (e_int fun _ => (ea_cons (e_int fun _ => (ea_cons (e_int fun _ => (ea_cons (e_int fun _ => (ea_nil ⟨_, rInt, ([(2147483647 : Int), (2147483629 : Int), (2147483587 : Int), (2147483579 : Int), (2147483563 : Int)] : List Int), rfl, Nat.le_of_ble_eq_true rfl, fun _ => (e_opO oMod_ok (e_ixC 0 (e_var (sl := (sRef c)) rfl fun _ => (e_int ⟨_, _, rInt, _, _, _, rfl, rfl, rfl, ht7, ⟨_, rfl, (e_int ⟨_, _, rfl, ht8, ⟨_, rInt, _, _, _, rfl, rfl, ht9, ?_⟩⟩)⟩⟩))))⟩))))))))))))))
    change NxT _ _ [some (sRef c), some (rInt.at v_many), none, some (rInt.at t9), none] _ [(c, cCup (k.1, k.2.1, (t6 + (1 : Int))))]
    replace h := bindE h
    obtain ⟨t10, ht10, h⟩ := h
    replace h := bindE h
    obtain ⟨t11, ht11, h⟩ := h
    replace h := bindE h
    obtain ⟨t12, ht12, h⟩ := h
    replace h := bindE h
    obtain ⟨t13, ht13, h⟩ := h
    replace h := bindE h
    obtain ⟨t14, ht14, h⟩ := h
    replace h := bindE h
    obtain ⟨t15, ht15, h⟩ := h
    replace h := bindE h
    obtain ⟨t16, ht16, h⟩ := h
    refine s_seq (s_set (e_opO oMod_ok (e_opO oPow_ok (e_opI0 (g := fun i j => i + j) (e_opI0 (g := fun i j => i + j) (e_ixC 0 (e_var (sl := (sRef c)) rfl fun _ => (e_int ⟨_, _, rInt, _, _, _, rfl, rfl, rfl, ht10, ⟨_, rfl, (e_opO oMul_ok (e_opO oMul_ok (e_int ⟨_, rfl, (e_ixC 0 (e_var (sl := (sRef c)) rfl fun _ => (e_int ⟨_, _, rInt, _, _, _, rfl, rfl, rfl, ht11, ⟨_, _, rfl, ht12, ⟨_, rfl, (e_ixC 0 (e_var (sl := (sRef c)) rfl fun _ => (e_int ⟨_, _, rInt, _, _, _, rfl, rfl, rfl, ht13, ⟨_, _, rfl, ht14, ⟨_, rfl, ⟨_, rfl, (e_int ⟨_, rfl, ⟨_, rfl, (e_int ⟨_, _, rfl, ht15, ⟨_, rfl, (e_var (sl := (rInt.at t9)) rfl ⟨_, _, rfl, ht16, ?_⟩)⟩⟩)⟩⟩)⟩⟩⟩⟩)))⟩⟩⟩)))⟩)))⟩⟩))))))))
    change NxT _ _ [some (sRef c), some (rInt.at v_many), none, some (rInt.at t9), some (rInt.at t16)] _ [(c, cCup (k.1, k.2.1, (t6 + (1 : Int))))]
    replace h := bindE h
    obtain ⟨t17, ht17, h⟩ := h
    replace h := bindE h
    obtain ⟨t18, ht18, h⟩ := h
    replace h := bindE h
    obtain ⟨t19, ht19, h⟩ := h
    replace h := bindE h
    obtain ⟨t20, ht20, h⟩ := h
    replace h := bindE h
    obtain ⟨t21, ht21, h⟩ := h
    replace h := bindE h
    obtain ⟨t22, ht22, h⟩ := h
    replace h := bindE h
    obtain ⟨t23, ht23, h⟩ := h
    replace h := pureE h
    subst h
    refine s_ret (e_opO oMod_ok (e_opO oDiv_ok (e_opO oMod_ok (e_opO oMul_ok (e_var (sl := (rInt.at t16)) rfl ⟨_, rfl, (e_opI0 (g := fun i j => i + j) (e_opO oMod_ok (e_var (sl := (rInt.at t16)) rfl ⟨_, rfl, (e_int ⟨_, _, rfl, ht17, ⟨_, rfl, (e_opO oMul_ok (e_int ⟨_, rfl, (e_ixC 0 (e_var (sl := (sRef c)) rfl fun _ => (e_int ⟨_, _, rInt, _, _, _, rfl, rfl, rfl, ht18, ⟨_, _, rfl, ht19, ⟨_, rfl, ⟨_, _, rfl, ht20, ⟨_, rfl, (e_int ⟨_, _, rfl, ht21, ⟨_, rfl, (e_int ⟨_, _, rfl, ht22, ⟨_, rfl, (e_var (sl := (rInt.at v_many)) rfl ⟨_, _, rfl, ht23, ?_⟩)⟩⟩)⟩⟩)⟩⟩⟩⟩⟩)))⟩))⟩⟩)⟩)))⟩)))))
    exact Rt.drop hrt (.cons₂ _ .slnil)
def m_l_numbers (k : Cup) (v_count : Int) (v_bits : Int) : Option ((List Int) × Cup) :=
  bind (m_l_dip k (4 : Int)) fun r1 =>
  bind (oRange 0 v_count) fun t2 =>
  bind (foldO (fun (b4 : (Cup × (List Int))) (x3 : Int) => (((bind (oShl (1 : Int) v_bits) fun t5 => (bind (m_l_dip b4.1 t5) fun r6 => (bind (((bif (decide (r1.1 = (0 : Int))) then ((bind (oShl (1 : Int) v_bits) fun t10 => (bind (oMod x3 t10) fun t11 => pure (t11)))) else (pure (r6.1))) : Option (Int))) fun j9 => (bind (((bif ((decide (r1.1 = (1 : Int))) && (!(decide (b4.2 = ([] : List Int))))) then ((bind (atI b4.2 (-(1 : Int))) fun t18 => (bind (m_l_dip r6.2 (max (1 : Int) v_bits)) fun r19 => (bind (oShl (1 : Int) r19.1) fun t20 => (bind (oShl (1 : Int) v_bits) fun t21 => (bind (oMod (Builtin.bitXor t18 t20) t21) fun t22 => pure (t22, r19.2))))))) else (pure (j9, r6.2))) : Option (Int × Cup))) fun j17 => (bind (oApp b4.2 j17.1) fun l23 => pure (j17.2, l23))))))) : Option (Cup × (List Int)))) t2 (r1.2, ([] : List Int))) fun o24 =>
  pure (o24.2, o24.1)
abbrev sp_l_numbers (K : PySem.W.Frag) : Sp := spM (ι := Addr × Cup × Int × Int) (β := ((List Int) × Cup)) (fun i => [sRef i.1, rInt.at i.2.2.1, rInt.at i.2.2.2]) (fun i => [(i.1, cCup i.2.1)]) (fun i => m_l_numbers i.2.1 i.2.2.1 i.2.2.2) (fun i b => (rTup rInt).at b.1) (fun i b => [(i.1, cCup b.2)])
abbrev N_l_numbers : List Str := ["_law_cup_here", "_law_count", "_law_bits", "_law_way", "_law_found", "_law_kind", "_law_number"]
theorem sc_l_numbers : FnScope N_l_numbers ["_law_cup_here", "_law_count", "_law_bits"] (defScope s_l_numbers) := ⟨rfl, rfl, rfl, by decide +kernel, rfl, by decide +kernel, by decide +kernel⟩
theorem ok_l_numbers {P : Program} {w : World} {K : PySem.W.Frag} {mg : Str → Option Value} {base : Heap} (X : Tx K mg) (G_l_dip : FnOk P w K mg base CX0 1 X.f_l_dip X.d_l_dip ["_law_cup_here", "_law_many"] (sp_l_dip K)) : FnOk P w K mg base CX0 2 X.f_l_numbers X.d_l_numbers ["_law_cup_here", "_law_count", "_law_bits"] (sp_l_numbers K) := by
  refine X.F_l_numbers.ok sc_l_numbers (fun vs H Q E h => spM_len h fun _ => rfl) (fun cdv A outer s H vs Q E hr h => ?_)
  refine ⟨(tSeq (tPar 3 4 (tCons (tCall (sp_l_dip K) [] E0 (tCons (tVar 0) (tCons (tC (.int 4)) tNil))) (tCons (tLst tNil) tNil))) (tSeq (tFor (iRng1 (tCons (tVar 1) tNil)) (gName 5) (tSeq (tAsg (tCall (sp_l_dip K) [] E0 (tCons (tVar 0) (tCons (tOp rdShl (tC (.int 1)) (tVar 2)) tNil))) (gName 6)) (tSeq (tIfS (tTest (tOp rEq (tVar 3) (tC (.int 0)))) (tAsg (tOp rdMod (tVar 5) (tOp rdShl (tC (.int 1)) (tVar 2))) (gName 6)) tNext) (tSeq (tIfS (tAnd (tTest (tOp rEq (tVar 3) (tC (.int 1)))) (tTest (tOp (rNeD K) (tVar 4) (tLst tNil)))) (tAsg (tOp rdMod (tOp rdXor (tOp (rIxL K) (tVar 4) (tUn rdNeg (tC (.int 1)))) (tOp rdShl (tC (.int 1)) (tCall (sp_l_dip K) [] E0 (tCons (tVar 0) (tCons (tCB rdMax2 (tCons (tC (.int 1)) (tCons (tVar 2) tNil))) tNil))))) (tOp rdShl (tC (.int 1)) (tVar 2))) (gName 6)) tNext) (tDrop (tBM K "list" rAppend (tVar 4) (tCons (tVar 6) tNil))))))) (tRet (tCB (rdTupleOf K) (tCons (tVar 4) tNil))))), (pss_cons (ps_par rfl sc_l_numbers.nd rfl rfl (by decide) rfl rfl (pa_cons (pe_call (G_l_dip) (hr.mono (by decide)) (by rfl) X.g_l_dip X.F_l_dip.kp X.b_l_dip .nil pass0 (pa_cons (pv 0) (pa_cons pe_int pa_nil))) (pa_cons (pe_lst pa_nil) pa_nil)) (by rfl)) (pss_cons (ps_for PassesOwn.never rfl (pi_range1 (by rfl) X.z_range (pa_cons (pv 1) pa_nil)) (pg_name (i := 5) sc_l_numbers.nd rfl (Or.inl rfl)) (pss_cons (ps_set (i := 6) sc_l_numbers.nd rfl (Or.inl rfl) (pe_call (G_l_dip) (hr.mono (by decide)) (by rfl) X.g_l_dip X.F_l_dip.kp X.b_l_dip .nil pass0 (pa_cons (pv 0) (pa_cons (pe_op op_shlW pe_int (pv 2)) pa_nil)))) (pss_cons (ps_if (pt_cmpR op_eq (pv 3) pe_int (nomark _)) (pss_one (ps_set (i := 6) sc_l_numbers.nd rfl (Or.inl rfl) (pe_op op_mod (pv 5) (pe_op op_shlW pe_int (pv 2))))) pss_nil) (pss_cons (ps_if (PW.pt (pw_and (pt_cmpR op_eq (pv 3) pe_int (nomark _)) (pw_and1 (pt_cmpR (op_neD hr.units) (pv 4) (pe_lst pa_nil) (nomark _))))) (pss_one (ps_set (i := 6) sc_l_numbers.nd rfl (Or.inl rfl) (pe_op op_mod (pe_op op_xor (pe_ix ix_list (pv 4) (pe_un un_neg pe_int) (fun _ _ => rfl)) (pe_op op_shlW pe_int (pe_call (G_l_dip) (hr.mono (by decide)) (by rfl) X.g_l_dip X.F_l_dip.kp X.b_l_dip .nil pass0 (pa_cons (pv 0) (pa_cons (pe_callB (call_max2 rfl) (by rfl) X.z_max bt_max (pa_cons pe_int (pa_cons (pv 2) pa_nil))) pa_nil))))) (pe_op op_shlW pe_int (pv 2))))) pss_nil) (pss_one (ps_expr (pe_bm PySem.F.plainAttrs_list PySem.F.slot_list_append PySem.F.type_list_append mt_append (pv 4) (pa_cons (pv 6) pa_nil)))))))) (pss_one (ps_ret (pe_callTy call_tuple_of (by rfl) X.z_tuple bt_tuple (pa_cons (pv 4) pa_nil)))))), ?_⟩
  obtain ⟨⟨c, k, v_count, v_bits⟩, r, W, h, hcore, har, hrt⟩ := h
  refine body hcore har (Nat.le_of_ble_eq_true rfl) ?_
  clear hcore har
  change m_l_numbers k v_count v_bits = some r at h
  unfold m_l_numbers at h
  change NxT _ _ [some (sRef c), some (rInt.at v_count), some (rInt.at v_bits), none, none, none, none] _ [(c, cCup k)]
  replace h := bindE h
  obtain ⟨r1, hr1, h⟩ := h
  refine s_seq (s_par (ea_cons (e_call (ea_cons (e_var (sl := (sRef c)) rfl fun _ => (ea_cons (e_int fun _ => (ea_nil ⟨(c, k, (4 : Int)), r1, [], hr1, rfl, rfl, fun _ => (ea_cons (e_lstC (ea_nil ⟨_, rInt, ([] : List Int), rfl, Nat.le_of_ble_eq_true rfl, fun p__law_found => fun _ => (ea_nil ⟨_, _, rfl, ?_⟩)⟩)))⟩))))))))
  change NxT _ _ [some (sRef c), some (rInt.at v_count), some (rInt.at v_bits), some (rInt.at r1.1), some (sRef p__law_found), none, none] _ [(c, cCup r1.2), (p__law_found, cLst rInt ([] : List Int))]
  replace h := bindE h
  obtain ⟨t2, ht2, h⟩ := h
  replace h := bindE h
  obtain ⟨o24, ho24, h⟩ := h
  refine s_seq (fold_sound (is := [5]) (i_range1 (ea_cons (e_var (sl := (rInt.at v_count)) rfl fun _ => (ea_nil ⟨_, _, rfl, ht2, ⟨_, _, rInt, t2, (r1.2, ([] : List Int)), _, o24, fun (b4 : (Cup × (List Int))) => [some (sRef c), some (rInt.at v_count), some (rInt.at v_bits), some (rInt.at r1.1), some (sRef p__law_found), none, none], fun (b4 : (Cup × (List Int))) => [(c, cCup b4.1), (p__law_found, cLst rInt b4.2)], rfl, ho24, (by exact (And.intro rfl (And.intro rfl (And.intro rfl (And.intro rfl (And.intro rfl True.intro)))))), rfl, ?b25, ?_⟩⟩)))))
  case b25 =>
    clear h
    intro T1 b4 x3 b1 h N Bk hN
    refine g_name ?_
    change NxT _ _ [some (sRef c), some (rInt.at v_count), some (rInt.at v_bits), some (rInt.at r1.1), some (sRef p__law_found), some (rInt.at x3), none] _ [(c, cCup b4.1), (p__law_found, cLst rInt b4.2)]
    replace h := bindE h
    obtain ⟨t5, ht5, h⟩ := h
    replace h := bindE h
    obtain ⟨r6, hr6, h⟩ := h
    refine s_seq (s_set (e_call (ea_cons (e_var (sl := (sRef c)) rfl fun _ => (ea_cons (e_opO oShl_ok (e_int ⟨_, rfl, (e_var (sl := (rInt.at v_bits)) rfl ⟨_, _, rfl, ht5, fun _ => (ea_nil ⟨(c, b4.1, t5), r6, [(p__law_found, cLst rInt b4.2)], hr6, rfl, rfl, ?_⟩)⟩)⟩)))))))
    change NxT _ _ [some (sRef c), some (rInt.at v_count), some (rInt.at v_bits), some (rInt.at r1.1), some (sRef p__law_found), some (rInt.at x3), some (rInt.at r6.1)] _ [(c, cCup r6.2), (p__law_found, cLst rInt b4.2)]
    replace h := bindE h
    obtain ⟨j9, hj9, h⟩ := h
    refine s_seq (s_ifJ [some (sRef c), some (rInt.at v_count), some (rInt.at v_bits), some (rInt.at r1.1), some (sRef p__law_found), some (rInt.at x3), some (rInt.at j9)] [(c, cCup r6.2), (p__law_found, cLst rInt b4.2)] (t_test (e_eqI (e_var (sl := (rInt.at r1.1)) rfl ⟨_, rfl, (e_int ⟨_, rfl, ⟨_, rfl, ⟨fun hc N hN => ?_, fun hc N hN => ?_⟩⟩⟩)⟩))) ?_)
    · clear h
      have h := condT hc hj9
      replace h := bindE h
      obtain ⟨t10, ht10, h⟩ := h
      replace h := bindE h
      obtain ⟨t11, ht11, h⟩ := h
      refine (s_set (e_opO oMod_ok (e_var (sl := (rInt.at x3)) rfl ⟨_, rfl, (e_opO oShl_ok (e_int ⟨_, rfl, (e_var (sl := (rInt.at v_bits)) rfl ⟨_, _, rfl, ht10, ⟨_, _, rfl, ht11, ?_⟩⟩)⟩))⟩)))
      change NxT _ _ [some (sRef c), some (rInt.at v_count), some (rInt.at v_bits), some (rInt.at r1.1), some (sRef p__law_found), some (rInt.at x3), some (rInt.at t11)] _ [(c, cCup r6.2), (p__law_found, cLst rInt b4.2)]
      replace h := pureE h
      subst h
      exact s_weak (by exact (And.intro rfl (And.intro rfl (And.intro rfl (And.intro rfl (And.intro rfl (And.intro rfl (And.intro rfl True.intro)))))))) (.cons₂ _ (.cons₂ _ .slnil)) hN
    · clear h
      have h := condF hc hj9
      refine s_next ?_
      replace h := pureE h
      subst h
      exact s_weak (by exact (And.intro rfl (And.intro rfl (And.intro rfl (And.intro rfl (And.intro rfl (And.intro rfl (And.intro rfl True.intro)))))))) (.cons₂ _ (.cons₂ _ .slnil)) hN
    change NxT _ _ [some (sRef c), some (rInt.at v_count), some (rInt.at v_bits), some (rInt.at r1.1), some (sRef p__law_found), some (rInt.at x3), some (rInt.at j9)] _ [(c, cCup r6.2), (p__law_found, cLst rInt b4.2)]
    replace h := bindE h
    obtain ⟨j17, hj17, h⟩ := h
    refine s_seq (s_ifJ [some (sRef c), some (rInt.at v_count), some (rInt.at v_bits), some (rInt.at r1.1), some (sRef p__law_found), some (rInt.at x3), some (rInt.at j17.1)] [(c, cCup j17.2), (p__law_found, cLst rInt b4.2)] (t_and (c := (decide (r1.1 = (1 : Int)))) (d := ((decide (r1.1 = (1 : Int))) && (!(decide (b4.2 = ([] : List Int)))))) (t_test (e_eqI (e_var (sl := (rInt.at r1.1)) rfl ⟨_, rfl, (e_int ⟨_, rfl, ⟨_, rfl, ⟨rfl, fun hc => (t_test (e_neC 1 (e_var (sl := (sRef p__law_found)) rfl fun _ => (e_lst (ea_nil ⟨_, rInt, ([] : List Int), rfl, Nat.le_of_ble_eq_true rfl, ⟨_, inferInstance, _, eInt, _, _, _, by decide, rfl, rfl, rfl, ⟨_, rfl, ⟨(andT hc).symm, rfl⟩⟩⟩⟩))))), fun hc => ⟨andF hc, rfl⟩⟩⟩⟩)⟩))) ⟨fun hc N hN => ?_, fun hc N hN => ?_⟩) ?_)
    · clear h
      have h := condT hc hj17
      replace h := bindE h
      obtain ⟨t18, ht18, h⟩ := h
      replace h := bindE h
      obtain ⟨r19, hr19, h⟩ := h
      replace h := bindE h
      obtain ⟨t20, ht20, h⟩ := h
      replace h := bindE h
      obtain ⟨t21, ht21, h⟩ := h
      replace h := bindE h
      obtain ⟨t22, ht22, h⟩ := h
      refine (s_set (e_opO oMod_ok (e_opI0 (g := Builtin.bitXor) (e_ixC 1 (e_var (sl := (sRef p__law_found)) rfl fun _ => (e_un (g := fun i => -i) (e_int ⟨_, rfl, ⟨_, _, rInt, _, _, _, rfl, rfl, rfl, ht18, ⟨_, rfl, (e_opO oShl_ok (e_int ⟨_, rfl, (e_call (ea_cons (e_var (sl := (sRef c)) rfl fun _ => (ea_cons (e_max2 (ea_cons (e_int fun _ => (ea_cons (e_var (sl := (rInt.at v_bits)) rfl fun _ => (ea_nil ⟨_, _, rfl, fun _ => (ea_nil ⟨(c, r6.2, (max (1 : Int) v_bits)), r19, [(p__law_found, cLst rInt b4.2)], hr19, rfl, rfl, ⟨_, _, rfl, ht20, ⟨_, rfl, ⟨_, rfl, (e_opO oShl_ok (e_int ⟨_, rfl, (e_var (sl := (rInt.at v_bits)) rfl ⟨_, _, rfl, ht21, ⟨_, _, rfl, ht22, ?_⟩⟩)⟩))⟩⟩⟩⟩)⟩))))))))))⟩))⟩⟩⟩)))))))
      change NxT _ _ [some (sRef c), some (rInt.at v_count), some (rInt.at v_bits), some (rInt.at r1.1), some (sRef p__law_found), some (rInt.at x3), some (rInt.at t22)] _ [(c, cCup r19.2), (p__law_found, cLst rInt b4.2)]
      replace h := pureE h
      subst h
      exact s_weak (by exact (And.intro rfl (And.intro rfl (And.intro rfl (And.intro rfl (And.intro rfl (And.intro rfl (And.intro rfl True.intro)))))))) (.cons₂ _ (.cons₂ _ .slnil)) hN
    · clear h
      have h := condF hc hj17
      refine s_next ?_
      replace h := pureE h
      subst h
      exact s_weak (by exact (And.intro rfl (And.intro rfl (And.intro rfl (And.intro rfl (And.intro rfl (And.intro rfl (And.intro rfl True.intro)))))))) (.cons₂ _ (.cons₂ _ .slnil)) hN
    change NxT _ _ [some (sRef c), some (rInt.at v_count), some (rInt.at v_bits), some (rInt.at r1.1), some (sRef p__law_found), some (rInt.at x3), some (rInt.at j17.1)] _ [(c, cCup j17.2), (p__law_found, cLst rInt b4.2)]
    replace h := bindE h
    obtain ⟨l23, hl23, h⟩ := h
    refine (s_drop (e_append 1 (e_var (sl := (sRef p__law_found)) rfl ⟨_, _, rInt, _, rfl, rfl, fun _ => (ea_cons (e_var (sl := (rInt.at j17.1)) rfl fun _ => (ea_nil ⟨_, _, _, rfl, rfl, hl23, ?_⟩)))⟩)))
    change NxT _ _ [some (sRef c), some (rInt.at v_count), some (rInt.at v_bits), some (rInt.at r1.1), some (sRef p__law_found), some (rInt.at x3), some (rInt.at j17.1)] _ [(c, cCup j17.2), (p__law_found, cLst rInt l23)]
    replace h := pureE h
    subst h
    exact s_weak (by exact (And.intro rfl (And.intro rfl (And.intro rfl (And.intro rfl (And.intro rfl True.intro)))))) (.cons₂ _ (.cons₂ _ .slnil)) hN
  change NxT _ _ [some (sRef c), some (rInt.at v_count), some (rInt.at v_bits), some (rInt.at r1.1), some (sRef p__law_found), none, none] _ [(c, cCup o24.1), (p__law_found, cLst rInt o24.2)]
  replace h := pureE h
  subst h
  refine s_ret (e_tupC 1 (ea_cons (e_var (sl := (sRef p__law_found)) rfl fun _ => (ea_nil ⟨_, _, rInt, _, rfl, rfl, ?_⟩))))
  exact Rt.drop hrt (.cons₂ _ (.cons _ .slnil))
def m_l_right (k : Cup) : Option (Bool × Cup) :=
  bind (m_l_dip k (12 : Int)) fun r1 =>
  bind (m_l_dip r1.2 (9 : Int)) fun r2 =>
  bind (m_l_numbers r2.2 ((1 : Int) + r1.1) r2.1) fun r3 =>
  bind (m_l_numbers r3.2 ((1 : Int) + r1.1) (1 : Int)) fun r4 =>
  bind (m_joined r3.1 r4.1 r2.1) fun r5 =>
  bind (m_without_bit r5 r2.1) fun r6 =>
  bind (((bif (!(decide (r6 = r3.1))) then (pure true) else ((bind (oRep ([(0 : Int)] : List Int) ((1 : Int) + r1.1)) fun t7 => (bind (m_joined r3.1 t7 r2.1) fun r8 => pure (!(decide (r8 = r3.1))))))) : Option Bool)) fun t9 =>
  (bif t9 then (pure (false, r4.2)) else ((bind (m_l_numbers r4.2 ((1 : Int) + r1.1) (3 : Int)) fun r11 => (bind (m_joined r5 r11.1 (r2.1 + (1 : Int))) fun r12 => (bind (m_joined r4.1 r11.1 (1 : Int)) fun r13 => (bind (m_joined r3.1 r13 r2.1) fun r14 => (bif (!(decide (r12 = r14))) then (pure (false, r11.2)) else ((bind (m_l_dip r11.2 (r2.1 + (1 : Int))) fun r15 => (bind (m_l_dip r15.2 (r2.1 + (1 : Int))) fun r16 => (bif (decide (r15.1 < r16.1)) then ((bind (m_without_bit r5 r16.1) fun r17 => (bind (m_without_bit r17 r15.1) fun r18 => (bind (m_without_bit r5 r15.1) fun r19 => (bind (m_without_bit r19 (r16.1 - (1 : Int))) fun r20 => (bif (!(decide (r20 = r18))) then (pure (false, r16.2)) else ((bind (oRep ([(0 : Int)] : List Int) ((1 : Int) + r1.1)) fun t21 => (bind (oRange 0 r2.1) fun t22 => (bind (foldO (fun (b24 : ((List Int))) (x23 : Int) => (((bind (mapO (fun (x25 : Int) => (((bind (oShr x25 x23) fun t27 => pure (some (Builtin.bitAnd t27 (1 : Int))))) : Option (Option Int))) r3.1) fun t29 => (bind (m_joined b24 t29 x23) fun r30 => pure (r30)))) : Option ((List Int)))) t22 (t21)) fun o31 => pure ((decide (o31 = r3.1)), r16.2))))))))))) else ((bind (oRep ([(0 : Int)] : List Int) ((1 : Int) + r1.1)) fun t33 => (bind (oRange 0 r2.1) fun t34 => (bind (foldO (fun (b36 : ((List Int))) (x35 : Int) => (((bind (mapO (fun (x37 : Int) => (((bind (oShr x37 x35) fun t39 => pure (some (Builtin.bitAnd t39 (1 : Int))))) : Option (Option Int))) r3.1) fun t41 => (bind (m_joined b36 t41 x35) fun r42 => pure (r42)))) : Option ((List Int)))) t34 (t33)) fun o43 => pure ((decide (o43 = r3.1)), r16.2))))))))))))))))
abbrev sp_l_right (K : PySem.W.Frag) : Sp := spM (ι := Addr × Cup) (β := (Bool × Cup)) (fun i => [sRef i.1]) (fun i => [(i.1, cCup i.2)]) (fun i => m_l_right i.2) (fun i b => rBool.at b.1) (fun i b => [(i.1, cCup b.2)])
abbrev N_l_right : List Str := ["_law_cup_here", "_law_count", "_law_bits", "_law_numbers_here", "_law_more", "_law_wide", "_law_third", "_law_low", "_law_high", "_law_ahead", "_law_built", "_law_at", "_law_number"]
theorem sc_l_right : FnScope N_l_right ["_law_cup_here"] (defScope s_l_right) := ⟨rfl, rfl, rfl, by decide +kernel, rfl, by decide +kernel, by decide +kernel⟩
theorem ok_l_right {P : Program} {w : World} {K : PySem.W.Frag} {mg : Str → Option Value} {base : Heap} (X : Tx K mg) (G_l_dip : FnOk P w K mg base CX0 1 X.f_l_dip X.d_l_dip ["_law_cup_here", "_law_many"] (sp_l_dip K)) (G_l_numbers : FnOk P w K mg base CX0 2 X.f_l_numbers X.d_l_numbers ["_law_cup_here", "_law_count", "_law_bits"] (sp_l_numbers K)) (G_joined : FnOk P w K mg base CX0 1 X.f_joined X.d_joined ["one", "other", "bits"] (sp_joined K)) (G_without_bit : FnOk P w K mg base CX0 1 X.f_without_bit X.d_without_bit ["code", "bit"] (sp_without_bit K)) : FnOk P w K mg base CX0 3 X.f_l_right X.d_l_right ["_law_cup_here"] (sp_l_right K) := by
  refine X.F_l_right.ok sc_l_right (fun vs H Q E h => spM_len h fun _ => rfl) (fun cdv A outer s H vs Q E hr h => ?_)
  refine ⟨(tSeq (tPar 1 2 (tCons (tOp rdAdd (tC (.int 1)) (tCall (sp_l_dip K) [] E0 (tCons (tVar 0) (tCons (tC (.int 12)) tNil)))) (tCons (tCall (sp_l_dip K) [] E0 (tCons (tVar 0) (tCons (tC (.int 9)) tNil))) tNil))) (tSeq (tPar 3 4 (tCons (tCall (sp_l_numbers K) [] E0 (tCons (tVar 0) (tCons (tVar 1) (tCons (tVar 2) tNil)))) (tCons (tCall (sp_l_numbers K) [] E0 (tCons (tVar 0) (tCons (tVar 1) (tCons (tC (.int 1)) tNil)))) tNil))) (tSeq (tAsg (tCall (sp_joined K) [] E0 (tCons (tVar 3) (tCons (tVar 4) (tCons (tVar 2) tNil)))) (gName 5)) (tSeq (tIfS (tOr (tTest (tOp (rNeD K) (tCall (sp_without_bit K) [] E0 (tCons (tVar 5) (tCons (tVar 2) tNil))) (tVar 3))) (tTest (tOp (rNeD K) (tCall (sp_joined K) [] E0 (tCons (tVar 3) (tCons (tOp (rRepB K) (tTup (tCons (tC (.int 0)) tNil)) (tVar 1)) (tCons (tVar 2) tNil)))) (tVar 3)))) (tRet (tC (.bl false))) tNext) (tSeq (tAsg (tCall (sp_l_numbers K) [] E0 (tCons (tVar 0) (tCons (tVar 1) (tCons (tC (.int 3)) tNil)))) (gName 6)) (tSeq (tIfS (tTest (tOp (rNeD K) (tCall (sp_joined K) [] E0 (tCons (tVar 5) (tCons (tVar 6) (tCons (tOp rdAdd (tVar 2) (tC (.int 1))) tNil)))) (tCall (sp_joined K) [] E0 (tCons (tVar 3) (tCons (tCall (sp_joined K) [] E0 (tCons (tVar 4) (tCons (tVar 6) (tCons (tC (.int 1)) tNil)))) (tCons (tVar 2) tNil)))))) (tRet (tC (.bl false))) tNext) (tSeq (tPar 7 8 (tCons (tCall (sp_l_dip K) [] E0 (tCons (tVar 0) (tCons (tOp rdAdd (tVar 2) (tC (.int 1))) tNil))) (tCons (tCall (sp_l_dip K) [] E0 (tCons (tVar 0) (tCons (tOp rdAdd (tVar 2) (tC (.int 1))) tNil))) tNil))) (tSeq (tIfS (tTest (tOp rdLt (tVar 7) (tVar 8))) (tSeq (tAsg (tCall (sp_without_bit K) [] E0 (tCons (tCall (sp_without_bit K) [] E0 (tCons (tVar 5) (tCons (tVar 8) tNil))) (tCons (tVar 7) tNil))) (gName 9)) (tIfS (tTest (tOp (rNeD K) (tCall (sp_without_bit K) [] E0 (tCons (tCall (sp_without_bit K) [] E0 (tCons (tVar 5) (tCons (tVar 7) tNil))) (tCons (tOp rdSub (tVar 8) (tC (.int 1))) tNil))) (tVar 9))) (tRet (tC (.bl false))) tNext)) tNext) (tSeq (tAsg (tOp (rRepB K) (tTup (tCons (tC (.int 0)) tNil)) (tVar 1)) (gName 10)) (tSeq (tFor (iRng1 (tCons (tVar 2) tNil)) (gName 11) (tAsg (tCall (sp_joined K) [] E0 (tCons (tVar 10) (tCons (tCB (rdTupleOf K) (tCons (tLc (iTup K (tVar 3)) (gName 12) tYes (tOp rdAnd (tOp rdShr (tVar 12) (tVar 11)) (tC (.int 1))) [12]) tNil)) (tCons (tVar 11) tNil)))) (gName 10))) (tRet (tOp (rEqD K) (tVar 10) (tVar 3))))))))))))), (pss_cons (ps_par rfl sc_l_right.nd rfl rfl (by decide) rfl rfl (pa_cons (pe_op op_add pe_int (pe_call (G_l_dip) (hr.mono (by decide)) (by rfl) X.g_l_dip X.F_l_dip.kp X.b_l_dip .nil pass0 (pa_cons (pv 0) (pa_cons pe_int pa_nil)))) (pa_cons (pe_call (G_l_dip) (hr.mono (by decide)) (by rfl) X.g_l_dip X.F_l_dip.kp X.b_l_dip .nil pass0 (pa_cons (pv 0) (pa_cons pe_int pa_nil))) pa_nil)) (by rfl)) (pss_cons (ps_par rfl sc_l_right.nd rfl rfl (by decide) rfl rfl (pa_cons (pe_call (G_l_numbers) (hr.mono (by decide)) (by rfl) X.g_l_numbers X.F_l_numbers.kp X.b_l_numbers .nil pass0 (pa_cons (pv 0) (pa_cons (pv 1) (pa_cons (pv 2) pa_nil)))) (pa_cons (pe_call (G_l_numbers) (hr.mono (by decide)) (by rfl) X.g_l_numbers X.F_l_numbers.kp X.b_l_numbers .nil pass0 (pa_cons (pv 0) (pa_cons (pv 1) (pa_cons pe_int pa_nil)))) pa_nil)) (by rfl)) (pss_cons (ps_set (i := 5) sc_l_right.nd rfl (Or.inl rfl) (pe_call (G_joined) (hr.mono (by decide)) (by rfl) X.g_joined X.F_joined.kp X.b_joined .nil pass0 (pa_cons (pv 3) (pa_cons (pv 4) (pa_cons (pv 2) pa_nil))))) (pss_cons (ps_if (PW.pt (pw_or (pt_cmpR (op_neD hr.units) (pe_call (G_without_bit) (hr.mono (by decide)) (by rfl) X.g_without_bit X.F_without_bit.kp X.b_without_bit .nil pass0 (pa_cons (pv 5) (pa_cons (pv 2) pa_nil))) (pv 3) (nomark _)) (pw_or1 (pt_cmpR (op_neD hr.units) (pe_call (G_joined) (hr.mono (by decide)) (by rfl) X.g_joined X.F_joined.kp X.b_joined .nil pass0 (pa_cons (pv 3) (pa_cons (pe_op op_repB (pe_tup (pa_cons pe_int pa_nil)) (pv 1)) (pa_cons (pv 2) pa_nil)))) (pv 3) (nomark _))))) (pss_one (ps_ret pe_bl)) pss_nil) (pss_cons (ps_set (i := 6) sc_l_right.nd rfl (Or.inl rfl) (pe_call (G_l_numbers) (hr.mono (by decide)) (by rfl) X.g_l_numbers X.F_l_numbers.kp X.b_l_numbers .nil pass0 (pa_cons (pv 0) (pa_cons (pv 1) (pa_cons pe_int pa_nil))))) (pss_cons (ps_if (pt_cmpR (op_neD hr.units) (pe_call (G_joined) (hr.mono (by decide)) (by rfl) X.g_joined X.F_joined.kp X.b_joined .nil pass0 (pa_cons (pv 5) (pa_cons (pv 6) (pa_cons (pe_op op_add (pv 2) pe_int) pa_nil)))) (pe_call (G_joined) (hr.mono (by decide)) (by rfl) X.g_joined X.F_joined.kp X.b_joined .nil pass0 (pa_cons (pv 3) (pa_cons (pe_call (G_joined) (hr.mono (by decide)) (by rfl) X.g_joined X.F_joined.kp X.b_joined .nil pass0 (pa_cons (pv 4) (pa_cons (pv 6) (pa_cons pe_int pa_nil)))) (pa_cons (pv 2) pa_nil)))) (nomark _)) (pss_one (ps_ret pe_bl)) pss_nil) (pss_cons (ps_par rfl sc_l_right.nd rfl rfl (by decide) rfl rfl (pa_cons (pe_call (G_l_dip) (hr.mono (by decide)) (by rfl) X.g_l_dip X.F_l_dip.kp X.b_l_dip .nil pass0 (pa_cons (pv 0) (pa_cons (pe_op op_add (pv 2) pe_int) pa_nil))) (pa_cons (pe_call (G_l_dip) (hr.mono (by decide)) (by rfl) X.g_l_dip X.F_l_dip.kp X.b_l_dip .nil pass0 (pa_cons (pv 0) (pa_cons (pe_op op_add (pv 2) pe_int) pa_nil))) pa_nil)) (by rfl)) (pss_cons (ps_if (pt_cmpR op_lt (pv 7) (pv 8) (nomark _)) (pss_cons (ps_set (i := 9) sc_l_right.nd rfl (Or.inl rfl) (pe_call (G_without_bit) (hr.mono (by decide)) (by rfl) X.g_without_bit X.F_without_bit.kp X.b_without_bit .nil pass0 (pa_cons (pe_call (G_without_bit) (hr.mono (by decide)) (by rfl) X.g_without_bit X.F_without_bit.kp X.b_without_bit .nil pass0 (pa_cons (pv 5) (pa_cons (pv 8) pa_nil))) (pa_cons (pv 7) pa_nil)))) (pss_one (ps_if (pt_cmpR (op_neD hr.units) (pe_call (G_without_bit) (hr.mono (by decide)) (by rfl) X.g_without_bit X.F_without_bit.kp X.b_without_bit .nil pass0 (pa_cons (pe_call (G_without_bit) (hr.mono (by decide)) (by rfl) X.g_without_bit X.F_without_bit.kp X.b_without_bit .nil pass0 (pa_cons (pv 5) (pa_cons (pv 7) pa_nil))) (pa_cons (pe_op op_sub (pv 8) pe_int) pa_nil))) (pv 9) (nomark _)) (pss_one (ps_ret pe_bl)) pss_nil))) pss_nil) (pss_cons (ps_set (i := 10) sc_l_right.nd rfl (Or.inl rfl) (pe_op op_repB (pe_tup (pa_cons pe_int pa_nil)) (pv 1))) (pss_cons (ps_for PassesOwn.never rfl (pi_range1 (by rfl) X.z_range (pa_cons (pv 2) pa_nil)) (pg_name (i := 11) sc_l_right.nd rfl (Or.inr rfl)) (pss_one (ps_set (i := 10) sc_l_right.nd rfl (Or.inl rfl) (pe_call (G_joined) (hr.mono (by decide)) (by rfl) X.g_joined X.F_joined.kp X.b_joined .nil pass0 (pa_cons (pv 10) (pa_cons (pe_callTy call_tuple_of (by rfl) X.z_tuple bt_tuple (pa_cons (pe_lc (own := [("_law_number", 12)]) (g := (gName 12)) (tt := tYes) (te := (tOp rdAnd (tOp rdShr (tVar 12) (tVar 11)) (tC (.int 1)))) rfl sc_l_right.nd (pi_tup (pv 3)) (blkOk_by (N := N_l_right) (sc := (defScope s_l_right)) (by decide +kernel)) (fun _ _ _ _ _ => (pg_name (i := 12) sc_l_right.nd rfl (Or.inl rfl))) (fun _ _ _ _ _ => pts_nil) (fun _ _ _ _ _ => (pe_op op_and (pe_op op_shr (pv 12) (pv 11)) pe_int))) pa_nil)) (pa_cons (pv 11) pa_nil))))))) (pss_one (ps_ret (pe_cmpR (op_eqD hr.units) (pv 10) (pv 3) (nomark _)))))))))))))), ?_⟩
  obtain ⟨⟨c, k⟩, r, W, h, hcore, har, hrt⟩ := h
  refine body hcore har (Nat.le_of_ble_eq_true rfl) ?_
  clear hcore har
  change m_l_right k = some r at h
  unfold m_l_right at h
  change NxT _ _ [some (sRef c), none, none, none, none, none, none, none, none, none, none, none, none] _ [(c, cCup k)]
  replace h := bindE h
  obtain ⟨r1, hr1, h⟩ := h
  replace h := bindE h
  obtain ⟨r2, hr2, h⟩ := h
  refine s_seq (s_par (ea_cons (e_opI0 (g := fun i j => i + j) (e_int ⟨_, rfl, (e_call (ea_cons (e_var (sl := (sRef c)) rfl fun _ => (ea_cons (e_int fun _ => (ea_nil ⟨(c, k, (12 : Int)), r1, [], hr1, rfl, rfl, ⟨_, rfl, fun _ => (ea_cons (e_call (ea_cons (e_var (sl := (sRef c)) rfl fun _ => (ea_cons (e_int fun _ => (ea_nil ⟨(c, r1.2, (9 : Int)), r2, [], hr2, rfl, rfl, fun _ => (ea_nil ⟨_, _, rfl, ?_⟩)⟩)))))))⟩⟩))))))⟩))))
  change NxT _ _ [some (sRef c), some (rInt.at ((1 : Int) + r1.1)), some (rInt.at r2.1), none, none, none, none, none, none, none, none, none, none] _ [(c, cCup r2.2)]
  replace h := bindE h
  obtain ⟨r3, hr3, h⟩ := h
  replace h := bindE h
  obtain ⟨r4, hr4, h⟩ := h
  refine s_seq (s_par (ea_cons (e_call (ea_cons (e_var (sl := (sRef c)) rfl fun _ => (ea_cons (e_var (sl := (rInt.at ((1 : Int) + r1.1))) rfl fun _ => (ea_cons (e_var (sl := (rInt.at r2.1)) rfl fun _ => (ea_nil ⟨(c, r2.2, ((1 : Int) + r1.1), r2.1), r3, [], hr3, rfl, rfl, fun _ => (ea_cons (e_call (ea_cons (e_var (sl := (sRef c)) rfl fun _ => (ea_cons (e_var (sl := (rInt.at ((1 : Int) + r1.1))) rfl fun _ => (ea_cons (e_int fun _ => (ea_nil ⟨(c, r3.2, ((1 : Int) + r1.1), (1 : Int)), r4, [], hr4, rfl, rfl, fun _ => (ea_nil ⟨_, _, rfl, ?_⟩)⟩)))))))))⟩))))))))))
  change NxT _ _ [some (sRef c), some (rInt.at ((1 : Int) + r1.1)), some (rInt.at r2.1), some ((rTup rInt).at r3.1), some ((rTup rInt).at r4.1), none, none, none, none, none, none, none, none] _ [(c, cCup r4.2)]
  replace h := bindE h
  obtain ⟨r5, hr5, h⟩ := h
  refine s_seq (s_set (e_call (ea_cons (e_var (sl := ((rTup rInt).at r3.1)) rfl fun _ => (ea_cons (e_var (sl := ((rTup rInt).at r4.1)) rfl fun _ => (ea_cons (e_var (sl := (rInt.at r2.1)) rfl fun _ => (ea_nil ⟨(r3.1, r4.1, r2.1), r5, [(c, cCup r4.2)], hr5, rfl, rfl, ?_⟩)))))))))
  change NxT _ _ [some (sRef c), some (rInt.at ((1 : Int) + r1.1)), some (rInt.at r2.1), some ((rTup rInt).at r3.1), some ((rTup rInt).at r4.1), some ((rTup rInt).at r5), none, none, none, none, none, none, none] _ [(c, cCup r4.2)]
  replace h := bindE h
  obtain ⟨r6, hr6, h⟩ := h
  replace h := bindE h
  obtain ⟨t9, ht9, h⟩ := h
  refine s_seq (s_if (t_or (c := (!(decide (r6 = r3.1)))) (d := t9) (t_test (e_neD (e_call (ea_cons (e_var (sl := ((rTup rInt).at r5)) rfl fun _ => (ea_cons (e_var (sl := (rInt.at r2.1)) rfl fun _ => (ea_nil ⟨(r5, r2.1), r6, [(c, cCup r4.2)], hr6, rfl, rfl, fun _ => (e_var (sl := ((rTup rInt).at r3.1)) rfl ⟨_, inferInstance, _, (eTup eInt), _, _, by decide, rfl, rfl, ⟨_, rfl, ⟨rfl, ?b10, fun hc => ⟨pureE' (condT hc ht9), rfl⟩⟩⟩⟩)⟩)))))))) ⟨fun hc => ?_, fun hc => ?_⟩))
  case b10 =>
    intro hc
    have h := condF hc ht9
    replace h := bindE h
    obtain ⟨t7, ht7, h⟩ := h
    replace h := bindE h
    obtain ⟨r8, hr8, h⟩ := h
    replace h := pureE h
    subst h
    refine (t_test (e_neD (e_call (ea_cons (e_var (sl := ((rTup rInt).at r3.1)) rfl fun _ => (ea_cons (e_repT (e_tup (ea_cons (e_int fun _ => (ea_nil ⟨_, rInt, ([(0 : Int)] : List Int), rfl, Nat.le_of_ble_eq_true rfl, fun _ => (e_var (sl := (rInt.at ((1 : Int) + r1.1))) rfl ⟨_, _, _, _, _, rfl, rfl, ht7, fun _ => (ea_cons (e_var (sl := (rInt.at r2.1)) rfl fun _ => (ea_nil ⟨(r3.1, t7, r2.1), r8, [(c, cCup r4.2)], hr8, rfl, rfl, fun _ => (e_var (sl := ((rTup rInt).at r3.1)) rfl ⟨_, inferInstance, _, (eTup eInt), _, _, by decide, rfl, rfl, ⟨_, rfl, ⟨rfl, rfl⟩⟩⟩)⟩)))⟩)⟩)))))))))))
  · replace h := condT hc h
    replace h := pureE h
    subst h
    refine s_ret (e_bl ?_)
    exact Rt.drop hrt (.cons₂ _ .slnil)
  · replace h := condF hc h
    refine s_next ?_
    replace h := bindE h
    obtain ⟨r11, hr11, h⟩ := h
    refine s_seq (s_set (e_call (ea_cons (e_var (sl := (sRef c)) rfl fun _ => (ea_cons (e_var (sl := (rInt.at ((1 : Int) + r1.1))) rfl fun _ => (ea_cons (e_int fun _ => (ea_nil ⟨(c, r4.2, ((1 : Int) + r1.1), (3 : Int)), r11, [], hr11, rfl, rfl, ?_⟩)))))))))
    change NxT _ _ [some (sRef c), some (rInt.at ((1 : Int) + r1.1)), some (rInt.at r2.1), some ((rTup rInt).at r3.1), some ((rTup rInt).at r4.1), some ((rTup rInt).at r5), some ((rTup rInt).at r11.1), none, none, none, none, none, none] _ [(c, cCup r11.2)]
    replace h := bindE h
    obtain ⟨r12, hr12, h⟩ := h
    replace h := bindE h
    obtain ⟨r13, hr13, h⟩ := h
    replace h := bindE h
    obtain ⟨r14, hr14, h⟩ := h
    refine s_seq (s_if (t_test (e_neD (e_call (ea_cons (e_var (sl := ((rTup rInt).at r5)) rfl fun _ => (ea_cons (e_var (sl := ((rTup rInt).at r11.1)) rfl fun _ => (ea_cons (e_opI0 (g := fun i j => i + j) (e_var (sl := (rInt.at r2.1)) rfl ⟨_, rfl, (e_int ⟨_, rfl, fun _ => (ea_nil ⟨(r5, r11.1, (r2.1 + (1 : Int))), r12, [(c, cCup r11.2)], hr12, rfl, rfl, fun _ => (e_call (ea_cons (e_var (sl := ((rTup rInt).at r3.1)) rfl fun _ => (ea_cons (e_call (ea_cons (e_var (sl := ((rTup rInt).at r4.1)) rfl fun _ => (ea_cons (e_var (sl := ((rTup rInt).at r11.1)) rfl fun _ => (ea_cons (e_int fun _ => (ea_nil ⟨(r4.1, r11.1, (1 : Int)), r13, [(c, cCup r11.2)], hr13, rfl, rfl, fun _ => (ea_cons (e_var (sl := (rInt.at r2.1)) rfl fun _ => (ea_nil ⟨(r3.1, r13, r2.1), r14, [(c, cCup r11.2)], hr14, rfl, rfl, ⟨_, inferInstance, _, (eTup eInt), _, _, by decide, rfl, rfl, ⟨_, rfl, ⟨fun hc => ?_, fun hc => ?_⟩⟩⟩⟩)))⟩))))))))))))⟩)⟩)⟩)))))))))))
    · replace h := condT hc h
      replace h := pureE h
      subst h
      refine s_ret (e_bl ?_)
      exact Rt.drop hrt (.cons₂ _ .slnil)
    · replace h := condF hc h
      refine s_next ?_
      replace h := bindE h
      obtain ⟨r15, hr15, h⟩ := h
      replace h := bindE h
      obtain ⟨r16, hr16, h⟩ := h
      refine s_seq (s_par (ea_cons (e_call (ea_cons (e_var (sl := (sRef c)) rfl fun _ => (ea_cons (e_opI0 (g := fun i j => i + j) (e_var (sl := (rInt.at r2.1)) rfl ⟨_, rfl, (e_int ⟨_, rfl, fun _ => (ea_nil ⟨(c, r11.2, (r2.1 + (1 : Int))), r15, [], hr15, rfl, rfl, fun _ => (ea_cons (e_call (ea_cons (e_var (sl := (sRef c)) rfl fun _ => (ea_cons (e_opI0 (g := fun i j => i + j) (e_var (sl := (rInt.at r2.1)) rfl ⟨_, rfl, (e_int ⟨_, rfl, fun _ => (ea_nil ⟨(c, r15.2, (r2.1 + (1 : Int))), r16, [], hr16, rfl, rfl, fun _ => (ea_nil ⟨_, _, rfl, ?_⟩)⟩)⟩)⟩)))))))⟩)⟩)⟩))))))))
      change NxT _ _ [some (sRef c), some (rInt.at ((1 : Int) + r1.1)), some (rInt.at r2.1), some ((rTup rInt).at r3.1), some ((rTup rInt).at r4.1), some ((rTup rInt).at r5), some ((rTup rInt).at r11.1), some (rInt.at r15.1), some (rInt.at r16.1), none, none, none, none] _ [(c, cCup r16.2)]
      refine s_seq (s_if (t_test (e_opB0 (g := fun i j => decide (i < j)) (e_var (sl := (rInt.at r15.1)) rfl ⟨_, rfl, (e_var (sl := (rInt.at r16.1)) rfl ⟨_, rfl, ⟨_, rfl, ⟨fun hc => ?_, fun hc => ?_⟩⟩⟩)⟩))))
      · replace h := condT hc h
        replace h := bindE h
        obtain ⟨r17, hr17, h⟩ := h
        replace h := bindE h
        obtain ⟨r18, hr18, h⟩ := h
        refine s_seq (s_set (e_call (ea_cons (e_call (ea_cons (e_var (sl := ((rTup rInt).at r5)) rfl fun _ => (ea_cons (e_var (sl := (rInt.at r16.1)) rfl fun _ => (ea_nil ⟨(r5, r16.1), r17, [(c, cCup r16.2)], hr17, rfl, rfl, fun _ => (ea_cons (e_var (sl := (rInt.at r15.1)) rfl fun _ => (ea_nil ⟨(r17, r15.1), r18, [(c, cCup r16.2)], hr18, rfl, rfl, ?_⟩)))⟩)))))))))
        change NxT _ _ [some (sRef c), some (rInt.at ((1 : Int) + r1.1)), some (rInt.at r2.1), some ((rTup rInt).at r3.1), some ((rTup rInt).at r4.1), some ((rTup rInt).at r5), some ((rTup rInt).at r11.1), some (rInt.at r15.1), some (rInt.at r16.1), some ((rTup rInt).at r18), none, none, none] _ [(c, cCup r16.2)]
        replace h := bindE h
        obtain ⟨r19, hr19, h⟩ := h
        replace h := bindE h
        obtain ⟨r20, hr20, h⟩ := h
        refine (s_if (t_test (e_neD (e_call (ea_cons (e_call (ea_cons (e_var (sl := ((rTup rInt).at r5)) rfl fun _ => (ea_cons (e_var (sl := (rInt.at r15.1)) rfl fun _ => (ea_nil ⟨(r5, r15.1), r19, [(c, cCup r16.2)], hr19, rfl, rfl, fun _ => (ea_cons (e_opI0 (g := fun i j => i - j) (e_var (sl := (rInt.at r16.1)) rfl ⟨_, rfl, (e_int ⟨_, rfl, fun _ => (ea_nil ⟨(r19, (r16.1 - (1 : Int))), r20, [(c, cCup r16.2)], hr20, rfl, rfl, fun _ => (e_var (sl := ((rTup rInt).at r18)) rfl ⟨_, inferInstance, _, (eTup eInt), _, _, by decide, rfl, rfl, ⟨_, rfl, ⟨fun hc => ?_, fun hc => ?_⟩⟩⟩)⟩)⟩)⟩)))⟩)))))))))))
        · replace h := condT hc h
          replace h := pureE h
          subst h
          refine s_ret (e_bl ?_)
          exact Rt.drop hrt (.cons₂ _ .slnil)
        · replace h := condF hc h
          refine s_next ?_
          replace h := bindE h
          obtain ⟨t21, ht21, h⟩ := h
          refine s_seq (s_set (e_repT (e_tup (ea_cons (e_int fun _ => (ea_nil ⟨_, rInt, ([(0 : Int)] : List Int), rfl, Nat.le_of_ble_eq_true rfl, fun _ => (e_var (sl := (rInt.at ((1 : Int) + r1.1))) rfl ⟨_, _, _, _, _, rfl, rfl, ht21, ?_⟩)⟩))))))
          change NxT _ _ [some (sRef c), some (rInt.at ((1 : Int) + r1.1)), some (rInt.at r2.1), some ((rTup rInt).at r3.1), some ((rTup rInt).at r4.1), some ((rTup rInt).at r5), some ((rTup rInt).at r11.1), some (rInt.at r15.1), some (rInt.at r16.1), some ((rTup rInt).at r18), some ((rTup rInt).at t21), none, none] _ [(c, cCup r16.2)]
          replace h := bindE h
          obtain ⟨t22, ht22, h⟩ := h
          replace h := bindE h
          obtain ⟨o31, ho31, h⟩ := h
          refine s_seq (fold_sound (is := [11]) (i_range1 (ea_cons (e_var (sl := (rInt.at r2.1)) rfl fun _ => (ea_nil ⟨_, _, rfl, ht22, ⟨_, _, rInt, t22, (t21), _, o31, fun (b24 : ((List Int))) => [some (sRef c), some (rInt.at ((1 : Int) + r1.1)), some (rInt.at r2.1), some ((rTup rInt).at r3.1), some ((rTup rInt).at r4.1), some ((rTup rInt).at r5), some ((rTup rInt).at r11.1), some (rInt.at r15.1), some (rInt.at r16.1), some ((rTup rInt).at r18), some ((rTup rInt).at b24), none, none], fun (b24 : ((List Int))) => [(c, cCup r16.2)], rfl, ho31, (by exact (And.intro rfl (And.intro rfl (And.intro rfl (And.intro rfl (And.intro rfl (And.intro rfl (And.intro rfl (And.intro rfl (And.intro rfl (And.intro rfl (And.intro rfl True.intro)))))))))))), rfl, ?b32, ?_⟩⟩)))))
          case b32 =>
            clear h
            intro T1 b24 x23 b1 h N Bk hN
            refine g_name ?_
            change NxT _ _ [some (sRef c), some (rInt.at ((1 : Int) + r1.1)), some (rInt.at r2.1), some ((rTup rInt).at r3.1), some ((rTup rInt).at r4.1), some ((rTup rInt).at r5), some ((rTup rInt).at r11.1), some (rInt.at r15.1), some (rInt.at r16.1), some ((rTup rInt).at r18), some ((rTup rInt).at b24), some (rInt.at x23), none] _ [(c, cCup r16.2)]
            replace h := bindE h
            obtain ⟨t29, ht29, h⟩ := h
            replace h := bindE h
            obtain ⟨r30, hr30, h⟩ := h
            refine (s_set (e_call (ea_cons (e_var (sl := ((rTup rInt).at b24)) rfl fun _ => (ea_cons (e_tupL (ea_cons (lc_sound (is := [12]) (by decide) (i_tup (e_var (sl := ((rTup rInt).at r3.1)) rfl ⟨_, rInt, _, rfl, ⟨_, _, _, rInt, r3.1, (), _, t29, (), rInt, fun _ => [(c, cCup r16.2)], rfl, lcO_mapO _ _ _ ht29, rfl, ?b28, fun _ => (ea_nil ⟨_, rInt, _, rfl, fun _ => (ea_cons (e_var (sl := (rInt.at x23)) rfl fun _ => (ea_nil ⟨(b24, t29, x23), r30, [(c, cCup r16.2)], hr30, rfl, rfl, ?_⟩)))⟩)⟩⟩))))))))))
            case b28 =>
              intro W1 T1 k26 x25 o u1 h
              obtain ⟨h, _⟩ := mapU h
              refine g_name ?_
              replace h := bindE h
              obtain ⟨t27, ht27, h⟩ := h
              replace h := pureE h
              subst h
              refine t_yes ⟨fun _ => ?_, fun z => nomatch z⟩
              refine (e_opI0 (g := Builtin.bitAnd) (e_opO oShr_ok (e_var (sl := (rInt.at x25)) rfl ⟨_, rfl, (e_var (sl := (rInt.at x23)) rfl ⟨_, _, rfl, ht27, ⟨_, rfl, (e_int ⟨_, rfl, ⟨_, rfl, rfl, rfl⟩⟩)⟩⟩)⟩)))
            change NxT _ _ [some (sRef c), some (rInt.at ((1 : Int) + r1.1)), some (rInt.at r2.1), some ((rTup rInt).at r3.1), some ((rTup rInt).at r4.1), some ((rTup rInt).at r5), some ((rTup rInt).at r11.1), some (rInt.at r15.1), some (rInt.at r16.1), some ((rTup rInt).at r18), some ((rTup rInt).at r30), some (rInt.at x23), none] _ [(c, cCup r16.2)]
            replace h := pureE h
            subst h
            exact s_weak (by exact (And.intro rfl (And.intro rfl (And.intro rfl (And.intro rfl (And.intro rfl (And.intro rfl (And.intro rfl (And.intro rfl (And.intro rfl (And.intro rfl (And.intro rfl True.intro)))))))))))) (.cons₂ _ .slnil) hN
          change NxT _ _ [some (sRef c), some (rInt.at ((1 : Int) + r1.1)), some (rInt.at r2.1), some ((rTup rInt).at r3.1), some ((rTup rInt).at r4.1), some ((rTup rInt).at r5), some ((rTup rInt).at r11.1), some (rInt.at r15.1), some (rInt.at r16.1), some ((rTup rInt).at r18), some ((rTup rInt).at o31), none, none] _ [(c, cCup r16.2)]
          replace h := pureE h
          subst h
          refine s_ret (e_eqD (e_var (sl := ((rTup rInt).at o31)) rfl fun _ => (e_var (sl := ((rTup rInt).at r3.1)) rfl ⟨_, inferInstance, _, (eTup eInt), _, _, by decide, rfl, rfl, ?_⟩)))
          exact Rt.drop hrt (.cons₂ _ .slnil)
      · replace h := condF hc h
        refine s_next ?_
        replace h := bindE h
        obtain ⟨t33, ht33, h⟩ := h
        refine s_seq (s_set (e_repT (e_tup (ea_cons (e_int fun _ => (ea_nil ⟨_, rInt, ([(0 : Int)] : List Int), rfl, Nat.le_of_ble_eq_true rfl, fun _ => (e_var (sl := (rInt.at ((1 : Int) + r1.1))) rfl ⟨_, _, _, _, _, rfl, rfl, ht33, ?_⟩)⟩))))))
        change NxT _ _ [some (sRef c), some (rInt.at ((1 : Int) + r1.1)), some (rInt.at r2.1), some ((rTup rInt).at r3.1), some ((rTup rInt).at r4.1), some ((rTup rInt).at r5), some ((rTup rInt).at r11.1), some (rInt.at r15.1), some (rInt.at r16.1), none, some ((rTup rInt).at t33), none, none] _ [(c, cCup r16.2)]
        replace h := bindE h
        obtain ⟨t34, ht34, h⟩ := h
        replace h := bindE h
        obtain ⟨o43, ho43, h⟩ := h
        refine s_seq (fold_sound (is := [11]) (i_range1 (ea_cons (e_var (sl := (rInt.at r2.1)) rfl fun _ => (ea_nil ⟨_, _, rfl, ht34, ⟨_, _, rInt, t34, (t33), _, o43, fun (b36 : ((List Int))) => [some (sRef c), some (rInt.at ((1 : Int) + r1.1)), some (rInt.at r2.1), some ((rTup rInt).at r3.1), some ((rTup rInt).at r4.1), some ((rTup rInt).at r5), some ((rTup rInt).at r11.1), some (rInt.at r15.1), some (rInt.at r16.1), none, some ((rTup rInt).at b36), none, none], fun (b36 : ((List Int))) => [(c, cCup r16.2)], rfl, ho43, (by exact (And.intro rfl (And.intro rfl (And.intro rfl (And.intro rfl (And.intro rfl (And.intro rfl (And.intro rfl (And.intro rfl (And.intro rfl (And.intro rfl True.intro))))))))))), rfl, ?b44, ?_⟩⟩)))))
        case b44 =>
          clear h
          intro T1 b36 x35 b1 h N Bk hN
          refine g_name ?_
          change NxT _ _ [some (sRef c), some (rInt.at ((1 : Int) + r1.1)), some (rInt.at r2.1), some ((rTup rInt).at r3.1), some ((rTup rInt).at r4.1), some ((rTup rInt).at r5), some ((rTup rInt).at r11.1), some (rInt.at r15.1), some (rInt.at r16.1), none, some ((rTup rInt).at b36), some (rInt.at x35), none] _ [(c, cCup r16.2)]
          replace h := bindE h
          obtain ⟨t41, ht41, h⟩ := h
          replace h := bindE h
          obtain ⟨r42, hr42, h⟩ := h
          refine (s_set (e_call (ea_cons (e_var (sl := ((rTup rInt).at b36)) rfl fun _ => (ea_cons (e_tupL (ea_cons (lc_sound (is := [12]) (by decide) (i_tup (e_var (sl := ((rTup rInt).at r3.1)) rfl ⟨_, rInt, _, rfl, ⟨_, _, _, rInt, r3.1, (), _, t41, (), rInt, fun _ => [(c, cCup r16.2)], rfl, lcO_mapO _ _ _ ht41, rfl, ?b40, fun _ => (ea_nil ⟨_, rInt, _, rfl, fun _ => (ea_cons (e_var (sl := (rInt.at x35)) rfl fun _ => (ea_nil ⟨(b36, t41, x35), r42, [(c, cCup r16.2)], hr42, rfl, rfl, ?_⟩)))⟩)⟩⟩))))))))))
          case b40 =>
            intro W1 T1 k38 x37 o u1 h
            obtain ⟨h, _⟩ := mapU h
            refine g_name ?_
            replace h := bindE h
            obtain ⟨t39, ht39, h⟩ := h
            replace h := pureE h
            subst h
            refine t_yes ⟨fun _ => ?_, fun z => nomatch z⟩
            refine (e_opI0 (g := Builtin.bitAnd) (e_opO oShr_ok (e_var (sl := (rInt.at x37)) rfl ⟨_, rfl, (e_var (sl := (rInt.at x35)) rfl ⟨_, _, rfl, ht39, ⟨_, rfl, (e_int ⟨_, rfl, ⟨_, rfl, rfl, rfl⟩⟩)⟩⟩)⟩)))
          change NxT _ _ [some (sRef c), some (rInt.at ((1 : Int) + r1.1)), some (rInt.at r2.1), some ((rTup rInt).at r3.1), some ((rTup rInt).at r4.1), some ((rTup rInt).at r5), some ((rTup rInt).at r11.1), some (rInt.at r15.1), some (rInt.at r16.1), none, some ((rTup rInt).at r42), some (rInt.at x35), none] _ [(c, cCup r16.2)]
          replace h := pureE h
          subst h
          exact s_weak (by exact (And.intro rfl (And.intro rfl (And.intro rfl (And.intro rfl (And.intro rfl (And.intro rfl (And.intro rfl (And.intro rfl (And.intro rfl (And.intro rfl True.intro))))))))))) (.cons₂ _ .slnil) hN
        change NxT _ _ [some (sRef c), some (rInt.at ((1 : Int) + r1.1)), some (rInt.at r2.1), some ((rTup rInt).at r3.1), some ((rTup rInt).at r4.1), some ((rTup rInt).at r5), some ((rTup rInt).at r11.1), some (rInt.at r15.1), some (rInt.at r16.1), none, some ((rTup rInt).at o43), none, none] _ [(c, cCup r16.2)]
        replace h := pureE h
        subst h
        refine s_ret (e_eqD (e_var (sl := ((rTup rInt).at o43)) rfl fun _ => (e_var (sl := ((rTup rInt).at r3.1)) rfl ⟨_, inferInstance, _, (eTup eInt), _, _, by decide, rfl, rfl, ?_⟩)))
        exact Rt.drop hrt (.cons₂ _ .slnil)
def m_law (v_script : (List Int)) : Option Bool :=
  bind (oRange 0 (max (1 : Int) (min (3 : Int) (v_script.length : Int)))) fun t1 =>
  bind (loopO (fun (b3 : Unit) (x2 : Int) => (((bind (m_l_cup v_script x2) fun r4 => (bind (oRange 0 (4 : Int)) fun t6 => (bind (lcO (fun (k8 : Cup) (x7 : Int) => (((bind (m_l_right k8) fun r10 => pure (some r10.1, r10.2))) : Option (Option Bool × Cup))) t6 r4) fun t12 => (bif (!(t12.1.all id)) then (pure (Fl.ret false)) else (pure (Fl.go ()))))))) : Option (Fl Bool Unit))) t1 ()) fun o13 =>
  (match o13 with | .ret z => (pure z) | .go g15 => (pure true))
abbrev sp_law (K : PySem.W.Frag) : Sp := spM (ι := (List Int)) (β := Bool) (fun i => [(rScr K).at i]) (fun i => []) (fun i => m_law i) (fun i b => rBool.at b) (fun i b => [])
abbrev N_law : List Str := ["_law_script", "_law_k", "_law_cup_here", "_law_turn"]
theorem sc_law : FnScope N_law ["_law_script"] (defScope s_law) := ⟨rfl, rfl, rfl, by decide +kernel, rfl, by decide +kernel, by decide +kernel⟩
theorem ok_law {P : Program} {w : World} {K : PySem.W.Frag} {mg : Str → Option Value} {base : Heap} (X : Tx K mg) (G_l_cup : FnOk P w K mg base CX0 1 X.f_l_cup X.d_l_cup ["_law_script", "_law_k"] (sp_l_cup K)) (G_l_right : FnOk P w K mg base CX0 3 X.f_l_right X.d_l_right ["_law_cup_here"] (sp_l_right K)) : FnOk P w K mg base CX0 4 X.f_law X.d_law ["_law_script"] (sp_law K) := by
  refine X.F_law.ok sc_law (fun vs H Q E h => spM_len h fun _ => rfl) (fun cdv A outer s H vs Q E hr h => ?_)
  refine ⟨(tSeq (tFor (iRng1 (tCons (tCB rdMax2 (tCons (tC (.int 1)) (tCons (tCB rdMin2 (tCons (tC (.int 3)) (tCons (tCB (rdLen K) (tCons (tVar 0) tNil)) tNil))) tNil))) tNil)) (gName 1) (tSeq (tAsg (tCall (sp_l_cup K) [] E0 (tCons (tVar 0) (tCons (tVar 1) tNil))) (gName 2)) (tIfS (tNot (tB (tCB (rAll K) (tCons (tLc (iRng1 (tCons (tC (.int 4)) tNil)) (gName 3) tYes (tCall (sp_l_right K) [] E0 (tCons (tVar 2) tNil)) [3]) tNil)))) (tRet (tC (.bl false))) tNext))) (tRet (tC (.bl true)))), (pss_cons (ps_for PassesOwn.never rfl (pi_range1 (by rfl) X.z_range (pa_cons (pe_callB (call_max2 rfl) (by rfl) X.z_max bt_max (pa_cons pe_int (pa_cons (pe_callB (call_min2 rfl) (by rfl) X.z_min bt_min (pa_cons pe_int (pa_cons (pe_callB call_len_seq (by rfl) X.z_len bt_len (pa_cons (pv 0) pa_nil)) pa_nil))) pa_nil))) pa_nil)) (pg_name (i := 1) sc_law.nd rfl (Or.inl rfl)) (pss_cons (ps_set (i := 2) sc_law.nd rfl (Or.inr rfl) (pe_call (G_l_cup) (hr.mono (by decide)) (by rfl) X.g_l_cup X.F_l_cup.kp X.b_l_cup .nil pass0 (pa_cons (pv 0) (pa_cons (pv 1) pa_nil)))) (pss_one (ps_if (pt_not (pt_val (pe_callB (cr_all rfl) (by rfl) X.z_all bt_all (pa_cons (pe_lc (own := [("_law_turn", 3)]) (g := (gName 3)) (tt := tYes) (te := (tCall (sp_l_right K) [] E0 (tCons (tVar 2) tNil))) rfl sc_law.nd (pi_range1 (by rfl) X.z_range (pa_cons pe_int pa_nil)) (blkOk_by (N := N_law) (sc := (defScope s_law)) (by decide +kernel)) (fun _ _ _ _ _ => (pg_name (i := 3) sc_law.nd rfl (Or.inl rfl))) (fun _ _ _ _ _ => pts_nil) (fun _ _ _ _ _ => (pe_call (G_l_right) (hr.mono (by decide)) (by rfl) X.g_l_right X.F_l_right.kp X.b_l_right .nil pass0 (pa_cons (pv 2) pa_nil)))) pa_nil)))) (pss_one (ps_ret pe_bl)) pss_nil)))) (pss_one (ps_ret pe_bl))), ?_⟩
  obtain ⟨v_script, r, W, h, hcore, har, hrt⟩ := h
  refine body hcore har (Nat.le_of_ble_eq_true rfl) ?_
  clear hcore har
  change m_law v_script = some r at h
  unfold m_law at h
  change NxT _ _ [some ((rScr K).at v_script), none, none, none] _ []
  replace h := bindE h
  obtain ⟨t1, ht1, h⟩ := h
  replace h := bindE h
  obtain ⟨o13, ho13, h⟩ := h
  refine s_seq (for_sound (is := [1]) (i_range1 (ea_cons (e_max2 (ea_cons (e_int fun _ => (ea_cons (e_min2 (ea_cons (e_int fun _ => (ea_cons (e_lenS (ea_cons (e_var (sl := ((rScr K).at v_script)) rfl fun _ => (ea_nil ⟨_, rfl, fun _ => (ea_nil ⟨_, _, rfl, fun _ => (ea_nil ⟨_, _, rfl, fun _ => (ea_nil ⟨_, _, rfl, ht1, ⟨_, _, _, rInt, t1, (), _, o13, fun (b3 : Unit) => [some ((rScr K).at v_script), none, none, none], fun (b3 : Unit) => [], rfl, ho13, (by exact (And.intro rfl True.intro)), rfl, ?b14, ?_⟩⟩)⟩)⟩)⟩)))))))))))))))
  case b14 =>
    have hR : ∀ z, o13 = .ret z → Rt Q W ((fun z => rBool.at z) z) ((fun z => []) z) := fun z ez => by subst ez; have h := pureE h; subst h; exact hrt
    clear h
    intro T1 b3 x2 fl h N Bk hN hBk hz
    refine g_name ?_
    change NxT _ _ [some ((rScr K).at v_script), some (rInt.at x2), none, none] _ []
    replace h := bindE h
    obtain ⟨r4, hr4, h⟩ := h
    refine s_seq (s_set (e_callC (ea_cons (e_var (sl := ((rScr K).at v_script)) rfl fun _ => (ea_cons (e_var (sl := (rInt.at x2)) rfl fun _ => (ea_nil ⟨(v_script, x2), r4, [], hr4, rfl, rfl, fun p5 => ?_⟩)))))))
    change NxT _ _ [some ((rScr K).at v_script), some (rInt.at x2), some (sRef p5), none] _ [(p5, cCup r4)]
    replace h := bindE h
    obtain ⟨t6, ht6, h⟩ := h
    replace h := bindE h
    obtain ⟨t12, ht12, h⟩ := h
    refine (s_if (t_not (t_val (e_all (ea_cons (lc_sound (is := [3]) (by decide) (i_range1 (ea_cons (e_int fun _ => (ea_nil ⟨_, _, rfl, ht6, ⟨_, _, _, rInt, t6, r4, _, t12.1, t12.2, rBool, fun k => [(p5, cCup k)], rfl, ht12, rfl, ?b11, fun _ => (ea_nil ⟨_, rfl, ⟨_, rfl, ⟨fun hc => ?_, fun hc => ?_⟩⟩⟩)⟩⟩))))))))))
    case b11 =>
      intro W1 T1 k8 x7 o u1 h
      refine g_name ?_
      replace h := bindE h
      obtain ⟨r10, hr10, h⟩ := h
      replace h := pureE h
      cases h
      refine t_yes ⟨fun _ => ?_, fun z => nomatch z⟩
      refine (e_call (ea_cons (e_var (sl := (sRef p5)) rfl fun _ => (ea_nil ⟨(p5, k8), r10, [], hr10, rfl, rfl, ⟨_, rfl, rfl, rfl⟩⟩))))
    · replace h := condT hc h
      replace h := pureE h
      subst h
      refine s_ret (e_bl ?_)
      exact Rt.drop (hR _ (hz _ rfl)) (.cons _ .slnil)
    · replace h := condF hc h
      refine s_next ?_
      replace h := pureE h
      subst h
      exact s_weak (by exact (And.intro rfl True.intro)) (.cons _ .slnil) (hN _ rfl)
  intro g15 eg15
  subst eg15
  try dsimp only at h
  change NxT _ _ [some ((rScr K).at v_script), none, none, none] _ []
  replace h := pureE h
  subst h
  refine s_ret (e_bl ?_)
  exact Rt.drop hrt .slnil
theorem all_ok {P : Program} {w : World} {K : PySem.W.Frag} {mg : Str → Option Value} {base : Heap} (X : Tx K mg) : FnOk P w K mg base CX0 4 X.f_law X.d_law ["_law_script"] (sp_law K) := by
  have G_joined : FnOk P w K mg base CX0 1 X.f_joined X.d_joined ["one", "other", "bits"] (sp_joined K) := ok_joined X
  have G_without_bit : FnOk P w K mg base CX0 1 X.f_without_bit X.d_without_bit ["code", "bit"] (sp_without_bit K) := ok_without_bit X
  have G_l_cup : FnOk P w K mg base CX0 1 X.f_l_cup X.d_l_cup ["_law_script", "_law_k"] (sp_l_cup K) := ok_l_cup X
  have G_l_dip : FnOk P w K mg base CX0 1 X.f_l_dip X.d_l_dip ["_law_cup_here", "_law_many"] (sp_l_dip K) := ok_l_dip X
  have G_l_numbers : FnOk P w K mg base CX0 2 X.f_l_numbers X.d_l_numbers ["_law_cup_here", "_law_count", "_law_bits"] (sp_l_numbers K) := ok_l_numbers X G_l_dip
  have G_l_right : FnOk P w K mg base CX0 3 X.f_l_right X.d_l_right ["_law_cup_here"] (sp_l_right K) := ok_l_right X G_l_dip G_l_numbers G_joined G_without_bit
  have G_law : FnOk P w K mg base CX0 4 X.f_law X.d_law ["_law_script"] (sp_law K) := ok_law X G_l_cup G_l_right
  exact G_law
theorem all_mk {l : PySem.W.OpenLaw} {w : World} {K : PySem.W.Frag} {h : Heap} {mg : Str → Option Value} {fa : Addr} (X : K.In h) (G : h.Ns mainGlobals mg) (hfa : mg "law" = some (.ref fa))
    {f0 : Addr} {od0 an0 : Option Addr} {sl0 : Array (Option Value)} {oc0 kV0 dc0 pm0 cd0 ct0 : Value}
    {f1 : Addr} {od1 an1 : Option Addr} {sl1 : Array (Option Value)} {oc1 kV1 dc1 pm1 cd1 ct1 : Value}
    {f2 : Addr} {od2 an2 : Option Addr} {sl2 : Array (Option Value)} {oc2 kV2 dc2 pm2 cd2 ct2 : Value}
    {f3 : Addr} {od3 an3 : Option Addr} {sl3 : Array (Option Value)} {oc3 kV3 dc3 pm3 cd3 ct3 : Value}
    {f4 : Addr} {od4 an4 : Option Addr} {sl4 : Array (Option Value)} {oc4 kV4 dc4 pm4 cd4 ct4 : Value}
    {f5 : Addr} {od5 an5 : Option Addr} {sl5 : Array (Option Value)} {oc5 kV5 dc5 pm5 cd5 ct5 : Value}
    {f6 : Addr} {od6 an6 : Option Addr} {sl6 : Array (Option Value)} {oc6 kV6 dc6 pm6 cd6 ct6 : Value}
    (a0 : PySem.W.nsIn K mainGlobals "joined" = some (some (.ref f0))) (l0 : K.lookup f0 = some ⟨oc0, od0, .func (PySem.W.fnOf "joined" "joined" (defArgs s_joined) (defBody s_joined) (defScope s_joined) .none kV0 dc0 pm0 an0 cd0 ct0), sl0⟩) (c0 : PySem.W.codeIn K cd0 "joined" = true) (k0 : PySem.W.keepIn K (.ref f0) = true)
    (a1 : PySem.W.nsIn K mainGlobals "without_bit" = some (some (.ref f1))) (l1 : K.lookup f1 = some ⟨oc1, od1, .func (PySem.W.fnOf "without_bit" "without_bit" (defArgs s_without_bit) (defBody s_without_bit) (defScope s_without_bit) .none kV1 dc1 pm1 an1 cd1 ct1), sl1⟩) (c1 : PySem.W.codeIn K cd1 "without_bit" = true) (k1 : PySem.W.keepIn K (.ref f1) = true)
    (a2 : PySem.W.nsIn K mainGlobals "_law_cup" = some (some (.ref f2))) (l2 : K.lookup f2 = some ⟨oc2, od2, .func (PySem.W.fnOf "_law_cup" "_law_cup" (defArgs s_l_cup) (defBody s_l_cup) (defScope s_l_cup) .none kV2 dc2 pm2 an2 cd2 ct2), sl2⟩) (c2 : PySem.W.codeIn K cd2 "_law_cup" = true) (k2 : PySem.W.keepIn K (.ref f2) = true)
    (a3 : PySem.W.nsIn K mainGlobals "_law_dip" = some (some (.ref f3))) (l3 : K.lookup f3 = some ⟨oc3, od3, .func (PySem.W.fnOf "_law_dip" "_law_dip" (defArgs s_l_dip) (defBody s_l_dip) (defScope s_l_dip) .none kV3 dc3 pm3 an3 cd3 ct3), sl3⟩) (c3 : PySem.W.codeIn K cd3 "_law_dip" = true) (k3 : PySem.W.keepIn K (.ref f3) = true)
    (a4 : PySem.W.nsIn K mainGlobals "_law_numbers" = some (some (.ref f4))) (l4 : K.lookup f4 = some ⟨oc4, od4, .func (PySem.W.fnOf "_law_numbers" "_law_numbers" (defArgs s_l_numbers) (defBody s_l_numbers) (defScope s_l_numbers) .none kV4 dc4 pm4 an4 cd4 ct4), sl4⟩) (c4 : PySem.W.codeIn K cd4 "_law_numbers" = true) (k4 : PySem.W.keepIn K (.ref f4) = true)
    (a5 : PySem.W.nsIn K mainGlobals "_law_right" = some (some (.ref f5))) (l5 : K.lookup f5 = some ⟨oc5, od5, .func (PySem.W.fnOf "_law_right" "_law_right" (defArgs s_l_right) (defBody s_l_right) (defScope s_l_right) .none kV5 dc5 pm5 an5 cd5 ct5), sl5⟩) (c5 : PySem.W.codeIn K cd5 "_law_right" = true) (k5 : PySem.W.keepIn K (.ref f5) = true)
    (a6 : PySem.W.nsIn K mainGlobals "law" = some (some (.ref f6))) (l6 : K.lookup f6 = some ⟨oc6, od6, .func (PySem.W.fnOf "law" "law" (defArgs s_law) (defBody s_law) (defScope s_law) .none kV6 dc6 pm6 an6 cd6 ct6), sl6⟩) (c6 : PySem.W.codeIn K cd6 "law" = true) (k6 : PySem.W.keepIn K (.ref f6) = true)
    (z_abs : PySem.W.nsIn K mainGlobals "abs" = some none)
    (z_all : PySem.W.nsIn K mainGlobals "all" = some none)
    (z_int : PySem.W.nsIn K mainGlobals "int" = some none)
    (z_len : PySem.W.nsIn K mainGlobals "len" = some none)
    (z_max : PySem.W.nsIn K mainGlobals "max" = some none)
    (z_min : PySem.W.nsIn K mainGlobals "min" = some none)
    (z_range : PySem.W.nsIn K mainGlobals "range" = some none)
    (z_tuple : PySem.W.nsIn K mainGlobals "tuple" = some none)
    (z_zip : PySem.W.nsIn K mainGlobals "zip" = some none)
    : ∃ fd : FuncData, (∀ (s : Shared) (v : Value), BindsTo s fd ⟨[v], []⟩ [("_law_script", v)]) ∧ ∀ base : Heap, K.In base → base.Ns mainGlobals mg → FnOk l.prog w K mg base CX0 4 fa fd ["_law_script"] (sp_law K) := by
  have e := hfa.symm.trans (PySem.W.mg_of X G a6)
  cases e
  have F0 := fun_mk (st := s_joined) l0 c0 k0
  have b0 := F0.binds (ps := ["one", "other", "bits"]) fun _ _ _ _ _ _ us hl => match us, hl with | [_, _, _], _ => rfl
  have F1 := fun_mk (st := s_without_bit) l1 c1 k1
  have b1 := F1.binds (ps := ["code", "bit"]) fun _ _ _ _ _ _ us hl => match us, hl with | [_, _], _ => rfl
  have F2 := fun_mk (st := s_l_cup) l2 c2 k2
  have b2 := F2.binds (ps := ["_law_script", "_law_k"]) fun _ _ _ _ _ _ us hl => match us, hl with | [_, _], _ => rfl
  have F3 := fun_mk (st := s_l_dip) l3 c3 k3
  have b3 := F3.binds (ps := ["_law_cup_here", "_law_many"]) fun _ _ _ _ _ _ us hl => match us, hl with | [_, _], _ => rfl
  have F4 := fun_mk (st := s_l_numbers) l4 c4 k4
  have b4 := F4.binds (ps := ["_law_cup_here", "_law_count", "_law_bits"]) fun _ _ _ _ _ _ us hl => match us, hl with | [_, _, _], _ => rfl
  have F5 := fun_mk (st := s_l_right) l5 c5 k5
  have b5 := F5.binds (ps := ["_law_cup_here"]) fun _ _ _ _ _ _ us hl => match us, hl with | [_], _ => rfl
  have F6 := fun_mk (st := s_law) l6 c6 k6
  have b6 := F6.binds (ps := ["_law_script"]) fun _ _ _ _ _ _ us hl => match us, hl with | [_], _ => rfl
  exact ⟨_, fun s v => .of_eq rfl, fun base _ _ => all_ok ⟨_, _, F0, PySem.W.mg_of X G a0, b0, _, _, F1, PySem.W.mg_of X G a1, b1, _, _, F2, PySem.W.mg_of X G a2, b2, _, _, F3, PySem.W.mg_of X G a3, b3, _, _, F4, PySem.W.mg_of X G a4, b4, _, _, F5, PySem.W.mg_of X G a5, b5, _, _, F6, PySem.W.mg_of X G a6, b6, PySem.W.mg_none_of X G z_abs, PySem.W.mg_none_of X G z_all, PySem.W.mg_none_of X G z_int, PySem.W.mg_none_of X G z_len, PySem.W.mg_none_of X G z_max, PySem.W.mg_none_of X G z_min, PySem.W.mg_none_of X G z_range, PySem.W.mg_none_of X G z_tuple, PySem.W.mg_none_of X G z_zip⟩⟩
/-! ## plain: a value that is there and keeps P -/
def Tot {α : Type} (m : Option α) (P : α → Prop) : Prop := ∃ a, m = some a ∧ P a
section
variable {α β γ ρ : Type} {P : α → Prop} {Q : β → Prop}
theorem Tot.bind {m : Option α} {f : α → Option β} (h : Tot m P) (k : ∀ a, P a → Tot (f a) Q) : Tot (bind m f) Q := by
  obtain ⟨a, e, p⟩ := h
  obtain ⟨b, e2, q⟩ := k a p
  refine ⟨b, ?_, q⟩
  rw [e]
  exact e2
theorem Tot.ret {a : α} (h : P a) : Tot (pure a) P := ⟨a, rfl, h⟩
theorem Tot.some {a : α} (h : P a) : Tot (some a) P := ⟨a, rfl, h⟩
theorem Tot.imp {m : Option α} {P' : α → Prop} (h : Tot m P) (k : ∀ a, P a → P' a) : Tot m P' := let ⟨a, e, p⟩ := h; ⟨a, e, k a p⟩
theorem Tot.cond {c : Bool} {a b : Option α} (h1 : c = true → Tot a P) (h2 : c = false → Tot b P) : Tot (bif c then a else b) P := by
  cases c with
  | true => exact h1 rfl
  | false => exact h2 rfl
theorem Tot.of {m : Option α} {a : α} (e : m = Option.some a) (p : P a) : Tot m P := ⟨a, e, p⟩
theorem Tot.get {m : Option α} {a : α} (h : Tot m (· = a)) : m = Option.some a := by obtain ⟨b, e, rfl⟩ := h; exact e
theorem Tot.ite {c : Prop} [Decidable c] {a : α} (hc : c) (p : P a) : Tot (if c then Option.some a else none) P := ⟨a, by rw [if_pos hc], p⟩
/-! loops -/
theorem Tot.fold {f : β → α → Option β} {I : Nat → β → Prop} : ∀ (xs : List α) (b : β) (i : Nat), I i b → (∀ j x b, xs[j]? = Option.some x → I (i + j) b → Tot (f b x) (I (i + j + 1))) → Tot (foldO f xs b) (I (i + xs.length))
  | [], b, i, h, _ => ⟨b, rfl, h⟩
  | x :: xs, b, i, h, hs => by
    obtain ⟨b', e, h'⟩ := hs 0 x b rfl h
    have ih := Tot.fold (f := f) (I := I) xs b' (i + 1) h' fun j y c hj hc => by
      have := hs (j + 1) y c (by simpa using hj) (by rw [show i + (j + 1) = i + 1 + j by omega]; exact hc)
      rw [show i + (j + 1) + 1 = i + 1 + j + 1 by omega] at this
      exact this
    unfold foldO
    rw [e]
    rw [show i + (x :: xs).length = i + 1 + xs.length by rw [List.length_cons]; omega]
    exact ih
/-- a loop that may be left: B behind a break, R behind a return -/
theorem Tot.loop {f : β → α → Option (Fl ρ β)} {I : Nat → β → Prop} {B : β → Prop} {R : ρ → Prop} : ∀ (xs : List α) (b : β) (i : Nat), I i b →
    (∀ j x b, xs[j]? = Option.some x → I (i + j) b → Tot (f b x) fun fl => match fl with | .go b' => I (i + j + 1) b' | .brk b' => B b' | .ret r => R r) →
    Tot (loopO f xs b) fun o => match o with | .go b => I (i + xs.length) b ∨ B b | .ret r => R r
  | [], b, i, h, _ => ⟨_, rfl, .inl h⟩
  | x :: xs, b, i, h, hs => by
    obtain ⟨fl, e, h'⟩ := hs 0 x b rfl h
    unfold loopO
    rw [e]
    cases fl with
    | go b' =>
      have ih := Tot.loop (f := f) (I := I) (B := B) (R := R) xs b' (i + 1) h' fun j y c hj hc => by
        have := hs (j + 1) y c (by simpa using hj) (by rw [show i + (j + 1) = i + 1 + j by omega]; exact hc)
        rw [show i + (j + 1) + 1 = i + 1 + j + 1 by omega] at this
        exact this
      rw [show i + (x :: xs).length = i + 1 + xs.length by rw [List.length_cons]; omega]
      exact ih
    | brk b' => exact ⟨_, rfl, .inr h'⟩
    | ret r => exact ⟨_, rfl, h'⟩
/-- a loop in which each turn goes on -/
theorem Tot.loopGo {f : β → α → Option (Fl ρ β)} {I : Nat → β → Prop} (xs : List α) (b : β) (h : I 0 b) (hs : ∀ j x b, xs[j]? = Option.some x → I j b → Tot (f b x) fun fl => ∃ b', fl = .go b' ∧ I (j + 1) b') :
    Tot (loopO f xs b) fun o => ∃ b', o = .go b' ∧ I xs.length b' := by
  have := Tot.loop (f := f) (I := I) (B := fun _ => False) (R := fun _ => False) xs b 0 h fun j x b hj hb => by
    rw [Nat.zero_add] at hb ⊢
    exact (hs j x b hj hb).imp fun fl ⟨b', e, h'⟩ => by subst e; exact h'
  refine this.imp fun o ho => ?_
  cases o with
  | go b' => rw [Nat.zero_add] at ho; exact ⟨b', rfl, ho.elim id False.elim⟩
  | ret r => exact ho.elim
theorem Tot.lc {f : β → α → Option (Option γ × β)} {I : Nat → List γ → β → Prop} : ∀ (xs : List α) (b : β) (i : Nat) (acc : List γ), I i acc b →
    (∀ j x b acc, xs[j]? = Option.some x → I (i + j) acc b → Tot (f b x) fun r => I (i + j + 1) (acc ++ (match r.1 with | Option.some y => [y] | none => [])) r.2) → Tot (lcO f xs b) fun r => I (i + xs.length) (acc ++ r.1) r.2
  | [], b, i, acc, h, _ => ⟨_, rfl, by show I i (acc ++ []) b; rw [List.append_nil]; exact h⟩
  | x :: xs, b, i, acc, h, hs => by
    obtain ⟨⟨o, b'⟩, e, h'⟩ := hs 0 x b acc rfl h
    obtain ⟨⟨ys, b2⟩, e2, h2⟩ := Tot.lc (f := f) (I := I) xs b' (i + 1) _ h' fun j y c acc hj hc => by
      have := hs (j + 1) y c acc (by simpa using hj) (by rw [show i + (j + 1) = i + 1 + j by omega]; exact hc)
      rw [show i + (j + 1) + 1 = i + 1 + j + 1 by omega] at this
      exact this
    unfold lcO
    rw [e]
    dsimp only
    rw [e2]
    refine ⟨_, rfl, ?_⟩
    rw [show i + (x :: xs).length = i + 1 + xs.length by rw [List.length_cons]; omega]
    cases o with
    | none => simpa using h2
    | some y => simpa using h2
theorem mapO_some {f : α → Option (Option γ)} {g : α → Option γ} : ∀ {xs : List α}, (∀ x ∈ xs, f x = Option.some (g x)) → mapO f xs = Option.some (xs.filterMap g)
  | [], _ => rfl
  | x :: xs, h => by
    unfold mapO
    rw [h x List.mem_cons_self, mapO_some (xs := xs) fun y hy => h y (List.mem_cons_of_mem _ hy)]
    cases e : g x with
    | none => rw [List.filterMap_cons_none e]
    | some y => rw [List.filterMap_cons_some e]
theorem mapO_map {f : α → Option (Option γ)} {g : α → γ} {xs : List α} (h : ∀ x ∈ xs, f x = Option.some (Option.some (g x))) : mapO f xs = Option.some (xs.map g) := by
  rw [mapO_some (g := fun x => Option.some (g x)) h]
  congr 1
  induction xs with
  | nil => rfl
  | cons x xs ih => rw [List.filterMap_cons_some (f := fun x => Option.some (g x)) (b := g x) rfl, List.map_cons, ih fun y hy => h y (List.mem_cons_of_mem _ hy)]
end
theorem loop_one {ρ : Type} {m : Option (Lo ρ Unit)} {P : Prop} (h : Tot m fun o => ∃ b', o = .go b' ∧ P) : m = some (.go ()) ∧ P := by
  obtain ⟨o, e, b', rfl, p⟩ := h
  exact ⟨e, p⟩
/-! ints -/
theorem sml64 {i : Int} (h1 : -18446744073709551616 < i) (h2 : i < 18446744073709551616) : Sml i := sml_of (n := 64) (by decide) (by show i.natAbs < 18446744073709551616; omega)
theorem tot_shl {i j : Int} {P : Int → Prop} (h0 : 0 ≤ j) (h1 : j ≤ 100000) (h2 : Sml i) (p : P (i * 2 ^ j.toNat)) : Tot (oShl i j) P := Tot.ite ⟨h0, h1, h2⟩ p
theorem tot_shr {i j : Int} {P : Int → Prop} (h0 : 0 ≤ j) (p : P (i / 2 ^ j.toNat)) : Tot (oShr i j) P := Tot.ite h0 p
theorem tot_mul {i j : Int} {P : Int → Prop} (h1 : Sml i) (h2 : Sml j) (p : P (i * j)) : Tot (oMul i j) P := Tot.ite ⟨h1, h2⟩ p
theorem tot_div {i j : Int} {P : Int → Prop} (h1 : 0 < j) (h2 : Sml j) (p : P (i / j)) : Tot (oDiv i j) P := Tot.ite ⟨h1, h2⟩ p
theorem tot_mod {i j : Int} {P : Int → Prop} (h1 : 0 < j) (p : P (i % j)) : Tot (oMod i j) P := Tot.ite h1 p
theorem tot_pow {i j : Int} {P : Int → Prop} (h1 : 0 ≤ j) (h2 : j ≤ 1000) (h3 : Sml i) (p : P (i ^ j.toNat)) : Tot (oPow i j) P := Tot.ite ⟨h1, h2, h3⟩ p
theorem tot_app {α : Type} {xs : List α} {x : α} {P : List α → Prop} (h : xs.length < 16777216) (p : P (xs ++ [x])) : Tot (oApp xs x) P := Tot.ite (by rw [sizeLine_eq]; exact h) p
theorem tot_range {i j : Int} {P : List Int → Prop} (h1 : -4611686018427387904 ≤ i) (h2 : i < 4611686018427387904) (h3 : -4611686018427387904 ≤ j) (h4 : j < 4611686018427387904) (h5 : j - i ≤ 16777216) (p : P (rangeI i j)) : Tot (oRange i j) P := by
  refine Tot.ite ⟨⟨?_, ?_⟩, ⟨?_, ?_⟩, ?_⟩ p
  · show -4611686018427387904 ≤ i; exact h1
  · show i < 4611686018427387904; exact h2
  · show -4611686018427387904 ≤ j; exact h3
  · show j < 4611686018427387904; exact h4
  · rw [sizeLine_eq]; omega
theorem rangeI_get {i j : Int} {k : Nat} {x : Int} (h : (rangeI i j)[k]? = some x) : x = i + (k : Int) ∧ (k : Int) < j - i := by
  unfold rangeI at h
  rw [List.getElem?_map] at h
  by_cases hk : k < (j - i).toNat
  · rw [List.getElem?_range hk] at h
    cases h
    exact ⟨rfl, by omega⟩
  · rw [List.getElem?_eq_none (by rw [List.length_range]; omega)] at h
    cases h
theorem at_nat {α : Type} {xs : List α} {j : Nat} {x : α} {P : α → Prop} (h : xs[j]? = some x) (p : P x) : Tot (atI xs (j : Int)) P := ⟨x, atI_nat h, p⟩
theorem at_int {α : Type} {xs : List α} {i : Int} {P : α → Prop} (h0 : 0 ≤ i) (h1 : i < xs.length) (p : ∀ x, xs[i.toNat]? = some x → P x) : Tot (atI xs i) P := by
  obtain ⟨j, rfl⟩ := Int.eq_ofNat_of_zero_le h0
  have hj : j < xs.length := by omega
  have hx := List.getElem?_eq_getElem hj
  exact ⟨xs[j], atI_nat hx, p _ (by rw [Int.toNat_natCast]; exact hx)⟩
theorem int_pow_pos {a : Int} (h : 0 < a) : ∀ n : Nat, 0 < a ^ n
  | 0 => by rw [Int.pow_zero]; decide
  | n + 1 => by rw [Int.pow_succ]; exact Int.mul_pos (int_pow_pos h n) h
theorem two_pow_pos (n : Nat) : (0 : Int) < 2 ^ n := int_pow_pos (by decide) n
theorem cast_two_pow (n : Nat) : ((2 ^ n : Nat) : Int) = 2 ^ n := by
  induction n with
  | zero => rfl
  | succ n ih => rw [Nat.pow_succ, Int.pow_succ, Int.natCast_mul, ih]; rfl
theorem bitAnd_mask (i : Int) (k : Nat) : Builtin.bitAnd i (2 ^ k - 1) = i % 2 ^ k := PySem.W.kbt_mask i k

/-! ## the cup -/
def CupOk (k : Cup) (n : Int) : Prop := 0 ≤ k.2.1 ∧ k.2.1 < 2305843009213693921 ∧ 0 ≤ k.2.2 ∧ k.2.2 ≤ n
theorem CupOk.mono {k : Cup} {n m : Int} (h : CupOk k n) (l : n ≤ m) : CupOk k m := ⟨h.1, h.2.1, h.2.2.1, Int.le_trans h.2.2.2 l⟩
theorem three_at (a b c : Int) : atI [a, b, c] 0 = some a ∧ atI [a, b, c] 2 = some c ∧ atI [a, b, c] 1 = some b := ⟨rfl, rfl, rfl⟩
theorem five_at (a b c d e : Int) (i : Int) (h0 : 0 ≤ i) (h1 : i < 5) : ∃ x, atI [a, b, c, d, e] i = some x ∧ (x = a ∨ x = b ∨ x = c ∨ x = d ∨ x = e) := by
  have : i = 0 ∨ i = 1 ∨ i = 2 ∨ i = 3 ∨ i = 4 := by omega
  rcases this with e | e | e | e | e <;> subst e
  · exact ⟨_, rfl, .inl rfl⟩
  · exact ⟨_, rfl, .inr (.inl rfl)⟩
  · exact ⟨_, rfl, .inr (.inr (.inl rfl))⟩
  · exact ⟨_, rfl, .inr (.inr (.inr (.inl rfl)))⟩
  · exact ⟨_, rfl, .inr (.inr (.inr (.inr rfl)))⟩
theorem dip_ok {k : Cup} {many N : Int} (hk : CupOk k N) (hN : N ≤ 1000000) (h0 : 0 < many) (hs : Sml many) : Tot (m_l_dip k many) fun r => 0 ≤ r.1 ∧ r.1 < many ∧ CupOk r.2 (N + 1) := by
  obtain ⟨k0, k1, k2⟩ := k
  obtain ⟨a1, a2, a3, a4⟩ := hk
  dsimp only at a1 a2 a3 a4
  unfold m_l_dip
  refine Tot.bind (P := (· = k0)) (Tot.of rfl rfl) fun t1 e1 => ?_
  subst e1
  refine Tot.cond (fun hc => ?_) fun hc => ?_
  · refine Tot.bind (P := (· = t1)) (Tot.of rfl rfl) fun t2 e => ?_
    subst e
    refine Tot.bind (P := fun r => 0 ≤ r ∧ r < many) (tot_mod h0 ⟨Int.emod_nonneg _ (by omega), Int.emod_lt_of_pos _ h0⟩) fun t3 h3 => ?_
    refine Tot.bind (P := (· = t2)) (Tot.of rfl rfl) fun t4 e => ?_
    subst e
    refine Tot.bind (P := fun _ => True) (tot_div h0 hs trivial) fun t5 _ => ?_
    exact Tot.ret ⟨h3.1, h3.2, a1, a2, a3, show k2 ≤ N + 1 by omega⟩
  · refine Tot.bind (P := (· = k2)) (Tot.of rfl rfl) fun t e => ?_
    subst e
    refine Tot.bind (P := (· = t + 1)) (Tot.of rfl rfl) fun u e => ?_
    subst e
    refine Tot.bind (P := fun r => 0 ≤ r ∧ r < 5) (tot_mod (by decide) ⟨Int.emod_nonneg _ (by decide), Int.emod_lt_of_pos _ (by decide)⟩) fun t3 h3 => ?_
    obtain ⟨p, ep, hp⟩ := five_at 2147483647 2147483629 2147483587 2147483579 2147483563 t3 h3.1 h3.2
    refine Tot.bind (P := fun r => 2147483563 ≤ r ∧ r ≤ 2147483647) (Tot.of ep (by omega)) fun q hq => ?_
    refine Tot.bind (P := (· = k1)) (Tot.of rfl rfl) fun t5 e => ?_
    subst e
    refine Tot.bind (P := (· = t + 1)) (Tot.of rfl rfl) fun t6 e => ?_
    subst e
    refine Tot.bind (P := fun r => 0 ≤ r ∧ r ≤ 77003 * 1000001) (tot_mul (sml64 (by decide) (by decide)) (sml64 (by omega) (by omega)) ⟨by omega, by omega⟩) fun t7 h7 => ?_
    refine Tot.bind (P := (· = t + 1)) (Tot.of rfl rfl) fun t8 e => ?_
    subst e
    refine Tot.bind (P := fun r => 0 ≤ r ∧ r ≤ 77003 * 1000001 * 1000001) (tot_mul (sml64 (by omega) (by omega)) (sml64 (by omega) (by omega)) ⟨Int.mul_nonneg h7.1 (by omega), Int.mul_le_mul h7.2 (by omega) (by omega) (by decide)⟩) fun t9 h9 => ?_
    refine Tot.bind (P := fun _ => True) (tot_pow (by decide) (by decide) (sml64 (by omega) (by omega)) trivial) fun t10 _ => ?_
    refine Tot.bind (P := fun r => 0 ≤ r ∧ r ≤ 2147483647) (tot_mod (by omega) ⟨Int.emod_nonneg _ (by omega), by have := Int.emod_lt_of_pos t10 (show 0 < q by omega); omega⟩) fun t11 h11 => ?_
    refine Tot.bind (P := fun r => 0 ≤ r ∧ r < 10037) (tot_mod (by decide) ⟨Int.emod_nonneg _ (by decide), Int.emod_lt_of_pos _ (by decide)⟩) fun t12 h12 => ?_
    refine Tot.bind (P := (· = t + 1)) (Tot.of rfl rfl) fun t13 e => ?_
    subst e
    refine Tot.bind (P := fun r => 0 ≤ r ∧ r ≤ 71 * 1000001) (tot_mul (sml64 (by decide) (by decide)) (sml64 (by omega) (by omega)) ⟨by omega, by omega⟩) fun t14 h14 => ?_
    refine Tot.bind (P := fun _ => True) (tot_mul (sml64 (by omega) (by omega)) (sml64 (by omega) (by omega)) trivial) fun t15 _ => ?_
    refine Tot.bind (P := fun _ => True) (tot_mod (by decide) trivial) fun t16 _ => ?_
    refine Tot.bind (P := fun _ => True) (tot_div (by decide) (sml64 (by decide) (by decide)) trivial) fun t17 _ => ?_
    refine Tot.bind (P := fun r => 0 ≤ r ∧ r < many) (tot_mod h0 ⟨Int.emod_nonneg _ (by omega), Int.emod_lt_of_pos _ h0⟩) fun t18 h18 => ?_
    exact Tot.ret ⟨h18.1, h18.2, a1, a2, show 0 ≤ t + 1 by omega, show t + 1 ≤ N + 1 by omega⟩
theorem cup_ok {ns : List Int} {k : Int} (h0 : 0 ≤ k) (h1 : k < 1000) : Tot (m_l_cup ns k) fun c => CupOk c 0 := by
  unfold m_l_cup
  refine Tot.bind (P := fun _ => True) (Tot.cond (fun hc => ?_) fun hc => ?_) fun t3 _ => ?_
  · exact Tot.bind (P := fun _ => True) (at_int h0 (of_decide_eq_true hc) fun _ _ => trivial) fun _ _ => Tot.ret trivial
  · exact Tot.bind (P := fun _ => True) (tot_mul (sml64 (by decide) (by decide)) (sml64 (by omega) (by omega)) trivial) fun _ _ => Tot.ret trivial
  refine Tot.bind (P := fun r => r = 10 ^ 60) (tot_pow (by decide) (by decide) (sml64 (by decide) (by decide)) rfl) fun t6 e6 => ?_
  have s6 : Sml t6 := by subst e6; exact sml_of (n := 200) (by decide) (by decide +kernel)
  refine Tot.bind (P := fun r => 0 < r ∧ r.natAbs < 2 ^ 800) (tot_pow (by decide) (by decide) s6 (by subst e6; exact ⟨by decide +kernel, by decide +kernel⟩)) fun t7 h7 => ?_
  refine Tot.bind (P := fun r => Sml r) (tot_mod h7.1 (sml_of (n := 800) (by decide) (by
    have a := Int.emod_nonneg (t3.natAbs : Int) (show t7 ≠ 0 by omega)
    have b := Int.emod_lt_of_pos (t3.natAbs : Int) h7.1
    exact Nat.lt_of_lt_of_le (by omega : _ < t7.natAbs) (Nat.le_of_lt h7.2)))) fun t8 h8 => ?_
  refine Tot.bind (P := fun _ => True) (tot_pow (by decide) (by decide) (sml64 (by decide) (by decide)) trivial) fun t9 _ => ?_
  refine Tot.bind (P := fun _ => True) (tot_mul h8 (by split <;> exact sml64 (by decide) (by decide)) trivial) fun t10 _ => ?_
  refine Tot.bind (P := fun r => 0 ≤ r ∧ r < 2305843009213693951) (tot_mod (by decide) ⟨Int.emod_nonneg _ (by decide), Int.emod_lt_of_pos _ (by decide)⟩) fun t11 h11 => ?_
  refine Tot.bind (P := fun _ => True) (tot_mul (sml64 (by omega) (by omega)) (sml64 (by decide) (by decide)) trivial) fun t12 _ => ?_
  refine Tot.bind (P := fun r => 0 ≤ r ∧ r ≤ 6689 * 1000) (tot_mul (sml64 (by decide) (by decide)) (sml64 (by omega) (by omega)) ⟨by omega, by omega⟩) fun t13 h13 => ?_
  refine Tot.bind (P := fun _ => True) (tot_mul (sml64 (by omega) (by omega)) (sml64 (by omega) (by omega)) trivial) fun t14 _ => ?_
  refine Tot.bind (P := fun r => 0 ≤ r ∧ r < 2305843009213693921) (tot_mod (by decide) ⟨Int.emod_nonneg _ (by decide), Int.emod_lt_of_pos _ (by decide)⟩) fun t15 h15 => ?_
  exact Tot.ret ⟨h15.1, h15.2, (by show (0 : Int) ≤ 0; decide), (by show (0 : Int) ≤ 0; decide)⟩
/-- the law's own end -/
theorem law_of {K : PySem.W.Frag} {H : Hp} {a : Addr} {ns : List Int} {E : XK} (hl : ns.length ≤ 63) (hS : SqL K H a (ns.map V.int)) (h : m_law ns = some true) : sp_law K [.ref a] H (fun v _ => v = .bl true) E :=
  ⟨ns, true, ⟨H, fun _ => none⟩, h, only_core hS, .cons ⟨hl, a, rfl, hS⟩ .nil, fun v H ⟨F, c, e⟩ => e⟩

/-! ## drawn numbers -/
theorem two_pow_le {n m : Nat} (h : n ≤ m) : (2 : Int) ^ n ≤ 2 ^ m := by
  rw [← cast_two_pow, ← cast_two_pow]
  exact Int.ofNat_le.mpr (Nat.pow_le_pow_right (by decide) h)
theorem sml_two_pow {n : Nat} (h : n ≤ 4000) : Sml (2 ^ n) := sml_of (n := n + 1) (by omega) (by
  rw [← cast_two_pow, Int.natAbs_natCast]
  exact Nat.pow_lt_pow_right (by decide) (by omega))
theorem sml_below {i : Int} {n : Nat} (h : n ≤ 4000) (h0 : 0 ≤ i) (h1 : i ≤ 2 ^ n) : Sml i := sml_of (n := n + 1) (by omega) (by
  obtain ⟨m, rfl⟩ := Int.eq_ofNat_of_zero_le h0
  rw [Int.natAbs_natCast]
  rw [← cast_two_pow] at h1
  exact Nat.lt_of_le_of_lt (Int.ofNat_le.mp h1) (Nat.pow_lt_pow_right (by decide) (by omega)))
theorem toNat_le {b : Int} {n : Nat} (h : b ≤ n) : b.toNat ≤ n := by omega
theorem numbers_ok {k : Cup} {count bits N : Int} (hk : CupOk k N) (hN : N ≤ 990000) (hc0 : 0 ≤ count) (hc1 : count ≤ 100) (hb0 : 0 ≤ bits) (hb1 : bits ≤ 100) :
    Tot (m_l_numbers k count bits) fun r => (r.1.length : Int) = count ∧ (∀ x ∈ r.1, 0 ≤ x ∧ x < 2 ^ bits.toNat) ∧ CupOk r.2 (N + 1 + 2 * count) := by
  have hp : (0 : Int) < 2 ^ bits.toNat := two_pow_pos _
  have hs : Sml (2 ^ bits.toNat) := sml_two_pow (Nat.le_trans (toNat_le (n := 100) hb1) (by decide))
  unfold m_l_numbers
  refine Tot.bind (dip_ok hk (by omega) (by decide) (sml64 (by decide) (by decide))) fun r1 ⟨d1, d2, d3⟩ => ?_
  refine Tot.bind (P := (· = rangeI 0 count)) (tot_range (by omega) (by omega) (by omega) (by omega) (by omega) rfl) fun t2 e2 => ?_
  subst e2
  have len : (rangeI 0 count).length = count.toNat := by rw [len_rangeI]; omega
  refine Tot.bind (Tot.fold (I := fun j (b : Cup × List Int) => b.2.length = j ∧ (∀ x ∈ b.2, 0 ≤ x ∧ x < 2 ^ bits.toNat) ∧ CupOk b.1 (N + 1 + 2 * (j : Int))) _ _ 0 ⟨rfl, fun x hx => absurd hx (by simp), d3.mono (by omega)⟩ fun j x b hx hI => ?_) fun o ⟨o1, o2, o3⟩ => ?_
  · obtain ⟨ex, hj⟩ := rangeI_get hx
    obtain ⟨b1, b2, b3⟩ := hI
    rw [Nat.zero_add] at b1 b3 ⊢
    refine Tot.bind (P := (· = 2 ^ bits.toNat)) (tot_shl hb0 (by omega) (sml64 (by decide) (by decide)) (Int.one_mul _)) fun t5 e5 => ?_
    subst e5
    refine Tot.bind (dip_ok b3 (by omega) hp hs) fun r6 ⟨f1, f2, f3⟩ => ?_
    refine Tot.bind (P := fun r => 0 ≤ r ∧ r < 2 ^ bits.toNat) (Tot.cond (fun _ => ?_) fun _ => Tot.ret ⟨f1, f2⟩) fun j9 h9 => ?_
    · refine Tot.bind (P := (· = 2 ^ bits.toNat)) (tot_shl hb0 (by omega) (sml64 (by decide) (by decide)) (Int.one_mul _)) fun t5 e5 => ?_
      subst e5
      exact Tot.bind (P := fun r => 0 ≤ r ∧ r < 2 ^ bits.toNat) (tot_mod hp ⟨Int.emod_nonneg _ (by omega), Int.emod_lt_of_pos _ hp⟩) fun _ h => Tot.ret h
    refine Tot.bind (P := fun r => (0 ≤ r.1 ∧ r.1 < 2 ^ bits.toNat) ∧ CupOk r.2 (N + 1 + 2 * (j : Int) + 2)) (Tot.cond (fun hc => ?_) fun _ => Tot.ret ⟨h9, f3.mono (by omega)⟩) fun j17 ⟨h17, g17⟩ => ?_
    · have hne : b.2 ≠ [] := fun e => by
        rw [e] at hc
        simp at hc
      have hat : ∃ v, atI b.2 (-1) = some v := by
        obtain ⟨ys, y, e⟩ : ∃ ys y, b.2 = ys ++ [y] := ⟨_, _, (List.dropLast_concat_getLast hne).symm⟩
        rw [e]
        exact ⟨y, atI_last ys y⟩
      obtain ⟨v, ev⟩ := hat
      refine Tot.bind (P := fun _ => True) (Tot.of ev trivial) fun t18 _ => ?_
      refine Tot.bind (dip_ok f3 (by omega) (by omega) (sml64 (by omega) (by omega))) fun r19 ⟨g1, g2, g3⟩ => ?_
      refine Tot.bind (P := fun _ => True) (tot_shl g1 (by omega) (sml64 (by decide) (by decide)) trivial) fun t20 _ => ?_
      refine Tot.bind (P := (· = 2 ^ bits.toNat)) (tot_shl hb0 (by omega) (sml64 (by decide) (by decide)) (Int.one_mul _)) fun t5 e5 => ?_
      subst e5
      refine Tot.bind (P := fun r => 0 ≤ r ∧ r < 2 ^ bits.toNat) (tot_mod hp ⟨Int.emod_nonneg _ (by omega), Int.emod_lt_of_pos _ hp⟩) fun _ h => Tot.ret ⟨h, g3.mono (by omega)⟩
    refine Tot.bind (P := (· = b.2 ++ [j17.1])) (tot_app (by omega) rfl) fun l23 e => ?_
    subst e
    refine Tot.ret ⟨by rw [List.length_append, b1]; rfl, fun x hx => ?_, g17.mono (by omega)⟩
    rcases List.mem_append.mp hx with h | h
    · exact b2 x h
    · have : x = j17.1 := by simpa using h
      rw [this]; exact h17
  · rw [len, Nat.zero_add] at o1 o3
    exact Tot.ret ⟨by rw [o1]; omega, o2, o3.mono (by omega)⟩

/-! ## the law: bits there and back -/
def wb (i : Nat) (x : Int) : Int := x % 2 ^ i + x / 2 ^ (i + 1) * 2 ^ i
def J (b : Nat) (xs ys : List Int) : List Int := (xs.zip ys).map fun p => p.1 + p.2 * 2 ^ b
theorem joined_ok {xs ys : List Int} {b : Int} (h0 : 0 ≤ b) (h1 : b ≤ 1000) (hy : ∀ y ∈ ys, Sml y) : m_joined xs ys b = some (J b.toNat xs ys) := by
  unfold m_joined
  rw [mapO_map (g := fun p : Int × Int => p.1 + p.2 * 2 ^ b.toNat) fun p hp => ?_]
  · rfl
  · have : Tot (oShl p.2 b) (· = p.2 * 2 ^ b.toNat) := tot_shl h0 (by omega) (hy _ (List.of_mem_zip hp).2) rfl
    rw [this.get]
    rfl
theorem without_ok {xs : List Int} {b : Int} (h0 : 0 ≤ b) (h1 : b ≤ 1000) (hx : ∀ x ∈ xs, 0 ≤ x ∧ x < 18446744073709551616) : m_without_bit xs b = some (xs.map (wb b.toNat)) := by
  unfold m_without_bit
  rw [mapO_map (g := wb b.toNat) fun x hx' => ?_]
  · rfl
  · obtain ⟨g0, g1⟩ := hx x hx'
    have a1 : Tot (oShl 1 b) (· = 2 ^ b.toNat) := tot_shl h0 (by omega) (sml64 (by decide) (by decide)) (Int.one_mul _)
    have e1 : (b + 1).toNat = b.toNat + 1 := by omega
    have hp : (0 : Int) < 2 ^ (b.toNat + 1) := two_pow_pos _
    have q0 : 0 ≤ x / 2 ^ (b.toNat + 1) := Int.ediv_nonneg g0 (Int.le_of_lt hp)
    have q1 : x / 2 ^ (b.toNat + 1) ≤ x := Int.ediv_le_self _ g0
    have a2 : Tot (oShr x (b + 1)) (· = x / 2 ^ (b.toNat + 1)) := tot_shr (by omega) (by rw [e1])
    have a3 : Tot (oShl (x / 2 ^ (b.toNat + 1)) b) (· = x / 2 ^ (b.toNat + 1) * 2 ^ b.toNat) := tot_shl h0 (by omega) (sml64 (by omega) (by omega)) rfl
    rw [a1.get]
    show bind (oShr x (b + 1)) _ = _
    rw [a2.get]
    show bind (oShl (x / 2 ^ (b.toNat + 1)) b) _ = _
    rw [a3.get]
    show some (some (Builtin.bitAnd x (2 ^ b.toNat - 1) + _)) = _
    rw [bitAnd_mask]
    rfl
theorem wb_join {b : Nat} {x y : Int} (h0 : 0 ≤ x) (h1 : x < 2 ^ b) (g0 : 0 ≤ y) (g1 : y < 2) : wb b (x + y * 2 ^ b) = x := by
  unfold wb
  have hp := two_pow_pos b
  have e : (2 : Int) ^ (b + 1) = 2 ^ b * 2 := Int.pow_succ _ _
  have hy : y = 0 ∨ y = 1 := by omega
  have lt : x + y * 2 ^ b < 2 ^ (b + 1) := by
    rw [e]
    rcases hy with h | h <;> subst h <;> omega
  have ge : 0 ≤ x + y * 2 ^ b := by rcases hy with h | h <;> subst h <;> omega
  rw [Int.ediv_eq_zero_of_lt ge lt, Int.add_mul_emod_self_right, Int.emod_eq_of_lt h0 h1]
  omega
theorem wb_nat (i n : Nat) : wb i (n : Int) = ((2 ^ i * (n / 2 ^ (i + 1)) + n % 2 ^ i : Nat) : Int) := by
  unfold wb
  rw [Int.natCast_add, Int.natCast_mul, Int.natCast_emod, Int.natCast_ediv, cast_two_pow, cast_two_pow, Int.mul_comm, Int.add_comm]
def wbN (i n : Nat) : Nat := 2 ^ i * (n / 2 ^ (i + 1)) + n % 2 ^ i
theorem wbN_bit (i n j : Nat) : (wbN i n).testBit j = if j < i then n.testBit j else n.testBit (j + 1) := by
  unfold wbN
  rw [Nat.testBit_two_pow_mul_add _ (Nat.mod_lt _ (Nat.two_pow_pos i))]
  by_cases h : j < i
  · rw [if_pos h, if_pos h, Nat.testBit_mod_two_pow, decide_eq_true h, Bool.true_and]
  · rw [if_neg h, if_neg h, Nat.testBit_div_two_pow]
    congr 1
    omega
theorem wbN_swap {l h : Nat} (n : Nat) (hl : l < h) : wbN (h - 1) (wbN l n) = wbN l (wbN h n) := by
  apply Nat.eq_of_testBit_eq
  intro j
  rw [wbN_bit, wbN_bit, wbN_bit, wbN_bit, wbN_bit, wbN_bit]
  by_cases a : j < l
  · simp [a, show j < h - 1 by omega, show j < h by omega]
  · by_cases b : j < h - 1
    · simp [a, b, show ¬ j + 1 < l by omega, show j + 1 < h by omega]
    · simp [a, b, show ¬ j + 1 < l by omega, show ¬ j + 1 < h by omega]
theorem wb_swap {l h : Nat} {x : Int} (h0 : 0 ≤ x) (hl : l < h) : wb (h - 1) (wb l x) = wb l (wb h x) := by
  obtain ⟨n, rfl⟩ := Int.eq_ofNat_of_zero_le h0
  rw [wb_nat, wb_nat, wb_nat, wb_nat]
  exact congrArg _ (wbN_swap n hl)
theorem wb_bound {i : Nat} {x : Int} (h0 : 0 ≤ x) : 0 ≤ wb i x ∧ wb i x ≤ 2 * x := by
  unfold wb
  have hp := two_pow_pos i
  have a := Int.emod_nonneg x (show (2 : Int) ^ i ≠ 0 by omega)
  have b := Int.ediv_nonneg h0 (Int.le_of_lt (two_pow_pos (i + 1)))
  have c : x % 2 ^ i ≤ x := by
    have e1 := Int.emod_add_mul_ediv x (2 ^ i)
    have e2 := Int.mul_nonneg (Int.le_of_lt hp) (Int.ediv_nonneg h0 (Int.le_of_lt hp))
    omega
  have d : x / 2 ^ (i + 1) * 2 ^ (i + 1) ≤ x := Int.ediv_mul_le _ (by have := two_pow_pos (i + 1); omega)
  rw [Int.pow_succ] at d b ⊢
  have e : 0 ≤ x / (2 ^ i * 2) * 2 ^ i := Int.mul_nonneg b (Int.le_of_lt hp)
  have f : x / (2 ^ i * 2) * (2 ^ i * 2) = x / (2 ^ i * 2) * 2 ^ i * 2 := (Int.mul_assoc _ _ _).symm
  omega
theorem J_wb (b : Nat) : ∀ xs ys : List Int, xs.length = ys.length → (∀ x ∈ xs, 0 ≤ x ∧ x < 2 ^ b) → (∀ y ∈ ys, 0 ≤ y ∧ y < 2) → (J b xs ys).map (wb b) = xs
  | [], _, _, _, _ => rfl
  | x :: xs, [], h, _, _ => by simp at h
  | x :: xs, y :: ys, h, hx, hy => by
    show (wb b (x + y * 2 ^ b)) :: (J b xs ys).map (wb b) = x :: xs
    obtain ⟨a1, a2⟩ := hx x List.mem_cons_self
    obtain ⟨c1, c2⟩ := hy y List.mem_cons_self
    rw [wb_join a1 a2 c1 c2, J_wb b xs ys (by simpa using h) (fun z hz => hx z (List.mem_cons_of_mem _ hz)) fun z hz => hy z (List.mem_cons_of_mem _ hz)]
theorem J_assoc (b : Nat) : ∀ xs ys zs : List Int, J (b + 1) (J b xs ys) zs = J b xs (J 1 ys zs)
  | [], _, _ => by simp [J]
  | _ :: _, [], _ => by simp [J]
  | _ :: _, _ :: _, [] => by simp [J]
  | x :: xs, y :: ys, z :: zs => by
    show ((x + y * 2 ^ b) + z * 2 ^ (b + 1)) :: J (b + 1) (J b xs ys) zs = (x + (y + z * 2 ^ 1) * 2 ^ b) :: J b xs (J 1 ys zs)
    rw [J_assoc b xs ys zs]
    congr 1
    rw [Int.pow_succ, Int.add_mul, show z * (2 ^ b * 2) = z * 2 ^ 1 * 2 ^ b by rw [show (2 : Int) ^ 1 = 2 from rfl, Int.mul_assoc, Int.mul_comm 2 (2 ^ b)]]
    omega
theorem J_zero (b : Nat) : ∀ xs : List Int, J b xs (List.replicate xs.length 0) = xs
  | [] => rfl
  | x :: xs => by
    show (x + 0 * 2 ^ b) :: J b xs (List.replicate xs.length 0) = x :: xs
    rw [J_zero b xs, Int.zero_mul, Int.add_zero]
theorem emod_split (i : Nat) (x : Int) : x % 2 ^ i + x / 2 ^ i % 2 * 2 ^ i = x % 2 ^ (i + 1) := by
  have hp := two_pow_pos i
  have a := Int.emod_nonneg x (show (2 : Int) ^ i ≠ 0 by omega)
  have b := Int.emod_lt_of_pos x hp
  have c := Int.emod_add_mul_ediv x (2 ^ i)
  have d := Int.emod_add_mul_ediv (x / 2 ^ i) 2
  have f0 : 0 ≤ x / 2 ^ i % 2 := Int.emod_nonneg _ (by decide)
  have f1 : x / 2 ^ i % 2 < 2 := Int.emod_lt_of_pos _ (by decide)
  rw [Int.pow_succ]
  generalize x / 2 ^ i % 2 = b2 at *
  generalize x / 2 ^ i / 2 = q2 at *
  generalize x / 2 ^ i = q at *
  generalize x % 2 ^ i = r at *
  generalize (2 : Int) ^ i = p at *
  have g : 0 ≤ b2 * p ∧ b2 * p ≤ p := by
    have : b2 = 0 ∨ b2 = 1 := by omega
    rcases this with h | h <;> rw [h] <;> omega
  have e : x = (r + b2 * p) + p * 2 * q2 := by
    rw [← c, ← d, Int.mul_add, Int.mul_comm p b2, ← Int.mul_assoc]
    omega
  rw [e, Int.add_mul_emod_self_left, Int.emod_eq_of_lt (by omega) (by omega)]
theorem J_bits (i : Nat) : ∀ xs : List Int, J i (xs.map (· % 2 ^ i)) (xs.map fun x => x / 2 ^ i % 2) = xs.map (· % 2 ^ (i + 1))
  | [] => rfl
  | x :: xs => by
    show (x % 2 ^ i + x / 2 ^ i % 2 * 2 ^ i) :: J i (xs.map (· % 2 ^ i)) (xs.map fun x => x / 2 ^ i % 2) = (x % 2 ^ (i + 1)) :: xs.map (· % 2 ^ (i + 1))
    rw [J_bits i xs]
    congr 1
    exact emod_split i x
theorem J_len (b : Nat) (xs ys : List Int) (h : xs.length = ys.length) : (J b xs ys).length = xs.length := by
  unfold J
  rw [List.length_map, List.length_zip]
  omega
theorem J_mem {b : Nat} {xs ys : List Int} {z : Int} (h : z ∈ J b xs ys) : ∃ x ∈ xs, ∃ y ∈ ys, z = x + y * 2 ^ b := by
  obtain ⟨p, hp, e⟩ := List.mem_map.mp h
  exact ⟨p.1, (List.of_mem_zip hp).1, p.2, (List.of_mem_zip hp).2, e.symm⟩

theorem rep_zero {n : Int} {P : List Int → Prop} (h1 : 1 ≤ n) (h2 : n ≤ 1000) (p : P (List.replicate n.toNat 0)) : Tot (oRep ([(0 : Int)] : List Int) n) P := Tot.ite ⟨by simp, h1, h2, by decide⟩ (by
  rw [List.flatten_replicate_singleton]; exact p)
theorem built_ok {xs : List Int} {b : Int} (h0 : 0 ≤ b) (h1 : b ≤ 100) (hx : ∀ x ∈ xs, 0 ≤ x ∧ x < 2 ^ b.toNat) (n : Nat) (hn : n = xs.length) :
    Tot (foldO (fun (b24 : ((List Int))) (x23 : Int) => (((bind (mapO (fun (x25 : Int) => (((bind (oShr x25 x23) fun t27 => pure (some (Builtin.bitAnd t27 (1 : Int))))) : Option (Option Int))) xs) fun t29 => (bind (m_joined b24 t29 x23) fun r30 => pure (r30)))) : Option ((List Int)))) (rangeI 0 b) (List.replicate n 0)) (· = xs) := by
  have len : (rangeI 0 b).length = b.toNat := by rw [len_rangeI]; omega
  refine (Tot.fold (I := fun j c => c = xs.map (· % 2 ^ j)) _ _ 0 ?_ fun j x c hj hc => ?_).imp fun c hc => ?_
  · subst hn
    clear hx
    induction xs with
    | nil => rfl
    | cons x xs ih =>
      rw [List.length_cons, List.replicate_succ, List.map_cons, ih]
      congr 1
      show (0 : Int) = x % 1
      omega
  · rw [Nat.zero_add] at hc ⊢
    obtain ⟨ex, hj⟩ := rangeI_get hj
    subst hc
    have ex' : x = (j : Int) := by omega
    subst ex'
    rw [mapO_map (g := fun x : Int => x / 2 ^ j % 2) fun x _ => ?_]
    · show Tot (bind (m_joined _ _ _) _) _
      rw [joined_ok (by omega) (by omega) fun y hy => ?_]
      · exact Tot.ret (by rw [Int.toNat_natCast]; exact J_bits j xs)
      · obtain ⟨x, _, e⟩ := List.mem_map.mp hy
        have a := Int.emod_nonneg (x / 2 ^ j) (show (2 : Int) ≠ 0 by decide)
        have b := Int.emod_lt_of_pos (x / 2 ^ j) (show (0 : Int) < 2 by decide)
        exact sml64 (by omega) (by omega)
    · have : Tot (oShr x (j : Int)) (· = x / 2 ^ j) := tot_shr (by omega) (by rw [Int.toNat_natCast])
      rw [this.get]
      show some (some (Builtin.bitAnd _ (2 ^ 1 - 1))) = _
      rw [bitAnd_mask]
      rfl
  · rw [hc, len, Nat.zero_add]
    conv => rhs; rw [← List.map_id xs]
    exact List.map_congr_left fun x h => Int.emod_eq_of_lt (hx x h).1 (hx x h).2
theorem right_ok {k : Cup} {N : Int} (hk : CupOk k N) (hN : N ≤ 900000) : Tot (m_l_right k) fun r => r.1 = true ∧ CupOk r.2 (N + 100) := by
  unfold m_l_right
  refine Tot.bind (dip_ok hk (by omega) (by decide) (sml64 (by decide) (by decide))) fun r1 ⟨c0, c1, k1⟩ => ?_
  refine Tot.bind (dip_ok k1 (by omega) (by decide) (sml64 (by decide) (by decide))) fun r2 ⟨b0, b1, k2⟩ => ?_
  refine Tot.bind (numbers_ok k2 (by omega) (by omega) (by omega) b0 (by omega)) fun r3 ⟨l3, h3, k3⟩ => ?_
  refine Tot.bind (numbers_ok k3 (by omega) (by omega) (by omega) (by omega) (by omega)) fun r4 ⟨l4, h4, k4⟩ => ?_
  have p8 : (2 : Int) ^ r2.1.toNat ≤ 2 ^ 8 := two_pow_le (by omega)
  have p8' : (2 : Int) ^ 8 = 256 := by decide
  have h4' : ∀ y ∈ r4.1, 0 ≤ y ∧ y < 2 := fun y hy => h4 y hy
  have s4 : ∀ y ∈ r4.1, Sml y := fun y hy => by have := h4' y hy; exact sml64 (by omega) (by omega)
  have l34 : r3.1.length = r4.1.length := by omega
  rw [joined_ok b0 (by omega) s4]
  show Tot (bind (m_without_bit _ _) _) _
  have wide : ∀ z ∈ J r2.1.toNat r3.1 r4.1, 0 ≤ z ∧ z ≤ 512 := fun z hz => by
    obtain ⟨x, hx, y, hy, e⟩ := J_mem hz
    have := h3 x hx
    have q := h4' y hy
    have : y = 0 ∨ y = 1 := by omega
    rcases this with g | g <;> subst g <;> omega
  rw [without_ok b0 (by omega) fun z hz => by have := wide z hz; omega]
  show Tot (bind (bif !decide ((J r2.1.toNat r3.1 r4.1).map (wb r2.1.toNat) = r3.1) then _ else _) _) _
  rw [J_wb _ _ _ l34 h3 h4']
  simp only [decide_true, Bool.not_true, cond_false]
  have e13 : ((1 : Int) + r1.1).toNat = r3.1.length := by omega
  refine Tot.bind (P := (· = false)) (Tot.bind (P := (· = List.replicate r3.1.length 0)) (rep_zero (by omega) (by omega) (by rw [e13])) fun t7 e7 => ?_) fun t9 e9 => ?_
  · subst e7
    rw [joined_ok b0 (by omega) fun y hy => by rw [(List.mem_replicate.mp hy).2]; exact sml64 (by decide) (by decide)]
    show Tot (pure (!decide (J r2.1.toNat r3.1 (List.replicate r3.1.length 0) = r3.1))) _
    rw [J_zero]
    exact Tot.ret (by simp)
  subst e9
  rw [cond_false]
  refine Tot.bind (numbers_ok k4 (by omega) (by omega) (by omega) (by omega) (by omega)) fun r11 ⟨l11, h11, k11⟩ => ?_
  have h11' : ∀ y ∈ r11.1, 0 ≤ y ∧ y < 8 := fun y hy => h11 y hy
  have s11 : ∀ y ∈ r11.1, Sml y := fun y hy => by have := h11' y hy; exact sml64 (by omega) (by omega)
  rw [joined_ok (by omega) (by omega) s11]
  show Tot (bind (m_joined _ _ _) _) _
  rw [joined_ok (by omega) (by omega) s11]
  show Tot (bind (m_joined _ _ _) _) _
  rw [joined_ok (by omega) (by omega) fun z hz => by
    obtain ⟨x, hx, y, hy, e⟩ := J_mem hz
    have a := h4' x hx
    have b := h11' y hy
    have e' : z = x + y * 2 := e
    exact sml64 (by omega) (by omega)]
  show Tot (bif !decide (J (r2.1 + 1).toNat (J r2.1.toNat r3.1 r4.1) r11.1 = J r2.1.toNat r3.1 (J (1 : Int).toNat r4.1 r11.1)) then _ else _) _
  rw [show (r2.1 + 1).toNat = r2.1.toNat + 1 by omega, show (1 : Int).toNat = 1 from rfl, J_assoc]
  simp only [decide_true, Bool.not_true, cond_false]
  refine Tot.bind (dip_ok k11 (by omega) (by omega) (sml64 (by omega) (by omega))) fun r15 ⟨a0, a1, k15⟩ => ?_
  refine Tot.bind (dip_ok k15 (by omega) (by omega) (sml64 (by omega) (by omega))) fun r16 ⟨g0, g1, k16⟩ => ?_
  have fin : Tot (bind (oRep ([(0 : Int)] : List Int) ((1 : Int) + r1.1)) fun t33 => (bind (oRange 0 r2.1) fun t34 => (bind (foldO (fun (b36 : ((List Int))) (x35 : Int) => (((bind (mapO (fun (x37 : Int) => (((bind (oShr x37 x35) fun t39 => pure (some (Builtin.bitAnd t39 (1 : Int))))) : Option (Option Int))) r3.1) fun t41 => (bind (m_joined b36 t41 x35) fun r42 => pure (r42)))) : Option ((List Int)))) t34 (t33)) fun o43 => pure ((decide (o43 = r3.1)), r16.2)))) (fun r : Bool × Cup => r.1 = true ∧ CupOk r.2 (N + 100)) := by
    refine Tot.bind (P := (· = List.replicate r3.1.length 0)) (rep_zero (by omega) (by omega) (by rw [e13])) fun t7 e7 => ?_
    subst e7
    refine Tot.bind (P := (· = rangeI 0 r2.1)) (tot_range (by omega) (by omega) (by omega) (by omega) (by omega) rfl) fun t2 e2 => ?_
    subst e2
    refine Tot.bind (built_ok b0 (by omega) h3 _ rfl) fun o eo => ?_
    exact Tot.ret ⟨decide_eq_true eo, k16.mono (by omega)⟩
  refine Tot.cond (fun hc => ?_) fun _ => fin
  have hlt : r15.1 < r16.1 := of_decide_eq_true hc
  rw [without_ok g0 (by omega) fun z hz => by have := wide z hz; omega]
  show Tot (bind (m_without_bit _ _) _) _
  rw [without_ok a0 (by omega) fun z hz => by
    obtain ⟨x, hx, e⟩ := List.mem_map.mp hz
    have := wide x hx
    have := wb_bound (i := r16.1.toNat) this.1
    omega]
  show Tot (bind (m_without_bit _ _) _) _
  rw [without_ok a0 (by omega) fun z hz => by have := wide z hz; omega]
  show Tot (bind (m_without_bit _ _) _) _
  rw [without_ok (by omega) (by omega) fun z hz => by
    obtain ⟨x, hx, e⟩ := List.mem_map.mp hz
    have := wide x hx
    have := wb_bound (i := r15.1.toNat) this.1
    omega]
  rw [List.map_map, List.map_map]
  have ee : (J r2.1.toNat r3.1 r4.1).map (wb (r16.1 - 1).toNat ∘ wb r15.1.toNat) = (J r2.1.toNat r3.1 r4.1).map (wb r15.1.toNat ∘ wb r16.1.toNat) := List.map_congr_left fun z hz => by
    show wb _ (wb _ z) = wb _ (wb _ z)
    rw [show (r16.1 - 1).toNat = r16.1.toNat - 1 by omega]
    exact wb_swap (wide z hz).1 (by omega)
  show Tot (bif !decide (_ = _) then _ else _) _
  rw [ee]
  simp only [decide_true, Bool.not_true, cond_false]
  exact fin
theorem law_true (ns : List Int) (hl : ns.length ≤ 63) : m_law ns = some true := by
  refine Tot.get ?_
  unfold m_law
  refine Tot.bind (P := (· = rangeI 0 (max 1 (min 3 (ns.length : Int))))) (tot_range (by omega) (by omega) (by omega) (by omega) (by omega) rfl) fun t1 e1 => ?_
  subst e1
  refine Tot.bind (Tot.loopGo (I := fun _ _ => True) _ _ trivial fun j x b hj _ => ?_) fun o ⟨b, eo, _⟩ => ?_
  · obtain ⟨ex, hj⟩ := rangeI_get hj
    refine Tot.bind (cup_ok (by omega) (by omega)) fun c hc => ?_
    refine Tot.bind (P := (· = rangeI 0 4)) (tot_range (by decide) (by decide) (by decide) (by decide) (by decide) rfl) fun t6 e6 => ?_
    subst e6
    refine Tot.bind (Tot.lc (I := fun i (acc : List Bool) k => acc.all id = true ∧ CupOk k (100 * (i : Int))) _ _ 0 [] ⟨rfl, hc.mono (by omega)⟩ fun i x k acc hi ⟨h1, h2⟩ => ?_) fun r ⟨h1, h2⟩ => ?_
    · obtain ⟨_, hi⟩ := rangeI_get hi
      rw [Nat.zero_add] at h2 ⊢
      refine Tot.bind (right_ok h2 (by omega)) fun q ⟨q1, q2⟩ => Tot.ret ⟨?_, q2.mono (by omega)⟩
      show (acc ++ [q.1]).all id = true
      rw [List.all_append, h1, q1]
      rfl
    · rw [List.nil_append] at h1
      rw [h1]
      exact Tot.ret ⟨(), rfl, trivial⟩
  · subst eo
    exact Tot.ret rfl
theorem law_end {K : PySem.W.Frag} {H : Hp} {a : Addr} {ns : List Int} {E : XK} (hl : ns.length ≤ 63) (hO : Only H) (hS : SqL K H a (ns.map V.int)) : sp_law K [.ref a] H (fun v _ => v = .bl true) E := law_of hl hS (law_true ns hl)

end LW
open PySem PySem.W PyProof.Rows in
set_option maxHeartbeats 0 in
theorem PySem.Challenge.cw_maskgroups_k44_bits_there_and_back_holds : PySem.Challenge.rw_maskgroups_k44_bits_there_and_back.Holds := by
  w_on; o_law; k_head; (case hw => w_witness2)
  k_fill
  refine L2.walk_of (l := PySem.Challenge.rw_maskgroups_k44_bits_there_and_back) (n := 63) (k := 4) (x := "_law_script") (CX := fun _ => L2.CX0) (sp := fun w => LW.sp_law _) rfl (by decide) rfl ⟨rfl, by decide, by decide⟩ (fun w h Y => PySem.W.kIn_of Y) ?F (fun w H a ns hl hO hS => LW.law_end hl hO hS) (fun _ _ _ _ _ h => h)
  case F =>
    intro w mg fa h KX G hmg
    refine' LW.all_mk KX G hmg ?a0 ?l0 ?c0 ?k0 ?a1 ?l1 ?c1 ?k1 ?a2 ?l2 ?c2 ?k2 ?a3 ?l3 ?c3 ?k3 ?a4 ?l4 ?c4 ?k4 ?a5 ?l5 ?c5 ?k5 ?a6 ?l6 ?c6 ?k6 ?z_abs ?z_all ?z_int ?z_len ?z_max ?z_min ?z_range ?z_tuple ?z_zip
    (case a0 => k_is); (case l0 => k_is); (case c0 => k_is); (case k0 => k_is); (case a1 => k_is); (case l1 => k_is); (case c1 => k_is); (case k1 => k_is); (case a2 => k_is); (case l2 => k_is); (case c2 => k_is); (case k2 => k_is); (case a3 => k_is); (case l3 => k_is); (case c3 => k_is); (case k3 => k_is); (case a4 => k_is); (case l4 => k_is); (case c4 => k_is); (case k4 => k_is); (case a5 => k_is); (case l5 => k_is); (case c5 => k_is); (case k5 => k_is); (case a6 => k_is); (case l6 => k_is); (case c6 => k_is); (case k6 => k_is); (case z_abs => k_is); (case z_all => k_is); (case z_int => k_is); (case z_len => k_is); (case z_max => k_is); (case z_min => k_is); (case z_range => k_is); (case z_tuple => k_is); (case z_zip => k_is)
