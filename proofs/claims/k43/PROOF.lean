import PyProof.Rows.All
import Wide.All
import OpenK.AllK
import Wide.FinOn
import HandS.ForMost
import HandS.ForExc
import HandS.Walk
import HandS.CallSlots
import HandS.Star
import HandS.Wide
import HandS.WideBits
import HandS.Defaults
import HandS.MakeKwOnly
import HandS.More
import PyProof.ReprRoads
import HandS.Ends
import HandS.Style
import HandS.HeadHook1
import HandS.HeadHook2
import HandS.MakeKw
import HandS.Steps
import PyProof.ReprBulk
import PyProof.P3Eq
import HandS.IsInst
import KE.KStateDown
import HandS.Head0
import HandS.Head1
import HandS.Head2
import HandS.HeadEnd
import PySem.Challenge.RW_bankfolk_k43_how_many_crossings_and_whos
set_option Elab.async false
set_option linter.all false
set_option maxRecDepth 100000
set_option maxHeartbeats 0
set_option autoImplicit false
section
/-! G0: a state is told by plain data: what is frozen (S), what is owned (C); typed values; the judgements. -/
namespace G
open PySem L2

/-! ### heaps: the owned over the frozen -/
def ov (S C : Hp) : Hp := fun a => match C a with | some o => some o | none => S a
theorem ov_C {S C : Hp} {a : Addr} {o : HO} (h : C a = some o) : ov S C a = some o := by unfold ov; rw [h]
theorem ov_S {S C : Hp} {a : Addr} (h : C a = none) : ov S C a = S a := by unfold ov; rw [h]
theorem ov_none {S C : Hp} {a : Addr} (h : ov S C a = none) : C a = none ∧ S a = none := by
  unfold ov at h
  cases q : C a with
  | none => rw [q] at h; exact ⟨rfl, h⟩
  | some o => rw [q] at h; cases h
theorem ov_updC {S C : Hp} {p : Addr} {o : HO} : upd (ov S C) p o = ov S (upd C p o) := by
  funext a
  by_cases h : a = p
  · subst h; rw [upd_same, ov_C upd_same]
  · rw [upd_ne h]
    unfold ov
    rw [upd_ne h]
theorem ov_updS {S C : Hp} {p : Addr} {o : HO} (h : C p = none) : upd (ov S C) p o = ov (upd S p o) C := by
  funext a
  by_cases e : a = p
  · subst e; rw [upd_same, ov_S h, upd_same]
  · rw [upd_ne e]
    unfold ov
    rw [upd_ne e]
theorem Same.new {H : Hp} {p : Addr} {o : HO} (h : H p = none) : Same H (upd H p o) := fun a u e => by
  rw [upd_ne (ne_of_none e h)]
  exact e

/-! ### typed values -/
structure Ty (α : Type) where
  at_ : Hp → V → α → Prop
  mono : ∀ {S S' : Hp} {v : V} {x : α}, Same S S' → at_ S v x → at_ S' v x
structure Tv where
  {α : Type}
  T : Ty α
  x : α
def Tv.at_ (t : Tv) (S : Hp) (v : V) : Prop := t.T.at_ S v t.x
theorem Tv.mono {t : Tv} {S S' : Hp} {v : V} (s : Same S S') (h : t.at_ S v) : t.at_ S' v := t.T.mono s h
inductive Pr {α : Type _} {β : Type _} (R : α → β → Prop) : List α → List β → Prop
  | nil : Pr R [] []
  | cons {a : α} {b : β} {as : List α} {bs : List β} : R a b → Pr R as bs → Pr R (a :: as) (b :: bs)
theorem Pr.length {α : Type _} {β : Type _} {R : α → β → Prop} : ∀ {as : List α} {bs : List β}, Pr R as bs → as.length = bs.length
  | _, _, .nil => rfl
  | _, _, .cons _ t => by rw [List.length_cons, List.length_cons, Pr.length t]
theorem Pr.append {α : Type _} {β : Type _} {R : α → β → Prop} : ∀ {as as' : List α} {bs bs' : List β}, Pr R as bs → Pr R as' bs' → Pr R (as ++ as') (bs ++ bs')
  | _, _, _, _, .nil, h => h
  | _, _, _, _, .cons r t, h => .cons r (Pr.append t h)
def ArgsAt (S : Hp) (vs : List V) (ts : List Tv) : Prop := Pr (fun (v : V) (t : Tv) => t.at_ S v) vs ts
theorem ArgsAt.mono {S S' : Hp} (s : Same S S') : ∀ {vs : List V} {ts : List Tv}, ArgsAt S vs ts → ArgsAt S' vs ts
  | _, _, .nil => .nil
  | _, _, .cons h r => .cons (Tv.mono s h) (ArgsAt.mono s r)
/-- a list of one type -/
def AllAt {α : Type} (T : Ty α) (S : Hp) (vs : List V) (xs : List α) : Prop := Paired (T.at_ S) vs xs
theorem AllAt.mono {α : Type} {T : Ty α} {S S' : Hp} (s : Same S S') : ∀ {vs : List V} {xs : List α}, AllAt T S vs xs → AllAt T S' vs xs
  | _, _, .nil => .nil
  | _, _, .cons h r => .cons (T.mono s h) (AllAt.mono s r)
theorem AllAt.length {α : Type} {T : Ty α} {S : Hp} {vs : List V} {xs : List α} (h : AllAt T S vs xs) : vs.length = xs.length := Paired.length h
theorem AllAt.get {α : Type} {T : Ty α} {S : Hp} : ∀ {vs : List V} {xs : List α} {i : Nat} {x : α}, AllAt T S vs xs → xs[i]? = some x → ∃ v, vs[i]? = some v ∧ T.at_ S v x
  | _, _, _, _, .nil, e => by simp at e
  | _, _, 0, _, .cons r _, e => by simp at e; subst e; exact ⟨_, rfl, r⟩
  | _, _, i + 1, x, .cons _ t, e => by
    obtain ⟨u, h1, h2⟩ := AllAt.get (i := i) (x := x) t (by simpa using e)
    exact ⟨u, by simpa using h1, h2⟩
theorem AllAt.getV {α : Type} {T : Ty α} {S : Hp} : ∀ {vs : List V} {xs : List α} {i : Nat} {v : V}, AllAt T S vs xs → vs[i]? = some v → ∃ x, xs[i]? = some x ∧ T.at_ S v x
  | _, _, _, _, .nil, e => by simp at e
  | _, _, 0, _, .cons r _, e => by simp at e; subst e; exact ⟨_, rfl, r⟩
  | _, _, i + 1, x, .cons _ t, e => by
    obtain ⟨u, h1, h2⟩ := AllAt.getV (i := i) (v := x) t (by simpa using e)
    exact ⟨u, by simpa using h1, h2⟩
theorem AllAt.append {α : Type} {T : Ty α} {S : Hp} : ∀ {vs ws : List V} {xs ys : List α}, AllAt T S vs xs → AllAt T S ws ys → AllAt T S (vs ++ ws) (xs ++ ys)
  | _, _, _, _, .nil, h => h
  | _, _, _, _, .cons r t, h => .cons r (AllAt.append t h)
theorem AllAt.snoc {α : Type} {T : Ty α} {S : Hp} {vs : List V} {xs : List α} {v : V} {x : α} (h : AllAt T S vs xs) (r : T.at_ S v x) : AllAt T S (vs ++ [v]) (xs ++ [x]) := h.append (.cons r .nil)
theorem AllAt.take {α : Type} {T : Ty α} {S : Hp} : ∀ {vs : List V} {xs : List α} (n : Nat), AllAt T S vs xs → AllAt T S (vs.take n) (xs.take n)
  | _, _, 0, _ => .nil
  | _, _, _ + 1, .nil => .nil
  | _, _, n + 1, .cons r t => .cons r (AllAt.take n t)
theorem AllAt.drop {α : Type} {T : Ty α} {S : Hp} : ∀ {vs : List V} {xs : List α} (n : Nat), AllAt T S vs xs → AllAt T S (vs.drop n) (xs.drop n)
  | _, _, 0, h => h
  | _, _, _ + 1, .nil => .nil
  | _, _, n + 1, .cons r t => AllAt.drop n t
theorem AllAt.set {α : Type} {T : Ty α} {S : Hp} {v : V} {x : α} (r : T.at_ S v x) : ∀ {vs : List V} {xs : List α} (i : Nat), AllAt T S vs xs → AllAt T S (vs.set i v) (xs.set i x)
  | _, _, _, .nil => .nil
  | _, _, 0, .cons _ t => .cons r t
  | _, _, i + 1, .cons q t => .cons q (AllAt.set r i t)
theorem AllAt.insert {α : Type} {T : Ty α} {S : Hp} {v : V} {x : α} (r : T.at_ S v x) {vs : List V} {xs : List α} (i : Nat) (h : AllAt T S vs xs) : AllAt T S (vs.take i ++ v :: vs.drop i) (xs.take i ++ x :: xs.drop i) :=
  (h.take i).append (.cons r (h.drop i))

/-! ### owned things -/
structure Ow where
  as : List Addr
  at_ : Hp → Hp → Prop
  mono : ∀ {S S' C : Hp}, Same S S' → at_ S C → at_ S' C
  loc : ∀ {S C C' : Hp}, (∀ a ∈ as, C' a = C a) → at_ S C → at_ S C'
  al : ∀ {S C : Hp}, at_ S C → ∀ a ∈ as, C a ≠ none
def foot (O : List Ow) : List Addr := O.flatMap Ow.as
theorem foot_append (O O' : List Ow) : foot (O ++ O') = foot O ++ foot O' := List.flatMap_append
theorem mem_foot {O : List Ow} {a : Addr} : a ∈ foot O ↔ ∃ w ∈ O, a ∈ w.as := List.mem_flatMap
structure Wd (S C F : Hp) (O : List Ow) : Prop where
  own : ∀ w ∈ O, w.at_ S C
  rest : ∀ a, a ∉ foot O → C a = F a
  dis : ∀ a, C a ≠ none → S a = none
  nd : (foot O).Nodup
  ff : ∀ a ∈ foot O, F a = none
section
variable {S S' C C' F : Hp} {O O' : List Ow} {p : Addr} {o : HO}
theorem Wd.al (h : Wd S C F O) {a : Addr} (ha : a ∈ foot O) : C a ≠ none := by
  obtain ⟨w, hw, hm⟩ := mem_foot.mp ha
  exact w.al (h.own w hw) a hm
theorem Wd.notin (h : Wd S C F O) {a : Addr} (ha : C a = none) : a ∉ foot O := fun hm => h.al hm ha
/-- a new frozen object -/
theorem Wd.laid (h : Wd S C F O) (hp : ov S C p = none) : Wd (upd S p o) C F O := by
  obtain ⟨h1, h2⟩ := ov_none hp
  refine ⟨fun w hw => w.mono (Same.new h2) (h.own w hw), h.rest, fun a ha => ?_, h.nd, h.ff⟩
  have : a ≠ p := fun e => ha (e ▸ h1)
  rw [upd_ne this]
  exact h.dis a ha
/-- a foreign thing changes -/
theorem Wd.foreign {D : Addr} {o' : HO} (h : Wd S C F O) (hF : F D = some o) : Wd S (upd C D o') (upd F D o') O := by
  have nf : D ∉ foot O := fun hm => by rw [h.ff D hm] at hF; cases hF
  have hC : C D = some o := by rw [h.rest D nf]; exact hF
  refine ⟨fun u hu => u.loc (fun a ha => upd_ne fun e => nf (by rw [← e]; exact mem_foot.mpr ⟨u, hu, ha⟩)) (h.own u hu), fun a hn => ?_, fun a hn => ?_, h.nd, fun a ha => ?_⟩
  · by_cases e : a = D
    · rw [e, upd_same, upd_same]
    · rw [upd_ne e, upd_ne e]; exact h.rest a hn
  · by_cases e : a = D
    · rw [e]; exact h.dis D (by rw [hC]; exact Option.some_ne_none _)
    · rw [upd_ne e] at hn; exact h.dis a hn
  · rw [upd_ne fun e => nf (by rw [← e]; exact ha)]; exact h.ff a ha
/-- a new foreign thing -/
theorem Wd.alien {D : Addr} (h : Wd S C F O) (hp : ov S C D = none) : Wd S (upd C D o) (upd F D o) O := by
  obtain ⟨h1, h2⟩ := ov_none hp
  have nf : D ∉ foot O := h.notin h1
  refine ⟨fun u hu => u.loc (fun a ha => upd_ne fun e => nf (by rw [← e]; exact mem_foot.mpr ⟨u, hu, ha⟩)) (h.own u hu), fun a hn => ?_, fun a hn => ?_, h.nd, fun a ha => ?_⟩
  · by_cases e : a = D
    · rw [e, upd_same, upd_same]
    · rw [upd_ne e, upd_ne e]; exact h.rest a hn
  · by_cases e : a = D
    · rw [e]; exact h2
    · rw [upd_ne e] at hn; exact h.dis a hn
  · rw [upd_ne fun e => nf (by rw [← e]; exact ha)]; exact h.ff a ha
/-- a foreign thing becomes one's own -/
theorem Wd.taken {D : Addr} (h : Wd S C (upd F D o) O) (hF : F D = none) (w : Ow) (ha : w.as = [D]) (hw : w.at_ S C) : Wd S C F (O ++ [w]) := by
  have nf : D ∉ foot O := fun hm => by have := h.ff D hm; rw [upd_same] at this; cases this
  have ef : foot (O ++ [w]) = foot O ++ [D] := by rw [foot_append]; simp [foot, ha]
  refine ⟨fun u hu => ?_, fun a hn => ?_, h.dis, ?_, fun a hm => ?_⟩
  · rcases List.mem_append.mp hu with hu | hu
    · exact h.own u hu
    · obtain rfl : u = w := by simpa using hu
      exact hw
  · rw [ef] at hn
    have e : a ≠ D := fun e => hn (by simp [e])
    have := h.rest a fun hm => hn (by simp [hm])
    rw [upd_ne e] at this
    exact this
  · rw [ef]
    exact List.nodup_append.mpr ⟨h.nd, by simp, fun a ha b hb e => nf (by simp at hb; rw [← hb, ← e]; exact ha)⟩
  · rw [ef] at hm
    rcases List.mem_append.mp hm with hm | hm
    · have := h.ff a hm
      rw [upd_ne fun e => nf (by rw [← e]; exact hm)] at this
      exact this
    · obtain rfl : a = D := by simpa using hm
      exact hF
theorem Wd.grow (h : Wd S C F O) (s : Same S S') (d : ∀ a, C a ≠ none → S' a = none) : Wd S' C F O :=
  ⟨fun w hw => w.mono s (h.own w hw), h.rest, d, h.nd, h.ff⟩
/-- a new owned thing -/
theorem Wd.made (h : Wd S C F O) (hp : ov S C p = none) (w : Ow) (ha : w.as = [p]) (hw : w.at_ S (upd C p o)) : Wd S (upd C p o) F (O ++ [w]) := by
  obtain ⟨h1, h2⟩ := ov_none hp
  have np : p ∉ foot O := h.notin h1
  have ef : foot (O ++ [w]) = foot O ++ [p] := by rw [foot_append]; simp [foot, ha]
  refine ⟨fun u hu => ?_, fun a hn => ?_, fun a hn => ?_, ?_, fun a hm => ?_⟩
  · rcases List.mem_append.mp hu with hu | hu
    · refine u.loc (fun a hm => upd_ne fun e => np ?_) (h.own u hu)
      rw [← e]; exact mem_foot.mpr ⟨u, hu, hm⟩
    · obtain rfl : u = w := by simpa using hu
      exact hw
  · rw [ef] at hn
    have : a ≠ p := fun e => hn (by simp [e])
    rw [upd_ne this]
    exact h.rest a fun hm => hn (by simp [hm])
  · by_cases e : a = p
    · rw [e]; exact h2
    · rw [upd_ne e] at hn; exact h.dis a hn
  · rw [ef]
    exact List.nodup_append.mpr ⟨h.nd, by simp, fun a ha b hb e => np (by simp at hb; rw [← hb, ← e]; exact ha)⟩
  · rw [ef] at hm
    rcases List.mem_append.mp hm with hm | hm
    · exact h.ff a hm
    · obtain rfl : a = p := by simpa using hm
      rw [← h.rest a np]; exact h1
theorem foot_set {j : Nat} {w w' : Ow} (hj : O[j]? = some w) (e : w'.as = w.as) : foot (O.set j w') = foot O := by
  induction O generalizing j with
  | nil => simp at hj
  | cons u O ih =>
    cases j with
    | zero =>
      simp at hj
      subst hj
      simp [foot, e]
    | succ j =>
      have := ih (j := j) (by simpa using hj)
      simpa [foot] using this
theorem foot_split {j : Nat} {w : Ow} (hj : O[j]? = some w) : O = O.take j ++ w :: O.drop (j + 1) := by
  obtain ⟨hlt, he⟩ := List.getElem?_eq_some_iff.mp hj
  rw [← he, List.getElem_cons_drop, List.take_append_drop]
theorem foot_erase {j : Nat} {w : Ow} (hj : O[j]? = some w) : (foot O).Perm (w.as ++ foot (O.eraseIdx j)) := by
  have e := foot_split hj
  have : O.eraseIdx j = O.take j ++ O.drop (j + 1) := List.eraseIdx_eq_take_drop_succ O j
  rw [this, foot_append]
  conv => lhs; rw [e, foot_append]
  show (foot (O.take j) ++ (w.as ++ foot (O.drop (j + 1)))).Perm _
  rw [← List.append_assoc, ← List.append_assoc]
  exact List.Perm.append_right _ List.perm_append_comm
/-- an owned thing changes (within its own footprint) -/
theorem Wd.change (h : Wd S C F O) {j : Nat} {w w' : Ow} (hj : O[j]? = some w) (e : w'.as = w.as) (hp : ∀ a, a ∉ w.as → C' a = C a) (hw : w'.at_ S C') (hd : ∀ a ∈ w.as, S a = none) : Wd S C' F (O.set j w') := by
  have hwm : w ∈ O := List.mem_of_getElem? hj
  have ef : foot (O.set j w') = foot O := foot_set hj e
  have hnd : ∀ u ∈ O.eraseIdx j, ∀ a ∈ u.as, a ∉ w.as := fun u hu a ha hm => by
    have nd := (foot_erase hj).nodup_iff.mp h.nd
    exact (List.nodup_append.mp nd).2.2 a hm a (mem_foot.mpr ⟨u, hu, ha⟩) rfl
  refine ⟨fun u hu => ?_, fun a hn => ?_, fun a hn => ?_, by rw [ef]; exact h.nd, fun a hm => h.ff a (by rw [← ef]; exact hm)⟩
  · rw [List.mem_iff_getElem?] at hu
    obtain ⟨i, hi⟩ := hu
    by_cases hij : i = j
    · subst hij
      rw [List.getElem?_set_self (List.getElem?_eq_some_iff.mp hj).1] at hi
      cases hi
      exact hw
    · rw [List.getElem?_set_ne (Ne.symm hij)] at hi
      have hm : u ∈ O.eraseIdx j := List.mem_eraseIdx_iff_getElem?.mpr ⟨i, hij, hi⟩
      exact u.loc (fun a ha => hp a (hnd u hm a ha)) (h.own u (List.mem_of_getElem? hi))
  · rw [ef] at hn
    rw [hp a fun hm => hn (mem_foot.mpr ⟨w, hwm, hm⟩)]
    exact h.rest a hn
  · by_cases hm : a ∈ w.as
    · exact hd a hm
    · rw [hp a hm] at hn
      exact h.dis a hn
theorem Wd.changeAt (h : Wd S C F O) {j : Nat} {w w' : Ow} (hj : O[j]? = some w) (e1 : w.as = [p]) (e : w'.as = [p]) (hw : w'.at_ S (upd C p o)) : Wd S (upd C p o) F (O.set j w') := by
  have hm : p ∈ foot O := mem_foot.mpr ⟨w, List.mem_of_getElem? hj, by rw [e1]; simp⟩
  exact h.change hj (e.trans e1.symm) (fun a hn => upd_ne fun e => hn (by rw [e1, e]; simp)) hw fun a ha => by
    rw [e1] at ha
    obtain rfl : a = p := by simpa using ha
    exact h.dis _ (h.al hm)
/-- an owned thing is frozen -/
def del (H : Hp) (a : Addr) : Hp := fun b => if b = a then none else H b
theorem del_ne {H : Hp} {a b : Addr} (h : b ≠ a) : del H a b = H b := if_neg h
theorem del_same {H : Hp} {a : Addr} : del H a a = none := if_pos rfl
theorem ov_freeze (h : C p = some o) : ov (upd S p o) (del C p) = ov S C := by
  funext a
  by_cases e : a = p
  · subst e
    rw [ov_S del_same, upd_same, ov_C h]
  · unfold ov
    rw [del_ne e, upd_ne e]
theorem Wd.freeze (h : Wd S C F O) {j : Nat} {w : Ow} (hj : O[j]? = some w) (e1 : w.as = [p]) : Wd (upd S p o) (del C p) F (O.eraseIdx j) ∧ Same S (upd S p o) := by
  have hwm : w ∈ O := List.mem_of_getElem? hj
  have hm : p ∈ foot O := mem_foot.mpr ⟨w, hwm, by rw [e1]; simp⟩
  have hS : S p = none := h.dis _ (h.al hm)
  have hs : Same S (upd S p o) := Same.new hS
  have pf := foot_erase hj
  rw [e1] at pf
  have nd := pf.nodup_iff.mp h.nd
  have np : p ∉ foot (O.eraseIdx j) := (List.nodup_cons.mp nd).1
  refine ⟨⟨fun u hu => ?_, fun a hn => ?_, fun a hn => ?_, (List.nodup_cons.mp nd).2, fun a ha => h.ff a (pf.mem_iff.mpr (by simp [ha]))⟩, hs⟩
  · refine u.mono hs (u.loc (fun a ha => del_ne fun e => np ?_) (h.own u (List.mem_of_mem_eraseIdx hu)))
    rw [← e]; exact mem_foot.mpr ⟨u, hu, ha⟩
  · by_cases e : a = p
    · rw [e, del_same]; exact (h.ff p hm).symm
    · rw [del_ne e]
      exact h.rest a fun hm' => by
        have := pf.mem_iff.mp hm'
        simp [e] at this
        exact hn this
  · have e : a ≠ p := fun e => hn (by rw [e, del_same])
    rw [del_ne e] at hn
    rw [upd_ne e]
    exact h.dis a hn
end

/-! ### the frame's slots -/
abbrev Ctx := List (Option Tv)
structure EnvOk (S : Hp) (σ : L2.St) (Γ : Ctx) : Prop where
  len : σ.length = Γ.length
  get : ∀ (i : Nat) (t : Tv), Γ[i]? = some (some t) → ∃ v, σ[i]? = some (some v) ∧ t.at_ S v
theorem EnvOk.mono {S S' : Hp} {σ : L2.St} {Γ : Ctx} (s : Same S S') (h : EnvOk S σ Γ) : EnvOk S' σ Γ :=
  ⟨h.len, fun i t e => let ⟨v, h1, h2⟩ := h.get i t e; ⟨v, h1, Tv.mono s h2⟩⟩
theorem EnvOk.set {S : Hp} {σ : L2.St} {Γ : Ctx} {t : Tv} {v : V} (i : Nat) (h : EnvOk S σ Γ) (hv : t.at_ S v) : EnvOk S (σ.set i (some v)) (Γ.set i (some t)) := by
  refine ⟨by rw [List.length_set, List.length_set, h.len], fun k u e => ?_⟩
  by_cases hk : k = i
  · subst hk
    by_cases hl : k < Γ.length
    · rw [List.getElem?_set_self hl] at e
      cases e
      exact ⟨v, by rw [List.getElem?_set_self (by rw [h.len]; exact hl)], hv⟩
    · rw [List.getElem?_eq_none (by rw [List.length_set]; omega)] at e
      cases e
  · rw [List.getElem?_set_ne (Ne.symm hk)] at e ⊢
    exact h.get k u e
/-- to know less -/
theorem EnvOk.weak {S : Hp} {σ : L2.St} {Γ Γ' : Ctx} (h : EnvOk S σ Γ) (hl : Γ'.length = Γ.length) (hw : ∀ (i : Nat) (t : Tv), Γ'[i]? = some (some t) → Γ[i]? = some (some t)) : EnvOk S σ Γ' :=
  ⟨by rw [h.len, hl], fun i t e => h.get i t (hw i t e)⟩

/-! ### exceptions -/
structure Ex where
  C : Addr
  fs : List (Str × Tv)
def FldAt (S : Hp) (vs : List (Str × V)) (fs : List (Str × Tv)) : Prop := Pr (fun (p : Str × V) (q : Str × Tv) => p.1 = q.1 ∧ q.2.at_ S p.2) vs fs
theorem FldAt.mono {S S' : Hp} (s : Same S S') : ∀ {vs : List (Str × V)} {fs : List (Str × Tv)}, FldAt S vs fs → FldAt S' vs fs
  | _, _, .nil => .nil
  | _, _, .cons h r => .cons ⟨h.1, Tv.mono s h.2⟩ (FldAt.mono s r)
theorem FldAt.look {S : Hp} {f : Str} : ∀ {vs : List (Str × V)} {fs : List (Str × Tv)} {t : Tv}, FldAt S vs fs → fs.lookup f = some t → ∃ v, vs.lookup f = some v ∧ t.at_ S v
  | _, _, _, .nil, e => by cases e
  | (g, v) :: _, (g', t) :: _, u, .cons h r, e => by
    have hg : g = g' := h.1
    subst hg
    rw [List.lookup_cons] at e ⊢
    cases q : f == g with
    | true =>
      rw [q] at e
      cases e
      exact ⟨v, rfl, h.2⟩
    | false =>
      rw [q] at e
      exact FldAt.look r e
def ExAt (S : Hp) (cls : Value) (d : Option Addr) (x : Ex) : Prop := cls = .ref x.C ∧ ∃ dx vs, d = some dx ∧ S dx = some (.xd vs) ∧ FldAt S vs x.fs

/-! ### the context of a body, and the judgements -/
structure Gc where
  X : Cx
  F : Hp
  S0 : Hp
  W : WX
  Z : Ctx → List Ow → Ex → Prop
structure Now (g : Gc) (Γ : Ctx) (O : List Ow) (σ : L2.St) (S C : Hp) : Prop where
  sm : Same g.S0 S
  en : EnvOk S σ Γ
  wd : Wd S C g.F O
structure Gc.Ok (g : Gc) : Prop where
  tk : Takes g.X g.W
  pw : PassesOwn (model g.X.prog g.X.w) g.X.A g.X.env g.X.xe
  gd : g.X.A.guards = some []
  lk : ∀ Γ O σ S C cls d x, Now g Γ O σ S C → ExAt S cls d x → g.Z Γ O x → g.W cls d σ (ov S C)
theorem Now.wdS {g : Gc} {Γ : Ctx} {O O' : List Ow} {σ : L2.St} {S S' C C' : Hp} (n : Now g Γ O σ S C) (s : Same S S') (w : Wd S' C' g.F O') : Now g Γ O' σ S' C' :=
  ⟨n.sm.trans s, n.en.mono s, w⟩
theorem Now.set {g : Gc} {Γ : Ctx} {O : List Ow} {σ : L2.St} {S C : Hp} {t : Tv} {v : V} (i : Nat) (n : Now g Γ O σ S C) (h : t.at_ S v) : Now g (Γ.set i (some t)) O (σ.set i (some v)) S C :=
  ⟨n.sm, n.en.set i h, n.wd⟩

def tE (X : Cx) (e : Expr) : TE := fun σ H Q => ∃ t, PE X e t ∧ t σ H Q
theorem pe_tE {X : Cx} {e : Expr} : PE X e (tE X e) := ⟨fun pins s σ H Q I h => let ⟨t, p, q⟩ := h; p.run pins s σ H Q I q⟩
def tT (X : Cx) (e : Expr) : TT := fun σ H Q => ∃ t, PT X e t ∧ t σ H Q
theorem pt_tT {X : Cx} {e : Expr} : PT X e (tT X e) := ⟨fun pins s σ H Q I h => let ⟨t, p, q⟩ := h; p.run pins s σ H Q I q⟩
def tW (X : Cx) (e : Expr) : TT := fun σ H Q => ∃ t, PW X e t ∧ t σ H Q
theorem pw_tW {X : Cx} {e : Expr} : PW X e (tW X e) := ⟨fun wh pins s σ H Q I h => let ⟨t, p, q⟩ := h; p.run wh pins s σ H Q I q⟩
def tA (X : Cx) (e : List Expr) : TA := fun σ H Q => ∃ t, PA X e t ∧ t σ H Q
theorem pa_tA {X : Cx} {e : List Expr} : PA X e (tA X e) := ⟨fun p pins s σ H Q I h => let ⟨t, q, r⟩ := h; q.run p pins s σ H Q I r⟩
def tKw (X : Cx) (e : List Keyword) : TA := fun σ H Q => ∃ t, PK X e t ∧ t σ H Q
theorem pk_tKw {X : Cx} {e : List Keyword} : PK X e (tKw X e) := ⟨fun p pins s σ H Q I h => let ⟨t, q, r⟩ := h; q.run p pins s σ H Q I r⟩
def tS (X : Cx) (e : Stmt) : TS := fun D σ H => ∃ t, PS X e t ∧ t D σ H
theorem ps_tS {X : Cx} {e : Stmt} : PS X e (tS X e) := ⟨fun pins s σ H D I h => let ⟨t, p, q⟩ := h; p.run pins s σ H D I q⟩
def tSs (X : Cx) (e : List Stmt) : TS := fun D σ H => ∃ t, PSs X e t ∧ t D σ H
theorem ps_tSs {X : Cx} {e : List Stmt} : PSs X e (tSs X e) := ⟨fun pins s σ H D I h => let ⟨t, p, q⟩ := h; p.run pins s σ H D I q⟩
def tG (X : Cx) (e : Expr) : TG := fun v σ H Q => ∃ t, PG X e t ∧ t v σ H Q
theorem pg_tG {X : Cx} {e : Expr} : PG X e (tG X e) := ⟨fun pins s σ H v u Q I rv h => let ⟨t, p, q⟩ := h; p.run pins s σ H v u Q I rv q⟩
def tGs (X : Cx) (e : List Expr) : TGs := fun v σ H Q => ∃ t, PGs X e t ∧ t v σ H Q
theorem pg_tGs {X : Cx} {e : List Expr} : PGs X e (tGs X e) := ⟨fun pins s σ H v u Q I rv h => let ⟨t, p, q⟩ := h; p.run pins s σ H v u Q I rv q⟩
def tI (X : Cx) (tg e : Expr) : TI := fun σ H R => ∃ t, PI X tg e t ∧ t σ H R
theorem pi_tI {X : Cx} {tg e : Expr} : PI X tg e (tI X tg e) := ⟨fun pins s σ H R I h => let ⟨t, p, q⟩ := h; p.run pins s σ H R I q⟩
def tR (X : Cx) (f : Value → Value → Sem Value) : R2 := fun x y H Q => ∃ r, OpR X f r ∧ r x y H Q
theorem op_tR {X : Cx} {f : Value → Value → Sem Value} : OpR X f (tR X f) := fun pins s σ H x y v u Q I rx ry h => let ⟨r, p, q⟩ := h; p pins s σ H x y v u Q I rx ry q
def tU (X : Cx) (f : Value → Sem Value) : V → Hp → VK → Prop := fun x H Q => ∃ r, UnR X f r ∧ r x H Q
theorem un_tU {X : Cx} {f : Value → Sem Value} : UnR X f (tU X f) := fun pins s σ H x v Q I rx h => let ⟨r, p, q⟩ := h; p pins s σ H x v Q I rx q
def tX (X : Cx) : R2 := fun x y H Q => ∃ r, IxR X r ∧ r x y H Q
theorem ix_tX {X : Cx} : IxR X (tX X) := fun vl sl pins s σ H x y v u Q I rx ry h e => let ⟨r, p, q⟩ := h; p vl sl pins s σ H x y v u Q I rx ry q e
def tC' (X : Cx) (f : Value) : List V → Hp → VK → Prop := fun xs H Q => ∃ r, CallR X f r ∧ r xs H Q
theorem call_tC {X : Cx} {f : Value} : CallR X f (tC' X f) := fun pins s σ H xs us Q I rx h => let ⟨r, p, q⟩ := h; p pins s σ H xs us Q I rx q

/-- P of the value (with what is known of it) and the owned things behind -/
abbrev PK' := Tv → List Ow → Prop
/-- what an expression's reading is asked to bring -/
def Kont (g : Gc) (S : Hp) (P : PK') (Q : VK) : Prop := ∀ t O' v S' C', Same S S' → Wd S' C' g.F O' → t.at_ S' v → P t O' → Q v (ov S' C')
theorem Kont.mono {g : Gc} {S S' : Hp} {P : PK'} {Q : VK} (s : Same S S') (k : Kont g S P Q) : Kont g S' P Q := fun t O' v S2 C' s2 w a p => k t O' v S2 C' (s.trans s2) w a p
theorem Kont.ret {g : Gc} {S C : Hp} {O : List Ow} {P : PK'} {Q : VK} {t : Tv} {v : V} (k : Kont g S P Q) (w : Wd S C g.F O) (a : t.at_ S v) (p : P t O) : Q v (ov S C) := k t O v S C (Same.refl S) w a p
structure GE (g : Gc) (Γ : Ctx) (O : List Ow) (e : Expr) (P : PK') : Prop where
  run : g.Ok → ∀ σ S C, Now g Γ O σ S C → ∀ Q : VK, Kont g S P Q → tE g.X e σ (ov S C) Q
abbrev PB := Bool → List Ow → Prop
def KontB (g : Gc) (S : Hp) (P : PB) (Q : Bool → Hp → Prop) : Prop := ∀ b O' S' C', Same S S' → Wd S' C' g.F O' → P b O' → Q b (ov S' C')
structure GT (g : Gc) (Γ : Ctx) (O : List Ow) (e : Expr) (P : PB) : Prop where
  run : g.Ok → ∀ σ S C, Now g Γ O σ S C → ∀ Q, KontB g S P Q → tT g.X e σ (ov S C) Q
structure GW (g : Gc) (Γ : Ctx) (O : List Ow) (e : Expr) (P : PB) : Prop where
  run : g.Ok → ∀ σ S C, Now g Γ O σ S C → ∀ Q, KontB g S P Q → tW g.X e σ (ov S C) Q
abbrev PL := List Tv → List Ow → Prop
def KontL (g : Gc) (S : Hp) (P : PL) (Q : List V → Hp → Prop) : Prop := ∀ ts O' vs S' C', Same S S' → Wd S' C' g.F O' → ArgsAt S' vs ts → P ts O' → Q vs (ov S' C')
structure GA (g : Gc) (Γ : Ctx) (O : List Ow) (es : List Expr) (P : PL) : Prop where
  run : g.Ok → ∀ σ S C, Now g Γ O σ S C → ∀ Q, KontL g S P Q → tA g.X es σ (ov S C) Q
structure GK (g : Gc) (Γ : Ctx) (O : List Ow) (es : List Keyword) (P : PL) : Prop where
  run : g.Ok → ∀ σ S C, Now g Γ O σ S C → ∀ Q, KontL g S P Q → tKw g.X es σ (ov S C) Q
/-- what a loop walks: n turns, it i t: what comes at turn i -/
structure TWk (J : It) (n : Nat) (it : Nat → Tv → Prop) (S : Hp) : Prop where
  go : ∀ i S' C' F O', i < n → Same S S' → Wd S' C' F O' → J.go i (ov S' C')
  stop : ∀ S' C' F O', Same S S' → Wd S' C' F O' → J.stop n (ov S' C')
  yld : ∀ i S' C' F O' x H', i < n → Same S S' → Wd S' C' F O' → J.yld i (ov S' C') x H' → ∃ t S'', it i t ∧ H' = ov S'' C' ∧ Same S' S'' ∧ Wd S'' C' F O' ∧ t.at_ S'' x
abbrev PI' := Nat → (Nat → Tv → Prop) → List Ow → Prop
structure GI (g : Gc) (Γ : Ctx) (O : List Ow) (tg e : Expr) (P : PI') : Prop where
  run : g.Ok → ∀ σ S C, Now g Γ O σ S C → ∀ R : It → Hp → Prop, (∀ n it O' J S' C', Same S S' → Wd S' C' g.F O' → TWk J n it S' → P n it O' → R J (ov S' C')) → tI g.X tg e σ (ov S C) R
structure GOp (g : Gc) (O : List Ow) (f : Value → Value → Sem Value) (x y : Tv) (P : PK') : Prop where
  run : g.Ok → ∀ S C, Same g.S0 S → Wd S C g.F O → ∀ vx vy, x.at_ S vx → y.at_ S vy → ∀ Q : VK, Kont g S P Q → tR g.X f vx vy (ov S C) Q
structure GIx (g : Gc) (O : List Ow) (x y : Tv) (P : PK') : Prop where
  run : g.Ok → ∀ S C, Same g.S0 S → Wd S C g.F O → ∀ vx vy, x.at_ S vx → y.at_ S vy → ∀ Q : VK, Kont g S P Q → tX g.X vx vy (ov S C) Q
structure GUn (g : Gc) (O : List Ow) (f : Value → Sem Value) (x : Tv) (P : PK') : Prop where
  run : g.Ok → ∀ S C, Same g.S0 S → Wd S C g.F O → ∀ vx, x.at_ S vx → ∀ Q : VK, Kont g S P Q → tU g.X f vx (ov S C) Q
structure GB (g : Gc) (O : List Ow) (f : Value) (xs : List Tv) (P : PK') : Prop where
  run : g.Ok → ∀ S C, Same g.S0 S → Wd S C g.F O → ∀ vs, ArgsAt S vs xs → ∀ Q : VK, Kont g S P Q → tC' g.X f vs (ov S C) Q
/-- what is wanted behind a statement -/
structure Rs where
  nx : Ctx → List Ow → Prop
  rt : Tv → List Ow → Prop
  bk : Ctx → List Ow → Prop := fun _ _ => False
  ct : Ctx → List Ow → Prop := fun _ _ => False
def KontS (g : Gc) (S : Hp) (P : Ctx → List Ow → Prop) (Q : L2.St → Hp → Prop) : Prop := ∀ Γ' O' σ' S' C', Same S S' → Now g Γ' O' σ' S' C' → P Γ' O' → Q σ' (ov S' C')
theorem KontS.mono {g : Gc} {S S' : Hp} {P : Ctx → List Ow → Prop} {Q : L2.St → Hp → Prop} (s : Same S S') (k : KontS g S P Q) : KontS g S' P Q := fun Γ' O' σ' S2 C' s2 n p => k Γ' O' σ' S2 C' (s.trans s2) n p
structure Sat (g : Gc) (S : Hp) (R : Rs) (D : Ends) : Prop where
  nx : KontS g S R.nx D.nx
  rt : Kont g S R.rt D.rt
  bk : KontS g S R.bk D.bk
  ct : KontS g S R.ct D.ct
theorem Sat.mono {g : Gc} {S S' : Hp} {R : Rs} {D : Ends} (s : Same S S') (h : Sat g S R D) : Sat g S' R D := ⟨h.nx.mono s, h.rt.mono s, h.bk.mono s, h.ct.mono s⟩
structure GS (g : Gc) (Γ : Ctx) (O : List Ow) (e : Stmt) (R : Rs) : Prop where
  run : g.Ok → ∀ σ S C, Now g Γ O σ S C → ∀ D, Sat g S R D → tS g.X e D σ (ov S C)
structure GSs (g : Gc) (Γ : Ctx) (O : List Ow) (e : List Stmt) (R : Rs) : Prop where
  run : g.Ok → ∀ σ S C, Now g Γ O σ S C → ∀ D, Sat g S R D → tSs g.X e D σ (ov S C)
/-- the store of a value at a target -/
structure GG (g : Gc) (Γ : Ctx) (O : List Ow) (tg : Expr) (t : Tv) (P : Ctx → List Ow → Prop) : Prop where
  run : g.Ok → ∀ σ S C, Now g Γ O σ S C → ∀ v, t.at_ S v → ∀ Q, KontS g S P Q → tG g.X tg v σ (ov S C) Q
structure GGs (g : Gc) (Γ : Ctx) (O : List Ow) (tg : List Expr) (ts : List Tv) (P : Ctx → List Ow → Prop) : Prop where
  run : g.Ok → ∀ σ S C, Now g Γ O σ S C → ∀ vs, ArgsAt S vs ts → ∀ Q, KontS g S P Q → tGs g.X tg vs σ (ov S C) Q
end G
end
section
/-! G1: types; names, constants, operators, comparisons, tests. -/
namespace G
open PySem L2

/-! ### types -/
def tInt : Ty Int := ⟨fun _ v x => v = .int x, fun _ h => h⟩
def tBool : Ty Bool := ⟨fun _ v x => v = .bl x, fun _ h => h⟩
def tStr : Ty Str := ⟨fun _ v x => v = .str x, fun _ h => h⟩
def tNon : Ty Unit := ⟨fun _ v _ => v = .non, fun _ h => h⟩
/-- the object at p, whatever it is -/
def tRef : Ty Addr := ⟨fun _ v p => v = .ref p, fun _ h => h⟩
section
variable {K : PySem.W.Frag}
theorem same_rd {H H' : Hp} {a : Addr} {u : HO} (e : Same H H') (h : Rd H a u) : Rd H' a u := by
  rcases h with h | ⟨o, h⟩
  · exact .inl (e _ _ h)
  · exact .inr ⟨o, e _ _ h⟩
theorem same_t {H H' : Hp} {a : Addr} {xs : List V} (e : Same H H') (h : SqT K H a xs) : SqT K H' a xs := by
  rcases h with h | h
  · exact .inl (same_rd e h)
  · exact .inr h
/-- what is read in S is read in S over C -/
theorem ov_same {S C : Hp} (d : ∀ a, C a ≠ none → S a = none) : Same S (ov S C) := fun a o h => by
  cases q : C a with
  | none => rw [ov_S q]; exact h
  | some u =>
    have := d a (by rw [q]; exact Option.some_ne_none _)
    rw [h] at this; cases this
end
theorem Wd.sameS {S C F : Hp} {O : List Ow} (h : Wd S C F O) : Same S (ov S C) := ov_same h.dis
/-- a frozen list -/
def tLst {α : Type} (T : Ty α) : Ty (List α) := ⟨fun S v xs => ∃ a vs, v = .ref a ∧ S a = some (.lst vs) ∧ AllAt T S vs xs, fun s ⟨a, vs, h1, h2, h3⟩ => ⟨a, vs, h1, s _ _ h2, h3.mono s⟩⟩
/-- a list that is known to be locked (the script) -/
def tLck (K : PySem.W.Frag) {α : Type} (T : Ty α) : Ty (List α) := ⟨fun S v xs => ∃ a vs, v = .ref a ∧ SqL K S a vs ∧ AllAt T S vs xs, fun s ⟨a, vs, h1, h2, h3⟩ => ⟨a, vs, h1, s.seq h2, h3.mono s⟩⟩
/-- a tuple of one type -/
def tTup (K : PySem.W.Frag) {α : Type} (T : Ty α) : Ty (List α) := ⟨fun S v xs => ∃ a vs, v = .ref a ∧ SqT K S a vs ∧ AllAt T S vs xs, fun s ⟨a, vs, h1, h2, h3⟩ => ⟨a, vs, h1, same_t s h2, h3.mono s⟩⟩
/-- a tuple of given things -/
def tHet (K : PySem.W.Frag) (ts : List Tv) : Ty Unit := ⟨fun S v _ => ∃ a vs, v = .ref a ∧ SqT K S a vs ∧ ArgsAt S vs ts, fun s ⟨a, vs, h1, h2, h3⟩ => ⟨a, vs, h1, same_t s h2, h3.mono s⟩⟩
def tPr (K : PySem.W.Frag) {α β : Type} (T : Ty α) (U : Ty β) : Ty (α × β) := ⟨fun S v x => ∃ a v1 v2, v = .ref a ∧ SqT K S a [v1, v2] ∧ T.at_ S v1 x.1 ∧ U.at_ S v2 x.2,
  fun s ⟨a, v1, v2, h1, h2, h3, h4⟩ => ⟨a, v1, v2, h1, same_t s h2, T.mono s h3, U.mono s h4⟩⟩
def tTr (K : PySem.W.Frag) {α β γ : Type} (T : Ty α) (U : Ty β) (W : Ty γ) : Ty (α × β × γ) := ⟨fun S v x => ∃ a v1 v2 v3, v = .ref a ∧ SqT K S a [v1, v2, v3] ∧ T.at_ S v1 x.1 ∧ U.at_ S v2 x.2.1 ∧ W.at_ S v3 x.2.2,
  fun s ⟨a, v1, v2, v3, h1, h2, h3, h4, h5⟩ => ⟨a, v1, v2, v3, h1, same_t s h2, T.mono s h3, U.mono s h4, W.mono s h5⟩⟩
/-- T or None -/
def tOpt {α : Type} (T : Ty α) : Ty (Option α) := ⟨fun S v x => match x with | none => v = .non | some y => T.at_ S v y, fun {S S' v x} s h => by cases x with | none => exact h | some y => exact T.mono s h⟩
/-- a type read through a function -/
def tMap {α β : Type} (f : β → α) (T : Ty α) : Ty β := ⟨fun S v x => T.at_ S v (f x), fun s h => T.mono s h⟩

/-! ### owned lists -/
theorem none_ne_some' {α : Type} {o : Option α} {x : α} (h : o = some x) : o ≠ none := by rw [h]; exact Option.some_ne_none _
def oLst (p : Addr) {α : Type} (T : Ty α) (xs : List α) : Ow where
  as := [p]
  at_ := fun S C => ∃ vs, C p = some (.lst vs) ∧ AllAt T S vs xs
  mono := fun s ⟨vs, h1, h2⟩ => ⟨vs, h1, h2.mono s⟩
  loc := fun h ⟨vs, h1, h2⟩ => ⟨vs, by rw [h p (by simp)]; exact h1, h2⟩
  al := fun ⟨vs, h1, _⟩ a ha => by
    obtain rfl : a = p := by simpa using ha
    exact none_ne_some' h1
/-- a list of given things -/
def oHet (p : Addr) (ts : List Tv) : Ow where
  as := [p]
  at_ := fun S C => ∃ vs, C p = some (.lst vs) ∧ ArgsAt S vs ts
  mono := fun s ⟨vs, h1, h2⟩ => ⟨vs, h1, h2.mono s⟩
  loc := fun h ⟨vs, h1, h2⟩ => ⟨vs, by rw [h p (by simp)]; exact h1, h2⟩
  al := fun ⟨vs, h1, _⟩ a ha => by
    obtain rfl : a = p := by simpa using ha
    exact none_ne_some' h1

section
variable {g : Gc} {Γ : Ctx} {O : List Ow} {P : PK'} {pos : Pos}
/-! ### names and constants -/
theorem ge_var (i : Nat) {x : Str} {t : Tv} (h : P t O) (hN : g.X.N[i]? = some x := by rfl) (hv : Vis g.X.env.scope x := by first | exact Or.inl rfl | exact Or.inr (Or.inl rfl) | exact Or.inr (Or.inr rfl)) (hΓ : Γ[i]? = some (some t) := by rfl)
    (hd : (x == ("__debug__" : Str)) = false := by decide) (hcd : (x == ("__classdict__" : Str)) = false := by decide) : GE g Γ O (.Name x pos) P :=
  ⟨fun _ σ S C n Q k => by
    obtain ⟨v, e, a⟩ := n.en.get i t hΓ
    exact ⟨_, pe_var hN hv hd hcd, v, e, k.ret n.wd a h⟩⟩
theorem ge_int {i : Int} {j : Nat} (h : P ⟨tInt, i⟩ O) : GE g Γ O (.Constant (.int i) j pos) P := ⟨fun _ _ _ _ n _ k => ⟨_, pe_int, k.ret (t := ⟨tInt, i⟩) n.wd rfl h⟩⟩
theorem ge_bl {b : Bool} {j : Nat} (h : P ⟨tBool, b⟩ O) : GE g Γ O (.Constant (.bool b) j pos) P := ⟨fun _ _ _ _ n _ k => ⟨_, pe_bl, k.ret (t := ⟨tBool, b⟩) n.wd rfl h⟩⟩
theorem ge_non {j : Nat} (h : P ⟨tNon, ()⟩ O) : GE g Γ O (.Constant .none j pos) P := ⟨fun _ _ _ _ n _ k => ⟨_, pe_non, k.ret (t := ⟨tNon, ()⟩) n.wd rfl h⟩⟩
theorem ge_str {x : Str} {j : Nat} (h : P ⟨tStr, x⟩ O) : GE g Γ O (.Constant (.str x) j pos) P := ⟨fun _ _ _ _ n _ k => ⟨_, pe_str, k.ret (t := ⟨tStr, x⟩) n.wd rfl h⟩⟩
/-- a module's constant -/
theorem ge_glob {x : Str} {u : Value} {v : V} {t : Tv} (hm : g.X.mg x = some u) (r : RelV v u) (a : ∀ S, t.at_ S v) (h : P t O) (hg : Gl g.X x := by rfl) (hd : (x == ("__debug__" : Str)) = false := by decide) : GE g Γ O (.Name x pos) P :=
  ⟨fun _ _ S _ n _ k => ⟨_, pe_glob hg hm r hd, k.ret n.wd (a S) h⟩⟩
/-! ### operators -/
theorem ge_bin {a b : Expr} {op : Operator} (h : GE g Γ O a fun x O1 => GE g Γ O1 b fun y O2 => GOp g O2 (binaryOp op) x y P) : GE g Γ O (.BinOp a op b pos) P :=
  ⟨fun ok σ S C n Q k => ⟨_, pe_op op_tR pe_tE pe_tE, h.run ok σ S C n _ fun x O1 vx S1 C1 s1 w1 ax hx => hx.run ok σ S1 C1 (n.wdS s1 w1) _ fun y O2 vy S2 C2 s2 w2 ay hy =>
    hy.run ok S2 C2 ((n.sm.trans s1).trans s2) w2 vx vy (Tv.mono s2 ax) ay Q (k.mono (s1.trans s2))⟩⟩
theorem ge_un {a : Expr} {op : UnaryOp} (h : GE g Γ O a fun x O1 => GUn g O1 (unaryOp op) x P) : GE g Γ O (.UnaryOp op a pos) P :=
  ⟨fun ok σ S C n Q k => ⟨_, pe_un un_tU pe_tE, h.run ok σ S C n _ fun x O1 vx S1 C1 s1 w1 ax hx => hx.run ok S1 C1 (n.sm.trans s1) w1 vx ax Q (k.mono s1)⟩⟩
theorem ge_cmp {a b : Expr} {op : CmpOp} (h : GE g Γ O a fun x O1 => GE g Γ O1 b fun y O2 => GOp g O2 (compareOp op) x y P) (hm : behindInMarks op b = false := by first | exact nobehind _ (by decide) (by decide) | rfl) : GE g Γ O (.Compare a [op] [b] pos) P :=
  ⟨fun ok σ S C n Q k => ⟨_, pe_cmpR op_tR pe_tE pe_tE hm, h.run ok σ S C n _ fun x O1 vx S1 C1 s1 w1 ax hx => hx.run ok σ S1 C1 (n.wdS s1 w1) _ fun y O2 vy S2 C2 s2 w2 ay hy =>
    hy.run ok S2 C2 ((n.sm.trans s1).trans s2) w2 vx vy (Tv.mono s2 ax) ay Q (k.mono (s1.trans s2))⟩⟩
theorem ge_sub {a b : Expr} (h : GE g Γ O a fun x O1 => GE g Γ O1 b fun y O2 => GIx g O2 x y P) (hs : PlainIx b := by exact fun _ _ => rfl) : GE g Γ O (.Subscript a b pos) P :=
  ⟨fun ok σ S C n Q k => ⟨_, pe_ix ix_tX pe_tE pe_tE hs, h.run ok σ S C n _ fun x O1 vx S1 C1 s1 w1 ax hx => hx.run ok σ S1 C1 (n.wdS s1 w1) _ fun y O2 vy S2 C2 s2 w2 ay hy =>
    hy.run ok S2 C2 ((n.sm.trans s1).trans s2) w2 vx vy (Tv.mono s2 ax) ay Q (k.mono (s1.trans s2))⟩⟩
variable {i j : Int} {x y : Str}
theorem op_of {f : Value → Value → Sem Value} {x y t : Tv} {r : R2} (hr : OpR g.X f r) (h : P t O) (hv : ∀ S C, Wd S C g.F O → ∀ vx vy, x.at_ S vx → y.at_ S vy → ∃ v, t.at_ S v ∧ ∀ Q : VK, Q v (ov S C) → r vx vy (ov S C) Q) : GOp g O f x y P :=
  ⟨fun _ S C _ w vx vy ax ay Q k => by
    obtain ⟨v, a, q⟩ := hv S C w vx vy ax ay
    exact ⟨_, hr, q Q (k.ret w a h)⟩⟩
theorem gop_add (h : P ⟨tInt, i + j⟩ O) : GOp g O (binaryOp .Add) ⟨tInt, i⟩ ⟨tInt, j⟩ P := op_of op_add h fun _ _ _ _ _ ax ay => ⟨_, rfl, fun _ q => ⟨i, j, ax, ay, q⟩⟩
theorem gop_sub (h : P ⟨tInt, i - j⟩ O) : GOp g O (binaryOp .Sub) ⟨tInt, i⟩ ⟨tInt, j⟩ P := op_of op_sub h fun _ _ _ _ _ ax ay => ⟨_, rfl, fun _ q => ⟨i, j, ax, ay, q⟩⟩
theorem gop_mul (hc : CMul i j) (h : P ⟨tInt, i * j⟩ O) : GOp g O (binaryOp .Mult) ⟨tInt, i⟩ ⟨tInt, j⟩ P := op_of op_mul h fun _ _ _ _ _ ax ay => ⟨_, rfl, fun _ q => ⟨i, j, ax, ay, hc, q⟩⟩
theorem gop_mod (hc : 0 < j) (h : P ⟨tInt, i % j⟩ O) : GOp g O (binaryOp .Mod) ⟨tInt, i⟩ ⟨tInt, j⟩ P := op_of op_mod h fun _ _ _ _ _ ax ay => ⟨_, rfl, fun _ q => ⟨i, j, ax, ay, hc, q⟩⟩
theorem gop_fdiv (hc : CDiv i j) (h : P ⟨tInt, i / j⟩ O) : GOp g O (binaryOp .FloorDiv) ⟨tInt, i⟩ ⟨tInt, j⟩ P := op_of op_fdiv h fun _ _ _ _ _ ax ay => ⟨_, rfl, fun _ q => ⟨i, j, ax, ay, hc, q⟩⟩
theorem gop_pow (hc : CPow i j) (h : P ⟨tInt, i ^ j.toNat⟩ O) : GOp g O (binaryOp .Pow) ⟨tInt, i⟩ ⟨tInt, j⟩ P := op_of op_pow h fun _ _ _ _ _ ax ay => ⟨_, rfl, fun _ q => ⟨i, j, ax, ay, hc, q⟩⟩
theorem gop_shl (hc : CPow i j) (h : P ⟨tInt, i * 2 ^ j.toNat⟩ O) : GOp g O (binaryOp .LShift) ⟨tInt, i⟩ ⟨tInt, j⟩ P := op_of op_shl h fun _ _ _ _ _ ax ay => ⟨_, rfl, fun _ q => ⟨i, j, ax, ay, hc, q⟩⟩
theorem gop_shr (hc : 0 ≤ j) (h : P ⟨tInt, i / 2 ^ j.toNat⟩ O) : GOp g O (binaryOp .RShift) ⟨tInt, i⟩ ⟨tInt, j⟩ P := op_of op_shr h fun _ _ _ _ _ ax ay => ⟨_, rfl, fun _ q => ⟨i, j, ax, ay, hc, q⟩⟩
theorem gop_and (h : P ⟨tInt, Builtin.bitAnd i j⟩ O) : GOp g O (binaryOp .BitAnd) ⟨tInt, i⟩ ⟨tInt, j⟩ P := op_of op_and h fun _ _ _ _ _ ax ay => ⟨_, rfl, fun _ q => ⟨i, j, ax, ay, q⟩⟩
theorem gop_or (h : P ⟨tInt, Builtin.bitOr i j⟩ O) : GOp g O (binaryOp .BitOr) ⟨tInt, i⟩ ⟨tInt, j⟩ P := op_of op_or h fun _ _ _ _ _ ax ay => ⟨_, rfl, fun _ q => ⟨i, j, ax, ay, q⟩⟩
theorem gop_xor (h : P ⟨tInt, Builtin.bitXor i j⟩ O) : GOp g O (binaryOp .BitXor) ⟨tInt, i⟩ ⟨tInt, j⟩ P := op_of op_xor h fun _ _ _ _ _ ax ay => ⟨_, rfl, fun _ q => ⟨i, j, ax, ay, q⟩⟩
theorem gop_addS (hz : x.length + y.length ≤ sizeLine) (h : P ⟨tStr, x ++ y⟩ O) : GOp g O (binaryOp .Add) ⟨tStr, x⟩ ⟨tStr, y⟩ P := op_of op_add_str h fun _ _ _ _ _ ax ay => ⟨_, rfl, fun _ q => ⟨x, y, ax, ay, hz, q⟩⟩
theorem gun_neg (h : P ⟨tInt, -i⟩ O) : GUn g O (unaryOp .USub) ⟨tInt, i⟩ P := ⟨fun _ _ _ _ w _ ax _ k => ⟨_, un_neg, i, ax, k.ret (t := ⟨tInt, -i⟩) w rfl h⟩⟩
theorem gun_inv (h : P ⟨tInt, Builtin.bitNot i⟩ O) : GUn g O (unaryOp .Invert) ⟨tInt, i⟩ P := ⟨fun _ _ _ _ w _ ax _ k => ⟨_, un_inv, i, ax, k.ret (t := ⟨tInt, Builtin.bitNot i⟩) w rfl h⟩⟩
/-! ### comparisons of values -/
theorem gop_lt (h : P ⟨tBool, decide (i < j)⟩ O) : GOp g O (compareOp .Lt) ⟨tInt, i⟩ ⟨tInt, j⟩ P := op_of op_lt h fun _ _ _ _ _ ax ay => ⟨_, rfl, fun _ q => ⟨i, j, ax, ay, q⟩⟩
theorem gop_le (h : P ⟨tBool, decide (i ≤ j)⟩ O) : GOp g O (compareOp .LtE) ⟨tInt, i⟩ ⟨tInt, j⟩ P := op_of op_le h fun _ _ _ _ _ ax ay => ⟨_, rfl, fun _ q => ⟨i, j, ax, ay, q⟩⟩
theorem gop_gt (h : P ⟨tBool, decide (j < i)⟩ O) : GOp g O (compareOp .Gt) ⟨tInt, i⟩ ⟨tInt, j⟩ P := op_of op_gt h fun _ _ _ _ _ ax ay => ⟨_, rfl, fun _ q => ⟨i, j, ax, ay, q⟩⟩
theorem gop_ge (h : P ⟨tBool, decide (j ≤ i)⟩ O) : GOp g O (compareOp .GtE) ⟨tInt, i⟩ ⟨tInt, j⟩ P := op_of op_ge h fun _ _ _ _ _ ax ay => ⟨_, rfl, fun _ q => ⟨i, j, ax, ay, q⟩⟩
theorem dec_vi : decide (V.int i = V.int j) = decide (i = j) := by rw [dec_int]; exact (Bool.beq_eq_decide_eq i j)
theorem dec_vs : decide (V.str x = V.str y) = decide (x = y) := by
  by_cases e : x = y
  · subst e; simp
  · rw [decide_eq_false e, decide_eq_false fun q => e (V.str.inj q)]
theorem gop_eq (h : P ⟨tBool, decide (i = j)⟩ O) : GOp g O (compareOp .Eq) ⟨tInt, i⟩ ⟨tInt, j⟩ P := op_of op_eq h fun S C w vx vy (ax : vx = _) (ay : vy = _) => ⟨_, rfl, fun _ q => by
  subst ax; subst ay
  exact ⟨rfl, by rw [dec_vi]; exact q⟩⟩
theorem gop_ne (h : P ⟨tBool, !decide (i = j)⟩ O) : GOp g O (compareOp .NotEq) ⟨tInt, i⟩ ⟨tInt, j⟩ P := op_of op_ne h fun S C w vx vy (ax : vx = _) (ay : vy = _) => ⟨_, rfl, fun _ q => by
  subst ax; subst ay
  exact ⟨rfl, by rw [dec_vi]; exact q⟩⟩
theorem gop_eqS (h : P ⟨tBool, decide (x = y)⟩ O) : GOp g O (compareOp .Eq) ⟨tStr, x⟩ ⟨tStr, y⟩ P := op_of op_eq h fun S C w vx vy (ax : vx = _) (ay : vy = _) => ⟨_, rfl, fun _ q => by
  subst ax; subst ay
  exact ⟨rfl, by rw [dec_vs]; exact q⟩⟩
theorem gop_neS (h : P ⟨tBool, !decide (x = y)⟩ O) : GOp g O (compareOp .NotEq) ⟨tStr, x⟩ ⟨tStr, y⟩ P := op_of op_ne h fun S C w vx vy (ax : vx = _) (ay : vy = _) => ⟨_, rfl, fun _ q => by
  subst ax; subst ay
  exact ⟨rfl, by rw [dec_vs]; exact q⟩⟩
theorem gop_eqB {a b : Bool} (h : P ⟨tBool, decide (a = b)⟩ O) : GOp g O (compareOp .Eq) ⟨tBool, a⟩ ⟨tBool, b⟩ P := op_of op_eq h fun S C w vx vy (ax : vx = _) (ay : vy = _) => ⟨_, rfl, fun _ q => by
  subst ax; subst ay
  exact ⟨rfl, by rw [show decide (V.bl a = V.bl b) = decide (a = b) by cases a <;> cases b <;> rfl]; exact q⟩⟩
theorem gop_ltS (h : P ⟨tBool, decide (x.cps.toList < y.cps.toList)⟩ O) : GOp g O (compareOp .Lt) ⟨tStr, x⟩ ⟨tStr, y⟩ P := op_of op_lt_str h fun _ _ _ _ _ ax ay => ⟨_, rfl, fun _ q => ⟨x, y, ax, ay, q⟩⟩
theorem gop_isN {t : Tv} {b : Bool} (hb : ∀ S v, t.at_ S v → decide (v = .non) = b) (h : P ⟨tBool, b⟩ O) : GOp g O (compareOp .Is) t ⟨tNon, ()⟩ P := op_of op_isN h fun S C w vx vy ax ay => ⟨.bl b, rfl, fun _ q => ⟨ay, by rw [hb S vx ax]; exact q⟩⟩
theorem gop_isnotN {t : Tv} {b : Bool} (hb : ∀ S v, t.at_ S v → decide (v = .non) = b) (h : P ⟨tBool, !b⟩ O) : GOp g O (compareOp .IsNot) t ⟨tNon, ()⟩ P := op_of op_notN h fun S C w vx vy ax ay => ⟨.bl (!b), rfl, fun _ q => ⟨ay, by rw [hb S vx ax]; exact q⟩⟩
theorem gop_isB {a b : Bool} (h : P ⟨tBool, decide (a = b)⟩ O) : GOp g O (compareOp .Is) ⟨tBool, a⟩ ⟨tBool, b⟩ P := op_of (r := fun x y H Q => ∃ a b, x = .bl a ∧ y = .bl b ∧ Q (.bl (decide (a = b))) H) (fun pins s σ H x y v u Q I rx ry h => by
    obtain ⟨a, b, rfl, rfl, q⟩ := h
    cases rx; cases ry
    exact PyProof.Rows.is_bool (show EP g.X pins σ Q (.bool (a == b)) s from ⟨.bl (a == b), H, I, rfl, by rw [Bool.beq_eq_decide_eq]; exact q⟩)) h fun S C w vx vy ax ay => ⟨_, rfl, fun _ q => ⟨a, b, ax, ay, q⟩⟩
end
end G
end
section
/-! G2: tests, displays, statements, targets, loops. -/
namespace G
open PySem L2
theorem unT {A B : Prop} (h : if true = true then A else B) : A := by rw [if_pos rfl] at h; exact h
theorem unF {A B : Prop} (h : if false = true then A else B) : B := by rw [if_neg Bool.false_ne_true] at h; exact h
section
variable {g : Gc} {Γ : Ctx} {O : List Ow} {P : PK'} {PB' : PB} {pos : Pos} {a b c e : Expr} {es rest : List Expr}
/-! ### tests -/
def isB (P : PB) : PK' := fun t O' => ∃ b, t = ⟨tBool, b⟩ ∧ P b O'
theorem isB_k {S : Hp} {Q : Bool → Hp → Prop} (k : KontB g S PB' Q) : Kont g S (isB PB') (fun x H => ∃ c, x = .bl c ∧ Q c H) := fun t O' v S' C' s w at_ ⟨b, et, hp⟩ => by
  subst et
  exact ⟨b, at_, k b O' S' C' s w hp⟩
theorem isB_i {b : Bool} {O' : List Ow} (h : PB' b O') : isB PB' ⟨tBool, b⟩ O' := ⟨b, rfl, h⟩
theorem gt_val (h : GE g Γ O e (isB PB')) (he : ∀ whole, isTrue e g.X.env whole = (do let v ← whole; standAt e.pos; holding [v] (truthy v)) := by intro _; rfl) : GT g Γ O e PB' :=
  ⟨fun ok σ S C n Q k => ⟨_, pt_val pe_tE he, h.run ok σ S C n _ (isB_k k)⟩⟩
theorem gt_cmp {op : CmpOp} (h : GE g Γ O a fun x O1 => GE g Γ O1 b fun y O2 => GOp g O2 (compareOp op) x y (isB PB')) (hm : behindInMarks op b = false := by first | exact nobehind _ (by decide) (by decide) | rfl) : GT g Γ O (.Compare a [op] [b] pos) PB' :=
  ⟨fun ok σ S C n Q k => ⟨_, pt_cmpR op_tR pe_tE pe_tE hm, h.run ok σ S C n _ fun x O1 vx S1 C1 s1 w1 ax hx => hx.run ok σ S1 C1 (n.wdS s1 w1) _ fun y O2 vy S2 C2 s2 w2 ay hy =>
    hy.run ok S2 C2 ((n.sm.trans s1).trans s2) w2 vx vy (Tv.mono s2 ax) ay _ (isB_k fun b O' S' C' s3 w3 hp => k b O' S' C' ((s1.trans s2).trans s3) w3 hp)⟩⟩
theorem gt_not (h : GT g Γ O a fun b O' => PB' (!b) O') : GT g Γ O (.UnaryOp .Not a pos) PB' :=
  ⟨fun ok σ S C n Q k => ⟨_, pt_not pt_tT, h.run ok σ S C n _ fun b O' S' C' s w hp => k _ O' S' C' s w hp⟩⟩
theorem gt_bool {op : BoolOp} (h : GW g Γ O (.BoolOp op es pos) PB') : GT g Γ O (.BoolOp op es pos) PB' := ⟨fun ok σ S C n Q k => ⟨_, pw_tW.pt, h.run ok σ S C n Q k⟩⟩
theorem gw_and1 (h : GT g Γ O a PB') : GW g Γ O (.BoolOp .And [a] pos) PB' := ⟨fun ok σ S C n Q k => ⟨_, pw_and1 pt_tT, h.run ok σ S C n Q k⟩⟩
theorem gw_or1 (h : GT g Γ O a PB') : GW g Γ O (.BoolOp .Or [a] pos) PB' := ⟨fun ok σ S C n Q k => ⟨_, pw_or1 pt_tT, h.run ok σ S C n Q k⟩⟩
theorem KontB.mono {S S' : Hp} {Q : Bool → Hp → Prop} (s : Same S S') (k : KontB g S PB' Q) : KontB g S' PB' Q := fun b O' S2 C' s2 w p => k b O' S2 C' (s.trans s2) w p
theorem gw_and (h : GT g Γ O a fun c O1 => if c = true then GW g Γ O1 (.BoolOp .And (b :: rest) pos) PB' else PB' false O1) : GW g Γ O (.BoolOp .And (a :: b :: rest) pos) PB' :=
  ⟨fun ok σ S C n Q k => ⟨_, pw_and pt_tT pw_tW, h.run ok σ S C n _ fun c O1 S1 C1 s1 w1 hc => by
    cases c with
    | true => exact iteT ((unT hc).run ok σ S1 C1 (n.wdS s1 w1) Q (k.mono s1))
    | false => exact iteF (k false O1 S1 C1 s1 w1 (unF hc))⟩⟩
theorem gw_or (h : GT g Γ O a fun c O1 => if c = true then PB' true O1 else GW g Γ O1 (.BoolOp .Or (b :: rest) pos) PB') : GW g Γ O (.BoolOp .Or (a :: b :: rest) pos) PB' :=
  ⟨fun ok σ S C n Q k => ⟨_, pw_or pt_tT pw_tW, h.run ok σ S C n _ fun c O1 S1 C1 s1 w1 hc => by
    cases c with
    | true => exact iteT (k true O1 S1 C1 s1 w1 (unT hc))
    | false => exact iteF ((unF hc).run ok σ S1 C1 (n.wdS s1 w1) Q (k.mono s1))⟩⟩
/-- pure tests: the answer as a Bool -/
theorem gw_andP {p q : Bool} (ha : ∀ PB2 : PB, PB2 p O → GT g Γ O a PB2) (hb : p = true → ∀ PB2 : PB, PB2 q O → GW g Γ O (.BoolOp .And (b :: rest) pos) PB2) (h : PB' (p && q) O) : GW g Γ O (.BoolOp .And (a :: b :: rest) pos) PB' := by
  refine gw_and (ha _ ?_)
  cases p with
  | true => exact iteT (hb rfl _ h)
  | false => exact iteF h
theorem gw_orP {p q : Bool} (ha : ∀ PB2 : PB, PB2 p O → GT g Γ O a PB2) (hb : p = false → ∀ PB2 : PB, PB2 q O → GW g Γ O (.BoolOp .Or (b :: rest) pos) PB2) (h : PB' (p || q) O) : GW g Γ O (.BoolOp .Or (a :: b :: rest) pos) PB' := by
  refine gw_or (ha _ ?_)
  cases p with
  | true => exact iteT h
  | false => exact iteF (hb rfl _ h)
/-! ### and, or, not as values (bools) -/
theorem ge_one {op : BoolOp} (h : GE g Γ O a P) : GE g Γ O (.BoolOp op [a] pos) P := ⟨fun ok σ S C n Q k => ⟨_, pe_one pe_tE, h.run ok σ S C n Q k⟩⟩
theorem ge_and (h : GE g Γ O a (isB fun c O1 => if c = true then GE g Γ O1 (.BoolOp .And (b :: rest) pos) P else P ⟨tBool, false⟩ O1)) : GE g Γ O (.BoolOp .And (a :: b :: rest) pos) P :=
  ⟨fun ok σ S C n Q k => ⟨_, pe_and pe_tE pe_tE, h.run ok σ S C n _ fun t O1 v S1 C1 s1 w1 at_ ⟨c, et, hc⟩ => by
    subst et
    refine ⟨c, at_, ?_⟩
    cases c with
    | true => exact iteT ((unT hc).run ok σ S1 C1 (n.wdS s1 w1) Q (k.mono s1))
    | false => exact iteF ((k.mono s1).ret (t := ⟨tBool, false⟩) w1 rfl (unF hc))⟩⟩
theorem ge_or (h : GE g Γ O a (isB fun c O1 => if c = true then P ⟨tBool, true⟩ O1 else GE g Γ O1 (.BoolOp .Or (b :: rest) pos) P)) : GE g Γ O (.BoolOp .Or (a :: b :: rest) pos) P :=
  ⟨fun ok σ S C n Q k => ⟨_, pe_or pe_tE pe_tE, h.run ok σ S C n _ fun t O1 v S1 C1 s1 w1 at_ ⟨c, et, hc⟩ => by
    subst et
    refine ⟨c, at_, ?_⟩
    cases c with
    | true => exact iteT ((k.mono s1).ret (t := ⟨tBool, true⟩) w1 rfl (unT hc))
    | false => exact iteF ((unF hc).run ok σ S1 C1 (n.wdS s1 w1) Q (k.mono s1))⟩⟩
theorem ge_andP {p q : Bool} (ha : ∀ P2 : PK', P2 ⟨tBool, p⟩ O → GE g Γ O a P2) (hb : p = true → ∀ P2 : PK', P2 ⟨tBool, q⟩ O → GE g Γ O (.BoolOp .And (b :: rest) pos) P2) (h : P ⟨tBool, p && q⟩ O) : GE g Γ O (.BoolOp .And (a :: b :: rest) pos) P := by
  refine ge_and (ha _ (isB_i ?_))
  cases p with
  | true => exact iteT (hb rfl _ h)
  | false => exact iteF h
theorem ge_orP {p q : Bool} (ha : ∀ P2 : PK', P2 ⟨tBool, p⟩ O → GE g Γ O a P2) (hb : p = false → ∀ P2 : PK', P2 ⟨tBool, q⟩ O → GE g Γ O (.BoolOp .Or (b :: rest) pos) P2) (h : P ⟨tBool, p || q⟩ O) : GE g Γ O (.BoolOp .Or (a :: b :: rest) pos) P := by
  refine ge_or (ha _ (isB_i ?_))
  cases p with
  | true => exact iteT h
  | false => exact iteF (hb rfl _ h)
theorem ge_not (h : GE g Γ O a (isB fun c O1 => P ⟨tBool, !c⟩ O1)) : GE g Γ O (.UnaryOp .Not a pos) P :=
  ⟨fun ok σ S C n Q k => ⟨_, pe_not pe_tE, h.run ok σ S C n _ fun t O1 v S1 C1 s1 w1 at_ ⟨c, et, hc⟩ => by
    subst et
    exact ⟨c, at_, (k.mono s1).ret (t := ⟨tBool, !c⟩) w1 rfl hc⟩⟩⟩
theorem ge_ifExp (h : GT g Γ O c fun d O1 => if d = true then GE g Γ O1 a P else GE g Γ O1 b P) : GE g Γ O (.IfExp c a b pos) P :=
  ⟨fun ok σ S C n Q k => ⟨_, pe_ifExp pt_tT pe_tE pe_tE, h.run ok σ S C n _ fun d O1 S1 C1 s1 w1 hd => by
    cases d with
    | true => exact iteT ((unT hd).run ok σ S1 C1 (n.wdS s1 w1) Q (k.mono s1))
    | false => exact iteF ((unF hd).run ok σ S1 C1 (n.wdS s1 w1) Q (k.mono s1))⟩⟩
/-- a < b < c -/
theorem ge_chain {op op' : CmpOp} (h : GE g Γ O a fun x O1 => GE g Γ O1 b fun y O2 => GOp g O2 (compareOp op) x y (isB fun d O3 => if d = true then GE g Γ O3 c fun z O4 => GOp g O4 (compareOp op') y z P else P ⟨tBool, false⟩ O3)) (hm : lastMarks [op, op'] [b, c] = false := by with_unfolding_all rfl) : GE g Γ O (.Compare a [op, op'] [b, c] pos) P :=
  ⟨fun ok σ S C n Q k => ⟨_, pe_chain op_tR op_tR pe_tE pe_tE pe_tE hm, h.run ok σ S C n _ fun x O1 vx S1 C1 s1 w1 ax hx => hx.run ok σ S1 C1 (n.wdS s1 w1) _ fun y O2 vy S2 C2 s2 w2 ay hy =>
    hy.run ok S2 C2 ((n.sm.trans s1).trans s2) w2 vx vy (Tv.mono s2 ax) ay _ fun t O3 v S3 C3 s3 w3 at_ ⟨d, et, hd⟩ => by
      subst et
      refine ⟨d, at_, ?_⟩
      have s13 := (s1.trans s2).trans s3
      cases d with
      | true =>
        refine iteT ((unT hd).run ok σ S3 C3 (n.wdS s13 w3) _ fun z O4 vz S4 C4 s4 w4 az hz => ?_)
        exact hz.run ok S4 C4 ((n.sm.trans s13).trans s4) w4 vy vz (Tv.mono (s3.trans s4) ay) az Q (k.mono (s13.trans s4))
      | false => exact iteF ((k.mono s13).ret (t := ⟨tBool, false⟩) w3 rfl (unF hd))⟩⟩
theorem gt_chain {op op' : CmpOp} (h : GE g Γ O a fun x O1 => GE g Γ O1 b fun y O2 => GOp g O2 (compareOp op) x y (isB fun d O3 => if d = true then GE g Γ O3 c fun z O4 => GOp g O4 (compareOp op') y z (isB PB') else PB' false O3)) (hm : lastMarks [op, op'] [b, c] = false := by with_unfolding_all rfl) : GT g Γ O (.Compare a [op, op'] [b, c] pos) PB' :=
  ⟨fun ok σ S C n Q k => ⟨_, pt_chain op_tR op_tR pe_tE pe_tE pe_tE hm, h.run ok σ S C n _ fun x O1 vx S1 C1 s1 w1 ax hx => hx.run ok σ S1 C1 (n.wdS s1 w1) _ fun y O2 vy S2 C2 s2 w2 ay hy =>
    hy.run ok S2 C2 ((n.sm.trans s1).trans s2) w2 vx vy (Tv.mono s2 ax) ay _ fun t O3 v S3 C3 s3 w3 at_ ⟨d, et, hd⟩ => by
      subst et
      refine ⟨d, at_, ?_⟩
      have s13 := (s1.trans s2).trans s3
      cases d with
      | true =>
        refine iteT ((unT hd).run ok σ S3 C3 (n.wdS s13 w3) _ fun z O4 vz S4 C4 s4 w4 az hz => ?_)
        exact hz.run ok S4 C4 ((n.sm.trans s13).trans s4) w4 vy vz (Tv.mono (s3.trans s4) ay) az _ (isB_k (k.mono (s13.trans s4)))
      | false => exact iteF ⟨false, rfl, k false O3 S3 C3 s13 w3 (unF hd)⟩⟩⟩

/-! ### argument lists, displays -/
variable {PL' : PL}
theorem ga_nil (h : PL' [] O) : GA g Γ O [] PL' := ⟨fun _ σ S C n Q k => ⟨_, pa_nil, k [] O [] S C (Same.refl S) n.wd .nil h⟩⟩
theorem ga_cons (h : GE g Γ O e fun t O1 => GA g Γ O1 es fun ts O2 => PL' (t :: ts) O2) (hs : starEach (e :: es) g.X.env = (false, eval e g.X.env) :: starEach es g.X.env := by rfl) : GA g Γ O (e :: es) PL' :=
  ⟨fun ok σ S C n Q k => ⟨_, pa_cons pe_tE pa_tA hs, h.run ok σ S C n _ fun t O1 v S1 C1 s1 w1 a1 h1 => h1.run ok σ S1 C1 (n.wdS s1 w1) _ fun ts O2 vs S2 C2 s2 w2 a2 h2 => k _ O2 _ S2 C2 (s1.trans s2) w2 (.cons (Tv.mono s2 a1) a2) h2⟩⟩
theorem gk_nil (h : PL' [] O) : GK g Γ O [] PL' := ⟨fun _ σ S C n Q k => ⟨_, pk_nil, k [] O [] S C (Same.refl S) n.wd .nil h⟩⟩
theorem gk_cons {kws : List Keyword} {nm : Option Str} {kpos : Pos} (h : GE g Γ O e fun t O1 => GK g Γ O1 kws fun ts O2 => PL' (t :: ts) O2) : GK g Γ O (⟨nm, e, kpos⟩ :: kws) PL' :=
  ⟨fun ok σ S C n Q k => ⟨_, pk_cons pe_tE pk_tKw, h.run ok σ S C n _ fun t O1 v S1 C1 s1 w1 a1 h1 => h1.run ok σ S1 C1 (n.wdS s1 w1) _ fun ts O2 vs S2 C2 s2 w2 a2 h2 => k _ O2 _ S2 C2 (s1.trans s2) w2 (.cons (Tv.mono s2 a1) a2) h2⟩⟩
/-- a tuple of ts is a t; a frozen list of ts is a t -/
def TupIs (K : PySem.W.Frag) (ts : List Tv) (t : Tv) : Prop := ∀ S a vs, SqT K S a vs → ArgsAt S vs ts → t.at_ S (.ref a)
def LstIs (ts : List Tv) (t : Tv) : Prop := ∀ S a vs, S a = some (.lst vs) → ArgsAt S vs ts → t.at_ S (.ref a)
/-- an owned list of ts at p is w -/
def OwnIs (ts : List Tv) (w : Addr → Ow) : Prop := ∀ p, (w p).as = [p] ∧ ∀ S C vs, C p = some (.lst vs) → ArgsAt S vs ts → (w p).at_ S C
theorem small_sz {n : Nat} (h : n ≤ 1000) : n ≤ sizeLine := Nat.le_trans h (by decide)
theorem ge_tup {K : PySem.W.Frag} {k : Nat} (h : GA g Γ O es fun ts O1 => ts.length ≤ 1000 ∧ ∃ t, TupIs K ts t ∧ P t O1) : GE g Γ O (.Tuple es k pos) P :=
  ⟨fun ok σ S C n Q kk => ⟨_, pe_tup pa_tA, h.run ok σ S C n _ fun ts O1 vs S1 C1 s1 w1 a1 ⟨hz, t, ht, hp⟩ => ⟨small_sz (by rw [a1.length]; exact hz), fun p np => by
    obtain ⟨h1, h2⟩ := ov_none np
    rw [ov_updS h1]
    have sn : Same S1 (upd S1 p (.tup vs)) := Same.new h2
    exact (kk.mono (s1.trans sn)).ret (w1.laid np) (ht _ _ vs (SqT.of upd_same) (a1.mono sn)) hp⟩⟩⟩
theorem ge_lst (h : GA g Γ O es fun ts O1 => ts.length ≤ 1000 ∧ ∃ t, LstIs ts t ∧ P t O1) : GE g Γ O (.List es pos) P :=
  ⟨fun ok σ S C n Q kk => ⟨_, pe_lst pa_tA, h.run ok σ S C n _ fun ts O1 vs S1 C1 s1 w1 a1 ⟨hz, t, ht, hp⟩ => ⟨small_sz (by rw [a1.length]; exact hz), fun p np => by
    obtain ⟨h1, h2⟩ := ov_none np
    rw [ov_updS h1]
    have sn : Same S1 (upd S1 p (.lst vs)) := Same.new h2
    exact (kk.mono (s1.trans sn)).ret (w1.laid np) (ht _ _ vs upd_same (a1.mono sn)) hp⟩⟩⟩
/-- a list that is owned -/
theorem ge_lstO (h : GA g Γ O es fun ts O1 => ts.length ≤ 1000 ∧ ∃ w, OwnIs ts w ∧ ∀ p, P ⟨tRef, p⟩ (O1 ++ [w p])) : GE g Γ O (.List es pos) P :=
  ⟨fun ok σ S C n Q kk => ⟨_, pe_lst pa_tA, h.run ok σ S C n _ fun ts O1 vs S1 C1 s1 w1 a1 ⟨hz, w, ht, hp⟩ => ⟨small_sz (by rw [a1.length]; exact hz), fun p np => by
    rw [ov_updC]
    exact (kk.mono s1).ret (t := ⟨tRef, p⟩) (w1.made np (w p) (ht p).1 ((ht p).2 _ _ vs upd_same a1)) rfl (hp p)⟩⟩⟩
section
variable {K : PySem.W.Frag} {α β γ : Type} {T : Ty α} {U : Ty β} {W : Ty γ}
theorem tupIs_het {ts : List Tv} : TupIs K ts ⟨tHet K ts, ()⟩ := fun S a vs h1 h2 => ⟨a, vs, rfl, h1, h2⟩
theorem tupIs_pr {x : α} {y : β} : TupIs K [⟨T, x⟩, ⟨U, y⟩] ⟨tPr K T U, (x, y)⟩ := fun S a vs h1 h2 => by
  cases h2 with
  | cons r1 t1 => cases t1 with
    | cons r2 t2 => cases t2; exact ⟨a, _, _, rfl, h1, r1, r2⟩
theorem tupIs_tr {x : α} {y : β} {z : γ} : TupIs K [⟨T, x⟩, ⟨U, y⟩, ⟨W, z⟩] ⟨tTr K T U W, (x, y, z)⟩ := fun S a vs h1 h2 => by
  cases h2 with
  | cons r1 t1 => cases t1 with
    | cons r2 t2 => cases t2 with
      | cons r3 t3 => cases t3; exact ⟨a, _, _, _, rfl, h1, r1, r2, r3⟩
/-- all of one type -/
inductive AllTv {α : Type} (T : Ty α) : List Tv → List α → Prop
  | nil : AllTv T [] []
  | cons {x : α} {ts : List Tv} {xs : List α} : AllTv T ts xs → AllTv T (⟨T, x⟩ :: ts) (x :: xs)
theorem AllTv.at_ {S : Hp} : ∀ {ts : List Tv} {xs : List α} {vs : List V}, AllTv T ts xs → ArgsAt S vs ts → AllAt T S vs xs
  | _, _, _, .nil, .nil => .nil
  | _, _, _, .cons h, .cons r t => .cons r (AllTv.at_ h t)
theorem tupIs_all {ts : List Tv} {xs : List α} (h : AllTv T ts xs) : TupIs K ts ⟨tTup K T, xs⟩ := fun S a vs h1 h2 => ⟨a, vs, rfl, h1, h.at_ h2⟩
theorem lstIs_all {ts : List Tv} {xs : List α} (h : AllTv T ts xs) : LstIs ts ⟨tLst T, xs⟩ := fun S a vs h1 h2 => ⟨a, vs, rfl, h1, h.at_ h2⟩
theorem ownIs_all {ts : List Tv} {xs : List α} (h : AllTv T ts xs) : OwnIs ts fun p => oLst p T xs := fun p => ⟨rfl, fun S C vs h1 h2 => ⟨vs, h1, h.at_ h2⟩⟩
theorem ownIs_het {ts : List Tv} : OwnIs ts fun p => oHet p ts := fun p => ⟨rfl, fun S C vs h1 h2 => ⟨vs, h1, h2⟩⟩
end

/-! ### statements -/
variable {R : Rs} {s : Stmt} {ss A B : List Stmt}
theorem gss_nil (h : R.nx Γ O) : GSs g Γ O [] R := ⟨fun _ σ S C n D k => ⟨_, pss_nil, k.nx Γ O σ S C (Same.refl S) n h⟩⟩
theorem gss_cons (h : GS g Γ O s { R with nx := fun Γ' O' => GSs g Γ' O' ss R }) : GSs g Γ O (s :: ss) R :=
  ⟨fun ok σ S C n D k => ⟨_, pss_cons ps_tS ps_tSs, h.run ok σ S C n _ ⟨fun Γ' O' σ' S' C' s' n' hx => hx.run ok σ' S' C' n' D (k.mono s'), k.rt, k.bk, k.ct⟩⟩⟩
/-- the last statement -/
theorem gss_one (h : GS g Γ O s R) : GSs g Γ O [s] R := ⟨fun ok σ S C n D k => ⟨_, pss_one ps_tS, h.run ok σ S C n D k⟩⟩
theorem gs_pass (h : R.nx Γ O) : GS g Γ O (.Pass pos) R := ⟨fun _ σ S C n D k => ⟨_, ps_pass, k.nx Γ O σ S C (Same.refl S) n h⟩⟩
theorem gs_break (h : R.bk Γ O) : GS g Γ O (.Break pos) R := ⟨fun _ σ S C n D k => ⟨_, ps_break, k.bk Γ O σ S C (Same.refl S) n h⟩⟩
theorem gs_continue (h : R.ct Γ O) : GS g Γ O (.Continue pos) R := ⟨fun _ σ S C n D k => ⟨_, ps_continue, k.ct Γ O σ S C (Same.refl S) n h⟩⟩
theorem gs_expr (h : GE g Γ O e fun _ O' => R.nx Γ O') (hs : swapsWith e none pos.line g.X.env = pure false := by rfl) : GS g Γ O (.Expr e pos) R :=
  ⟨fun ok σ S C n D k => ⟨_, ps_expr pe_tE hs, h.run ok σ S C n _ fun t O' v S' C' s' w _ hp => k.nx Γ O' σ S' C' s' (n.wdS s' w) hp⟩⟩
theorem gs_ret (h : GE g Γ O e R.rt) : GS g Γ O (.Return (some e) pos) R := ⟨fun ok σ S C n D k => ⟨_, ps_ret pe_tE, h.run ok σ S C n _ k.rt⟩⟩
theorem gs_retN (h : R.rt ⟨tNon, ()⟩ O) : GS g Γ O (.Return none pos) R := ⟨fun ok σ S C n D k => ⟨_, ps_retN, k.rt.ret (t := ⟨tNon, ()⟩) n.wd rfl h⟩⟩
theorem gs_if (h : GT g Γ O c fun d O1 => if d = true then GSs g Γ O1 A R else GSs g Γ O1 B R) : GS g Γ O (.If c A B pos) R :=
  ⟨fun ok σ S C n D k => ⟨_, ps_if pt_tT ps_tSs ps_tSs, h.run ok σ S C n _ fun d O1 S1 C1 s1 w1 hd => by
    cases d with
    | true => exact iteT ((unT hd).run ok σ S1 C1 (n.wdS s1 w1) D (k.mono s1))
    | false => exact iteF ((unF hd).run ok σ S1 C1 (n.wdS s1 w1) D (k.mono s1))⟩⟩
/-- x = e -/
theorem gs_set (i : Nat) {x : Str} {pos' : Pos} (h : GE g Γ O e fun t O' => R.nx (Γ.set i (some t)) O') (hN : g.X.N.Nodup) (hi : g.X.N[i]? = some x := by rfl) (hx : Loc g.X.env.scope x := by first | exact Or.inl rfl | exact Or.inr rfl) (hs : swapsWith e (some (.Name x pos')) pos.line g.X.env = pure false := by rfl)
    (hf : g.X.fn x = true ∨ g.X.env.scope.names.lookup x = some .local := by first | exact .inl rfl | exact .inr rfl) : GS g Γ O (.Assign [.Name x pos'] e pos) R :=
  ⟨fun ok σ S C n D k => ⟨_, ps_set hN hi hx pe_tE hs hf, h.run ok σ S C n _ fun t O' v S' C' s' w a hp => k.nx _ O' _ S' C' s' ((n.wdS s' w).set i a) hp⟩⟩
variable {PG' : Ctx → List Ow → Prop} {t : Tv} {ts : List Tv}
theorem gg_name (i : Nat) {x : Str} (h : PG' (Γ.set i (some t)) O) (hN : g.X.N.Nodup) (hi : g.X.N[i]? = some x := by rfl) (hx : Loc g.X.env.scope x := by first | exact Or.inl rfl | exact Or.inr rfl)
    (hf : g.X.fn x = true ∨ g.X.env.scope.names.lookup x = some .local := by first | exact .inl rfl | exact .inr rfl) : GG g Γ O (.Name x pos) t PG' :=
  ⟨fun _ σ S C n v a Q k => ⟨_, pg_name hN hi hx hf, k _ O _ S C (Same.refl S) (n.set i a) h⟩⟩
structure TupV (K : PySem.W.Frag) (t : Tv) (ts : List Tv) : Prop where
  at_ : ∀ S v, t.at_ S v → ∃ a vs, v = .ref a ∧ SqT K S a vs ∧ ArgsAt S vs ts
theorem tupV_het {K : PySem.W.Frag} : TupV K ⟨tHet K ts, ()⟩ ts := ⟨fun _ _ h => h⟩
theorem tupV_pr {K : PySem.W.Frag} {α β : Type} {T : Ty α} {U : Ty β} {x : α × β} : TupV K ⟨tPr K T U, x⟩ [⟨T, x.1⟩, ⟨U, x.2⟩] := ⟨fun _ _ ⟨a, v1, v2, h1, h2, h3, h4⟩ => ⟨a, _, h1, h2, .cons h3 (.cons h4 .nil)⟩⟩
theorem tupV_tr {K : PySem.W.Frag} {α β γ : Type} {T : Ty α} {U : Ty β} {W : Ty γ} {x : α × β × γ} : TupV K ⟨tTr K T U W, x⟩ [⟨T, x.1⟩, ⟨U, x.2.1⟩, ⟨W, x.2.2⟩] := ⟨fun _ _ ⟨a, v1, v2, v3, h1, h2, h3, h4, h5⟩ => ⟨a, _, h1, h2, .cons h3 (.cons h4 (.cons h5 .nil))⟩⟩
theorem ggs_nil (h : PG' Γ O) : GGs g Γ O [] [] PG' := ⟨fun _ σ S C n vs a Q k => by cases a; exact ⟨_, pgs_nil, rfl, k Γ O σ S C (Same.refl S) n h⟩⟩
theorem ggs_cons (h : GG g Γ O e t fun Γ1 O1 => GGs g Γ1 O1 es ts PG') (hs : (assignEach (e :: es) g.X.env).map (·.2) = assign e g.X.env :: (assignEach es g.X.env).map (·.2) := by rfl) : GGs g Γ O (e :: es) (t :: ts) PG' :=
  ⟨fun ok σ S C n vs a Q k => by
    cases a with
    | cons r rr => exact ⟨_, pgs_cons pg_tG pg_tGs hs, _, _, rfl, h.run ok σ S C n _ r _ fun Γ1 O1 σ1 S1 C1 s1 n1 h1 => h1.run ok σ1 S1 C1 n1 _ (ArgsAt.mono s1 rr) Q (k.mono s1)⟩⟩
theorem gg_tup {k : Nat} (hv : TupV g.X.K t ts) (h : GGs g Γ O es ts PG') (hc : g.X.calm = true := by rfl) (hn : (assignEach es g.X.env).length = ts.length := by rfl) (hst : (assignEach es g.X.env).findIdx? (·.1) = none := by rfl) : GG g Γ O (.Tuple es k pos) t PG' :=
  ⟨fun ok σ S C n v a Q kk => by
    obtain ⟨p, vs, e1, h2, h3⟩ := hv.at_ S v a
    exact ⟨_, pg_tup hc pg_tGs hn hst, p, vs, e1, same_t n.wd.sameS h2, by rw [h3.length], h.run ok σ S C n vs h3 Q kk⟩⟩
theorem gs_asg {tg : Expr} (h : GE g Γ O e fun t O' => GG g Γ O' tg t R.nx) (hs : swapsWithSole [tg] e pos.line g.X.env = pure false := by rfl) (hw : swappedStores [tg] e g.X.env = pure none := by rfl)
    (h1 : (assignEach [tg] g.X.env).map (·.2) = [assign tg g.X.env] := by rfl) : GS g Γ O (.Assign [tg] e pos) R :=
  ⟨fun ok σ S C n D k => ⟨_, ps_asg pe_tE pg_tG hs hw h1, h.run ok σ S C n _ fun t O' v S' C' s' w a hp => hp.run ok σ S' C' (n.wdS s' w) v a _ (k.nx.mono s')⟩⟩
/-- a, b = x, y -/
theorem gs_par (i j : Nat) {x y : Str} {px py pt : Pos} {kt k2 : Nat} {pt2 : Pos} (h : GA g Γ O [a, b] fun ts O' => ∃ t u, ts = [t, u] ∧ R.nx ((Γ.set i (some t)).set j (some u)) O') (hN : g.X.N.Nodup) (hc : g.X.calm = true := by rfl) (hi : g.X.N[i]? = some x := by rfl) (hj : g.X.N[j]? = some y := by rfl) (hij : i ≠ j := by decide)
    (hx : g.X.env.scope.names.lookup x = some .local := by rfl) (hy : g.X.env.scope.names.lookup y = some .local := by rfl)
    (hw : swappedStores [.Tuple [.Name x px, .Name y py] kt pt] (.Tuple [a, b] k2 pt2) g.X.env = pure (some [x, y]) := by rfl)
    (hs : swapsWithSole [.Tuple [.Name x px, .Name y py] kt pt] (.Tuple [a, b] k2 pt2) pos.line g.X.env = pure false := by rfl) : GS g Γ O (.Assign [.Tuple [.Name x px, .Name y py] kt pt] (.Tuple [a, b] k2 pt2) pos) R :=
  ⟨fun ok σ S C n D k => ⟨_, ps_par hc hN hi hj hij hx hy pa_tA hw hs, h.run ok σ S C n _ fun ts O' vs S' C' s' w a ⟨t, u, et, hp⟩ => by
    subst et
    cases a with
    | cons r1 t1 => cases t1 with
      | cons r2 t2 => cases t2; exact ⟨_, _, rfl, k.nx _ O' _ S' C' s' (((n.wdS s' w).set i r1).set j r2) hp⟩⟩⟩
/-- x op= e (ints) -/
theorem gs_augAdd (i : Nat) {x : Str} {m : Int} {pos' : Pos} (hΓ : Γ[i]? = some (some ⟨tInt, m⟩)) (h : GE g Γ O e fun t O' => ∃ d : Int, t = ⟨tInt, d⟩ ∧ R.nx (Γ.set i (some ⟨tInt, m + d⟩)) O') (hN : g.X.N.Nodup) (hi : g.X.N[i]? = some x := by rfl) (hx : Loc g.X.env.scope x := by first | exact Or.inl rfl | exact Or.inr rfl)
    (hf : g.X.fn x = true ∨ g.X.env.scope.names.lookup x = some .local := by first | exact .inl rfl | exact .inr rfl) : GS g Γ O (.AugAssign (.Name x pos') .Add e pos) R :=
  ⟨fun ok σ S C n D k => by
    obtain ⟨v, ev, av⟩ := n.en.get i _ hΓ
    obtain rfl : v = .int m := av
    refine ⟨_, ps_aug hN hi hx pe_tE ip_add hf, _, ev, h.run ok σ S C n _ fun t O' v S' C' s' w a ⟨d, et, hp⟩ => ?_⟩
    subst et
    exact ⟨m, d, rfl, a, k.nx _ O' _ S' C' s' ((n.wdS s' w).set i (t := ⟨tInt, m + d⟩) rfl) hp⟩⟩
/-- an owned list is frozen, seen from slot i -/
theorem gss_freeze (i j : Nat) {p : Addr} {α : Type} {T : Ty α} {xs : List α} (h : GSs g (Γ.set i (some ⟨tLst T, xs⟩)) (O.eraseIdx j) ss R) (hi : Γ[i]? = some (some ⟨tRef, p⟩) := by rfl) (hj : O[j]? = some (oLst p T xs) := by rfl) : GSs g Γ O ss R :=
  ⟨fun ok σ S C n D k => by
    obtain ⟨vs, h1, h2⟩ := n.wd.own _ (List.mem_of_getElem? hj)
    obtain ⟨w, sm⟩ := n.wd.freeze (o := .lst vs) hj rfl
    rw [← ov_freeze h1]
    obtain ⟨v, ev, av⟩ := n.en.get i _ hi
    obtain rfl : v = .ref p := av
    have n2 : Now g Γ (O.eraseIdx j) σ (upd S p (.lst vs)) (del C p) := ⟨n.sm.trans sm, n.en.mono sm, w⟩
    have n3 := n2.set (t := ⟨tLst T, xs⟩) i (v := .ref p) ⟨p, vs, rfl, upd_same, h2.mono sm⟩
    have es : σ.set i (some (V.ref p)) = σ := by
      apply List.ext_getElem?
      intro k
      by_cases hk : k = i
      · subst hk
        rw [List.getElem?_set_self (List.getElem?_eq_some_iff.mp ev).1, ev]
      · rw [List.getElem?_set_ne (Ne.symm hk)]
    rw [es] at n3
    exact h.run ok σ _ _ n3 D (k.mono sm)⟩
/-- to know less of the slots -/
theorem gss_weak {Γ' : Ctx} (h : GSs g Γ' O ss R) (hl : Γ'.length = Γ.length) (hw : ∀ (i : Nat) (t : Tv), Γ'[i]? = some (some t) → Γ[i]? = some (some t)) : GSs g Γ O ss R :=
  ⟨fun ok σ S C n D k => h.run ok σ S C ⟨n.sm, n.en.weak hl hw, n.wd⟩ D k⟩
end
end G
end
section
/-! G3: what is walked; for, while; list comprehensions. -/
namespace G
open PySem L2
section
variable {g : Gc} {Γ : Ctx} {O : List Ow} {P : PI'} {pos : Pos} {tg e a b : Expr}
/-! ### what is walked -/
/-- the i-th of xs -/
def itL {α : Type} (T : Ty α) (xs : List α) : Nat → Tv → Prop := fun i t => ∃ x, xs[i]? = some x ∧ t = ⟨T, x⟩
def itR (lo : Int) : Nat → Tv → Prop := fun i t => t = ⟨tInt, lo + i⟩
def asLst (P : PI') : PK' := fun t O1 => ∃ (α : Type) (T : Ty α) (xs : List α), t = ⟨tLst T, xs⟩ ∧ P xs.length (itL T xs) O1
def asLck (K : PySem.W.Frag) (P : PI') : PK' := fun t O1 => ∃ (α : Type) (T : Ty α) (xs : List α), t = ⟨tLck K T, xs⟩ ∧ P xs.length (itL T xs) O1
def asTup (K : PySem.W.Frag) (P : PI') : PK' := fun t O1 => ∃ (α : Type) (T : Ty α) (xs : List α), t = ⟨tTup K T, xs⟩ ∧ P xs.length (itL T xs) O1
theorem asLst_i {P : PI'} {α : Type} {T : Ty α} {xs : List α} (h : P xs.length (itL T xs) O) : asLst P ⟨tLst T, xs⟩ O := ⟨α, T, xs, rfl, h⟩
theorem asLck_i {K : PySem.W.Frag} {P : PI'} {α : Type} {T : Ty α} {xs : List α} (h : P xs.length (itL T xs) O) : asLck K P ⟨tLck K T, xs⟩ O := ⟨α, T, xs, rfl, h⟩
theorem asTup_i {K : PySem.W.Frag} {P : PI'} {α : Type} {T : Ty α} {xs : List α} (h : P xs.length (itL T xs) O) : asTup K P ⟨tTup K T, xs⟩ O := ⟨α, T, xs, rfl, h⟩
theorem gi_list (h : GE g Γ O e (asLst P)) : GI g Γ O tg e P :=
  ⟨fun ok σ S C n R k => ⟨_, pi_list pe_tE, h.run ok σ S C n _ fun t O1 v S1 C1 s1 w1 a1 ⟨α, T, xs, et, hp⟩ => by
    subst et
    obtain ⟨p, vs, e1, h1, h2⟩ := a1
    have hl : vs.length = xs.length := h2.length
    refine ⟨p, e1, ⟨vs, SqL.of (w1.sameS _ _ h1)⟩, k _ _ O1 _ S1 C1 s1 w1 ⟨fun i S' C' F O' hi s w => ?_, fun S' C' F O' s w => ?_, fun i S' C' F O' x H' hi s w y => ?_⟩ hp⟩
    · exact ⟨vs, vs[i]'(by omega), SqL.of (w.sameS _ _ (s _ _ h1)), by simp⟩
    · exact ⟨vs, SqL.of (w.sameS _ _ (s _ _ h1)), by omega⟩
    · obtain ⟨rfl, y⟩ := y
      obtain ⟨z, hz, az⟩ := (h2.mono s).getV (y vs (SqL.of (w.sameS _ _ (s _ _ h1))))
      exact ⟨⟨T, z⟩, S', ⟨z, hz, rfl⟩, rfl, Same.refl _, w, az⟩⟩⟩
theorem gi_lck (h : GE g Γ O e (asLck g.X.K P)) : GI g Γ O tg e P :=
  ⟨fun ok σ S C n R k => ⟨_, pi_list pe_tE, h.run ok σ S C n _ fun t O1 v S1 C1 s1 w1 a1 ⟨α, T, xs, et, hp⟩ => by
    subst et
    obtain ⟨p, vs, e1, h1, h2⟩ := a1
    have hl : vs.length = xs.length := h2.length
    refine ⟨p, e1, ⟨vs, w1.sameS.seq h1⟩, k _ _ O1 _ S1 C1 s1 w1 ⟨fun i S' C' F O' hi s w => ?_, fun S' C' F O' s w => ?_, fun i S' C' F O' x H' hi s w y => ?_⟩ hp⟩
    · exact ⟨vs, vs[i]'(by omega), w.sameS.seq (s.seq h1), by simp⟩
    · exact ⟨vs, w.sameS.seq (s.seq h1), by omega⟩
    · obtain ⟨rfl, y⟩ := y
      obtain ⟨z, hz, az⟩ := (h2.mono s).getV (y vs (w.sameS.seq (s.seq h1)))
      exact ⟨⟨T, z⟩, S', ⟨z, hz, rfl⟩, rfl, Same.refl _, w, az⟩⟩⟩
theorem gi_tup (h : GE g Γ O e (asTup g.X.K P)) : GI g Γ O tg e P :=
  ⟨fun ok σ S C n R k => ⟨_, pi_tup pe_tE, h.run ok σ S C n _ fun t O1 v S1 C1 s1 w1 a1 ⟨α, T, xs, et, hp⟩ => by
    subst et
    obtain ⟨p, vs, e1, h1, h2⟩ := a1
    have hl : vs.length = xs.length := h2.length
    refine ⟨p, e1, ⟨vs, same_t w1.sameS h1⟩, k _ _ O1 _ S1 C1 s1 w1 ⟨fun i S' C' F O' hi s w => ?_, fun S' C' F O' s w => ?_, fun i S' C' F O' x H' hi s w y => ?_⟩ hp⟩
    · exact ⟨vs, vs[i]'(by omega), same_t w.sameS (same_t s h1), by simp⟩
    · exact ⟨vs, same_t w.sameS (same_t s h1), by omega⟩
    · obtain ⟨rfl, y⟩ := y
      obtain ⟨z, hz, az⟩ := (h2.mono s).getV (y vs (same_t w.sameS (same_t s h1)))
      exact ⟨⟨T, z⟩, S', ⟨z, hz, rfl⟩, rfl, Same.refl _, w, az⟩⟩⟩
theorem twk_range {lo : Int} {n : Nat} {S : Hp} : TWk (Itr lo n) n (itR lo) S :=
  ⟨fun _ _ _ _ _ hi _ _ => hi, fun _ _ _ _ _ _ => Nat.le_refl _, fun i S' C' F O' x H' hi s w y => by
    obtain ⟨rfl, rfl⟩ := y
    exact ⟨⟨tInt, lo + i⟩, S', rfl, rfl, Same.refl _, w, rfl⟩⟩
def asRg (P : PI') : PK' := fun t O1 => ∃ j : Int, t = ⟨tInt, j⟩ ∧ -(2 ^ 62) ≤ j ∧ j < 2 ^ 62 ∧ P j.toNat (itR 0) O1
theorem asRg_i {P : PI'} {j : Int} (h1 : -(2 ^ 62) ≤ j) (h2 : j < 2 ^ 62) (h : P j.toNat (itR 0) O) : asRg P ⟨tInt, j⟩ O := ⟨j, rfl, h1, h2, h⟩
theorem gi_range1 {p : Pos} (hm : g.X.mg "range" = none) (h : GE g Γ O a (asRg P)) (hg : Gl g.X "range" := by rfl) (hs : starEach [a] g.X.env = [(false, eval a g.X.env)] := by rfl) : GI g Γ O tg (.Call (.Name "range" p) [a] [] pos) P :=
  ⟨fun ok σ S C n R k => ⟨_, pi_range1 hg hm pa_tA hs, (ga_cons (es := []) (PL' := fun ts O1 => ∃ j : Int, ts = [⟨tInt, j⟩] ∧ -(2 ^ 62) ≤ j ∧ j < 2 ^ 62 ∧ P j.toNat (itR 0) O1)
      (⟨fun ok σ S C n Q k => h.run ok σ S C n Q fun t O' v S' C' s w a ⟨j, et, q⟩ => k t O' v S' C' s w a (ga_nil ⟨j, by rw [et], q⟩)⟩) (by rw [hs] <;> rfl)).run ok σ S C n _ fun ts O1 vs S1 C1 s1 w1 a1 ⟨j, et, h1, h2, hp⟩ => by
    subst et
    cases a1 with
    | cons r t1 =>
      cases t1
      obtain rfl := (show _ = V.int j from r)
      exact ⟨j, rfl, h1, h2, k _ _ O1 _ S1 C1 s1 w1 twk_range hp⟩⟩⟩
def asRg2 (P : PI') : PL := fun ts O1 => ∃ i j : Int, ts = [⟨tInt, i⟩, ⟨tInt, j⟩] ∧ (-(2 ^ 62) ≤ i ∧ i < 2 ^ 62 ∧ -(2 ^ 62) ≤ j ∧ j < 2 ^ 62) ∧ P (j - i).toNat (itR i) O1
theorem asRg2_i {P : PI'} {i j : Int} (hb : -(2 ^ 62) ≤ i ∧ i < 2 ^ 62 ∧ -(2 ^ 62) ≤ j ∧ j < 2 ^ 62) (h : P (j - i).toNat (itR i) O) : asRg2 P [⟨tInt, i⟩, ⟨tInt, j⟩] O := ⟨i, j, rfl, hb, h⟩
theorem gi_range2 {p : Pos} (hm : g.X.mg "range" = none) (h : GA g Γ O [a, b] (asRg2 P)) (hg : Gl g.X "range" := by rfl)
    (hs : starEach [a, b] g.X.env = [(false, eval a g.X.env), (false, eval b g.X.env)] := by rfl) (hs2 : starEach [b] g.X.env = [(false, eval b g.X.env)] := by rfl) : GI g Γ O tg (.Call (.Name "range" p) [a, b] [] pos) P :=
  ⟨fun ok σ S C n R k => ⟨_, pi_range2 hg hm pa_tA hs hs2, h.run ok σ S C n _ fun ts O1 vs S1 C1 s1 w1 a1 ⟨i, j, et, h1, hp⟩ => by
    subst et
    cases a1 with
    | cons r t1 => cases t1 with
      | cons r2 t2 =>
        cases t2
        obtain rfl := (show _ = V.int i from r)
        obtain rfl := (show _ = V.int j from r2)
        exact ⟨i, j, rfl, h1, k _ _ O1 _ S1 C1 s1 w1 twk_range hp⟩⟩⟩
/-- the signs of a text -/
def itS (z : Str) : Nat → Tv → Prop := fun i t => ∃ c, z.cps[i]? = some c ∧ t = ⟨tStr, ⟨#[c]⟩⟩
def asStr (P : PI') : PK' := fun t O1 => ∃ z : Str, t = ⟨tStr, z⟩ ∧ P z.cps.size (itS z) O1
theorem asStr_i {P : PI'} {z : Str} (h : P z.cps.size (itS z) O) : asStr P ⟨tStr, z⟩ O := ⟨z, rfl, h⟩
theorem gi_str (h : GE g Γ O e (asStr P)) : GI g Γ O tg e P :=
  ⟨fun ok σ S C n R k => ⟨_, pi_str pe_tE, h.run ok σ S C n _ fun t O1 v S1 C1 s1 w1 a1 ⟨z, et, hp⟩ => by
    subst et
    exact ⟨z, a1, k _ _ O1 _ S1 C1 s1 w1 ⟨fun _ _ _ _ _ hi _ _ => hi, fun _ _ _ _ _ _ => Nat.le_refl _, fun i S' C' F O' x H' hi s w y => by
      obtain ⟨rfl, c, hc, rfl⟩ := y
      exact ⟨_, S', ⟨c, hc, rfl⟩, rfl, Same.refl _, w, rfl⟩⟩ hp⟩⟩⟩

/-! ### for, while -/
variable {R : Rs} {body : List Stmt} {c iter : Expr}
theorem GI.imp {P Q : PI'} (h : GI g Γ O tg e P) (k : ∀ n it O', P n it O' → Q n it O') : GI g Γ O tg e Q := ⟨fun ok σ S C n R q => h.run ok σ S C n R fun m it O' J S' C' s w t hp => q m it O' J S' C' s w t (k m it O' hp)⟩
theorem gs_for' (h : GI g Γ O tg iter fun n it O1 => ∃ I : Nat → Ctx → List Ow → Prop, I 0 Γ O1 ∧
      (∀ i t Γ' O', i < n → it i t → I i Γ' O' → GG g Γ' O' tg t fun Γ2 O2 => GSs g Γ2 O2 body { nx := I (i + 1), ct := I (i + 1), bk := R.nx, rt := R.rt }) ∧ ∀ Γ' O', I n Γ' O' → R.nx Γ' O')
    (hc : g.X.calm = true := by rfl) (hs : ∀ x, foldedSetIterable iter g.X.env x = pure x := by intro _; rfl) : GS g Γ O (.For tg iter body [] pos) R :=
  ⟨fun ok σ S C n D k => ⟨_, ps_for ok.pw hc pi_tI pg_tG ps_tSs hs, h.run ok σ S C n _ fun m it O1 J S1 C1 s1 w1 tw ⟨I, h0, hst, hd⟩ => by
    refine ⟨fun i j σ' H' => j = m - i ∧ i ≤ m ∧ ∃ Γ' O' S' C', H' = ov S' C' ∧ Same S1 S' ∧ Now g Γ' O' σ' S' C' ∧ I i Γ' O', ⟨m, by simp, Nat.zero_le _, Γ, O1, S1, C1, rfl, Same.refl _, n.wdS s1 w1, h0⟩, ?_⟩
    rintro i j σ' H' ⟨rfl, hi, Γ', O', S', C', rfl, s', n', hI⟩
    by_cases hlt : i < m
    · refine .inr ⟨tw.go i S' C' _ O' hlt s' n'.wd, fun σ2 H2 => ∃ Γ2 O2 S2 C2, H2 = ov S2 C2 ∧ Same S1 S2 ∧ Now g Γ2 O2 σ2 S2 C2 ∧ I (i + 1) Γ2 O2, ?_, ?_⟩
      · rintro σ2 H2 ⟨Γ2, O2, S2, C2, e2, s2, n2, h2⟩
        exact ⟨m - (i + 1), by omega, rfl, hlt, Γ2, O2, S2, C2, e2, s2, n2, h2⟩
      · intro x H2 y
        obtain ⟨t, S2, ht, rfl, s2, w2, at_⟩ := tw.yld i S' C' _ O' x H2 hlt s' n'.wd y
        have s12 := s'.trans s2
        refine (hst i t Γ' O' hlt ht hI).run ok σ' S2 C' (n'.wdS s2 w2) x at_ _ fun Γ3 O3 σ3 S3 C3 s3 n3 h3 => ?_
        have s13 := s12.trans s3
        exact h3.run ok σ3 S3 C3 n3 _ ⟨fun Γ4 O4 σ4 S4 C4 s4 n4 h4 => ⟨Γ4, O4, S4, C4, rfl, s13.trans s4, n4, h4⟩, k.rt.mono (s1.trans s13), k.nx.mono (s1.trans s13), fun Γ4 O4 σ4 S4 C4 s4 n4 h4 => ⟨Γ4, O4, S4, C4, rfl, s13.trans s4, n4, h4⟩⟩
    · obtain rfl : i = m := by omega
      exact .inl ⟨tw.stop S' C' _ O' s' n'.wd, k.nx Γ' O' σ' S' C' (s1.trans s') n' (hd Γ' O' hI)⟩⟩⟩
/-- a loop's obligations, by I -/
structure ForI (g : Gc) (Γ : Ctx) (tg : Expr) (body : List Stmt) (R : Rs) (n : Nat) (it : Nat → Tv → Prop) (O1 : List Ow) : Prop where
  ex : ∃ I : Nat → Ctx → List Ow → Prop, I 0 Γ O1 ∧
    (∀ i t Γ' O', i < n → it i t → I i Γ' O' → GG g Γ' O' tg t fun Γ2 O2 => GSs g Γ2 O2 body { nx := I (i + 1), ct := I (i + 1), bk := R.nx, rt := R.rt }) ∧ ∀ Γ' O', I n Γ' O' → R.nx Γ' O'
theorem gs_for (h : GI g Γ O tg iter (ForI g Γ tg body R))
    (hc : g.X.calm = true := by rfl) (hs : ∀ x, foldedSetIterable iter g.X.env x = pure x := by intro _; rfl) : GS g Γ O (.For tg iter body [] pos) R := gs_for' (h.imp fun _ _ _ z => z.ex) hc hs
theorem gs_while (W : Nat → Ctx → List Ow → Prop) (m0 : Nat) (h0 : W m0 Γ O)
    (hs : ∀ m Γ' O', W m Γ' O' → GT g Γ' O' c fun b O1 => if b = true then GSs g Γ' O1 body { nx := fun Γ2 O2 => ∃ m', m' < m ∧ W m' Γ2 O2, ct := fun Γ2 O2 => ∃ m', m' < m ∧ W m' Γ2 O2, bk := R.nx, rt := R.rt } else R.nx Γ' O1) : GS g Γ O (.While c body [] pos) R :=
  ⟨fun ok σ S C n D k => ⟨_, ps_while ok.pw pt_tT ps_tSs, by
    refine ⟨fun m σ' H' => ∃ Γ' O' S' C', H' = ov S' C' ∧ Same S S' ∧ Now g Γ' O' σ' S' C' ∧ W m Γ' O', ⟨m0, Γ, O, S, C, rfl, Same.refl _, n, h0⟩, ?_⟩
    rintro m σ' H' ⟨Γ', O', S', C', rfl, s', n', hW⟩
    refine (hs m Γ' O' hW).run ok σ' S' C' n' _ fun b O1 S1 C1 s1 w1 hb => ?_
    have s01 := s'.trans s1
    cases b with
    | false => exact iteF (k.nx Γ' O1 σ' S1 C1 s01 (n'.wdS s1 w1) (unF hb))
    | true =>
      refine iteT ⟨fun σ2 H2 => ∃ m', m' < m ∧ ∃ Γ2 O2 S2 C2, H2 = ov S2 C2 ∧ Same S S2 ∧ Now g Γ2 O2 σ2 S2 C2 ∧ W m' Γ2 O2, fun σ2 H2 z => z, ?_⟩
      exact (unT hb).run ok σ' S1 C1 (n'.wdS s1 w1) _ ⟨fun Γ4 O4 σ4 S4 C4 s4 n4 ⟨m', hm, h4⟩ => ⟨m', hm, Γ4, O4, S4, C4, rfl, s01.trans s4, n4, h4⟩, k.rt.mono s01, k.nx.mono s01,
        fun Γ4 O4 σ4 S4 C4 s4 n4 ⟨m', hm, h4⟩ => ⟨m', hm, Γ4, O4, S4, C4, rfl, s01.trans s4, n4, h4⟩⟩⟩⟩

/-! ### comprehensions -/
def wipeG (Γ : Ctx) : List Nat → Ctx
  | [] => Γ
  | v :: vs => (wipeG Γ vs).set v none
theorem EnvOk.unset {S : Hp} {σ : L2.St} {Γ : Ctx} (i : Nat) (h : EnvOk S σ Γ) : EnvOk S (σ.set i none) (Γ.set i none) := by
  refine ⟨by rw [List.length_set, List.length_set, h.len], fun k u e => ?_⟩
  by_cases hk : k = i
  · subst hk
    by_cases hl : k < Γ.length
    · rw [List.getElem?_set_self hl] at e
      cases e
    · rw [List.getElem?_eq_none (by rw [List.length_set]; omega)] at e
      cases e
  · rw [List.getElem?_set_ne (Ne.symm hk)] at e ⊢
    exact h.get k u e
theorem EnvOk.wiped {S : Hp} {σ : L2.St} {Γ : Ctx} (h : EnvOk S σ Γ) : ∀ vs : List Nat, EnvOk S (wipe σ vs) (wipeG Γ vs)
  | [] => h
  | v :: vs => (h.wiped vs).unset v
/-- a comprehension's block -/
abbrev gblk (g : Gc) (scope : Scope) (s : Shared) (H : Hp) (c : Addr) (cl : List (Str × Addr)) (fp : List Addr) (F S0 : Hp) : Gc :=
  ⟨g.X.blk s H scope (compEnvC scope cl c g.X.env) fp, F, S0, fun _ _ _ _ => False, fun _ _ _ => False⟩
theorem gblk_ok {scope : Scope} {s : Shared} {H : Hp} {c : Addr} {cl : List (Str × Addr)} {fp : List Addr} {F S0 : Hp} (ok : g.Ok) : (gblk g scope s H c cl fp F S0).Ok := ⟨takes0, PassesOwn.never, ok.gd, fun _ _ _ _ _ _ _ _ _ _ h => h⟩
/-- how the target stores: from the wiped slots Γw, with a t, to Γ2 -/
def TgOk (gt : TG) (vs : List Nat) (Γw : Ctx) (t : Tv) (Γ2 : Ctx) : Prop := ∀ (S C : Hp) (σ0 : L2.St) (v : V), Same S (ov S C) → EnvOk S (wipe σ0 vs) Γw → t.at_ S v → ∃ σ2, wipe σ2 vs = wipe σ0 vs ∧ EnvOk S σ2 Γ2 ∧ ∀ Q : L2.St → Hp → Prop, Q σ2 (ov S C) → gt v (wipe σ0 vs) (ov S C) Q
theorem tgOk_name {i : Nat} {Γw : Ctx} {t : Tv} : TgOk (gName i) [i] Γw t (Γw.set i (some t)) := fun S C σ0 v _ en a =>
  ⟨_, by simp only [wipe, List.set_set], en.set i a, fun _ q => q⟩
theorem tgOk_two {K : PySem.W.Frag} {i j : Nat} {Γw : Ctx} {t t1 t2 : Tv} (hv : TupV K t [t1, t2]) (hij : i ≠ j) : TgOk (gTup K 2 (gCons (gName i) (gCons (gName j) gNil))) [i, j] Γw t ((Γw.set i (some t1)).set j (some t2)) := fun S C σ0 v sm en a => by
  obtain ⟨p, vs, e1, h2, h3⟩ := hv.at_ S v a
  cases h3 with
  | cons r1 q1 => cases q1 with
    | cons r2 q2 =>
      cases q2
      refine ⟨_, ?_, (en.set i r1).set j r2, fun Q q => ⟨p, _, e1, same_t sm h2, rfl, _, _, rfl, _, _, rfl, rfl, q⟩⟩
      simp only [wipe]
      apply List.ext_getElem?
      intro k
      by_cases h1 : k = i
      · subst h1
        simp [List.getElem?_set]
      · by_cases h2 : k = j
        · subst h2
          simp [List.getElem?_set, Ne.symm h1]
        · simp [List.getElem?_set, Ne.symm h1, Ne.symm h2]
/-- tests of a comprehension: none or one -/
structure GTs (g : Gc) (Γ : Ctx) (O : List Ow) (ifs : List Expr) (P : PB) : Prop where
  run : g.Ok → ∀ σ S C, Now g Γ O σ S C → ∀ Q, KontB g S P Q → ∃ t, PTs g.X ifs t ∧ t σ (ov S C) Q
theorem gts_nil {PB' : PB} (h : PB' true O) : GTs g Γ O [] PB' := ⟨fun _ σ S C n Q k => ⟨_, pts_nil, k true O S C (Same.refl _) n.wd h⟩⟩
theorem gts_one {PB' : PB} (h : GT g Γ O c PB') : GTs g Γ O [c] PB' := ⟨fun ok σ S C n Q k => ⟨_, pts_one pt_tT, h.run ok σ S C n Q k⟩⟩
def tEB (X : Cx) (scope : Scope) (e : Expr) : TE := fun σ H Q => ∀ (s : Shared) (H0 : Hp) (c : Addr) (cl : List (Str × Addr)) (fp : List Addr), tE (X.blk s H0 scope (compEnvC scope cl c X.env) fp) e σ H Q
def tTB (X : Cx) (scope : Scope) (e : List Expr) : TT := fun σ H Q => ∀ (s : Shared) (H0 : Hp) (c : Addr) (cl : List (Str × Addr)) (fp : List Addr), ∃ t, PTs (X.blk s H0 scope (compEnvC scope cl c X.env) fp) e t ∧ t σ H Q
section
variable {X : Cx} {scope : Scope}
theorem pe_tEB (s : Shared) (H0 : Hp) (c : Addr) (cl : List (Str × Addr)) (fp : List Addr) : PE (X.blk s H0 scope (compEnvC scope cl c X.env) fp) e (tEB X scope e) :=
  ⟨fun pins s' σ H Q I h => pe_tE.run pins s' σ H Q I (h s H0 c cl fp)⟩
theorem pts_tTB {ifs : List Expr} (s : Shared) (H0 : Hp) (c : Addr) (cl : List (Str × Addr)) (fp : List Addr) : PTs (X.blk s H0 scope (compEnvC scope cl c X.env) fp) ifs (tTB X scope ifs) :=
  ⟨fun pins s' σ H Q I h => let ⟨t, p, q⟩ := h s H0 c cl fp; p.run pins s' σ H Q I q⟩
end
/-- one turn and all turns, by I; fz: the list is frozen at the end -/
structure LcI (g : Gc) (Γ : Ctx) (gt : TG) (vs : List Nat) (scope : Scope) (elt : Expr) (ifs : List Expr) (fz : Bool) (P : PK') (n : Nat) (it : Nat → Tv → Prop) (O1 : List Ow) : Prop where
  ex : n ≤ 1000000 ∧ ∃ (β : Type) (T : Ty β) (I : Nat → List β → List Ow → Prop), I 0 [] O1 ∧
    (∀ i acc t O', i < n → it i t → I i acc O' → ∃ Γ2, TgOk gt vs (wipeG Γ vs) t Γ2 ∧ ∃ Pb : PB, (∀ s H c cl fp F S0, GTs (gblk g scope s H c cl fp F S0) Γ2 O' ifs Pb) ∧
      (∀ O2, Pb true O2 → ∀ s H c cl fp F S0, GE (gblk g scope s H c cl fp F S0) Γ2 O2 elt fun u O3 => ∃ y, u = ⟨T, y⟩ ∧ I (i + 1) (acc ++ [y]) O3) ∧ ∀ O2, Pb false O2 → I (i + 1) acc O2) ∧
    ∀ acc O', acc.length ≤ n → I n acc O' → if fz = true then P ⟨tLst T, acc⟩ O' else ∀ p, P ⟨tRef, p⟩ (O' ++ [oLst p T acc])
theorem lc_read {elt : Expr} {ifs : List Expr} {scope : Scope} {gt : TG} {vs : List Nat} {fz : Bool} {P' : PK'} (h : GI g Γ O tg iter (LcI g Γ gt vs scope elt ifs fz P')) (ok : g.Ok) {σ : L2.St} {S C : Hp} (n : Now g Γ O σ S C) {Q : VK} (k : Kont g S P' Q) :
    tLc (tI g.X tg iter) gt (tTB g.X scope ifs) (tEB g.X scope elt) vs σ (ov S C) Q := by
  refine h.run ok σ S C n _ fun m it O1 J S1 C1 s1 w1 tw ⟨hm, β, T, I, h0, hst, hd⟩ => ?_
  intro D hD
  obtain ⟨hD1, hD2⟩ := ov_none hD
  have hF : g.F D = none := by rw [← w1.rest D (w1.notin hD1)]; exact hD1
  refine ⟨fun i j H' => j = m - i ∧ i ≤ m ∧ ∃ acc ws O' S' C', H' = ov S' C' ∧ Same S1 S' ∧ C' D = some (.lst ws) ∧ AllAt T S' ws acc ∧ acc.length ≤ i ∧ Wd S' C' (upd g.F D (.lst ws)) O' ∧ I i acc O',
    ⟨m, by simp, Nat.zero_le _, [], [], O1, S1, upd C1 D (.lst []), ov_updC, Same.refl _, upd_same, .nil, Nat.zero_le _, w1.alien hD, h0⟩, ?_⟩
  rintro i j H' ⟨rfl, hi, acc, ws, O', S', C', rfl, s', hC, ha, hal, w', hI⟩
  have s0 := s1.trans s'
  by_cases hlt : i < m
  · refine .inr ⟨tw.go i S' C' _ O' hlt s' w', fun H2 => ∃ acc ws O' S' C', H2 = ov S' C' ∧ Same S1 S' ∧ C' D = some (.lst ws) ∧ AllAt T S' ws acc ∧ acc.length ≤ i + 1 ∧ Wd S' C' (upd g.F D (.lst ws)) O' ∧ I (i + 1) acc O', ?_, ?_⟩
    · rintro H2 ⟨acc, ws, O', S', C', q⟩
      exact ⟨m - (i + 1), by omega, rfl, hlt, acc, ws, O', S', C', q⟩
    · intro x H2 y
      obtain ⟨t, S2, ht, rfl, s2, w2, at_⟩ := tw.yld i S' C' _ O' x H2 hlt s' w' y
      obtain ⟨Γ2, htg, Pb, hb, hbt, hbf⟩ := hst i acc t O' hlt ht hI
      have en : EnvOk S2 (wipe σ vs) (wipeG Γ vs) := ((n.en.mono s0).mono s2).wiped vs
      obtain ⟨σ2, hw, en2, htq⟩ := htg S2 C' σ x w2.sameS en at_
      refine htq _ ⟨hw, ?_⟩
      intro s H0 c cl fp
      refine (hb s H0 c cl fp (upd g.F D (.lst ws)) S2).run (gblk_ok ok) σ2 S2 C' ⟨Same.refl _, en2, w2⟩ _ fun b O3 S3 C3 s3 w3 hb3 => ?_
      have w3 : Wd S3 C3 (upd g.F D (.lst ws)) O3 := w3
      have at_D : ∀ {S3 C3 : Hp} {O3 : List Ow}, Wd S3 C3 (upd g.F D (.lst ws)) O3 → C3 D = some (.lst ws) := fun {S3 C3 O3} w3 => by
        rw [w3.rest D fun hm => by have := w3.ff D hm; rw [upd_same] at this; cases this]
        exact upd_same
      cases b with
      | false => exact iteF ⟨acc, ws, O3, S3, C3, rfl, (s'.trans s2).trans s3, at_D w3, (ha.mono s2).mono s3, by omega, w3, hbf O3 hb3⟩
      | true =>
        refine iteT fun s H0 c cl fp => ?_
        refine (hbt O3 hb3 s H0 c cl fp (upd g.F D (.lst ws)) S3).run (gblk_ok ok) σ2 S3 C3 ⟨Same.refl _, en2.mono s3, w3⟩ _ fun u O4 v S4 C4 s4 w4 av ⟨y, eu, hI4⟩ => ?_
        have w4 : Wd S4 C4 (upd g.F D (.lst ws)) O4 := w4
        subst eu
        have ha4 : AllAt T S4 ws acc := ((ha.mono s2).mono s3).mono s4
        refine ⟨ws, ov_C (at_D w4), ?_, acc ++ [y], ws ++ [v], O4, S4, upd C4 D (.lst (ws ++ [v])), ov_updC, ((s'.trans s2).trans s3).trans s4, upd_same, ha4.snoc av, by rw [List.length_append]; exact Nat.succ_le_succ hal, ?_, hI4⟩
        · rw [ha4.length]
          exact Nat.lt_of_lt_of_le (Nat.lt_of_le_of_lt hal hlt) (Nat.le_trans hm (by decide))
        · have := w4.foreign (o' := .lst (ws ++ [v])) (D := D) upd_same
          rw [upd_upd] at this
          exact this
  · obtain rfl : i = m := by omega
    refine .inl ⟨tw.stop S' C' _ O' s' w', ?_⟩
    have hp := hd acc O' hal hI
    have w5 := w'.taken hF (oLst D T acc) rfl ⟨ws, hC, ha⟩
    cases fz with
    | false => exact k _ _ _ _ _ s0 w5 (show (⟨tRef, D⟩ : Tv).at_ S' (.ref D) from rfl) (unF hp D)
    | true =>
      obtain ⟨w6, s6⟩ := w5.freeze (o := .lst ws) (j := O'.length) (w := oLst D T acc) (by simp) rfl
      have e6 : (O' ++ [oLst D T acc]).eraseIdx O'.length = O' := by
        rw [List.eraseIdx_append_of_length_le (Nat.le_refl _), Nat.sub_self]
        exact List.append_nil _
      rw [e6] at w6
      rw [← ov_freeze hC]
      exact k _ _ _ _ _ (s0.trans s6) w6 (show (⟨tLst T, acc⟩ : Tv).at_ _ (.ref D) from ⟨D, ws, rfl, upd_same, ha.mono s6⟩) (unT hp)
variable {elt : Expr} {ifs : List Expr} {scope : Scope} {own : List (Str × Nat)} {P' : PK'}
/-- [elt for x in iter ..] -/
theorem ge_lc1 (i : Nat) (fz : Bool) {x : Str} {px : Pos} (h : GI g Γ O (.Name x px) iter (LcI g Γ (gName i) [i] scope elt ifs fz P')) (hN : g.X.N.Nodup) (ok : blkC g.X.N g.X.env.scope scope [(x, i)] = true := by kernel_rfl) (hc : g.X.calm = true := by rfl) (hi : g.X.N[i]? = some x := by rfl)
    (hl : ∀ (C : Addr) (cl : List (Str × Addr)), L2.Loc (compEnvC scope cl C g.X.env).scope x := by first | exact fun _ _ => Or.inl rfl | exact fun _ _ => Or.inr rfl)
    (hf : ∀ (C : Addr) (cl : List (Str × Addr)), (scope.names.lookup x == some .cell) = true ∨ (compEnvC scope cl C g.X.env).scope.names.lookup x = some .local := by first | exact fun _ _ => Or.inr rfl | exact fun _ _ => Or.inl rfl) (hs : ∀ x, foldedSetIterable iter g.X.env x = pure x := by intro _; rfl) :
    GE g Γ O (.ListComp elt [⟨.Name x px, iter, ifs, 0⟩] scope pos) P' :=
  ⟨fun okg σ S C n Q k => ⟨_, pe_lc (own := [(x, i)]) hc hN pi_tI (blkOk_by ok) (fun s H C cl fp => pg_name (X := g.X.blk s H scope (compEnvC scope cl C g.X.env) fp) hN hi (hl C cl) (hf C cl)) (fun s H C cl fp => pts_tTB s H C cl fp) (fun s H C cl fp => pe_tEB s H C cl fp) hs, lc_read h okg n k⟩⟩
/-- y = [elt for x in iter ..] on one line -/
theorem gs_lc1 (i m : Nat) (fz : Bool) {x y : Str} {px py spos : Pos} (h : GI g Γ O (.Name x px) iter (LcI g Γ (gName i) [i] scope elt ifs fz fun t O' => R.nx (Γ.set m (some t)) O')) (hN : g.X.N.Nodup)
    (hsw : swapsWith (.ListComp elt [⟨.Name x px, iter, ifs, 0⟩] scope pos) (some (.Name y py)) spos.line g.X.env = pure true := by exact sw_true rfl rfl rfl (by decide +kernel)) (hy : g.X.N[m]? = some y := by rfl) (hyl : g.X.env.scope.names.lookup y = some .local := by rfl)
    (ok : blkC g.X.N g.X.env.scope scope [(x, i)] = true := by kernel_rfl) (hc : g.X.calm = true := by rfl) (hi : g.X.N[i]? = some x := by rfl)
    (hl : ∀ (C : Addr) (cl : List (Str × Addr)), L2.Loc (compEnvC scope cl C g.X.env).scope x := by first | exact fun _ _ => Or.inl rfl | exact fun _ _ => Or.inr rfl)
    (hf : ∀ (C : Addr) (cl : List (Str × Addr)), (scope.names.lookup x == some .cell) = true ∨ (compEnvC scope cl C g.X.env).scope.names.lookup x = some .local := by first | exact fun _ _ => Or.inr rfl | exact fun _ _ => Or.inl rfl) (hs : ∀ x, foldedSetIterable iter g.X.env x = pure x := by intro _; rfl) :
    GS g Γ O (.Assign [.Name y py] (.ListComp elt [⟨.Name x px, iter, ifs, 0⟩] scope pos) spos) R :=
  ⟨fun okg σ S C n D k => ⟨_, ps_setLc (i := m) (own := [(x, i)]) hc hN hy hyl hsw pi_tI (blkOk_by ok) (fun s H C cl fp => pg_name (X := g.X.blk s H scope (compEnvC scope cl C g.X.env) fp) hN hi (hl C cl) (hf C cl)) (fun s H C cl fp => pts_tTB s H C cl fp) (fun s H C cl fp => pe_tEB s H C cl fp) hs,
    lc_read h okg n fun t O' v S' C' s' w a hp => k.nx _ O' _ S' C' s' ((n.wdS s' w).set m a) hp⟩⟩
/-- [elt for x, y in iter ..] -/
theorem ge_lc2 (i j : Nat) (fz : Bool) {x y : Str} {px py tp : Pos} {kt : Nat} (h : GI g Γ O (.Tuple [.Name x px, .Name y py] kt tp) iter (LcI g Γ (gTup g.X.K 2 (gCons (gName i) (gCons (gName j) gNil))) [i, j] scope elt ifs fz P')) (hN : g.X.N.Nodup) (ok : blkC g.X.N g.X.env.scope scope [(x, i), (y, j)] = true := by kernel_rfl) (hc : g.X.calm = true := by rfl)
    (hi : g.X.N[i]? = some x := by rfl) (hj : g.X.N[j]? = some y := by rfl)
    (hg : ∀ s H C cl fp, PG (g.X.blk s H scope (compEnvC scope cl C g.X.env) fp) (.Tuple [.Name x px, .Name y py] kt tp) (gTup g.X.K 2 (gCons (gName i) (gCons (gName j) gNil)))) (hs : ∀ x, foldedSetIterable iter g.X.env x = pure x := by intro _; rfl) :
    GE g Γ O (.ListComp elt [⟨.Tuple [.Name x px, .Name y py] kt tp, iter, ifs, 0⟩] scope pos) P' :=
  ⟨fun okg σ S C n Q k => ⟨_, pe_lc (own := [(x, i), (y, j)]) hc hN pi_tI (blkOk_by ok) hg (fun s H C cl fp => pts_tTB s H C cl fp) (fun s H C cl fp => pe_tEB s H C cl fp) hs, lc_read h okg n k⟩⟩
theorem gs_lc2 (i j m : Nat) (fz : Bool) {x y z : Str} {px py pz tp spos : Pos} {kt : Nat} (h : GI g Γ O (.Tuple [.Name x px, .Name y py] kt tp) iter (LcI g Γ (gTup g.X.K 2 (gCons (gName i) (gCons (gName j) gNil))) [i, j] scope elt ifs fz fun t O' => R.nx (Γ.set m (some t)) O')) (hN : g.X.N.Nodup)
    (hsw : swapsWith (.ListComp elt [⟨.Tuple [.Name x px, .Name y py] kt tp, iter, ifs, 0⟩] scope pos) (some (.Name z pz)) spos.line g.X.env = pure true := by exact sw_true rfl rfl rfl (by decide +kernel)) (hz : g.X.N[m]? = some z := by rfl) (hzl : g.X.env.scope.names.lookup z = some .local := by rfl)
    (ok : blkC g.X.N g.X.env.scope scope [(x, i), (y, j)] = true := by kernel_rfl) (hc : g.X.calm = true := by rfl)
    (hi : g.X.N[i]? = some x := by rfl) (hj : g.X.N[j]? = some y := by rfl)
    (hg : ∀ s H C cl fp, PG (g.X.blk s H scope (compEnvC scope cl C g.X.env) fp) (.Tuple [.Name x px, .Name y py] kt tp) (gTup g.X.K 2 (gCons (gName i) (gCons (gName j) gNil)))) (hs : ∀ x, foldedSetIterable iter g.X.env x = pure x := by intro _; rfl) :
    GS g Γ O (.Assign [.Name z pz] (.ListComp elt [⟨.Tuple [.Name x px, .Name y py] kt tp, iter, ifs, 0⟩] scope pos) spos) R :=
  ⟨fun okg σ S C n D k => ⟨_, ps_setLc (i := m) (own := [(x, i), (y, j)]) hc hN hz hzl hsw pi_tI (blkOk_by ok) hg (fun s H C cl fp => pts_tTB s H C cl fp) (fun s H C cl fp => pe_tEB s H C cl fp) hs,
    lc_read h okg n fun t O' v S' C' s' w a hp => k.nx _ O' _ S' C' s' ((n.wdS s' w).set m a) hp⟩⟩
end
end G
end
section
/-! G4: promises by plain data; calls of defs, methods, classes; bodies. -/
namespace G
open PySem L2
open PyProof.Rows (envOfC)
universe u

/-! ### owned things handed to a callee and back -/
def pick (O : List Ow) : List Nat → Option (List Ow)
  | [] => some []
  | j :: js => match O[j]?, pick O js with
    | some w, some r => some (w :: r)
    | _, _ => none
def put (O : List Ow) : List Nat → List Ow → List Ow
  | [], O' => O ++ O'
  | j :: js, w :: O' => put (O.set j w) js O'
  | _ :: _, [] => O
theorem pick_mem {O : List Ow} : ∀ {js : List Nat} {Os : List Ow}, pick O js = some Os → ∀ w ∈ Os, ∃ j ∈ js, O[j]? = some w
  | [], Os, h, w, hw => by cases h; cases hw
  | j :: js, Os, h, w, hw => by
    unfold pick at h
    cases h1 : O[j]? with
    | none => rw [h1] at h; cases h
    | some u =>
      cases h2 : pick O js with
      | none => rw [h1, h2] at h; cases h
      | some r =>
        rw [h1, h2] at h
        cases h
        rcases List.mem_cons.mp hw with rfl | hw
        · exact ⟨j, by simp, h1⟩
        · obtain ⟨i, hi, e⟩ := pick_mem h2 w hw
          exact ⟨i, by simp [hi], e⟩
theorem as_nd {O : List Ow} (nd : (foot O).Nodup) {i j : Nat} {u w : Ow} (hi : O[i]? = some u) (hj : O[j]? = some w) (hij : i ≠ j) : ∀ a ∈ u.as, a ∉ w.as := fun a ha hm => by
  have h1 := (foot_erase hj).nodup_iff.mp nd
  exact (List.nodup_append.mp h1).2.2 a hm a (mem_foot.mpr ⟨u, List.mem_eraseIdx_iff_getElem?.mpr ⟨i, hij, hi⟩, ha⟩) rfl
theorem as_nd1 {O : List Ow} (nd : (foot O).Nodup) {j : Nat} {w : Ow} (hj : O[j]? = some w) : w.as.Nodup :=
  (List.nodup_append.mp ((foot_erase hj).nodup_iff.mp nd)).1
theorem pick_nd {O : List Ow} (nd : (foot O).Nodup) : ∀ {js : List Nat} {Os : List Ow}, js.Nodup → pick O js = some Os → (foot Os).Nodup
  | [], Os, _, h => by cases h; exact List.nodup_nil
  | j :: js, Os, hn, h => by
    unfold pick at h
    cases h1 : O[j]? with
    | none => rw [h1] at h; cases h
    | some u =>
      cases h2 : pick O js with
      | none => rw [h1, h2] at h; cases h
      | some r =>
        rw [h1, h2] at h
        cases h
        obtain ⟨n1, n2⟩ := List.nodup_cons.mp hn
        show (u.as ++ foot r).Nodup
        refine List.nodup_append.mpr ⟨as_nd1 nd h1, pick_nd nd n2 h2, fun a ha b hb e => ?_⟩
        subst e
        obtain ⟨w, hw, hm⟩ := mem_foot.mp hb
        obtain ⟨i, hi, e⟩ := pick_mem h2 w hw
        exact as_nd nd h1 e (fun z => n1 (z ▸ hi)) a ha hm
theorem pick_length {O : List Ow} : ∀ {js : List Nat} {Os : List Ow}, pick O js = some Os → Os.length = js.length
  | [], Os, h => by cases h; rfl
  | j :: js, Os, h => by
    unfold pick at h
    cases h1 : O[j]? with
    | none => rw [h1] at h; cases h
    | some u =>
      cases h2 : pick O js with
      | none => rw [h1, h2] at h; cases h
      | some r => rw [h1, h2] at h; cases h; exact congrArg Nat.succ (pick_length h2)
def asOk (O : List Ow) : List Nat → List Ow → Prop
  | [], _ => True
  | j :: js, w :: O' => (∃ u, O[j]? = some u ∧ w.as = u.as) ∧ asOk O js O'
  | _ :: _, [] => False
theorem asOk_set {O : List Ow} {j : Nat} {w u : Ow} (hj : O[j]? = some u) (e : w.as = u.as) : ∀ {js : List Nat} {O' : List Ow}, asOk O js O' → asOk (O.set j w) js O'
  | [], _, _ => trivial
  | i :: js, v :: O', ⟨⟨x, hx, ex⟩, h⟩ => by
    refine ⟨?_, asOk_set hj e h⟩
    by_cases hi : i = j
    · subst hi
      rw [hj] at hx
      cases hx
      exact ⟨w, List.getElem?_set_self (List.getElem?_eq_some_iff.mp hj).1, ex.trans e.symm⟩
    · exact ⟨x, by rw [List.getElem?_set_ne (Ne.symm hi)]; exact hx, ex⟩
  | _ :: _, [], h => h.elim
theorem asOk_of {O : List Ow} : ∀ {js : List Nat} {Os O' : List Ow}, pick O js = some Os → (O'.take js.length).map Ow.as = Os.map Ow.as → asOk O js O'
  | [], _, _, _, _ => trivial
  | j :: js, Os, O', h, e => by
    unfold pick at h
    cases h1 : O[j]? with
    | none => rw [h1] at h; cases h
    | some u =>
      cases h2 : pick O js with
      | none => rw [h1, h2] at h; cases h
      | some r =>
        rw [h1, h2] at h
        cases h
        cases O' with
        | nil => simp at e
        | cons w O' =>
          simp only [List.length_cons, List.take_succ_cons, List.map_cons, List.cons.injEq] at e
          exact ⟨⟨u, h1, e.1⟩, asOk_of h2 e.2⟩
theorem foot_put : ∀ {js : List Nat} {O O' : List Ow}, asOk O js O' → foot (put O js O') = foot O ++ foot (O'.drop js.length)
  | [], O, O', _ => by unfold put; exact foot_append O O'
  | j :: js, O, w :: O', ⟨⟨u, hu, e⟩, h⟩ => by
    have := foot_put (asOk_set hu e h)
    rw [foot_set hu e] at this
    exact this
  | _ :: _, _, [], h => h.elim
theorem put_mem : ∀ {js : List Nat} {O O' : List Ow}, js.Nodup → asOk O js O' → ∀ x ∈ put O js O', x ∈ O' ∨ ∃ i, i ∉ js ∧ O[i]? = some x
  | [], O, O', _, _, x, hx => by
    unfold put at hx
    rcases List.mem_append.mp hx with h | h
    · obtain ⟨i, hi⟩ := List.mem_iff_getElem?.mp h
      exact .inr ⟨i, by simp, hi⟩
    · exact .inl h
  | j :: js, O, w :: O', hn, ⟨⟨u, hu, e⟩, h⟩, x, hx => by
    obtain ⟨n1, n2⟩ := List.nodup_cons.mp hn
    rcases put_mem n2 (asOk_set hu e h) x hx with h | ⟨i, hi, hxi⟩
    · exact .inl (by simp [h])
    · by_cases hij : i = j
      · subst hij
        rw [List.getElem?_set_self (List.getElem?_eq_some_iff.mp hu).1] at hxi
        cases hxi
        exact .inl (by simp)
      · rw [List.getElem?_set_ne (Ne.symm hij)] at hxi
        exact .inr ⟨i, by simp [hij, hi], hxi⟩
  | _ :: _, _, [], _, h, _, _ => h.elim
def mask (C : Hp) (l : List Addr) : Hp := fun a => if a ∈ l then none else C a
theorem Wd.sub {S C F : Hp} {O Os : List Ow} {js : List Nat} (h : Wd S C F O) (hp : pick O js = some Os) (hn : js.Nodup) : Wd S C (mask C (foot Os)) Os :=
  ⟨fun w hw => let ⟨j, _, e⟩ := pick_mem hp w hw; h.own w (List.mem_of_getElem? e), fun a ha => by unfold mask; rw [if_neg ha], h.dis, pick_nd h.nd hn hp, fun a ha => by unfold mask; rw [if_pos ha]⟩
theorem Wd.back {S C F S' C' : Hp} {O Os O' : List Ow} {js : List Nat} (h : Wd S C F O) (hp : pick O js = some Os) (hn : js.Nodup) (s : Same S S') (w : Wd S' C' (mask C (foot Os)) O') (e : (O'.take js.length).map Ow.as = Os.map Ow.as) :
    Wd S' C' F (put O js O') := by
  have ha := asOk_of hp e
  have ef := foot_put ha
  have hOs : ∀ a ∈ foot Os, a ∈ foot O := fun a hm => by
    obtain ⟨u, hu, hm⟩ := mem_foot.mp hm
    obtain ⟨j, _, e⟩ := pick_mem hp u hu
    exact mem_foot.mpr ⟨u, List.mem_of_getElem? e, hm⟩
  have eOs : foot (O'.take js.length) = foot Os := by
    unfold foot
    rw [List.flatMap_def, List.flatMap_def, e]
  have key : ∀ a ∈ foot O, a ∈ foot O' → a ∈ foot Os := fun a h1 h2 => by
    have := w.ff a h2
    unfold mask at this
    by_cases hm : a ∈ foot Os
    · exact hm
    · rw [if_neg hm] at this
      exact absurd this (h.al h1)
  have same : ∀ a, a ∉ foot Os → a ∉ foot O' → C' a = C a := fun a h1 h2 => by
    rw [w.rest a h2]
    unfold mask
    rw [if_neg h1]
  refine ⟨fun x hx => ?_, fun a hn' => ?_, w.dis, ?_, fun a hm => ?_⟩
  · rcases put_mem hn ha x hx with hx | ⟨i, hi, hxi⟩
    · exact w.own x hx
    · have hO : ∀ a ∈ x.as, a ∈ foot O := fun a hm => mem_foot.mpr ⟨x, List.mem_of_getElem? hxi, hm⟩
      have hno : ∀ a ∈ x.as, a ∉ foot Os := fun a hm hm' => by
        obtain ⟨u, hu, hm2⟩ := mem_foot.mp hm'
        obtain ⟨j, hj, e⟩ := pick_mem hp u hu
        exact as_nd h.nd hxi e (fun z => hi (z ▸ hj)) a hm hm2
      exact x.mono s (x.loc (fun a hm => same a (hno a hm) fun h2 => hno a hm (key a (hO a hm) h2)) (h.own x (List.mem_of_getElem? hxi)))
  · rw [ef] at hn'
    have h1 : a ∉ foot O := fun hm => hn' (List.mem_append_left _ hm)
    have h2 : a ∉ foot O' := fun hm => by
      rw [← List.take_append_drop js.length O', foot_append] at hm
      rcases List.mem_append.mp hm with hm | hm
      · rw [eOs] at hm; exact h1 (hOs a hm)
      · exact hn' (List.mem_append_right _ hm)
    rw [same a (fun hm => h1 (hOs a hm)) h2]
    exact h.rest a h1
  · rw [ef]
    have nd' : (foot (O'.take js.length) ++ foot (O'.drop js.length)).Nodup := by rw [← foot_append, List.take_append_drop]; exact w.nd
    obtain ⟨_, n2, n3⟩ := List.nodup_append.mp nd'
    refine List.nodup_append.mpr ⟨h.nd, n2, fun a h1 b h2 e => ?_⟩
    subst e
    have hm : a ∈ foot O' := by rw [← List.take_append_drop js.length O', foot_append]; exact List.mem_append_right _ h2
    have := key a h1 hm
    rw [← eOs] at this
    exact n3 a this a h2 rfl
  · rw [ef] at hm
    rcases List.mem_append.mp hm with hm | hm
    · exact h.ff a hm
    · have hm' : a ∈ foot O' := by rw [← List.take_append_drop js.length O', foot_append]; exact List.mem_append_right _ hm
      have := w.ff a hm'
      unfold mask at this
      by_cases ho : a ∈ foot O
      · exact h.ff a ho
      · rw [if_neg fun hm2 => ho (hOs a hm2)] at this
        rw [← h.rest a ho]
        exact this

/-! ### a promise by plain data -/
structure FS (α : Type u) where
  args : α → List Tv
  own : α → List Ow := fun _ => []
  pre : α → Prop := fun _ => True
  post : α → Tv → List Ow → Prop
  exc : α → Ex → List Ow → Prop := fun _ _ _ => False
def FS.sp {α : Type u} (s : FS α) : Sp := fun vs H Q E => ∃ (a : α) (S C F : Hp), H = ov S C ∧ s.pre a ∧ ArgsAt S vs (s.args a) ∧ Wd S C F (s.own a) ∧
  (∀ t O' v S' C', Same S S' → Wd S' C' F O' → t.at_ S' v → s.post a t O' → Q v (ov S' C')) ∧
  ∀ x O' cls d S' C', Same S S' → Wd S' C' F O' → ExAt S' cls d x → s.exc a x O' → E cls d (ov S' C')
section
variable {P : Program} {w : World} {K : PySem.W.Frag} {mg : Str → Option Value} {base : Heap}
theorem env_start {S : Hp} {vs : List V} {ts : List Tv} (N : List Str) (a : ArgsAt S vs ts) : EnvOk S (L2.start N vs) (ts.map some ++ List.replicate (N.length - ts.length) none) := by
  have hl := a.length
  refine ⟨by unfold L2.start; simp [hl], fun i t e => ?_⟩
  unfold L2.start
  by_cases hi : i < ts.length
  · rw [List.getElem?_append_left (by simpa using hi)] at e
    rw [List.getElem?_append_left (by simpa [hl] using hi)]
    clear hl
    induction a generalizing i with
    | nil => simp at hi
    | cons r q ih =>
      cases i with
      | zero =>
        simp at e
        subst e
        exact ⟨_, rfl, r⟩
      | succ i =>
        obtain ⟨v, h1, h2⟩ := ih i (by simpa using e) (by simpa using hi)
        exact ⟨v, by simpa using h1, h2⟩
  · rw [List.getElem?_append_right (by simpa using hi)] at e
    have e' := List.mem_of_getElem? e
    exact absurd (List.eq_of_mem_replicate e') (by simp)
/-- the context of a def's body -/
abbrev gfn (P : Program) (w : World) (K : PySem.W.Frag) (mg : Str → Option Value) (base : Heap) (N : List Str) (qual : Str) (sc : Scope) (f : Addr) (cdv : Value) (A : Around) (outer : List Env) (sh : Shared) (H : Hp) (E : XK) (Fr S0 : Hp) (Z : Ex → List Ow → Prop) : Gc :=
  ⟨cxOf (L2.CX P w) P w K mg base N qual sc f cdv A outer sh H E, Fr, S0, fun cls d _ H' => E cls d H', fun _ O' x => Z x O'⟩
/-- a def's promise, where no repr is under way -/
structure FnG (P : Program) (w : World) (K : PySem.W.Frag) (mg : Str → Option Value) (base : Heap) (k : Nat) (f : Addr) (fd : FuncData) (ps : List Str) (sp : Sp) : Prop where
  len : ∀ vs H Q E, sp vs H Q E → vs.length = ps.length
  run : ∀ (A : Around) (outer : List Env) (sh : Shared) (H : Hp) (args : Args) (us : List Value) (vs : List V) (Q : VK) (E : XK), A.guards = some [] → Room k A → Env0 P w K mg base A outer sh H → BindsTo sh fd args (ps.zip us) → Vals vs us → sp vs H Q E →
    codeAny (model P w) A (.call (.ref f) args) (CR (L2.CX P w) outer P w H sh Q E) sh
theorem FnG.mono {j k : Nat} {f : Addr} {fd : FuncData} {ps : List Str} {sp : Sp} (F : FnG P w K mg base j f fd ps sp) (h : j ≤ k) : FnG P w K mg base k f fd ps sp :=
  ⟨F.len, fun A outer sh H args us vs Q E hg hr => F.run A outer sh H args us vs Q E hg (hr.mono h)⟩
theorem fng_of {x qual : Str} {params : Arguments} {body : List Stmt} {scope : Scope} {dvs : List V} {kws : List (Str × V)} {f : Addr} {fd : FuncData} {N ps : List Str} {k : Nat} {sp : Sp} (F : FunD K x qual params body scope dvs kws f fd) (sc : FnScope N ps scope)
    (hl : ∀ vs H Q E, sp vs H Q E → vs.length = ps.length)
    (hb : ∀ (cdv : Value) (A : Around) (outer : List Env) (sh : Shared) (H : Hp) (vs : List V) (Q : VK) (E : XK), A.guards = some [] → Room k (A.deeper (envOfC qual scope sh.heap.objs.size f cdv)) → sp vs H Q E →
      tSs (cxOf (L2.CX P w) P w K mg base N qual scope f cdv A outer sh H E) body { nx := fun _ H' => Q .non H', rt := Q } (L2.start N vs) H) : FnG P w K mg base (k + 1) f fd ps sp := by
  obtain ⟨oc, od, dV, kV, doc, pm, an, cdv, ct, osl, rfl, lk, hcd, _, _⟩ := F.ex
  refine ⟨hl, fun A outer sh H args us vs Q E hgd hr e0 hbd rel hsp => ?_⟩
  have lenV := hl vs H Q E hsp
  have keep : ∀ b o, base.get? b = some o → sh.heap.get? b = some o := fun b o e => (e0.bs b o e).1
  have KX : K.In sh.heap := e0.mod.kin.keeps keep
  have names : ∀ y ∈ ps.zip us, scope.names.lookup y.1 = some .local ∨ (scope.names.lookup y.1 = some .cell ∧ ((cellsFrom (sh.heap.objs.size + 1) scope.names []).lookup y.1).isSome = true) := by
    rintro ⟨nm, v⟩ hy
    exact (sc.par nm (List.of_mem_zip hy).1).imp id fun q => ⟨q, PySem.W.cellsFrom_some _ _ _ (.inl q)⟩
  refine codeAny_call_function hr.depth (KX _ _ lk) rfl sc.co sc.gen rfl (PySem.W.codeRec_of KX hcd) (hbd _ _ _ _ (wpAny_newFunctionEnv_cells sc.kind names ?_))
  intro env he s1 nf
  cases he
  refine ⟨(e0.mod.nolimit.keeps keep).keeps nf.toInCall.keep, codeAny_func ?_⟩
  have I0 : Inv (cxOf (L2.CX P w) P w K mg base N qual scope f cdv A outer sh H E) [] (L2.start N vs) H s1 := inv_start sc hr.hd e0 lenV rel nf
  have go := ps_tSs.run [] s1 (L2.start N vs) H _ I0 (hb cdv A outer sh H vs Q E hgd (hr.deeper _) hsp)
  refine wpAny_mono go (fun fl s' hs => ?_) fun _ _ z => z
  cases fl with
  | ret u => obtain ⟨v, σ', H', J, rv, q⟩ := hs; exact ⟨v, H', J.os, J.bare, J.base, J.hok, rv, q⟩
  | next => obtain ⟨σ', H', J, q⟩ := hs; exact ⟨.non, H', J.os, J.bare, J.base, J.hok, rfl, q⟩
  | brk => obtain ⟨_, _, _, q⟩ := hs; exact q.elim
  | cont => obtain ⟨_, _, _, q⟩ := hs; exact q.elim
/-- THE RULE for a def -/
theorem g_fn {α : Type u} {s : FS α} {x qual : Str} {params : Arguments} {body : List Stmt} {scope : Scope} {dvs : List V} {kws : List (Str × V)} {f : Addr} {fd : FuncData} {N ps : List Str} {k : Nat} (F : FunD K x qual params body scope dvs kws f fd) (sc : FnScope N ps scope)
    (hl : ∀ a, (s.args a).length = ps.length) (Γ0 : α → Ctx) (h0 : ∀ a, Γ0 a = (s.args a).map some ++ List.replicate (N.length - (s.args a).length) none)
    (hb : ∀ (cdv : Value) (A : Around) (outer : List Env) (sh : Shared) (H : Hp) (E : XK) (Fr S0 : Hp), Room k (A.deeper (envOfC qual scope sh.heap.objs.size f cdv)) → ∀ a, s.pre a →
      GSs (gfn P w K mg base N qual scope f cdv A outer sh H E Fr S0 (s.exc a)) (Γ0 a) (s.own a) body { nx := fun _ O' => s.post a ⟨tNon, ()⟩ O', rt := s.post a }) : FnG P w K mg base (k + 1) f fd ps s.sp := by
  refine fng_of F sc (fun vs H Q E h => ?_) (fun cdv A outer sh H vs Q E hg hr h => ?_)
  · obtain ⟨a, S, C, Fr, _, _, ha, _⟩ := h
    rw [ha.length, hl]
  · obtain ⟨a, S, C, Fr, rfl, hp, ha, hw, hq, he⟩ := h
    refine (hb cdv A outer sh (ov S C) E Fr S hr a hp).run ⟨takes_of rfl rfl rfl rfl, passes_of rfl, hg, fun Γ O σ S' C' cls d x n hx hz => he x O cls d S' C' n.sm n.wd hx hz⟩ _ S C ⟨Same.refl S, ?_, hw⟩ _ ⟨fun Γ' O' σ' S' C' s' n' h' => ?_, hq, fun _ _ _ _ _ _ _ h' => h'.elim, fun _ _ _ _ _ _ _ h' => h'.elim⟩
    · rw [h0]; exact env_start N ha
    · exact hq ⟨tNon, ()⟩ O' .non S' C' s' n'.wd rfl h'
end
/-! ### how arguments come to parameters, by types -/
structure Cb (K : PySem.W.Frag) (fd : FuncData) (ps : List Str) (n : Nat) (ks : List Str) (gT : List Tv → List Tv → List Tv) : Prop where
  ex : ∃ g gV, KBn K fd ps n ks g gV ∧ ∀ S vs zs ts us, ArgsAt S vs ts → ArgsAt S zs us → ts.length = n → us.length = ks.length → ArgsAt S (gV vs zs) (gT ts us)
theorem Cb.all {K : PySem.W.Frag} {fd : FuncData} {ps : List Str} {n : Nat} (hn : n = ps.length) (b : Binds K fd ps []) : Cb K fd ps n [] fun ts _ => ts :=
  ⟨fun us _ => us, fun vs _ => vs, ⟨fun s us ws X l1 l2 => by
    have h := b s us X (by rw [List.append_nil]; omega)
    rw [List.append_nil] at h
    have e : ws = [] := List.eq_nil_of_length_eq_zero (by simpa using l2)
    subst e
    exact h, fun r _ => r⟩, fun _ _ _ _ _ h _ _ _ => h⟩
/-- the defaults fill up -/
theorem Cb.fill {K : PySem.W.Frag} {fd : FuncData} {ps : List Str} {n : Nat} {dvs : List V} {ds : List Value} {dts : List Tv} (hn : n + dvs.length = ps.length) (hd : Vals dvs ds) (b : Binds K fd ps ds) (hdt : ∀ S, ArgsAt S dvs dts) : Cb K fd ps n [] fun ts _ => ts ++ dts :=
  ⟨fun us _ => us ++ ds, fun vs _ => vs ++ dvs, ⟨fun s us ws X l1 l2 => by
    have h := b s us X (by rw [List.length_append, ← hd.length]; omega)
    have e : ws = [] := List.eq_nil_of_length_eq_zero (by simpa using l2)
    subst e
    exact h, fun r _ => r.append hd⟩, fun S _ _ _ _ h _ _ _ => h.append (hdt S)⟩
/-! ### the call's node -/
section
variable {X : Cx} {W : WX} {k n : Nat} {f C : Addr} {fd : FuncData} {ps ks : List Str} {sp : Sp} {E : St → XK} {x m : Str} {p pos apos : Pos} {e o : Expr} {es : List Expr} {kws : List Keyword} {t tk : TA} {to : TE} {gV : List V → List V → List V} {gg : List Value → List Value → List Value}
theorem run_fnG {pins : List (Addr × Obj)} {σ : L2.St} {H : Hp} {s : Shared} {Q : VK} {us ws : List Value} {vs zs : List V} (F : FnG X.prog X.w X.K X.mg X.base k f fd ps sp) (hgd : X.A.guards = some []) (hr : Room k X.A) (hb : KBn X.K fd ps n ks gg gV) (tkk : Takes X W)
    (I : Inv X pins σ H s) (r : Vals vs us) (rz : Vals zs ws) (l1 : vs.length = n) (l2 : zs.length = ks.length) (h : sp (gV vs zs) H Q (WE W σ)) : wpAny (model X.prog X.w) X.A (call (.ref f) us (ks.zip ws)) (EP X pins σ Q) X.xe s := by
  have r2 := hb.rel r rz
  refine wpAny_call (codeAny_mono (F.run X.A X.stack s H ⟨us, ks.zip ws⟩ (gg us ws) (gV vs zs) Q (WE W σ) hgd hr I.env0 (hb.to s us ws I.kIn (r.length.symm.trans l1) (rz.length.symm.trans l2)) r2 h) fun r s' hq => ?_)
  cases r with
  | error e => exact passAt tkk σ pins H s e s' I hq
  | ok fl =>
    cases fl with
    | ret u => exact I.after hq
    | next => exact False.elim hq
    | brk => exact False.elim hq
    | cont => exact False.elim hq
def tCallG (n m : Nat) (sp : Sp) (gV : List V → List V → List V) (W : WX) (t tk : TA) : TE := fun σ H Q => t σ H fun vs H1 => tk σ H1 fun zs H2 => vs.length = n ∧ zs.length = m ∧ sp (gV vs zs) H2 Q (WE W σ)
theorem pe_callG (F : FnG X.prog X.w X.K X.mg X.base k f fd ps sp) (hgd : X.A.guards = some []) (hr : Room k X.A) (hg : Gl X x) (hm : X.mg x = some (.ref f)) (hk : PySem.W.keepIn X.K (.ref f) = true) (hb : KBn X.K fd ps n ks gg gV) (tkk : Takes X W)
    (ha : PA X (e :: es) t) (hkw : PK X kws tk) (hall : (backToKw pos (keywordEach kws X.env)).all (·.1.isSome) = true) (hks : (backToKw pos (keywordEach kws X.env)).filterMap (·.1) = ks) (hdb : (x == ("__debug__" : Str)) = false)
    (he : starEach (e :: es) X.env = (false, eval e X.env) :: starEach es X.env)
    (hpl : ((backTo pos (starEach (e :: es) X.env)).any (·.1) || (backToKw pos (keywordEach kws X.env)).any (·.1.isNone)) = false) : PE X (.Call (.Name x p) (e :: es) kws pos) (tCallG n ks.length sp gV W t tk) := by
  refine ⟨fun pins s σ H Q I h => ?_⟩
  refine wpAny_Call_Name_kw (ld_glob I hg hm ?_ hdb)
  refine PySem.W.callWith_KW (h₀ := X.base) I.ok.mod.kin hk hall (thn (ha.run pos pins s σ H _ I h) fun us s1 ⟨vs, H1, I1, r, q⟩ => ?_) hpl he
  refine thn (hkw.run pos pins s1 σ H1 _ I1 q) fun ws s2 ⟨zs, H2, I2, rz, l1, l2, q2⟩ => ⟨I2.kIn, ?_⟩
  rw [hks]
  exact run_fnG F hgd hr hb tkk I2 r rz l1 l2 q2
theorem pe_callG0 (F : FnG X.prog X.w X.K X.mg X.base k f fd ps sp) (hgd : X.A.guards = some []) (hr : Room k X.A) (hg : Gl X x) (hm : X.mg x = some (.ref f)) (hk : PySem.W.keepIn X.K (.ref f) = true) (hb : KBn X.K fd ps n ks gg gV) (tkk : Takes X W)
    (hkw : PK X kws tk) (hall : (backToKw pos (keywordEach kws X.env)).all (·.1.isSome) = true) (hks : (backToKw pos (keywordEach kws X.env)).filterMap (·.1) = ks) (hdb : (x == ("__debug__" : Str)) = false)
    (hpl : ((backTo pos (starEach [] X.env)).any (·.1) || (backToKw pos (keywordEach kws X.env)).any (·.1.isNone)) = false) : PE X (.Call (.Name x p) [] kws pos) (tCallG n ks.length sp gV W tNil tk) := by
  refine ⟨fun pins s σ H Q I h => ?_⟩
  refine wpAny_Call_Name_kw (ld_glob I hg hm ?_ hdb)
  refine PySem.W.callWith_KW0 (h₀ := X.base) I.ok.mod.kin hk hall ?_ hpl
  refine thn (hkw.run pos pins s σ H _ I h) fun ws s2 ⟨zs, H2, I2, rz, l1, l2, q2⟩ => ⟨I2.kIn, ?_⟩
  rw [hks]
  exact run_fnG (us := []) (vs := []) F hgd hr hb tkk I2 .nil rz l1 l2 q2
/-- o.m(..) -/
def tMethG (C : Addr) (m : Str) (n mm : Nat) (sp : Sp) (gV : List V → List V → List V) (W : WX) (to : TE) (t tk : TA) : TE := fun σ H Q => to σ H fun x H1 => ∃ a dx fs, x = .ref a ∧ H1 a = some (.ins C dx fs) ∧ fs.lookup m = none ∧
  t σ H1 fun vs H2 => tk σ H2 fun zs H3 => vs.length + 1 = n ∧ zs.length = mm ∧ sp (gV (x :: vs) zs) H3 Q (WE W σ)
theorem pe_methG {pl : Sem Bool} (ho : PE X o to) (c : Cls X.K C) (hm : Meth X.K C m f) (F : FnG X.prog X.w X.K X.mg X.base k f fd ps sp) (hgd : X.A.guards = some []) (hr : Room k X.A) (hb : KBn X.K fd ps n ks gg gV) (tkk : Takes X W)
    (ha : PA X (e :: es) t) (hkw : PK X kws tk) (hall : (backToKw pos (keywordEach kws X.env)).all (·.1.isSome) = true) (hks : (backToKw pos (keywordEach kws X.env)).filterMap (·.1) = ks)
    (he : starEach (e :: es) X.env = (false, eval e X.env) :: starEach es X.env)
    (hpl : ((backTo pos (starEach (e :: es) X.env)).any (·.1) || (backToKw pos (keywordEach kws X.env)).any (·.1.isNone)) = false)
    (ht : eval (.Call (.Attribute o m apos) (e :: es) kws pos) X.env = (do
      let ov ← eval o X.env
      standAt apos.atName
      let (f, first) ← holding [ov] (getMethod ov m pl)
      callWith pos f first (backTo pos (starEach (e :: es) X.env)) (backToKw pos (keywordEach kws X.env)))) : PE X (.Call (.Attribute o m apos) (e :: es) kws pos) (tMethG C m n ks.length sp gV W to t tk) := by
  refine ⟨fun pins s σ H Q I h => ?_⟩
  refine PySem.W.methodCall_KW (pl := pl) (thn (ho.run pins s σ H _ I h) fun u s1 ⟨x, H1, I1, rx, a, dx, fs, ex, ea, l, q⟩ => ?_) ht
  subst ex
  obtain rfl : u = Value.ref a := rx
  refine getmeth_ok I1 ea c hm l ?_
  refine PySem.W.callWith_KW (first := [.ref a]) (h₀ := X.base) I.ok.mod.kin hm.kp hall (thn (ha.run pos pins s1 σ H1 _ I1 q) fun us s2 ⟨vs, H2, I2, r, q2⟩ => ?_) hpl he
  refine thn (hkw.run pos pins s2 σ H2 _ I2 q2) fun ws s3 ⟨zs, H3, I3, rz, l1, l2, q3⟩ => ⟨I3.kIn, ?_⟩
  rw [hks]
  exact run_fnG (us := Value.ref a :: us) (vs := V.ref a :: vs) F hgd hr hb tkk I3 (.cons rfl r) rz l1 l2 q3
theorem pe_methG0 {pl : Sem Bool} (ho : PE X o to) (c : Cls X.K C) (hm : Meth X.K C m f) (F : FnG X.prog X.w X.K X.mg X.base k f fd ps sp) (hgd : X.A.guards = some []) (hr : Room k X.A) (hb : KBn X.K fd ps n ks gg gV) (tkk : Takes X W)
    (hkw : PK X kws tk) (hall : (backToKw pos (keywordEach kws X.env)).all (·.1.isSome) = true) (hks : (backToKw pos (keywordEach kws X.env)).filterMap (·.1) = ks)
    (hpl : ((backTo pos (starEach [] X.env)).any (·.1) || (backToKw pos (keywordEach kws X.env)).any (·.1.isNone)) = false)
    (ht : eval (.Call (.Attribute o m apos) [] kws pos) X.env = (do
      let ov ← eval o X.env
      standAt apos.atName
      let (f, first) ← holding [ov] (getMethod ov m pl)
      callWith pos f first (backTo pos (starEach [] X.env)) (backToKw pos (keywordEach kws X.env)))) : PE X (.Call (.Attribute o m apos) [] kws pos) (tMethG C m n ks.length sp gV W to tNil tk) := by
  refine ⟨fun pins s σ H Q I h => ?_⟩
  refine PySem.W.methodCall_KW (pl := pl) (thn (ho.run pins s σ H _ I h) fun u s1 ⟨x, H1, I1, rx, a, dx, fs, ex, ea, l, q⟩ => ?_) ht
  subst ex
  obtain rfl : u = Value.ref a := rx
  refine getmeth_ok I1 ea c hm l ?_
  refine PySem.W.callWith_KW0 (first := [.ref a]) (h₀ := X.base) I.ok.mod.kin hm.kp hall ?_ hpl
  refine thn (hkw.run pos pins s1 σ H1 _ I1 q) fun ws s3 ⟨zs, H3, I3, rz, l1, l2, q3⟩ => ⟨I3.kIn, ?_⟩
  rw [hks]
  exact run_fnG (us := [Value.ref a]) (vs := [V.ref a]) F hgd hr hb tkk I3 (.cons rfl .nil) rz l1 l2 q3
/-- C(..) -/
def tMakeG (C : Addr) (n m : Nat) (sp : Sp) (gV : List V → List V → List V) (W : WX) (t tk : TA) : TE := fun σ H Q => t σ H fun vs H1 => tk σ H1 fun zs H2 => vs.length + 1 = n ∧ zs.length = m ∧ ∀ x dx, H2 x = none → H2 dx = none → dx ≠ x →
  sp (gV (.ref x :: vs) zs) (upd (upd H2 dx (.own x)) x (.ins C dx [])) (fun v H3 => v = .non ∧ Q (.ref x) H3) (WE W σ)
theorem run_makeG {pins : List (Addr × Obj)} {σ : L2.St} {H : Hp} {s : Shared} {Q : VK} {us ws : List Value} {vs zs : List V} (M : Mk X.K C f) (F : FnG X.prog X.w X.K X.mg X.base k f fd ps sp) (hgd : X.A.guards = some []) (hr : Room (k + 1) X.A) (hb : KBn X.K fd ps n ks gg gV) (tkk : Takes X W)
    (I : Inv X pins σ H s) (r : Vals vs us) (rz : Vals zs ws) (l1 : vs.length + 1 = n) (l2 : zs.length = ks.length)
    (h : ∀ x dx, H x = none → H dx = none → dx ≠ x → sp (gV (.ref x :: vs) zs) (upd (upd H dx (.own x)) x (.ins C dx [])) (fun v H2 => v = .non ∧ Q (.ref x) H2) (WE W σ)) :
    wpAny (model X.prog X.w) X.A (call (.ref C) us (ks.zip ws)) (EP X pins σ Q) X.xe s := by
  have hq := h (s.heap.objs.size + 1) s.heap.objs.size (I.hok.fresh (Nat.le_succ _)) (I.hok.fresh (Nat.le_refl _)) (Nat.ne_of_lt (Nat.lt_succ_self _))
  have I2 := Inv.made (C := C) I
  have r1 : Vals (V.ref (s.heap.objs.size + 1) :: vs) (Value.ref (s.heap.objs.size + 1) :: us) := .cons rfl r
  have r2 := hb.rel r1 rz
  have n1 : (Value.ref (s.heap.objs.size + 1) :: us).length = n := by
    rw [List.length_cons, ← r.length, l1]
  refine wpAny_call (make_map (f := f) I.kIn M.makes M.init (beq_iff_eq.mp M.fn) (codeAny_mono (F.run _ X.stack _ _ ⟨Value.ref (s.heap.objs.size + 1) :: us, ks.zip ws⟩ (gg (Value.ref (s.heap.objs.size + 1) :: us) ws) _ _ (WE W σ) hgd (hr.make C us (ks.zip ws))
    (I2.env0.make C us (ks.zip ws)) (hb.to _ (Value.ref (s.heap.objs.size + 1) :: us) ws I2.kIn n1 (rz.length.symm.trans l2)) r2 hq) fun r s' hq' => ?_))
  cases r with
  | error e => exact passAt tkk σ pins _ _ e s' I2 hq'
  | ok fl =>
    cases fl with
    | ret u =>
      obtain ⟨v, H', I3, rv, ev, q3⟩ := I2.after hq'
      subst ev
      exact ⟨rv, ⟨V.ref (s.heap.objs.size + 1), H', I3, rfl, q3⟩⟩
    | next => exact False.elim hq'
    | brk => exact False.elim hq'
    | cont => exact False.elim hq'
theorem pe_makeG (M : Mk X.K C f) (F : FnG X.prog X.w X.K X.mg X.base k f fd ps sp) (hgd : X.A.guards = some []) (hr : Room (k + 1) X.A) (hg : Gl X x) (hm : X.mg x = some (.ref C)) (hb : KBn X.K fd ps n ks gg gV) (tkk : Takes X W)
    (ha : PA X (e :: es) t) (hkw : PK X kws tk) (hall : (backToKw pos (keywordEach kws X.env)).all (·.1.isSome) = true) (hks : (backToKw pos (keywordEach kws X.env)).filterMap (·.1) = ks) (hdb : (x == ("__debug__" : Str)) = false)
    (he : starEach (e :: es) X.env = (false, eval e X.env) :: starEach es X.env)
    (hpl : ((backTo pos (starEach (e :: es) X.env)).any (·.1) || (backToKw pos (keywordEach kws X.env)).any (·.1.isNone)) = false) : PE X (.Call (.Name x p) (e :: es) kws pos) (tMakeG C n ks.length sp gV W t tk) := by
  refine ⟨fun pins s σ H Q I h => ?_⟩
  refine wpAny_Call_Name_kw (ld_glob I hg hm ?_ hdb)
  refine PySem.W.callWith_KW (h₀ := X.base) I.ok.mod.kin M.kp hall (thn (ha.run pos pins s σ H _ I h) fun us s1 ⟨vs, H1, I1, r, q⟩ => ?_) hpl he
  refine thn (hkw.run pos pins s1 σ H1 _ I1 q) fun ws s2 ⟨zs, H2, I2, rz, l1, l2, q2⟩ => ⟨I2.kIn, ?_⟩
  rw [hks]
  exact run_makeG M F hgd hr hb tkk I2 r rz l1 l2 q2
theorem pe_makeG0 (M : Mk X.K C f) (F : FnG X.prog X.w X.K X.mg X.base k f fd ps sp) (hgd : X.A.guards = some []) (hr : Room (k + 1) X.A) (hg : Gl X x) (hm : X.mg x = some (.ref C)) (hb : KBn X.K fd ps n ks gg gV) (tkk : Takes X W)
    (hkw : PK X kws tk) (hall : (backToKw pos (keywordEach kws X.env)).all (·.1.isSome) = true) (hks : (backToKw pos (keywordEach kws X.env)).filterMap (·.1) = ks) (hdb : (x == ("__debug__" : Str)) = false)
    (hpl : ((backTo pos (starEach [] X.env)).any (·.1) || (backToKw pos (keywordEach kws X.env)).any (·.1.isNone)) = false) : PE X (.Call (.Name x p) [] kws pos) (tMakeG C n ks.length sp gV W tNil tk) := by
  refine ⟨fun pins s σ H Q I h => ?_⟩
  refine wpAny_Call_Name_kw (ld_glob I hg hm ?_ hdb)
  refine PySem.W.callWith_KW0 (h₀ := X.base) I.ok.mod.kin M.kp hall ?_ hpl
  refine thn (hkw.run pos pins s σ H _ I h) fun ws s2 ⟨zs, H2, I2, rz, l1, l2, q2⟩ => ⟨I2.kIn, ?_⟩
  rw [hks]
  exact run_makeG (us := []) (vs := []) M F hgd hr hb tkk I2 .nil rz l1 l2 q2
end
/-! ### the call as a judgement -/
section
variable {g : Gc} {Γ : Ctx} {O : List Ow} {P : PK'} {pos p apos : Pos} {α : Type u} {s : FS α} {k n : Nat} {f C : Addr} {fd : FuncData} {ps ks : List Str} {gT : List Tv → List Tv → List Tv} {x m : Str} {e o : Expr} {es : List Expr} {kws : List Keyword}
/-- what a call asks: the ghosts a, the places js of the things handed over -/
structure Cal (s : FS α) (g : Gc) (Γ : Ctx) (n m : Nat) (gT : List Tv → List Tv → List Tv) (ts us : List Tv) (O1 : List Ow) (P : PK') : Prop where
  ex : ts.length = n ∧ us.length = m ∧ ∃ (a : α) (js : List Nat), gT ts us = s.args a ∧ s.pre a ∧ pick O1 js = some (s.own a) ∧ js.Nodup ∧
    (∀ t O', s.post a t O' → (O'.take js.length).map Ow.as = (s.own a).map Ow.as ∧ P t (put O1 js O')) ∧
    ∀ x O', s.exc a x O' → (O'.take js.length).map Ow.as = (s.own a).map Ow.as ∧ g.Z Γ (put O1 js O') x
theorem Cal.run {ts us : List Tv} {O1 : List Ow} (c : Cal s g Γ n ks.length gT ts us O1 P) (ok : g.Ok) {K : PySem.W.Frag} {gV : List V → List V → List V} (hT : ∀ S vs zs ts us, ArgsAt S vs ts → ArgsAt S zs us → ts.length = n → us.length = ks.length → ArgsAt S (gV vs zs) (gT ts us))
    {σ : L2.St} {S C : Hp} (nw : Now g Γ O1 σ S C) {vs zs : List V} (a1 : ArgsAt S vs ts) (a2 : ArgsAt S zs us) {Q : VK} (kk : Kont g S P Q) : s.sp (gV vs zs) (ov S C) Q (WE g.W σ) := by
  obtain ⟨l1, l2, a, js, e1, hp, hpk, hnd, hpost, hexc⟩ := c.ex
  refine ⟨a, S, C, mask C (foot (s.own a)), rfl, hp, e1 ▸ hT S vs zs ts us a1 a2 l1 l2, nw.wd.sub hpk hnd, fun t O' v S' C' s' w' at_ h => ?_, fun x O' cls d S' C' s' w' hx h => ?_⟩
  · obtain ⟨h1, h2⟩ := hpost t O' h
    exact kk t _ v S' C' s' (nw.wd.back hpk hnd s' w' h1) at_ h2
  · obtain ⟨h1, h2⟩ := hexc x O' h
    exact ok.lk Γ _ σ S' C' cls d x (nw.wdS s' (nw.wd.back hpk hnd s' w' h1)) hx h2
theorem ge_call (Gf : FnG g.X.prog g.X.w g.X.K g.X.mg g.X.base k f fd ps s.sp) (hm : g.X.mg x = some (.ref f)) (hk : PySem.W.keepIn g.X.K (.ref f) = true) (cb : Cb g.X.K fd ps n ks gT) (hr : Room k g.X.A)
    (h : GA g Γ O (e :: es) fun ts O1 => GK g Γ O1 kws fun us O2 => Cal s g Γ n ks.length gT ts us O2 P) (hg : Gl g.X x := by rfl) (hall : (backToKw pos (keywordEach kws g.X.env)).all (·.1.isSome) = true := by rfl) (hks : (backToKw pos (keywordEach kws g.X.env)).filterMap (·.1) = ks := by rfl) (hdb : (x == ("__debug__" : Str)) = false := by decide)
    (he : starEach (e :: es) g.X.env = (false, eval e g.X.env) :: starEach es g.X.env := by rfl) (hpl : ((backTo pos (starEach (e :: es) g.X.env)).any (·.1) || (backToKw pos (keywordEach kws g.X.env)).any (·.1.isNone)) = false := by rfl) : GE g Γ O (.Call (.Name x p) (e :: es) kws pos) P :=
  ⟨fun ok σ S C nw Q kk => by
    obtain ⟨gg, gV, hb, hT⟩ := cb.ex
    refine ⟨_, pe_callG Gf ok.gd hr hg hm hk hb ok.tk pa_tA pk_tKw hall hks hdb he hpl, h.run ok σ S C nw _ fun ts O1 vs S1 C1 s1 w1 a1 h1 => h1.run ok σ S1 C1 (nw.wdS s1 w1) _ fun us O2 zs S2 C2 s2 w2 a2 h2 => ?_⟩
    obtain ⟨l1, l2, _⟩ := h2.ex
    exact ⟨by rw [a1.length]; exact l1, by rw [a2.length]; exact l2, h2.run ok (K := g.X.K) hT (nw.wdS (s1.trans s2) w2) (a1.mono s2) a2 (kk.mono (s1.trans s2))⟩⟩
theorem ge_call0 (Gf : FnG g.X.prog g.X.w g.X.K g.X.mg g.X.base k f fd ps s.sp) (hm : g.X.mg x = some (.ref f)) (hk : PySem.W.keepIn g.X.K (.ref f) = true) (cb : Cb g.X.K fd ps n ks gT) (hr : Room k g.X.A)
    (h : GK g Γ O kws fun us O2 => Cal s g Γ n ks.length gT [] us O2 P) (hg : Gl g.X x := by rfl) (hall : (backToKw pos (keywordEach kws g.X.env)).all (·.1.isSome) = true := by rfl) (hks : (backToKw pos (keywordEach kws g.X.env)).filterMap (·.1) = ks := by rfl) (hdb : (x == ("__debug__" : Str)) = false := by decide)
    (hpl : ((backTo pos (starEach [] g.X.env)).any (·.1) || (backToKw pos (keywordEach kws g.X.env)).any (·.1.isNone)) = false := by rfl) : GE g Γ O (.Call (.Name x p) [] kws pos) P :=
  ⟨fun ok σ S C nw Q kk => by
    obtain ⟨gg, gV, hb, hT⟩ := cb.ex
    refine ⟨_, pe_callG0 Gf ok.gd hr hg hm hk hb ok.tk pk_tKw hall hks hdb hpl, h.run ok σ S C nw _ fun us O2 zs S2 C2 s2 w2 a2 h2 => ?_⟩
    obtain ⟨l1, l2, _⟩ := h2.ex
    exact ⟨l1, by rw [a2.length]; exact l2, h2.run ok (K := g.X.K) hT (nw.wdS s2 w2) .nil a2 (kk.mono s2)⟩⟩
end
end G
end
section
/-! G5: lists, tuples, texts, built-ins by typed values. -/
namespace G
open PySem L2
section
variable {g : Gc} {Γ : Ctx} {O : List Ow} {P : PK'} {pos p apos cpos : Pos} {a b c e o : Expr} {es : List Expr} {x : Str}
/-! ### what a sequence is, seen at a value -/
/-- t is a list or tuple of xs of type T -/
def SV (K : PySem.W.Frag) (O : List Ow) (t : Tv) {α : Type} (T : Ty α) (xs : List α) : Prop := ∀ S C F v, Wd S C F O → t.at_ S v → ∃ p vs, v = .ref p ∧ (SqL K (ov S C) p vs ∨ SqT K (ov S C) p vs) ∧ AllAt T S vs xs
/-- .. a list that stands in the heap -/
def SL (O : List Ow) (t : Tv) {α : Type} (T : Ty α) (xs : List α) : Prop := ∀ S C F v, Wd S C F O → t.at_ S v → ∃ p vs, v = .ref p ∧ ov S C p = some (.lst vs) ∧ AllAt T S vs xs
/-- .. of given things -/
def HV (K : PySem.W.Frag) (O : List Ow) (t : Tv) (ts : List Tv) : Prop := ∀ S C F v, Wd S C F O → t.at_ S v → ∃ p vs, v = .ref p ∧ (SqL K (ov S C) p vs ∨ SqT K (ov S C) p vs) ∧ ArgsAt S vs ts
section
variable {K : PySem.W.Frag} {α β γ : Type} {T : Ty α} {U : Ty β} {W : Ty γ} {xs : List α}
theorem sl_lst : SL O ⟨tLst T, xs⟩ T xs := fun S C F v w ⟨p, vs, h1, h2, h3⟩ => ⟨p, vs, h1, w.sameS _ _ h2, h3⟩
theorem sl_own (j : Nat) {p : Addr} (hj : O[j]? = some (oLst p T xs)) : SL O ⟨tRef, p⟩ T xs := fun S C F v w h => by
  obtain ⟨vs, h1, h2⟩ := w.own _ (List.mem_of_getElem? hj)
  exact ⟨p, vs, h, ov_C h1, h2⟩
theorem SL.sv {t : Tv} (h : SL O t T xs) : SV K O t T xs := fun S C F v w at_ => let ⟨p, vs, h1, h2, h3⟩ := h S C F v w at_; ⟨p, vs, h1, .inl (SqL.of h2), h3⟩
theorem sv_lst : SV K O ⟨tLst T, xs⟩ T xs := sl_lst.sv
theorem sv_own (j : Nat) {p : Addr} (hj : O[j]? = some (oLst p T xs)) : SV K O ⟨tRef, p⟩ T xs := (sl_own j hj).sv
theorem sv_lck : SV K O ⟨tLck K T, xs⟩ T xs := fun S C F v w ⟨p, vs, h1, h2, h3⟩ => ⟨p, vs, h1, .inl (w.sameS.seq h2), h3⟩
theorem sv_tup : SV K O ⟨tTup K T, xs⟩ T xs := fun S C F v w ⟨p, vs, h1, h2, h3⟩ => ⟨p, vs, h1, .inr (same_t w.sameS h2), h3⟩
theorem hv_het {ts : List Tv} : HV K O ⟨tHet K ts, ()⟩ ts := fun S C F v w ⟨p, vs, h1, h2, h3⟩ => ⟨p, vs, h1, .inr (same_t w.sameS h2), h3⟩
theorem hv_tup {t : Tv} {ts : List Tv} (h : TupV K t ts) : HV K O t ts := fun S C F v w at_ => let ⟨p, vs, h1, h2, h3⟩ := h.at_ S v at_; ⟨p, vs, h1, .inr (same_t w.sameS h2), h3⟩
theorem hv_own (j : Nat) {p : Addr} {ts : List Tv} (hj : O[j]? = some (oHet p ts)) : HV K O ⟨tRef, p⟩ ts := fun S C F v w h => by
  obtain ⟨vs, h1, h2⟩ := w.own _ (List.mem_of_getElem? hj)
  exact ⟨p, vs, h, .inl (SqL.of (ov_C h1)), h2⟩
theorem ArgsAt.get {S : Hp} : ∀ {vs : List V} {ts : List Tv} {i : Nat} {t : Tv}, ArgsAt S vs ts → ts[i]? = some t → ∃ v, vs[i]? = some v ∧ t.at_ S v
  | _, _, _, _, .nil, e => by simp at e
  | _, _, 0, _, .cons r _, e => by simp at e; subst e; exact ⟨_, rfl, r⟩
  | _, _, i + 1, x, .cons _ t, e => by
    obtain ⟨u, h1, h2⟩ := ArgsAt.get (i := i) (t := x) t (by simpa using e)
    exact ⟨u, by simpa using h1, h2⟩
end
/-! ### an item -/
theorem ix_any {K : PySem.W.Frag} (hK : g.X.K = K) {x u : Tv} {i : Int} (h : P u O) (hv : ∀ S C F v, Wd S C F O → x.at_ S v → ∃ p vs w, v = .ref p ∧ (SqL K (ov S C) p vs ∨ SqT K (ov S C) p vs) ∧ atI vs i = some w ∧ u.at_ S w) : GIx g O x ⟨tInt, i⟩ P :=
  ⟨fun _ S C sm w vx vy ax ay Q k => by
    obtain ⟨p, vs, z, e1, h2, h3, h4⟩ := hv S C g.F vx w ax
    subst hK
    rcases h2 with h2 | h2
    · exact ⟨_, ix_list, p, vs, i, z, e1, ay, h2, h3, k.ret w h4 h⟩
    · exact ⟨_, ix_tup, p, vs, i, z, e1, ay, h2, h3, k.ret w h4 h⟩⟩
/-- xs[i] at the place n -/
theorem gix_seq {α : Type} {T : Ty α} {xs : List α} {t : Tv} {i : Int} (n : Nat) {y : α} (hv : SV g.X.K O t T xs) (hi : i = (n : Int)) (hy : xs[n]? = some y) (h : P ⟨T, y⟩ O) : GIx g O t ⟨tInt, i⟩ P :=
  ix_any rfl (u := ⟨T, y⟩) h fun S C F v w at_ => by
    obtain ⟨p, vs, h1, h2, h3⟩ := hv S C F v w at_
    obtain ⟨z, hz, az⟩ := h3.get hy
    exact ⟨p, vs, z, h1, h2, by rw [hi]; exact atI_nat hz, az⟩
theorem gix_last {α : Type} {T : Ty α} {xs : List α} {t : Tv} {y : α} (hv : SV g.X.K O t T xs) (hy : xs.getLast? = some y) (h : P ⟨T, y⟩ O) : GIx g O t ⟨tInt, -1⟩ P :=
  ix_any rfl (u := ⟨T, y⟩) h fun S C F v w at_ => by
    obtain ⟨p, vs, h1, h2, h3⟩ := hv S C F v w at_
    rw [List.getLast?_eq_getElem?] at hy
    obtain ⟨z, hz, az⟩ := h3.get hy
    refine ⟨p, vs, z, h1, h2, ?_, az⟩
    have hl := h3.length
    obtain ⟨hlt, _⟩ := List.getElem?_eq_some_iff.mp hz
    unfold atI ixN
    rw [if_neg (by omega), if_pos (by omega)]
    simp only [Option.bind_some]
    rw [show ((-1 : Int) + (vs.length : Int)).toNat = xs.length - 1 by omega]
    exact hz
theorem gix_het {t : Tv} {ts : List Tv} {i : Int} (n : Nat) {u : Tv} (hv : HV g.X.K O t ts) (h : P u O) (hi : i = (n : Int) := by rfl) (hy : ts[n]? = some u := by rfl) : GIx g O t ⟨tInt, i⟩ P :=
  ix_any rfl (u := u) h fun S C F v w at_ => by
    obtain ⟨p, vs, h1, h2, h3⟩ := hv S C F v w at_
    obtain ⟨z, hz, az⟩ := h3.get hy
    exact ⟨p, vs, z, h1, h2, by rw [hi]; exact atI_nat hz, az⟩
theorem gix_str {z : Str} {i : Int} (n : Nat) {d : Nat} (hz : z.length ≤ sizeLine) (hi : i = (n : Int)) (hy : z.cps.toList[n]? = some d) (h : P ⟨tStr, ⟨#[d]⟩⟩ O) : GIx g O ⟨tStr, z⟩ ⟨tInt, i⟩ P :=
  ⟨fun _ S C sm w vx vy ax ay Q k => ⟨_, ix_str, z, i, d, ax, ay, hz, by rw [hi]; exact atI_nat hy, k.ret (t := ⟨tStr, ⟨#[d]⟩⟩) w rfl h⟩⟩
/-! ### o[i] = v -/
def tP (X : Cx) : TSet := fun o i v H Q => ∃ r, PSet X r ∧ r o i v H Q
theorem ps_tP {X : Cx} : PSet X (tP X) := fun pins s σ H o i v ov iv u Q I r1 r2 r3 h => let ⟨r, p, q⟩ := h; p pins s σ H o i v ov iv u Q I r1 r2 r3 q
structure GSet (g : Gc) (O : List Ow) (x y t : Tv) (P : List Ow → Prop) : Prop where
  run : g.Ok → ∀ S C, Same g.S0 S → Wd S C g.F O → ∀ vx vy vt, x.at_ S vx → y.at_ S vy → t.at_ S vt → ∀ Q : Hp → Prop, (∀ O' S' C', Same S S' → Wd S' C' g.F O' → P O' → Q (ov S' C')) → tP g.X vx vy vt (ov S C) Q
theorem gg_sub {t : Tv} {PG' : Ctx → List Ow → Prop} (h : GE g Γ O o fun x O1 => GE g Γ O1 e fun y O2 => GSet g O2 x y t fun O3 => PG' Γ O3)
    (ha : ∀ v, assign (.Subscript o e pos) g.X.env v = (do
      let ov ← holding [v] (eval o g.X.env)
      let iv ← holding [v, ov] (eval e g.X.env)
      standAt pos
      holding [v, ov, iv] (setItem ov iv v)
      release [v, ov, iv] []) := by intro _; rfl) : GG g Γ O (.Subscript o e pos) t PG' :=
  ⟨fun ok σ S C n v a Q k => ⟨_, pg_sub pe_tE pe_tE ps_tP ha, h.run ok σ S C n _ fun x O1 vx S1 C1 s1 w1 ax hx => hx.run ok σ S1 C1 (n.wdS s1 w1) _ fun y O2 vy S2 C2 s2 w2 ay hy =>
    hy.run ok S2 C2 ((n.sm.trans s1).trans s2) w2 vx vy v (Tv.mono s2 ax) ay (Tv.mono (s1.trans s2) a) _ fun O' S' C' s' w' hp => k Γ O' σ S' C' ((s1.trans s2).trans s') ((n.wdS (s1.trans s2) w2).wdS s' w') hp⟩⟩
theorem ixN_nat {n m : Nat} (h : m < n) : ixN n (m : Int) = some m := by
  unfold ixN
  rw [if_pos (Int.natCast_nonneg m), if_pos (by omega), Int.toNat_natCast]
theorem gset_lst {α : Type} {T : Ty α} {xs : List α} {p : Addr} {i : Int} {y : α} {PO' : List Ow → Prop} (j n : Nat) (hj : O[j]? = some (oLst p T xs)) (hi : i = (n : Int)) (hn : n < xs.length) (h : PO' (O.set j (oLst p T (xs.set n y)))) : GSet g O ⟨tRef, p⟩ ⟨tInt, i⟩ ⟨T, y⟩ PO' :=
  ⟨fun _ S C sm w vx vy vt ax ay at_ Q k => by
    obtain ⟨vs, h1, h2⟩ := w.own _ (List.mem_of_getElem? hj)
    refine ⟨_, set_list, p, vs, i, n, ax, ay, ov_C h1, by rw [hi]; exact ixN_nat (by rw [h2.length]; exact hn), ?_⟩
    rw [ov_updC]
    exact k _ S _ (Same.refl S) (w.changeAt (w' := oLst p T (xs.set n y)) hj rfl rfl ⟨_, upd_same, h2.set at_ n⟩) h⟩
theorem ArgsAt.set {S : Hp} {v : V} {t : Tv} (r : t.at_ S v) : ∀ {vs : List V} {ts : List Tv} (i : Nat), ArgsAt S vs ts → ArgsAt S (vs.set i v) (ts.set i t)
  | _, _, _, .nil => .nil
  | _, _, 0, .cons _ t => .cons r t
  | _, _, i + 1, .cons q t => .cons q (ArgsAt.set r i t)
theorem gset_het {ts : List Tv} {p : Addr} {i : Int} {t : Tv} {PO' : List Ow → Prop} (j n : Nat) (hj : O[j]? = some (oHet p ts)) (h : PO' (O.set j (oHet p (ts.set n t)))) (hi : i = (n : Int) := by rfl) (hn : n < ts.length := by exact Nat.le_of_ble_eq_true rfl) : GSet g O ⟨tRef, p⟩ ⟨tInt, i⟩ t PO' :=
  ⟨fun _ S C sm w vx vy vt ax ay at_ Q k => by
    obtain ⟨vs, h1, h2⟩ := w.own _ (List.mem_of_getElem? hj)
    refine ⟨_, set_list, p, vs, i, n, ax, ay, ov_C h1, by rw [hi]; exact ixN_nat (by rw [h2.length]; exact hn), ?_⟩
    rw [ov_updC]
    exact k _ S _ (Same.refl S) (w.changeAt (w' := oHet p (ts.set n t)) hj rfl rfl ⟨_, upd_same, h2.set at_ n⟩) h⟩
/-! ### methods of built-in types -/
def tM' (X : Cx) (id : String) : V → List V → Hp → VK → Prop := fun x xs H Q => ∃ r, MtR X id r ∧ r x xs H Q
theorem mt_tM {X : Cx} {id : String} : MtR X id (tM' X id) := fun pins s σ H x xs v us Q I rx rs h => let ⟨r, p, q⟩ := h; p pins s σ H x xs v us Q I rx rs q
structure GM (g : Gc) (id : String) (O : List Ow) (x : Tv) (ts : List Tv) (P : PK') : Prop where
  run : g.Ok → ∀ S C, Same g.S0 S → Wd S C g.F O → ∀ vx vs, x.at_ S vx → ArgsAt S vs ts → ∀ Q : VK, Kont g S P Q → tM' g.X id vx vs (ov S C) Q
/-- the value is of that type -/
def IsT (K : PySem.W.Frag) (T : String) (O : List Ow) (t : Tv) : Prop := ∀ S C F v, Wd S C F O → t.at_ S v → tyV K T v (ov S C)
theorem isT_str {K : PySem.W.Frag} {z : Str} : IsT K "str" O ⟨tStr, z⟩ := fun S C F v w h => by obtain rfl := (show v = .str z from h); rfl
theorem isT_list {K : PySem.W.Frag} {t : Tv} {α : Type} {T : Ty α} {xs : List α} (h : SL O t T xs) : IsT K "list" O t := fun S C F v w at_ => by
  obtain ⟨p, vs, rfl, h2, _⟩ := h S C F v w at_
  exact .inl ⟨rfl, vs, SqL.of h2⟩
theorem ge_bm {T : String} {id : String} {name : Str} (pa : PlainAttrs T) (slot : Slot T name id) (hty : typeOf (.builtin id) = pure (.type "method_descriptor"))
    (h : GE g Γ O o fun x O1 => IsT g.X.K T O1 x ∧ GA g Γ O1 (e :: es) fun ts O2 => GM g id O2 x ts P) (hbase : attributeBase o name g.X.env (eval o g.X.env) = eval o g.X.env := by rfl)
    (hfew : ((backTo cpos (starEach (e :: es) g.X.env)).all (fun x => !x.1) && (backToKw cpos (keywordEach [] g.X.env)).all (fun x => x.1.isSome)
      && decide ((e :: es).length + ([] : List Keyword).length + (if ([] : List Keyword).isEmpty then 0 else 1) < 30)) = true := by rfl)
    (hline : (apos.endLine == cpos.line) = true := by rfl) (hs : starEach (e :: es) g.X.env = (false, eval e g.X.env) :: starEach es g.X.env := by rfl) (hplain : (backTo cpos (starEach es g.X.env)).any (·.1) = false := by rfl) :
    GE g Γ O (.Call (.Attribute o name apos) (e :: es) [] cpos) P :=
  ⟨fun ok σ S C n Q k => ⟨_, pe_bm pa slot hty mt_tM pe_tE pa_tA hbase hfew hline hs hplain, h.run ok σ S C n _ fun x O1 vx S1 C1 s1 w1 ax ⟨ht, hx⟩ => ⟨ht S1 C1 g.F vx w1 ax, hx.run ok σ S1 C1 (n.wdS s1 w1) _ fun ts O2 vs S2 C2 s2 w2 a2 h2 =>
    h2.run ok S2 C2 ((n.sm.trans s1).trans s2) w2 vx vs (Tv.mono s2 ax) a2 Q (k.mono (s1.trans s2))⟩⟩⟩
theorem ge_bm0 {T : String} {id : String} {name : Str} (pa : PlainAttrs T) (slot : Slot T name id) (hty : typeOf (.builtin id) = pure (.type "method_descriptor"))
    (h : GE g Γ O o fun x O1 => IsT g.X.K T O1 x ∧ GM g id O1 x [] P) (hbase : attributeBase o name g.X.env (eval o g.X.env) = eval o g.X.env := by rfl) (hline : (apos.endLine == cpos.line) = true := by rfl) :
    GE g Γ O (.Call (.Attribute o name apos) [] [] cpos) P :=
  ⟨fun ok σ S C n Q k => ⟨_, pe_bm0 pa slot hty mt_tM pe_tE hbase hline, h.run ok σ S C n _ fun x O1 vx S1 C1 s1 w1 ax ⟨ht, hx⟩ => ⟨ht S1 C1 g.F vx w1 ax, hx.run ok S1 C1 (n.sm.trans s1) w1 vx [] ax .nil Q (k.mono s1)⟩⟩⟩
/-- xs.append(y) -/
theorem gm_append {α : Type} {T : Ty α} {xs : List α} {q : Addr} {y : α} (j : Nat) (hj : O[j]? = some (oLst q T xs)) (hz : xs.length < sizeLine) (h : P ⟨tNon, ()⟩ (O.set j (oLst q T (xs ++ [y])))) : GM g "list.append" O ⟨tRef, q⟩ [⟨T, y⟩] P :=
  ⟨fun _ S C sm w vx vs ax as_ Q k => by
    obtain ⟨ws, h1, h2⟩ := w.own _ (List.mem_of_getElem? hj)
    cases as_ with
    | cons r t =>
      cases t
      refine ⟨_, mt_append, q, ws, _, ax, rfl, ov_C h1, by rw [h2.length]; exact hz, ?_⟩
      rw [ov_updC]
      exact k ⟨tNon, ()⟩ _ _ S _ (Same.refl S) (w.changeAt (w' := oLst q T (xs ++ [y])) hj rfl rfl ⟨_, upd_same, h2.snoc r⟩) rfl h⟩
theorem gm_insert {α : Type} {T : Ty α} {xs : List α} {q : Addr} {y : α} {i : Int} (j : Nat) (hj : O[j]? = some (oLst q T xs)) (hz : xs.length < sizeLine) (h0 : 0 ≤ i) (h63 : i < 2 ^ 63) (h : P ⟨tNon, ()⟩ (O.set j (oLst q T (xs.take i.toNat ++ y :: xs.drop i.toNat)))) : GM g "list.insert" O ⟨tRef, q⟩ [⟨tInt, i⟩, ⟨T, y⟩] P :=
  ⟨fun _ S C sm w vx vs ax as_ Q k => by
    obtain ⟨ws, h1, h2⟩ := w.own _ (List.mem_of_getElem? hj)
    cases as_ with
    | cons r t => cases t with
      | cons r2 t2 =>
        cases t2
        obtain rfl := (show _ = V.int i from r)
        refine ⟨_, mt_insert, q, ws, i, _, ax, rfl, ov_C h1, by rw [h2.length]; exact hz, h0, h63, ?_⟩
        rw [ov_updC]
        exact k ⟨tNon, ()⟩ _ _ S _ (Same.refl S) (w.changeAt (w' := oLst q T (xs.take i.toNat ++ y :: xs.drop i.toNat)) hj rfl rfl ⟨_, upd_same, by rw [List.append_assoc]; exact h2.insert r2 i.toNat⟩) rfl h⟩
/-! ### built-ins by name -/
theorem ge_blt {id : String} (hm : g.X.mg x = none) (h : GA g Γ O (e :: es) fun ts O1 => GB g O1 (.builtin id) ts P) (hv : bootBuiltins x = some (.builtin id) := by decide +kernel) (hg : Gl g.X x := by rfl) (hn : x ≠ "__name__" := by decide) (hdb : (x == ("__debug__" : Str)) = false := by decide)
    (he : starEach (e :: es) g.X.env = (false, eval e g.X.env) :: starEach es g.X.env := by rfl) (hpl : (backTo pos (starEach es g.X.env)).any (·.1) = false := by rfl) : GE g Γ O (.Call (.Name x p) (e :: es) [] pos) P :=
  ⟨fun ok σ S C n Q k => ⟨_, pe_callB call_tC hg hm hv pa_tA hn hdb he hpl, h.run ok σ S C n _ fun ts O1 vs S1 C1 s1 w1 a1 h1 => h1.run ok S1 C1 (n.sm.trans s1) w1 vs a1 Q (k.mono s1)⟩⟩
theorem ge_bty {T : String} (hm : g.X.mg x = none) (h : GA g Γ O (e :: es) fun ts O1 => GB g O1 (.type T) ts P) (hv : bootBuiltins x = some (.type T) := by decide +kernel) (hg : Gl g.X x := by rfl) (hn : x ≠ "__name__" := by decide) (hdb : (x == ("__debug__" : Str)) = false := by decide)
    (he : starEach (e :: es) g.X.env = (false, eval e g.X.env) :: starEach es g.X.env := by rfl) (hpl : (backTo pos (starEach es g.X.env)).any (·.1) = false := by rfl) : GE g Γ O (.Call (.Name x p) (e :: es) [] pos) P :=
  ⟨fun ok σ S C n Q k => ⟨_, pe_callTy call_tC hg hm hv pa_tA hn hdb he hpl, h.run ok σ S C n _ fun ts O1 vs S1 C1 s1 w1 a1 h1 => h1.run ok S1 C1 (n.sm.trans s1) w1 vs a1 Q (k.mono s1)⟩⟩
theorem gb_of {f : Value} {ts : List Tv} {t : Tv} {r : List V → Hp → VK → Prop} (hr : CallR g.X f r) (h : P t O) (hv : ∀ S C, Wd S C g.F O → ∀ vs, ArgsAt S vs ts → ∃ v, t.at_ S v ∧ ∀ Q : VK, Q v (ov S C) → r vs (ov S C) Q) : GB g O f ts P :=
  ⟨fun _ S C sm w vs a Q k => by
    obtain ⟨v, a1, q⟩ := hv S C w vs a
    exact ⟨_, hr, q Q (k.ret w a1 h)⟩⟩
theorem args1 {S : Hp} {vs : List V} {t : Tv} (a : ArgsAt S vs [t]) : ∃ v, vs = [v] ∧ t.at_ S v := by cases a with | cons r q => cases q; exact ⟨_, rfl, r⟩
theorem args2 {S : Hp} {vs : List V} {t u : Tv} (a : ArgsAt S vs [t, u]) : ∃ v w, vs = [v, w] ∧ t.at_ S v ∧ u.at_ S w := by cases a with | cons r q => cases q with | cons r2 q2 => cases q2; exact ⟨_, _, rfl, r, r2⟩
theorem gb_len {t : Tv} {α : Type} {T : Ty α} {xs : List α} (hv : SV g.X.K O t T xs) (h : P ⟨tInt, (xs.length : Int)⟩ O) : GB g O (.builtin "len") [t] P :=
  gb_of (t := ⟨tInt, (xs.length : Int)⟩) call_len_seq h fun S C w vs a => by
    obtain ⟨v, rfl, av⟩ := args1 a
    obtain ⟨p, ws, e1, h2, h3⟩ := hv S C g.F v w av
    exact ⟨_, rfl, fun Q q => ⟨p, ws, by rw [e1], h2, by rw [h3.length]; exact q⟩⟩
theorem gb_lenH {t : Tv} {ts : List Tv} (hv : HV g.X.K O t ts) (h : P ⟨tInt, (ts.length : Int)⟩ O) : GB g O (.builtin "len") [t] P :=
  gb_of (t := ⟨tInt, (ts.length : Int)⟩) call_len_seq h fun S C w vs a => by
    obtain ⟨v, rfl, av⟩ := args1 a
    obtain ⟨p, ws, e1, h2, h3⟩ := hv S C g.F v w av
    exact ⟨_, rfl, fun Q q => ⟨p, ws, by rw [e1], h2, by rw [h3.length]; exact q⟩⟩
theorem gb_lenS {z : Str} (hz : z.length ≤ sizeLine) (h : P ⟨tInt, (z.length : Int)⟩ O) : GB g O (.builtin "len") [⟨tStr, z⟩] P :=
  gb_of (t := ⟨tInt, (z.length : Int)⟩) call_len_str h fun S C w vs a => by
    obtain ⟨v, rfl, av⟩ := args1 a
    exact ⟨_, rfl, fun Q q => ⟨z, congrArg (fun v => [v]) av, hz, q⟩⟩
theorem gb_intB {d : Bool} (h : P ⟨tInt, if d then 1 else 0⟩ O) : GB g O (.type "int") [⟨tBool, d⟩] P :=
  gb_of (t := ⟨tInt, if d then 1 else 0⟩) call_int1 h fun S C w vs a => by
    obtain ⟨v, rfl, av⟩ := args1 a
    exact ⟨_, rfl, fun Q q => .inr ⟨d, congrArg (fun v => [v]) av, q⟩⟩
theorem gb_intI {i : Int} (h : P ⟨tInt, i⟩ O) : GB g O (.type "int") [⟨tInt, i⟩] P :=
  gb_of (t := ⟨tInt, i⟩) call_int1 h fun S C w vs a => by
    obtain ⟨v, rfl, av⟩ := args1 a
    exact ⟨_, rfl, fun Q q => .inl ⟨i, congrArg (fun v => [v]) av, q⟩⟩
theorem gb_strI {i : Int} (hz : i.natAbs.log2 < 1920) (h : P ⟨tStr, toString i⟩ O) : GB g O (.type "str") [⟨tInt, i⟩] P :=
  gb_of (t := ⟨tStr, toString i⟩) call_str_int h fun S C w vs a => by
    obtain ⟨v, rfl, av⟩ := args1 a
    exact ⟨_, rfl, fun Q q => ⟨i, congrArg (fun v => [v]) av, hz, q⟩⟩
theorem gb_min2 {i j : Int} (hc : g.X.calm = true) (h : P ⟨tInt, if j < i then j else i⟩ O) : GB g O (.builtin "min") [⟨tInt, i⟩, ⟨tInt, j⟩] P :=
  gb_of (t := ⟨tInt, if j < i then j else i⟩) (call_min2 hc) h fun S C w vs a => by
    obtain ⟨v, u, rfl, av, au⟩ := args2 a
    exact ⟨_, rfl, fun Q q => ⟨i, j, by rw [show v = .int i from av, show u = .int j from au], q⟩⟩
theorem gb_max2 {i j : Int} (hc : g.X.calm = true) (h : P ⟨tInt, if j > i then j else i⟩ O) : GB g O (.builtin "max") [⟨tInt, i⟩, ⟨tInt, j⟩] P :=
  gb_of (t := ⟨tInt, if j > i then j else i⟩) (call_max2 hc) h fun S C w vs a => by
    obtain ⟨v, u, rfl, av, au⟩ := args2 a
    exact ⟨_, rfl, fun Q q => ⟨i, j, by rw [show v = .int i from av, show u = .int j from au], q⟩⟩
theorem ints_at {S : Hp} : ∀ {vs : List V} {xs : List Int}, AllAt tInt S vs xs → vs = xs.map V.int
  | _, _, .nil => rfl
  | _, _, .cons r t => by rw [ints_at t]; exact congrArg (· :: _) r
theorem strs_at {S : Hp} : ∀ {vs : List V} {xs : List Str}, AllAt tStr S vs xs → vs = xs.map V.str
  | _, _, .nil => rfl
  | _, _, .cons r t => by rw [strs_at t]; exact congrArg (· :: _) r
theorem bools_at {S : Hp} : ∀ {vs : List V} {xs : List Bool}, AllAt tBool S vs xs → vs = xs.map V.bl
  | _, _, .nil => rfl
  | _, _, .cons r t => by rw [bools_at t]; exact congrArg (· :: _) r
theorem at_strs {S : Hp} : ∀ {xs : List Str}, AllAt tStr S (xs.map V.str) xs
  | [] => .nil
  | _ :: _ => .cons rfl at_strs
theorem at_ints {S : Hp} : ∀ {xs : List Int}, AllAt tInt S (xs.map V.int) xs
  | [] => .nil
  | _ :: _ => .cons rfl at_ints
theorem gb_sum {t : Tv} {xs : List Int} (hc : g.X.calm = true) (hv : SL O t tInt xs) (h : P ⟨tInt, xs.sum⟩ O) : GB g O (.builtin "sum") [t] P :=
  gb_of (t := ⟨tInt, xs.sum⟩) (cr_sum hc) h fun S C w vs a => by
    obtain ⟨v, rfl, av⟩ := args1 a
    obtain ⟨p, ws, e1, h2, h3⟩ := hv S C g.F v w av
    exact ⟨_, rfl, fun Q q => ⟨p, xs, by rw [e1], by rw [← ints_at h3]; exact SqL.of h2, q⟩⟩
theorem gb_all {t : Tv} {xs : List Bool} (hc : g.X.calm = true) (hv : SL O t tBool xs) (h : P ⟨tBool, xs.all id⟩ O) : GB g O (.builtin "all") [t] P :=
  gb_of (t := ⟨tBool, xs.all id⟩) (cr_all hc) h fun S C w vs a => by
    obtain ⟨v, rfl, av⟩ := args1 a
    obtain ⟨p, ws, e1, h2, h3⟩ := hv S C g.F v w av
    exact ⟨_, rfl, fun Q q => ⟨p, xs, by rw [e1], by rw [← bools_at h3]; exact SqL.of h2, q⟩⟩
theorem gb_any {t : Tv} {xs : List Bool} (hc : g.X.calm = true) (hv : SL O t tBool xs) (h : P ⟨tBool, xs.any id⟩ O) : GB g O (.builtin "any") [t] P :=
  gb_of (t := ⟨tBool, xs.any id⟩) (cr_any hc) h fun S C w vs a => by
    obtain ⟨v, rfl, av⟩ := args1 a
    obtain ⟨p, ws, e1, h2, h3⟩ := hv S C g.F v w av
    exact ⟨_, rfl, fun Q q => ⟨p, xs, by rw [e1], by rw [← bools_at h3]; exact SqL.of h2, q⟩⟩
/-- a new list that is frozen, owned -/
theorem new_lst {S C : Hp} {Q : VK} {α : Type} {T : Ty α} {xs : List α} {vs : List V} (w : Wd S C g.F O) (k : Kont g S P Q) (ha : AllAt T S vs xs) (h : P ⟨tLst T, xs⟩ O) : ∀ l, ov S C l = none → Q (.ref l) (upd (ov S C) l (.lst vs)) := fun l hl => by
  obtain ⟨h1, h2⟩ := ov_none hl
  rw [ov_updS h1]
  have sn : Same S (upd S l (.lst vs)) := Same.new h2
  exact (k.mono sn).ret (t := ⟨tLst T, xs⟩) (w.laid hl) ⟨l, vs, rfl, upd_same, ha.mono sn⟩ h
theorem new_lstO {S C : Hp} {Q : VK} {α : Type} {T : Ty α} {xs : List α} {vs : List V} (w : Wd S C g.F O) (k : Kont g S P Q) (ha : AllAt T S vs xs) (h : ∀ q, P ⟨tRef, q⟩ (O ++ [oLst q T xs])) : ∀ l, ov S C l = none → Q (.ref l) (upd (ov S C) l (.lst vs)) := fun l hl => by
  rw [ov_updC]
  exact k.ret (t := ⟨tRef, l⟩) (w.made hl (oLst l T xs) rfl ⟨vs, upd_same, ha⟩) rfl (h l)
theorem new_tup {K : PySem.W.Frag} {S C : Hp} {Q : VK} {α : Type} {T : Ty α} {xs : List α} {vs : List V} (w : Wd S C g.F O) (k : Kont g S P Q) (ha : AllAt T S vs xs) (h : P ⟨tTup K T, xs⟩ O) : ∀ l, ov S C l = none → Q (.ref l) (upd (ov S C) l (.tup vs)) := fun l hl => by
  obtain ⟨h1, h2⟩ := ov_none hl
  rw [ov_updS h1]
  have sn : Same S (upd S l (.tup vs)) := Same.new h2
  exact (k.mono sn).ret (t := ⟨tTup K T, xs⟩) (w.laid hl) ⟨l, vs, rfl, SqT.of upd_same, ha.mono sn⟩ h
theorem gb_list {t : Tv} {α : Type} {T : Ty α} {xs : List α} (hv : SV g.X.K O t T xs) (h : P ⟨tLst T, xs⟩ O) : GB g O (.type "list") [t] P :=
  ⟨fun _ S C sm w vs a Q k => by
    obtain ⟨v, rfl, av⟩ := args1 a
    obtain ⟨p, ws, e1, h2, h3⟩ := hv S C g.F v w av
    exact ⟨_, call_list_of, p, ws, by rw [e1], h2, new_lst w k h3 h⟩⟩
theorem gb_listO {t : Tv} {α : Type} {T : Ty α} {xs : List α} (hv : SV g.X.K O t T xs) (h : ∀ q, P ⟨tRef, q⟩ (O ++ [oLst q T xs])) : GB g O (.type "list") [t] P :=
  ⟨fun _ S C sm w vs a Q k => by
    obtain ⟨v, rfl, av⟩ := args1 a
    obtain ⟨p, ws, e1, h2, h3⟩ := hv S C g.F v w av
    exact ⟨_, call_list_of, p, ws, by rw [e1], h2, new_lstO w k h3 h⟩⟩
theorem gb_tuple {K : PySem.W.Frag} {t : Tv} {α : Type} {T : Ty α} {xs : List α} (hv : SL O t T xs) (h : P ⟨tTup K T, xs⟩ O) : GB g O (.type "tuple") [t] P :=
  ⟨fun _ S C sm w vs a Q k => by
    obtain ⟨v, rfl, av⟩ := args1 a
    obtain ⟨p, ws, e1, h2, h3⟩ := hv S C g.F v w av
    exact ⟨_, call_tuple_of, p, ws, by rw [e1], .inl ⟨SqL.of h2, new_tup w k h3 h⟩⟩⟩
theorem gb_tupleT {t : Tv} {α : Type} {T : Ty α} {xs : List α} (ht : t = ⟨tTup g.X.K T, xs⟩) (h : P t O) : GB g O (.type "tuple") [t] P :=
  ⟨fun _ S C sm w vs a Q k => by
    obtain ⟨v, rfl, av⟩ := args1 a
    subst ht
    obtain ⟨p, ws, e1, h2, h3⟩ := av
    exact ⟨_, call_tuple_of, p, ws, by rw [e1], .inr ⟨same_t w.sameS h2, k.ret (t := ⟨tTup g.X.K T, xs⟩) w ⟨p, ws, rfl, h2, h3⟩ h⟩⟩⟩
/-- sorted of texts -/
theorem gb_sortS {t : Tv} {xs : List Str} (hv : SL O t tStr xs) (hz : xs.length < 64) (h : ∀ ys, ys.Perm xs → PyProof.Rows.sortedS ys = true → P ⟨tLst tStr, ys⟩ O) : GB g O (.builtin "sorted") [t] P :=
  ⟨fun _ S C sm w vs a Q k => by
    obtain ⟨v, rfl, av⟩ := args1 a
    obtain ⟨p, ws, e1, h2, h3⟩ := hv S C g.F v w av
    exact ⟨_, cr_sortedS, p, xs, by rw [e1], by rw [← strs_at h3]; exact SqL.of h2, hz, fun ys q hp hs hq => new_lst w k at_strs (h ys hp hs) q hq⟩⟩
theorem gb_sortI {t : Tv} {xs : List Int} (hv : SL O t tInt xs) (hz : xs.length < 64) (h : ∀ ys, ys.Perm xs → ys.Pairwise (· ≤ ·) → P ⟨tLst tInt, ys⟩ O) : GB g O (.builtin "sorted") [t] P :=
  ⟨fun _ S C sm w vs a Q k => by
    obtain ⟨v, rfl, av⟩ := args1 a
    obtain ⟨p, ws, e1, h2, h3⟩ := hv S C g.F v w av
    exact ⟨_, cr_sorted, p, xs, by rw [e1], by rw [← ints_at h3]; exact SqL.of h2, hz, fun ys q hp hs hq => new_lst w k at_ints (h ys hp hs) q hq⟩⟩
/-! ### list + list, list * n, tuple + tuple -/
theorem gop_cat {x y : Tv} {α : Type} {T : Ty α} {xs ys : List α} (hx : SL O x T xs) (hy : SL O y T ys) (hz : xs.length + ys.length ≤ sizeLine) (h : P ⟨tLst T, xs ++ ys⟩ O) : GOp g O (binaryOp .Add) x y P :=
  ⟨fun _ S C sm w vx vy ax ay Q k => by
    obtain ⟨p, ws, e1, h1, h2⟩ := hx S C g.F vx w ax
    obtain ⟨q, us, e2, h3, h4⟩ := hy S C g.F vy w ay
    exact ⟨_, op_cat, p, q, ws, us, e1, e2, h1, h3, by rw [h2.length, h4.length]; exact hz, new_lst w k (h2.append h4) h⟩⟩
theorem AllAt.rep {S : Hp} {α : Type} {T : Ty α} {vs : List V} {xs : List α} (h : AllAt T S vs xs) : ∀ k : Nat, AllAt T S (List.replicate k vs).flatten (List.replicate k xs).flatten
  | 0 => .nil
  | k + 1 => by rw [List.replicate_succ, List.replicate_succ, List.flatten_cons, List.flatten_cons]; exact h.append (h.rep k)
theorem gop_rep {x : Tv} {α : Type} {T : Ty α} {xs : List α} {n : Int} (hx : SL O x T xs) (h0 : -(2 ^ 63) ≤ n) (h1 : n < 2 ^ 63) (hz : xs.length * n.toNat ≤ sizeLine) (h : P ⟨tLst T, (List.replicate n.toNat xs).flatten⟩ O) : GOp g O (binaryOp .Mult) x ⟨tInt, n⟩ P :=
  ⟨fun _ S C sm w vx vy ax ay Q k => by
    obtain ⟨p, ws, e1, h3, h2⟩ := hx S C g.F vx w ax
    exact ⟨_, op_rep, p, n, ws, e1, ay, h3, h0, h1, by rw [h2.length]; exact hz, new_lst w k (h2.rep n.toNat) h⟩⟩
theorem gop_repO {x : Tv} {α : Type} {T : Ty α} {xs : List α} {n : Int} (hx : SL O x T xs) (h0 : -(2 ^ 63) ≤ n) (h1 : n < 2 ^ 63) (hz : xs.length * n.toNat ≤ sizeLine) (h : ∀ q, P ⟨tRef, q⟩ (O ++ [oLst q T (List.replicate n.toNat xs).flatten])) : GOp g O (binaryOp .Mult) x ⟨tInt, n⟩ P :=
  ⟨fun _ S C sm w vx vy ax ay Q k => by
    obtain ⟨p, ws, e1, h3, h2⟩ := hx S C g.F vx w ax
    exact ⟨_, op_rep, p, n, ws, e1, ay, h3, h0, h1, by rw [h2.length]; exact hz, new_lstO w k (h2.rep n.toNat) h⟩⟩
/-! ### x in xs -/
theorem beq_dec {α : Type} [BEq α] [LawfulBEq α] [DecidableEq α] (x y : α) : (x == y) = decide (x = y) := by
  by_cases e : x = y
  · subst e; simp
  · rw [decide_eq_false e]; exact beq_eq_false_iff_ne.mpr e
/-- the type's values are flat, and == is equality -/
structure FlatT {α : Type} [DecidableEq α] (T : Ty α) : Prop where
  flat : ∀ S v x, T.at_ S v x → flatV v = true
  eq : ∀ S v w x y, T.at_ S v x → T.at_ S w y → eqV v w = decide (x = y)
theorem flat_str : FlatT tStr := ⟨fun S v x h => by obtain rfl := (show v = .str x from h); rfl, fun S v w x y h1 h2 => by
  obtain rfl := (show v = .str x from h1)
  obtain rfl := (show w = .str y from h2)
  show (x == y) = decide (x = y)
  exact beq_dec x y⟩
theorem flat_int : FlatT tInt := ⟨fun S v x h => by obtain rfl := (show v = .int x from h); rfl, fun S v w x y h1 h2 => by
  obtain rfl := (show v = .int x from h1)
  obtain rfl := (show w = .int y from h2)
  show (x == y) = decide (x = y)
  exact beq_dec x y⟩
theorem inV_at {α : Type} [DecidableEq α] {T : Ty α} (f : FlatT T) {S : Hp} {v : V} {x : α} (hv : T.at_ S v x) : ∀ {vs : List V} {xs : List α}, AllAt T S vs xs → vs.all flatV = true ∧ inV v vs = decide (x ∈ xs)
  | _, _, .nil => ⟨rfl, by simp [inV]⟩
  | w :: vs, y :: ys, .cons r t => by
    obtain ⟨h1, h2⟩ := inV_at f hv t
    refine ⟨by rw [List.all_cons, f.flat S w y r, h1]; rfl, ?_⟩
    show (eqV w v || inV v vs) = _
    rw [h2, f.eq S w v y x r hv]
    by_cases e : y = x
    · subst e; simp
    · rw [decide_eq_false e, Bool.false_or]
      simp [List.mem_cons, Ne.symm e]
theorem gop_in {α : Type} [DecidableEq α] {T : Ty α} (f : FlatT T) {t : Tv} {y : α} {xs : List α} (hv : SV g.X.K O t T xs) (h : P ⟨tBool, decide (y ∈ xs)⟩ O) : GOp g O (compareOp .In) ⟨T, y⟩ t P :=
  op_of (t := ⟨tBool, decide (y ∈ xs)⟩) op_in_seq h fun S C w vx vy ax ay => by
    obtain ⟨p, ws, e1, h2, h3⟩ := hv S C g.F vy w ay
    obtain ⟨h4, h5⟩ := inV_at f ax h3
    exact ⟨_, rfl, fun Q q => ⟨p, ws, e1, h2, f.flat _ _ _ ax, h4, by rw [if_neg Bool.false_ne_true, h5]; exact q⟩⟩
theorem gop_notin {α : Type} [DecidableEq α] {T : Ty α} (f : FlatT T) {t : Tv} {y : α} {xs : List α} (hv : SV g.X.K O t T xs) (h : P ⟨tBool, !decide (y ∈ xs)⟩ O) : GOp g O (compareOp .NotIn) ⟨T, y⟩ t P :=
  op_of (t := ⟨tBool, !decide (y ∈ xs)⟩) op_notIn_seq h fun S C w vx vy ax ay => by
    obtain ⟨p, ws, e1, h2, h3⟩ := hv S C g.F vy w ay
    obtain ⟨h4, h5⟩ := inV_at f ax h3
    exact ⟨_, rfl, fun Q q => ⟨p, ws, e1, h2, f.flat _ _ _ ax, h4, by rw [if_pos rfl, h5]; exact q⟩⟩
/-! ### slices -/
def cut {α : Type} (xs : List α) (lo hi : Option Int) : List α := (xs.drop (HT.sIx xs.length 0 lo)).take (HT.sIx xs.length xs.length hi - HT.sIx xs.length 0 lo)
theorem AllAt.cut {S : Hp} {α : Type} {T : Ty α} {vs : List V} {xs : List α} (h : AllAt T S vs xs) (lo hi : Option Int) : AllAt T S (cutV vs lo hi) (cut xs lo hi) := by
  unfold cutV G.cut
  rw [h.length]
  exact (h.drop _).take _
structure GPo (g : Gc) (Γ : Ctx) (O : List Ow) (e : Option Expr) (P : Option Int → List Ow → Prop) : Prop where
  run : g.Ok → ∀ σ S C, Now g Γ O σ S C → ∀ Q : Option Int → Hp → Prop, (∀ i O' S' C', Same S S' → Wd S' C' g.F O' → P i O' → Q i (ov S' C')) → ∃ t, PO g.X e t ∧ t σ (ov S C) Q
theorem gpo_none {PO' : Option Int → List Ow → Prop} (h : PO' none O) : GPo g Γ O none PO' := ⟨fun _ σ S C n Q k => ⟨_, po_none, k none O S C (Same.refl S) n.wd h⟩⟩
def asPart (P : Option Int → List Ow → Prop) : PK' := fun t O1 => ∃ i, t = ⟨tInt, i⟩ ∧ P (some i) O1
theorem asPart_i {P : Option Int → List Ow → Prop} {i : Int} (h : P (some i) O) : asPart P ⟨tInt, i⟩ O := ⟨i, rfl, h⟩
theorem gpo_some {PO' : Option Int → List Ow → Prop} (h : GE g Γ O e (asPart PO')) : GPo g Γ O (some e) PO' :=
  ⟨fun ok σ S C n Q k => ⟨_, po_some pe_tE, h.run ok σ S C n _ fun t O1 v S1 C1 s1 w1 a1 ⟨i, et, hp⟩ => by subst et; exact ⟨i, a1, k _ O1 S1 C1 s1 w1 hp⟩⟩⟩
def tPO (X : Cx) (e : Option Expr) : TO := fun σ H Q => ∃ t, PO X e t ∧ t σ H Q
theorem po_tPO {X : Cx} {e : Option Expr} : PO X e (tPO X e) := ⟨fun pins s σ H Q I h => let ⟨t, p, q⟩ := h; p.run pins s σ H Q I q⟩
def tSL (X : Cx) : V → Option Int → Option Int → Hp → VK → Prop := fun x lo hi H Q => ∃ r, SlR X r ∧ r x lo hi H Q
theorem sl_tSL {X : Cx} : SlR X (tSL X) := fun pins s σ H x v vl vu lo hi sl Q I rx hs pl pu h => let ⟨r, p, q⟩ := h; p pins s σ H x v vl vu lo hi sl Q I rx hs pl pu q
structure GSl (g : Gc) (O : List Ow) (x : Tv) (lo hi : Option Int) (P : PK') : Prop where
  run : g.Ok → ∀ S C, Same g.S0 S → Wd S C g.F O → ∀ vx, x.at_ S vx → ∀ Q : VK, Kont g S P Q → tSL g.X vx lo hi (ov S C) Q
theorem ge_slice {lo hi : Option Expr} {p2 : Pos} (h : GE g Γ O e fun t O1 => GPo g Γ O1 lo fun i O2 => GPo g Γ O2 hi fun j O3 => GSl g O3 t i j P) : GE g Γ O (.Subscript e (.Slice lo hi none p2) pos) P :=
  ⟨fun ok σ S C n Q k => ⟨_, pe_slice sl_tSL pe_tE po_tPO po_tPO, h.run ok σ S C n _ fun t O1 v S1 C1 s1 w1 a1 h1 => h1.run ok σ S1 C1 (n.wdS s1 w1) _ fun i O2 S2 C2 s2 w2 h2 =>
    h2.run ok σ S2 C2 ((n.wdS s1 w1).wdS s2 w2) _ fun j O3 S3 C3 s3 w3 h3 => h3.run ok S3 C3 (((n.sm.trans s1).trans s2).trans s3) w3 v (Tv.mono (s2.trans s3) a1) Q (k.mono ((s1.trans s2).trans s3))⟩⟩
/-- a list's part: a new list -/
theorem gsl_list {t : Tv} {α : Type} {T : Ty α} {xs : List α} {lo hi : Option Int} (hv : ∀ S C F v, Wd S C F O → t.at_ S v → ∃ p vs, v = .ref p ∧ SqL g.X.K (ov S C) p vs ∧ AllAt T S vs xs) (h : P ⟨tLst T, cut xs lo hi⟩ O) : GSl g O t lo hi P :=
  ⟨fun _ S C sm w vx ax Q k => by
    obtain ⟨p, vs, e1, h2, h3⟩ := hv S C g.F vx w ax
    exact ⟨_, sl_list, p, vs, e1, h2, new_lst w k (h3.cut lo hi) h⟩⟩
theorem gsl_listO {t : Tv} {α : Type} {T : Ty α} {xs : List α} {lo hi : Option Int} (hv : ∀ S C F v, Wd S C F O → t.at_ S v → ∃ p vs, v = .ref p ∧ SqL g.X.K (ov S C) p vs ∧ AllAt T S vs xs) (h : ∀ q, P ⟨tRef, q⟩ (O ++ [oLst q T (cut xs lo hi)])) : GSl g O t lo hi P :=
  ⟨fun _ S C sm w vx ax Q k => by
    obtain ⟨p, vs, e1, h2, h3⟩ := hv S C g.F vx w ax
    exact ⟨_, sl_list, p, vs, e1, h2, new_lstO w k (h3.cut lo hi) h⟩⟩
theorem SL.sq {K : PySem.W.Frag} {t : Tv} {α : Type} {T : Ty α} {xs : List α} (h : SL O t T xs) : ∀ S C F v, Wd S C F O → t.at_ S v → ∃ p vs, v = .ref p ∧ SqL K (ov S C) p vs ∧ AllAt T S vs xs := fun S C F v w a => let ⟨p, vs, h1, h2, h3⟩ := h S C F v w a; ⟨p, vs, h1, SqL.of h2, h3⟩
theorem sq_lck {K : PySem.W.Frag} {α : Type} {T : Ty α} {xs : List α} : ∀ S C F v, Wd S C F O → (⟨tLck K T, xs⟩ : Tv).at_ S v → ∃ p vs, v = .ref p ∧ SqL K (ov S C) p vs ∧ AllAt T S vs xs := fun S C F v w ⟨p, vs, h1, h2, h3⟩ => ⟨p, vs, h1, w.sameS.seq h2, h3⟩
/-! ### repr -/
/-- t is the data d -/
def DV (K : PySem.W.Frag) (O : List Ow) (t : Tv) (d : PyData) : Prop := ∀ S C F v, Wd S C F O → t.at_ S v → Dp K (ov S C) v d
def DVs (K : PySem.W.Frag) (S : Hp) : List V → List PyData → Prop := DpAll K S
theorem call_repr {X : Cx} (hg : X.A.guards = some []) : CallR X (.builtin "repr") fun xs H Q => ∃ (a : Addr) (d : PyData), xs = [.ref a] ∧ Dp X.K H (.ref a) d ∧ d.showable = true ∧ d.hasDict = false ∧ X.A.units + (d.depth + 1) < cLine ∧ d.shown.length ≤ sizeLine ∧ Q (.str d.shown) H := by
  intro pins s σ H xs us Q I r h
  obtain ⟨a, d, rfl, hd, h1, h2, h3, h4, q⟩ := h
  obtain ⟨u, rfl, ru⟩ := vals1 r
  obtain rfl : u = Value.ref a := ru
  obtain ⟨as, rd⟩ := Dp.reads I d _ _ hd rfl
  exact repr_of_reads' rd h1 (PyData.noDict_hsm h2) hg h3 (fun _ _ e => e) (fun h' u tk hk => ⟨.str d.shown, H, I.kept hk, ⟨_, rfl⟩, q⟩) h4
theorem gb_repr {t : Tv} {d : PyData} (hd : DV g.X.K O t d) (hr : ∀ S v, t.at_ S v → ∃ a, v = .ref a) (h1 : d.showable = true) (h2 : d.hasDict = false) (h3 : g.X.A.units + (d.depth + 1) < cLine) (h4 : d.shown.length ≤ sizeLine) (h : P ⟨tStr, d.shown⟩ O) : GB g O (.builtin "repr") [t] P :=
  ⟨fun ok S C sm w vs a Q k => by
    obtain ⟨v, rfl, av⟩ := args1 a
    obtain ⟨p, rfl⟩ := hr S v av
    exact ⟨_, call_repr ok.gd, p, d, rfl, hd S C g.F _ w av, h1, h2, h3, h4, k.ret (t := ⟨tStr, d.shown⟩) w rfl h⟩⟩
end
end G
end
section
/-! G6: the law's end for a promise with guards; joins; pure tests, chains, comprehensions. -/
namespace G
open PySem L2 PySem.Spec PyProof.Rows
section
variable {P : Program} {w : World} {K : PySem.W.Frag} {mg mb : Str → Option Value} {k : Nat} {fa a : Addr} {fd : FuncData} {x : Str} {sp : Sp} {s1 : Shared} {vs : List Value} {ns : List Int}
/-- the tracked heap holds the script alone, if anything -/
def Script (K : PySem.W.Frag) (a : Addr) (vs : List Value) (ns : List Int) (H : Hp) : Prop := ∀ b u, H b = some u → b = a ∧ u = .frz { cls := .type "list", data := .seq vs.toArray } (.lst (ns.map V.int)) ∧ K.lookup a = none
theorem g_law (iK : K.In s1.heap) (iG : s1.heap.Ns mainGlobals mg) (iB : s1.heap.Ns builtinsNs mb) (iBb : ∀ y : Str, y ≠ "__name__" → mb y = bootBuiltins y) (iL : s1.heap.NoLimit) (g0 : s1.gens = #[])
    (at_a : s1.heap.get? a = some { cls := .type "list", data := .seq vs.toArray }) (hi : IntsAre vs ns) (hl : ns.length ≤ sizeLine) (room : Room k callerA)
    (F : ∀ base : Heap, K.In base → base.Ns mainGlobals mg → FnG P w K mg base k fa fd [x] sp) (bind : ∀ (s : Shared) (u : Value), BindsTo s fd ⟨[u], []⟩ [(x, u)])
    (hsp : ∀ H : Hp, (∀ b, H b = none ∨ ∃ o ys, H b = some (.frz o (.lst ys))) → SqL K H a (ns.map V.int) → sp [.ref a] H (fun v _ => v = .bl true) fun _ _ _ => False) :
    codeAny (model P w) callerA (.call (.ref fa) ⟨[.ref a], []⟩) (fun r s' => r = .ok (.ret (.bool true)) ∧ OldK s1.heap s'.heap ∧ s'.os = s1.os ∧ AllBare s'.gens) s1 := by
  have rv : Vals (ns.map V.int) vs := vals_ints hi
  have lv : vs.length = ns.length := hi.length
  suffices main : ∀ H : Hp, Script K a vs ns H → SqL K H a (ns.map V.int) →
      codeAny (model P w) callerA (.call (.ref fa) ⟨[.ref a], []⟩) (fun r s' => r = .ok (.ret (.bool true)) ∧ OldK s1.heap s'.heap ∧ s'.os = s1.os ∧ AllBare s'.gens) s1 by
    cases hk : K.lookup a with
    | none =>
      refine main (fun b => if b = a then some (.frz { cls := .type "list", data := .seq vs.toArray } (.lst (ns.map V.int))) else none) (fun b u hu => ?_) (.inl (.inr ⟨_, if_pos rfl⟩))
      by_cases e : b = a
      · (dsimp only at hu; rw [if_pos e] at hu; cases hu); exact ⟨e, rfl, hk⟩
      · (dsimp only at hu; rw [if_neg e] at hu; cases hu)
    | some o =>
      have q := iK a o hk
      rw [at_a] at q
      cases q
      exact main (fun _ => none) (fun _ _ hu => by cases hu) (.inr ⟨_, vs.toArray, _, hk, rfl, rfl, rfl, by rw [List.size_toArray, lv]; exact hl, by simpa using rv⟩)
  intro H hH hS
  have free : ∀ {b : Addr} {o : Obj}, s1.heap.get? b = some o → (b = a → K.lookup a ≠ none ∨ o ≠ { cls := .type "list", data := .seq vs.toArray }) → H b = none := fun {b o} e ne => by
    cases q : H b with
    | none => rfl
    | some u =>
      obtain ⟨rfl, _, q2⟩ := hH b u q
      rw [at_a] at e
      cases e
      rcases ne rfl with z | z
      · exact absurd q2 z
      · exact absurd rfl z
  have ns_ : ∀ {b : Addr} {m : Str → Option Value}, s1.heap.Ns b m → (hidT s1.heap H).Ns b m := fun {b m} ⟨o, es, ep, e, d, r⟩ =>
    ⟨o, es, ep, hidT_get e (free e fun _ => .inr fun z => by rw [z] at d; cases d), d, r⟩
  have iK2 : K.In (hidT s1.heap H) := fun b o e => hidT_get (iK b o e) (free (iK b o e) fun z => .inl (by rw [← z, e]; exact Option.some_ne_none _))
  have okH : HOk P w H s1.heap := fun b u z => by
    obtain ⟨rfl, rfl, _⟩ := hH b u z
    exact ⟨at_a, by rw [List.length_map]; exact hl, vs, _, rv, at_a⟩
  obtain ⟨mc, l1, l2⟩ := iL
  have env : Env0 P w K mg (hidT s1.heap H) callerA [] s1 H := ⟨rfl, ⟨iK2, ns_ iG, ⟨mb, ns_ iB, iBb⟩, ⟨mc, ns_ l1, l2⟩⟩, fun b o e => of_hidT e, Nat.le_of_eq (hidT_size _ _), trivial, fun b hb => (nomatch hb), okH, .of_eq g0⟩
  have go := hsp H (fun b => by
    cases q : H b with
    | none => exact .inl rfl
    | some u => obtain ⟨_, rfl, _⟩ := hH b u q; exact .inr ⟨_, _, rfl⟩) hS
  refine codeAny_mono ((F _ iK2 (ns_ iG)).run callerA [] s1 H ⟨[.ref a], []⟩ [.ref a] [.ref a] _ _ rfl room env (bind s1 (.ref a)) (.cons rfl .nil) go) fun r s' h => ?_
  cases r with
  | error e =>
    obtain ⟨_, _, _, _, _, _, _, _, _, _, _, _, z⟩ := h
    exact z.elim
  | ok fl =>
    cases fl with
    | next => exact False.elim h
    | brk => exact False.elim h
    | cont => exact False.elim h
    | ret u =>
      obtain ⟨v, H2, o2, b2, un, ok2, r2, q⟩ := h
      obtain rfl : v = .bl true := q
      obtain rfl : u = Value.bool true := r2
      refine ⟨rfl, OldK.of_keep fun b o e => ?_, o2, b2⟩
      cases q : H b with
      | none => exact un.keep b o e q (fun z => (nomatch z)) (by simp)
      | some u =>
        obtain ⟨rfl, rfl, _⟩ := hH b u q
        rw [at_a] at e
        cases e
        exact (ok2 b _ (un.frzs b _ _ q)).1
end
/-! ### how calls bind, further -/
section
variable {K : PySem.W.Frag} {x qual : Str} {params : Arguments} {body : List Stmt} {scope : Scope} {dvs : List V} {kws : List (Str × V)} {f : Addr} {fd : FuncData} {ps : List Str}
/-- positional ones, then the rest by keyword, in order; nothing lacks -/
theorem Cb.kwA (F : FunD K x qual params body scope [] kws f fd) (n : Nat) (ks : List Str)
    (h : ∀ (kV doc pm : Value) (an : Option Addr) (cdv ct : Value) (us ws : List Value), us.length = n → ws.length = ks.length → bindArgs (PySem.W.fnOf x qual params body scope .none kV doc pm an cdv ct) ⟨us, ks.zip ws⟩ = pure (ps.zip (us ++ ws))) : Cb K fd ps n ks fun ts us => ts ++ us := by
  obtain ⟨oc, od, dV, kV, doc, pm, an, cdv, ct, osl, rfl, lk, hcd, hD, hK⟩ := F.ex
  rcases hD with ⟨_, rfl⟩ | ⟨e, _⟩
  · exact ⟨fun us ws => us ++ ws, fun vs zs => vs ++ zs, ⟨fun s us ws X l1 l2 => .of_eq (h kV doc pm an cdv ct us ws l1 l2), fun r1 r2 => r1.append r2⟩, fun S vs zs ts us a b _ _ => a.append b⟩
  · exact absurd rfl e
/-- the same where the def has defaults -/
theorem Cb.kwD (F : FunD K x qual params body scope dvs kws f fd) (hd : dvs ≠ []) (n : Nat) (ks : List Str)
    (h : ∀ (T : Addr) (kV doc pm : Value) (an : Option Addr) (cdv ct : Value) (us its ws : List Value), us.length = n → its.length = dvs.length → ws.length = ks.length →
      ∃ k, bindArgs (PySem.W.fnOf x qual params body scope (.ref T) kV doc pm an cdv ct) ⟨us, ks.zip ws⟩ = seqItems? (.ref T) >>= k ∧ k (some its.toArray) = pure (ps.zip (us ++ ws))) : Cb K fd ps n ks fun ts us => ts ++ us := by
  obtain ⟨its, hb⟩ := F.kbindsD n ks (fun us _ ws => us ++ ws) hd (fun r1 _ r3 => r1.append r3) h
  exact ⟨_, _, hb, fun S vs zs ts us a b _ _ => a.append b⟩
/-- the defaults fill up -/
theorem Cb.dfl (F : FunD K x qual params body scope dvs kws f fd) (n j : Nat) (dts : List Tv) (hdt : ∀ S, ArgsAt S (dvs.drop j) dts) (hd : dvs ≠ []) (hn : n + (dvs.length - j) = ps.length)
    (h : ∀ (T : Addr) (kV doc pm : Value) (an : Option Addr) (cdv ct : Value) (us its : List Value), us.length = n → its.length = dvs.length →
      ∃ k, bindArgs (PySem.W.fnOf x qual params body scope (.ref T) kV doc pm an cdv ct) ⟨us, []⟩ = seqItems? (.ref T) >>= k ∧ k (some its.toArray) = pure (ps.zip (us ++ its.drop j))) : Cb K fd ps n [] fun ts _ => ts ++ dts := by
  obtain ⟨ds, hv, hb⟩ := F.binds1 n j hd hn h
  exact Cb.fill (by rw [List.length_drop]; exact hn) hv hb hdt
/-- the keyword-only defaults fill up -/
theorem Cb.kwo (F : FunD K x qual params body scope [] kws f fd) (n : Nat) (dts : List Tv) (hdt : ∀ S, ArgsAt S (kws.map (·.2)) dts) (hk : kws ≠ []) (hn : n + kws.length = ps.length)
    (h : ∀ (D : Addr) (doc pm : Value) (an : Option Addr) (cdv ct : Value) (us ks : List Value), us.length = n → ks.length = kws.length →
      KwChain D ((kws.map (·.1)).zip ks) (bindArgs (PySem.W.fnOf x qual params body scope .none (.ref D) doc pm an cdv ct) ⟨us, []⟩) (ps.zip (us ++ ks))) : Cb K fd ps n [] fun ts _ => ts ++ dts := by
  obtain ⟨ds, hv, hb⟩ := F.binds0 n hk hn h
  exact Cb.fill (by rw [List.length_map]; exact hn) hv hb hdt
end
/-! ### the law -/
def sp_true (K : PySem.W.Frag) : FS (List Int) where
  args := fun xs => [⟨tLck K tInt, xs⟩]
  pre := fun xs => xs.length ≤ 63
  post := fun _ t _ => t = ⟨tBool, true⟩
theorem sp_true_ok {K : PySem.W.Frag} {H : Hp} {a : Addr} {ns : List Int} (hl : ns.length ≤ 63) (hS : SqL K H a (ns.map V.int)) : (sp_true K).sp [.ref a] H (fun v _ => v = .bl true) fun _ _ _ => False := by
  refine ⟨ns, H, fun _ => none, fun _ => none, rfl, hl, .cons ⟨a, _, rfl, hS, at_ints⟩ .nil, ⟨fun _ h => (nomatch h), fun _ _ => rfl, fun _ h => absurd rfl h, List.nodup_nil, fun _ h => (nomatch h)⟩, fun t O' v S' C' _ _ at_ h => ?_, fun _ _ _ _ _ _ _ _ _ h => h.elim⟩
  have h : t = ⟨tBool, true⟩ := h
  subst h
  exact at_
theorem walk_g {l : PySem.W.OpenLaw} {k : Nat} {q : Program} {loose : List Str} {XP : (Str → Option Value) → Heap → Prop} {YP : World → Heap → Prop} {d : DefRec} {x : Str}
    (hn : l.most = some 63) (hdf : d.params.defaults = []) (hr : Room k callerA)
    (F : ∀ (w : World) (mg : Str → Option Value) (fa : Addr) (h : Heap), YP w h → h.Ns mainGlobals mg → mg d.name = some (.ref fa) →
      ∃ (K : PySem.W.Frag) (fd : FuncData), K.In h ∧ (∀ (s : Shared) (u : Value), BindsTo s fd ⟨[u], []⟩ [(x, u)]) ∧ ∀ base : Heap, K.In base → base.Ns mainGlobals mg → FnG l.prog w K mg base k fa fd [x] (sp_true K).sp) :
    PySem.W.WalkO q loose XP YP l.row.toRowW d [] (fun f vs => PySem.call f vs) := by
  refine Att.attach_call hn hdf fun w s0 s1 mg mb fa o pm cd doc a vs ns G Y ho hd hcd hmg hobj hints hlen hg => ?_
  obtain ⟨K, fd, KX, hb, hF⟩ := F w mg fa _ Y G.T.g hmg
  exact g_law KX G.T.g G.T.b G.T.builtins G.T.nolimit hg hobj hints (Nat.le_trans hlen (by decide)) hr hF hb fun H _ hS => sp_true_ok hlen hS
/-! ### joins, tests -/
section
variable {g : Gc} {Γ : Ctx} {O : List Ow} {P : PK'} {PB' : PB} {pos : Pos} {a b c e : Expr} {s : Stmt} {ss : List Stmt} {R : Rs}
theorem iteB {d : Bool} {A B : Prop} (h1 : d = true → A) (h2 : d = false → B) : if d = true then A else B := by
  cases d with
  | true => rw [if_pos rfl]; exact h1 rfl
  | false => rw [if_neg Bool.false_ne_true]; exact h2 rfl
theorem gss_join (M : Ctx → List Ow → Prop) (h1 : GS g Γ O s { R with nx := M }) (h2 : ∀ Γ' O', M Γ' O' → GSs g Γ' O' ss R) : GSs g Γ O (s :: ss) R :=
  gss_cons ⟨fun ok σ S C n D k => h1.run ok σ S C n D ⟨fun Γ' O' σ' S' C' s' n' hx => k.nx Γ' O' σ' S' C' s' n' (h2 Γ' O' hx), k.rt, k.bk, k.ct⟩⟩
theorem GE.imp {P' : PK'} (h : GE g Γ O e P) (k : ∀ t O', P t O' → P' t O') : GE g Γ O e P' := ⟨fun ok σ S C n Q q => h.run ok σ S C n Q fun t O' v S' C' s w a p => q t O' v S' C' s w a (k t O' p)⟩
theorem GT.imp {P' : PB} (h : GT g Γ O e PB') (k : ∀ t O', PB' t O' → P' t O') : GT g Γ O e P' := ⟨fun ok σ S C n Q q => h.run ok σ S C n Q fun t O' S' C' s w p => q t O' S' C' s w (k t O' p)⟩
theorem ge_chainP {op op' : CmpOp} {x y z : Tv} {p q : Bool} (ha : ∀ P2 : PK', P2 x O → GE g Γ O a P2) (hb : ∀ P2 : PK', P2 y O → GE g Γ O b P2) (h1 : ∀ P2 : PK', P2 ⟨tBool, p⟩ O → GOp g O (compareOp op) x y P2)
    (hc : ∀ P2 : PK', P2 z O → GE g Γ O c P2) (h2 : ∀ P2 : PK', P2 ⟨tBool, q⟩ O → GOp g O (compareOp op') y z P2) (h : P ⟨tBool, p && q⟩ O) (hm : lastMarks [op, op'] [b, c] = false := by with_unfolding_all rfl) : GE g Γ O (.Compare a [op, op'] [b, c] pos) P := by
  refine ge_chain (ha _ (hb _ (h1 _ (isB_i ?_)))) hm
  cases p with
  | true => exact iteT (hc _ (h2 _ h))
  | false => exact iteF h
theorem gt_chainP {op op' : CmpOp} {x y z : Tv} {p q : Bool} (ha : ∀ P2 : PK', P2 x O → GE g Γ O a P2) (hb : ∀ P2 : PK', P2 y O → GE g Γ O b P2) (h1 : ∀ P2 : PK', P2 ⟨tBool, p⟩ O → GOp g O (compareOp op) x y P2)
    (hc : ∀ P2 : PK', P2 z O → GE g Γ O c P2) (h2 : ∀ P2 : PK', P2 ⟨tBool, q⟩ O → GOp g O (compareOp op') y z P2) (h : PB' (p && q) O) (hm : lastMarks [op, op'] [b, c] = false := by with_unfolding_all rfl) : GT g Γ O (.Compare a [op, op'] [b, c] pos) PB' := by
  refine gt_chain (ha _ (hb _ (h1 _ (isB_i ?_)))) hm
  cases p with
  | true => exact iteT (hc _ (h2 _ (isB_i h)))
  | false => exact iteF h
/-- if a then b else c, both ways the same type -/
theorem ge_ifP {p : Bool} {α : Type} {T : Ty α} {x y : α} (ht : ∀ P2 : PB, P2 p O → GT g Γ O c P2) (ha : p = true → ∀ P2 : PK', P2 ⟨T, x⟩ O → GE g Γ O a P2) (hb : p = false → ∀ P2 : PK', P2 ⟨T, y⟩ O → GE g Γ O b P2) (h : P ⟨T, if p = true then x else y⟩ O) : GE g Γ O (.IfExp c a b pos) P := by
  refine ge_ifExp (ht _ ?_)
  cases p with
  | true => exact iteT (ha rfl _ h)
  | false => exact iteF (hb rfl _ h)
/-! ### comprehensions without effect -/
variable {gt : TG} {vs : List Nat} {scope : Scope} {elt : Expr} {ifs : List Expr} {fz : Bool}
/-- what the list is, frozen or owned -/
def FzIs (fz : Bool) (P : PK') {β : Type} (T : Ty β) (ys : List β) (O : List Ow) : Prop := if fz = true then P ⟨tLst T, ys⟩ O else ∀ q, P ⟨tRef, q⟩ (O ++ [oLst q T ys])
theorem fzIs_t {β : Type} {T : Ty β} {ys : List β} (h : P ⟨tLst T, ys⟩ O) : FzIs true P T ys O := iteT h
theorem fzIs_f {β : Type} {T : Ty β} {ys : List β} (h : ∀ q, P ⟨tRef, q⟩ (O ++ [oLst q T ys])) : FzIs false P T ys O := iteF h
theorem take_succ_map {α β : Type} {xs : List α} {i : Nat} {x : α} (h : xs[i]? = some x) : xs.take (i + 1) = xs.take i ++ [x] := by
  rw [List.take_succ, h]; rfl
theorem lc_map {α β : Type} {T : Ty α} {U : Ty β} {xs : List α} (f : α → β) (hl : xs.length ≤ 1000000) {Γ2 : α → Ctx} (htg : ∀ x, TgOk gt vs (wipeG Γ vs) ⟨T, x⟩ (Γ2 x))
    (he : ∀ (i : Nat) (x : α), xs[i]? = some x → ∀ s H c cl fp F S0 (P2 : PK'), P2 ⟨U, f x⟩ O → GE (gblk g scope s H c cl fp F S0) (Γ2 x) O elt P2) (h : FzIs fz P U (xs.map f) O) : LcI g Γ gt vs scope elt [] fz P xs.length (itL T xs) O := by
  refine ⟨hl, β, U, fun i acc O' => acc = (xs.take i).map f ∧ O' = O, ⟨rfl, rfl⟩, ?_, ?_⟩
  · rintro i acc t O' hi ⟨x, hx, rfl⟩ ⟨rfl, rfl⟩
    refine ⟨_, htg x, fun b O2 => b = true ∧ O2 = O', fun s H c cl fp F S0 => gts_nil ⟨rfl, rfl⟩, ?_, fun O2 hq => nomatch hq.1⟩
    rintro O2 ⟨_, rfl⟩ s H c cl fp F S0
    exact he i x hx s H c cl fp F S0 _ ⟨f x, rfl, by rw [take_succ_map (β := β) hx, List.map_append]; rfl, rfl⟩
  · rintro acc O' _ ⟨rfl, rfl⟩
    rw [List.take_length]
    exact h
theorem lc_fil {α β : Type} {T : Ty α} {U : Ty β} {xs : List α} (p : α → Bool) (f : α → β) (hl : xs.length ≤ 1000000) {Γ2 : α → Ctx} (htg : ∀ x, TgOk gt vs (wipeG Γ vs) ⟨T, x⟩ (Γ2 x))
    (hp : ∀ (i : Nat) (x : α), xs[i]? = some x → ∀ s H c cl fp F S0 (P2 : PB), P2 (p x) O → GT (gblk g scope s H c cl fp F S0) (Γ2 x) O e P2)
    (he : ∀ (i : Nat) (x : α), xs[i]? = some x → p x = true → ∀ s H c cl fp F S0 (P2 : PK'), P2 ⟨U, f x⟩ O → GE (gblk g scope s H c cl fp F S0) (Γ2 x) O elt P2) (h : FzIs fz P U ((xs.filter p).map f) O) : LcI g Γ gt vs scope elt [e] fz P xs.length (itL T xs) O := by
  refine ⟨hl, β, U, fun i acc O' => acc = ((xs.take i).filter p).map f ∧ O' = O, ⟨rfl, rfl⟩, ?_, ?_⟩
  · rintro i acc t O' hi ⟨x, hx, rfl⟩ ⟨rfl, rfl⟩
    refine ⟨_, htg x, fun b O2 => b = p x ∧ O2 = O', fun s H c cl fp F S0 => gts_one (hp i x hx s H c cl fp F S0 _ ⟨rfl, rfl⟩), ?_, ?_⟩
    · rintro O2 ⟨e1, rfl⟩ s H c cl fp F S0
      exact he i x hx e1.symm s H c cl fp F S0 _ ⟨f x, rfl, by rw [take_succ_map (β := β) hx, List.filter_append, List.map_append, List.filter_cons, ← e1]; rfl, rfl⟩
    · rintro O2 ⟨e1, rfl⟩
      exact ⟨by rw [take_succ_map (β := β) hx, List.filter_append, List.filter_cons, ← e1]; simp, rfl⟩
  · rintro acc O' _ ⟨rfl, rfl⟩
    rw [List.take_length]
    exact h
theorem lc_mapR {β : Type} {U : Ty β} {n : Nat} {lo : Int} (f : Int → β) (hl : n ≤ 1000000) {Γ2 : Int → Ctx} (htg : ∀ x : Int, TgOk gt vs (wipeG Γ vs) ⟨tInt, x⟩ (Γ2 x))
    (he : ∀ (i : Nat), i < n → ∀ s H c cl fp F S0 (P2 : PK'), P2 ⟨U, f (lo + i)⟩ O → GE (gblk g scope s H c cl fp F S0) (Γ2 (lo + i)) O elt P2) (h : FzIs fz P U ((List.range n).map fun (i : Nat) => f (lo + i)) O) : LcI g Γ gt vs scope elt [] fz P n (itR lo) O := by
  refine ⟨hl, β, U, fun i acc O' => acc = (List.range i).map (fun (i : Nat) => f (lo + i)) ∧ O' = O, ⟨rfl, rfl⟩, ?_, ?_⟩
  · rintro i acc t O' hi rfl ⟨rfl, rfl⟩
    refine ⟨_, htg _, fun b O2 => b = true ∧ O2 = O', fun s H c cl fp F S0 => gts_nil ⟨rfl, rfl⟩, ?_, fun O2 hq => nomatch hq.1⟩
    rintro O2 ⟨_, rfl⟩ s H c cl fp F S0
    exact he i hi s H c cl fp F S0 _ ⟨_, rfl, by rw [List.range_succ, List.map_append]; rfl, rfl⟩
  · rintro acc O' _ ⟨rfl, rfl⟩
    exact h
/-! ### further operators, items -/
theorem gop_powL {i j r : Int} (hc : CPow i j) (e : i ^ j.toNat = r) (h : P ⟨tInt, r⟩ O) : GOp g O (binaryOp .Pow) ⟨tInt, i⟩ ⟨tInt, j⟩ P := gop_pow hc (by rw [e]; exact h)
theorem gop_fdivW {i j : Int} (h0 : 0 < j) (h1 : j < 2 ^ 200) (h : P ⟨tInt, i / j⟩ O) : GOp g O (binaryOp .FloorDiv) ⟨tInt, i⟩ ⟨tInt, j⟩ P :=
  op_of (t := ⟨tInt, i / j⟩) op_fdivW h fun _ _ _ _ _ ax ay => ⟨_, rfl, fun _ q => ⟨i, j, ax, ay, ⟨h0, by
    have : j.natAbs < 2 ^ 200 := by
      have e : ((2 : Int) ^ 200) = ((2 ^ 200 : Nat) : Int) := by norm_cast
      rw [e] at h1
      omega
    exact Nat.lt_trans ((Nat.log2_lt (by omega)).mpr this) (by decide)⟩, q⟩⟩
theorem gix_at {α : Type} {T : Ty α} {xs : List α} {t : Tv} {i : Int} (hv : SV g.X.K O t T xs) (h0 : 0 ≤ i) (h1 : i < xs.length) (h : ∀ y, xs[i.toNat]? = some y → P ⟨T, y⟩ O) : GIx g O t ⟨tInt, i⟩ P :=
  gix_seq i.toNat hv (by omega) (List.getElem?_eq_getElem (by omega)) (h _ (List.getElem?_eq_getElem (by omega)))
end
end G
end
section
/-! G7: values as data (repr, ==), records (dict displays), further. -/
namespace G
open PySem L2
/-! ### data that is nice to show: at most d deep, of bulk n -/
structure Nice (x : PyData) (d n : Nat) : Prop where
  sh : x.showable = true
  hd : x.hasDict = false
  dp : x.depth ≤ d
  lf : x.leavesShort 700 = true
  bk : x.bulk ≤ n
theorem Nice.mono {x : PyData} {d n d' n' : Nat} (h : Nice x d n) (hd : d ≤ d') (hn : n ≤ n') : Nice x d' n' := ⟨h.sh, h.hd, Nat.le_trans h.dp hd, h.lf, Nat.le_trans h.bk hn⟩
theorem int_text {a : Int} (h : a.natAbs.log2 < 1920) : (Str.ofString (toString a)).length ≤ 700 := by
  have e := int_text_length_le10 (k := 580) (a := a) (by decide) (by
    have h1 : a.natAbs < 2 ^ 1920 := by
      by_cases h0 : a.natAbs = 0
      · rw [h0]; exact Nat.two_pow_pos _
      · exact (Nat.log2_lt h0).mp h
    exact Nat.lt_of_lt_of_le h1 (by decide +kernel))
  rw [ofString_length]; omega
theorem nice_int {i : Int} (h : i.natAbs.log2 < 1920) : Nice (.int i) 0 0 := ⟨by simp only [PyData.showable]; exact decide_eq_true h, by simp only [PyData.hasDict], by simp [PyData.depth], by
  simp only [PyData.leavesShort]
  exact decide_eq_true (int_text h), by simp [PyData.bulk]⟩
theorem nice_bool {b : Bool} : Nice (.bool b) 0 0 := ⟨by simp only [PyData.showable], by simp only [PyData.hasDict], by simp [PyData.depth], by simp only [PyData.leavesShort], by simp [PyData.bulk]⟩
theorem nice_none : Nice .none 0 0 := ⟨by simp only [PyData.showable], by simp only [PyData.hasDict], by simp [PyData.depth], by simp only [PyData.leavesShort], by simp [PyData.bulk]⟩
/-- a text's signs are code points -/
def Good (x : Str) : Prop := ∀ c ∈ x.cps.toList, c < 16 ^ 8
theorem nice_str {x : Str} {n : Nat} (h : Good x) (hl : x.cps.size ≤ n) : Nice (.str x) 0 n := ⟨by simp only [PyData.showable], by simp only [PyData.hasDict], by simp [PyData.depth], by
  simp only [PyData.leavesShort, List.all_eq_true, decide_eq_true_eq]
  exact h, by simpa [PyData.bulk] using hl⟩
/-- all of them -/
structure NiceA (xs : List PyData) (d n : Nat) : Prop where
  sh : PyData.showableAll xs = true
  hd : PyData.hasDictAll xs = false
  dp : PyData.depthAll xs ≤ d
  lf : PyData.leavesShortAll 700 xs = true
  bk : PyData.bulkAll xs ≤ n
theorem NiceA.nil {d n : Nat} : NiceA [] d n := ⟨by simp only [PyData.showableAll], by simp only [PyData.hasDictAll], by simp [PyData.depthAll], by simp only [PyData.leavesShortAll], by simp [PyData.bulkAll]⟩
theorem NiceA.cons {x : PyData} {xs : List PyData} {d n m : Nat} (h : Nice x d n) (t : NiceA xs d m) : NiceA (x :: xs) d (n + 1 + m) := ⟨by simp [PyData.showableAll, h.sh, t.sh], by simp [PyData.hasDictAll, h.hd, t.hd], by
  have h1 := h.dp
  have h2 := t.dp
  simp only [PyData.depthAll]
  omega, by simp [PyData.leavesShortAll, h.lf, t.lf], by
  have h1 := h.bk
  have h2 := t.bk
  simp only [PyData.bulkAll]
  omega⟩
theorem NiceA.mono {xs : List PyData} {d n d' n' : Nat} (h : NiceA xs d n) (hd : d ≤ d') (hn : n ≤ n') : NiceA xs d' n' := ⟨h.sh, h.hd, Nat.le_trans h.dp hd, h.lf, Nat.le_trans h.bk hn⟩
theorem NiceA.of {d n : Nat} : ∀ {xs : List PyData}, (∀ x ∈ xs, Nice x d n) → NiceA xs d (xs.length * (n + 1))
  | [], _ => .nil
  | x :: xs, h => by
    have t : NiceA xs d (xs.length * (n + 1)) := NiceA.of fun y hy => h y (List.mem_cons_of_mem _ hy)
    have := NiceA.cons (h x (List.mem_cons_self ..)) t
    rw [List.length_cons, Nat.add_mul, Nat.one_mul, Nat.add_comm (xs.length * (n + 1))]
    exact this
theorem nice_list {xs : List PyData} {d n : Nat} (h : NiceA xs d n) : Nice (.list xs) (d + 1) n := ⟨by simp [PyData.showable, h.sh], by simp [PyData.hasDict, h.hd], by
  have := h.dp
  simp only [PyData.depth]
  omega, by simp [PyData.leavesShort, h.lf], by
  have := h.bk
  simpa [PyData.bulk] using this⟩
theorem nice_tuple {xs : List PyData} {d n : Nat} (h : NiceA xs d n) : Nice (.tuple xs) (d + 1) n := ⟨by simp [PyData.showable, h.sh], by simp [PyData.hasDict, h.hd], by
  have := h.dp
  simp only [PyData.depth]
  omega, by simp [PyData.leavesShort, h.lf], by
  have := h.bk
  simpa [PyData.bulk] using this⟩
theorem Nice.fits {x : PyData} {d n : Nat} (h : Nice x d n) (hn : n ≤ 23000) : x.shown.length ≤ sizeLine := by
  have h1 := PyData.shown_le_bulk 700 (by decide) x h.lf
  have h2 := h.bk
  rw [sizeLine_eq]
  have h3 : (700 + 2) * x.bulk ≤ 702 * 23000 := Nat.mul_le_mul (Nat.le_refl _) (by omega)
  omega
/-! ### typed values as data -/
structure DT (K : PySem.W.Frag) {α : Type} (T : Ty α) (f : α → PyData) : Prop where
  dp : ∀ S C F O v x, Wd S C F O → T.at_ S v x → Dp K (ov S C) v (f x)
section
variable {K : PySem.W.Frag} {α β γ : Type} {T : Ty α} {U : Ty β} {W : Ty γ} {f : α → PyData} {f2 : β → PyData} {f3 : γ → PyData}
theorem dt_int : DT K tInt .int := ⟨fun S C F O v x w h => by obtain rfl := (show v = .int x from h); exact .int x⟩
theorem dt_bool : DT K tBool .bool := ⟨fun S C F O v x w h => by obtain rfl := (show v = .bl x from h); exact .bl x⟩
theorem dt_str : DT K tStr .str := ⟨fun S C F O v x w h => by obtain rfl := (show v = .str x from h); exact .str x⟩
theorem dt_non : DT K tNon (fun _ => .none) := ⟨fun S C F O v x w h => by obtain rfl := (show v = .non from h); exact .non⟩
theorem DT.all (h : DT K T f) {S C F : Hp} {O : List Ow} (w : Wd S C F O) : ∀ {vs : List V} {xs : List α}, AllAt T S vs xs → DpAll K (ov S C) vs (xs.map f)
  | _, _, .nil => .nil
  | _, _, .cons r t => .cons (h.dp S C F O _ _ w r) (DT.all h w t)
theorem dt_lst (h : DT K T f) : DT K (tLst T) fun xs => .list (xs.map f) := ⟨fun S C F O v x w ⟨p, vs, e, h1, h2⟩ => by subst e; exact .lst (SqL.of (w.sameS _ _ h1)) (h.all w h2)⟩
theorem dt_lck (h : DT K T f) : DT K (tLck K T) fun xs => .list (xs.map f) := ⟨fun S C F O v x w ⟨p, vs, e, h1, h2⟩ => by subst e; exact .lst (w.sameS.seq h1) (h.all w h2)⟩
theorem dt_tup (h : DT K T f) : DT K (tTup K T) fun xs => .tuple (xs.map f) := ⟨fun S C F O v x w ⟨p, vs, e, h1, h2⟩ => by subst e; exact .tup (same_t w.sameS h1) (h.all w h2)⟩
theorem dt_pr (h : DT K T f) (h2 : DT K U f2) : DT K (tPr K T U) fun x => .tuple [f x.1, f2 x.2] := ⟨fun S C F O v x w ⟨p, v1, v2, e, k1, k2, k3⟩ => by subst e; exact .tup (same_t w.sameS k1) (.cons (h.dp S C F O _ _ w k2) (.cons (h2.dp S C F O _ _ w k3) .nil))⟩
theorem dt_tr (h : DT K T f) (h2 : DT K U f2) (h3 : DT K W f3) : DT K (tTr K T U W) fun x => .tuple [f x.1, f2 x.2.1, f3 x.2.2] := ⟨fun S C F O v x w ⟨p, v1, v2, v3, e, k1, k2, k3, k4⟩ => by subst e; exact .tup (same_t w.sameS k1) (.cons (h.dp S C F O _ _ w k2) (.cons (h2.dp S C F O _ _ w k3) (.cons (h3.dp S C F O _ _ w k4) .nil)))⟩
theorem dt_opt (h : DT K T f) : DT K (tOpt T) fun x => match x with | none => .none | some y => f y := ⟨fun S C F O v x w a => by
  cases x with
  | none => obtain rfl := (show v = .non from a); exact .non
  | some y => exact h.dp S C F O v y w a⟩
theorem DT.dv (h : DT K T f) {O : List Ow} {x : α} : DV K O ⟨T, x⟩ (f x) := fun S C F v w a => h.dp S C F O v x w a
/-- a frozen list, tuple of given things -/
def tHetL (ts : List Tv) : Ty Unit := ⟨fun S v _ => ∃ a vs, v = .ref a ∧ S a = some (.lst vs) ∧ ArgsAt S vs ts, fun s ⟨a, vs, h1, h2, h3⟩ => ⟨a, vs, h1, s _ _ h2, h3.mono s⟩⟩
theorem lstIs_het {ts : List Tv} : LstIs ts ⟨tHetL ts, ()⟩ := fun S a vs h1 h2 => ⟨a, vs, rfl, h1, h2⟩
abbrev DVA (K : PySem.W.Frag) (O : List Ow) (ts : List Tv) (ds : List PyData) : Prop := Pr (fun (t : Tv) (d : PyData) => DV K O t d) ts ds
theorem DVA.all {O : List Ow} {S C F : Hp} (w : Wd S C F O) : ∀ {ts : List Tv} {ds : List PyData} {vs : List V}, DVA K O ts ds → ArgsAt S vs ts → DpAll K (ov S C) vs ds
  | _, _, _, .nil, .nil => .nil
  | _, _, _, .cons h t, .cons r q => .cons (h S C F _ w r) (DVA.all w t q)
theorem dv_hetL {O : List Ow} {ts : List Tv} {ds : List PyData} (h : DVA K O ts ds) : DV K O ⟨tHetL ts, ()⟩ (.list ds) := fun S C F v w ⟨p, vs, e, h1, h2⟩ => by subst e; exact .lst (SqL.of (w.sameS _ _ h1)) (DVA.all w h h2)
theorem dv_het {O : List Ow} {ts : List Tv} {ds : List PyData} (h : DVA K O ts ds) : DV K O ⟨tHet K ts, ()⟩ (.tuple ds) := fun S C F v w ⟨p, vs, e, h1, h2⟩ => by subst e; exact .tup (same_t w.sameS h1) (DVA.all w h h2)
theorem dv_own (j : Nat) {O : List Ow} {p : Addr} {xs : List α} (hj : O[j]? = some (oLst p T xs)) (h : DT K T f) : DV K O ⟨tRef, p⟩ (.list (xs.map f)) := fun S C F v w a => by
  obtain rfl := (show v = .ref p from a)
  obtain ⟨vs, h1, h2⟩ := w.own _ (List.mem_of_getElem? hj)
  exact .lst (SqL.of (ov_C h1)) (h.all w h2)
/-- the value is an object -/
def IsRf (t : Tv) : Prop := ∀ S v, t.at_ S v → ∃ a, v = .ref a
theorem rf_lst {x : List α} : IsRf ⟨tLst T, x⟩ := fun S v ⟨a, _, e, _⟩ => ⟨a, e⟩
theorem rf_tup {x : List α} : IsRf ⟨tTup K T, x⟩ := fun S v ⟨a, _, e, _⟩ => ⟨a, e⟩
theorem rf_hetL {ts : List Tv} : IsRf ⟨tHetL ts, ()⟩ := fun S v ⟨a, _, e, _⟩ => ⟨a, e⟩
theorem rf_het {ts : List Tv} : IsRf ⟨tHet K ts, ()⟩ := fun S v ⟨a, _, e, _⟩ => ⟨a, e⟩
theorem rf_ref {p : Addr} : IsRf ⟨tRef, p⟩ := fun S v e => ⟨p, e⟩
end
section
variable {g : Gc} {Γ : Ctx} {O : List Ow} {P : PK'} {PB' : PB} {pos : Pos} {R : Rs}
theorem units_of {g : Gc} {k : Nat} (hr : Room k g.X.A) {d : Nat} (hd : d ≤ 64) : g.X.A.units + (d + 1) < cLine := by
  have := hr.un
  omega
theorem gb_reprN {t : Tv} {d : PyData} {dp n k : Nat} (hr : Room k g.X.A) (hd : DV g.X.K O t d) (rf : IsRf t) (nc : Nice d dp n) (h1 : dp ≤ 60) (h2 : n ≤ 23000) (h : P ⟨tStr, d.shown⟩ O) : GB g O (.builtin "repr") [t] P :=
  gb_repr hd rf nc.sh nc.hd (units_of hr (Nat.le_trans nc.dp (Nat.le_trans h1 (by decide)))) (nc.fits h2) h
/-! ### a sign in a text -/
theorem gop_inS {c : Nat} {z : Str} (h : P ⟨tBool, decide (c ∈ z.cps.toList)⟩ O) : GOp g O (compareOp .In) ⟨tStr, ⟨#[c]⟩⟩ ⟨tStr, z⟩ P :=
  op_of (t := ⟨tBool, decide (c ∈ z.cps.toList)⟩) op_inS h fun S C w vx vy ax ay => ⟨_, rfl, fun Q q => ⟨c, z, ax, ay, q⟩⟩
/-! ### == of data -/
theorem gop_eqD {x y : Tv} {d e : PyData} {k : Nat} (hr : Room k g.X.A) (hx : DV g.X.K O x d) (hy : DV g.X.K O y e) (sd : SeqAt.shaped d = true) (se : SeqAt.shaped e = true) (h : P ⟨tBool, PyData.eqv d e⟩ O) : GOp g O (compareOp .Eq) x y P :=
  op_of (t := ⟨tBool, PyData.eqv d e⟩) (op_eqD (by have := hr.un; omega)) h fun S C w vx vy ax ay => ⟨_, rfl, fun Q q => ⟨d, e, hx S C g.F vx w ax, hy S C g.F vy w ay, sd, se, q⟩⟩
theorem gop_neD {x y : Tv} {d e : PyData} {k : Nat} (hr : Room k g.X.A) (hx : DV g.X.K O x d) (hy : DV g.X.K O y e) (sd : SeqAt.shaped d = true) (se : SeqAt.shaped e = true) (h : P ⟨tBool, !PyData.eqv d e⟩ O) : GOp g O (compareOp .NotEq) x y P :=
  op_of (t := ⟨tBool, !PyData.eqv d e⟩) (op_neD (by have := hr.un; omega)) h fun S C w vx vy ax ay => ⟨_, rfl, fun Q q => ⟨d, e, hx S C g.F vx w ax, hy S C g.F vy w ay, sd, se, q⟩⟩
/-! ### a, b, c = x, y, z -/
theorem gs_par3 (i j l : Nat) {a b c : Expr} {x y z : Str} {px py pz pt : Pos} {kt k2 : Nat} {pt2 : Pos} (h : GA g Γ O [a, b, c] fun ts O' => ∃ t u r, ts = [t, u, r] ∧ R.nx (((Γ.set i (some t)).set j (some u)).set l (some r)) O') (hN : g.X.N.Nodup) (hc : g.X.calm = true := by rfl)
    (hi : g.X.N[i]? = some x := by rfl) (hj : g.X.N[j]? = some y := by rfl) (hl : g.X.N[l]? = some z := by rfl) (hij : i ≠ j := by decide) (hil : i ≠ l := by decide) (hjl : j ≠ l := by decide)
    (hx : g.X.env.scope.names.lookup x = some .local := by rfl) (hy : g.X.env.scope.names.lookup y = some .local := by rfl) (hz : g.X.env.scope.names.lookup z = some .local := by rfl)
    (hw : swappedStores [.Tuple [.Name x px, .Name y py, .Name z pz] kt pt] (.Tuple [a, b, c] k2 pt2) g.X.env = pure (some [x, y, z]) := by rfl)
    (hs : swapsWithSole [.Tuple [.Name x px, .Name y py, .Name z pz] kt pt] (.Tuple [a, b, c] k2 pt2) pos.line g.X.env = pure false := by rfl) : GS g Γ O (.Assign [.Tuple [.Name x px, .Name y py, .Name z pz] kt pt] (.Tuple [a, b, c] k2 pt2) pos) R :=
  ⟨fun ok σ S C n D k => ⟨_, ps_par3 hc hN hi hj hl hij hil hjl hx hy hz pa_tA hw hs, h.run ok σ S C n _ fun ts O' vs S' C' s' w a ⟨t, u, r, et, hp⟩ => by
    subst et
    cases a with
    | cons r1 t1 => cases t1 with
      | cons r2 t2 => cases t2 with
        | cons r3 t3 => cases t3; exact ⟨_, _, _, rfl, k.nx _ O' _ S' C' s' ((((n.wdS s' w).set i r1).set j r2).set l r3) hp⟩⟩⟩
/-! ### records -/
/-- a frozen dict, its keys texts -/
def tRec (fs : List (Str × Tv)) : Ty Unit := ⟨fun S v _ => ∃ a kvs, v = .ref a ∧ S a = some (.dK kvs) ∧ ∀ k t, (k, t) ∈ fs → ∃ u, valV kvs (.inr k) = some u ∧ t.at_ S u,
  fun s ⟨a, kvs, h1, h2, h3⟩ => ⟨a, kvs, h1, s _ _ h2, fun k t m => let ⟨u, q1, q2⟩ := h3 k t m; ⟨u, q1, Tv.mono s q2⟩⟩⟩
/-- d["k"] -/
theorem ge_rec {o i : Expr} {t : Tv} {fs : List (Str × Tv)} {kk : Str} {n : Nat} (hr : Room n g.X.A) (h : GE g Γ O o fun x O1 => x = ⟨tRec fs, ()⟩ ∧ GE g Γ O1 i fun y O2 => y = ⟨tStr, kk⟩ ∧ (kk, t) ∈ fs ∧ P t O2)
    (hs : NoSl i := by exact fun _ _ => rfl) : GE g Γ O (.Subscript o i pos) P :=
  ⟨fun ok σ S C nw Q k => ⟨_, pe_dget (by have := hr.un; omega) pe_tE pe_tE hs, h.run ok σ S C nw _ fun x O1 vx S1 C1 s1 w1 ax ⟨ex, hx⟩ => hx.run ok σ S1 C1 (nw.wdS s1 w1) _ fun y O2 vy S2 C2 s2 w2 ay ⟨ey, hm, hp⟩ => by
    subst ex; subst ey
    obtain ⟨a, kvs, rfl, h1, h2⟩ := (tRec fs).mono s2 ax
    obtain rfl := (show vy = .str kk from ay)
    obtain ⟨u, q1, q2⟩ := h2 kk t hm
    refine ⟨a, u, rfl, ?_, (k.mono (s1.trans s2)).ret w2 q2 hp⟩
    have := DGet.k (k := .inr kk) (w2.sameS _ _ h1)
    rw [q1] at this
    exact this⟩⟩
/-- the values of a display's pairs, from the left -/
def tEs (X : Cx) : List (Option Expr) → List Expr → List (TE × TE)
  | some k :: ks, v :: vs => (tE X k, tE X v) :: tEs X ks vs
  | _, _ => []
theorem pps_tEs {X : Cx} : ∀ {ks : List (Option Expr)} {vs : List Expr}, ks.all (·.isSome) = true → ks.length = vs.length → PPs X pos ks vs (tEs X ks vs)
  | [], [], _, _ => pps_nil
  | some k :: ks, v :: vs, h, e => pps_cons pe_tE pe_tE (pps_tEs (by simpa using h) (by simpa using e))
  | none :: ks, v :: vs, h, e => by simp at h
  | [], _ :: _, _, e => by simp at e
  | _ :: _, [], _, e => by simp at e
structure GPs (g : Gc) (Γ : Ctx) (O : List Ow) (ks : List (Option Expr)) (vs : List Expr) (P : List (Str × Tv) → List Ow → Prop) : Prop where
  run : g.Ok → ∀ σ S C, Now g Γ O σ S C → ∀ Q : List (V × V) → Hp → Prop, (∀ fs O' us S' C', Same S S' → Wd S' C' g.F O' → Pr (fun (u : V × V) (q : Str × Tv) => u.1 = .str q.1 ∧ q.2.at_ S' u.2) us fs → P fs O' → Q us (ov S' C')) →
    tPairs (tEs g.X ks vs) σ (ov S C) Q
theorem gps_nil {Pf : List (Str × Tv) → List Ow → Prop} (h : Pf [] O) : GPs g Γ O [] [] Pf := ⟨fun _ σ S C n Q k => k [] O [] S C (Same.refl S) n.wd .nil h⟩
theorem gps_cons {Pf : List (Str × Tv) → List Ow → Prop} {a b : Expr} {ks : List (Option Expr)} {vs : List Expr} (h : GE g Γ O a fun t O1 => ∃ kk, t = ⟨tStr, kk⟩ ∧ GE g Γ O1 b fun u O2 => GPs g Γ O2 ks vs fun fs O3 => Pf ((kk, u) :: fs) O3) : GPs g Γ O (some a :: ks) (b :: vs) Pf :=
  ⟨fun ok σ S C n Q k => h.run ok σ S C n _ fun t O1 v S1 C1 s1 w1 at_ ⟨kk, et, h1⟩ => h1.run ok σ S1 C1 (n.wdS s1 w1) _ fun u O2 x S2 C2 s2 w2 au h2 => h2.run ok σ S2 C2 (n.wdS (s1.trans s2) w2) _ fun fs O3 us S3 C3 s3 w3 pr hp => by
    subst et
    exact k ((kk, u) :: fs) O3 _ S3 C3 ((s1.trans s2).trans s3) w3 (.cons ⟨at_, Tv.mono s3 au⟩ pr) hp⟩
/-- the context while a display is made: a foreign object stands, nothing is raised -/
abbrev gdis (g : Gc) (F : Hp) : Gc := ⟨g.X, F, g.S0, fun _ _ _ _ => False, fun _ _ _ => False⟩
theorem valV_app {kvs : List (Key × V)} {k : Key} {u : V} (h : valV kvs k = none) : valV (kvs ++ [(k, u)]) k = some u := by
  rw [valV_snoc k k u kvs h, if_pos rfl]
theorem merge_new : ∀ {more kvs : List (Key × V)}, ((kvs ++ more).map (·.1)).Nodup → mergeK kvs more = kvs ++ more
  | [], kvs, _ => by simp [mergeK]
  | p :: more, kvs, h => by
    have hn : valV kvs p.1 = none := by
      unfold valV
      rw [List.find?_eq_none.mpr]
      · rfl
      · intro q hq
        simp only [List.map_append, List.map_cons, List.nodup_append] at h
        have := h.2.2 q.1 (List.mem_map_of_mem hq) p.1 (by simp)
        simpa using this
    show mergeK (putK kvs p.1 p.2) more = _
    rw [putK_new p.2 hn, merge_new (by rw [List.append_assoc]; exact h), List.append_assoc]
    rfl
theorem valV_mem : ∀ {kvs : List (Key × V)} {k : Key} {u : V}, (kvs.map (·.1)).Nodup → (k, u) ∈ kvs → valV kvs k = some u
  | [], _, _, _, h => nomatch h
  | p :: r, k, u, nd, h => by
    simp only [List.map_cons, List.nodup_cons] at nd
    rcases List.mem_cons.mp h with e | h
    · subst e; exact valV_pos rfl
    · rw [valV_neg fun e => nd.1 (by rw [e]; exact List.mem_map_of_mem (f := (·.1)) h)]
      exact valV_mem nd.2 h
theorem pairs_kv {S : Hp} : ∀ {us : List (V × V)} {fs : List (Str × Tv)}, Pr (fun (u : V × V) (q : Str × Tv) => u.1 = .str q.1 ∧ q.2.at_ S u.2) us fs → ∃ kvs : List (Key × V), us = kvs.map (fun kv => (kV kv.1, kv.2)) ∧ kvs.map (·.1) = fs.map (fun q => Sum.inr q.1) ∧ ∀ k t, (k, t) ∈ fs → ∃ u, (Sum.inr k, u) ∈ kvs ∧ t.at_ S u
  | [], [], .nil => ⟨[], rfl, rfl, fun _ _ h => nomatch h⟩
  | (v1, v2) :: us, (k, t) :: fs, .cons r q => by
    obtain ⟨kvs, e1, e2, h⟩ := pairs_kv q
    obtain ⟨r1, r2⟩ := r
    refine ⟨(Sum.inr k, v2) :: kvs, ?_, ?_, fun k' t' hm => ?_⟩
    · rw [List.map_cons, ← e1, show v1 = .str k from r1]; rfl
    · rw [List.map_cons, List.map_cons, e2]
    · rcases List.mem_cons.mp hm with e | hm
      · cases e; exact ⟨v2, List.mem_cons_self .., r2⟩
      · obtain ⟨u, h1, h2⟩ := h k' t' hm
        exact ⟨u, List.mem_cons_of_mem _ h1, h2⟩
/-- {"k": v, ..} -/
theorem ge_disp {ks : List (Option Expr)} {vs : List Expr} (h : ∀ F, GPs (gdis g F) Γ O ks vs fun fs O' => (fs.map (·.1)).Nodup ∧ fs.length ≤ 15 ∧ P ⟨tRec fs, ()⟩ O') (hall : ks.all (·.isSome) = true := by rfl) (hl : ks.length = vs.length := by rfl) (h0 : ks ≠ [] := by exact List.cons_ne_nil _ _) (h15 : ks.length ≤ 15 := by exact Nat.le_of_ble_eq_true rfl) : GE g Γ O (.Dict ks vs pos) P :=
  ⟨fun ok σ S C n Q k => ⟨_, pe_disp (pps_tEs hall hl) hall hl h0 h15, fun p np => by
    obtain ⟨h1, h2⟩ := ov_none np
    have hF : g.F p = none := by rw [← n.wd.rest p (n.wd.notin h1)]; exact h1
    rw [ov_updC]
    refine (h (upd g.F p (.dK []))).run ⟨takes0, ok.pw, ok.gd, fun _ _ _ _ _ _ _ _ _ _ z => z⟩ σ S _ ⟨n.sm, n.en, n.wd.alien np⟩ _ fun fs O' us S' C' s' w' pr ⟨nd, hlen, hp⟩ => ?_
    have w' : Wd S' C' (upd g.F p (.dK [])) O' := w'
    have nf : p ∉ foot O' := fun hm => by have := w'.ff p hm; rw [upd_same] at this; cases this
    have hC : C' p = some (.dK []) := by rw [w'.rest p nf]; exact upd_same
    obtain ⟨kvs, e1, e2, e3⟩ := pairs_kv pr
    have ndk : (kvs.map (·.1)).Nodup := by
      rw [e2, show fs.map (fun q => (Sum.inr q.1 : Key)) = (fs.map (·.1)).map (fun z => (Sum.inr z : Key)) by rw [List.map_map]; rfl]
      exact List.Pairwise.map _ (fun a b hab e => hab (Sum.inr.inj e)) nd
    have hm : mergeK [] kvs = kvs := by rw [merge_new (kvs := []) (by simpa using ndk)]; rfl
    have hlk : kvs.length ≤ 15 := by
      have := congrArg List.length e2
      rw [List.length_map, List.length_map] at this
      omega
    refine ⟨ov_C hC, kvs, e1, hlk, ?_⟩
    rw [hm]
    have hS : S' p = none := w'.dis p (by rw [hC]; exact Option.some_ne_none _)
    have sn : Same S' (upd S' p (.dK kvs)) := Same.new hS
    have eo : upd (ov S' C') p (.dK kvs) = ov (upd S' p (.dK kvs)) (del C' p) := by
      funext a
      by_cases e : a = p
      · subst e; rw [upd_same, ov_S del_same, upd_same]
      · unfold ov; rw [upd_ne e, del_ne e, upd_ne e]
    rw [eo]
    refine k ⟨tRec fs, ()⟩ O' _ _ _ (s'.trans sn) ⟨fun u hu => u.mono sn (u.loc (fun a ha => del_ne fun e => nf (by rw [← e]; exact mem_foot.mpr ⟨u, hu, ha⟩)) (w'.own u hu)), fun a ha => ?_, fun a ha => ?_, w'.nd, fun a ha => ?_⟩ ⟨p, kvs, rfl, upd_same, fun kk t hkt => ?_⟩ hp
    · by_cases e : a = p
      · rw [e, del_same]; exact hF.symm
      · rw [del_ne e, w'.rest a ha, upd_ne e]
    · have e : a ≠ p := fun e => ha (by rw [e, del_same])
      rw [del_ne e] at ha
      rw [upd_ne e]
      exact w'.dis a ha
    · have := w'.ff a ha
      rwa [upd_ne fun e => nf (by rw [← e]; exact ha)] at this
    · obtain ⟨u, q1, q2⟩ := e3 kk t hkt
      exact ⟨u, valV_mem ndk q1, Tv.mono sn q2⟩⟩⟩
end
end G
end
section
/-! G8: owned things regrouped, grids (a list of owned lists), frozen as a whole. -/
namespace G
open PySem L2
section
variable {S C F : Hp} {O O' : List Ow}
theorem Wd.regroup (h : Wd S C F O) (hp : (foot O).Perm (foot O')) (hat : (∀ w ∈ O, w.at_ S C) → ∀ w ∈ O', w.at_ S C) : Wd S C F O' :=
  ⟨hat h.own, fun a ha => h.rest a fun hm => ha (hp.mem_iff.mp hm), h.dis, hp.nodup_iff.mp h.nd, fun a ha => h.ff a (hp.mem_iff.mpr ha)⟩
/-- the objects at as leave C for S -/
def inS (S C : Hp) (as : List Addr) : Hp := fun a => if a ∈ as then C a else S a
def outC (C : Hp) (as : List Addr) : Hp := fun a => if a ∈ as then none else C a
theorem ov_inS (S C : Hp) (as : List Addr) (h : ∀ a ∈ as, C a ≠ none) : ov (inS S C as) (outC C as) = ov S C := by
  funext a
  unfold ov inS outC
  by_cases e : a ∈ as
  · simp only [if_pos e]
    cases q : C a with
    | none => exact absurd q (h a e)
    | some o => rfl
  · simp only [if_neg e]
theorem Wd.freezeAll (h : Wd S C F O) {j : Nat} {w : Ow} (hj : O[j]? = some w) : Wd (inS S C w.as) (outC C w.as) F (O.eraseIdx j) ∧ Same S (inS S C w.as) := by
  have hwm : w ∈ O := List.mem_of_getElem? hj
  have hm : ∀ a ∈ w.as, a ∈ foot O := fun a ha => mem_foot.mpr ⟨w, hwm, ha⟩
  have hS : ∀ a ∈ w.as, S a = none := fun a ha => h.dis _ (h.al (hm a ha))
  have hs : Same S (inS S C w.as) := fun a o e => by
    unfold inS
    by_cases q : a ∈ w.as
    · rw [hS a q] at e; cases e
    · rw [if_neg q]; exact e
  have pf := foot_erase hj
  have nd := pf.nodup_iff.mp h.nd
  obtain ⟨_, n2, n3⟩ := List.nodup_append.mp nd
  have np : ∀ a ∈ w.as, a ∉ foot (O.eraseIdx j) := fun a ha hb => n3 a ha a hb rfl
  refine ⟨⟨fun u hu => ?_, fun a hn => ?_, fun a hn => ?_, n2, fun a ha => h.ff a (pf.mem_iff.mpr (by simp [ha]))⟩, hs⟩
  · refine u.mono hs (u.loc (fun a ha => ?_) (h.own u (List.mem_of_mem_eraseIdx hu)))
    unfold outC
    rw [if_neg fun e => np a e (mem_foot.mpr ⟨u, hu, ha⟩)]
  · unfold outC
    by_cases e : a ∈ w.as
    · rw [if_pos e]; exact (h.ff a (hm a e)).symm
    · rw [if_neg e]
      exact h.rest a fun hm' => by
        rcases List.mem_append.mp (pf.mem_iff.mp hm') with q | q
        · exact e q
        · exact hn q
  · unfold outC at hn
    by_cases e : a ∈ w.as
    · rw [if_pos e] at hn; exact absurd rfl hn
    · rw [if_neg e] at hn
      unfold inS
      rw [if_neg e]
      exact h.dis a hn
end
section
variable {g : Gc} {Γ : Ctx} {O O' : List Ow} {P : PK'} {R : Rs} {ss : List Stmt} {s : Stmt}
theorem gss_regroup (h : GSs g Γ O' ss R) (hp : (foot O).Perm (foot O')) (hat : ∀ S C, (∀ w ∈ O, w.at_ S C) → ∀ w ∈ O', w.at_ S C) : GSs g Γ O ss R :=
  ⟨fun ok σ S C n D k => h.run ok σ S C ⟨n.sm, n.en, n.wd.regroup hp (hat S C)⟩ D k⟩
/-- the owned thing w at j is frozen; slot i then is a t -/
theorem gss_frz (i j : Nat) {p : Addr} {w : Ow} {t : Tv} (h : GSs g (Γ.set i (some t)) (O.eraseIdx j) ss R) (hat : ∀ S C, w.at_ S C → t.at_ (inS S C w.as) (.ref p)) (hi : Γ[i]? = some (some ⟨tRef, p⟩) := by rfl) (hj : O[j]? = some w := by rfl) : GSs g Γ O ss R :=
  ⟨fun ok σ S C n D k => by
    have hw := n.wd.own _ (List.mem_of_getElem? hj)
    obtain ⟨w2, sm⟩ := n.wd.freezeAll hj
    rw [← ov_inS S C w.as fun a ha => w.al hw a ha]
    obtain ⟨v, ev, av⟩ := n.en.get i _ hi
    obtain rfl : v = .ref p := av
    have n2 : Now g Γ (O.eraseIdx j) σ (inS S C w.as) (outC C w.as) := ⟨n.sm.trans sm, n.en.mono sm, w2⟩
    have n3 := n2.set (t := t) i (v := .ref p) (hat S C hw)
    have es : σ.set i (some (V.ref p)) = σ := by
      apply List.ext_getElem?
      intro k
      by_cases hk : k = i
      · subst hk
        rw [List.getElem?_set_self (List.getElem?_eq_some_iff.mp ev).1, ev]
      · rw [List.getElem?_set_ne (Ne.symm hk)]
    rw [es] at n3
    exact h.run ok σ _ _ n3 D (k.mono sm)⟩
theorem Wd.drop {S C F : Hp} (h : Wd S C F O) {j : Nat} (hj : j < O.length) : ∃ S' C', ov S' C' = ov S C ∧ Same S S' ∧ Wd S' C' F (O.eraseIdx j) := by
  have hj' : O[j]? = some O[j] := List.getElem?_eq_getElem hj
  obtain ⟨w2, sm⟩ := h.freezeAll hj'
  exact ⟨_, _, ov_inS S C _ fun a ha => (O[j]).al (h.own _ (List.mem_of_getElem? hj')) a ha, sm, w2⟩
/-- an owned thing that nobody asks for any more -/
theorem ge_drop (j : Nat) {e : Expr} (h : GE g Γ O e fun t O' => j < O'.length ∧ P t (O'.eraseIdx j)) : GE g Γ O e P :=
  ⟨fun ok σ S C n Q k => h.run ok σ S C n Q fun t O' v S' C' s' w' a ⟨hj, hp⟩ => by
    obtain ⟨S2, C2, e2, s2, w2⟩ := w'.drop hj
    rw [← e2]
    exact k t _ v S2 C2 (s'.trans s2) w2 (Tv.mono s2 a) hp⟩
theorem gss_drop (j : Nat) (h : GSs g Γ (O.eraseIdx j) ss R) (hj : j < O.length := by exact Nat.le_of_ble_eq_true rfl) : GSs g Γ O ss R :=
  ⟨fun ok σ S C n D k => by
    obtain ⟨S2, C2, e2, s2, w2⟩ := n.wd.drop hj
    rw [← e2]
    exact h.run ok σ S2 C2 (n.wdS s2 w2) D (k.mono s2)⟩
theorem lt_size {n : Nat} (h : n ≤ 1000000) : n < sizeLine := Nat.lt_of_le_of_lt h (by decide)
theorem le_size {n : Nat} (h : n ≤ 1000000) : n ≤ sizeLine := Nat.le_trans h (by decide)
/-! ### a grid: the rows stand at ps -/
def Rows (C : Hp) : List Addr → List (List Int) → Prop := Pr fun q row => C q = some (.lst (row.map V.int))
theorem Rows.congr {C C' : Hp} : ∀ {ps : List Addr} {rows : List (List Int)}, Rows C ps rows → (∀ a ∈ ps, C' a = C a) → Rows C' ps rows
  | _, _, .nil, _ => .nil
  | _, _, .cons r t, h => .cons (by rw [h _ (List.mem_cons_self ..)]; exact r) (Rows.congr t fun a ha => h a (List.mem_cons_of_mem _ ha))
theorem Rows.al {C : Hp} : ∀ {ps : List Addr} {rows : List (List Int)}, Rows C ps rows → ∀ a ∈ ps, C a ≠ none
  | _, _, .nil, a, ha => nomatch ha
  | _, _, .cons r t, a, ha => by
    rcases List.mem_cons.mp ha with e | ha
    · rw [e]; exact none_ne_some' r
    · exact Rows.al t a ha
theorem Rows.at_ {S : Hp} : ∀ {ps : List Addr} {rows : List (List Int)}, Rows S ps rows → AllAt (tLst tInt) S (ps.map V.ref) rows
  | _, _, .nil => .nil
  | _, _, .cons r t => .cons ⟨_, _, rfl, r, at_ints⟩ (Rows.at_ t)
theorem Rows.row {C : Hp} : ∀ {ps : List Addr} {rows : List (List Int)} {i : Nat} {q : Addr} {row : List Int}, Rows C ps rows → ps[i]? = some q → rows[i]? = some row → C q = some (.lst (row.map V.int))
  | _, _, _, _, _, .nil, e, _ => by simp at e
  | _, _, 0, _, _, .cons r _, e1, e2 => by simp at e1 e2; subst e1; subst e2; exact r
  | _, _, i + 1, _, _, .cons _ t, e1, e2 => Rows.row (i := i) t (by simpa using e1) (by simpa using e2)
def oGrid (p : Addr) (ps : List Addr) (rows : List (List Int)) : Ow where
  as := p :: ps
  at_ := fun _ C => C p = some (.lst (ps.map V.ref)) ∧ Rows C ps rows
  mono := fun _ h => h
  loc := fun {S C C'} h ⟨h1, h2⟩ => ⟨by rw [h p (List.mem_cons_self ..)]; exact h1, h2.congr fun a ha => h a (List.mem_cons_of_mem _ ha)⟩
  al := fun {S C} ⟨h1, h2⟩ a ha => by
    rcases List.mem_cons.mp ha with e | ha
    · rw [e]; exact none_ne_some' h1
    · exact h2.al a ha
theorem Rows.set {C : Hp} {q : Addr} {row' : List Int} : ∀ {ps : List Addr} {rows : List (List Int)} {i : Nat}, ps.Nodup → Rows C ps rows → ps[i]? = some q → Rows (upd C q (.lst (row'.map V.int))) ps (rows.set i row')
  | _, _, _, _, .nil, e => by simp at e
  | p :: ps, r :: rows, 0, nd, .cons h t, e => by
    simp at e
    subst e
    have np := (List.nodup_cons.mp nd).1
    refine .cons upd_same ?_
    exact Rows.congr t fun a ha => upd_ne fun e => np (by rw [← e]; exact ha)
  | p :: ps, r :: rows, i + 1, nd, .cons h t, e => by
    have np := (List.nodup_cons.mp nd)
    have hq : ps[i]? = some q := by simpa using e
    refine .cons ?_ (Rows.set np.2 t hq)
    rw [upd_ne fun e => np.1 (by rw [e]; exact List.mem_of_getElem? hq)]
    exact h
/-- grid[i] -/
theorem gix_grid {p q : Addr} {ps : List Addr} {rows : List (List Int)} {i : Int} (j n : Nat) (hj : O[j]? = some (oGrid p ps rows)) (hi : i = (n : Int)) (hq : ps[n]? = some q) (h : P ⟨tRef, q⟩ O) : GIx g O ⟨tRef, p⟩ ⟨tInt, i⟩ P :=
  ix_any rfl (u := ⟨tRef, q⟩) h fun S C F v w at_ => by
    obtain ⟨h1, h2⟩ := w.own _ (List.mem_of_getElem? hj)
    exact ⟨p, _, .ref q, at_, .inl (SqL.of (ov_C h1)), by rw [hi]; exact atI_nat (by rw [List.getElem?_map, hq]; rfl), rfl⟩
/-- grid[i][k] = y -/
theorem gset_grid {p q : Addr} {ps : List Addr} {rows : List (List Int)} {row : List Int} {k y : Int} {PO' : List Ow → Prop} (j n m : Nat) (hj : O[j]? = some (oGrid p ps rows)) (hq : ps[n]? = some q) (hr : rows[n]? = some row) (hk : k = (m : Int)) (hm : m < row.length)
    (h : PO' (O.set j (oGrid p ps (rows.set n (row.set m y))))) : GSet g O ⟨tRef, q⟩ ⟨tInt, k⟩ ⟨tInt, y⟩ PO' :=
  ⟨fun _ S C sm w vx vy vt ax ay at_ Q kk => by
    obtain ⟨h1, h2⟩ := w.own _ (List.mem_of_getElem? hj)
    have nd : (p :: ps).Nodup := as_nd1 w.nd hj
    have hrow : C q = some (.lst (row.map V.int)) := h2.row hq hr
    have np : q ≠ p := fun e => (List.nodup_cons.mp nd).1 (by rw [← e]; exact List.mem_of_getElem? hq)
    obtain rfl := (show vt = .int y from at_)
    refine ⟨_, set_list, q, _, k, m, ax, ay, ov_C hrow, by rw [hk]; exact ixN_nat (by rw [List.length_map]; exact hm), ?_⟩
    rw [ov_updC]
    refine kk _ S _ (Same.refl S) (w.change (w' := oGrid p ps (rows.set n (row.set m y))) hj rfl (fun a ha => upd_ne fun e => ha (by rw [e]; exact List.mem_cons_of_mem _ (List.mem_of_getElem? hq))) ⟨?_, ?_⟩ fun a ha => w.dis a (w.al (mem_foot.mpr ⟨_, List.mem_of_getElem? hj, ha⟩))) h
    · rw [upd_ne (Ne.symm np)]; exact h1
    · rw [← List.map_set]
      exact Rows.set (List.nodup_cons.mp nd).2 h2 hq⟩
/-- the grid frozen -/
theorem grid_frz {p : Addr} {ps : List Addr} {rows : List (List Int)} : ∀ S C, (oGrid p ps rows).at_ S C → (⟨tLst (tLst tInt), rows⟩ : Tv).at_ (inS S C (oGrid p ps rows).as) (.ref p) := fun S C ⟨h1, h2⟩ => by
  have hin : ∀ a ∈ p :: ps, inS S C (p :: ps) a = C a := fun a ha => if_pos ha
  refine ⟨p, ps.map V.ref, rfl, by rw [show (oGrid p ps rows).as = p :: ps from rfl, hin p (by simp)]; exact h1, ?_⟩
  exact Rows.at_ (h2.congr fun a ha => hin a (List.mem_cons_of_mem _ ha))
/-- a list of owned things, one a turn -/
theorem lc_ownR {Γ : G.Ctx} {gt : TG} {vs : List Nat} {scope : Scope} {elt : Expr} {n : Nat} {lo : Int} (w : Addr → Ow) (hl : n ≤ 1000000) {Γ2 : Int → G.Ctx} (htg : ∀ x : Int, TgOk gt vs (wipeG Γ vs) ⟨tInt, x⟩ (Γ2 x))
    (he : ∀ (i : Nat), i < n → ∀ s H c cl fp F S0 (O1 : List Ow) (P2 : PK'), (∀ q, P2 ⟨tRef, q⟩ (O1 ++ [w q])) → GE (gblk g scope s H c cl fp F S0) (Γ2 (lo + i)) O1 elt P2)
    (h : ∀ qs : List Addr, qs.length = n → ∀ p, P ⟨tRef, p⟩ ((O ++ qs.map w) ++ [oLst p tRef qs])) : LcI g Γ gt vs scope elt [] false P n (itR lo) O := by
  refine ⟨hl, Addr, tRef, fun i qs O' => qs.length = i ∧ O' = O ++ qs.map w, ⟨rfl, by simp⟩, ?_, ?_⟩
  · rintro i qs t O' hi rfl ⟨hq, rfl⟩
    refine ⟨_, htg _, fun b O2 => b = true ∧ O2 = O ++ qs.map w, fun s H c cl fp F S0 => gts_nil ⟨rfl, rfl⟩, ?_, fun O2 hq => nomatch hq.1⟩
    rintro O2 ⟨_, rfl⟩ s H c cl fp F S0
    exact he i hi s H c cl fp F S0 _ _ fun q => ⟨q, rfl, by rw [List.length_append, hq]; rfl, by rw [List.map_append, List.append_assoc]; rfl⟩
  · rintro qs O' _ ⟨hq, rfl⟩
    exact fun p => h qs hq p
theorem rows_of {S C : Hp} {m : Nat} : ∀ {qs : List Addr}, (∀ q ∈ qs, (oLst q tInt (List.replicate m (0 : Int))).at_ S C) → Rows C qs (List.replicate qs.length (List.replicate m 0))
  | [], _ => .nil
  | q :: qs, h => by
    obtain ⟨vs, h1, h2⟩ := h q (List.mem_cons_self ..)
    rw [ints_at h2] at h1
    exact .cons h1 (rows_of fun q' hq => h q' (List.mem_cons_of_mem _ hq))
theorem refs_at {S : Hp} : ∀ {vs : List V} {ps : List Addr}, AllAt tRef S vs ps → vs = ps.map V.ref
  | _, _, .nil => rfl
  | _, _, .cons r t => by rw [refs_at t]; exact congrArg (· :: _) r
/-- the rows and their list become a grid -/
theorem gss_grid {Γ : G.Ctx} {O0 : List Ow} {p : Addr} {qs : List Addr} {m : Nat} (h : GSs g Γ (O0 ++ [oGrid p qs (List.replicate qs.length (List.replicate m 0))]) ss R) : GSs g Γ ((O0 ++ qs.map fun q => oLst q tInt (List.replicate m (0 : Int))) ++ [oLst p tRef qs]) ss R := by
  refine gss_regroup h ?_ fun S C hat w hw => ?_
  · have e : ∀ l : List Addr, foot (l.map fun q => oLst q tInt (List.replicate m (0 : Int))) = l := fun l => by
      induction l with
      | nil => rfl
      | cons a l ih => exact congrArg (a :: ·) ih
    rw [foot_append, foot_append, foot_append, e]
    have e1 : foot [oLst p tRef qs] = [p] := rfl
    have e2 : foot [oGrid p qs (List.replicate qs.length (List.replicate m 0))] = p :: qs := List.append_nil _
    rw [e1, e2, List.append_assoc]
    exact List.Perm.append_left _ (List.perm_append_singleton _ _)
  · rcases List.mem_append.mp hw with hw | hw
    · exact hat w (List.mem_append_left _ (List.mem_append_left _ hw))
    · obtain rfl := List.mem_singleton.mp hw
      obtain ⟨vs, h1, h2⟩ := hat (oLst p tRef qs) (List.mem_append_right _ (List.mem_singleton.mpr rfl))
      rw [refs_at h2] at h1
      exact ⟨h1, rows_of fun q hq => hat _ (List.mem_append_left _ (List.mem_append_right _ (List.mem_map_of_mem hq)))⟩
/-! ### grids of 0 and 1 -/
def bit (b : Bool) : Int := if b then 1 else 0
def gridOf (n : Nat) (f : Nat → Nat → Bool) : List (List Int) := (List.range n).map fun i => (List.range n).map fun j => bit (f i j)
def updf (f : Nat → Nat → Bool) (i m : Nat) (b : Bool) : Nat → Nat → Bool := fun a c => if a = i ∧ c = m then b else f a c
theorem gridOf_zero (n : Nat) : List.replicate n (List.replicate n (0 : Int)) = gridOf n fun _ _ => false := by
  unfold gridOf
  have e : ∀ {β : Type} (y : β), (List.range n).map (fun _ => y) = List.replicate n y := fun {β} y => by rw [List.map_const', List.length_range]
  show _ = (List.range n).map fun _ => (List.range n).map fun _ => (0 : Int)
  rw [e, e]
theorem gridOf_row {n i : Nat} {f : Nat → Nat → Bool} (hi : i < n) : (gridOf n f)[i]? = some ((List.range n).map fun j => bit (f i j)) := by
  unfold gridOf
  rw [List.getElem?_map, List.getElem?_range hi]
  rfl
theorem gridOf_set {n i m : Nat} {f : Nat → Nat → Bool} {b : Bool} (hi : i < n) (hm : m < n) : (gridOf n f).set i (((List.range n).map fun j => bit (f i j)).set m (bit b)) = gridOf n (updf f i m b) := by
  unfold gridOf
  refine List.ext_getElem (by simp) fun k h1 h2 => ?_
  rw [List.getElem_set]
  have hk : k < n := by simpa using h2
  by_cases e : i = k
  · subst e
    rw [if_pos rfl, List.getElem_map, List.getElem_range]
    refine List.ext_getElem (by simp) fun l h3 h4 => ?_
    have hl : l < n := by simpa using h4
    rw [List.getElem_set, List.getElem_map, List.getElem_range, List.getElem_map, List.getElem_range]
    by_cases e2 : m = l
    · subst e2; simp [updf]
    · rw [if_neg e2]; simp [updf, Ne.symm e2]
  · rw [if_neg e, List.getElem_map, List.getElem_range, List.getElem_map, List.getElem_range]
    refine List.map_congr_left fun l _ => ?_
    simp [updf, Ne.symm e]
theorem gset_g {p q : Addr} {ps : List Addr} {n : Nat} {f : Nat → Nat → Bool} {k y : Int} {PO' : List Ow → Prop} (j i m : Nat) (b : Bool) (hj : O[j]? = some (oGrid p ps (gridOf n f))) (hi : i < n) (hm : m < n) (hq : ps[i]? = some q) (hk : k = (m : Int)) (hy : y = bit b)
    (h : PO' (O.set j (oGrid p ps (gridOf n (updf f i m b))))) : GSet g O ⟨tRef, q⟩ ⟨tInt, k⟩ ⟨tInt, y⟩ PO' :=
  gset_grid j i m hj hq (gridOf_row hi) hk (by simpa using hm) (by rw [hy, gridOf_set hi hm]; exact h)
/-- the grid is frozen with the answer -/
theorem ge_frzG (j : Nat) {Γ : G.Ctx} {e : Expr} {p : Addr} {ps : List Addr} {rows : List (List Int)} (h : GE g Γ O e fun t O' => t = ⟨tRef, p⟩ ∧ O'[j]? = some (oGrid p ps rows) ∧ P ⟨tLst (tLst tInt), rows⟩ (O'.eraseIdx j)) : GE g Γ O e P :=
  ⟨fun ok σ S C n Q k => h.run ok σ S C n Q fun t O' v S' C' s' w' a ⟨et, hj, hp⟩ => by
    subst et
    obtain rfl := (show v = .ref p from a)
    obtain ⟨w2, sm⟩ := w'.freezeAll hj
    have hw := w'.own _ (List.mem_of_getElem? hj)
    rw [← ov_inS S' C' _ fun a ha => (oGrid p ps rows).al hw a ha]
    exact k _ _ _ _ _ (s'.trans sm) w2 (grid_frz S' C' hw) hp⟩
/-- .. a list -/
theorem ge_frzL (j : Nat) {Γ : G.Ctx} {e : Expr} {p : Addr} {α : Type} {T : Ty α} {xs : List α} (h : GE g Γ O e fun t O' => t = ⟨tRef, p⟩ ∧ O'[j]? = some (oLst p T xs) ∧ P ⟨tLst T, xs⟩ (O'.eraseIdx j)) : GE g Γ O e P :=
  ⟨fun ok σ S C n Q k => h.run ok σ S C n Q fun t O' v S' C' s' w' a ⟨et, hj, hp⟩ => by
    subst et
    obtain rfl := (show v = .ref p from a)
    obtain ⟨vs, h1, h2⟩ := w'.own _ (List.mem_of_getElem? hj)
    obtain ⟨w2, sm⟩ := w'.freeze (o := .lst vs) hj rfl
    rw [← ov_freeze h1]
    exact k ⟨tLst T, xs⟩ _ (.ref p) _ _ (s'.trans sm) w2 ⟨p, vs, rfl, upd_same, h2.mono sm⟩ hp⟩
end
end G
end
section
/-! N1: names; sorted lists of texts; symmetric differences. -/
namespace Law
open PySem L2 G
/-- a..z -/
def letters : Str := "abcdefghijklmnopqrstuvwxyz"
def isName (s : Str) : Bool := decide (1 ≤ s.cps.size) && (decide (s.cps.size ≤ 8) && s.cps.toList.all fun c => decide (c ∈ letters.cps.toList))
theorem isName_small {s : Str} (h : isName s = true) : 1 ≤ s.cps.size ∧ s.cps.size ≤ 8 := by
  unfold isName at h
  simp only [Bool.and_eq_true, decide_eq_true_eq] at h
  exact ⟨h.1, h.2.1⟩
theorem letters_lt : ∀ c ∈ letters.cps.toList, c < 16 ^ 8 := by decide +kernel
theorem isName_good {s : Str} (h : isName s = true) : Good s := by
  unfold isName at h
  simp only [Bool.and_eq_true, decide_eq_true_eq, List.all_eq_true] at h
  exact fun c hc => letters_lt c (h.2.2 c hc)
/-! ### the drawn names -/
def ends : List (Str × Str) := [("", ""), ("", ""), ("ab", ""), ("", "zz"), ("q", "qrstuv")]
def letterS (j : Nat) : Str := ⟨#[97 + j]⟩
def mkName (p : Str × Str) (j : Nat) : Str := (p.1 ++ letterS j) ++ p.2
/-- the drawn letter of a name -/
def letterOf (s : Str) : Nat := match s.cps.toList with
  | [a] => a - 97
  | [a, b, c] => if b = 122 then a - 97 else c - 97
  | _ :: b :: _ => b - 97
  | [] => 0
theorem mk_all : ∀ p ∈ ends, ∀ j < 26, isName (mkName p j) = true ∧ letterOf (mkName p j) = j := by decide +kernel
theorem letters_at : ∀ j < 26, letters.cps.toList[j]? = some (97 + j) := by decide +kernel
theorem ends_short : ∀ p ∈ ends, p.1.length ≤ 2 ∧ p.2.length ≤ 6 := by decide +kernel
theorem yak_zed : isName "yak" = true ∧ isName "zed" = true ∧ (∀ p ∈ ends, ∀ j < 26, mkName p j ≠ "yak" ∧ mkName p j ≠ "zed") := by decide +kernel
/-! ### sorted lists of texts -/
theorem str_ext {a b : Str} (h : a.cps.toList = b.cps.toList) : a = b := by
  obtain ⟨⟨x⟩⟩ := a
  obtain ⟨⟨y⟩⟩ := b
  obtain rfl : x = y := h
  rfl
def leS (a b : Str) : Prop := a.cps.toList ≤ b.cps.toList
instance (a b : Str) : Decidable (leS a b) := inferInstanceAs (Decidable (a.cps.toList ≤ b.cps.toList))
theorem leS_trans {a b c : Str} (h : leS a b) (k : leS b c) : leS a c := List.le_trans h k
theorem leS_anti {a b : Str} (h : leS a b) (k : leS b a) : a = b := str_ext (List.le_antisymm h k)
theorem leS_total (a b : Str) : leS a b ∨ leS b a := List.le_total _ _
theorem not_lt_leS {a b : Str} : (!PySem.Spec.ltCps b.cps.toList a.cps.toList) = true ↔ leS a b := by
  rw [PyProof.Rows.ltCps_eq]
  simp [leS, List.not_lt]
theorem rising_iff : ∀ {xs : List Str} {p : Str}, PyProof.Rows.risingS p xs = true ↔ (p :: xs).Pairwise leS
  | [], p => by simp [PyProof.Rows.risingS]
  | x :: r, p => by
    unfold PyProof.Rows.risingS
    rw [Bool.and_eq_true, not_lt_leS, rising_iff]
    constructor
    · rintro ⟨h1, h2⟩
      refine List.pairwise_cons.mpr ⟨fun y hy => ?_, h2⟩
      rcases List.mem_cons.mp hy with e | hy
      · rw [e]; exact h1
      · exact leS_trans h1 ((List.pairwise_cons.mp h2).1 y hy)
    · intro h
      obtain ⟨h1, h2⟩ := List.pairwise_cons.mp h
      exact ⟨h1 x (List.mem_cons_self ..), h2⟩
theorem sortedS_iff {xs : List Str} : PyProof.Rows.sortedS xs = true ↔ xs.Pairwise leS := by
  cases xs with
  | nil => simp [PyProof.Rows.sortedS]
  | cons x r => exact rising_iff
theorem sorted_unique : ∀ {xs ys : List Str}, xs.Perm ys → xs.Pairwise leS → ys.Pairwise leS → xs = ys
  | [], ys, p, _, _ => by rw [List.Perm.nil_eq p]
  | x :: xs, [], p, _, _ => by have := p.length_eq; simp at this
  | x :: xs, y :: ys, p, hx, hy => by
    obtain ⟨hx1, hx2⟩ := List.pairwise_cons.mp hx
    obtain ⟨hy1, hy2⟩ := List.pairwise_cons.mp hy
    have e : x = y := by
      have m1 : x ∈ y :: ys := p.mem_iff.mp (List.mem_cons_self ..)
      have m2 : y ∈ x :: xs := p.mem_iff.mpr (List.mem_cons_self ..)
      rcases List.mem_cons.mp m1 with e | m1
      · exact e
      · rcases List.mem_cons.mp m2 with e | m2
        · exact e.symm
        · exact leS_anti (hx1 y m2) (hy1 x m1)
    subst e
    rw [sorted_unique (List.perm_cons x |>.mp p) hx2 hy2]
def srt (xs : List Str) : List Str := xs.mergeSort fun a b => decide (leS a b)
theorem srt_perm (xs : List Str) : (srt xs).Perm xs := List.mergeSort_perm _ _
theorem srt_sorted (xs : List Str) : (srt xs).Pairwise leS := by
  have := List.pairwise_mergeSort (le := fun a b => decide (leS a b)) (fun a b c h k => decide_eq_true (leS_trans (of_decide_eq_true h) (of_decide_eq_true k))) (fun a b => by
    rcases leS_total a b with h | h
    · simp [h]
    · simp [h]) xs
  exact this.imp fun h => of_decide_eq_true h
theorem srt_eq {xs ys : List Str} (p : ys.Perm xs) (h : PyProof.Rows.sortedS ys = true) : ys = srt xs := sorted_unique (p.trans (srt_perm xs).symm) (sortedS_iff.mp h) (srt_sorted xs)
theorem srt_id {xs : List Str} (h : xs.Pairwise leS) : srt xs = xs := sorted_unique (srt_perm xs) (srt_sorted xs) h
theorem srt_mem {xs : List Str} {x : Str} : x ∈ srt xs ↔ x ∈ xs := (srt_perm xs).mem_iff
/-! ### the symmetric difference -/
def symd (xs ys : List Str) : List Str := xs.filter (fun n => !decide (n ∈ ys)) ++ ys.filter fun n => !decide (n ∈ xs)
theorem symd_mem {xs ys : List Str} {n : Str} : n ∈ symd xs ys ↔ ¬ (n ∈ xs ↔ n ∈ ys) := by
  unfold symd
  rw [List.mem_append, List.mem_filter, List.mem_filter]
  by_cases h1 : n ∈ xs <;> by_cases h2 : n ∈ ys <;> simp [h1, h2]
theorem symd_nodup {xs ys : List Str} (h1 : xs.Nodup) (h2 : ys.Nodup) : (symd xs ys).Nodup := by
  unfold symd
  refine List.nodup_append.mpr ⟨h1.filter _, h2.filter _, fun a ha b hb e => ?_⟩
  subst e
  rw [List.mem_filter] at ha hb
  simp only [Bool.not_eq_true', decide_eq_false_iff_not] at ha hb
  exact hb.2 ha.1
/-- a set of names: sorted, each once -/
structure SetOk (xs : List Str) : Prop where
  nd : xs.Nodup
  so : xs.Pairwise leS
theorem set_ext {xs ys : List Str} (h1 : SetOk xs) (h2 : SetOk ys) (h : ∀ n, n ∈ xs ↔ n ∈ ys) : xs = ys :=
  sorted_unique ((List.perm_ext_iff_of_nodup h1.nd h2.nd).mpr h) h1.so h2.so
def add (xs ys : List Str) : List Str := srt (symd xs ys)
theorem add_mem {xs ys : List Str} {n : Str} : n ∈ add xs ys ↔ ¬ (n ∈ xs ↔ n ∈ ys) := by rw [add, srt_mem, symd_mem]
theorem add_nodup {xs ys : List Str} (h1 : xs.Nodup) (h2 : ys.Nodup) : (add xs ys).Nodup := (srt_perm _).nodup_iff.mpr (symd_nodup h1 h2)
theorem add_ok {xs ys : List Str} (h1 : xs.Nodup) (h2 : ys.Nodup) : SetOk (add xs ys) := ⟨add_nodup h1 h2, srt_sorted _⟩
theorem setOk_nil : SetOk [] := ⟨List.nodup_nil, List.Pairwise.nil⟩
end Law
end
section
/-! S1: isinstance; scores as data. -/
namespace G
open PySem L2
/-! ### isinstance of built-in classes -/
def tTy : Ty String := ⟨fun _ v n => v = .ty n, fun _ h => h⟩
def TyT (K : PySem.W.Frag) (O : List Ow) (t : Tv) (n : String) : Prop := ∀ S C F v, Wd S C F O → t.at_ S v → TyX K (ov S C) v (.type n)
section
variable {K : PySem.W.Frag} {O : List Ow} {α β γ : Type} {T : Ty α} {U : Ty β} {W : Ty γ}
theorem tyX_t {H : Hp} {a : Addr} {xs : List V} (h : SqT K H a xs) : TyX K H (.ref a) (.type "tuple") := by
  rcases h with (h | ⟨o, h⟩) | ⟨o, _, _, h1, h2, _⟩
  · exact .base (.tup h)
  · exact .fTuple h
  · exact .kTuple h1 h2
theorem ty_int {x : Int} : TyT K O ⟨tInt, x⟩ "int" := fun S C F v w h => by obtain rfl := (show v = .int x from h); exact .base (.int x)
theorem ty_bool {x : Bool} : TyT K O ⟨tBool, x⟩ "bool" := fun S C F v w h => by obtain rfl := (show v = .bl x from h); exact .base (.bl x)
theorem ty_str {x : Str} : TyT K O ⟨tStr, x⟩ "str" := fun S C F v w h => by obtain rfl := (show v = .str x from h); exact .base (.str x)
theorem ty_tup {x : List α} : TyT K O ⟨tTup K T, x⟩ "tuple" := fun S C F v w ⟨a, vs, e, h, _⟩ => by subst e; exact tyX_t (same_t w.sameS h)
theorem ty_pr {x : α × β} : TyT K O ⟨tPr K T U, x⟩ "tuple" := fun S C F v w ⟨a, v1, v2, e, h, _⟩ => by subst e; exact tyX_t (same_t w.sameS h)
theorem ty_tr {x : α × β × γ} : TyT K O ⟨tTr K T U W, x⟩ "tuple" := fun S C F v w ⟨a, v1, v2, v3, e, h, _⟩ => by subst e; exact tyX_t (same_t w.sameS h)
theorem ty_lst {x : List α} : TyT K O ⟨tLst T, x⟩ "list" := fun S C F v w ⟨a, vs, e, h, _⟩ => by subst e; exact .base (.lst (w.sameS _ _ h))
theorem ty_hv {t : Tv} {ts : List Tv} (h : TupV K t ts) : TyT K O t "tuple" := fun S C F v w a => by
  obtain ⟨p, vs, e, h1, _⟩ := h.at_ S v a
  subst e; exact tyX_t (same_t w.sameS h1)
end
section
variable {g : Gc} {Γ : G.Ctx} {O : List Ow} {P : PK'} {pos : Pos} {x : Str}
theorem ge_ty {n : String} (hm : g.X.mg x = none) (h : P ⟨tTy, n⟩ O) (hv : bootBuiltins x = some (.type n) := by decide +kernel) (hg : Gl g.X x := by rfl) (hn : x ≠ "__name__" := by decide) (hd : (x == ("__debug__" : Str)) = false := by decide) : GE g Γ O (.Name x pos) P :=
  ⟨fun _ σ S C nw Q k => ⟨_, pe_bltn hg hm hv (v := .ty n) rfl hn hd, k.ret (t := ⟨tTy, n⟩) nw.wd rfl h⟩⟩
theorem gb_isi {t : Tv} {n c : String} {b : Bool} (hty : TyT g.X.K O t n) (e : PySem.W.kitOne g.X.K (.type n) (.type c) = some b) (h : P ⟨tBool, b⟩ O) : GB g O (.builtin "isinstance") [t, ⟨tTy, c⟩] P :=
  gb_of (t := ⟨tBool, b⟩) call_isi h fun S C w vs a => by
    obtain ⟨v, u, rfl, av, au⟩ := args2 a
    obtain rfl := (show u = .ty c from au)
    exact ⟨_, rfl, fun Q q => ⟨v, .ty c, _, _, b, rfl, .ty c, hty S C g.F v w av, e, q⟩⟩
theorem kit_same {K : PySem.W.Frag} {n : String} : PySem.W.kitOne K (.type n) (.type n) = some true := by
  unfold PySem.W.kitOne
  rw [if_pos (beq_self_eq_true _)]
theorem kit_int_bool {K : PySem.W.Frag} : PySem.W.kitOne K (.type "int") (.type "bool") = some false := by with_unfolding_all rfl
end
section
variable {g : Gc} {Γ : G.Ctx} {O : List Ow} {P : PK'}
theorem iteFb {d : Bool} {A B : Prop} (hd : d = false) (h : B) : if d = true then A else B := by subst hd; exact iteF h
theorem iteTb {d : Bool} {A B : Prop} (hd : d = true) (h : A) : if d = true then A else B := by subst hd; exact iteT h
theorem gix_getD {α : Type} {T : Ty α} {xs : List α} {t : Tv} {i : Int} (n : Nat) (d : α) (hv : SV g.X.K O t T xs) (hi : i = (n : Int)) (hn : n < xs.length) (h : P ⟨T, xs[n]?.getD d⟩ O) : GIx g O t ⟨tInt, i⟩ P :=
  gix_seq n hv hi (y := xs[n]?.getD d) (by rw [List.getElem?_eq_getElem hn]; rfl) h
theorem lc_mapS {β : Type} {U : Ty β} {z : Str} {gt : TG} {vs : List Nat} {scope : Scope} {elt : Expr} {fz : Bool} (f : Nat → β) (hl : z.cps.size ≤ 1000000) {Γ2 : Nat → G.Ctx} (htg : ∀ c : Nat, TgOk gt vs (wipeG Γ vs) ⟨tStr, ⟨#[c]⟩⟩ (Γ2 c))
    (he : ∀ (i : Nat) (c : Nat), z.cps.toList[i]? = some c → ∀ s H cc cl fp F S0 (P2 : PK'), P2 ⟨U, f c⟩ O → GE (gblk g scope s H cc cl fp F S0) (Γ2 c) O elt P2) (h : FzIs fz P U (z.cps.toList.map f) O) : LcI g Γ gt vs scope elt [] fz P z.cps.size (itS z) O := by
  refine ⟨hl, β, U, fun i acc O' => acc = (z.cps.toList.take i).map f ∧ O' = O, ⟨rfl, rfl⟩, ?_, ?_⟩
  · rintro i acc t O' hi ⟨x, hx, rfl⟩ ⟨rfl, rfl⟩
    have hx : z.cps.toList[i]? = some x := by rw [Array.getElem?_toList]; exact hx
    refine ⟨_, htg x, fun b O2 => b = true ∧ O2 = O', fun s H c cl fp F S0 => gts_nil ⟨rfl, rfl⟩, ?_, fun O2 hq => nomatch hq.1⟩
    rintro O2 ⟨_, rfl⟩ s H c cl fp F S0
    exact he i x hx s H c cl fp F S0 _ ⟨f x, rfl, by rw [take_succ_map (β := β) hx, List.map_append]; rfl, rfl⟩
  · rintro acc O' _ ⟨rfl, rfl⟩
    rw [show z.cps.size = z.cps.toList.length from (Array.length_toList).symm, List.take_length]
    exact h
end
end G
namespace Law
open PySem L2 G
/-! ### scores -/
inductive Sc where
  | nil
  | cross (ns : List Str) (r : Sc)
  | times (n : Int) (i r : Sc)
inductive Stp where
  | cross (ns : List Str)
  | times (n : Int) (i : Sc)
def Sc.steps : Sc → List Stp
  | .nil => []
  | .cross ns r => .cross ns :: r.steps
  | .times n i r => .times n i :: r.steps
def scOf : List Stp → Sc
  | [] => .nil
  | .cross ns :: r => .cross ns (scOf r)
  | .times n i :: r => .times n i (scOf r)
theorem steps_of : ∀ xs : List Stp, (scOf xs).steps = xs
  | [] => rfl
  | .cross ns :: r => by rw [scOf, Sc.steps, steps_of r]
  | .times n i :: r => by rw [scOf, Sc.steps, steps_of r]
def Sc.at_ (K : PySem.W.Frag) (S : Hp) : Sc → List V → Prop
  | .nil, vs => vs = []
  | .cross ns r, vs => ∃ a b vs', vs = .ref a :: vs' ∧ SqT K S a [.str "cross", .ref b] ∧ (tTup K tStr).at_ S (.ref b) ns ∧ r.at_ K S vs'
  | .times n i r, vs => ∃ a b ws vs', vs = .ref a :: vs' ∧ SqT K S a [.str "times", .int n, .ref b] ∧ SqT K S b ws ∧ i.at_ K S ws ∧ r.at_ K S vs'
theorem Sc.mono {K : PySem.W.Frag} {S S' : Hp} (s : Same S S') : ∀ {sc : Sc} {vs : List V}, sc.at_ K S vs → sc.at_ K S' vs
  | .nil, _, h => h
  | .cross ns r, _, ⟨a, b, vs', e, h1, h2, h3⟩ => ⟨a, b, vs', e, same_t s h1, (tTup K tStr).mono s h2, Sc.mono s h3⟩
  | .times n i r, _, ⟨a, b, ws, vs', e, h1, h2, h3, h4⟩ => ⟨a, b, ws, vs', e, same_t s h1, same_t s h2, Sc.mono s h3, Sc.mono s h4⟩
def Stp.at_ (K : PySem.W.Frag) (S : Hp) (v : V) : Stp → Prop
  | .cross ns => ∃ a b, v = .ref a ∧ SqT K S a [.str "cross", .ref b] ∧ (tTup K tStr).at_ S (.ref b) ns
  | .times n i => ∃ a b ws, v = .ref a ∧ SqT K S a [.str "times", .int n, .ref b] ∧ SqT K S b ws ∧ i.at_ K S ws
def tStp (K : PySem.W.Frag) : Ty Stp := ⟨fun S v x => Stp.at_ K S v x, fun {S S' v x} s h => by
  cases x with
  | cross ns => obtain ⟨a, b, e, h1, h2⟩ := h; exact ⟨a, b, e, same_t s h1, (tTup K tStr).mono s h2⟩
  | times n i => obtain ⟨a, b, ws, e, h1, h2, h3⟩ := h; exact ⟨a, b, ws, e, same_t s h1, same_t s h2, Sc.mono s h3⟩⟩
theorem sc_all {K : PySem.W.Frag} {S : Hp} : ∀ {sc : Sc} {vs : List V}, sc.at_ K S vs → AllAt (tStp K) S vs sc.steps
  | .nil, _, h => by rw [show _ = [] from h]; exact .nil
  | .cross ns r, _, ⟨a, b, vs', e, h1, h2, h3⟩ => by rw [e]; exact .cons ⟨a, b, rfl, h1, h2⟩ (sc_all h3)
  | .times n i r, _, ⟨a, b, ws, vs', e, h1, h2, h3, h4⟩ => by rw [e]; exact .cons ⟨a, b, ws, rfl, h1, h2, h3⟩ (sc_all h4)
theorem all_sc {K : PySem.W.Frag} {S : Hp} : ∀ {sc : Sc} {vs : List V}, AllAt (tStp K) S vs sc.steps → sc.at_ K S vs
  | .nil, _, h => by cases h; rfl
  | .cross ns r, _, h => by
    cases h with
    | cons q t => obtain ⟨a, b, e, h1, h2⟩ := q; exact ⟨a, b, _, by rw [e], h1, h2, all_sc t⟩
  | .times n i r, _, h => by
    cases h with
    | cons q t => obtain ⟨a, b, ws, e, h1, h2, h3⟩ := q; exact ⟨a, b, ws, _, by rw [e], h1, h2, h3, all_sc t⟩
/-- a score as a typed value -/
abbrev tvSc (K : PySem.W.Frag) (sc : Sc) : Tv := ⟨tTup K (tStp K), sc.steps⟩
def Stp.tag : Stp → Str
  | .cross _ => "cross"
  | .times _ _ => "times"
theorem tv_cross {K : PySem.W.Frag} {x : Stp} {ns : List Str} (e : x = .cross ns) : TupV K ⟨tStp K, x⟩ [⟨tStr, "cross"⟩, ⟨tTup K tStr, ns⟩] := ⟨fun S v h => by
  subst e
  obtain ⟨a, b, e, h1, h2⟩ := h
  exact ⟨a, _, e, h1, .cons rfl (.cons h2 .nil)⟩⟩
theorem tv_times {K : PySem.W.Frag} {x : Stp} {n : Int} {i : Sc} (e : x = .times n i) : TupV K ⟨tStp K, x⟩ [⟨tStr, "times"⟩, ⟨tInt, n⟩, tvSc K i] := ⟨fun S v h => by
  subst e
  obtain ⟨a, b, ws, e, h1, h2, h3⟩ := h
  exact ⟨a, _, e, h1, .cons rfl (.cons rfl (.cons ⟨b, ws, rfl, h2, sc_all h3⟩ .nil))⟩⟩
theorem tup_cross {K : PySem.W.Frag} {ns : List Str} : TupIs K [⟨tStr, "cross"⟩, ⟨tTup K tStr, ns⟩] ⟨tStp K, .cross ns⟩ := fun S a vs h1 h2 => by
  cases h2 with
  | cons r1 t1 => cases t1 with
    | cons r2 t2 =>
      cases t2
      obtain rfl := (show _ = V.str "cross" from r1)
      obtain ⟨b, ws, e, k1, k2⟩ := id r2
      subst e
      exact ⟨a, b, rfl, h1, b, ws, rfl, k1, k2⟩
theorem tup_times {K : PySem.W.Frag} {n : Int} {i : Sc} : TupIs K [⟨tStr, "times"⟩, ⟨tInt, n⟩, tvSc K i] ⟨tStp K, .times n i⟩ := fun S a vs h1 h2 => by
  cases h2 with
  | cons r1 t1 => cases t1 with
    | cons r2 t2 => cases t2 with
      | cons r3 t3 =>
        cases t3
        obtain rfl := (show _ = V.str "times" from r1)
        obtain rfl := (show _ = V.int n from r2)
        obtain ⟨b, ws, e, k1, k2⟩ := id r3
        subst e
        exact ⟨a, b, ws, rfl, h1, k1, all_sc k2⟩
/-- step[0] -/
theorem gix_tag {g : Gc} {O : List Ow} {P : PK'} {x : Stp} (h : P ⟨tStr, x.tag⟩ O) : GIx g O ⟨tStp g.X.K, x⟩ ⟨tInt, 0⟩ P := by
  cases x with
  | cross ns => exact gix_het 0 (hv_tup (tv_cross rfl)) h
  | times n i => exact gix_het 0 (hv_tup (tv_times rfl)) h
theorem tg_tc : decide (("times" : Str) = "cross") = false := by decide +kernel
theorem tg_cc : decide (("cross" : Str) = "cross") = true := by decide +kernel
theorem tagB {x : Stp} {A B : Prop} (h1 : ∀ ns, x = .cross ns → A) (h2 : ∀ n i, x = .times n i → B) : if decide (x.tag = "cross") = true then A else B := by
  cases x with
  | cross ns => exact iteT (h1 ns rfl)
  | times n i =>
    show if decide (("times" : Str) = "cross") = true then A else B
    rw [tg_tc]; exact iteF (h2 n i rfl)
theorem tag_cross {x : Stp} (h : decide (x.tag = "cross") = true) : ∃ ns, x = .cross ns := by
  cases x with
  | cross ns => exact ⟨ns, rfl⟩
  | times n i => have h : decide (("times" : Str) = "cross") = true := h; rw [tg_tc] at h; cases h
theorem tag_times {x : Stp} (h : decide (x.tag = "cross") = false) : ∃ n i, x = .times n i := by
  cases x with
  | cross ns => have h : decide (("cross" : Str) = "cross") = false := h; rw [tg_cc] at h; cases h
  | times n i => exact ⟨n, i, rfl⟩
/-! ### what scores are worth -/
def tot : Sc → Int
  | .nil => 0
  | .cross _ r => 1 + tot r
  | .times n i r => n * tot i + tot r
def cnt : Stp → Int
  | .cross _ => 1
  | .times n i => n * tot i
theorem tot_sum : ∀ sc : Sc, tot sc = (sc.steps.map cnt).sum
  | .nil => rfl
  | .cross ns r => by rw [tot, tot_sum r, Sc.steps, List.map_cons, List.sum_cons, cnt]
  | .times n i r => by rw [tot, tot_sum r, Sc.steps, List.map_cons, List.sum_cons, cnt]
def oddF : Sc → List Str → List Str
  | .nil, acc => acc
  | .cross ns r, acc => oddF r (add acc ns)
  | .times n i r, acc => oddF r (if n % 2 = 1 then add acc (oddF i []) else acc)
abbrev odd (sc : Sc) : List Str := oddF sc []
def addStp (acc : List Str) : Stp → List Str
  | .cross ns => add acc ns
  | .times n i => if n % 2 = 1 then add acc (odd i) else acc
theorem oddF_fold : ∀ (sc : Sc) (acc : List Str), oddF sc acc = sc.steps.foldl addStp acc
  | .nil, _ => rfl
  | .cross ns r, acc => by rw [oddF, oddF_fold r, Sc.steps, List.foldl_cons, addStp]
  | .times n i r, acc => by rw [oddF, oddF_fold r, Sc.steps, List.foldl_cons, addStp]
def dep : Sc → Nat
  | .nil => 0
  | .cross _ r => dep r
  | .times _ i r => max (dep i + 1) (dep r)
def depS : Stp → Nat
  | .cross _ => 0
  | .times _ i => dep i + 1
theorem dep_mem : ∀ {sc : Sc} {x : Stp}, x ∈ sc.steps → depS x ≤ dep sc
  | .nil, _, h => nomatch h
  | .cross ns r, x, h => by
    rcases List.mem_cons.mp h with e | h
    · rw [e]; exact Nat.zero_le _
    · exact dep_mem (sc := r) h
  | .times n i r, x, h => by
    rcases List.mem_cons.mp h with e | h
    · rw [e]; exact Nat.le_max_left _ _
    · exact Nat.le_trans (dep_mem (sc := r) h) (Nat.le_max_right _ _)
/-- a crossing of the pool -/
structure CrOk (p : List Str) (ns : List Str) : Prop where
  sub : ∀ n ∈ ns, n ∈ p
  nd : ns.Nodup
  l1 : 1 ≤ ns.length
  l2 : ns.length ≤ 2
/-- a score of the pool -/
def Sc.Ok (p : List Str) : Sc → Prop
  | .nil => True
  | .cross ns r => CrOk p ns ∧ r.Ok p
  | .times n i r => (0 ≤ n ∧ n ≤ 1000000000000000000) ∧ (i.Ok p ∧ 1 ≤ i.steps.length ∧ i.steps.length ≤ 40) ∧ r.Ok p
def Stp.Ok (p : List Str) : Stp → Prop
  | .cross ns => CrOk p ns
  | .times n i => (0 ≤ n ∧ n ≤ 1000000000000000000) ∧ i.Ok p ∧ 1 ≤ i.steps.length ∧ i.steps.length ≤ 40
theorem ok_mem {p : List Str} : ∀ {sc : Sc}, sc.Ok p ↔ ∀ x ∈ sc.steps, x.Ok p
  | .nil => ⟨fun _ _ h => (nomatch h), fun _ => trivial⟩
  | .cross ns r => by
    rw [Sc.Ok, Sc.steps, List.forall_mem_cons, ok_mem (sc := r)]
    exact Iff.rfl
  | .times n i r => by
    rw [Sc.Ok, Sc.steps, List.forall_mem_cons, ok_mem (sc := r)]
    exact ⟨fun ⟨h1, h2, h3⟩ => ⟨⟨h1, h2⟩, h3⟩, fun ⟨⟨h1, h2⟩, h3⟩ => ⟨h1, h2, h3⟩⟩
end Law
end
section
/-! S2: what scores are worth, plainly. -/
namespace G
open PySem L2
section
variable {g : Gc} {Γ : G.Ctx} {O : List Ow} {P : PK'}
theorem gop_catO {x y : Tv} {α : Type} {T : Ty α} {xs ys : List α} (hx : SL O x T xs) (hy : SL O y T ys) (hz : xs.length + ys.length ≤ sizeLine) (h : ∀ q, P ⟨tRef, q⟩ (O ++ [oLst q T (xs ++ ys)])) : GOp g O (binaryOp .Add) x y P :=
  ⟨fun _ S C sm w vx vy ax ay Q k => by
    obtain ⟨p, ws, e1, h1, h2⟩ := hx S C g.F vx w ax
    obtain ⟨q, us, e2, h3, h4⟩ := hy S C g.F vy w ay
    exact ⟨_, op_cat, p, q, ws, us, e1, e2, h1, h3, by rw [h2.length, h4.length]; exact hz, new_lstO w k (h2.append h4) h⟩⟩
theorem gop_catT {α : Type} {T : Ty α} {xs ys : List α} (hne : xs ≠ []) (hz : xs.length + ys.length ≤ sizeLine) (h : P ⟨tTup g.X.K T, xs ++ ys⟩ O) : GOp g O (binaryOp .Add) ⟨tTup g.X.K T, xs⟩ ⟨tTup g.X.K T, ys⟩ P :=
  ⟨fun _ S C sm w vx vy ax ay Q k => by
    obtain ⟨p, ws, e1, h1, h2⟩ := ax
    obtain ⟨q, us, e2, h3, h4⟩ := ay
    have l2 := h2.length
    have l4 := h4.length
    refine ⟨_, op_catT, p, q, ws, us, e1, e2, same_t w.sameS h1, same_t w.sameS h3, fun e => hne (List.eq_nil_of_length_eq_zero (by rw [← l2, e]; rfl)), by rw [l2, l4]; exact hz, fun e => ?_, fun _ => new_tup w k (h2.append h4) h⟩
    have ey : ys = [] := List.eq_nil_of_length_eq_zero (by rw [← l4, e]; rfl)
    subst ey
    rw [List.append_nil] at h
    exact k.ret (t := ⟨tTup g.X.K T, xs⟩) w ⟨p, ws, rfl, h1, h2⟩ h⟩
end
end G
namespace Law
open PySem L2 G
theorem len_sub : ∀ {xs p : List Str}, xs.Nodup → (∀ n ∈ xs, n ∈ p) → xs.length ≤ p.length
  | [], _, _, _ => Nat.zero_le _
  | x :: xs, p, nd, h => by
    have hx := h x (List.mem_cons_self ..)
    have nd' := List.nodup_cons.mp nd
    have := len_sub (xs := xs) (p := p.erase x) nd'.2 fun n hn => (List.mem_erase_of_ne fun e => nd'.1 (by rw [e] at hn; exact hn)).mpr (h n (List.mem_cons_of_mem _ hn))
    rw [List.length_erase_of_mem hx] at this
    have h0 : 0 < p.length := List.length_pos_of_mem hx
    rw [List.length_cons]; omega
/-- a set of names of the pool -/
structure Sub (p xs : List Str) : Prop where
  ok : SetOk xs
  sub : ∀ n ∈ xs, n ∈ p
theorem Sub.len {p xs : List Str} (h : Sub p xs) : xs.length ≤ p.length := len_sub h.ok.nd h.sub
theorem sub_nil {p : List Str} : Sub p [] := ⟨setOk_nil, fun _ h => nomatch h⟩
theorem sub_add {p xs ys : List Str} (h1 : Sub p xs) (h2 : ys.Nodup) (h3 : ∀ n ∈ ys, n ∈ p) : Sub p (add xs ys) := ⟨add_ok h1.ok.nd h2, fun n hn => by
  rw [add_mem] at hn
  by_cases a : n ∈ xs
  · exact h1.sub n a
  · by_cases b : n ∈ ys
    · exact h3 n b
    · exact absurd ⟨fun z => absurd z a, fun z => absurd z b⟩ hn⟩
theorem sub_odd {p : List Str} : ∀ (sc : Sc) (acc : List Str), sc.Ok p → Sub p acc → Sub p (oddF sc acc)
  | .nil, acc, _, h => h
  | .cross ns r, acc, ⟨h1, h2⟩, h => sub_odd r _ h2 (sub_add h h1.nd h1.sub)
  | .times n i r, acc, ⟨h1, h2, h3⟩, h => by
    rw [oddF]
    refine sub_odd r _ h3 ?_
    have hi := sub_odd i [] h2.1 sub_nil
    split
    · exact sub_add h hi.ok.nd hi.sub
    · exact h
theorem sub_stp {p acc : List Str} {x : Stp} (hx : x.Ok p) (h : Sub p acc) : Sub p (addStp acc x) := by
  cases x with
  | cross ns => exact sub_add h hx.nd hx.sub
  | times n i =>
    rw [addStp]
    have hi := sub_odd i [] hx.2.1 sub_nil
    split
    · exact sub_add h hi.ok.nd hi.sub
    · exact h
theorem sub_fold {p : List Str} : ∀ {xs : List Stp} {acc : List Str}, (∀ x ∈ xs, x.Ok p) → Sub p acc → Sub p (xs.foldl addStp acc)
  | [], _, _, h => h
  | x :: xs, acc, hx, h => sub_fold (xs := xs) (fun y hy => hx y (List.mem_cons_of_mem _ hy)) (sub_stp (hx x (List.mem_cons_self ..)) h)
theorem foldl_snoc {α β : Type} (f : β → α → β) (b : β) {xs : List α} {i : Nat} {x : α} (h : xs[i]? = some x) : (xs.take (i + 1)).foldl f b = f ((xs.take i).foldl f b) x := by
  rw [take_succ_map (β := β) h, List.foldl_append]; rfl
theorem sum_snoc {α : Type} (f : α → Int) {xs : List α} {i : Nat} {x : α} (h : xs[i]? = some x) : ((xs.take (i + 1)).map f).sum = ((xs.take i).map f).sum + f x := by
  rw [take_succ_map (β := Int) h, List.map_append, List.sum_append]; simp
/-! ### bounds -/
theorem tot_nn {p : List Str} : ∀ {sc : Sc}, sc.Ok p → 0 ≤ tot sc
  | .nil, _ => Int.le_refl _
  | .cross ns r, ⟨_, h⟩ => by have := tot_nn (sc := r) h; rw [tot]; omega
  | .times n i r, ⟨h1, h2, h3⟩ => by
    have a := tot_nn (sc := i) h2.1
    have b := tot_nn (sc := r) h3
    have c := Int.mul_nonneg h1.1 a
    rw [tot]; omega
/-- 10^20 a level -/
def lev : Nat → Int
  | 0 => 1
  | d + 1 => 100000000000000000000 * lev d
theorem lev_pos : ∀ d, 1 ≤ lev d
  | 0 => Int.le_refl _
  | d + 1 => by have := lev_pos d; rw [lev]; omega
theorem lev_mono : ∀ {d e : Nat}, d ≤ e → lev d ≤ lev e
  | d, e, h => by
    induction h with
    | refl => exact Int.le_refl _
    | step _ ih => rw [lev]; have := lev_pos d; omega
theorem tot_le {p : List Str} : ∀ (sc : Sc) (d : Nat), sc.Ok p → dep sc ≤ d → tot sc ≤ (sc.steps.length : Int) * (1000000000000000000 * lev d)
  | .nil, d, _, _ => by simp [tot, Sc.steps]
  | .cross ns r, d, ⟨_, h⟩, hd => by
    have a := tot_le r d h hd
    have l := lev_pos d
    rw [tot, Sc.steps, List.length_cons, Int.natCast_succ, Int.add_mul]
    omega
  | .times n i r, d, ⟨h1, h2, h3⟩, hd => by
    have hd' : dep i + 1 ≤ d ∧ dep r ≤ d := by rw [dep] at hd; omega
    have a := tot_le r d h3 hd'.2
    obtain ⟨d', rfl⟩ : ∃ d', d = d' + 1 := ⟨d - 1, by omega⟩
    have b := tot_le i d' h2.1 (by omega)
    have b0 := tot_nn h2.1
    have l := lev_pos d'
    have b2 : tot i ≤ 40 * (1000000000000000000 * lev d') := Int.le_trans b (Int.mul_le_mul_of_nonneg_right (by omega) (by omega))
    have c : n * tot i ≤ 1000000000000000000 * (40 * (1000000000000000000 * lev d')) := Int.le_trans (Int.mul_le_mul_of_nonneg_right h1.2 b0) (Int.mul_le_mul_of_nonneg_left b2 (by decide))
    rw [tot, Sc.steps, List.length_cons, Int.natCast_succ, Int.add_mul]
    have e : lev (d' + 1) = 100000000000000000000 * lev d' := rfl
    rw [e] at a ⊢
    omega
theorem small_log {i : Int} (h0 : 0 ≤ i) (h : i < 2 ^ 1000) : i.natAbs.log2 < 1920 := by
  by_cases e : i.natAbs = 0
  · rw [e]; decide
  · have : i.natAbs < 2 ^ 1000 := by
      have e2 : ((2 : Int) ^ 1000) = ((2 ^ 1000 : Nat) : Int) := by norm_cast
      rw [e2] at h
      omega
    exact Nat.lt_trans ((Nat.log2_lt e).mpr this) (by decide)
theorem tot_log {p : List Str} {sc : Sc} (h : sc.Ok p) (hd : dep sc ≤ 5) (hl : sc.steps.length ≤ 40) : (tot sc).natAbs.log2 < 1920 := by
  refine small_log (tot_nn h) ?_
  have a := tot_le sc 5 h hd
  refine Int.lt_of_le_of_lt a (Int.lt_of_le_of_lt (b := 40 * (1000000000000000000 * lev 5)) (Int.mul_le_mul_of_nonneg_right (by omega) (by decide)) (by decide +kernel))
/-! ### the crossings of a score, unrolled -/
def unr : Sc → List (List Str)
  | .nil => []
  | .cross ns r => ns :: unr r
  | .times n i r => (List.replicate n.toNat (unr i)).flatten ++ unr r
def unrS : Stp → List (List Str)
  | .cross ns => [ns]
  | .times n i => (List.replicate n.toNat (unr i)).flatten
theorem unr_fold : ∀ sc : Sc, unr sc = (sc.steps.map unrS).flatten
  | .nil => rfl
  | .cross ns r => by rw [unr, unr_fold r, Sc.steps, List.map_cons, List.flatten_cons]; rfl
  | .times n i r => by rw [unr, unr_fold r, Sc.steps, List.map_cons, List.flatten_cons]; rfl
theorem unr_len {p : List Str} : ∀ {sc : Sc}, sc.Ok p → ((unr sc).length : Int) = tot sc
  | .nil, _ => rfl
  | .cross ns r, ⟨_, h⟩ => by rw [unr, List.length_cons, tot, Int.natCast_succ, unr_len h]; omega
  | .times n i r, ⟨h1, h2, h3⟩ => by
    rw [unr, List.length_append, tot, Int.natCast_add, unr_len h3, List.length_flatten, List.map_replicate, List.sum_replicate_nat]
    rw [Int.natCast_mul, unr_len h2.1, Int.toNat_of_nonneg h1.1]
/-- n is in the sum of the rows -/
def inOdd (n : Str) (rows : List (List Str)) : Bool := rows.foldl (fun b ns => b != decide (n ∈ ns)) false
theorem fold_xor (n : Str) : ∀ (rows : List (List Str)) (b : Bool), rows.foldl (fun b ns => b != decide (n ∈ ns)) b = (b != inOdd n rows)
  | [], b => by cases b <;> rfl
  | r :: rows, b => by
    unfold inOdd
    rw [List.foldl_cons, List.foldl_cons, fold_xor n rows, fold_xor n rows]
    cases b <;> cases decide (n ∈ r) <;> cases inOdd n rows <;> rfl
theorem inOdd_cons (n : Str) (r : List Str) (rows : List (List Str)) : inOdd n (r :: rows) = (decide (n ∈ r) != inOdd n rows) := by
  show List.foldl _ _ _ = _
  rw [List.foldl_cons, fold_xor, Bool.false_bne]
theorem inOdd_append (n : Str) (a b : List (List Str)) : inOdd n (a ++ b) = (inOdd n a != inOdd n b) := by
  unfold inOdd
  rw [List.foldl_append, fold_xor]
  rfl
theorem inOdd_rep (n : Str) (a : List (List Str)) : ∀ k : Nat, inOdd n (List.replicate k a).flatten = (decide (k % 2 = 1) && inOdd n a)
  | 0 => rfl
  | k + 1 => by
    rw [List.replicate_succ, List.flatten_cons, inOdd_append, inOdd_rep n a k]
    rcases Nat.mod_two_eq_zero_or_one k with h | h
    · rw [decide_eq_false (by omega : ¬ k % 2 = 1), decide_eq_true (by omega : (k + 1) % 2 = 1)]
      cases inOdd n a <;> rfl
    · rw [decide_eq_true h, decide_eq_false (by omega : ¬ (k + 1) % 2 = 1)]
      cases inOdd n a <;> rfl
theorem add_dec {xs ys : List Str} {n : Str} : decide (n ∈ add xs ys) = (decide (n ∈ xs) != decide (n ∈ ys)) := by
  by_cases h1 : n ∈ xs <;> by_cases h2 : n ∈ ys <;> simp [add_mem, h1, h2]
theorem foldl_add (n : Str) : ∀ (rows : List (List Str)) (acc : List Str), decide (n ∈ rows.foldl add acc) = (decide (n ∈ acc) != inOdd n rows)
  | [], acc => by show decide (n ∈ acc) = (decide (n ∈ acc) != false); rw [Bool.bne_false]
  | r :: rows, acc => by
    rw [List.foldl_cons, foldl_add n rows, add_dec, inOdd_cons]
    cases decide (n ∈ acc) <;> cases decide (n ∈ r) <;> cases inOdd n rows <;> rfl
theorem oddF_in (n : Str) {p : List Str} : ∀ (sc : Sc) (acc : List Str), sc.Ok p → decide (n ∈ oddF sc acc) = (decide (n ∈ acc) != inOdd n (unr sc))
  | .nil, acc, _ => by rw [oddF, unr]; cases decide (n ∈ acc) <;> rfl
  | .cross ns r, acc, ⟨_, h⟩ => by
    rw [oddF, oddF_in n r _ h, add_dec, unr, inOdd_cons]
    cases decide (n ∈ acc) <;> cases decide (n ∈ ns) <;> cases inOdd n (unr r) <;> rfl
  | .times k i r, acc, ⟨h1, h2, h3⟩ => by
    rw [oddF, oddF_in n r _ h3, unr, inOdd_append, inOdd_rep]
    have hi := oddF_in n i [] h2.1
    rw [show decide (n ∈ ([] : List Str)) = false from rfl, Bool.false_bne] at hi
    by_cases hk : k % 2 = 1
    · rw [if_pos hk, add_dec, hi, decide_eq_true (by omega : k.toNat % 2 = 1)]
      cases decide (n ∈ acc) <;> cases inOdd n (unr i) <;> cases inOdd n (unr r) <;> rfl
    · rw [if_neg hk, decide_eq_false (by omega : ¬ k.toNat % 2 = 1)]
      cases decide (n ∈ acc) <;> cases inOdd n (unr i) <;> cases inOdd n (unr r) <;> rfl
theorem ext_dec {xs ys : List Str} (h1 : SetOk xs) (h2 : SetOk ys) (h : ∀ n, decide (n ∈ xs) = decide (n ∈ ys)) : xs = ys := set_ext h1 h2 fun n => decide_eq_decide.mp (h n)
end Law
end
section
/-! S3: slices, unrolling. -/
namespace Law
open PySem L2 G
theorem cut_take {α : Type} (xs : List α) {n : Int} (h : 0 ≤ n) : cut xs none (some n) = xs.take n.toNat := by
  have e : cut xs none (some n) = xs.take (HT.sIx xs.length xs.length (some n)) := rfl
  rw [e, show (some n : Option Int) = some ((n.toNat : Nat) : Int) by rw [Int.toNat_of_nonneg h], HT.sIx_nat]
  rw [List.take_eq_take_iff]
  omega
theorem canAll {f : List Str → PyData} (hf : ∀ r, (∀ n ∈ r, isName n = true) → (f r).canLay0 = true) : ∀ {rows : List (List Str)}, (∀ r ∈ rows, ∀ n ∈ r, isName n = true) → PyData.canLayAll0 (rows.map f) = true
  | [], _ => by simp [PyData.canLayAll0]
  | r :: rows, h => by
    rw [List.map_cons, PyData.canLayAll0, hf r (h r (List.mem_cons_self ..)), canAll hf fun q hq => h q (List.mem_cons_of_mem _ hq)]; rfl
theorem isName_lay {n : Str} (h : isName n = true) : (PyData.str n).canLay0 = true := by
  simp only [PyData.canLay0, PyData.strOk]
  unfold isName at h
  simp only [Bool.and_eq_true, decide_eq_true_eq, List.all_eq_true] at h
  rw [← Array.all_toList, List.all_eq_true]
  intro c hc
  have := h.2.2 c hc
  have h2 : ∀ c ∈ letters.cps.toList, c < 0x110000 := by decide +kernel
  exact decide_eq_true (h2 c this)
theorem can_tup {r : List Str} (h : ∀ n ∈ r, isName n = true) : (PyData.tuple (r.map .str)).canLay0 = true := by
  rw [PyData.canLay0]
  induction r with
  | nil => simp [PyData.canLayAll0]
  | cons n r ih => rw [List.map_cons, PyData.canLayAll0, isName_lay (h n (List.mem_cons_self ..)), ih fun m hm => h m (List.mem_cons_of_mem _ hm)]; rfl
theorem depth_strs : ∀ r : List Str, PyData.depthAll (r.map .str) = 0
  | [] => by simp [PyData.depthAll]
  | n :: r => by rw [List.map_cons, PyData.depthAll, depth_strs r]; simp [PyData.depth]
theorem depth_rows : ∀ rows : List (List Str), PyData.depthAll (rows.map fun r => .tuple (r.map .str)) ≤ 1
  | [] => by simp [PyData.depthAll]
  | r :: rows => by
    have := depth_rows rows
    rw [List.map_cons, PyData.depthAll, PyData.depth, depth_strs]
    omega
theorem shaped_rows {rows : List (List Str)} (h : ∀ r ∈ rows, ∀ n ∈ r, isName n = true) : SeqAt.shaped (.list (rows.map fun r => .tuple (r.map .str))) = true := by
  unfold SeqAt.shaped
  have h1 : (PyData.list (rows.map fun r => .tuple (r.map .str))).canLay0 = true := by rw [PyData.canLay0]; exact canAll (fun r hr => can_tup hr) h
  rw [h1, Bool.true_and]
  have := depth_rows rows
  rw [PyData.depth]
  exact decide_eq_true (by omega)
theorem eqv_nil (ds : List PyData) : PyData.eqv (.list ds) (.list []) = ds.isEmpty := by
  cases ds <;> simp [PyData.eqv, PyData.eqvAll]
/-- the rows of the steps so far -/
def pre (xs : List Stp) : List (List Str) := (xs.map unrS).flatten
theorem pre_len {p : List Str} : ∀ {xs : List Stp}, (∀ x ∈ xs, x.Ok p) → ((pre xs).length : Int) = (xs.map cnt).sum
  | [], _ => rfl
  | x :: xs, h => by
    have ih := pre_len (xs := xs) fun y hy => h y (List.mem_cons_of_mem _ hy)
    have hx := h x (List.mem_cons_self ..)
    unfold pre at ih ⊢
    rw [List.map_cons, List.flatten_cons, List.length_append, Int.natCast_add, ih, List.map_cons, List.sum_cons]
    congr 1
    cases x with
    | cross ns => rfl
    | times n i =>
      show ((List.replicate n.toNat (unr i)).flatten.length : Int) = n * tot i
      rw [List.length_flatten, List.map_replicate, List.sum_replicate_nat, Int.natCast_mul, unr_len hx.2.1, Int.toNat_of_nonneg hx.1.1]
theorem pre_snoc {xs : List Stp} {i : Nat} {x : Stp} (h : xs[i]? = some x) : pre (xs.take (i + 1)) = pre (xs.take i) ++ unrS x := by
  unfold pre
  rw [take_succ_map (β := Nat) h, List.map_append, List.flatten_append]
  simp
theorem cnt_nn {p : List Str} {x : Stp} (h : x.Ok p) : 0 ≤ cnt x := by
  cases x with
  | cross ns => exact Int.le_of_lt Int.zero_lt_one
  | times n i => exact Int.mul_nonneg h.1.1 (tot_nn h.2.1)
theorem sum_nn {p : List Str} : ∀ {xs : List Stp}, (∀ x ∈ xs, x.Ok p) → 0 ≤ (xs.map cnt).sum
  | [], _ => Int.le_refl _
  | x :: xs, h => by
    have a := cnt_nn (h x (List.mem_cons_self ..))
    have b := sum_nn (xs := xs) fun y hy => h y (List.mem_cons_of_mem _ hy)
    rw [List.map_cons, List.sum_cons]; omega
/-- what one step of times brings -/
theorem unr_step {p : List Str} {n : Int} {j : Sc} {A : Int} {R rows rows' inner : List (List Str)} {tm : Int} (hn : 0 ≤ n) (hj : j.Ok p) (hA : 0 ≤ A) (hR : (R.length : Int) = A) (h1 : A < 200 → rows = R) (h2 : tot j < 200 → inner = unr j)
    (htm : tm = (if (200 : Int) < n then 200 else n) * (if (!inner.isEmpty) = true then 1 else 0)) (h3 : (rows.length : Int) + tm * (inner.length : Int) < 200 → rows' = rows ++ (List.replicate tm.toNat inner).flatten) :
    A + n * tot j < 200 → rows' = R ++ (List.replicate n.toNat (unr j)).flatten := by
  intro hlt
  have ht := tot_nn hj
  have hnt := Int.mul_nonneg hn ht
  have e1 := h1 (by omega)
  subst e1
  rcases (by omega : n = 0 ∨ 1 ≤ n) with h0 | h0
  · subst h0
    have e : tm = 0 := by rw [htm, if_neg (by decide)]; exact Int.zero_mul _
    rw [h3 (by rw [e, Int.zero_mul]; omega), e]
    rfl
  · have hle : tot j ≤ n * tot j := by
      have := Int.mul_le_mul_of_nonneg_right h0 ht
      omega
    have e2 := h2 (by omega)
    subst e2
    have hl := unr_len hj
    cases hi : (unr j).isEmpty with
    | true =>
      have e : tm = 0 := by rw [htm, hi]; exact Int.mul_zero _
      have e0 : unr j = [] := List.isEmpty_iff.mp hi
      rw [h3 (by rw [e, Int.zero_mul]; omega), e, e0]
      simp
    | false =>
      have hpos : 1 ≤ tot j := by
        have : 0 < (unr j).length := by
          cases q : unr j with
          | nil => rw [q] at hi; cases hi
          | cons a b => exact Nat.succ_pos _
        omega
      have hnl : n ≤ n * tot j := by
        have := Int.mul_le_mul_of_nonneg_left hpos hn
        omega
      have e : tm = n := by rw [htm, hi, if_neg (by omega)]; exact Int.mul_one _
      rw [h3 (by rw [e, hl]; omega), e]
end Law
end
section
/-! S4: two scores in a row, a score so many times; data of a length and its crossers. -/
namespace Law
open PySem L2 G
theorem tot_app {a b c : Sc} (h : c.steps = a.steps ++ b.steps) : tot c = tot a + tot b := by
  rw [tot_sum, h, List.map_append, List.sum_append, ← tot_sum, ← tot_sum]
theorem unr_app {a b c : Sc} (h : c.steps = a.steps ++ b.steps) : unr c = unr a ++ unr b := by
  rw [unr_fold, h, List.map_append, List.flatten_append, ← unr_fold, ← unr_fold]
theorem ok_app {p : List Str} {a b c : Sc} (h : c.steps = a.steps ++ b.steps) (ha : a.Ok p) (hb : b.Ok p) : c.Ok p := by
  rw [ok_mem, h]
  intro x hx
  rcases List.mem_append.mp hx with hx | hx
  · exact ok_mem.mp ha x hx
  · exact ok_mem.mp hb x hx
theorem dep_le : ∀ {sc : Sc} {d : Nat}, (∀ x ∈ sc.steps, depS x ≤ d) → dep sc ≤ d
  | .nil, _, _ => Nat.zero_le _
  | .cross ns r, d, h => dep_le (sc := r) fun x hx => h x (List.mem_cons_of_mem _ hx)
  | .times n i r, d, h => Nat.max_le.mpr ⟨h _ (List.mem_cons_self ..), dep_le (sc := r) fun x hx => h x (List.mem_cons_of_mem _ hx)⟩
theorem dep_app {a b c : Sc} {d : Nat} (h : c.steps = a.steps ++ b.steps) (ha : dep a ≤ d) (hb : dep b ≤ d) : dep c ≤ d := dep_le fun x hx => by
  rw [h] at hx
  rcases List.mem_append.mp hx with hx | hx
  · exact Nat.le_trans (dep_mem hx) ha
  · exact Nat.le_trans (dep_mem hx) hb
theorem odd_set {p : List Str} {a : Sc} (h : a.Ok p) : SetOk (odd a) := (sub_odd a [] h sub_nil).ok
theorem odd_in0 (n : Str) {p : List Str} {a : Sc} (h : a.Ok p) : decide (n ∈ odd a) = inOdd n (unr a) := by
  rw [oddF_in n a [] h, show decide (n ∈ ([] : List Str)) = false from rfl, Bool.false_bne]
theorem odd_app {p : List Str} {a b c : Sc} (h : c.steps = a.steps ++ b.steps) (ha : a.Ok p) (hb : b.Ok p) : odd c = add (odd a) (odd b) :=
  ext_dec (odd_set (ok_app h ha hb)) (add_ok (odd_set ha).nd (odd_set hb).nd) fun n => by
    rw [odd_in0 n (ok_app h ha hb), add_dec, odd_in0 n ha, odd_in0 n hb, unr_app h, inOdd_append]
theorem fold_odd {p : List Str} {a : Sc} (h : a.Ok p) (hr : ∀ r ∈ unr a, CrOk p r) (hs : SetOk ((unr a).foldl add [])) : (unr a).foldl add [] = odd a :=
  ext_dec hs (odd_set h) fun n => by
    rw [odd_in0 n h, foldl_add, show decide (n ∈ ([] : List Str)) = false from rfl, Bool.false_bne]
theorem add_nil {xs : List Str} (h : SetOk xs) : add [] xs = xs := ext_dec (add_ok List.nodup_nil h.nd) h fun n => by
  rw [add_dec, show decide (n ∈ ([] : List Str)) = false from rfl, Bool.false_bne]
theorem odd_times {n : Int} {b : Sc} {p : List Str} (hb : b.Ok p) : odd (.times n b .nil) = if decide (n % 2 = 1) = true then odd b else [] := by
  show (if n % 2 = 1 then add [] (odd b) else []) = _
  by_cases h : n % 2 = 1
  · rw [if_pos h, decide_eq_true h, if_pos rfl, add_nil (odd_set hb)]
  · rw [if_neg h, decide_eq_false h, if_neg Bool.false_ne_true]
theorem tot_times {n : Int} {b : Sc} : tot (.times n b .nil) = n * tot b := by show n * tot b + 0 = _; omega
/-- a length and its crossers, as data -/
abbrev LD (x : Int) (L : List Str) : PyData := .list [.int x, .tuple (L.map .str)]
theorem nice_LD {x : Int} {L : List Str} (hx : x.natAbs.log2 < 1920) (hL : ∀ n ∈ L, isName n = true) (hl : L.length ≤ 28) : Nice (LD x L) 60 23000 := by
  have h1 : NiceA (L.map .str) 0 ((L.map PyData.str).length * (8 + 1)) := NiceA.of fun y hy => by
    obtain ⟨n, hn, rfl⟩ := List.mem_map.mp hy
    exact nice_str (isName_good (hL n hn)) (isName_small (hL n hn)).2
  have h2 := nice_list (NiceA.cons ((nice_int hx).mono (Nat.zero_le 1) (Nat.le_refl _)) (NiceA.cons (nice_tuple h1) NiceA.nil (m := 0)))
  exact h2.mono (by decide) (by rw [List.length_map]; omega)
theorem dv_LD {K : PySem.W.Frag} {O : List Ow} {x : Int} {L : List Str} : DV K O ⟨tHetL [⟨tInt, x⟩, ⟨tTup K tStr, L⟩], ()⟩ (LD x L) := dv_hetL (.cons dt_int.dv (.cons (dt_tup dt_str).dv .nil))
end Law
end
section
open PySem L2 G
open PySem.Spec PyProof.Rows
namespace Law
def topS (i : Nat) : Stmt := PySem.Challenge.pw_bankfolk_k43_how_many_crossings_and_whos.main.body.getD i (.Pass ⟨0, 0, 0, 0⟩)
abbrev s_FolkError_init : Stmt := inClass (topS 1) 0
theorem sc_FolkError_init : FnScope ["self", "word"] ["self", "word"] (defScope s_FolkError_init) := ⟨rfl, rfl, rfl, by decide +kernel, rfl, by decide +kernel, by decide +kernel⟩
abbrev s_BadScore_init : Stmt := inClass (topS 2) 0
theorem sc_BadScore_init : FnScope ["self"] ["self"] (defScope s_BadScore_init) := ⟨rfl, rfl, rfl, by decide +kernel, rfl, by decide +kernel, by decide +kernel⟩
abbrev s_is_name : Stmt := topS 5
theorem sc_is_name : FnScope ["text", "sign"] ["text"] (defScope s_is_name) := ⟨rfl, rfl, rfl, by decide +kernel, rfl, by decide +kernel, by decide +kernel⟩
abbrev s_added : Stmt := topS 7
theorem sc_added : FnScope ["one", "other", "name"] ["one", "other"] (defScope s_added) := ⟨rfl, rfl, rfl, by decide +kernel, rfl, by decide +kernel, by decide +kernel⟩
abbrev s_odd_lot : Stmt := topS 8
theorem sc_odd_lot : FnScope ["row", "found", "crossing"] ["row"] (defScope s_odd_lot) := ⟨rfl, rfl, rfl, by decide +kernel, rfl, by decide +kernel, by decide +kernel⟩
abbrev s_is_crossing : Stmt := topS 13
theorem sc_is_crossing : FnScope ["names", "good", "name"] ["names"] (defScope s_is_crossing) := ⟨rfl, rfl, rfl, by decide +kernel, rfl, by decide +kernel, by decide +kernel⟩
abbrev s_is_step : Stmt := topS 14
theorem sc_is_step : FnScope ["step", "deep"] ["step", "deep"] (defScope s_is_step) := ⟨rfl, rfl, rfl, by decide +kernel, rfl, by decide +kernel, by decide +kernel⟩
abbrev s_is_score : Stmt := topS 15
theorem sc_is_score : FnScope ["score", "deep", "step"] ["score", "deep"] (defScope s_is_score) := ⟨rfl, rfl, rfl, by decide +kernel, rfl, by decide +kernel, by decide +kernel⟩
abbrev s_need_score : Stmt := topS 16
theorem sc_need_score : FnScope ["score"] ["score"] (defScope s_need_score) := ⟨rfl, rfl, rfl, by decide +kernel, rfl, by decide +kernel, by decide +kernel⟩
abbrev s_long_of : Stmt := topS 17
theorem sc_long_of : FnScope ["score", "step"] ["score"] (defScope s_long_of) := ⟨rfl, rfl, rfl, by decide +kernel, rfl, by decide +kernel, by decide +kernel⟩
abbrev s_odd_of : Stmt := topS 18
theorem sc_odd_of : FnScope ["score", "found", "step"] ["score"] (defScope s_odd_of) := ⟨rfl, rfl, rfl, by decide +kernel, rfl, by decide +kernel, by decide +kernel⟩
abbrev s_long : Stmt := topS 19
theorem sc_long : FnScope ["score"] ["score"] (defScope s_long) := ⟨rfl, rfl, rfl, by decide +kernel, rfl, by decide +kernel, by decide +kernel⟩
abbrev s_odd_crossers : Stmt := topS 20
theorem sc_odd_crossers : FnScope ["score"] ["score"] (defScope s_odd_crossers) := ⟨rfl, rfl, rfl, by decide +kernel, rfl, by decide +kernel, by decide +kernel⟩
abbrev s_bag : Stmt := topS 22
theorem sc_bag : FnScope ["_law_script", "_law_salt", "_law_cell"] ["_law_script"] (defScope s_bag) := ⟨rfl, rfl, rfl, by decide +kernel, rfl, by decide +kernel, by decide +kernel⟩
abbrev s_pull : Stmt := topS 23
theorem sc_pull : FnScope ["_law_bag_here", "_law_many", "_law_cell", "_law_got", "_law_base", "_law_twice"] ["_law_bag_here", "_law_many"] (defScope s_pull) := ⟨rfl, rfl, rfl, by decide +kernel, rfl, by decide +kernel, by decide +kernel⟩
abbrev s_of : Stmt := topS 24
theorem sc_of : FnScope ["_law_bag_here", "_law_some"] ["_law_bag_here", "_law_some"] (defScope s_of) := ⟨rfl, rfl, rfl, by decide +kernel, rfl, by decide +kernel, by decide +kernel⟩
abbrev s_mixed : Stmt := topS 25
theorem sc_mixed : FnScope ["_law_bag_here", "_law_things", "_law_found", "_law_thing"] ["_law_bag_here", "_law_things"] (defScope s_mixed) := ⟨rfl, rfl, rfl, by decide +kernel, rfl, by decide +kernel, by decide +kernel⟩
abbrev s_same : Stmt := topS 26
theorem sc_same : FnScope ["_law_found", "_law_due"] ["_law_found", "_law_due"] (defScope s_same) := ⟨rfl, rfl, rfl, by decide +kernel, rfl, by decide +kernel, by decide +kernel⟩
abbrev s_some_names : Stmt := topS 27
theorem sc_some_names : FnScope ["_law_bag_here", "_law_many", "_law_found", "_law_letters", "_law_first", "_law_k", "_law_head", "_law_tail"] ["_law_bag_here", "_law_many"] (defScope s_some_names) := ⟨rfl, rfl, rfl, by decide +kernel, rfl, by decide +kernel, by decide +kernel⟩
abbrev s_some_grid : Stmt := topS 28
theorem sc_some_grid : FnScope ["_law_bag_here", "_law_many", "_law_thick", "_law_rest", "_law_grid", "_law_one", "_law_other", "_law_k"] ["_law_bag_here", "_law_many"] (defScope s_some_grid) := ⟨rfl, rfl, rfl, by decide +kernel, rfl, by decide +kernel, by decide +kernel⟩
abbrev s_drawn : Stmt := topS 29
theorem sc_drawn : FnScope ["_law_bag_here", "_law_most", "_law_many"] ["_law_bag_here", "_law_most"] (defScope s_drawn) := ⟨rfl, rfl, rfl, by decide +kernel, rfl, by decide +kernel, by decide +kernel⟩
abbrev s_summed : Stmt := topS 30
theorem sc_summed : FnScope ["_law_one", "_law_other", "_law_apart", "_law_name"] ["_law_one", "_law_other"] (defScope s_summed) := ⟨rfl, rfl, rfl, by decide +kernel, rfl, by decide +kernel, by decide +kernel⟩
abbrev s_often : Stmt := topS 31
theorem sc_often : FnScope ["_law_bag_here", "_law_some"] ["_law_bag_here"] (defScope s_often) := ⟨rfl, rfl, rfl, by decide +kernel, rfl, by decide +kernel, by decide +kernel⟩
abbrev s_score : Stmt := topS 32
theorem sc_score : FnScope ["_law_bag_here", "_law_names", "_law_deep", "_law_found", "_law_k", "_law_way"] ["_law_bag_here", "_law_names", "_law_deep"] (defScope s_score) := ⟨rfl, rfl, rfl, by decide +kernel, rfl, by decide +kernel, by decide +kernel⟩
abbrev s_in_all : Stmt := topS 33
theorem sc_in_all : FnScope ["_law_score9", "_law_found", "_law_step"] ["_law_score9"] (defScope s_in_all) := ⟨rfl, rfl, rfl, by decide +kernel, rfl, by decide +kernel, by decide +kernel⟩
abbrev s_unrolled : Stmt := topS 34
theorem sc_unrolled : FnScope ["_law_score9", "_law_most", "_law_found", "_law_step", "_law_inner", "_law_times", "_law_k"] ["_law_score9", "_law_most"] (defScope s_unrolled) := ⟨rfl, rfl, rfl, by decide +kernel, rfl, by decide +kernel, by decide +kernel⟩
abbrev s_odd_in : Stmt := topS 35
theorem sc_odd_in : FnScope ["_law_score9", "_law_found", "_law_step"] ["_law_score9"] (defScope s_odd_in) := ⟨rfl, rfl, rfl, by decide +kernel, rfl, by decide +kernel, by decide +kernel⟩
abbrev s_pool : Stmt := topS 36
theorem sc_pool : FnScope ["_law_m"] ["_law_m"] (defScope s_pool) := ⟨rfl, rfl, rfl, by decide +kernel, rfl, by decide +kernel, by decide +kernel⟩
abbrev s_law : Stmt := topS 37
theorem sc_law : FnScope ["_law_script", "_law_bag_here", "_law_m", "_law_names", "_law_score9", "_law_other", "_law_row", "_law_both", "_law_many", "_law_due", "_law_round_here"] ["_law_script"] (defScope s_law) := ⟨rfl, rfl, rfl, by decide +kernel, rfl, by decide +kernel, by decide +kernel⟩
structure Ad where
  f_FolkError_init : Addr
  d_FolkError_init : FuncData
  f_BadScore_init : Addr
  d_BadScore_init : FuncData
  f_is_name : Addr
  d_is_name : FuncData
  f_added : Addr
  d_added : FuncData
  f_odd_lot : Addr
  d_odd_lot : FuncData
  f_is_crossing : Addr
  d_is_crossing : FuncData
  f_is_step : Addr
  d_is_step : FuncData
  f_is_score : Addr
  d_is_score : FuncData
  f_need_score : Addr
  d_need_score : FuncData
  f_long_of : Addr
  d_long_of : FuncData
  f_odd_of : Addr
  d_odd_of : FuncData
  f_long : Addr
  d_long : FuncData
  f_odd_crossers : Addr
  d_odd_crossers : FuncData
  f_bag : Addr
  d_bag : FuncData
  f_pull : Addr
  d_pull : FuncData
  f_of : Addr
  d_of : FuncData
  f_mixed : Addr
  d_mixed : FuncData
  f_same : Addr
  d_same : FuncData
  f_some_names : Addr
  d_some_names : FuncData
  f_some_grid : Addr
  d_some_grid : FuncData
  f_drawn : Addr
  d_drawn : FuncData
  f_summed : Addr
  d_summed : FuncData
  f_often : Addr
  d_often : FuncData
  f_score : Addr
  d_score : FuncData
  f_in_all : Addr
  d_in_all : FuncData
  f_unrolled : Addr
  d_unrolled : FuncData
  f_odd_in : Addr
  d_odd_in : FuncData
  f_pool : Addr
  d_pool : FuncData
  f_law : Addr
  d_law : FuncData
  c_FolkError : Addr
  c_BadScore : Addr
  u_LETTERS : Value
  u_MOST_STEPS : Value
  u_MOST_DEEP : Value
  u_MOST_TIMES : Value
structure Txt (K : PySem.W.Frag) (mg : Str → Option Value) (A : Ad) : Prop where
  F_FolkError_init : FunD K "__init__" "FolkError.__init__" (defArgs s_FolkError_init) (defBody s_FolkError_init) (defScope s_FolkError_init) [V.str "FolkError"] [] A.f_FolkError_init A.d_FolkError_init
  F_BadScore_init : FunD K "__init__" "BadScore.__init__" (defArgs s_BadScore_init) (defBody s_BadScore_init) (defScope s_BadScore_init) [] [] A.f_BadScore_init A.d_BadScore_init
  F_is_name : FunD K "is_name" "is_name" (defArgs s_is_name) (defBody s_is_name) (defScope s_is_name) [] [] A.f_is_name A.d_is_name
  F_added : FunD K "added" "added" (defArgs s_added) (defBody s_added) (defScope s_added) [] [] A.f_added A.d_added
  F_odd_lot : FunD K "odd_lot" "odd_lot" (defArgs s_odd_lot) (defBody s_odd_lot) (defScope s_odd_lot) [] [] A.f_odd_lot A.d_odd_lot
  F_is_crossing : FunD K "is_crossing" "is_crossing" (defArgs s_is_crossing) (defBody s_is_crossing) (defScope s_is_crossing) [] [] A.f_is_crossing A.d_is_crossing
  F_is_step : FunD K "is_step" "is_step" (defArgs s_is_step) (defBody s_is_step) (defScope s_is_step) [] [] A.f_is_step A.d_is_step
  F_is_score : FunD K "is_score" "is_score" (defArgs s_is_score) (defBody s_is_score) (defScope s_is_score) [] [("deep", V.int (0))] A.f_is_score A.d_is_score
  F_need_score : FunD K "need_score" "need_score" (defArgs s_need_score) (defBody s_need_score) (defScope s_need_score) [] [] A.f_need_score A.d_need_score
  F_long_of : FunD K "long_of" "long_of" (defArgs s_long_of) (defBody s_long_of) (defScope s_long_of) [] [] A.f_long_of A.d_long_of
  F_odd_of : FunD K "odd_of" "odd_of" (defArgs s_odd_of) (defBody s_odd_of) (defScope s_odd_of) [] [] A.f_odd_of A.d_odd_of
  F_long : FunD K "long" "long" (defArgs s_long) (defBody s_long) (defScope s_long) [] [] A.f_long A.d_long
  F_odd_crossers : FunD K "odd_crossers" "odd_crossers" (defArgs s_odd_crossers) (defBody s_odd_crossers) (defScope s_odd_crossers) [] [] A.f_odd_crossers A.d_odd_crossers
  F_bag : FunD K "_law_bag" "_law_bag" (defArgs s_bag) (defBody s_bag) (defScope s_bag) [] [] A.f_bag A.d_bag
  F_pull : FunD K "_law_pull" "_law_pull" (defArgs s_pull) (defBody s_pull) (defScope s_pull) [] [] A.f_pull A.d_pull
  F_of : FunD K "_law_of" "_law_of" (defArgs s_of) (defBody s_of) (defScope s_of) [] [] A.f_of A.d_of
  F_mixed : FunD K "_law_mixed" "_law_mixed" (defArgs s_mixed) (defBody s_mixed) (defScope s_mixed) [] [] A.f_mixed A.d_mixed
  F_same : FunD K "_law_same" "_law_same" (defArgs s_same) (defBody s_same) (defScope s_same) [] [] A.f_same A.d_same
  F_some_names : FunD K "_law_some_names" "_law_some_names" (defArgs s_some_names) (defBody s_some_names) (defScope s_some_names) [] [] A.f_some_names A.d_some_names
  F_some_grid : FunD K "_law_some_grid" "_law_some_grid" (defArgs s_some_grid) (defBody s_some_grid) (defScope s_some_grid) [] [] A.f_some_grid A.d_some_grid
  F_drawn : FunD K "_law_drawn" "_law_drawn" (defArgs s_drawn) (defBody s_drawn) (defScope s_drawn) [] [] A.f_drawn A.d_drawn
  F_summed : FunD K "_law_summed" "_law_summed" (defArgs s_summed) (defBody s_summed) (defScope s_summed) [] [] A.f_summed A.d_summed
  F_often : FunD K "_law_often" "_law_often" (defArgs s_often) (defBody s_often) (defScope s_often) [] [] A.f_often A.d_often
  F_score : FunD K "_law_score" "_law_score" (defArgs s_score) (defBody s_score) (defScope s_score) [] [] A.f_score A.d_score
  F_in_all : FunD K "_law_in_all" "_law_in_all" (defArgs s_in_all) (defBody s_in_all) (defScope s_in_all) [] [] A.f_in_all A.d_in_all
  F_unrolled : FunD K "_law_unrolled" "_law_unrolled" (defArgs s_unrolled) (defBody s_unrolled) (defScope s_unrolled) [] [] A.f_unrolled A.d_unrolled
  F_odd_in : FunD K "_law_odd_in" "_law_odd_in" (defArgs s_odd_in) (defBody s_odd_in) (defScope s_odd_in) [] [] A.f_odd_in A.d_odd_in
  F_pool : FunD K "_law_pool" "_law_pool" (defArgs s_pool) (defBody s_pool) (defScope s_pool) [] [] A.f_pool A.d_pool
  F_law : FunD K "law" "law" (defArgs s_law) (defBody s_law) (defScope s_law) [] [] A.f_law A.d_law
  m_is_name : mg "is_name" = some (.ref A.f_is_name)
  m_added : mg "added" = some (.ref A.f_added)
  m_odd_lot : mg "odd_lot" = some (.ref A.f_odd_lot)
  m_is_crossing : mg "is_crossing" = some (.ref A.f_is_crossing)
  m_is_step : mg "is_step" = some (.ref A.f_is_step)
  m_is_score : mg "is_score" = some (.ref A.f_is_score)
  m_need_score : mg "need_score" = some (.ref A.f_need_score)
  m_long_of : mg "long_of" = some (.ref A.f_long_of)
  m_odd_of : mg "odd_of" = some (.ref A.f_odd_of)
  m_long : mg "long" = some (.ref A.f_long)
  m_odd_crossers : mg "odd_crossers" = some (.ref A.f_odd_crossers)
  m_bag : mg "_law_bag" = some (.ref A.f_bag)
  m_pull : mg "_law_pull" = some (.ref A.f_pull)
  m_of : mg "_law_of" = some (.ref A.f_of)
  m_mixed : mg "_law_mixed" = some (.ref A.f_mixed)
  m_same : mg "_law_same" = some (.ref A.f_same)
  m_some_names : mg "_law_some_names" = some (.ref A.f_some_names)
  m_some_grid : mg "_law_some_grid" = some (.ref A.f_some_grid)
  m_drawn : mg "_law_drawn" = some (.ref A.f_drawn)
  m_summed : mg "_law_summed" = some (.ref A.f_summed)
  m_often : mg "_law_often" = some (.ref A.f_often)
  m_score : mg "_law_score" = some (.ref A.f_score)
  m_in_all : mg "_law_in_all" = some (.ref A.f_in_all)
  m_unrolled : mg "_law_unrolled" = some (.ref A.f_unrolled)
  m_odd_in : mg "_law_odd_in" = some (.ref A.f_odd_in)
  m_pool : mg "_law_pool" = some (.ref A.f_pool)
  m_law : mg "law" = some (.ref A.f_law)
  n_all : mg "all" = none
  n_bool : mg "bool" = none
  n_int : mg "int" = none
  n_isinstance : mg "isinstance" = none
  n_len : mg "len" = none
  n_list : mg "list" = none
  n_min : mg "min" = none
  n_range : mg "range" = none
  n_repr : mg "repr" = none
  n_sorted : mg "sorted" = none
  n_str : mg "str" = none
  n_sum : mg "sum" = none
  n_tuple : mg "tuple" = none
  g_FolkError : mg "FolkError" = some (.ref A.c_FolkError)
  g_BadScore : mg "BadScore" = some (.ref A.c_BadScore)
  v_LETTERS : mg "LETTERS" = some A.u_LETTERS
  r_LETTERS : RelV (V.str "abcdefghijklmnopqrstuvwxyz") A.u_LETTERS
  v_MOST_STEPS : mg "MOST_STEPS" = some A.u_MOST_STEPS
  r_MOST_STEPS : RelV (V.int (40)) A.u_MOST_STEPS
  v_MOST_DEEP : mg "MOST_DEEP" = some A.u_MOST_DEEP
  r_MOST_DEEP : RelV (V.int (5)) A.u_MOST_DEEP
  v_MOST_TIMES : mg "MOST_TIMES" = some A.u_MOST_TIMES
  r_MOST_TIMES : RelV (V.int (1000000000000000000)) A.u_MOST_TIMES
  b_is_name_1 : Cb K A.d_is_name ["text"] 1 [] (fun ts _ => ts)
  b_added_2 : Cb K A.d_added ["one", "other"] 2 [] (fun ts _ => ts)
  b_odd_lot_1 : Cb K A.d_odd_lot ["row"] 1 [] (fun ts _ => ts)
  b_is_crossing_1 : Cb K A.d_is_crossing ["names"] 1 [] (fun ts _ => ts)
  b_is_step_2 : Cb K A.d_is_step ["step", "deep"] 2 [] (fun ts _ => ts)
  b_is_score_1 : Cb K A.d_is_score ["score", "deep"] 1 [] (fun ts _ => ts ++ [⟨tInt, (0)⟩])
  b_is_score_1_deep : Cb K A.d_is_score ["score", "deep"] 1 ["deep"] (fun ts us => ts ++ us)
  b_need_score_1 : Cb K A.d_need_score ["score"] 1 [] (fun ts _ => ts)
  b_long_of_1 : Cb K A.d_long_of ["score"] 1 [] (fun ts _ => ts)
  b_odd_of_1 : Cb K A.d_odd_of ["score"] 1 [] (fun ts _ => ts)
  b_long_0_score : Cb K A.d_long ["score"] 0 ["score"] (fun ts us => ts ++ us)
  b_long_1 : Cb K A.d_long ["score"] 1 [] (fun ts _ => ts)
  b_odd_crossers_0_score : Cb K A.d_odd_crossers ["score"] 0 ["score"] (fun ts us => ts ++ us)
  b_odd_crossers_1 : Cb K A.d_odd_crossers ["score"] 1 [] (fun ts _ => ts)
  b_bag_1 : Cb K A.d_bag ["_law_script"] 1 [] (fun ts _ => ts)
  b_pull_2 : Cb K A.d_pull ["_law_bag_here", "_law_many"] 2 [] (fun ts _ => ts)
  b_of_2 : Cb K A.d_of ["_law_bag_here", "_law_some"] 2 [] (fun ts _ => ts)
  b_mixed_2 : Cb K A.d_mixed ["_law_bag_here", "_law_things"] 2 [] (fun ts _ => ts)
  b_same_2 : Cb K A.d_same ["_law_found", "_law_due"] 2 [] (fun ts _ => ts)
  b_some_names_2 : Cb K A.d_some_names ["_law_bag_here", "_law_many"] 2 [] (fun ts _ => ts)
  b_some_grid_2 : Cb K A.d_some_grid ["_law_bag_here", "_law_many"] 2 [] (fun ts _ => ts)
  b_drawn_2 : Cb K A.d_drawn ["_law_bag_here", "_law_most"] 2 [] (fun ts _ => ts)
  b_summed_2 : Cb K A.d_summed ["_law_one", "_law_other"] 2 [] (fun ts _ => ts)
  b_often_1 : Cb K A.d_often ["_law_bag_here"] 1 [] (fun ts _ => ts)
  b_score_3 : Cb K A.d_score ["_law_bag_here", "_law_names", "_law_deep"] 3 [] (fun ts _ => ts)
  b_in_all_1 : Cb K A.d_in_all ["_law_score9"] 1 [] (fun ts _ => ts)
  b_unrolled_2 : Cb K A.d_unrolled ["_law_score9", "_law_most"] 2 [] (fun ts _ => ts)
  b_odd_in_1 : Cb K A.d_odd_in ["_law_score9"] 1 [] (fun ts _ => ts)
  b_pool_1 : Cb K A.d_pool ["_law_m"] 1 [] (fun ts _ => ts)
def fn0 : List He.DefD := [⟨("FolkError", some "__init__"), "__init__", "FolkError.__init__", defArgs s_FolkError_init, defBody s_FolkError_init, defScope s_FolkError_init, [.str "FolkError"], []⟩,
  ⟨("BadScore", some "__init__"), "__init__", "BadScore.__init__", defArgs s_BadScore_init, defBody s_BadScore_init, defScope s_BadScore_init, [], []⟩,
  ⟨("is_name", none), "is_name", "is_name", defArgs s_is_name, defBody s_is_name, defScope s_is_name, [], []⟩,
  ⟨("added", none), "added", "added", defArgs s_added, defBody s_added, defScope s_added, [], []⟩,
  ⟨("odd_lot", none), "odd_lot", "odd_lot", defArgs s_odd_lot, defBody s_odd_lot, defScope s_odd_lot, [], []⟩,
  ⟨("is_crossing", none), "is_crossing", "is_crossing", defArgs s_is_crossing, defBody s_is_crossing, defScope s_is_crossing, [], []⟩,
  ⟨("is_step", none), "is_step", "is_step", defArgs s_is_step, defBody s_is_step, defScope s_is_step, [], []⟩,
  ⟨("is_score", none), "is_score", "is_score", defArgs s_is_score, defBody s_is_score, defScope s_is_score, [], [("deep", .int (0))]⟩,
  ⟨("need_score", none), "need_score", "need_score", defArgs s_need_score, defBody s_need_score, defScope s_need_score, [], []⟩,
  ⟨("long_of", none), "long_of", "long_of", defArgs s_long_of, defBody s_long_of, defScope s_long_of, [], []⟩,
  ⟨("odd_of", none), "odd_of", "odd_of", defArgs s_odd_of, defBody s_odd_of, defScope s_odd_of, [], []⟩,
  ⟨("long", none), "long", "long", defArgs s_long, defBody s_long, defScope s_long, [], []⟩,
  ⟨("odd_crossers", none), "odd_crossers", "odd_crossers", defArgs s_odd_crossers, defBody s_odd_crossers, defScope s_odd_crossers, [], []⟩,
  ⟨("_law_bag", none), "_law_bag", "_law_bag", defArgs s_bag, defBody s_bag, defScope s_bag, [], []⟩,
  ⟨("_law_pull", none), "_law_pull", "_law_pull", defArgs s_pull, defBody s_pull, defScope s_pull, [], []⟩,
  ⟨("_law_of", none), "_law_of", "_law_of", defArgs s_of, defBody s_of, defScope s_of, [], []⟩,
  ⟨("_law_mixed", none), "_law_mixed", "_law_mixed", defArgs s_mixed, defBody s_mixed, defScope s_mixed, [], []⟩,
  ⟨("_law_same", none), "_law_same", "_law_same", defArgs s_same, defBody s_same, defScope s_same, [], []⟩,
  ⟨("_law_some_names", none), "_law_some_names", "_law_some_names", defArgs s_some_names, defBody s_some_names, defScope s_some_names, [], []⟩,
  ⟨("_law_some_grid", none), "_law_some_grid", "_law_some_grid", defArgs s_some_grid, defBody s_some_grid, defScope s_some_grid, [], []⟩,
  ⟨("_law_drawn", none), "_law_drawn", "_law_drawn", defArgs s_drawn, defBody s_drawn, defScope s_drawn, [], []⟩,
  ⟨("_law_summed", none), "_law_summed", "_law_summed", defArgs s_summed, defBody s_summed, defScope s_summed, [], []⟩,
  ⟨("_law_often", none), "_law_often", "_law_often", defArgs s_often, defBody s_often, defScope s_often, [], []⟩,
  ⟨("_law_score", none), "_law_score", "_law_score", defArgs s_score, defBody s_score, defScope s_score, [], []⟩,
  ⟨("_law_in_all", none), "_law_in_all", "_law_in_all", defArgs s_in_all, defBody s_in_all, defScope s_in_all, [], []⟩,
  ⟨("_law_unrolled", none), "_law_unrolled", "_law_unrolled", defArgs s_unrolled, defBody s_unrolled, defScope s_unrolled, [], []⟩,
  ⟨("_law_odd_in", none), "_law_odd_in", "_law_odd_in", defArgs s_odd_in, defBody s_odd_in, defScope s_odd_in, [], []⟩,
  ⟨("_law_pool", none), "_law_pool", "_law_pool", defArgs s_pool, defBody s_pool, defScope s_pool, [], []⟩,
  ⟨("law", none), "law", "law", defArgs s_law, defBody s_law, defScope s_law, [], []⟩]
def fn : List He.DefD := fn0
def fa0 : List He.Fa := [.glo "is_name",
  .glo "added",
  .glo "odd_lot",
  .glo "is_crossing",
  .glo "is_step",
  .glo "is_score",
  .glo "need_score",
  .glo "long_of",
  .glo "odd_of",
  .glo "long",
  .glo "odd_crossers",
  .glo "_law_bag",
  .glo "_law_pull",
  .glo "_law_of",
  .glo "_law_mixed",
  .glo "_law_same",
  .glo "_law_some_names",
  .glo "_law_some_grid",
  .glo "_law_drawn",
  .glo "_law_summed",
  .glo "_law_often",
  .glo "_law_score",
  .glo "_law_in_all",
  .glo "_law_unrolled",
  .glo "_law_odd_in",
  .glo "_law_pool",
  .glo "law",
  .free "all",
  .free "bool",
  .free "int"]
def fa1 : List He.Fa := [.free "isinstance",
  .free "len",
  .free "list",
  .free "min",
  .free "range",
  .free "repr",
  .free "sorted",
  .free "str",
  .free "sum",
  .free "tuple",
  .glo "FolkError",
  .glo "BadScore",
  .str "LETTERS" "abcdefghijklmnopqrstuvwxyz",
  .int "MOST_STEPS" (40),
  .int "MOST_DEEP" (5),
  .int "MOST_TIMES" (1000000000000000000)]
def fa : List He.Fa := fa0 ++ fa1
theorem txt_of {K : PySem.W.Frag} {h : Heap} {mg : Str → Option Value} (X : K.In h) (G : h.Ns mainGlobals mg) (c : He.SaysD fa fn K) : ∃ A : Ad, Txt K mg A ∧ A.f_law = He.fAd K ("law", none) := by
  obtain ⟨d0, F0⟩ : ∃ fd, FunD K "__init__" "FolkError.__init__" (defArgs s_FolkError_init) (defBody s_FolkError_init) (defScope s_FolkError_init) [V.str "FolkError"] [] (He.fAd K ("FolkError", some "__init__")) fd := c.def_ 0 rfl
  obtain ⟨d1, F1⟩ : ∃ fd, FunD K "__init__" "BadScore.__init__" (defArgs s_BadScore_init) (defBody s_BadScore_init) (defScope s_BadScore_init) [] [] (He.fAd K ("BadScore", some "__init__")) fd := c.def_ 1 rfl
  obtain ⟨d2, F2⟩ : ∃ fd, FunD K "is_name" "is_name" (defArgs s_is_name) (defBody s_is_name) (defScope s_is_name) [] [] (He.fAd K ("is_name", none)) fd := c.def_ 2 rfl
  obtain ⟨d3, F3⟩ : ∃ fd, FunD K "added" "added" (defArgs s_added) (defBody s_added) (defScope s_added) [] [] (He.fAd K ("added", none)) fd := c.def_ 3 rfl
  obtain ⟨d4, F4⟩ : ∃ fd, FunD K "odd_lot" "odd_lot" (defArgs s_odd_lot) (defBody s_odd_lot) (defScope s_odd_lot) [] [] (He.fAd K ("odd_lot", none)) fd := c.def_ 4 rfl
  obtain ⟨d5, F5⟩ : ∃ fd, FunD K "is_crossing" "is_crossing" (defArgs s_is_crossing) (defBody s_is_crossing) (defScope s_is_crossing) [] [] (He.fAd K ("is_crossing", none)) fd := c.def_ 5 rfl
  obtain ⟨d6, F6⟩ : ∃ fd, FunD K "is_step" "is_step" (defArgs s_is_step) (defBody s_is_step) (defScope s_is_step) [] [] (He.fAd K ("is_step", none)) fd := c.def_ 6 rfl
  obtain ⟨d7, F7⟩ : ∃ fd, FunD K "is_score" "is_score" (defArgs s_is_score) (defBody s_is_score) (defScope s_is_score) [] [("deep", V.int (0))] (He.fAd K ("is_score", none)) fd := c.def_ 7 rfl
  obtain ⟨d8, F8⟩ : ∃ fd, FunD K "need_score" "need_score" (defArgs s_need_score) (defBody s_need_score) (defScope s_need_score) [] [] (He.fAd K ("need_score", none)) fd := c.def_ 8 rfl
  obtain ⟨d9, F9⟩ : ∃ fd, FunD K "long_of" "long_of" (defArgs s_long_of) (defBody s_long_of) (defScope s_long_of) [] [] (He.fAd K ("long_of", none)) fd := c.def_ 9 rfl
  obtain ⟨d10, F10⟩ : ∃ fd, FunD K "odd_of" "odd_of" (defArgs s_odd_of) (defBody s_odd_of) (defScope s_odd_of) [] [] (He.fAd K ("odd_of", none)) fd := c.def_ 10 rfl
  obtain ⟨d11, F11⟩ : ∃ fd, FunD K "long" "long" (defArgs s_long) (defBody s_long) (defScope s_long) [] [] (He.fAd K ("long", none)) fd := c.def_ 11 rfl
  obtain ⟨d12, F12⟩ : ∃ fd, FunD K "odd_crossers" "odd_crossers" (defArgs s_odd_crossers) (defBody s_odd_crossers) (defScope s_odd_crossers) [] [] (He.fAd K ("odd_crossers", none)) fd := c.def_ 12 rfl
  obtain ⟨d13, F13⟩ : ∃ fd, FunD K "_law_bag" "_law_bag" (defArgs s_bag) (defBody s_bag) (defScope s_bag) [] [] (He.fAd K ("_law_bag", none)) fd := c.def_ 13 rfl
  obtain ⟨d14, F14⟩ : ∃ fd, FunD K "_law_pull" "_law_pull" (defArgs s_pull) (defBody s_pull) (defScope s_pull) [] [] (He.fAd K ("_law_pull", none)) fd := c.def_ 14 rfl
  obtain ⟨d15, F15⟩ : ∃ fd, FunD K "_law_of" "_law_of" (defArgs s_of) (defBody s_of) (defScope s_of) [] [] (He.fAd K ("_law_of", none)) fd := c.def_ 15 rfl
  obtain ⟨d16, F16⟩ : ∃ fd, FunD K "_law_mixed" "_law_mixed" (defArgs s_mixed) (defBody s_mixed) (defScope s_mixed) [] [] (He.fAd K ("_law_mixed", none)) fd := c.def_ 16 rfl
  obtain ⟨d17, F17⟩ : ∃ fd, FunD K "_law_same" "_law_same" (defArgs s_same) (defBody s_same) (defScope s_same) [] [] (He.fAd K ("_law_same", none)) fd := c.def_ 17 rfl
  obtain ⟨d18, F18⟩ : ∃ fd, FunD K "_law_some_names" "_law_some_names" (defArgs s_some_names) (defBody s_some_names) (defScope s_some_names) [] [] (He.fAd K ("_law_some_names", none)) fd := c.def_ 18 rfl
  obtain ⟨d19, F19⟩ : ∃ fd, FunD K "_law_some_grid" "_law_some_grid" (defArgs s_some_grid) (defBody s_some_grid) (defScope s_some_grid) [] [] (He.fAd K ("_law_some_grid", none)) fd := c.def_ 19 rfl
  obtain ⟨d20, F20⟩ : ∃ fd, FunD K "_law_drawn" "_law_drawn" (defArgs s_drawn) (defBody s_drawn) (defScope s_drawn) [] [] (He.fAd K ("_law_drawn", none)) fd := c.def_ 20 rfl
  obtain ⟨d21, F21⟩ : ∃ fd, FunD K "_law_summed" "_law_summed" (defArgs s_summed) (defBody s_summed) (defScope s_summed) [] [] (He.fAd K ("_law_summed", none)) fd := c.def_ 21 rfl
  obtain ⟨d22, F22⟩ : ∃ fd, FunD K "_law_often" "_law_often" (defArgs s_often) (defBody s_often) (defScope s_often) [] [] (He.fAd K ("_law_often", none)) fd := c.def_ 22 rfl
  obtain ⟨d23, F23⟩ : ∃ fd, FunD K "_law_score" "_law_score" (defArgs s_score) (defBody s_score) (defScope s_score) [] [] (He.fAd K ("_law_score", none)) fd := c.def_ 23 rfl
  obtain ⟨d24, F24⟩ : ∃ fd, FunD K "_law_in_all" "_law_in_all" (defArgs s_in_all) (defBody s_in_all) (defScope s_in_all) [] [] (He.fAd K ("_law_in_all", none)) fd := c.def_ 24 rfl
  obtain ⟨d25, F25⟩ : ∃ fd, FunD K "_law_unrolled" "_law_unrolled" (defArgs s_unrolled) (defBody s_unrolled) (defScope s_unrolled) [] [] (He.fAd K ("_law_unrolled", none)) fd := c.def_ 25 rfl
  obtain ⟨d26, F26⟩ : ∃ fd, FunD K "_law_odd_in" "_law_odd_in" (defArgs s_odd_in) (defBody s_odd_in) (defScope s_odd_in) [] [] (He.fAd K ("_law_odd_in", none)) fd := c.def_ 26 rfl
  obtain ⟨d27, F27⟩ : ∃ fd, FunD K "_law_pool" "_law_pool" (defArgs s_pool) (defBody s_pool) (defScope s_pool) [] [] (He.fAd K ("_law_pool", none)) fd := c.def_ 27 rfl
  obtain ⟨d28, F28⟩ : ∃ fd, FunD K "law" "law" (defArgs s_law) (defBody s_law) (defScope s_law) [] [] (He.fAd K ("law", none)) fd := c.def_ 28 rfl
  obtain ⟨t42, C42⟩ := He.str_ok X G (c.fact 42 rfl)
  obtain ⟨t43, C43⟩ := He.int_ok X G (c.fact 43 rfl)
  obtain ⟨t44, C44⟩ := He.int_ok X G (c.fact 44 rfl)
  obtain ⟨t45, C45⟩ := He.int_ok X G (c.fact 45 rfl)
  exact ⟨⟨_, d0, _, d1, _, d2, _, d3, _, d4, _, d5, _, d6, _, d7, _, d8, _, d9, _, d10, _, d11, _, d12, _, d13, _, d14, _, d15, _, d16, _, d17, _, d18, _, d19, _, d20, _, d21, _, d22, _, d23, _, d24, _, d25, _, d26, _, d27, _, d28, _, _, _, _, _, _⟩, ⟨F0,
    F1,
    F2,
    F3,
    F4,
    F5,
    F6,
    F7,
    F8,
    F9,
    F10,
    F11,
    F12,
    F13,
    F14,
    F15,
    F16,
    F17,
    F18,
    F19,
    F20,
    F21,
    F22,
    F23,
    F24,
    F25,
    F26,
    F27,
    F28,
    He.glo_ok X G (c.fact 0 rfl),
    He.glo_ok X G (c.fact 1 rfl),
    He.glo_ok X G (c.fact 2 rfl),
    He.glo_ok X G (c.fact 3 rfl),
    He.glo_ok X G (c.fact 4 rfl),
    He.glo_ok X G (c.fact 5 rfl),
    He.glo_ok X G (c.fact 6 rfl),
    He.glo_ok X G (c.fact 7 rfl),
    He.glo_ok X G (c.fact 8 rfl),
    He.glo_ok X G (c.fact 9 rfl),
    He.glo_ok X G (c.fact 10 rfl),
    He.glo_ok X G (c.fact 11 rfl),
    He.glo_ok X G (c.fact 12 rfl),
    He.glo_ok X G (c.fact 13 rfl),
    He.glo_ok X G (c.fact 14 rfl),
    He.glo_ok X G (c.fact 15 rfl),
    He.glo_ok X G (c.fact 16 rfl),
    He.glo_ok X G (c.fact 17 rfl),
    He.glo_ok X G (c.fact 18 rfl),
    He.glo_ok X G (c.fact 19 rfl),
    He.glo_ok X G (c.fact 20 rfl),
    He.glo_ok X G (c.fact 21 rfl),
    He.glo_ok X G (c.fact 22 rfl),
    He.glo_ok X G (c.fact 23 rfl),
    He.glo_ok X G (c.fact 24 rfl),
    He.glo_ok X G (c.fact 25 rfl),
    He.glo_ok X G (c.fact 26 rfl),
    He.free_ok X G (c.fact 27 rfl),
    He.free_ok X G (c.fact 28 rfl),
    He.free_ok X G (c.fact 29 rfl),
    He.free_ok X G (c.fact 30 rfl),
    He.free_ok X G (c.fact 31 rfl),
    He.free_ok X G (c.fact 32 rfl),
    He.free_ok X G (c.fact 33 rfl),
    He.free_ok X G (c.fact 34 rfl),
    He.free_ok X G (c.fact 35 rfl),
    He.free_ok X G (c.fact 36 rfl),
    He.free_ok X G (c.fact 37 rfl),
    He.free_ok X G (c.fact 38 rfl),
    He.free_ok X G (c.fact 39 rfl),
    He.glo_ok X G (c.fact 40 rfl),
    He.glo_ok X G (c.fact 41 rfl),
    C42,
    ⟨_, rfl⟩,
    C43,
    ⟨_, rfl⟩,
    C44,
    ⟨_, rfl⟩,
    C45,
    ⟨_, rfl⟩,
    (let F := F2; Cb.all rfl (F.bindsN fun _ _ _ _ _ _ us hl => match us, hl with | [_], _ => rfl)),
    (let F := F3; Cb.all rfl (F.bindsN fun _ _ _ _ _ _ us hl => match us, hl with | [_, _], _ => rfl)),
    (let F := F4; Cb.all rfl (F.bindsN fun _ _ _ _ _ _ us hl => match us, hl with | [_], _ => rfl)),
    (let F := F5; Cb.all rfl (F.bindsN fun _ _ _ _ _ _ us hl => match us, hl with | [_], _ => rfl)),
    (let F := F6; Cb.all rfl (F.bindsN fun _ _ _ _ _ _ us hl => match us, hl with | [_, _], _ => rfl)),
    (let F := F7; Cb.kwo F 1 [⟨tInt, (0)⟩] (fun S => .cons rfl (.nil)) (List.cons_ne_nil _ _) rfl (fun _ _ _ _ _ _ us ks hl hl1 => match us, ks, hl, hl1 with | [_], [_], _, _ => ⟨_, _, _, _, _, _, rfl, rfl, rfl⟩)),
    (let F := F7; Cb.kwA F 1 ["deep"] (fun _ _ _ _ _ _ us ws hl hl2 => match us, ws, hl, hl2 with | [_], [_], _, _ => rfl)),
    (let F := F8; Cb.all rfl (F.bindsN fun _ _ _ _ _ _ us hl => match us, hl with | [_], _ => rfl)),
    (let F := F9; Cb.all rfl (F.bindsN fun _ _ _ _ _ _ us hl => match us, hl with | [_], _ => rfl)),
    (let F := F10; Cb.all rfl (F.bindsN fun _ _ _ _ _ _ us hl => match us, hl with | [_], _ => rfl)),
    (let F := F11; Cb.kwA F 0 ["score"] (fun _ _ _ _ _ _ us ws hl hl2 => match us, ws, hl, hl2 with | [], [_], _, _ => rfl)),
    (let F := F11; Cb.all rfl (F.bindsN fun _ _ _ _ _ _ us hl => match us, hl with | [_], _ => rfl)),
    (let F := F12; Cb.kwA F 0 ["score"] (fun _ _ _ _ _ _ us ws hl hl2 => match us, ws, hl, hl2 with | [], [_], _, _ => rfl)),
    (let F := F12; Cb.all rfl (F.bindsN fun _ _ _ _ _ _ us hl => match us, hl with | [_], _ => rfl)),
    (let F := F13; Cb.all rfl (F.bindsN fun _ _ _ _ _ _ us hl => match us, hl with | [_], _ => rfl)),
    (let F := F14; Cb.all rfl (F.bindsN fun _ _ _ _ _ _ us hl => match us, hl with | [_, _], _ => rfl)),
    (let F := F15; Cb.all rfl (F.bindsN fun _ _ _ _ _ _ us hl => match us, hl with | [_, _], _ => rfl)),
    (let F := F16; Cb.all rfl (F.bindsN fun _ _ _ _ _ _ us hl => match us, hl with | [_, _], _ => rfl)),
    (let F := F17; Cb.all rfl (F.bindsN fun _ _ _ _ _ _ us hl => match us, hl with | [_, _], _ => rfl)),
    (let F := F18; Cb.all rfl (F.bindsN fun _ _ _ _ _ _ us hl => match us, hl with | [_, _], _ => rfl)),
    (let F := F19; Cb.all rfl (F.bindsN fun _ _ _ _ _ _ us hl => match us, hl with | [_, _], _ => rfl)),
    (let F := F20; Cb.all rfl (F.bindsN fun _ _ _ _ _ _ us hl => match us, hl with | [_, _], _ => rfl)),
    (let F := F21; Cb.all rfl (F.bindsN fun _ _ _ _ _ _ us hl => match us, hl with | [_, _], _ => rfl)),
    (let F := F22; Cb.all rfl (F.bindsN fun _ _ _ _ _ _ us hl => match us, hl with | [_], _ => rfl)),
    (let F := F23; Cb.all rfl (F.bindsN fun _ _ _ _ _ _ us hl => match us, hl with | [_, _, _], _ => rfl)),
    (let F := F24; Cb.all rfl (F.bindsN fun _ _ _ _ _ _ us hl => match us, hl with | [_], _ => rfl)),
    (let F := F25; Cb.all rfl (F.bindsN fun _ _ _ _ _ _ us hl => match us, hl with | [_, _], _ => rfl)),
    (let F := F26; Cb.all rfl (F.bindsN fun _ _ _ _ _ _ us hl => match us, hl with | [_], _ => rfl)),
    (let F := F27; Cb.all rfl (F.bindsN fun _ _ _ _ _ _ us hl => match us, hl with | [_], _ => rfl))⟩, rfl⟩
def loose0 : List Str := ["is_name",
  "added",
  "odd_lot",
  "is_crossing",
  "is_step",
  "is_score",
  "need_score",
  "long_of",
  "odd_of",
  "long",
  "odd_crossers",
  "_law_bag",
  "_law_pull",
  "_law_of",
  "_law_mixed",
  "_law_same",
  "_law_some_names",
  "_law_some_grid",
  "_law_drawn",
  "_law_summed",
  "_law_often",
  "_law_score",
  "_law_in_all",
  "_law_unrolled",
  "_law_odd_in",
  "_law_pool",
  "FolkError",
  "BadScore",
  "LETTERS",
  "MOST_STEPS"]
def loose1 : List Str := ["MOST_DEEP",
  "MOST_TIMES"]
def loose : List Str := loose0 ++ loose1
abbrev R : PySem.W.OpenRow := PySem.W.OpenLaw.row PySem.Challenge.rw_bankfolk_k43_how_many_crossings_and_whos
abbrev hk : PySem.W.Hook := He.hookD 5 fa fn
def ob (s : PySem.W.SharedT) : He.AlD := He.obsDG 5 fa fn (HandSHeadRun.getT s)
theorem ob_eq (s : PySem.W.SharedT) : ob s = hk.obs s.abs := He.obsDG_eq (HandSHeadRun.getT_eq s)
theorem run (w : World) : HandSHeadRun.RunEq R (PySem.W.view R.prog [37]) hk ob 6000 loose w := by
  intro os
  kernel_rfl
end Law
end
section
open PySem L2 G
open PyProof.Rows (envOfC)
local macro_rules | `(tactic| walk_at "om") => `(tactic| first | omega | decide | assumption | (refine lt_size ?_; omega) | (refine le_size ?_; omega) | (simp only [List.length_cons, List.length_nil, List.length_append, List.length_map, List.length_replicate, List.length_set] at *; omega))
local macro_rules | `(tactic| walk_at "mul") => `(tactic| first | exact Or.inr ⟨by omega, by omega⟩ | exact Or.inl ⟨by omega, by omega⟩)
local macro_rules | `(tactic| walk_at "sl") => `(tactic| first | exact sl_lst | exact sl_own 0 rfl | exact sl_own 1 rfl | exact sl_own 2 rfl | exact sl_own 3 rfl | exact sl_own 4 rfl)
local macro_rules | `(tactic| walk_at "sv") => `(tactic| first | exact sv_lst | exact sv_tup | exact sv_lck | exact sv_own 0 rfl | exact sv_own 1 rfl | exact sv_own 2 rfl | exact sv_own 3 rfl)
local macro_rules | `(tactic| walk_at "hv") => `(tactic| first | exact hv_het | exact hv_own 0 rfl | exact hv_own 1 rfl | exact hv_own 2 rfl | exact hv_own 3 rfl)
local macro_rules | `(tactic| walk_at "Add") => `(tactic| first | refine gop_add ?_ | refine gop_addS (by walk_at "om") ?_ | refine gop_cat (by walk_at "sl") (by walk_at "sl") (by walk_at "om") ?_)
local macro_rules | `(tactic| walk_at "Sub") => `(tactic| refine gop_sub ?_)
local macro_rules | `(tactic| walk_at "Mult") => `(tactic| first | refine gop_mul (by walk_at "mul") ?_ | refine gop_rep (by walk_at "sl") (by walk_at "om") (by walk_at "om") (by walk_at "om") ?_)
local macro_rules | `(tactic| walk_at "Mod") => `(tactic| refine gop_mod (by walk_at "om") ?_)
local macro_rules | `(tactic| walk_at "FloorDiv") => `(tactic| first | refine gop_fdiv (by exact ⟨by omega, by omega⟩) ?_ | refine gop_fdivW (by omega) (by omega) ?_)
local macro_rules | `(tactic| walk_at "BitAnd") => `(tactic| refine gop_and ?_)
local macro_rules | `(tactic| walk_at "BitOr") => `(tactic| refine gop_or ?_)
local macro_rules | `(tactic| walk_at "BitXor") => `(tactic| refine gop_xor ?_)
local macro_rules | `(tactic| walk_at "Lt") => `(tactic| first | refine gop_lt ?_ | refine gop_ltS ?_)
local macro_rules | `(tactic| walk_at "LtE") => `(tactic| refine gop_le ?_)
local macro_rules | `(tactic| walk_at "Gt") => `(tactic| refine gop_gt ?_)
local macro_rules | `(tactic| walk_at "GtE") => `(tactic| refine gop_ge ?_)
local macro_rules | `(tactic| walk_at "Eq") => `(tactic| first | refine gop_eq ?_ | refine gop_eqS ?_ | refine gop_eqB ?_)
local macro_rules | `(tactic| walk_at "NotEq") => `(tactic| first | refine gop_ne ?_ | refine gop_neS ?_)
local macro_rules | `(tactic| walk_at "In") => `(tactic| first | refine gop_in flat_str (by walk_at "sv") ?_ | refine gop_in flat_int (by walk_at "sv") ?_)
local macro_rules | `(tactic| walk_at "NotIn") => `(tactic| first | refine gop_notin flat_str (by walk_at "sv") ?_ | refine gop_notin flat_int (by walk_at "sv") ?_)
local macro_rules | `(tactic| walk_at "Is") => `(tactic| refine gop_isB ?_)
local macro_rules | `(tactic| walk_at "slice") => `(tactic| first | refine gsl_list sq_lck ?_ | refine gsl_list (SL.sq (by walk_at "sl")) ?_)
local macro_rules | `(tactic| walk_at "gb len") => `(tactic| first | refine gb_len (by walk_at "sv") ?_ | refine gb_lenS (by walk_at "om") ?_ | refine gb_lenH (by walk_at "hv") ?_)
local macro_rules | `(tactic| walk_at "gb list") => `(tactic| refine gb_list (by walk_at "sv") ?_)
local macro_rules | `(tactic| walk_at "gb tuple") => `(tactic| first | refine gb_tuple (by walk_at "sl") ?_ | refine gb_tupleT rfl ?_)
local macro_rules | `(tactic| walk_at "gb sum") => `(tactic| refine gb_sum rfl (by walk_at "sl") ?_)
local macro_rules | `(tactic| walk_at "gb all") => `(tactic| refine gb_all rfl (by walk_at "sl") ?_)
local macro_rules | `(tactic| walk_at "gb any") => `(tactic| refine gb_any rfl (by walk_at "sl") ?_)
local macro_rules | `(tactic| walk_at "gb int") => `(tactic| first | refine gb_intB ?_ | refine gb_intI ?_)
local macro_rules | `(tactic| walk_at "gb min") => `(tactic| refine gb_min2 rfl ?_)
local macro_rules | `(tactic| walk_at "gb max") => `(tactic| refine gb_max2 rfl ?_)
local macro_rules | `(tactic| walk_at "gb sorted") => `(tactic| first | refine gb_sortS (by walk_at "sl") (by walk_at "om") ?_ | refine gb_sortI (by walk_at "sl") (by walk_at "om") ?_)
local macro_rules | `(tactic| walk_at "gm append") => `(tactic| first | refine gm_append 0 rfl (by walk_at "om") ?_ | refine gm_append 1 rfl (by walk_at "om") ?_ | refine gm_append 2 rfl (by walk_at "om") ?_)
local macro_rules | `(tactic| walk_at "mem") => `(tactic| first | assumption | exact .head _ | exact .tail _ (.head _) | exact .tail _ (.tail _ (.head _)) | exact .tail _ (.tail _ (.tail _ (.head _))))
local macro_rules | `(tactic| walk_at "do") => `(tactic| first | omega | (dsimp only; omega))
local macro_rules | `(tactic| walk_at "ty") => `(tactic| first | exact ty_int | exact ty_bool | exact ty_str | exact ty_tup | exact ty_pr | exact ty_tr | exact ty_lst)
local macro_rules | `(tactic| walk_at "kit") => `(tactic| first | exact kit_same | exact kit_int_bool)
/-! D1: what all laws draw from. -/
namespace Law
section
variable {P : Program} {w : World} {K : PySem.W.Frag} {mg : Str → Option Value} {base : Heap} {A : Ad}
/-- the bag -/
structure Bag where
  cells : List Int
  i : Int
  big : Int
  salt : Int
  k : Int
structure BagOk (b : Bag) : Prop where
  i0 : 0 ≤ b.i
  s0 : 0 ≤ b.salt
  s1 : b.salt < 2147483629
abbrev oBag (p : Addr) (b : Bag) : Ow := oHet p [⟨tLst tInt, b.cells⟩, ⟨tInt, b.i⟩, ⟨tInt, b.big⟩, ⟨tInt, b.salt⟩, ⟨tInt, b.k⟩]
theorem obag_i {p : Addr} {c : List Int} {i d s k : Int} {O O2 : List Ow} (h : O = oHet p [⟨tLst tInt, c⟩, ⟨tInt, i⟩, ⟨tInt, d⟩, ⟨tInt, s⟩, ⟨tInt, k⟩] :: O2) : O = oBag p ⟨c, i, d, s, k⟩ :: O2 := h
def sp_bag (K : PySem.W.Frag) : FS (List Int) where
  args := fun xs => [⟨tLck K tInt, xs⟩]
  post := fun xs t O' => ∃ p b, BagOk b ∧ t = ⟨tRef, p⟩ ∧ O' = [oBag p b]
theorem ok_bag (T : Txt K mg A) : FnG P w K mg base 1 A.f_bag A.d_bag ["_law_script"] (sp_bag K).sp := by
  refine g_fn T.F_bag sc_bag (fun _ => rfl) (fun a => [some ⟨tLck K tInt, a⟩, none, none]) (fun _ => rfl) ?_
  intro cdv Ar outer sh H E Fr S0 hr
  intro xs _
  refine gss_cons ?_; refine gs_set 1 ?_ sc_bag.nd; refine ge_int ?_
  refine gss_cons ?_; refine gs_for ?_; refine gi_list ?_; refine ge_slice ?_; refine ge_var 0 ?_; refine gpo_none ?_; refine gpo_some ?_; refine ge_int ?_; refine asPart_i ?_
  walk_at "slice"; refine asLst_i ?_
  refine ⟨fun i Γ O => ∃ (v : Option Tv) (s : Int), 0 ≤ s ∧ s < 2147483629 ∧ Γ = [some ⟨tLck K tInt, xs⟩, some ⟨tInt, s⟩, v] ∧ O = [], ⟨_, _, by decide, by decide, rfl, rfl⟩, ?_, ?_⟩
  · rintro i t Γ' O' hi ⟨x, hx, rfl⟩ ⟨v, s, h0, h1, rfl, rfl⟩
    refine gg_name 2 ?_ sc_bag.nd
    refine gss_one ?_; refine gs_set 1 ?_ sc_bag.nd; refine ge_bin ?_; refine ge_bin ?_; refine ge_bin ?_; refine ge_bin ?_; refine ge_var 1 ?_; refine ge_int ?_; walk_at "Mult"
    refine ge_var 2 ?_; walk_at "Add"; refine ge_int ?_; walk_at "Add"; refine ge_int ?_; walk_at "Mod"
    exact ⟨_, _, Int.emod_nonneg _ (by decide), Int.emod_lt_of_pos _ (by decide), rfl, rfl⟩
  · rintro Γ' O' ⟨v, s, h0, h1, rfl, rfl⟩
    refine gss_one ?_; refine gs_ret ?_; refine ge_lstO ?_; refine ga_cons ?_; refine ge_bty (T := "list") T.n_list ?_; refine ga_cons ?_; refine ge_slice ?_; refine ge_var 0 ?_
    refine gpo_none ?_; refine gpo_some ?_; refine ge_int ?_; refine asPart_i ?_; walk_at "slice"; refine ga_nil ?_; walk_at "gb list"; refine ga_cons ?_; refine ge_int ?_
    refine ga_cons ?_; refine ge_int ?_; refine ga_cons ?_; refine ge_var 1 ?_; refine ga_cons ?_; refine ge_int ?_; refine ga_nil ?_
    refine ⟨Nat.le_of_ble_eq_true rfl, _, ownIs_het, fun p => ?_⟩
    exact ⟨p, ⟨_, _, _, _, _⟩, ⟨Int.le_refl 0, h0, h1⟩, rfl, rfl⟩
structure PullA where
  p : Addr
  b : Bag
  many : Int
def sp_pull : FS PullA where
  args := fun a => [⟨tRef, a.p⟩, ⟨tInt, a.many⟩]
  own := fun a => [oBag a.p a.b]
  pre := fun a => BagOk a.b ∧ 0 < a.many ∧ a.many < 2 ^ 64
  post := fun a t O' => ∃ r b', BagOk b' ∧ 0 ≤ r ∧ r < a.many ∧ t = ⟨tInt, r⟩ ∧ O' = [oBag a.p b']
theorem ok_pull (T : Txt K mg A) : FnG P w K mg base 1 A.f_pull A.d_pull ["_law_bag_here", "_law_many"] sp_pull.sp := by
  refine g_fn T.F_pull sc_pull (fun _ => rfl) (fun a => [some ⟨tRef, a.p⟩, some ⟨tInt, a.many⟩, none, none, none, none]) (fun _ => rfl) ?_
  intro cdv Ar outer sh H E Fr S0 hr
  rintro a ⟨⟨i0, s0, s1⟩, h0, h1⟩
  refine gss_join (fun Γ O => ∃ b' v, BagOk b' ∧ Γ = [some ⟨tRef, a.p⟩, some ⟨tInt, a.many⟩, v, none, none, none] ∧ O = [oBag a.p b']) ?_ ?_
  · refine gs_if ?_; refine gt_bool ?_
    apply gw_andP
    · intro P2 h; refine gt_cmp ?_; refine ge_sub ?_; refine ge_var 0 ?_; refine ge_int ?_; first | refine gix_het 2 (by walk_at "hv") ?_ | refine gix_het 2 (hv_tup tupV_pr) ?_ | refine gix_het 2 (hv_tup tupV_tr) ?_ | refine gix_seq 2 (by walk_at "sv") rfl rfl ?_
      refine ge_int ?_; walk_at "Lt"; refine isB_i ?_; exact h
    · intro hp P2 h
      try simp only [decide_eq_true_eq, decide_eq_false_iff_not, Bool.and_eq_true, Bool.or_eq_true, Bool.not_eq_true', Bool.not_eq_false', Bool.and_eq_false_iff, Bool.or_eq_false_iff, Int.not_lt, Int.not_le] at hp
      refine gw_and1 ?_; refine gt_cmp ?_; refine ge_sub ?_; refine ge_var 0 ?_; refine ge_int ?_; first | refine gix_het 1 (by walk_at "hv") ?_ | refine gix_het 1 (hv_tup tupV_pr) ?_ | refine gix_het 1 (hv_tup tupV_tr) ?_ | refine gix_seq 1 (by walk_at "sv") rfl rfl ?_
      refine ge_blt (id := "len") T.n_len ?_; refine ga_cons ?_; refine ge_sub ?_; refine ge_var 0 ?_; refine ge_int ?_; first | refine gix_het 0 (by walk_at "hv") ?_ | refine gix_het 0 (hv_tup tupV_pr) ?_ | refine gix_het 0 (hv_tup tupV_tr) ?_ | refine gix_seq 0 (by walk_at "sv") rfl rfl ?_
      refine ga_nil ?_; walk_at "gb len"; walk_at "Lt"; refine isB_i ?_; exact h
    refine iteB (fun hc => ?_) (fun hc => ?_)
    · try simp only [decide_eq_true_eq, decide_eq_false_iff_not, Bool.and_eq_true, Bool.or_eq_true, Bool.not_eq_true', Bool.not_eq_false', Bool.and_eq_false_iff, Bool.or_eq_false_iff, Int.not_lt, Int.not_le] at hc
      refine gss_cons ?_; refine gs_set 2 ?_ sc_pull.nd; refine ge_sub ?_; refine ge_sub ?_; refine ge_var 0 ?_; refine ge_int ?_; first | refine gix_het 0 (by walk_at "hv") ?_ | refine gix_het 0 (hv_tup tupV_pr) ?_ | refine gix_het 0 (hv_tup tupV_tr) ?_ | refine gix_seq 0 (by walk_at "sv") rfl rfl ?_
      refine ge_sub ?_; refine ge_var 0 ?_; refine ge_int ?_; first | refine gix_het 1 (by walk_at "hv") ?_ | refine gix_het 1 (hv_tup tupV_pr) ?_ | refine gix_het 1 (hv_tup tupV_tr) ?_ | refine gix_seq 1 (by walk_at "sv") rfl rfl ?_
      refine gix_at (by walk_at "sv") (by omega) (by omega) fun y hy => ?_
      refine gss_cons ?_; refine gs_asg ?_; refine ge_bin ?_; refine ge_sub ?_; refine ge_var 0 ?_; refine ge_int ?_; first | refine gix_het 1 (by walk_at "hv") ?_ | refine gix_het 1 (hv_tup tupV_pr) ?_ | refine gix_het 1 (hv_tup tupV_tr) ?_ | refine gix_seq 1 (by walk_at "sv") rfl rfl ?_
      refine ge_int ?_; walk_at "Add"; refine gg_sub ?_; refine ge_var 0 ?_; refine ge_int ?_; first | refine gset_het 0 1 rfl ?_ | refine gset_het 1 1 rfl ?_ | refine gset_het 2 1 rfl ?_ | refine gset_het 3 1 rfl ?_
      refine gss_one ?_; refine gs_if ?_; refine gt_cmp ?_; refine ge_var 2 ?_; refine ge_bin ?_; refine ge_int ?_; refine ge_int ?_; refine gop_powL (r := 1000000000000000000) ⟨by decide, by decide, by decide⟩ (by decide +kernel) ?_
      walk_at "GtE"; refine isB_i ?_
      refine iteB (fun hc => ?_) (fun hc => ?_)
      · try simp only [decide_eq_true_eq, decide_eq_false_iff_not, Bool.and_eq_true, Bool.or_eq_true, Bool.not_eq_true', Bool.not_eq_false', Bool.and_eq_false_iff, Bool.or_eq_false_iff, Int.not_lt, Int.not_le] at hc
        refine gss_one ?_; refine gs_asg ?_; refine ge_var 2 ?_; refine gg_sub ?_; refine ge_var 0 ?_; refine ge_int ?_; first | refine gset_het 0 2 rfl ?_ | refine gset_het 1 2 rfl ?_ | refine gset_het 2 2 rfl ?_ | refine gset_het 3 2 rfl ?_
        refine ⟨⟨_, _, _, _, _⟩, _, ?_, rfl, obag_i rfl⟩
        exact ⟨by dsimp only; omega, by dsimp only; omega, by dsimp only; omega⟩
      · try simp only [decide_eq_true_eq, decide_eq_false_iff_not, Bool.and_eq_true, Bool.or_eq_true, Bool.not_eq_true', Bool.not_eq_false', Bool.and_eq_false_iff, Bool.or_eq_false_iff, Int.not_lt, Int.not_le] at hc
        refine gss_one ?_; refine gs_asg ?_; refine ge_bin ?_; refine ge_bin ?_; refine ge_bin ?_; refine ge_bin ?_; refine ge_sub ?_; refine ge_var 0 ?_; refine ge_int ?_; first | refine gix_het 3 (by walk_at "hv") ?_ | refine gix_het 3 (hv_tup tupV_pr) ?_ | refine gix_het 3 (hv_tup tupV_tr) ?_ | refine gix_seq 3 (by walk_at "sv") rfl rfl ?_
        refine ge_int ?_; walk_at "Mult"; refine ge_bin ?_; refine ge_var 2 ?_; refine ge_int ?_; walk_at "Mod"; walk_at "Add"; refine ge_int ?_; walk_at "Add"; refine ge_int ?_
        walk_at "Mod"; refine gg_sub ?_; refine ge_var 0 ?_; refine ge_int ?_; first | refine gset_het 0 3 rfl ?_ | refine gset_het 1 3 rfl ?_ | refine gset_het 2 3 rfl ?_ | refine gset_het 3 3 rfl ?_
        refine ⟨⟨_, _, _, _, _⟩, _, ?_, rfl, obag_i rfl⟩
        exact ⟨by dsimp only; omega, by dsimp only; omega, by dsimp only; omega⟩
    · try simp only [decide_eq_true_eq, decide_eq_false_iff_not, Bool.and_eq_true, Bool.or_eq_true, Bool.not_eq_true', Bool.not_eq_false', Bool.and_eq_false_iff, Bool.or_eq_false_iff, Int.not_lt, Int.not_le] at hc
      refine gss_nil ?_
      refine ⟨⟨_, _, _, _, _⟩, _, ?_, rfl, obag_i rfl⟩
      exact ⟨by dsimp only; omega, by dsimp only; omega, by dsimp only; omega⟩
  · rintro Γ' O' ⟨b, v, ⟨i0, s0, s1⟩, rfl, rfl⟩
    refine gss_cons ?_; refine gs_if ?_; refine gt_cmp ?_; refine ge_sub ?_; refine ge_var 0 ?_; refine ge_int ?_; first | refine gix_het 2 (by walk_at "hv") ?_ | refine gix_het 2 (hv_tup tupV_pr) ?_ | refine gix_het 2 (hv_tup tupV_tr) ?_ | refine gix_seq 2 (by walk_at "sv") rfl rfl ?_
    refine ge_int ?_; walk_at "Gt"; refine isB_i ?_
    refine iteB (fun hc => ?_) (fun hc => ?_)
    · try simp only [decide_eq_true_eq, decide_eq_false_iff_not, Bool.and_eq_true, Bool.or_eq_true, Bool.not_eq_true', Bool.not_eq_false', Bool.and_eq_false_iff, Bool.or_eq_false_iff, Int.not_lt, Int.not_le] at hc
      refine gss_cons ?_; refine gs_set 3 ?_ sc_pull.nd; refine ge_bin ?_; refine ge_sub ?_; refine ge_var 0 ?_; refine ge_int ?_; first | refine gix_het 2 (by walk_at "hv") ?_ | refine gix_het 2 (hv_tup tupV_pr) ?_ | refine gix_het 2 (hv_tup tupV_tr) ?_ | refine gix_seq 2 (by walk_at "sv") rfl rfl ?_
      refine ge_var 1 ?_; walk_at "Mod"
      refine gss_cons ?_; refine gs_asg ?_; refine ge_bin ?_; refine ge_sub ?_; refine ge_var 0 ?_; refine ge_int ?_; first | refine gix_het 2 (by walk_at "hv") ?_ | refine gix_het 2 (hv_tup tupV_pr) ?_ | refine gix_het 2 (hv_tup tupV_tr) ?_ | refine gix_seq 2 (by walk_at "sv") rfl rfl ?_
      refine ge_var 1 ?_; walk_at "FloorDiv"; refine gg_sub ?_; refine ge_var 0 ?_; refine ge_int ?_; first | refine gset_het 0 2 rfl ?_ | refine gset_het 1 2 rfl ?_ | refine gset_het 2 2 rfl ?_ | refine gset_het 3 2 rfl ?_
      refine gss_one ?_; refine gs_ret ?_; refine ge_var 3 ?_
      refine ⟨_, ⟨_, _, _, _, _⟩, ?_, Int.emod_nonneg _ (by omega), Int.emod_lt_of_pos _ h0, rfl, obag_i rfl⟩
      exact ⟨i0, s0, s1⟩
    · try simp only [decide_eq_true_eq, decide_eq_false_iff_not, Bool.and_eq_true, Bool.or_eq_true, Bool.not_eq_true', Bool.not_eq_false', Bool.and_eq_false_iff, Bool.or_eq_false_iff, Int.not_lt, Int.not_le] at hc
      refine gss_nil ?_
      refine gss_cons ?_; refine gs_asg ?_; refine ge_bin ?_; refine ge_sub ?_; refine ge_var 0 ?_; refine ge_int ?_; first | refine gix_het 4 (by walk_at "hv") ?_ | refine gix_het 4 (hv_tup tupV_pr) ?_ | refine gix_het 4 (hv_tup tupV_tr) ?_ | refine gix_seq 4 (by walk_at "sv") rfl rfl ?_
      refine ge_int ?_; walk_at "Add"; refine gg_sub ?_; refine ge_var 0 ?_; refine ge_int ?_; first | refine gset_het 0 4 rfl ?_ | refine gset_het 1 4 rfl ?_ | refine gset_het 2 4 rfl ?_ | refine gset_het 3 4 rfl ?_
      refine gss_cons ?_; refine gs_set 4 ?_ sc_pull.nd; refine ge_bin ?_; refine ge_bin ?_; refine ge_sub ?_; refine ge_var 0 ?_; refine ge_int ?_; first | refine gix_het 3 (by walk_at "hv") ?_ | refine gix_het 3 (hv_tup tupV_pr) ?_ | refine gix_het 3 (hv_tup tupV_tr) ?_ | refine gix_seq 3 (by walk_at "sv") rfl rfl ?_
      refine ge_bin ?_; refine ge_sub ?_; refine ge_var 0 ?_; refine ge_int ?_; first | refine gix_het 4 (by walk_at "hv") ?_ | refine gix_het 4 (hv_tup tupV_pr) ?_ | refine gix_het 4 (hv_tup tupV_tr) ?_ | refine gix_seq 4 (by walk_at "sv") rfl rfl ?_
      refine ge_int ?_; walk_at "Mult"; walk_at "Add"; refine ge_int ?_; walk_at "Mod"
      refine gss_cons ?_; refine gs_set 5 ?_ sc_pull.nd; refine ge_bin ?_; refine ge_bin ?_; refine ge_bin ?_; refine ge_var 4 ?_; refine ge_var 4 ?_; walk_at "Mult"; refine ge_int ?_
      walk_at "Mod"; refine ge_bin ?_; refine ge_bin ?_; refine ge_var 4 ?_; refine ge_int ?_; walk_at "Mod"; refine ge_int ?_; walk_at "Add"; walk_at "Mult"
      refine gss_cons ?_; refine gs_asg ?_; refine ge_bin ?_; refine ge_bin ?_; refine ge_bin ?_; refine ge_var 5 ?_; refine ge_bin ?_; refine ge_int ?_; refine ge_var 4 ?_; walk_at "Mult"
      walk_at "Add"; refine ge_int ?_; walk_at "Add"; refine ge_int ?_; walk_at "Mod"; refine gg_sub ?_; refine ge_var 0 ?_; refine ge_int ?_; first | refine gset_het 0 3 rfl ?_ | refine gset_het 1 3 rfl ?_ | refine gset_het 2 3 rfl ?_ | refine gset_het 3 3 rfl ?_
      refine gss_one ?_; refine gs_ret ?_; refine ge_bin ?_; refine ge_bin ?_; refine ge_bin ?_; refine ge_sub ?_; refine ge_var 0 ?_; refine ge_int ?_; first | refine gix_het 3 (by walk_at "hv") ?_ | refine gix_het 3 (hv_tup tupV_pr) ?_ | refine gix_het 3 (hv_tup tupV_tr) ?_ | refine gix_seq 3 (by walk_at "sv") rfl rfl ?_
      refine ge_int ?_; walk_at "FloorDiv"; refine ge_bin ?_; refine ge_bin ?_; refine ge_sub ?_; refine ge_var 0 ?_; refine ge_int ?_; first | refine gix_het 3 (by walk_at "hv") ?_ | refine gix_het 3 (hv_tup tupV_pr) ?_ | refine gix_het 3 (hv_tup tupV_tr) ?_ | refine gix_seq 3 (by walk_at "sv") rfl rfl ?_
      refine ge_int ?_; walk_at "Mod"; refine ge_int ?_; walk_at "Mult"; walk_at "Add"; refine ge_var 1 ?_; walk_at "Mod"
      refine ⟨_, ⟨_, _, _, _, _⟩, ?_, ?_, ?_, rfl, obag_i rfl⟩
      · exact ⟨i0, Int.emod_nonneg _ (by decide), Int.emod_lt_of_pos _ (by decide)⟩
      · exact Int.emod_nonneg _ (by omega)
      · exact Int.emod_lt_of_pos _ h0
theorem cal_pull {g : Gc} {Γ : G.Ctx} {O : List Ow} {Pk : PK'} {p : Addr} {b : Bag} {many : Int} (j : Nat) (hj : O[j]? = some (oBag p b)) (hb : BagOk b) (h0 : 0 < many) (h1 : many < 2 ^ 64)
    (k : ∀ r b', BagOk b' → 0 ≤ r → r < many → Pk ⟨tInt, r⟩ (O.set j (oBag p b'))) : Cal sp_pull g Γ 2 ([] : List Str).length (fun ts _ => ts) [⟨tRef, p⟩, ⟨tInt, many⟩] [] O Pk := by
  refine ⟨rfl, rfl, ⟨p, b, many⟩, [j], rfl, ⟨hb, h0, h1⟩, by simp only [pick, hj]; rfl, by simp, ?_, fun _ _ h => h.elim⟩
  rintro t O' ⟨r, b', k1, k2, k3, rfl, rfl⟩
  refine ⟨rfl, ?_⟩
  show Pk _ (O.set j (oBag p b') ++ [])
  rw [List.append_nil]
  exact k r b' k1 k2 k3
/-! ### one of some -/
structure OfA (K : PySem.W.Frag) {α : Type} (U : Ty α) where
  p : Addr
  b : Bag
  t : Tv
  xs : List α
  hv : ∀ O, SV K O t U xs
def sp_of (K : PySem.W.Frag) {α : Type} (U : Ty α) : FS (OfA K U) where
  args := fun a => [⟨tRef, a.p⟩, a.t]
  own := fun a => [oBag a.p a.b]
  pre := fun a => BagOk a.b ∧ 0 < a.xs.length ∧ a.xs.length < 2 ^ 62
  post := fun a t O' => ∃ y b', y ∈ a.xs ∧ BagOk b' ∧ t = ⟨U, y⟩ ∧ O' = [oBag a.p b']
variable {α : Type} {U : Ty α}
theorem ok_of (T : Txt K mg A) : FnG P w K mg base 2 A.f_of A.d_of ["_law_bag_here", "_law_some"] (sp_of K U).sp := by
  refine g_fn T.F_of sc_of (fun _ => rfl) (fun a => [some ⟨tRef, a.p⟩, some a.t]) (fun _ => rfl) ?_
  intro cdv Ar outer sh H E Fr S0 hr
  rintro a ⟨hb, h0, h1⟩
  refine gss_one ?_; refine gs_ret ?_; refine ge_sub ?_; refine ge_var 1 ?_; refine ge_call (ok_pull T) T.m_pull T.F_pull.kp T.b_pull_2 (hr.mono (by first | decide | omega)) ?_
  refine ga_cons ?_; refine ge_var 0 ?_; refine ga_cons ?_; refine ge_blt (id := "len") T.n_len ?_; refine ga_cons ?_; refine ge_var 1 ?_; refine ga_nil ?_; refine gb_len (a.hv _) ?_
  refine ga_nil ?_; refine gk_nil ?_
  refine cal_pull 0 rfl (by assumption) (by walk_at "om") (by walk_at "om") fun r1 b1 hb1 lo1 hi1 => ?_
  refine gix_at (a.hv _) (by omega) (by omega) fun y hy => ?_
  exact ⟨y, _, List.mem_of_getElem? hy, hb1, rfl, rfl⟩
theorem cal_of {g : Gc} {Γ : G.Ctx} {O : List Ow} {Pk : PK'} {p : Addr} {b : Bag} {t : Tv} {xs : List α} (j : Nat) (hj : O[j]? = some (oBag p b)) (hb : BagOk b) (hv : ∀ O, SV K O t U xs) (h0 : 0 < xs.length) (h1 : xs.length < 2 ^ 62)
    (k : ∀ y b', y ∈ xs → BagOk b' → Pk ⟨U, y⟩ (O.set j (oBag p b'))) : Cal (sp_of K U) g Γ 2 ([] : List Str).length (fun ts _ => ts) [⟨tRef, p⟩, t] [] O Pk := by
  refine ⟨rfl, rfl, ⟨p, b, t, xs, hv⟩, [j], rfl, ⟨hb, h0, h1⟩, by simp only [pick, hj]; rfl, by simp, ?_, fun _ _ h => h.elim⟩
  rintro t O' ⟨y, b', k1, k2, rfl, rfl⟩
  refine ⟨rfl, ?_⟩
  show Pk _ (O.set j (oBag p b') ++ [])
  rw [List.append_nil]
  exact k y b' k1 k2
/-! ### the things in some order -/
structure MixA (α : Type) where
  p : Addr
  b : Bag
  xs : List α
def sp_mixed {α : Type} (U : Ty α) : FS (MixA α) where
  args := fun a => [⟨tRef, a.p⟩, ⟨tLst U, a.xs⟩]
  own := fun a => [oBag a.p a.b]
  pre := fun a => BagOk a.b ∧ a.xs.length ≤ 1000
  post := fun a t O' => ∃ q ys b', ys.Perm a.xs ∧ BagOk b' ∧ t = ⟨tRef, q⟩ ∧ O' = [oBag a.p b', oLst q U ys]
theorem ok_mixed (T : Txt K mg A) : FnG P w K mg base 2 A.f_mixed A.d_mixed ["_law_bag_here", "_law_things"] (sp_mixed U).sp := by
  refine g_fn T.F_mixed sc_mixed (fun _ => rfl) (fun a => [some ⟨tRef, a.p⟩, some ⟨tLst U, a.xs⟩, none, none]) (fun _ => rfl) ?_
  intro cdv Ar outer sh H E Fr S0 hr
  rintro a ⟨hb, h1⟩
  refine gss_cons ?_; refine gs_set 2 ?_ sc_mixed.nd; refine ge_lstO ?_; refine ga_nil ?_; refine ⟨Nat.le_of_ble_eq_true rfl, _, ownIs_all (T := U) .nil, fun q => ?_⟩
  refine gss_cons ?_; refine gs_for ?_; refine gi_list ?_; refine ge_var 1 ?_; refine asLst_i ?_
  refine ⟨fun i Γ O => ∃ b v ys, BagOk b ∧ ys.Perm (a.xs.take i) ∧ Γ = [some ⟨tRef, a.p⟩, some ⟨tLst U, a.xs⟩, some ⟨tRef, q⟩, v] ∧ O = [oBag a.p b, oLst q U ys], ⟨_, _, [], hb, .nil, rfl, rfl⟩, ?_, ?_⟩
  · rintro i t Γ' O' hi ⟨x, hx, rfl⟩ ⟨b, v, ys, hb, hp, rfl, rfl⟩
    refine gg_name 3 ?_ sc_mixed.nd
    have hl : ys.length ≤ 1000 := by
      rw [hp.length_eq, List.length_take]
      omega
    refine gss_one ?_; refine gs_expr ?_; refine ge_bm PySem.F.plainAttrs_list PySem.F.slot_list_insert PySem.F.type_list_insert ?_; refine ge_var 2 ?_; refine ⟨isT_list (by walk_at "sl"), ?_⟩
    refine ga_cons ?_; refine ge_call (ok_pull T) T.m_pull T.F_pull.kp T.b_pull_2 (hr.mono (by first | decide | omega)) ?_; refine ga_cons ?_; refine ge_var 0 ?_
    refine ga_cons ?_; refine ge_bin ?_; refine ge_blt (id := "len") T.n_len ?_; refine ga_cons ?_; refine ge_var 2 ?_; refine ga_nil ?_; walk_at "gb len"; refine ge_int ?_
    walk_at "Add"; refine ga_nil ?_; refine gk_nil ?_
    refine cal_pull 0 rfl (by assumption) (by walk_at "om") (by walk_at "om") fun r1 b1 hb1 lo1 hi1 => ?_
    refine ga_cons ?_; refine ge_var 3 ?_; refine ga_nil ?_; refine gm_insert 1 rfl (Nat.lt_of_le_of_lt hl (by decide)) (by omega) (by omega) ?_
    refine ⟨_, _, _, hb1, ?_, rfl, rfl⟩
    rw [take_succ_map (β := α) hx]
    refine List.perm_middle.trans ((List.Perm.cons x ?_).trans (List.perm_append_singleton _ _).symm)
    rw [List.take_append_drop]
    exact hp
  · rintro Γ' O' ⟨b, v, ys, hb, hp, rfl, rfl⟩
    refine gss_one ?_; refine gs_ret ?_; refine ge_var 2 ?_
    rw [List.take_length] at hp
    exact ⟨_, _, _, hp, hb, rfl, rfl⟩
/-! ### two things that show alike -/
structure SameA (K : PySem.W.Frag) where
  t1 : Tv
  t2 : Tv
  d : PyData
  dv1 : ∀ O, DV K O t1 d
  dv2 : ∀ O, DV K O t2 d
  rf1 : IsRf t1
  rf2 : IsRf t2
def sp_same (K : PySem.W.Frag) : FS (SameA K) where
  args := fun a => [a.t1, a.t2]
  pre := fun a => Nice a.d 60 23000
  post := fun _ t O' => t = ⟨tBool, true⟩ ∧ O' = []
theorem ok_same (T : Txt K mg A) : FnG P w K mg base 1 A.f_same A.d_same ["_law_found", "_law_due"] (sp_same K).sp := by
  refine g_fn T.F_same sc_same (fun _ => rfl) (fun a => [some a.t1, some a.t2]) (fun _ => rfl) ?_
  intro cdv Ar outer sh H E Fr S0 hr
  intro a nc
  refine gss_one ?_; refine gs_ret ?_; refine ge_cmp ?_; refine ge_blt (id := "repr") T.n_repr ?_; refine ga_cons ?_; refine ge_var 0 ?_; refine ga_nil ?_; refine gb_reprN hr (a.dv1 _) a.rf1 nc (Nat.le_refl _) (Nat.le_refl _) ?_
  refine ge_blt (id := "repr") T.n_repr ?_; refine ga_cons ?_; refine ge_var 1 ?_; refine ga_nil ?_; refine gb_reprN hr (a.dv2 _) a.rf2 nc (Nat.le_refl _) (Nat.le_refl _) ?_
  walk_at "Eq"
  exact ⟨by rw [decide_eq_true rfl], rfl⟩
end
end Law

/-! D2: drawn companies. -/
namespace Law
theorem small_len {n : Nat} (h : n ≤ 1000) : n ≤ sizeLine := Nat.le_trans h (by decide)
/-- a name as it is drawn -/
def Drawn (n : Str) : Prop := ∃ p ∈ ends, ∃ j < 26, n = mkName p j
structure Names (ns : List Str) : Prop where
  ok : SetOk ns
  dr : ∀ n ∈ ns, Drawn n
theorem Names.nm {ns : List Str} (h : Names ns) : ∀ n ∈ ns, isName n = true := fun n hn => by
  obtain ⟨p, hp, j, hj, rfl⟩ := h.dr n hn
  exact (mk_all p hp j hj).1
theorem letters_nodup {f : Int} (h0 : 0 ≤ f) : ∀ {m : Nat}, m ≤ 26 → ((List.range m).map fun k : Nat => ((f + 7 * (0 + (k : Int))) % 26).toNat).Nodup := fun {m} hm => by
  refine List.pairwise_map.mpr (List.Pairwise.imp_of_mem (fun {a b} ha hb h e => h ?_) List.nodup_range)
  have h1 := List.mem_range.mp ha
  have h2 := List.mem_range.mp hb
  omega
section
variable {P : Program} {w : World} {K : PySem.W.Frag} {mg : Str → Option Value} {base : Heap} {A : Ad}
structure DrA where
  p : Addr
  b : Bag
  many : Int
def sp_some_names : FS DrA where
  args := fun a => [⟨tRef, a.p⟩, ⟨tInt, a.many⟩]
  own := fun a => [oBag a.p a.b]
  pre := fun a => BagOk a.b ∧ 0 ≤ a.many ∧ a.many ≤ 26
  post := fun a t O' => ∃ ns b', Names ns ∧ ns.length = a.many.toNat ∧ BagOk b' ∧ t = ⟨tLst tStr, ns⟩ ∧ O' = [oBag a.p b']
theorem ok_some_names (T : Txt K mg A) : FnG P w K mg base 3 A.f_some_names A.d_some_names ["_law_bag_here", "_law_many"] sp_some_names.sp := by
  refine g_fn T.F_some_names sc_some_names (fun _ => rfl) (fun a => [some ⟨tRef, a.p⟩, some ⟨tInt, a.many⟩, none, none, none, none, none, none]) (fun _ => rfl) ?_
  intro cdv Ar outer sh H E Fr S0 hr
  rintro a ⟨hb, m0, m1⟩
  refine gss_cons ?_; refine gs_par3 2 3 4 ?_ sc_some_names.nd; refine ga_cons ?_; refine ge_lstO ?_; refine ga_nil ?_
  refine ⟨Nat.le_of_ble_eq_true rfl, _, ownIs_all (T := tStr) .nil, fun q => ?_⟩
  refine ga_cons ?_; refine ge_str ?_; refine ga_cons ?_; refine ge_call (ok_pull T) T.m_pull T.F_pull.kp T.b_pull_2 (hr.mono (by first | decide | omega)) ?_; refine ga_cons ?_
  refine ge_var 0 ?_; refine ga_cons ?_; refine ge_int ?_; refine ga_nil ?_; refine gk_nil ?_
  refine cal_pull 0 rfl (by assumption) (by walk_at "om") (by walk_at "om") fun r1 b1 hb1 lo1 hi1 => ?_
  refine ga_nil ?_; refine ⟨_, _, _, rfl, ?_⟩
  refine gss_cons ?_; refine gs_for ?_; refine gi_range1 T.n_range ?_; refine ge_var 1 ?_; refine asRg_i (by omega) (by omega) ?_
  refine ⟨fun i Γ O => ∃ b v5 v6 v7 acc, BagOk b ∧ acc.length = i ∧ acc.map letterOf = (List.range i).map (fun k : Nat => ((r1 + 7 * (0 + (k : Int))) % 26).toNat) ∧ (∀ n ∈ acc, Drawn n) ∧ Γ = [some ⟨tRef, a.p⟩, some ⟨tInt, a.many⟩, some ⟨tRef, q⟩, some ⟨tStr, letters⟩, some ⟨tInt, r1⟩, v5, v6, v7] ∧ O = [oBag a.p b, oLst q tStr acc], ⟨_, _, _, _, [], hb1, rfl, rfl, fun _ h => (nomatch h), rfl, rfl⟩, ?_, ?_⟩
  · rintro i t Γ' O' hi rfl ⟨b, v5, v6, v7, acc, hb, hl, hm, hd, rfl, rfl⟩
    refine gg_name 5 ?_ sc_some_names.nd
    refine gss_cons ?_; refine gs_asg ?_; refine ge_call (ok_of (U := tPr K tStr tStr) T) T.m_of T.F_of.kp T.b_of_2 (hr.mono (by first | decide | omega)) ?_; refine ga_cons ?_
    refine ge_var 0 ?_; refine ga_cons ?_; refine ge_lst ?_; refine ga_cons ?_; refine ge_tup (K := K) ?_; refine ga_cons ?_; refine ge_str ?_; refine ga_cons ?_; refine ge_str ?_
    refine ga_nil ?_; refine ⟨Nat.le_of_ble_eq_true rfl, _, tupIs_pr, ?_⟩; refine ga_cons ?_; refine ge_tup (K := K) ?_; refine ga_cons ?_; refine ge_str ?_; refine ga_cons ?_
    refine ge_str ?_; refine ga_nil ?_; refine ⟨Nat.le_of_ble_eq_true rfl, _, tupIs_pr, ?_⟩; refine ga_cons ?_; refine ge_tup (K := K) ?_; refine ga_cons ?_; refine ge_str ?_
    refine ga_cons ?_; refine ge_str ?_; refine ga_nil ?_; refine ⟨Nat.le_of_ble_eq_true rfl, _, tupIs_pr, ?_⟩; refine ga_cons ?_; refine ge_tup (K := K) ?_; refine ga_cons ?_
    refine ge_str ?_; refine ga_cons ?_; refine ge_str ?_; refine ga_nil ?_; refine ⟨Nat.le_of_ble_eq_true rfl, _, tupIs_pr, ?_⟩; refine ga_cons ?_; refine ge_tup (K := K) ?_
    refine ga_cons ?_; refine ge_str ?_; refine ga_cons ?_; refine ge_str ?_; refine ga_nil ?_; refine ⟨Nat.le_of_ble_eq_true rfl, _, tupIs_pr, ?_⟩; refine ga_nil ?_; refine ⟨Nat.le_of_ble_eq_true rfl, _, lstIs_all (.cons (.cons (.cons (.cons (.cons .nil))))), ?_⟩
    refine ga_nil ?_; refine gk_nil ?_
    refine cal_of 0 rfl (by assumption) (fun _ => by walk_at "sv") (by walk_at "om") (by walk_at "om") fun y2 b2 hy2 hb2 => ?_
    refine gg_tup tupV_pr ?_; refine ggs_cons ?_; refine gg_name 6 ?_ sc_some_names.nd; refine ggs_cons ?_; refine gg_name 7 ?_ sc_some_names.nd; refine ggs_nil ?_; have hE := ends_short y2 hy2
    refine gss_one ?_; refine gs_expr ?_; refine ge_bm PySem.F.plainAttrs_list PySem.F.slot_list_append PySem.F.type_list_append ?_; refine ge_var 2 ?_; refine ⟨isT_list (by walk_at "sl"), ?_⟩
    refine ga_cons ?_; refine ge_bin ?_; refine ge_bin ?_; refine ge_var 6 ?_; refine ge_sub ?_; refine ge_var 3 ?_; refine ge_bin ?_; refine ge_bin ?_; refine ge_var 4 ?_
    refine ge_bin ?_; refine ge_int ?_; refine ge_var 5 ?_; walk_at "Mult"; walk_at "Add"; refine ge_int ?_; walk_at "Mod"; refine gix_str _ (by decide) (Int.toNat_of_nonneg (Int.emod_nonneg _ (by decide))).symm (letters_at _ (by omega)) ?_
    refine gop_addS (small_len (by have : (letterS ((r1 + 7 * (0 + (i : Int))) % 26).toNat).length = 1 := rfl; unfold letterS at this; omega)) ?_; refine ge_var 7 ?_
    refine gop_addS (small_len (by rw [strLen_append]; have : (letterS ((r1 + 7 * (0 + (i : Int))) % 26).toNat).length = 1 := rfl; unfold letterS at this; omega)) ?_
    refine ga_nil ?_; walk_at "gm append"
    have hj : ((r1 + 7 * (0 + (i : Int))) % 26).toNat < 26 := by omega
    refine ⟨_, _, _, _, _, hb2, by rw [List.length_append, hl]; rfl, ?_, ?_, rfl, rfl⟩
    · rw [List.map_append, hm, List.range_succ, List.map_append]
      exact congrArg (fun z => _ ++ [z]) (mk_all y2 hy2 _ hj).2
    · intro n hn
      rcases List.mem_append.mp hn with hn | hn
      · exact hd n hn
      · exact ⟨y2, hy2, _, hj, List.mem_singleton.mp hn⟩
  · rintro Γ' O' ⟨b, v5, v6, v7, acc, hb, hl, hm, hd, rfl, rfl⟩
    refine gss_one ?_; refine gs_ret ?_; refine ge_drop 1 ?_; refine ge_blt (id := "sorted") T.n_sorted ?_; refine ga_cons ?_; refine ge_var 2 ?_; refine ga_nil ?_; refine gb_sortS (by walk_at "sl") (by rw [hl]; omega) fun ys hp hs => ?_
    have nd : acc.Nodup := by
      have h1 := letters_nodup lo1 (m := a.many.toNat) (by omega)
      rw [← hm] at h1
      exact List.Pairwise.of_map _ (fun x y hxy e => hxy (by rw [e])) h1
    refine ⟨Nat.le_of_ble_eq_true rfl, ys, _, ⟨⟨hp.nodup_iff.mpr nd, sortedS_iff.mp hs⟩, fun n hn => hd n (hp.mem_iff.mp hn)⟩, by rw [hp.length_eq, hl], hb, rfl, rfl⟩
def sp_some_grid : FS DrA where
  args := fun a => [⟨tRef, a.p⟩, ⟨tInt, a.many⟩]
  own := fun a => [oBag a.p a.b]
  pre := fun a => BagOk a.b ∧ 0 ≤ a.many ∧ a.many ≤ 26
  post := fun a t O' => ∃ f b', (∀ i j : Nat, f i j = f j i) ∧ BagOk b' ∧ t = ⟨tLst (tLst tInt), gridOf a.many.toNat f⟩ ∧ O' = [oBag a.p b']
theorem updf_symm {f : Nat → Nat → Bool} (h : ∀ i j : Nat, f i j = f j i) (a c : Nat) (b : Bool) : ∀ i j : Nat, updf (updf f a c b) c a b i j = updf (updf f a c b) c a b j i := fun i j => by
  unfold updf
  by_cases h1 : i = a <;> by_cases h2 : j = c <;> by_cases h3 : i = c <;> by_cases h4 : j = a <;> simp_all
theorem updf_symm1 {f : Nat → Nat → Bool} (h : ∀ i j : Nat, f i j = f j i) (a : Nat) (b : Bool) : ∀ i j : Nat, updf f a a b i j = updf f a a b j i := fun i j => by
  unfold updf
  by_cases h1 : i = a <;> by_cases h2 : j = a <;> simp_all
theorem ok_some_grid (T : Txt K mg A) : FnG P w K mg base 2 A.f_some_grid A.d_some_grid ["_law_bag_here", "_law_many"] sp_some_grid.sp := by
  refine g_fn T.F_some_grid sc_some_grid (fun _ => rfl) (fun a => [some ⟨tRef, a.p⟩, some ⟨tInt, a.many⟩, none, none, none, none, none, none]) (fun _ => rfl) ?_
  intro cdv Ar outer sh H E Fr S0 hr
  rintro a ⟨hb, m0, m1⟩
  refine gss_cons ?_; refine gs_par 2 3 ?_ sc_some_grid.nd; refine ga_cons ?_; refine ge_call (ok_pull T) T.m_pull T.F_pull.kp T.b_pull_2 (hr.mono (by first | decide | omega)) ?_
  refine ga_cons ?_; refine ge_var 0 ?_; refine ga_cons ?_; refine ge_int ?_; refine ga_nil ?_; refine gk_nil ?_
  refine cal_pull 0 rfl (by assumption) (by walk_at "om") (by walk_at "om") fun r1 b1 hb1 lo1 hi1 => ?_
  refine ga_cons ?_; refine ge_call (ok_pull T) T.m_pull T.F_pull.kp T.b_pull_2 (hr.mono (by first | decide | omega)) ?_; refine ga_cons ?_; refine ge_var 0 ?_
  refine ga_cons ?_; refine ge_int ?_; refine ga_nil ?_; refine gk_nil ?_
  refine cal_pull 0 rfl (by assumption) (by walk_at "om") (by walk_at "om") fun r2 b2 hb2 lo2 hi2 => ?_
  refine ga_nil ?_; refine ⟨_, _, rfl, ?_⟩
  refine gss_cons ?_; refine gs_lc1 7 4 false ?_ sc_some_grid.nd; refine gi_range1 T.n_range ?_; refine ge_var 1 ?_; refine asRg_i (by omega) (by omega) ?_
  apply lc_ownR (fun q => oLst q tInt (List.replicate a.many.toNat (0 : Int)))
  case hl => omega
  case htg => exact fun x => tgOk_name
  case he =>
    intro i hi s H c cl fp F S0 O1 P2 h
    refine ge_bin ?_; refine ge_lst ?_; refine ga_cons ?_; refine ge_int ?_; refine ga_nil ?_; refine ⟨Nat.le_of_ble_eq_true rfl, _, lstIs_all (.cons .nil), ?_⟩; refine ge_var 1 ?_
    refine gop_repO sl_lst (by omega) (by omega) (le_size (by rw [List.length_singleton]; omega)) fun q => ?_
    rw [List.flatten_replicate_singleton]
    exact h q
  intro qs hqs p
  refine gss_grid (O0 := [oBag a.p b2]) ?_
  rw [hqs, gridOf_zero]
  simp only [List.singleton_append, List.cons_append, List.nil_append]
  refine gss_cons ?_; refine gs_for ?_; refine gi_range1 T.n_range ?_; refine ge_var 1 ?_; refine asRg_i (by omega) (by omega) ?_
  refine ⟨fun i Γ O => ∃ b v5 v6 v7 f, BagOk b ∧ (∀ i j : Nat, f i j = f j i) ∧ Γ = [some ⟨tRef, a.p⟩, some ⟨tInt, a.many⟩, some ⟨tInt, r1⟩, some ⟨tInt, r2⟩, some ⟨tRef, p⟩, v5, v6, v7] ∧ O = [oBag a.p b, oGrid p qs (gridOf a.many.toNat f)], ⟨_, _, _, _, _, hb2, fun _ _ => rfl, rfl, rfl⟩, ?_, ?_⟩
  · rintro i t Γ' O' hi rfl ⟨b, v5, v6, v7, f, hb, hf, rfl, rfl⟩
    refine gg_name 5 ?_ sc_some_grid.nd
    refine gss_cons ?_; refine gs_for ?_; refine gi_range1 T.n_range ?_; refine ge_var 5 ?_; refine asRg_i (by omega) (by omega) ?_
    refine ⟨fun j Γ O => ∃ b v6 f, BagOk b ∧ (∀ i j : Nat, f i j = f j i) ∧ Γ = [some ⟨tRef, a.p⟩, some ⟨tInt, a.many⟩, some ⟨tInt, r1⟩, some ⟨tInt, r2⟩, some ⟨tRef, p⟩, some ⟨tInt, 0 + (i : Int)⟩, v6, v7] ∧ O = [oBag a.p b, oGrid p qs (gridOf a.many.toNat f)], ⟨_, _, _, hb, hf, rfl, rfl⟩, ?_, ?_⟩
    · rintro i2 t Γ' O' hi2 rfl ⟨b, v6, f, hb, hf, rfl, rfl⟩
      refine gg_name 6 ?_ sc_some_grid.nd
      refine gss_one ?_; refine gs_if ?_; refine gt_cmp ?_; refine ge_call (ok_pull T) T.m_pull T.F_pull.kp T.b_pull_2 (hr.mono (by first | decide | omega)) ?_; refine ga_cons ?_
      refine ge_var 0 ?_; refine ga_cons ?_; refine ge_int ?_; refine ga_nil ?_; refine gk_nil ?_
      refine cal_pull 0 rfl (by assumption) (by walk_at "om") (by walk_at "om") fun r3 b3 hb3 lo3 hi3 => ?_
      refine ge_var 2 ?_; walk_at "Lt"; refine isB_i ?_
      refine iteB (fun hc => ?_) (fun hc => ?_)
      · try simp only [decide_eq_true_eq, decide_eq_false_iff_not, Bool.and_eq_true, Bool.or_eq_true, Bool.not_eq_true', Bool.not_eq_false', Bool.and_eq_false_iff, Bool.or_eq_false_iff, Int.not_lt, Int.not_le] at hc
        refine gss_one ?_; refine gs_asg ?_; refine ge_tup (K := K) ?_; refine ga_cons ?_; refine ge_int ?_; refine ga_cons ?_; refine ge_int ?_; refine ga_nil ?_; refine ⟨Nat.le_of_ble_eq_true rfl, _, tupIs_pr, ?_⟩
        refine gg_tup tupV_pr ?_; refine ggs_cons ?_; refine gg_sub ?_; refine ge_sub ?_; refine ge_var 4 ?_; refine ge_var 5 ?_; refine gix_grid 1 i rfl (by omega) (List.getElem?_eq_getElem (by omega)) ?_
        refine ge_var 6 ?_; refine gset_g 1 i i2 true rfl (by omega) (by omega) (List.getElem?_eq_getElem (by omega)) (by omega) rfl ?_; refine ggs_cons ?_; refine gg_sub ?_
        refine ge_sub ?_; refine ge_var 4 ?_; refine ge_var 6 ?_; refine gix_grid 1 i2 rfl (by omega) (List.getElem?_eq_getElem (by omega)) ?_; refine ge_var 5 ?_; refine gset_g 1 i2 i true rfl (by omega) (by omega) (List.getElem?_eq_getElem (by omega)) (by omega) rfl ?_
        refine ggs_nil ?_
        first | exact ⟨_, _, _, hb3, updf_symm hf _ _ _, rfl, rfl⟩ | exact ⟨_, _, _, hb3, hf, rfl, rfl⟩
      · try simp only [decide_eq_true_eq, decide_eq_false_iff_not, Bool.and_eq_true, Bool.or_eq_true, Bool.not_eq_true', Bool.not_eq_false', Bool.and_eq_false_iff, Bool.or_eq_false_iff, Int.not_lt, Int.not_le] at hc
        refine gss_nil ?_
        first | exact ⟨_, _, _, hb3, updf_symm hf _ _ _, rfl, rfl⟩ | exact ⟨_, _, _, hb3, hf, rfl, rfl⟩
    · rintro Γ' O' ⟨b, v6, f, hb, hf, rfl, rfl⟩
      refine gss_one ?_; refine gs_asg ?_; refine ge_bty (T := "int") T.n_int ?_; refine ga_cons ?_; refine ge_cmp ?_; refine ge_call (ok_pull T) T.m_pull T.F_pull.kp T.b_pull_2 (hr.mono (by first | decide | omega)) ?_
      refine ga_cons ?_; refine ge_var 0 ?_; refine ga_cons ?_; refine ge_int ?_; refine ga_nil ?_; refine gk_nil ?_
      refine cal_pull 0 rfl (by assumption) (by walk_at "om") (by walk_at "om") fun r4 b4 hb4 lo4 hi4 => ?_
      refine ge_var 3 ?_; walk_at "Lt"; refine ga_nil ?_; walk_at "gb int"; refine gg_sub ?_; refine ge_sub ?_; refine ge_var 4 ?_; refine ge_var 5 ?_; refine gix_grid 1 i rfl (by omega) (List.getElem?_eq_getElem (by omega)) ?_
      refine ge_var 5 ?_; refine gset_g 1 i i (decide (r4 < r2)) rfl (by omega) (by omega) (List.getElem?_eq_getElem (by omega)) (by omega) rfl ?_
      exact ⟨_, _, _, _, _, hb4, updf_symm1 hf _ _, rfl, rfl⟩
  · rintro Γ' O' ⟨b, v5, v6, v7, f, hb, hf, rfl, rfl⟩
    refine gss_one ?_; refine gs_ret ?_; refine ge_frzG (p := p) (ps := qs) (rows := gridOf a.many.toNat f) 1 ?_; refine ge_var 4 ?_
    exact ⟨rfl, rfl, f, b, hf, hb, rfl, rfl⟩
abbrev drawnT (ns : List Str) (f : Nat → Nat → Bool) : Tv := ⟨tRec [("names", ⟨tLst tStr, ns⟩), ("grid", ⟨tLst (tLst tInt), gridOf ns.length f⟩)], ()⟩
def sp_drawn : FS DrA where
  args := fun a => [⟨tRef, a.p⟩, ⟨tInt, a.many⟩]
  own := fun a => [oBag a.p a.b]
  pre := fun a => BagOk a.b ∧ 0 ≤ a.many ∧ a.many ≤ 26
  post := fun a t O' => ∃ ns f b', Names ns ∧ ns.length ≤ a.many.toNat ∧ (∀ i j : Nat, f i j = f j i) ∧ BagOk b' ∧ t = drawnT ns f ∧ O' = [oBag a.p b']
theorem ok_drawn (T : Txt K mg A) : FnG P w K mg base 4 A.f_drawn A.d_drawn ["_law_bag_here", "_law_most"] sp_drawn.sp := by
  refine g_fn T.F_drawn sc_drawn (fun _ => rfl) (fun a => [some ⟨tRef, a.p⟩, some ⟨tInt, a.many⟩, none]) (fun _ => rfl) ?_
  intro cdv Ar outer sh H E Fr S0 hr
  rintro a ⟨hb, m0, m1⟩
  refine gss_cons ?_; refine gs_set 2 ?_ sc_drawn.nd
  refine GE.imp (P := fun t O' => ∃ m b', BagOk b' ∧ 0 ≤ m ∧ m ≤ a.many ∧ t = ⟨tInt, m⟩ ∧ O' = [oBag a.p b']) ?_ ?_
  · refine ge_ifExp ?_; refine gt_cmp ?_; refine ge_call (ok_pull T) T.m_pull T.F_pull.kp T.b_pull_2 (hr.mono (by first | decide | omega)) ?_; refine ga_cons ?_; refine ge_var 0 ?_
    refine ga_cons ?_; refine ge_int ?_; refine ga_nil ?_; refine gk_nil ?_
    refine cal_pull 0 rfl (by assumption) (by walk_at "om") (by walk_at "om") fun r1 b1 hb1 lo1 hi1 => ?_
    refine ge_int ?_; walk_at "Eq"; refine isB_i ?_
    refine iteB (fun hc => ?_) (fun hc => ?_)
    · try simp only [decide_eq_true_eq, decide_eq_false_iff_not, Bool.and_eq_true, Bool.or_eq_true, Bool.not_eq_true', Bool.not_eq_false', Bool.and_eq_false_iff, Bool.or_eq_false_iff, Int.not_lt, Int.not_le] at hc
      refine ge_var 1 ?_; first | exact ⟨_, _, hb1, m0, Int.le_refl _, rfl, rfl⟩ | exact ⟨_, _, hb2, lo2, by omega, rfl, rfl⟩
    · try simp only [decide_eq_true_eq, decide_eq_false_iff_not, Bool.and_eq_true, Bool.or_eq_true, Bool.not_eq_true', Bool.not_eq_false', Bool.and_eq_false_iff, Bool.or_eq_false_iff, Int.not_lt, Int.not_le] at hc
      refine ge_call (ok_pull T) T.m_pull T.F_pull.kp T.b_pull_2 (hr.mono (by first | decide | omega)) ?_; refine ga_cons ?_; refine ge_var 0 ?_; refine ga_cons ?_
      refine ge_bin ?_; refine ge_var 1 ?_; refine ge_int ?_; walk_at "Add"; refine ga_nil ?_; refine gk_nil ?_
      refine cal_pull 0 rfl (by assumption) (by walk_at "om") (by walk_at "om") fun r2 b2 hb2 lo2 hi2 => ?_
      first | exact ⟨_, _, hb1, m0, Int.le_refl _, rfl, rfl⟩ | exact ⟨_, _, hb2, lo2, by omega, rfl, rfl⟩
  rintro t O' ⟨m, b, hb', n0, n1, rfl, rfl⟩
  refine gss_one ?_; refine gs_ret ?_; refine ge_disp (fun Fd => ?_); refine gps_cons ?_; refine ge_str ?_; refine ⟨_, rfl, ?_⟩; refine ge_call (ok_some_names T) T.m_some_names T.F_some_names.kp T.b_some_names_2 (hr.mono (by first | decide | omega)) ?_
  refine ga_cons ?_; refine ge_var 0 ?_; refine ga_cons ?_; refine ge_var 2 ?_; refine ga_nil ?_; refine gk_nil ?_
  refine ⟨rfl, rfl, ⟨_, _, _⟩, [0], rfl, ⟨by assumption, by walk_at "do", by walk_at "do"⟩, rfl, by decide, ?_, fun _ _ h => h.elim⟩; rintro t O' ⟨ns3, b3, hns3, hl3, hb3, rfl, rfl⟩; refine ⟨rfl, ?_⟩
  refine gps_cons ?_; refine ge_str ?_; refine ⟨_, rfl, ?_⟩; refine ge_call (ok_some_grid T) T.m_some_grid T.F_some_grid.kp T.b_some_grid_2 (hr.mono (by first | decide | omega)) ?_
  refine ga_cons ?_; refine ge_var 0 ?_; refine ga_cons ?_; refine ge_var 2 ?_; refine ga_nil ?_; refine gk_nil ?_
  refine ⟨rfl, rfl, ⟨_, _, _⟩, [0], rfl, ⟨by assumption, by walk_at "do", by walk_at "do"⟩, rfl, by decide, ?_, fun _ _ h => h.elim⟩; rintro t O' ⟨f4, b4, hf4, hb4, rfl, rfl⟩; refine ⟨rfl, ?_⟩
  refine gps_nil ?_; refine ⟨(show (["names", "grid"] : List Str).Nodup by decide +kernel), Nat.le_of_ble_eq_true rfl, ?_⟩
  have hl3 : ns3.length = m.toNat := hl3
  rw [← hl3]
  exact ⟨_, _, _, hns3, by omega, hf4, hb4, rfl, rfl⟩
structure PoolA where
  ns : List Str
  fs : List (Str × Tv)
/-- a pool of names -/
structure Pool (ns : List Str) : Prop where
  nd : ns.Nodup
  nm : ∀ n ∈ ns, isName n = true
  two : 2 ≤ ns.length
def sp_pool : FS PoolA where
  args := fun a => [⟨tRec a.fs, ()⟩]
  pre := fun a => (("names" : Str), (⟨tLst tStr, a.ns⟩ : Tv)) ∈ a.fs ∧ Names a.ns ∧ a.ns.length ≤ 26
  post := fun a t O' => ∃ ys, Pool ys ∧ ys.length ≤ 28 ∧ t = ⟨tLst tStr, ys⟩ ∧ O' = []
theorem drawn_not {n : Str} (h : Drawn n) : n ≠ "yak" ∧ n ≠ "zed" := by
  obtain ⟨p, hp, j, hj, rfl⟩ := h
  exact yak_zed.2.2 p hp j hj
theorem pool_end {ns : List Str} (hn : Names ns) (hl : ns.length ≤ 26) : ∃ ys, Pool ys ∧ ys.length ≤ 28 ∧ (⟨tLst tStr, if decide ((1 : Int) < (ns.length : Int)) = true then ns else ns ++ (["yak", "zed"] : List Str)⟩ : Tv) = ⟨tLst tStr, ys⟩ ∧ ([] : List Ow) = [] := by
  refine ⟨_, ?_, ?_, rfl, rfl⟩
  · by_cases h : (1 : Int) < (ns.length : Int)
    · rw [decide_eq_true h, if_pos rfl]
      exact ⟨hn.ok.nd, hn.nm, by omega⟩
    · rw [decide_eq_false h, if_neg Bool.false_ne_true]
      refine ⟨List.nodup_append.mpr ⟨hn.ok.nd, by decide +kernel, fun a ha b hb e => ?_⟩, fun n hn' => ?_, by simp⟩
      · have := drawn_not (hn.dr a ha)
        rw [e] at this
        rcases List.mem_cons.mp hb with hb | hb
        · exact this.1 hb
        · exact this.2 (List.mem_singleton.mp hb)
      · rcases List.mem_append.mp hn' with h | h
        · exact hn.nm n h
        · rcases List.mem_cons.mp h with h | h
          · rw [h]; exact yak_zed.1
          · rw [List.mem_singleton.mp h]; exact yak_zed.2.1
  · split <;> first | omega | (rw [List.length_append]; show ns.length + 2 ≤ 28; omega)
theorem ok_pool (T : Txt K mg A) : FnG P w K mg base 1 A.f_pool A.d_pool ["_law_m"] sp_pool.sp := by
  refine g_fn T.F_pool sc_pool (fun _ => rfl) (fun a => [some ⟨tRec a.fs, ()⟩]) (fun _ => rfl) ?_
  intro cdv Ar outer sh H E Fr S0 hr
  rintro a ⟨hm, hn, hl⟩
  refine gss_one ?_; refine gs_ret ?_
  apply ge_ifP
  · intro P2 h; refine gt_cmp ?_; refine ge_blt (id := "len") T.n_len ?_; refine ga_cons ?_; apply ge_rec hr; refine ge_var 0 ?_; refine ⟨rfl, ?_⟩; refine ge_str ?_; refine ⟨rfl, by walk_at "mem", ?_⟩
    refine ga_nil ?_; walk_at "gb len"; refine ge_int ?_; walk_at "Gt"; refine isB_i ?_; exact h
  · intro hc P2 h
    try simp only [decide_eq_true_eq, decide_eq_false_iff_not, Bool.and_eq_true, Bool.or_eq_true, Bool.not_eq_true', Bool.not_eq_false', Bool.and_eq_false_iff, Bool.or_eq_false_iff, Int.not_lt, Int.not_le] at hc
    apply ge_rec hr; refine ge_var 0 ?_; refine ⟨rfl, ?_⟩; refine ge_str ?_; refine ⟨rfl, by walk_at "mem", ?_⟩; exact h
  · intro hc P2 h
    try simp only [decide_eq_true_eq, decide_eq_false_iff_not, Bool.and_eq_true, Bool.or_eq_true, Bool.not_eq_true', Bool.not_eq_false', Bool.and_eq_false_iff, Bool.or_eq_false_iff, Int.not_lt, Int.not_le] at hc
    refine ge_bin ?_; apply ge_rec hr; refine ge_var 0 ?_; refine ⟨rfl, ?_⟩; refine ge_str ?_; refine ⟨rfl, by walk_at "mem", ?_⟩; refine ge_lst ?_; refine ga_cons ?_
    refine ge_str ?_; refine ga_cons ?_; refine ge_str ?_; refine ga_nil ?_; refine ⟨Nat.le_of_ble_eq_true rfl, _, lstIs_all (.cons (.cons .nil)), ?_⟩; walk_at "Add"
    exact h
  exact pool_end hn hl
end
end Law

/-! D3: names, crossings, scores. -/
namespace Law
section
variable {P : Program} {w : World} {K : PySem.W.Frag} {mg : Str → Option Value} {base : Heap} {A : Ad}
def sp_is_name : FS Str where
  args := fun s => [⟨tStr, s⟩]
  pre := fun s => s.cps.size ≤ 1000
  post := fun s t O' => t = ⟨tBool, isName s⟩ ∧ O' = []
theorem isName_eq (s : Str) : (decide ((1 : Int) ≤ (s.length : Int)) && decide ((s.length : Int) ≤ 8) && (s.cps.toList.map fun c => decide (c ∈ letters.cps.toList)).all id) = isName s := by
  unfold isName
  rw [List.all_map, Bool.and_assoc]
  have e1 : decide ((1 : Int) ≤ (s.length : Int)) = decide (1 ≤ s.cps.size) := decide_eq_decide.mpr (by show (1 : Int) ≤ (s.cps.size : Int) ↔ _; omega)
  have e2 : decide ((s.length : Int) ≤ 8) = decide (s.cps.size ≤ 8) := decide_eq_decide.mpr (by show (s.cps.size : Int) ≤ 8 ↔ _; omega)
  rw [e1, e2]
  rfl
theorem ok_is_name (T : Txt K mg A) : FnG P w K mg base 1 A.f_is_name A.d_is_name ["text"] sp_is_name.sp := by
  refine g_fn T.F_is_name sc_is_name (fun _ => rfl) (fun a => [some ⟨tStr, a⟩, none]) (fun _ => rfl) ?_
  intro cdv Ar outer sh H E Fr S0 hr
  intro a hl
  refine gss_one ?_; refine gs_ret ?_
  apply ge_andP
  · intro P2 h
    apply ge_chainP
    · intro P2 h; refine ge_int ?_; exact h
    · intro P2 h; refine ge_blt (id := "len") T.n_len ?_; refine ga_cons ?_; refine ge_var 0 ?_; refine ga_nil ?_; refine gb_lenS (le_size (Nat.le_trans hl (by decide))) ?_
      exact h
    · intro P2 h; walk_at "LtE"; exact h
    · intro P2 h; refine ge_int ?_; exact h
    · intro P2 h; walk_at "LtE"; exact h
    case hm => with_unfolding_all rfl
    exact h
  · intro hp P2 h
    try simp only [decide_eq_true_eq, decide_eq_false_iff_not, Bool.and_eq_true, Bool.or_eq_true, Bool.not_eq_true', Bool.not_eq_false', Bool.and_eq_false_iff, Bool.or_eq_false_iff, Int.not_lt, Int.not_le] at hp
    refine ge_one ?_; refine ge_blt (id := "all") T.n_all ?_; refine ga_cons ?_; refine ge_lc1 1 true ?_ sc_is_name.nd; refine gi_str ?_; refine ge_var 0 ?_; refine asStr_i ?_
    apply lc_mapS
    case hl => exact Nat.le_trans hl (by decide)
    case htg => exact fun x => tgOk_name
    case he =>
      intro i x hx s H c cl fp F S0 P2 h
      refine ge_cmp ?_; refine ge_var 1 ?_; refine ge_glob (t := ⟨tStr, "abcdefghijklmnopqrstuvwxyz"⟩) T.v_LETTERS T.r_LETTERS (fun _ => rfl) ?_; refine gop_inS ?_
      exact h
    refine fzIs_t ?_; refine ga_nil ?_; walk_at "gb all"; exact h
  exact ⟨by rw [← isName_eq]; rfl, rfl⟩
structure TwoA where
  xs : List Str
  ys : List Str
/-- two sets of names -/
def sp_added (K : PySem.W.Frag) : FS TwoA where
  args := fun a => [⟨tTup K tStr, a.xs⟩, ⟨tTup K tStr, a.ys⟩]
  pre := fun a => a.xs.length + a.ys.length < 64
  post := fun a t O' => t = ⟨tTup K tStr, add a.xs a.ys⟩ ∧ O' = []
theorem symd_len (xs ys : List Str) : (symd xs ys).length ≤ xs.length + ys.length := by
  unfold symd
  rw [List.length_append]
  exact Nat.add_le_add (List.length_filter_le _ _) (List.length_filter_le _ _)
theorem fl_len {α : Type} (xs : List α) (p : α → Bool) : ((xs.filter p).map fun x => x).length ≤ xs.length := by
  rw [List.length_map]; exact List.length_filter_le _ _
theorem symd_eq (xs ys : List Str) : ((xs.filter fun n => !decide (n ∈ ys)).map fun x => x) ++ ((ys.filter fun n => !decide (n ∈ xs)).map fun x => x) = symd xs ys := by
  unfold symd
  rw [List.map_id', List.map_id']
theorem ok_added (T : Txt K mg A) : FnG P w K mg base 1 A.f_added A.d_added ["one", "other"] (sp_added K).sp := by
  refine g_fn T.F_added sc_added (fun _ => rfl) (fun a => [some ⟨tTup K tStr, a.xs⟩, some ⟨tTup K tStr, a.ys⟩, none]) (fun _ => rfl) ?_
  intro cdv Ar outer sh H E Fr S0 hr
  intro a hl; replace hl : a.xs.length + a.ys.length < 64 := hl
  refine gss_one ?_; refine gs_ret ?_; refine ge_bty (T := "tuple") T.n_tuple ?_; refine ga_cons ?_; refine ge_blt (id := "sorted") T.n_sorted ?_; refine ga_cons ?_
  refine ge_bin ?_; refine ge_lc1 2 true ?_ sc_added.nd; refine gi_tup ?_; refine ge_var 0 ?_; refine asTup_i ?_
  apply lc_fil
  case hl => walk_at "om"
  case htg => exact fun x => tgOk_name
  case hp =>
    intro i x hx s H c cl fp F S0 P2 h
    refine gt_cmp ?_; refine ge_var 2 ?_; refine ge_var 1 ?_; walk_at "NotIn"; refine isB_i ?_; exact h
  case he =>
    intro i x hx hp s H c cl fp F S0 P2 h
    refine ge_var 2 ?_; exact h
  refine fzIs_t ?_; refine ge_lc1 2 true ?_ sc_added.nd; refine gi_tup ?_; refine ge_var 1 ?_; refine asTup_i ?_
  apply lc_fil
  case hl => walk_at "om"
  case htg => exact fun x => tgOk_name
  case hp =>
    intro i x hx s H c cl fp F S0 P2 h
    refine gt_cmp ?_; refine ge_var 2 ?_; refine ge_var 0 ?_; walk_at "NotIn"; refine isB_i ?_; exact h
  case he =>
    intro i x hx hp s H c cl fp F S0 P2 h
    refine ge_var 2 ?_; exact h
  refine fzIs_t ?_; refine gop_cat sl_lst sl_lst (le_size (by have h1 := fl_len a.xs (fun n => !decide (n ∈ a.ys)); have h2 := fl_len a.ys (fun n => !decide (n ∈ a.xs)); omega)) ?_
  refine ga_nil ?_; refine gb_sortS sl_lst (by rw [symd_eq]; exact Nat.lt_of_le_of_lt (symd_len _ _) hl) fun zs hp hs => ?_; refine ga_nil ?_; refine gb_tuple (K := K) sl_lst ?_
  rw [symd_eq] at hp
  exact ⟨by rw [srt_eq hp hs]; rfl, rfl⟩
theorem ok_summed (T : Txt K mg A) : FnG P w K mg base 1 A.f_summed A.d_summed ["_law_one", "_law_other"] (sp_added K).sp := by
  refine g_fn T.F_summed sc_summed (fun _ => rfl) (fun a => [some ⟨tTup K tStr, a.xs⟩, some ⟨tTup K tStr, a.ys⟩, none, none]) (fun _ => rfl) ?_
  intro cdv Ar outer sh H E Fr S0 hr
  intro a hl; replace hl : a.xs.length + a.ys.length < 64 := hl
  refine gss_cons ?_; refine gs_set 2 ?_ sc_summed.nd; refine ge_bin ?_; refine ge_lc1 3 true ?_ sc_summed.nd; refine gi_tup ?_; refine ge_var 0 ?_; refine asTup_i ?_
  apply lc_fil
  case hl => walk_at "om"
  case htg => exact fun x => tgOk_name
  case hp =>
    intro i x hx s H c cl fp F S0 P2 h
    refine gt_cmp ?_; refine ge_var 3 ?_; refine ge_var 1 ?_; walk_at "NotIn"; refine isB_i ?_; exact h
  case he =>
    intro i x hx hp s H c cl fp F S0 P2 h
    refine ge_var 3 ?_; exact h
  refine fzIs_t ?_; refine ge_lc1 3 true ?_ sc_summed.nd; refine gi_tup ?_; refine ge_var 1 ?_; refine asTup_i ?_
  apply lc_fil
  case hl => walk_at "om"
  case htg => exact fun x => tgOk_name
  case hp =>
    intro i x hx s H c cl fp F S0 P2 h
    refine gt_cmp ?_; refine ge_var 3 ?_; refine ge_var 0 ?_; walk_at "NotIn"; refine isB_i ?_; exact h
  case he =>
    intro i x hx hp s H c cl fp F S0 P2 h
    refine ge_var 3 ?_; exact h
  refine fzIs_t ?_; refine gop_cat sl_lst sl_lst (le_size (by have h1 := fl_len a.xs (fun n => !decide (n ∈ a.ys)); have h2 := fl_len a.ys (fun n => !decide (n ∈ a.xs)); omega)) ?_
  refine gss_one ?_; refine gs_ret ?_; refine ge_bty (T := "tuple") T.n_tuple ?_; refine ga_cons ?_; refine ge_blt (id := "sorted") T.n_sorted ?_; refine ga_cons ?_
  refine ge_var 2 ?_; refine ga_nil ?_; refine gb_sortS sl_lst (by rw [symd_eq]; exact Nat.lt_of_le_of_lt (symd_len _ _) hl) fun zs hp hs => ?_; refine ga_nil ?_
  refine gb_tuple (K := K) sl_lst ?_
  rw [symd_eq] at hp
  exact ⟨by rw [srt_eq hp hs]; rfl, rfl⟩
/-- a crossing -/
structure Cr (ns : List Str) : Prop where
  nd : ns.Nodup
  l1 : 1 ≤ ns.length
  l2 : ns.length ≤ 2
  nm : ∀ n ∈ ns, isName n = true
def sp_is_crossing (K : PySem.W.Frag) : FS (List Str) where
  args := fun ns => [⟨tTup K tStr, ns⟩]
  pre := fun ns => Cr ns
  post := fun _ t O' => t = ⟨tBool, true⟩ ∧ O' = []
theorem cr_ne {ns : List Str} (h : Cr ns) (hl : ¬ (ns.length : Int) = 1) : (!decide (ns[0]?.getD ("" : Str) = ns[1]?.getD ("" : Str))) = true := by
  have h1 := h.l1
  have h2 := h.l2
  match ns, h, h1, h2 with
  | [a, b], h, _, _ =>
    have := (List.nodup_cons.mp h.nd).1
    simp only [List.mem_singleton] at this
    show (!decide (a = b)) = true
    rw [decide_eq_false this]; rfl
  | [a], _, _, _ => exact absurd rfl hl
  | [], _, h1, _ => cases h1
  | _ :: _ :: _ :: _, _, _, h2 => simp at h2
theorem cr_all {ns : List Str} (h : Cr ns) : (ns.map fun n => (true && isName n)).all id = true := by
  rw [List.all_map, List.all_eq_true]
  intro n hn
  simpa using h.nm n hn
theorem cr_len {ns : List Str} (h : Cr ns) : (!decide ((ns.length : Int) ∈ [(1 : Int), 2])) = false := by
  have h1 := h.l1
  have h2 := h.l2
  rcases (by omega : ns.length = 1 ∨ ns.length = 2) with e | e <;> rw [e] <;> decide
theorem ok_is_crossing (T : Txt K mg A) : FnG P w K mg base 2 A.f_is_crossing A.d_is_crossing ["names"] (sp_is_crossing K).sp := by
  refine g_fn T.F_is_crossing sc_is_crossing (fun _ => rfl) (fun a => [some ⟨tTup K tStr, a⟩, none, none]) (fun _ => rfl) ?_
  intro cdv Ar outer sh H E Fr S0 hr
  intro ns hc
  refine gss_cons ?_; refine gs_if ?_; refine gt_bool ?_
  apply gw_orP
  · intro P2 h; refine gt_not ?_; refine gt_val ?_; refine ge_blt (id := "isinstance") T.n_isinstance ?_; refine ga_cons ?_; refine ge_var 0 ?_; refine ga_cons ?_; refine ge_ty (n := "tuple") T.n_tuple ?_
    refine ga_nil ?_; refine gb_isi (by walk_at "ty") (by walk_at "kit") ?_; refine isB_i ?_; exact h
  · intro hp P2 h
    try simp only [decide_eq_true_eq, decide_eq_false_iff_not, Bool.and_eq_true, Bool.or_eq_true, Bool.not_eq_true', Bool.not_eq_false', Bool.and_eq_false_iff, Bool.or_eq_false_iff, Int.not_lt, Int.not_le] at hp
    refine gw_or1 ?_; refine gt_cmp ?_; refine ge_blt (id := "len") T.n_len ?_; refine ga_cons ?_; refine ge_var 0 ?_; refine ga_nil ?_; walk_at "gb len"; refine ge_tup (K := K) ?_
    refine ga_cons ?_; refine ge_int ?_; refine ga_cons ?_; refine ge_int ?_; refine ga_nil ?_; refine ⟨Nat.le_of_ble_eq_true rfl, _, tupIs_all (.cons (.cons .nil)), ?_⟩
    walk_at "NotIn"; refine isB_i ?_; exact h
  refine iteFb (by rw [cr_len hc]; rfl) ?_ -- only false
  refine gss_nil ?_
  refine gss_cons ?_; refine gs_set 1 ?_ sc_is_crossing.nd; refine ge_blt (id := "all") T.n_all ?_; refine ga_cons ?_; refine ge_lc1 2 true ?_ sc_is_crossing.nd; refine gi_tup ?_
  refine ge_var 0 ?_; refine asTup_i ?_
  apply lc_map
  case hl => exact Nat.le_trans hc.l2 (by decide)
  case htg => exact fun x => tgOk_name
  case he =>
    intro i x hx s H c cl fp F S0 P2 h
    apply ge_andP
    · intro P2 h; refine ge_blt (id := "isinstance") T.n_isinstance ?_; refine ga_cons ?_; refine ge_var 2 ?_; refine ga_cons ?_; refine ge_ty (n := "str") T.n_str ?_; refine ga_nil ?_
      refine gb_isi (by walk_at "ty") (by walk_at "kit") ?_; exact h
    · intro hp P2 h
      try simp only [decide_eq_true_eq, decide_eq_false_iff_not, Bool.and_eq_true, Bool.or_eq_true, Bool.not_eq_true', Bool.not_eq_false', Bool.and_eq_false_iff, Bool.or_eq_false_iff, Int.not_lt, Int.not_le] at hp
      refine ge_one ?_; refine ge_call (ok_is_name T) T.m_is_name T.F_is_name.kp T.b_is_name_1 (hr.mono (by first | decide | omega)) ?_; refine ga_cons ?_; refine ge_var 2 ?_
      refine ga_nil ?_; refine gk_nil ?_
      refine ⟨rfl, rfl, x, [], rfl, Nat.le_trans (isName_small (hc.nm x (List.mem_of_getElem? hx))).2 (by decide), rfl, by decide, ?_, fun _ _ h => h.elim⟩; rintro t O' ⟨rfl, rfl⟩; refine ⟨rfl, ?_⟩
      exact h
    exact h
  refine fzIs_t ?_; refine ga_nil ?_; walk_at "gb all"
  refine gss_one ?_; refine gs_ret ?_
  apply ge_andP
  · intro P2 h; refine ge_var 1 ?_; exact h
  · intro hp P2 h
    try simp only [decide_eq_true_eq, decide_eq_false_iff_not, Bool.and_eq_true, Bool.or_eq_true, Bool.not_eq_true', Bool.not_eq_false', Bool.and_eq_false_iff, Bool.or_eq_false_iff, Int.not_lt, Int.not_le] at hp
    refine ge_one ?_
    apply ge_orP
    · intro P2 h; refine ge_cmp ?_; refine ge_blt (id := "len") T.n_len ?_; refine ga_cons ?_; refine ge_var 0 ?_; refine ga_nil ?_; walk_at "gb len"; refine ge_int ?_; walk_at "Eq"
      exact h
    · intro hp P2 h
      try simp only [decide_eq_true_eq, decide_eq_false_iff_not, Bool.and_eq_true, Bool.or_eq_true, Bool.not_eq_true', Bool.not_eq_false', Bool.and_eq_false_iff, Bool.or_eq_false_iff, Int.not_lt, Int.not_le] at hp
      refine ge_one ?_; refine ge_cmp ?_; refine ge_sub ?_; refine ge_var 0 ?_; refine ge_int ?_; refine gix_getD 0 ("" : Str) sv_tup rfl (by have := hc.l1; omega) ?_; refine ge_sub ?_
      refine ge_var 0 ?_; refine ge_int ?_; refine gix_getD 1 ("" : Str) sv_tup rfl (by have h1 := hc.l1; omega) ?_; walk_at "NotEq"; exact h
    exact h
  refine ⟨?_, rfl⟩
  rw [cr_all hc]
  by_cases h : (ns.length : Int) = 1
  · rw [decide_eq_true h]; rfl
  · rw [cr_ne hc h, Bool.or_true]; rfl
structure NamesOf (p : List Str) : Prop where
  nm : ∀ n ∈ p, isName n = true
  sh : p.length ≤ 28
theorem cr_of {p ns : List Str} (hp : NamesOf p) (h : CrOk p ns) : Cr ns := ⟨h.nd, h.l1, h.l2, fun n hn => hp.nm n (h.sub n hn)⟩
structure ScA where
  p : List Str
  sc : Sc
  deep : Int
def sp_is_score (K : PySem.W.Frag) (d : Nat) : FS ScA where
  args := fun a => [tvSc K a.sc, ⟨tInt, a.deep⟩]
  pre := fun a => NamesOf a.p ∧ a.sc.Ok a.p ∧ 1 ≤ a.sc.steps.length ∧ a.sc.steps.length ≤ 40 ∧ dep a.sc ≤ d ∧ 0 ≤ a.deep ∧ a.deep + (dep a.sc : Int) ≤ 5
  post := fun _ t O' => t = ⟨tBool, true⟩ ∧ O' = []
structure StA where
  p : List Str
  x : Stp
  deep : Int
def sp_is_step (K : PySem.W.Frag) (d : Nat) : FS StA where
  args := fun a => [⟨tStp K, a.x⟩, ⟨tInt, a.deep⟩]
  pre := fun a => NamesOf a.p ∧ a.x.Ok a.p ∧ depS a.x ≤ d ∧ 0 ≤ a.deep ∧ a.deep + (depS a.x : Int) ≤ 5
  post := fun _ t O' => t = ⟨tBool, true⟩ ∧ O' = []
theorem t_times : decide (("times" : Str) = "times") = true := by decide +kernel
theorem ok_is_step (T : Txt K mg A) (d : Nat) (ih : ∀ d', d = d' + 1 → FnG P w K mg base (2 * d' + 4) A.f_is_score A.d_is_score ["score", "deep"] (sp_is_score K d').sp) : FnG P w K mg base (2 * d + 3) A.f_is_step A.d_is_step ["step", "deep"] (sp_is_step K d).sp := by
  refine g_fn T.F_is_step sc_is_step (fun _ => rfl) (fun a => [some ⟨tStp K, a.x⟩, some ⟨tInt, a.deep⟩]) (fun _ => rfl) ?_
  intro cdv Ar outer sh H E Fr S0 hr
  rintro a ⟨hN, hO, hd, h0, h5⟩
  rcases hX : a.x with ns | ⟨n, i⟩
  · skip
    have hO : CrOk a.p ns := by rw [hX] at hO; exact hO
    refine gss_cons ?_; refine gs_if ?_; refine gt_bool ?_
    apply gw_orP
    · intro P2 h; refine gt_not ?_; refine gt_val ?_; refine ge_blt (id := "isinstance") T.n_isinstance ?_; refine ga_cons ?_; refine ge_var 0 ?_; refine ga_cons ?_; refine ge_ty (n := "tuple") T.n_tuple ?_
      refine ga_nil ?_; refine gb_isi (ty_hv (tv_cross rfl)) (by walk_at "kit") ?_; refine isB_i ?_; exact h
    · intro hp P2 h
      try simp only [decide_eq_true_eq, decide_eq_false_iff_not, Bool.and_eq_true, Bool.or_eq_true, Bool.not_eq_true', Bool.not_eq_false', Bool.and_eq_false_iff, Bool.or_eq_false_iff, Int.not_lt, Int.not_le] at hp
      refine gw_or1 ?_; refine gt_cmp ?_; refine ge_blt (id := "len") T.n_len ?_; refine ga_cons ?_; refine ge_var 0 ?_; refine ga_nil ?_; refine gb_lenH (hv_tup (tv_cross rfl)) ?_
      refine ge_int ?_; walk_at "Lt"; refine isB_i ?_; exact h
    refine iteFb (by rfl) ?_ -- only false
    refine gss_nil ?_
    refine gss_cons ?_; refine gs_if ?_; refine gt_cmp ?_; refine ge_sub ?_; refine ge_var 0 ?_; refine ge_int ?_; refine gix_tag ?_; refine ge_str ?_; walk_at "Eq"; refine isB_i ?_
    refine iteTb tg_cc ?_ -- only true
    refine gss_one ?_; refine gs_ret ?_
    apply ge_andP
    · intro P2 h; refine ge_cmp ?_; refine ge_blt (id := "len") T.n_len ?_; refine ga_cons ?_; refine ge_var 0 ?_; refine ga_nil ?_; refine gb_lenH (hv_tup (tv_cross rfl)) ?_
      refine ge_int ?_; walk_at "Eq"; exact h
    · intro hp P2 h
      try simp only [decide_eq_true_eq, decide_eq_false_iff_not, Bool.and_eq_true, Bool.or_eq_true, Bool.not_eq_true', Bool.not_eq_false', Bool.and_eq_false_iff, Bool.or_eq_false_iff, Int.not_lt, Int.not_le] at hp
      refine ge_one ?_; refine ge_call (ok_is_crossing T) T.m_is_crossing T.F_is_crossing.kp T.b_is_crossing_1 (hr.mono (by first | decide | omega)) ?_; refine ga_cons ?_
      refine ge_sub ?_; refine ge_var 0 ?_; refine ge_int ?_; refine gix_het 1 (hv_tup (tv_cross rfl)) ?_; refine ga_nil ?_; refine gk_nil ?_
      refine ⟨rfl, rfl, ns, [], rfl, cr_of hN hO, rfl, by decide, ?_, fun _ _ h => h.elim⟩; rintro t O' ⟨rfl, rfl⟩; refine ⟨rfl, ?_⟩
      exact h
    exact ⟨rfl, rfl⟩
  · skip
    have hO : (0 ≤ n ∧ n ≤ 1000000000000000000) ∧ i.Ok a.p ∧ 1 ≤ i.steps.length ∧ i.steps.length ≤ 40 := by rw [hX] at hO; exact hO
    have hdd : depS a.x = dep i + 1 := by rw [hX]; rfl
    rw [hdd] at hd h5
    obtain ⟨d', rfl⟩ : ∃ d', d = d' + 1 := ⟨d - 1, by omega⟩
    refine gss_cons ?_; refine gs_if ?_; refine gt_bool ?_
    apply gw_orP
    · intro P2 h; refine gt_not ?_; refine gt_val ?_; refine ge_blt (id := "isinstance") T.n_isinstance ?_; refine ga_cons ?_; refine ge_var 0 ?_; refine ga_cons ?_; refine ge_ty (n := "tuple") T.n_tuple ?_
      refine ga_nil ?_; refine gb_isi (ty_hv (tv_times rfl)) (by walk_at "kit") ?_; refine isB_i ?_; exact h
    · intro hp P2 h
      try simp only [decide_eq_true_eq, decide_eq_false_iff_not, Bool.and_eq_true, Bool.or_eq_true, Bool.not_eq_true', Bool.not_eq_false', Bool.and_eq_false_iff, Bool.or_eq_false_iff, Int.not_lt, Int.not_le] at hp
      refine gw_or1 ?_; refine gt_cmp ?_; refine ge_blt (id := "len") T.n_len ?_; refine ga_cons ?_; refine ge_var 0 ?_; refine ga_nil ?_; refine gb_lenH (hv_tup (tv_times rfl)) ?_
      refine ge_int ?_; walk_at "Lt"; refine isB_i ?_; exact h
    refine iteFb (by rfl) ?_ -- only false
    refine gss_nil ?_
    refine gss_cons ?_; refine gs_if ?_; refine gt_cmp ?_; refine ge_sub ?_; refine ge_var 0 ?_; refine ge_int ?_; refine gix_tag ?_; refine ge_str ?_; walk_at "Eq"; refine isB_i ?_
    refine iteFb tg_tc ?_ -- only false
    refine gss_nil ?_
    refine gss_cons ?_; refine gs_if ?_; refine gt_bool ?_
    apply gw_orP
    · intro P2 h; refine gt_cmp ?_; refine ge_sub ?_; refine ge_var 0 ?_; refine ge_int ?_; refine gix_tag ?_; refine ge_str ?_; walk_at "NotEq"; refine isB_i ?_; exact h
    · intro hp P2 h
      try simp only [decide_eq_true_eq, decide_eq_false_iff_not, Bool.and_eq_true, Bool.or_eq_true, Bool.not_eq_true', Bool.not_eq_false', Bool.and_eq_false_iff, Bool.or_eq_false_iff, Int.not_lt, Int.not_le] at hp
      apply gw_orP
      · intro P2 h; refine gt_cmp ?_; refine ge_blt (id := "len") T.n_len ?_; refine ga_cons ?_; refine ge_var 0 ?_; refine ga_nil ?_; refine gb_lenH (hv_tup (tv_times rfl)) ?_
        refine ge_int ?_; walk_at "NotEq"; refine isB_i ?_; exact h
      · intro hp P2 h
        try simp only [decide_eq_true_eq, decide_eq_false_iff_not, Bool.and_eq_true, Bool.or_eq_true, Bool.not_eq_true', Bool.not_eq_false', Bool.and_eq_false_iff, Bool.or_eq_false_iff, Int.not_lt, Int.not_le] at hp
        apply gw_orP
        · intro P2 h; refine gt_not ?_; refine gt_val ?_; refine ge_blt (id := "isinstance") T.n_isinstance ?_; refine ga_cons ?_; refine ge_sub ?_; refine ge_var 0 ?_; refine ge_int ?_
          refine gix_het 1 (hv_tup (tv_times rfl)) ?_; refine ga_cons ?_; refine ge_ty (n := "int") T.n_int ?_; refine ga_nil ?_; refine gb_isi (by walk_at "ty") (by walk_at "kit") ?_
          refine isB_i ?_; exact h
        · intro hp P2 h
          try simp only [decide_eq_true_eq, decide_eq_false_iff_not, Bool.and_eq_true, Bool.or_eq_true, Bool.not_eq_true', Bool.not_eq_false', Bool.and_eq_false_iff, Bool.or_eq_false_iff, Int.not_lt, Int.not_le] at hp
          refine gw_or1 ?_; refine gt_val ?_; refine ge_blt (id := "isinstance") T.n_isinstance ?_; refine ga_cons ?_; refine ge_sub ?_; refine ge_var 0 ?_; refine ge_int ?_
          refine gix_het 1 (hv_tup (tv_times rfl)) ?_; refine ga_cons ?_; refine ge_ty (n := "bool") T.n_bool ?_; refine ga_nil ?_; refine gb_isi (by walk_at "ty") (by walk_at "kit") ?_
          refine isB_i ?_; exact h
        exact h
      exact h
    refine iteFb (by show (!decide (("times" : Str) = "times") || _) = false; rw [t_times]; rfl) ?_ -- only false
    refine gss_nil ?_
    refine gss_one ?_; refine gs_ret ?_
    apply ge_andP
    · intro P2 h
      apply ge_chainP
      · intro P2 h; refine ge_int ?_; exact h
      · intro P2 h; refine ge_sub ?_; refine ge_var 0 ?_; refine ge_int ?_; refine gix_het 1 (hv_tup (tv_times rfl)) ?_; exact h
      · intro P2 h; walk_at "LtE"; exact h
      · intro P2 h; refine ge_glob (t := ⟨tInt, (1000000000000000000)⟩) T.v_MOST_TIMES T.r_MOST_TIMES (fun _ => rfl) ?_; exact h
      · intro P2 h; walk_at "LtE"; exact h
      case hm => with_unfolding_all rfl
      exact h
    · intro hp P2 h
      try simp only [decide_eq_true_eq, decide_eq_false_iff_not, Bool.and_eq_true, Bool.or_eq_true, Bool.not_eq_true', Bool.not_eq_false', Bool.and_eq_false_iff, Bool.or_eq_false_iff, Int.not_lt, Int.not_le] at hp
      refine ge_one ?_; refine ge_call (ih d' rfl) T.m_is_score T.F_is_score.kp T.b_is_score_1_deep (hr.mono (by first | decide | omega)) ?_; refine ga_cons ?_; refine ge_sub ?_
      refine ge_var 0 ?_; refine ge_int ?_; refine gix_het 2 (hv_tup (tv_times rfl)) ?_; refine ga_nil ?_; refine gk_cons ?_; refine ge_bin ?_; refine ge_var 1 ?_; refine ge_int ?_
      walk_at "Add"; refine gk_nil ?_
      refine ⟨rfl, rfl, ⟨a.p, i, a.deep + 1⟩, [], rfl, ⟨hN, hO.2.1, hO.2.2.1, hO.2.2.2, by dsimp only; omega, by dsimp only; omega, by dsimp only; omega⟩, rfl, by decide, ?_, fun _ _ h => h.elim⟩; rintro t O' ⟨rfl, rfl⟩; refine ⟨rfl, ?_⟩
      exact h
    refine ⟨?_, rfl⟩
    rw [decide_eq_true hO.1.1, decide_eq_true hO.1.2]; rfl
theorem ok_is_score (T : Txt K mg A) (d : Nat) : FnG P w K mg base (2 * d + 4) A.f_is_score A.d_is_score ["score", "deep"] (sp_is_score K d).sp := by
  induction d using Nat.strongRecOn with
  | _ d ih =>
    refine g_fn (k := 2 * d + 3) T.F_is_score sc_is_score (fun _ => rfl) (fun a => [some (tvSc K a.sc), some ⟨tInt, a.deep⟩, none]) (fun _ => rfl) ?_
    intro cdv Ar outer sh H E Fr S0 hr
    rintro a ⟨hN, hO, l1, l2, hd, h0, h5⟩
    refine gss_cons ?_; refine gs_if ?_; refine gt_bool ?_
    apply gw_orP
    · intro P2 h; refine gt_not ?_; refine gt_val ?_; refine ge_blt (id := "isinstance") T.n_isinstance ?_; refine ga_cons ?_; refine ge_var 0 ?_; refine ga_cons ?_; refine ge_ty (n := "tuple") T.n_tuple ?_
      refine ga_nil ?_; refine gb_isi (by walk_at "ty") (by walk_at "kit") ?_; refine isB_i ?_; exact h
    · intro hp P2 h
      try simp only [decide_eq_true_eq, decide_eq_false_iff_not, Bool.and_eq_true, Bool.or_eq_true, Bool.not_eq_true', Bool.not_eq_false', Bool.and_eq_false_iff, Bool.or_eq_false_iff, Int.not_lt, Int.not_le] at hp
      apply gw_orP
      · intro P2 h; refine gt_not ?_
        apply gt_chainP
        · intro P2 h; refine ge_int ?_; exact h
        · intro P2 h; refine ge_blt (id := "len") T.n_len ?_; refine ga_cons ?_; refine ge_var 0 ?_; refine ga_nil ?_; walk_at "gb len"; exact h
        · intro P2 h; walk_at "LtE"; exact h
        · intro P2 h; refine ge_glob (t := ⟨tInt, (40)⟩) T.v_MOST_STEPS T.r_MOST_STEPS (fun _ => rfl) ?_; exact h
        · intro P2 h; walk_at "LtE"; exact h
        case hm => with_unfolding_all rfl
        exact h
      · intro hp P2 h
        try simp only [decide_eq_true_eq, decide_eq_false_iff_not, Bool.and_eq_true, Bool.or_eq_true, Bool.not_eq_true', Bool.not_eq_false', Bool.and_eq_false_iff, Bool.or_eq_false_iff, Int.not_lt, Int.not_le] at hp
        refine gw_or1 ?_; refine gt_cmp ?_; refine ge_var 1 ?_; refine ge_glob (t := ⟨tInt, (5)⟩) T.v_MOST_DEEP T.r_MOST_DEEP (fun _ => rfl) ?_; walk_at "Gt"; refine isB_i ?_
        exact h
      exact h
    refine iteFb ?_ ?_ -- only false
    · rw [decide_eq_true (by omega : (1 : Int) ≤ (a.sc.steps.length : Int)), decide_eq_true (by omega : (a.sc.steps.length : Int) ≤ 40), decide_eq_false (by omega : ¬ (5 : Int) < a.deep)]; rfl
    refine gss_nil ?_
    refine gss_one ?_; refine gs_ret ?_; refine ge_blt (id := "all") T.n_all ?_; refine ga_cons ?_; refine ge_lc1 2 true ?_ sc_is_score.nd; refine gi_tup ?_; refine ge_var 0 ?_
    refine asTup_i ?_
    apply lc_map
    case hl => exact Nat.le_trans l2 (by decide)
    case htg => exact fun x => tgOk_name
    case he =>
      intro i x hx s H c cl fp F S0 P2 h
      refine ge_call (ok_is_step T d fun d' e => ih d' (by omega)) T.m_is_step T.F_is_step.kp T.b_is_step_2 (hr.mono (by first | decide | omega)) ?_; refine ga_cons ?_
      refine ge_var 2 ?_; refine ga_cons ?_; refine ge_var 1 ?_; refine ga_nil ?_; refine gk_nil ?_
      have hm := List.mem_of_getElem? hx
      have hdm := dep_mem hm
      refine ⟨rfl, rfl, ⟨a.p, x, a.deep⟩, [], rfl, ⟨hN, ok_mem.mp hO x hm, by dsimp only; omega, h0, by dsimp only; omega⟩, rfl, by decide, ?_, fun _ _ h => h.elim⟩; rintro t O' ⟨rfl, rfl⟩; refine ⟨rfl, ?_⟩
      exact h
    refine fzIs_t ?_; refine ga_nil ?_; walk_at "gb all"
    refine ⟨?_, rfl⟩
    rw [show (a.sc.steps.map fun x => true).all id = true by rw [List.all_map, List.all_eq_true]; intros; rfl]
end
end Law

/-! D4: what scores are worth. -/
namespace Law
section
variable {P : Program} {w : World} {K : PySem.W.Frag} {mg : Str → Option Value} {base : Heap} {A : Ad}
/-- a score as the program takes it -/
structure ScoreOk (p : List Str) (sc : Sc) : Prop where
  nm : NamesOf p
  ok : sc.Ok p
  l1 : 1 ≤ sc.steps.length
  l2 : sc.steps.length ≤ 40
  dp : dep sc ≤ 5
structure ScB where
  p : List Str
  sc : Sc
def sp_need_score (K : PySem.W.Frag) : FS ScB where
  args := fun a => [tvSc K a.sc]
  pre := fun a => ScoreOk a.p a.sc
  post := fun _ t O' => O' = []
theorem ok_need_score (T : Txt K mg A) : FnG P w K mg base 15 A.f_need_score A.d_need_score ["score"] (sp_need_score K).sp := by
  refine g_fn T.F_need_score sc_need_score (fun _ => rfl) (fun a => [some (tvSc K a.sc)]) (fun _ => rfl) ?_
  intro cdv Ar outer sh H E Fr S0 hr
  intro a h
  refine gss_one ?_; refine gs_if ?_; refine gt_not ?_; refine gt_val ?_; refine ge_call (ok_is_score T 5) T.m_is_score T.F_is_score.kp T.b_is_score_1 (hr.mono (by first | decide | omega)) ?_
  refine ga_cons ?_; refine ge_var 0 ?_; refine ga_nil ?_; refine gk_nil ?_
  refine ⟨rfl, rfl, ⟨a.p, a.sc, 0⟩, [], rfl, ⟨h.nm, h.ok, h.l1, h.l2, h.dp, Int.le_refl _, by have := h.dp; dsimp only; omega⟩, rfl, by decide, ?_, fun _ _ h => h.elim⟩; rintro t O' ⟨rfl, rfl⟩; refine ⟨rfl, ?_⟩
  refine isB_i ?_
  refine iteFb (by rfl) ?_ -- only false
  refine gss_nil ?_
  exact rfl
def sp_tot (K : PySem.W.Frag) (d : Nat) : FS ScB where
  args := fun a => [tvSc K a.sc]
  pre := fun a => a.sc.Ok a.p ∧ dep a.sc ≤ d ∧ a.sc.steps.length ≤ 40
  post := fun a t O' => t = ⟨tInt, tot a.sc⟩ ∧ O' = []
theorem ok_long_of (T : Txt K mg A) (d : Nat) : FnG P w K mg base (d + 1) A.f_long_of A.d_long_of ["score"] (sp_tot K d).sp := by
  induction d using Nat.strongRecOn with
  | _ d ih =>
    refine g_fn T.F_long_of sc_long_of (fun _ => rfl) (fun a => [some (tvSc K a.sc), none]) (fun _ => rfl) ?_
    intro cdv Ar outer sh H E Fr S0 hr
    rintro a ⟨hO, hd, hl⟩
    refine gss_one ?_; refine gs_ret ?_; refine ge_blt (id := "sum") T.n_sum ?_; refine ga_cons ?_; refine ge_lc1 1 true ?_ sc_long_of.nd; refine gi_tup ?_; refine ge_var 0 ?_
    refine asTup_i ?_
    apply lc_map (f := cnt)
    case hl => exact Nat.le_trans hl (by decide)
    case htg => exact fun x => tgOk_name
    case he =>
      intro i x hx s H c cl fp F S0 P2 h
      have hm := List.mem_of_getElem? hx
      have hdm := dep_mem hm
      have hxo := ok_mem.mp hO x hm
      refine ge_ifExp ?_; refine gt_cmp ?_; refine ge_sub ?_; refine ge_var 1 ?_; refine ge_int ?_; refine gix_tag ?_; refine ge_str ?_; walk_at "Eq"; refine isB_i ?_
      refine tagB (fun ns e => ?_) (fun n i e => ?_)
      · refine ge_int ?_; (rw [e] at h; exact h)
      · refine ge_bin ?_; refine ge_sub ?_; refine ge_var 1 ?_; refine ge_int ?_; refine gix_het 1 (hv_tup (tv_times e)) ?_; refine ge_call (ih (dep i) (by rw [e, depS] at hdm; omega)) T.m_long_of T.F_long_of.kp T.b_long_of_1 (hr.mono (by rw [e, depS] at hdm; omega)) ?_
        refine ga_cons ?_; refine ge_sub ?_; refine ge_var 1 ?_; refine ge_int ?_; refine gix_het 2 (hv_tup (tv_times e)) ?_; refine ga_nil ?_; refine gk_nil ?_
        have hxo : (0 ≤ n ∧ n ≤ 1000000000000000000) ∧ i.Ok a.p ∧ 1 ≤ i.steps.length ∧ i.steps.length ≤ 40 := by rw [e] at hxo; exact hxo
        refine ⟨rfl, rfl, ⟨a.p, i⟩, [], rfl, ⟨hxo.2.1, Nat.le_refl _, hxo.2.2.2⟩, rfl, by decide, ?_, fun _ _ h => h.elim⟩; rintro t O' ⟨rfl, rfl⟩; refine ⟨rfl, ?_⟩
        walk_at "Mult"; (rw [e] at h; exact h)
      skip
    refine fzIs_t ?_; refine ga_nil ?_; walk_at "gb sum"
    exact ⟨by rw [tot_sum], rfl⟩
theorem ok_in_all (T : Txt K mg A) (d : Nat) : FnG P w K mg base (d + 1) A.f_in_all A.d_in_all ["_law_score9"] (sp_tot K d).sp := by
  induction d using Nat.strongRecOn with
  | _ d ih =>
    refine g_fn T.F_in_all sc_in_all (fun _ => rfl) (fun a => [some (tvSc K a.sc), none, none]) (fun _ => rfl) ?_
    intro cdv Ar outer sh H E Fr S0 hr
    rintro a ⟨hO, hd, hl⟩
    refine gss_cons ?_; refine gs_set 1 ?_ sc_in_all.nd; refine ge_int ?_
    refine gss_cons ?_; refine gs_for ?_; refine gi_tup ?_; refine ge_var 0 ?_; refine asTup_i ?_
    refine ⟨fun i Γ O => ∃ v, Γ = [some (tvSc K a.sc), some ⟨tInt, ((a.sc.steps.take i).map cnt).sum⟩, v] ∧ O = [], ⟨_, rfl, rfl⟩, ?_, ?_⟩
    · rintro i t Γ' O' hi ⟨x, hx, rfl⟩ ⟨v, rfl, rfl⟩
      refine gg_name 2 ?_ sc_in_all.nd
      have hm := List.mem_of_getElem? hx
      have hdm := dep_mem hm
      have hxo := ok_mem.mp hO x hm
      refine gss_one ?_; refine gs_set 1 ?_ sc_in_all.nd; refine ge_bin ?_; refine ge_var 1 ?_
      refine GE.imp (P := fun t O' => t = ⟨tInt, cnt x⟩ ∧ O' = []) ?_ ?_
      · refine ge_ifExp ?_; refine gt_cmp ?_; refine ge_sub ?_; refine ge_var 2 ?_; refine ge_int ?_; refine gix_tag ?_; refine ge_str ?_; walk_at "Eq"; refine isB_i ?_
        refine tagB (fun ns e => ?_) (fun n j e => ?_)
        · refine ge_int ?_; exact ⟨by rw [e]; rfl, rfl⟩
        · refine ge_bin ?_; refine ge_sub ?_; refine ge_var 2 ?_; refine ge_int ?_; refine gix_het 1 (hv_tup (tv_times e)) ?_; refine ge_call (ih (dep j) (by rw [e, depS] at hdm; omega)) T.m_in_all T.F_in_all.kp T.b_in_all_1 (hr.mono (by rw [e, depS] at hdm; omega)) ?_
          refine ga_cons ?_; refine ge_sub ?_; refine ge_var 2 ?_; refine ge_int ?_; refine gix_het 2 (hv_tup (tv_times e)) ?_; refine ga_nil ?_; refine gk_nil ?_
          have hxo : (0 ≤ n ∧ n ≤ 1000000000000000000) ∧ j.Ok a.p ∧ 1 ≤ j.steps.length ∧ j.steps.length ≤ 40 := by rw [e] at hxo; exact hxo
          refine ⟨rfl, rfl, ⟨a.p, j⟩, [], rfl, ⟨hxo.2.1, Nat.le_refl _, hxo.2.2.2⟩, rfl, by decide, ?_, fun _ _ h => h.elim⟩; rintro t O' ⟨rfl, rfl⟩; refine ⟨rfl, ?_⟩
          walk_at "Mult"; exact ⟨by rw [e]; rfl, rfl⟩
      rintro t O' ⟨rfl, rfl⟩
      walk_at "Add"
      exact ⟨_, by rw [sum_snoc cnt hx]; rfl, rfl⟩
    · rintro Γ' O' ⟨v, rfl, rfl⟩
      refine gss_one ?_; refine gs_ret ?_; refine ge_var 1 ?_
      rw [List.take_length]
      exact ⟨by rw [tot_sum], rfl⟩
def sp_odd (K : PySem.W.Frag) (d : Nat) : FS ScB where
  args := fun a => [tvSc K a.sc]
  pre := fun a => a.sc.Ok a.p ∧ dep a.sc ≤ d ∧ a.p.length ≤ 28
  post := fun a t O' => t = ⟨tTup K tStr, odd a.sc⟩ ∧ O' = []
theorem ok_odd_of (T : Txt K mg A) (d : Nat) : FnG P w K mg base (d + 2) A.f_odd_of A.d_odd_of ["score"] (sp_odd K d).sp := by
  induction d using Nat.strongRecOn with
  | _ d ih =>
    refine g_fn T.F_odd_of sc_odd_of (fun _ => rfl) (fun a => [some (tvSc K a.sc), none, none]) (fun _ => rfl) ?_
    intro cdv Ar outer sh H E Fr S0 hr
    rintro a ⟨hO, hd, hp⟩
    refine gss_cons ?_; refine gs_set 1 ?_ sc_odd_of.nd; refine ge_tup (K := K) ?_; refine ga_nil ?_; refine ⟨Nat.le_of_ble_eq_true rfl, _, tupIs_all (T := tStr) .nil, ?_⟩
    refine gss_cons ?_; refine gs_for ?_; refine gi_tup ?_; refine ge_var 0 ?_; refine asTup_i ?_
    refine ⟨fun i Γ O => ∃ v, Γ = [some (tvSc K a.sc), some ⟨tTup K tStr, (a.sc.steps.take i).foldl addStp []⟩, v] ∧ O = [], ⟨_, rfl, rfl⟩, ?_, ?_⟩
    · rintro i t Γ' O' hi ⟨x, hx, rfl⟩ ⟨v, rfl, rfl⟩
      refine gg_name 2 ?_ sc_odd_of.nd
      have hm := List.mem_of_getElem? hx
      have hdm := dep_mem hm
      have hxo := ok_mem.mp hO x hm
      have hs : Sub a.p ((a.sc.steps.take i).foldl addStp []) := sub_fold (fun y hy => ok_mem.mp hO y (List.mem_of_mem_take hy)) sub_nil
      have hsl := hs.len
      refine gss_one ?_; refine gs_if ?_; refine gt_cmp ?_; refine ge_sub ?_; refine ge_var 2 ?_; refine ge_int ?_; refine gix_tag ?_; refine ge_str ?_; walk_at "Eq"; refine isB_i ?_
      refine tagB (fun ns e => ?_) (fun n j e => ?_)
      · refine gss_one ?_; refine gs_set 1 ?_ sc_odd_of.nd; refine ge_call (ok_added T) T.m_added T.F_added.kp T.b_added_2 (hr.mono (by first | decide | omega)) ?_
        refine ga_cons ?_; refine ge_var 1 ?_; refine ga_cons ?_; refine ge_sub ?_; refine ge_var 2 ?_; refine ge_int ?_; refine gix_het 1 (hv_tup (tv_cross e)) ?_; refine ga_nil ?_
        refine gk_nil ?_
        have hxo : CrOk a.p ns := by rw [e] at hxo; exact hxo
        refine ⟨rfl, rfl, ⟨_, _⟩, [], rfl, (show _ + _ < 64 by have := hxo.l2; dsimp only; omega), rfl, by decide, ?_, fun _ _ h => h.elim⟩; rintro t O' ⟨rfl, rfl⟩; refine ⟨rfl, ?_⟩
        exact ⟨_, by rw [foldl_snoc addStp [] hx, e]; rfl, rfl⟩
      · refine gss_one ?_; refine gs_if ?_; refine gt_cmp ?_; refine ge_bin ?_; refine ge_sub ?_; refine ge_var 2 ?_; refine ge_int ?_; refine gix_het 1 (hv_tup (tv_times e)) ?_
        refine ge_int ?_; walk_at "Mod"; refine ge_int ?_; walk_at "Eq"; refine isB_i ?_
        refine iteB (fun hc => ?_) (fun hc => ?_)
        · try simp only [decide_eq_true_eq, decide_eq_false_iff_not, Bool.and_eq_true, Bool.or_eq_true, Bool.not_eq_true', Bool.not_eq_false', Bool.and_eq_false_iff, Bool.or_eq_false_iff, Int.not_lt, Int.not_le] at hc
          refine gss_one ?_; refine gs_set 1 ?_ sc_odd_of.nd; refine ge_call (ok_added T) T.m_added T.F_added.kp T.b_added_2 (hr.mono (by first | decide | omega)) ?_
          refine ga_cons ?_; refine ge_var 1 ?_; refine ga_cons ?_; refine ge_call (ih (dep j) (by rw [e, depS] at hdm; omega)) T.m_odd_of T.F_odd_of.kp T.b_odd_of_1 (hr.mono (by rw [e, depS] at hdm; omega)) ?_
          refine ga_cons ?_; refine ge_sub ?_; refine ge_var 2 ?_; refine ge_int ?_; refine gix_het 2 (hv_tup (tv_times e)) ?_; refine ga_nil ?_; refine gk_nil ?_
          have hxo : (0 ≤ n ∧ n ≤ 1000000000000000000) ∧ j.Ok a.p ∧ 1 ≤ j.steps.length ∧ j.steps.length ≤ 40 := by rw [e] at hxo; exact hxo
          have hj := (sub_odd j [] hxo.2.1 sub_nil).len
          refine ⟨rfl, rfl, ⟨a.p, j⟩, [], rfl, ⟨hxo.2.1, Nat.le_refl _, hp⟩, rfl, by decide, ?_, fun _ _ h => h.elim⟩; rintro t O' ⟨rfl, rfl⟩; refine ⟨rfl, ?_⟩
          refine ga_nil ?_; refine gk_nil ?_
          refine ⟨rfl, rfl, ⟨_, _⟩, [], rfl, (show _ + _ < 64 by dsimp only; omega), rfl, by decide, ?_, fun _ _ h => h.elim⟩; rintro t O' ⟨rfl, rfl⟩; refine ⟨rfl, ?_⟩
          exact ⟨_, by rw [foldl_snoc addStp [] hx, e, addStp, if_pos hc]; rfl, rfl⟩
        · try simp only [decide_eq_true_eq, decide_eq_false_iff_not, Bool.and_eq_true, Bool.or_eq_true, Bool.not_eq_true', Bool.not_eq_false', Bool.and_eq_false_iff, Bool.or_eq_false_iff, Int.not_lt, Int.not_le] at hc
          refine gss_nil ?_
          exact ⟨_, by rw [foldl_snoc addStp [] hx, e, addStp, if_neg hc]; rfl, rfl⟩
    · rintro Γ' O' ⟨v, rfl, rfl⟩
      refine gss_one ?_; refine gs_ret ?_; refine ge_var 1 ?_
      rw [List.take_length, ← oddF_fold]
      exact ⟨rfl, rfl⟩
theorem ok_odd_in (T : Txt K mg A) (d : Nat) : FnG P w K mg base (d + 2) A.f_odd_in A.d_odd_in ["_law_score9"] (sp_odd K d).sp := by
  induction d using Nat.strongRecOn with
  | _ d ih =>
    refine g_fn T.F_odd_in sc_odd_in (fun _ => rfl) (fun a => [some (tvSc K a.sc), none, none]) (fun _ => rfl) ?_
    intro cdv Ar outer sh H E Fr S0 hr
    rintro a ⟨hO, hd, hp⟩
    refine gss_cons ?_; refine gs_set 1 ?_ sc_odd_in.nd; refine ge_tup (K := K) ?_; refine ga_nil ?_; refine ⟨Nat.le_of_ble_eq_true rfl, _, tupIs_all (T := tStr) .nil, ?_⟩
    refine gss_cons ?_; refine gs_for ?_; refine gi_tup ?_; refine ge_var 0 ?_; refine asTup_i ?_
    refine ⟨fun i Γ O => ∃ v, Γ = [some (tvSc K a.sc), some ⟨tTup K tStr, (a.sc.steps.take i).foldl addStp []⟩, v] ∧ O = [], ⟨_, rfl, rfl⟩, ?_, ?_⟩
    · rintro i t Γ' O' hi ⟨x, hx, rfl⟩ ⟨v, rfl, rfl⟩
      refine gg_name 2 ?_ sc_odd_in.nd
      have hm := List.mem_of_getElem? hx
      have hdm := dep_mem hm
      have hxo := ok_mem.mp hO x hm
      have hs : Sub a.p ((a.sc.steps.take i).foldl addStp []) := sub_fold (fun y hy => ok_mem.mp hO y (List.mem_of_mem_take hy)) sub_nil
      have hsl := hs.len
      refine gss_one ?_; refine gs_if ?_; refine gt_cmp ?_; refine ge_sub ?_; refine ge_var 2 ?_; refine ge_int ?_; refine gix_tag ?_; refine ge_str ?_; walk_at "Eq"; refine isB_i ?_
      refine tagB (fun ns e => ?_) (fun n j e => ?_)
      · refine gss_one ?_; refine gs_set 1 ?_ sc_odd_in.nd; refine ge_call (ok_summed T) T.m_summed T.F_summed.kp T.b_summed_2 (hr.mono (by first | decide | omega)) ?_
        refine ga_cons ?_; refine ge_var 1 ?_; refine ga_cons ?_; refine ge_sub ?_; refine ge_var 2 ?_; refine ge_int ?_; refine gix_het 1 (hv_tup (tv_cross e)) ?_; refine ga_nil ?_
        refine gk_nil ?_
        have hxo : CrOk a.p ns := by rw [e] at hxo; exact hxo
        refine ⟨rfl, rfl, ⟨_, _⟩, [], rfl, (show _ + _ < 64 by have := hxo.l2; dsimp only; omega), rfl, by decide, ?_, fun _ _ h => h.elim⟩; rintro t O' ⟨rfl, rfl⟩; refine ⟨rfl, ?_⟩
        exact ⟨_, by rw [foldl_snoc addStp [] hx, e]; rfl, rfl⟩
      · refine gss_one ?_; refine gs_if ?_; refine gt_cmp ?_; refine ge_bin ?_; refine ge_sub ?_; refine ge_var 2 ?_; refine ge_int ?_; refine gix_het 1 (hv_tup (tv_times e)) ?_
        refine ge_int ?_; walk_at "Mod"; refine ge_int ?_; walk_at "Eq"; refine isB_i ?_
        refine iteB (fun hc => ?_) (fun hc => ?_)
        · try simp only [decide_eq_true_eq, decide_eq_false_iff_not, Bool.and_eq_true, Bool.or_eq_true, Bool.not_eq_true', Bool.not_eq_false', Bool.and_eq_false_iff, Bool.or_eq_false_iff, Int.not_lt, Int.not_le] at hc
          refine gss_one ?_; refine gs_set 1 ?_ sc_odd_in.nd; refine ge_call (ok_summed T) T.m_summed T.F_summed.kp T.b_summed_2 (hr.mono (by first | decide | omega)) ?_
          refine ga_cons ?_; refine ge_var 1 ?_; refine ga_cons ?_; refine ge_call (ih (dep j) (by rw [e, depS] at hdm; omega)) T.m_odd_in T.F_odd_in.kp T.b_odd_in_1 (hr.mono (by rw [e, depS] at hdm; omega)) ?_
          refine ga_cons ?_; refine ge_sub ?_; refine ge_var 2 ?_; refine ge_int ?_; refine gix_het 2 (hv_tup (tv_times e)) ?_; refine ga_nil ?_; refine gk_nil ?_
          have hxo : (0 ≤ n ∧ n ≤ 1000000000000000000) ∧ j.Ok a.p ∧ 1 ≤ j.steps.length ∧ j.steps.length ≤ 40 := by rw [e] at hxo; exact hxo
          have hj := (sub_odd j [] hxo.2.1 sub_nil).len
          refine ⟨rfl, rfl, ⟨a.p, j⟩, [], rfl, ⟨hxo.2.1, Nat.le_refl _, hp⟩, rfl, by decide, ?_, fun _ _ h => h.elim⟩; rintro t O' ⟨rfl, rfl⟩; refine ⟨rfl, ?_⟩
          refine ga_nil ?_; refine gk_nil ?_
          refine ⟨rfl, rfl, ⟨_, _⟩, [], rfl, (show _ + _ < 64 by dsimp only; omega), rfl, by decide, ?_, fun _ _ h => h.elim⟩; rintro t O' ⟨rfl, rfl⟩; refine ⟨rfl, ?_⟩
          exact ⟨_, by rw [foldl_snoc addStp [] hx, e, addStp, if_pos hc]; rfl, rfl⟩
        · try simp only [decide_eq_true_eq, decide_eq_false_iff_not, Bool.and_eq_true, Bool.or_eq_true, Bool.not_eq_true', Bool.not_eq_false', Bool.and_eq_false_iff, Bool.or_eq_false_iff, Int.not_lt, Int.not_le] at hc
          refine gss_nil ?_
          exact ⟨_, by rw [foldl_snoc addStp [] hx, e, addStp, if_neg hc]; rfl, rfl⟩
    · rintro Γ' O' ⟨v, rfl, rfl⟩
      refine gss_one ?_; refine gs_ret ?_; refine ge_var 1 ?_
      rw [List.take_length, ← oddF_fold]
      exact ⟨rfl, rfl⟩
def sp_long (K : PySem.W.Frag) : FS ScB where
  args := fun a => [tvSc K a.sc]
  pre := fun a => ScoreOk a.p a.sc
  post := fun a t O' => t = ⟨tInt, tot a.sc⟩ ∧ O' = []
def sp_odd_crossers (K : PySem.W.Frag) : FS ScB where
  args := fun a => [tvSc K a.sc]
  pre := fun a => ScoreOk a.p a.sc
  post := fun a t O' => t = ⟨tTup K tStr, odd a.sc⟩ ∧ O' = []
theorem ok_long (T : Txt K mg A) : FnG P w K mg base 16 A.f_long A.d_long ["score"] (sp_long K).sp := by
  refine g_fn T.F_long sc_long (fun _ => rfl) (fun a => [some (tvSc K a.sc)]) (fun _ => rfl) ?_
  intro cdv Ar outer sh H E Fr S0 hr
  intro a h
  refine gss_cons ?_; refine gs_expr ?_; refine ge_call (ok_need_score T) T.m_need_score T.F_need_score.kp T.b_need_score_1 (hr.mono (by first | decide | omega)) ?_
  refine ga_cons ?_; refine ge_var 0 ?_; refine ga_nil ?_; refine gk_nil ?_
  refine ⟨rfl, rfl, ⟨a.p, a.sc⟩, [], rfl, h, rfl, by decide, ?_, fun _ _ h => h.elim⟩; rintro t O' rfl; refine ⟨rfl, ?_⟩
  refine gss_one ?_; refine gs_ret ?_; refine ge_call (ok_long_of T 5) T.m_long_of T.F_long_of.kp T.b_long_of_1 (hr.mono (by first | decide | omega)) ?_; refine ga_cons ?_
  refine ge_var 0 ?_; refine ga_nil ?_; refine gk_nil ?_
  refine ⟨rfl, rfl, ⟨a.p, a.sc⟩, [], rfl, ⟨h.ok, h.dp, h.l2⟩, rfl, by decide, ?_, fun _ _ h => h.elim⟩; rintro t O' ⟨rfl, rfl⟩; refine ⟨rfl, ?_⟩
  exact ⟨rfl, rfl⟩
theorem ok_odd_crossers (T : Txt K mg A) : FnG P w K mg base 16 A.f_odd_crossers A.d_odd_crossers ["score"] (sp_odd_crossers K).sp := by
  refine g_fn T.F_odd_crossers sc_odd_crossers (fun _ => rfl) (fun a => [some (tvSc K a.sc)]) (fun _ => rfl) ?_
  intro cdv Ar outer sh H E Fr S0 hr
  intro a h
  refine gss_cons ?_; refine gs_expr ?_; refine ge_call (ok_need_score T) T.m_need_score T.F_need_score.kp T.b_need_score_1 (hr.mono (by first | decide | omega)) ?_
  refine ga_cons ?_; refine ge_var 0 ?_; refine ga_nil ?_; refine gk_nil ?_
  refine ⟨rfl, rfl, ⟨a.p, a.sc⟩, [], rfl, h, rfl, by decide, ?_, fun _ _ h => h.elim⟩; rintro t O' rfl; refine ⟨rfl, ?_⟩
  refine gss_one ?_; refine gs_ret ?_; refine ge_call (ok_odd_of T 5) T.m_odd_of T.F_odd_of.kp T.b_odd_of_1 (hr.mono (by first | decide | omega)) ?_; refine ga_cons ?_
  refine ge_var 0 ?_; refine ga_nil ?_; refine gk_nil ?_
  refine ⟨rfl, rfl, ⟨a.p, a.sc⟩, [], rfl, ⟨h.ok, h.dp, h.nm.sh⟩, rfl, by decide, ?_, fun _ _ h => h.elim⟩; rintro t O' ⟨rfl, rfl⟩; refine ⟨rfl, ?_⟩
  exact ⟨rfl, rfl⟩
structure RowA where
  p : List Str
  rows : List (List Str)
def sp_odd_lot (K : PySem.W.Frag) : FS RowA where
  args := fun a => [⟨tLst (tTup K tStr), a.rows⟩]
  pre := fun a => a.p.length ≤ 28 ∧ ∀ r ∈ a.rows, CrOk a.p r
  post := fun a t O' => t = ⟨tTup K tStr, a.rows.foldl add []⟩ ∧ O' = []
theorem sub_rows {p : List Str} : ∀ {rows : List (List Str)} {acc : List Str}, (∀ r ∈ rows, CrOk p r) → Sub p acc → Sub p (rows.foldl add acc)
  | [], _, _, h => h
  | r :: rows, acc, hr, h => sub_rows (rows := rows) (fun y hy => hr y (List.mem_cons_of_mem _ hy)) (sub_add h (hr r (List.mem_cons_self ..)).nd (hr r (List.mem_cons_self ..)).sub)
theorem ok_odd_lot (T : Txt K mg A) : FnG P w K mg base 2 A.f_odd_lot A.d_odd_lot ["row"] (sp_odd_lot K).sp := by
  refine g_fn T.F_odd_lot sc_odd_lot (fun _ => rfl) (fun a => [some ⟨tLst (tTup K tStr), a.rows⟩, none, none]) (fun _ => rfl) ?_
  intro cdv Ar outer sh H E Fr S0 hr
  rintro a ⟨hp, hc⟩
  refine gss_cons ?_; refine gs_set 1 ?_ sc_odd_lot.nd; refine ge_tup (K := K) ?_; refine ga_nil ?_; refine ⟨Nat.le_of_ble_eq_true rfl, _, tupIs_all (T := tStr) .nil, ?_⟩
  refine gss_cons ?_; refine gs_for ?_; refine gi_list ?_; refine ge_var 0 ?_; refine asLst_i ?_
  refine ⟨fun i Γ O => ∃ v, Γ = [some ⟨tLst (tTup K tStr), a.rows⟩, some ⟨tTup K tStr, (a.rows.take i).foldl add []⟩, v] ∧ O = [], ⟨_, rfl, rfl⟩, ?_, ?_⟩
  · rintro i t Γ' O' hi ⟨x, hx, rfl⟩ ⟨v, rfl, rfl⟩
    refine gg_name 2 ?_ sc_odd_lot.nd
    refine gss_one ?_; refine gs_set 1 ?_ sc_odd_lot.nd; refine ge_call (ok_added T) T.m_added T.F_added.kp T.b_added_2 (hr.mono (by first | decide | omega)) ?_
    refine ga_cons ?_; refine ge_var 1 ?_; refine ga_cons ?_; refine ge_var 2 ?_; refine ga_nil ?_; refine gk_nil ?_
    have hm := hc x (List.mem_of_getElem? hx)
    have hs := (sub_rows (fun y hy => hc y (List.mem_of_mem_take hy)) sub_nil : Sub a.p ((a.rows.take i).foldl add [])).len
    refine ⟨rfl, rfl, ⟨_, _⟩, [], rfl, (show _ + _ < 64 by have := hm.l2; dsimp only; omega), rfl, by decide, ?_, fun _ _ h => h.elim⟩; rintro t O' ⟨rfl, rfl⟩; refine ⟨rfl, ?_⟩
    exact ⟨_, by rw [foldl_snoc add [] hx]; rfl, rfl⟩
  · rintro Γ' O' ⟨v, rfl, rfl⟩
    refine gss_one ?_; refine gs_ret ?_; refine ge_var 1 ?_
    rw [List.take_length]
    exact ⟨rfl, rfl⟩
structure PB2 where
  p : Addr
  b : Bag
def sp_often : FS PB2 where
  args := fun a => [⟨tRef, a.p⟩]
  own := fun a => [oBag a.p a.b]
  pre := fun a => BagOk a.b
  post := fun a t O' => ∃ n b', 0 ≤ n ∧ n ≤ 1000000000000000000 ∧ BagOk b' ∧ t = ⟨tInt, n⟩ ∧ O' = [oBag a.p b']
theorem ok_often (T : Txt K mg A) : FnG P w K mg base 3 A.f_often A.d_often ["_law_bag_here"] sp_often.sp := by
  refine g_fn T.F_often sc_often (fun _ => rfl) (fun a => [some ⟨tRef, a.p⟩, none]) (fun _ => rfl) ?_
  intro cdv Ar outer sh H E Fr S0 hr
  intro a hb; replace hb : BagOk a.b := hb
  refine gss_cons ?_; refine gs_set 1 ?_ sc_often.nd; refine ge_lst ?_; refine ga_cons ?_; refine ge_int ?_; refine ga_cons ?_; refine ge_int ?_; refine ga_cons ?_; refine ge_int ?_
  refine ga_cons ?_; refine ge_int ?_; refine ga_cons ?_; refine ge_call (ok_pull T) T.m_pull T.F_pull.kp T.b_pull_2 (hr.mono (by first | decide | omega)) ?_; refine ga_cons ?_
  refine ge_var 0 ?_; refine ga_cons ?_; refine ge_int ?_; refine ga_nil ?_; refine gk_nil ?_
  refine cal_pull 0 rfl (by assumption) (by walk_at "om") (by walk_at "om") fun r1 b1 hb1 lo1 hi1 => ?_
  refine ga_cons ?_; refine ge_bin ?_; refine ge_int ?_; refine ge_int ?_; refine gop_powL (r := 1000000000000000000) ⟨by decide, by decide, by decide⟩ (by decide +kernel) ?_
  refine ga_cons ?_; refine ge_call (ok_pull T) T.m_pull T.F_pull.kp T.b_pull_2 (hr.mono (by first | decide | omega)) ?_; refine ga_cons ?_; refine ge_var 0 ?_
  refine ga_cons ?_; refine ge_bin ?_; refine ge_int ?_; refine ge_int ?_; refine gop_powL (r := 1000000000000000000) ⟨by decide, by decide, by decide⟩ (by decide +kernel) ?_
  refine ga_nil ?_; refine gk_nil ?_
  refine cal_pull 0 rfl (by assumption) (by walk_at "om") (by walk_at "om") fun r2 b2 hb2 lo2 hi2 => ?_
  refine ga_nil ?_; refine ⟨Nat.le_of_ble_eq_true rfl, _, lstIs_all (.cons (.cons (.cons (.cons (.cons (.cons (.cons .nil))))))), ?_⟩
  refine gss_one ?_; refine gs_ret ?_; refine ge_call (ok_of (U := tInt) T) T.m_of T.F_of.kp T.b_of_2 (hr.mono (by first | decide | omega)) ?_; refine ga_cons ?_
  refine ge_var 0 ?_; refine ga_cons ?_; refine ge_bin ?_; refine ge_var 1 ?_; refine ge_lst ?_; refine ga_cons ?_; refine ge_bin ?_; refine ge_int ?_; refine ge_call (ok_pull T) T.m_pull T.F_pull.kp T.b_pull_2 (hr.mono (by first | decide | omega)) ?_
  refine ga_cons ?_; refine ge_var 0 ?_; refine ga_cons ?_; refine ge_bin ?_; refine ge_int ?_; refine ge_int ?_; refine gop_powL (r := 100000000000000000) ⟨by decide, by decide, by decide⟩ (by decide +kernel) ?_
  refine ga_nil ?_; refine gk_nil ?_
  refine cal_pull 0 rfl (by assumption) (by walk_at "om") (by walk_at "om") fun r3 b3 hb3 lo3 hi3 => ?_
  walk_at "Mult"; refine ga_nil ?_; refine ⟨Nat.le_of_ble_eq_true rfl, _, lstIs_all (.cons .nil), ?_⟩; refine gop_cat sl_lst sl_lst (le_size (show (8 : Nat) ≤ 1000000 by decide)) ?_
  refine ga_nil ?_; refine gk_nil ?_
  refine cal_of 0 rfl (by assumption) (fun _ => sv_lst) (Nat.succ_pos _) (show (8 : Nat) < 2 ^ 62 by decide) fun y b hy hb => ?_
  refine ⟨y, b, ?_, ?_, hb, rfl, rfl⟩
  all_goals
    simp only [List.cons_append, List.nil_append, List.mem_cons, List.not_mem_nil, or_false] at hy
    rcases hy with h | h | h | h | h | h | h | h <;> omega
end
end Law

/-! D5: drawn scores, their unrolling. -/
namespace Law
section
variable {P : Program} {w : World} {K : PySem.W.Frag} {mg : Str → Option Value} {base : Heap} {A : Ad}
structure ScD where
  p : Addr
  b : Bag
  ns : List Str
  deep : Int
def sp_score (K : PySem.W.Frag) (d : Nat) : FS ScD where
  args := fun a => [⟨tRef, a.p⟩, ⟨tLst tStr, a.ns⟩, ⟨tInt, a.deep⟩]
  own := fun a => [oBag a.p a.b]
  pre := fun a => BagOk a.b ∧ Pool a.ns ∧ a.ns.length ≤ 28 ∧ 0 ≤ a.deep ∧ a.deep ≤ d
  post := fun a t O' => ∃ sc b', sc.Ok a.ns ∧ 1 ≤ sc.steps.length ∧ sc.steps.length ≤ 4 ∧ dep sc ≤ a.deep.toNat ∧ BagOk b' ∧ t = tvSc K sc ∧ O' = [oBag a.p b']
theorem dep_of : ∀ {xs : List Stp} {d : Nat}, (∀ x ∈ xs, depS x ≤ d) → dep (scOf xs) ≤ d
  | [], _, _ => Nat.zero_le _
  | .cross ns :: r, d, h => dep_of (xs := r) fun x hx => h x (List.mem_cons_of_mem _ hx)
  | .times n i :: r, d, h => Nat.max_le.mpr ⟨h _ (List.mem_cons_self ..), dep_of (xs := r) fun x hx => h x (List.mem_cons_of_mem _ hx)⟩
theorem mixed_cr {ns ys : List Str} (hp : Pool ns) (h : ys.Perm ns) {n : Int} (h1 : 1 ≤ n) (h2 : n ≤ 2) : CrOk ns (cut ys none (some n)) := by
  rw [cut_take ys (by omega)]
  have hl := h.length_eq
  have h3 := hp.two
  exact ⟨fun m hm => h.mem_iff.mp (List.mem_of_mem_take hm), (h.nodup_iff.mpr hp.nd).sublist (List.take_sublist _ _), by rw [List.length_take]; omega, by rw [List.length_take]; omega⟩
theorem ok_score (T : Txt K mg A) (d : Nat) : FnG P w K mg base (d + 4) A.f_score A.d_score ["_law_bag_here", "_law_names", "_law_deep"] (sp_score K d).sp := by
  induction d using Nat.strongRecOn with
  | _ d ih =>
    refine g_fn T.F_score sc_score (fun _ => rfl) (fun a => [some ⟨tRef, a.p⟩, some ⟨tLst tStr, a.ns⟩, some ⟨tInt, a.deep⟩, none, none, none]) (fun _ => rfl) ?_
    intro cdv Ar outer sh H E Fr S0 hr
    rintro a ⟨hb, hP, hl, d0, d1⟩
    refine gss_cons ?_; refine gs_set 3 ?_ sc_score.nd; refine ge_lstO ?_; refine ga_nil ?_; refine ⟨Nat.le_of_ble_eq_true rfl, _, ownIs_all (T := tStp K) .nil, fun q => ?_⟩
    refine gss_cons ?_; refine gs_for ?_; refine gi_range1 T.n_range ?_; refine ge_bin ?_; refine ge_int ?_; refine ge_call (ok_pull T) T.m_pull T.F_pull.kp T.b_pull_2 (hr.mono (by first | decide | omega)) ?_
    refine ga_cons ?_; refine ge_var 0 ?_; refine ga_cons ?_; refine ge_int ?_; refine ga_nil ?_; refine gk_nil ?_
    refine cal_pull 0 rfl (by assumption) (by walk_at "om") (by walk_at "om") fun r1 b1 hb1 lo1 hi1 => ?_
    walk_at "Add"; refine asRg_i (by omega) (by omega) ?_
    refine ⟨fun i Γ O => ∃ b v4 v5 xs, BagOk b ∧ xs.length = i ∧ (∀ x ∈ xs, x.Ok a.ns ∧ depS x ≤ a.deep.toNat) ∧ Γ = [some ⟨tRef, a.p⟩, some ⟨tLst tStr, a.ns⟩, some ⟨tInt, a.deep⟩, some ⟨tRef, q⟩, v4, v5] ∧ O = [oBag a.p b, oLst q (tStp K) xs], ⟨_, _, _, [], hb1, rfl, fun _ h => (nomatch h), rfl, rfl⟩, ?_, ?_⟩
    · rintro i t Γ' O' hi rfl ⟨b, v4, v5, xs, hb, hxl, hx, rfl, rfl⟩
      refine gg_name 4 ?_ sc_score.nd
      refine gss_cons ?_; refine gs_set 5 ?_ sc_score.nd; refine ge_call (ok_pull T) T.m_pull T.F_pull.kp T.b_pull_2 (hr.mono (by first | decide | omega)) ?_; refine ga_cons ?_
      refine ge_var 0 ?_; refine ga_cons ?_; refine ge_int ?_; refine ga_nil ?_; refine gk_nil ?_
      refine cal_pull 0 rfl (by assumption) (by walk_at "om") (by walk_at "om") fun r2 b2 hb2 lo2 hi2 => ?_
      refine gss_one ?_; refine gs_if ?_; refine gt_bool ?_
      apply gw_andP
      · intro P2 h; refine gt_cmp ?_; refine ge_var 5 ?_; refine ge_int ?_; walk_at "Lt"; refine isB_i ?_; exact h
      · intro hp P2 h
        try simp only [decide_eq_true_eq, decide_eq_false_iff_not, Bool.and_eq_true, Bool.or_eq_true, Bool.not_eq_true', Bool.not_eq_false', Bool.and_eq_false_iff, Bool.or_eq_false_iff, Int.not_lt, Int.not_le] at hp
        refine gw_and1 ?_; refine gt_cmp ?_; refine ge_var 2 ?_; refine ge_int ?_; walk_at "Gt"; refine isB_i ?_; exact h
      refine iteB (fun hc => ?_) (fun hc => ?_)
      · try simp only [decide_eq_true_eq, decide_eq_false_iff_not, Bool.and_eq_true, Bool.or_eq_true, Bool.not_eq_true', Bool.not_eq_false', Bool.and_eq_false_iff, Bool.or_eq_false_iff, Int.not_lt, Int.not_le] at hc
        refine gss_one ?_; refine gs_expr ?_; refine ge_bm PySem.F.plainAttrs_list PySem.F.slot_list_append PySem.F.type_list_append ?_; refine ge_var 3 ?_; refine ⟨isT_list (by walk_at "sl"), ?_⟩
        refine ga_cons ?_; refine ge_tup (K := K) ?_; refine ga_cons ?_; refine ge_str ?_; refine ga_cons ?_; refine ge_call (ok_often T) T.m_often T.F_often.kp T.b_often_1 (hr.mono (by first | decide | omega)) ?_
        refine ga_cons ?_; refine ge_var 0 ?_; refine ga_nil ?_; refine gk_nil ?_
        refine ⟨rfl, rfl, ⟨_, _⟩, [0], rfl, (show BagOk _ by assumption), rfl, by decide, ?_, fun _ _ h => h.elim⟩; rintro t O' ⟨n, b3, n0, n1, hb3, rfl, rfl⟩; refine ⟨rfl, ?_⟩
        refine ga_cons ?_; refine ge_call (ih (d - 1) (by omega)) T.m_score T.F_score.kp T.b_score_3 (hr.mono (by first | decide | omega)) ?_; refine ga_cons ?_; refine ge_var 0 ?_
        refine ga_cons ?_; refine ge_var 1 ?_; refine ga_cons ?_; refine ge_bin ?_; refine ge_var 2 ?_; refine ge_int ?_; walk_at "Sub"; refine ga_nil ?_; refine gk_nil ?_
        refine ⟨rfl, rfl, ⟨a.p, b3, a.ns, a.deep - 1⟩, [0], rfl, ⟨(by assumption), hP, hl, by dsimp only; omega, by dsimp only; omega⟩, rfl, by decide, ?_, fun _ _ h => h.elim⟩; rintro t O' ⟨sc, b4, s1, s2, s3, s4, hb4, rfl, rfl⟩; refine ⟨rfl, ?_⟩
        refine ga_nil ?_; refine ⟨Nat.le_of_ble_eq_true rfl, _, tup_times, ?_⟩; refine ga_nil ?_; walk_at "gm append"
        refine ⟨_, _, _, _, hb4, by rw [List.length_append, hxl]; rfl, fun x hx' => ?_, rfl, rfl⟩
        rcases List.mem_append.mp hx' with h | h
        · exact hx x h
        · rw [List.mem_singleton.mp h]
          have s4 : dep sc ≤ (a.deep - 1).toNat := s4
          exact ⟨⟨⟨n0, n1⟩, s1, s2, by omega⟩, by rw [depS]; omega⟩
      · try simp only [decide_eq_true_eq, decide_eq_false_iff_not, Bool.and_eq_true, Bool.or_eq_true, Bool.not_eq_true', Bool.not_eq_false', Bool.and_eq_false_iff, Bool.or_eq_false_iff, Int.not_lt, Int.not_le] at hc
        refine gss_one ?_; refine gs_expr ?_; refine ge_bm PySem.F.plainAttrs_list PySem.F.slot_list_append PySem.F.type_list_append ?_; refine ge_var 3 ?_; refine ⟨isT_list (by walk_at "sl"), ?_⟩
        refine ga_cons ?_; refine ge_tup (K := K) ?_; refine ga_cons ?_; refine ge_str ?_; refine ga_cons ?_
        refine ge_drop 2 ?_
        refine ge_bty (T := "tuple") T.n_tuple ?_; refine ga_cons ?_; refine ge_slice ?_; refine ge_call (ok_mixed (U := tStr) T) T.m_mixed T.F_mixed.kp T.b_mixed_2 (hr.mono (by first | decide | omega)) ?_
        refine ga_cons ?_; refine ge_var 0 ?_; refine ga_cons ?_; refine ge_var 1 ?_; refine ga_nil ?_; refine gk_nil ?_
        refine ⟨rfl, rfl, ⟨_, _, _⟩, [0], rfl, ⟨(by assumption), Nat.le_trans hl (by decide)⟩, rfl, by decide, ?_, fun _ _ h => h.elim⟩; rintro t O' ⟨q2, ys, b3, hpm, hb3, rfl, rfl⟩; refine ⟨rfl, ?_⟩
        refine gpo_none ?_; refine gpo_some ?_; refine ge_bin ?_; refine ge_int ?_; refine ge_bty (T := "int") T.n_int ?_; refine ga_cons ?_; refine ge_cmp ?_; refine ge_var 5 ?_
        refine ge_int ?_; walk_at "Eq"; refine ga_nil ?_; walk_at "gb int"; walk_at "Add"; refine asPart_i ?_; refine gsl_list (SL.sq (sl_own 2 rfl)) ?_; refine ga_nil ?_; refine gb_tuple (K := K) sl_lst ?_; refine ⟨Nat.le_of_ble_eq_true rfl, ?_⟩
        refine ga_nil ?_; refine ⟨Nat.le_of_ble_eq_true rfl, _, tup_cross, ?_⟩; refine ga_nil ?_; walk_at "gm append"
        refine ⟨_, _, _, _, hb3, by rw [List.length_append, hxl]; rfl, fun x hx' => ?_, rfl, rfl⟩
        rcases List.mem_append.mp hx' with h | h
        · exact hx x h
        · rw [List.mem_singleton.mp h]
          exact ⟨mixed_cr hP hpm (by split <;> omega) (by split <;> omega), Nat.zero_le _⟩
    · rintro Γ' O' ⟨b, v4, v5, xs, hb, hxl, hx, rfl, rfl⟩
      refine gss_one ?_; refine gs_ret ?_; refine ge_drop 1 ?_; refine ge_bty (T := "tuple") T.n_tuple ?_; refine ga_cons ?_; refine ge_var 3 ?_; refine ga_nil ?_; refine gb_tuple (K := K) (sl_own 1 rfl) ?_
      refine ⟨Nat.le_of_ble_eq_true rfl, scOf xs, b, ?_, ?_, ?_, ?_, hb, ?_, rfl⟩
      · rw [ok_mem, steps_of]; exact fun x h => (hx x h).1
      · rw [steps_of, hxl]; omega
      · rw [steps_of, hxl]; omega
      · exact dep_of fun x h => (hx x h).2
      · show _ = (⟨tTup K (tStp K), (scOf xs).steps⟩ : Tv)
        rw [steps_of]
def sp_unr (K : PySem.W.Frag) (d : Nat) : FS ScB where
  args := fun a => [tvSc K a.sc, ⟨tInt, 200⟩]
  pre := fun a => NamesOf a.p ∧ a.sc.Ok a.p ∧ dep a.sc ≤ d ∧ a.sc.steps.length ≤ 40
  post := fun a t O' => ∃ rows, (∀ r ∈ rows, CrOk a.p r) ∧ rows.length ≤ 200 ∧ (tot a.sc < 200 → rows = unr a.sc) ∧ t = ⟨tLst (tTup K tStr), rows⟩ ∧ O' = []
theorem ok_unrolled (T : Txt K mg A) (d : Nat) : FnG P w K mg base (d + 1) A.f_unrolled A.d_unrolled ["_law_score9", "_law_most"] (sp_unr K d).sp := by
  induction d using Nat.strongRecOn with
  | _ d ih =>
    refine g_fn T.F_unrolled sc_unrolled (fun _ => rfl) (fun a => [some (tvSc K a.sc), some ⟨tInt, 200⟩, none, none, none, none, none]) (fun _ => rfl) ?_
    intro cdv Ar outer sh H E Fr S0 hr
    rintro a ⟨hN, hO, hd, hl⟩
    refine gss_cons ?_; refine gs_set 2 ?_ sc_unrolled.nd; refine ge_lstO ?_; refine ga_nil ?_; refine ⟨Nat.le_of_ble_eq_true rfl, _, ownIs_all (T := tTup K tStr) .nil, fun q => ?_⟩
    refine gss_cons ?_; refine gs_for ?_; refine gi_tup ?_; refine ge_var 0 ?_; refine asTup_i ?_
    refine ⟨fun i Γ O => ∃ q v3 v4 v5 v6 rows, (∀ r ∈ rows, CrOk a.p r) ∧ rows.length ≤ 400 + i ∧ (((a.sc.steps.take i).map cnt).sum < 200 → rows = pre (a.sc.steps.take i)) ∧ Γ = [some (tvSc K a.sc), some ⟨tInt, 200⟩, some ⟨tRef, q⟩, v3, v4, v5, v6] ∧ O = [oLst q (tTup K tStr) rows], ⟨q, _, _, _, _, [], fun _ h => (nomatch h), Nat.zero_le _, fun _ => rfl, rfl, rfl⟩, ?_, ?_⟩
    · rintro i t Γ' O' hi ⟨x, hx, rfl⟩ ⟨q, v3, v4, v5, v6, rows, hr1, hr2, hr3, rfl, rfl⟩
      refine gg_name 3 ?_ sc_unrolled.nd
      have hm := List.mem_of_getElem? hx
      have hdm := dep_mem hm
      have hxo := ok_mem.mp hO x hm
      have hpo : ∀ y ∈ a.sc.steps.take i, y.Ok a.p := fun y hy => ok_mem.mp hO y (List.mem_of_mem_take hy)
      refine gss_one ?_; refine gs_if ?_; refine gt_cmp ?_; refine ge_sub ?_; refine ge_var 3 ?_; refine ge_int ?_; refine gix_tag ?_; refine ge_str ?_; walk_at "Eq"; refine isB_i ?_
      refine tagB (fun ns e => ?_) (fun n j e => ?_)
      · refine gss_one ?_; refine gs_expr ?_; refine ge_bm PySem.F.plainAttrs_list PySem.F.slot_list_append PySem.F.type_list_append ?_; refine ge_var 2 ?_; refine ⟨isT_list (by walk_at "sl"), ?_⟩
        refine ga_cons ?_; refine ge_sub ?_; refine ge_var 3 ?_; refine ge_int ?_; refine gix_het 1 (hv_tup (tv_cross e)) ?_; refine ga_nil ?_; walk_at "gm append"
        refine ⟨q, _, _, _, _, _, fun r hr => ?_, by rw [List.length_append, List.length_singleton]; omega, fun hs => ?_, rfl, rfl⟩
        · rcases List.mem_append.mp hr with h | h
          · exact hr1 r h
          · rw [List.mem_singleton.mp h]; rw [e] at hxo; exact hxo
        · rw [sum_snoc cnt hx, e] at hs
          rw [pre_snoc hx, e, hr3 (by have : cnt (.cross ns) = 1 := rfl; omega)]
          rfl
      · refine gss_cons ?_; refine gs_set 4 ?_ sc_unrolled.nd; refine ge_call (ih (dep j) (by rw [e, depS] at hdm; omega)) T.m_unrolled T.F_unrolled.kp T.b_unrolled_2 (hr.mono (by rw [e, depS] at hdm; omega)) ?_
        refine ga_cons ?_; refine ge_sub ?_; refine ge_var 3 ?_; refine ge_int ?_; refine gix_het 2 (hv_tup (tv_times e)) ?_; refine ga_cons ?_; refine ge_var 1 ?_; refine ga_nil ?_
        refine gk_nil ?_
        have hxo : (0 ≤ n ∧ n ≤ 1000000000000000000) ∧ j.Ok a.p ∧ 1 ≤ j.steps.length ∧ j.steps.length ≤ 40 := by rw [e] at hxo; exact hxo
        refine ⟨rfl, rfl, ⟨a.p, j⟩, [], rfl, ⟨hN, hxo.2.1, Nat.le_refl _, hxo.2.2.2⟩, rfl, by decide, ?_, fun _ _ h => h.elim⟩; rintro t O' ⟨inner, hi1, hi2, hi3, rfl, rfl⟩; refine ⟨rfl, ?_⟩
        refine gss_cons ?_; refine gs_set 5 ?_ sc_unrolled.nd; refine ge_bin ?_; refine ge_blt (id := "min") T.n_min ?_; refine ga_cons ?_; refine ge_sub ?_; refine ge_var 3 ?_
        refine ge_int ?_; refine gix_het 1 (hv_tup (tv_times e)) ?_; refine ga_cons ?_; refine ge_var 1 ?_; refine ga_nil ?_; walk_at "gb min"; refine ge_bty (T := "int") T.n_int ?_
        refine ga_cons ?_; refine ge_cmp ?_; refine ge_var 4 ?_; refine ge_lst ?_; refine ga_nil ?_
        refine ⟨Nat.le_of_ble_eq_true rfl, _, lstIs_all (T := tTup K tStr) .nil, ?_⟩
        refine gop_neD hr (DT.dv (dt_lst (dt_tup dt_str))) (DT.dv (dt_lst (dt_tup dt_str))) (shaped_rows fun r h n hn => hN.nm n ((hi1 r h).sub n hn)) (shaped_rows fun r h => (nomatch h)) ?_
        refine ga_nil ?_; walk_at "gb int"; refine gop_mul (Or.inr ⟨by split <;> omega, by split <;> omega⟩) ?_
        generalize htm : ((if (200 : Int) < n then 200 else n) * (if (!PyData.eqv (.list (inner.map fun xs => .tuple (xs.map .str))) (.list (([] : List (List Str)).map fun xs => .tuple (xs.map .str)))) = true then 1 else 0) : Int) = tm
        have htb : 0 ≤ tm ∧ tm ≤ 200 := by rw [← htm]; split <;> split <;> omega
        have htm2 : tm = (if (200 : Int) < n then 200 else n) * (if (!inner.isEmpty) = true then 1 else 0) := by
          rw [← htm, show (([] : List (List Str)).map fun xs => PyData.tuple (xs.map .str)) = [] from rfl, eqv_nil, List.isEmpty_map]
        refine gss_one ?_; refine gs_for ?_; refine gi_range1 T.n_range ?_; refine ge_var 5 ?_; refine asRg_i (by omega) (by omega) ?_
        refine ⟨fun k Γ O => ∃ q v6 rows', (∀ r ∈ rows', CrOk a.p r) ∧ rows'.length ≤ 400 + i ∧ ((rows.length : Int) + tm * (inner.length : Int) < 200 → rows' = rows ++ (List.replicate k inner).flatten) ∧ Γ = [some (tvSc K a.sc), some ⟨tInt, 200⟩, some ⟨tRef, q⟩, some ⟨tStp K, x⟩, some ⟨tLst (tTup K tStr), inner⟩, some ⟨tInt, tm⟩, v6] ∧ O = [oLst q (tTup K tStr) rows'], ⟨_, _, rows, hr1, hr2, fun _ => (by simp), rfl, rfl⟩, ?_, ?_⟩
        · rintro i2 t Γ' O' hi2 rfl ⟨q, v6, rows', hq1, hq2, hq3, rfl, rfl⟩
          refine gg_name 6 ?_ sc_unrolled.nd
          refine gss_one ?_; refine gs_if ?_; refine gt_cmp ?_; refine ge_blt (id := "len") T.n_len ?_; refine ga_cons ?_; refine ge_var 2 ?_; refine ga_nil ?_; walk_at "gb len"
          refine ge_var 1 ?_; walk_at "Lt"; refine isB_i ?_
          refine iteB (fun hc => ?_) (fun hc => ?_)
          · try simp only [decide_eq_true_eq, decide_eq_false_iff_not, Bool.and_eq_true, Bool.or_eq_true, Bool.not_eq_true', Bool.not_eq_false', Bool.and_eq_false_iff, Bool.or_eq_false_iff, Int.not_lt, Int.not_le] at hc
            refine gss_one ?_; refine gs_set 2 ?_ sc_unrolled.nd
            refine ge_drop 0 ?_
            refine ge_bin ?_; refine ge_var 2 ?_; refine ge_var 4 ?_; refine gop_catO (sl_own 0 rfl) sl_lst (le_size (by omega)) fun q' => ?_; refine ⟨Nat.le_of_ble_eq_true rfl, ?_⟩
            refine ⟨q', _, rows' ++ inner, fun r hr => ?_, by rw [List.length_append]; omega, fun hlt => ?_, rfl, rfl⟩
            · rcases List.mem_append.mp hr with h | h
              · exact hq1 r h
              · exact hi1 r h
            · rw [hq3 hlt, List.replicate_succ', List.flatten_append, List.append_assoc]
              simp
          · try simp only [decide_eq_true_eq, decide_eq_false_iff_not, Bool.and_eq_true, Bool.or_eq_true, Bool.not_eq_true', Bool.not_eq_false', Bool.and_eq_false_iff, Bool.or_eq_false_iff, Int.not_lt, Int.not_le] at hc
            refine gss_nil ?_
            refine ⟨_, _, rows', hq1, hq2, fun hlt => ?_, rfl, rfl⟩
            exfalso
            have h1 := congrArg List.length (hq3 hlt)
            rw [List.length_append, List.length_flatten, List.map_replicate, List.sum_replicate_nat] at h1
            have h2 := Nat.mul_le_mul_right inner.length (Nat.le_of_lt hi2)
            have h3 : ((tm.toNat * inner.length : Nat) : Int) = tm * (inner.length : Int) := by rw [Int.natCast_mul, Int.toNat_of_nonneg htb.1]
            omega
        · rintro Γ' O' ⟨q, v6, rows', hq1, hq2, hq3, rfl, rfl⟩
          skip
          refine ⟨q, _, _, _, _, rows', hq1, by omega, fun hs => ?_, rfl, rfl⟩
          rw [sum_snoc cnt hx, e] at hs
          rw [pre_snoc hx, e]
          exact unr_step hxo.1.1 hxo.2.1 (sum_nn hpo) (pre_len hpo) hr3 hi3 htm2 hq3 hs
    · rintro Γ' O' ⟨q, v3, v4, v5, v6, rows, hr1, hr2, hr3, rfl, rfl⟩
      refine gss_one ?_; refine gs_ret ?_; refine ge_drop 0 ?_; refine ge_slice ?_; refine ge_var 2 ?_; refine gpo_none ?_; refine gpo_some ?_; refine ge_var 1 ?_; refine asPart_i ?_
      refine gsl_list (SL.sq (sl_own 0 rfl)) ?_
      rw [cut_take rows (by decide)]
      rw [List.take_length] at hr3
      refine ⟨Nat.le_of_ble_eq_true rfl, _, fun r hr => hr1 r (List.mem_of_mem_take hr), by rw [List.length_take]; exact Nat.min_le_left _ _, fun hs => ?_, rfl, rfl⟩
      rw [tot_sum] at hs
      rw [hr3 hs, unr_fold]
      refine List.take_of_length_le ?_
      have := pre_len (ok_mem.mp hO)
      show (pre a.sc.steps).length ≤ 200
      omega
end
end Law

/-! D6: the law of scores' sums. -/
namespace Law
section
variable {P : Program} {w : World} {K : PySem.W.Frag} {mg : Str → Option Value} {base : Heap} {A : Ad}
section
variable {g : Gc} {Γ : G.Ctx} {O : List Ow} {Pk : PK'} {p : List Str} {sc : Sc} {n m : Nat} {gT : List Tv → List Tv → List Tv} {ts us : List Tv}
theorem cal_long (h : ScoreOk p sc) (k : Pk ⟨tInt, tot sc⟩ O) (h1 : ts.length = n := by rfl) (h2 : us.length = m := by rfl) (h3 : gT ts us = [tvSc K sc] := by rfl) : Cal (sp_long K) g Γ n m gT ts us O Pk := by
  refine ⟨h1, h2, ⟨p, sc⟩, [], h3, h, rfl, List.nodup_nil, ?_, fun _ _ h => h.elim⟩
  rintro t O' ⟨rfl, rfl⟩
  refine ⟨rfl, ?_⟩
  show Pk _ (O ++ [])
  rw [List.append_nil]; exact k
theorem cal_odd (h : ScoreOk p sc) (k : Pk ⟨tTup K tStr, odd sc⟩ O) (h1 : ts.length = n := by rfl) (h2 : us.length = m := by rfl) (h3 : gT ts us = [tvSc K sc] := by rfl) : Cal (sp_odd_crossers K) g Γ n m gT ts us O Pk := by
  refine ⟨h1, h2, ⟨p, sc⟩, [], h3, h, rfl, List.nodup_nil, ?_, fun _ _ h => h.elim⟩
  rintro t O' ⟨rfl, rfl⟩
  refine ⟨rfl, ?_⟩
  show Pk _ (O ++ [])
  rw [List.append_nil]; exact k
/-- the same length and crossers, told twice -/
theorem cal_LD {x y : Int} {L M : List Str} (hN : NamesOf p) (hs : Sub p L) (hx : x.natAbs.log2 < 1920) (e1 : x = y) (e2 : L = M) (k : Pk ⟨tBool, true⟩ O) :
    Cal (sp_same K) g Γ 2 ([] : List Str).length (fun ts _ => ts) [⟨tHetL [⟨tInt, x⟩, ⟨tTup K tStr, L⟩], ()⟩, ⟨tHetL [⟨tInt, y⟩, ⟨tTup K tStr, M⟩], ()⟩] [] O Pk := by
  subst e1; subst e2
  refine ⟨rfl, rfl, ⟨_, _, LD x L, fun _ => dv_LD, fun _ => dv_LD, rf_hetL, rf_hetL⟩, [], rfl, nice_LD hx (fun n hn => hN.nm n (hs.sub n hn)) (Nat.le_trans hs.len hN.sh), rfl, List.nodup_nil, ?_, fun _ _ h => h.elim⟩
  rintro t O' ⟨rfl, rfl⟩
  refine ⟨rfl, ?_⟩
  show Pk _ (O ++ [])
  rw [List.append_nil]; exact k
theorem ScoreOk.log (h : ScoreOk p sc) : (tot sc).natAbs.log2 < 1920 := tot_log h.ok h.dp h.l2
theorem ScoreOk.sub (h : ScoreOk p sc) : Sub p (odd sc) := sub_odd sc [] h.ok sub_nil
end
theorem ok_law (T : Txt K mg A) : FnG P w K mg base 17 A.f_law A.d_law ["_law_script"] (sp_true K).sp := by
  refine g_fn T.F_law sc_law (fun _ => rfl) (fun a => [some ⟨tLck K tInt, a⟩, none, none, none, none, none, none, none, none, none, none]) (fun _ => rfl) ?_
  intro cdv Ar outer sh H E Fr S0 hr
  intro a hl63
  refine gss_cons ?_; refine gs_set 1 ?_ sc_law.nd; refine ge_call (ok_bag T) T.m_bag T.F_bag.kp T.b_bag_1 (hr.mono (by first | decide | omega)) ?_; refine ga_cons ?_
  refine ge_var 0 ?_; refine ga_nil ?_; refine gk_nil ?_
  refine ⟨rfl, rfl, a, [], rfl, trivial, rfl, by decide, ?_, fun _ _ h => h.elim⟩; rintro t O' ⟨p, b0, hb0, rfl, rfl⟩; refine ⟨rfl, ?_⟩
  refine gss_cons ?_; refine gs_set 2 ?_ sc_law.nd; refine ge_call (ok_drawn T) T.m_drawn T.F_drawn.kp T.b_drawn_2 (hr.mono (by first | decide | omega)) ?_; refine ga_cons ?_
  refine ge_var 1 ?_; refine ga_cons ?_; refine ge_int ?_; refine ga_nil ?_; refine gk_nil ?_
  refine ⟨rfl, rfl, ⟨p, b0, 8⟩, [0], rfl, ⟨hb0, by dsimp only; omega, by dsimp only; omega⟩, rfl, by decide, ?_, fun _ _ h => h.elim⟩; rintro t O' ⟨ns, f, b1, hns, hnl, hf, hb1, rfl, rfl⟩; refine ⟨rfl, ?_⟩
  refine gss_cons ?_; refine gs_set 3 ?_ sc_law.nd; refine ge_call (ok_pool T) T.m_pool T.F_pool.kp T.b_pool_1 (hr.mono (by first | decide | omega)) ?_; refine ga_cons ?_
  refine ge_var 2 ?_; refine ga_nil ?_; refine gk_nil ?_
  refine ⟨rfl, rfl, ⟨ns, _⟩, [], rfl, ⟨.head _, hns, (show ns.length ≤ 26 by have h : ns.length ≤ 8 := hnl; omega)⟩, rfl, by decide, ?_, fun _ _ h => h.elim⟩; rintro t O' ⟨ys, hP, hyl, rfl, rfl⟩; refine ⟨rfl, ?_⟩
  refine gss_cons ?_; refine gs_par 4 5 ?_ sc_law.nd; refine ga_cons ?_; refine ge_call (ok_score T 3) T.m_score T.F_score.kp T.b_score_3 (hr.mono (by first | decide | omega)) ?_
  refine ga_cons ?_; refine ge_var 1 ?_; refine ga_cons ?_; refine ge_var 3 ?_; refine ga_cons ?_; refine ge_call (ok_pull T) T.m_pull T.F_pull.kp T.b_pull_2 (hr.mono (by first | decide | omega)) ?_
  refine ga_cons ?_; refine ge_var 1 ?_; refine ga_cons ?_; refine ge_int ?_; refine ga_nil ?_; refine gk_nil ?_
  refine cal_pull 0 rfl hb1 (by decide) (by decide) fun r b2 hb2 r0 r1 => ?_
  refine ga_nil ?_; refine gk_nil ?_
  refine ⟨rfl, rfl, ⟨p, b2, ys, r⟩, [0], rfl, ⟨hb2, hP, hyl, r0, by dsimp only; omega⟩, rfl, by decide, ?_, fun _ _ h => h.elim⟩; rintro t O' ⟨s9, b3, hs1, hs2, hs3, hs4, hb3, rfl, rfl⟩; refine ⟨rfl, ?_⟩
  refine ga_cons ?_; refine ge_call (ok_score T 3) T.m_score T.F_score.kp T.b_score_3 (hr.mono (by first | decide | omega)) ?_; refine ga_cons ?_; refine ge_var 1 ?_
  refine ga_cons ?_; refine ge_var 3 ?_; refine ga_cons ?_; refine ge_int ?_; refine ga_nil ?_; refine gk_nil ?_
  refine ⟨rfl, rfl, ⟨p, b3, ys, 2⟩, [0], rfl, ⟨hb3, hP, hyl, by dsimp only; omega, by dsimp only; omega⟩, rfl, by decide, ?_, fun _ _ h => h.elim⟩; rintro t O' ⟨so, b4, ho1, ho2, ho3, ho4, hb4, rfl, rfl⟩; refine ⟨rfl, ?_⟩
  refine ga_nil ?_; refine ⟨_, _, rfl, ?_⟩
  have hN : NamesOf ys := ⟨hP.nm, hyl⟩
  have hs4 : dep s9 ≤ r.toNat := hs4
  have ho4 : dep so ≤ 2 := ho4
  have h9 : ScoreOk ys s9 := ⟨hN, hs1, hs2, by omega, by omega⟩
  have hSO : ScoreOk ys so := ⟨hN, ho1, ho2, by omega, by omega⟩
  refine gss_cons ?_; refine gs_if ?_; refine gt_not ?_; refine gt_val ?_; refine ge_call (ok_same T) T.m_same T.F_same.kp T.b_same_2 (hr.mono (by first | decide | omega)) ?_
  refine ga_cons ?_; refine ge_lst ?_; refine ga_cons ?_; refine ge_call (ok_long T) T.m_long T.F_long.kp T.b_long_1 (hr.mono (by first | decide | omega)) ?_; refine ga_cons ?_
  refine ge_var 4 ?_; refine ga_nil ?_; refine gk_nil ?_
  first | refine cal_long h9 ?_ | refine cal_long hSO ?_ | refine cal_long hB ?_ | refine cal_long hR ?_
  refine ga_cons ?_; refine ge_call (ok_odd_crossers T) T.m_odd_crossers T.F_odd_crossers.kp T.b_odd_crossers_1 (hr.mono (by first | decide | omega)) ?_; refine ga_cons ?_
  refine ge_var 4 ?_; refine ga_nil ?_; refine gk_nil ?_
  first | refine cal_odd h9 ?_ | refine cal_odd hSO ?_ | refine cal_odd hB ?_ | refine cal_odd hR ?_
  refine ga_nil ?_; refine ⟨Nat.le_of_ble_eq_true rfl, _, lstIs_het, ?_⟩; refine ga_cons ?_; refine ge_lst ?_; refine ga_cons ?_; refine ge_call (ok_in_all T 5) T.m_in_all T.F_in_all.kp T.b_in_all_1 (hr.mono (by first | decide | omega)) ?_
  refine ga_cons ?_; refine ge_var 4 ?_; refine ga_nil ?_; refine gk_nil ?_
  refine ⟨rfl, rfl, ⟨ys, s9⟩, [], rfl, ⟨hs1, h9.dp, h9.l2⟩, rfl, by decide, ?_, fun _ _ h => h.elim⟩; rintro t O' ⟨rfl, rfl⟩; refine ⟨rfl, ?_⟩
  refine ga_cons ?_; refine ge_call (ok_odd_in T 5) T.m_odd_in T.F_odd_in.kp T.b_odd_in_1 (hr.mono (by first | decide | omega)) ?_; refine ga_cons ?_; refine ge_var 4 ?_
  refine ga_nil ?_; refine gk_nil ?_
  refine ⟨rfl, rfl, ⟨ys, s9⟩, [], rfl, ⟨hs1, h9.dp, hyl⟩, rfl, by decide, ?_, fun _ _ h => h.elim⟩; rintro t O' ⟨rfl, rfl⟩; refine ⟨rfl, ?_⟩
  refine ga_nil ?_; refine ⟨Nat.le_of_ble_eq_true rfl, _, lstIs_het, ?_⟩; refine ga_nil ?_; refine gk_nil ?_
  refine cal_LD hN h9.sub h9.log rfl rfl ?_
  refine isB_i ?_
  refine iteFb (by rfl) ?_ -- only false
  refine gss_nil ?_
  refine gss_join (fun Γ O => ∃ v, Γ = [some ⟨tLck K tInt, a⟩, some ⟨tRef, p⟩, some (drawnT ns f), some ⟨tLst tStr, ys⟩, some (tvSc K s9), some (tvSc K so), v, none, none, none, none] ∧ O = [oBag p b4]) ?_ ?_
  · refine gs_if ?_; refine gt_cmp ?_; refine ge_call (ok_in_all T 5) T.m_in_all T.F_in_all.kp T.b_in_all_1 (hr.mono (by first | decide | omega)) ?_; refine ga_cons ?_
    refine ge_var 4 ?_; refine ga_nil ?_; refine gk_nil ?_
    refine ⟨rfl, rfl, ⟨ys, s9⟩, [], rfl, ⟨hs1, h9.dp, h9.l2⟩, rfl, by decide, ?_, fun _ _ h => h.elim⟩; rintro t O' ⟨rfl, rfl⟩; refine ⟨rfl, ?_⟩
    refine ge_int ?_; walk_at "Lt"; refine isB_i ?_
    refine iteB (fun hc => ?_) (fun hc => ?_)
    · try simp only [decide_eq_true_eq, decide_eq_false_iff_not, Bool.and_eq_true, Bool.or_eq_true, Bool.not_eq_true', Bool.not_eq_false', Bool.and_eq_false_iff, Bool.or_eq_false_iff, Int.not_lt, Int.not_le] at hc
      refine gss_cons ?_; refine gs_set 6 ?_ sc_law.nd; refine ge_call (ok_unrolled T 5) T.m_unrolled T.F_unrolled.kp T.b_unrolled_2 (hr.mono (by first | decide | omega)) ?_
      refine ga_cons ?_; refine ge_var 4 ?_; refine ga_cons ?_; refine ge_int ?_; refine ga_nil ?_; refine gk_nil ?_
      refine ⟨rfl, rfl, ⟨ys, s9⟩, [], rfl, ⟨hN, hs1, h9.dp, h9.l2⟩, rfl, by decide, ?_, fun _ _ h => h.elim⟩; rintro t O' ⟨rows, hr1, hr2, hr3, rfl, rfl⟩; refine ⟨rfl, ?_⟩
      refine gss_one ?_; refine gs_if ?_; refine gt_not ?_; refine gt_val ?_; refine ge_call (ok_same T) T.m_same T.F_same.kp T.b_same_2 (hr.mono (by first | decide | omega)) ?_
      refine ga_cons ?_; refine ge_lst ?_; refine ga_cons ?_; refine ge_blt (id := "len") T.n_len ?_; refine ga_cons ?_; refine ge_var 6 ?_; refine ga_nil ?_; walk_at "gb len"
      refine ga_cons ?_; refine ge_call (ok_odd_lot T) T.m_odd_lot T.F_odd_lot.kp T.b_odd_lot_1 (hr.mono (by first | decide | omega)) ?_; refine ga_cons ?_; refine ge_var 6 ?_
      refine ga_nil ?_; refine gk_nil ?_
      refine ⟨rfl, rfl, ⟨ys, rows⟩, [], rfl, ⟨hyl, hr1⟩, rfl, by decide, ?_, fun _ _ h => h.elim⟩; rintro t O' ⟨rfl, rfl⟩; refine ⟨rfl, ?_⟩
      refine ga_nil ?_; refine ⟨Nat.le_of_ble_eq_true rfl, _, lstIs_het, ?_⟩; refine ga_cons ?_; refine ge_lst ?_; refine ga_cons ?_; refine ge_call0 (ok_long T) T.m_long T.F_long.kp T.b_long_0_score (hr.mono (by first | decide | omega)) ?_
      refine gk_cons ?_; refine ge_var 4 ?_; refine gk_nil ?_
      first | refine cal_long h9 ?_ | refine cal_long hSO ?_ | refine cal_long hB ?_ | refine cal_long hR ?_
      refine ga_cons ?_; refine ge_call0 (ok_odd_crossers T) T.m_odd_crossers T.F_odd_crossers.kp T.b_odd_crossers_0_score (hr.mono (by first | decide | omega)) ?_
      refine gk_cons ?_; refine ge_var 4 ?_; refine gk_nil ?_
      first | refine cal_odd h9 ?_ | refine cal_odd hSO ?_ | refine cal_odd hB ?_ | refine cal_odd hR ?_
      refine ga_nil ?_; refine ⟨Nat.le_of_ble_eq_true rfl, _, lstIs_het, ?_⟩; refine ga_nil ?_; refine gk_nil ?_
      have hrr : rows = unr s9 := hr3 hc
      have e1 : (rows.length : Int) = tot s9 := by rw [hrr]; exact unr_len hs1
      have e2 : rows.foldl add [] = odd s9 := by subst hrr; exact fold_odd hs1 hr1 (sub_rows hr1 sub_nil).ok
      refine cal_LD hN (by rw [e2]; exact h9.sub) (by rw [e1]; exact h9.log) e1 e2 ?_
      refine isB_i ?_
      refine iteFb (by rfl) ?_ -- only false
      refine gss_nil ?_; exact ⟨_, rfl, rfl⟩
    · try simp only [decide_eq_true_eq, decide_eq_false_iff_not, Bool.and_eq_true, Bool.or_eq_true, Bool.not_eq_true', Bool.not_eq_false', Bool.and_eq_false_iff, Bool.or_eq_false_iff, Int.not_lt, Int.not_le] at hc
      refine gss_nil ?_; exact ⟨_, rfl, rfl⟩
  · rintro Γ' O' ⟨v, rfl, rfl⟩
    refine gss_cons ?_; refine gs_set 7 ?_ sc_law.nd; refine ge_bin ?_; refine ge_var 4 ?_; refine ge_var 5 ?_; refine gop_catT (fun e => by rw [e] at hs2; cases hs2) (le_size (by omega)) ?_
    rw [← steps_of (s9.steps ++ so.steps)]
    have hBs : (scOf (s9.steps ++ so.steps)).steps = s9.steps ++ so.steps := steps_of _
    generalize scOf (s9.steps ++ so.steps) = both at hBs ⊢
    have hB : ScoreOk ys both := ⟨hN, ok_app hBs hs1 ho1, by rw [hBs, List.length_append]; omega, by rw [hBs, List.length_append]; omega, dep_app hBs h9.dp hSO.dp⟩
    have hB4 : dep both ≤ 3 := dep_app hBs (by omega) (by omega)
    refine gss_cons ?_; refine gs_if ?_; refine gt_not ?_; refine gt_val ?_; refine ge_call (ok_same T) T.m_same T.F_same.kp T.b_same_2 (hr.mono (by first | decide | omega)) ?_
    refine ga_cons ?_; refine ge_lst ?_; refine ga_cons ?_; refine ge_call (ok_long T) T.m_long T.F_long.kp T.b_long_1 (hr.mono (by first | decide | omega)) ?_; refine ga_cons ?_
    refine ge_var 7 ?_; refine ga_nil ?_; refine gk_nil ?_
    first | refine cal_long h9 ?_ | refine cal_long hSO ?_ | refine cal_long hB ?_ | refine cal_long hR ?_
    refine ga_cons ?_; refine ge_call (ok_odd_crossers T) T.m_odd_crossers T.F_odd_crossers.kp T.b_odd_crossers_1 (hr.mono (by first | decide | omega)) ?_; refine ga_cons ?_
    refine ge_var 7 ?_; refine ga_nil ?_; refine gk_nil ?_
    first | refine cal_odd h9 ?_ | refine cal_odd hSO ?_ | refine cal_odd hB ?_ | refine cal_odd hR ?_
    refine ga_nil ?_; refine ⟨Nat.le_of_ble_eq_true rfl, _, lstIs_het, ?_⟩; refine ga_cons ?_; refine ge_lst ?_; refine ga_cons ?_; refine ge_bin ?_; refine ge_call (ok_long T) T.m_long T.F_long.kp T.b_long_1 (hr.mono (by first | decide | omega)) ?_
    refine ga_cons ?_; refine ge_var 4 ?_; refine ga_nil ?_; refine gk_nil ?_
    first | refine cal_long h9 ?_ | refine cal_long hSO ?_ | refine cal_long hB ?_ | refine cal_long hR ?_
    refine ge_call (ok_long T) T.m_long T.F_long.kp T.b_long_1 (hr.mono (by first | decide | omega)) ?_; refine ga_cons ?_; refine ge_var 5 ?_; refine ga_nil ?_; refine gk_nil ?_
    first | refine cal_long h9 ?_ | refine cal_long hSO ?_ | refine cal_long hB ?_ | refine cal_long hR ?_
    walk_at "Add"; refine ga_cons ?_; refine ge_call (ok_added T) T.m_added T.F_added.kp T.b_added_2 (hr.mono (by first | decide | omega)) ?_; refine ga_cons ?_; refine ge_call (ok_odd_crossers T) T.m_odd_crossers T.F_odd_crossers.kp T.b_odd_crossers_1 (hr.mono (by first | decide | omega)) ?_
    refine ga_cons ?_; refine ge_var 4 ?_; refine ga_nil ?_; refine gk_nil ?_
    first | refine cal_odd h9 ?_ | refine cal_odd hSO ?_ | refine cal_odd hB ?_ | refine cal_odd hR ?_
    refine ga_cons ?_; refine ge_call (ok_odd_crossers T) T.m_odd_crossers T.F_odd_crossers.kp T.b_odd_crossers_1 (hr.mono (by first | decide | omega)) ?_; refine ga_cons ?_
    refine ge_var 5 ?_; refine ga_nil ?_; refine gk_nil ?_
    first | refine cal_odd h9 ?_ | refine cal_odd hSO ?_ | refine cal_odd hB ?_ | refine cal_odd hR ?_
    refine ga_nil ?_; refine gk_nil ?_
    refine ⟨rfl, rfl, ⟨_, _⟩, [], rfl, (show (odd s9).length + (odd so).length < 64 by have h1 := h9.sub.len; have h2 := hSO.sub.len; omega), rfl, by decide, ?_, fun _ _ h => h.elim⟩; rintro t O' ⟨rfl, rfl⟩; refine ⟨rfl, ?_⟩
    refine ga_nil ?_; refine ⟨Nat.le_of_ble_eq_true rfl, _, lstIs_het, ?_⟩; refine ga_nil ?_; refine gk_nil ?_
    refine cal_LD hN hB.sub hB.log (tot_app hBs) (odd_app hBs hs1 ho1) ?_
    refine isB_i ?_
    refine iteFb (by rfl) ?_ -- only false
    refine gss_nil ?_
    refine gss_cons ?_; refine gs_set 8 ?_ sc_law.nd; refine ge_call (ok_often T) T.m_often T.F_often.kp T.b_often_1 (hr.mono (by first | decide | omega)) ?_; refine ga_cons ?_
    refine ge_var 1 ?_; refine ga_nil ?_; refine gk_nil ?_
    refine ⟨rfl, rfl, ⟨p, b4⟩, [0], rfl, hb4, rfl, by decide, ?_, fun _ _ h => h.elim⟩; rintro t O' ⟨n, b5, n0, n1, hb5, rfl, rfl⟩; refine ⟨rfl, ?_⟩
    refine gss_cons ?_; refine gs_set 9 ?_ sc_law.nd; refine ge_lst ?_; refine ga_cons ?_; refine ge_bin ?_; refine ge_var 8 ?_; refine ge_call (ok_long T) T.m_long T.F_long.kp T.b_long_1 (hr.mono (by first | decide | omega)) ?_
    refine ga_cons ?_; refine ge_var 7 ?_; refine ga_nil ?_; refine gk_nil ?_
    first | refine cal_long h9 ?_ | refine cal_long hSO ?_ | refine cal_long hB ?_ | refine cal_long hR ?_
    refine gop_mul (Or.inl ⟨by omega, by omega⟩) ?_; refine ga_cons ?_
    apply ge_ifP
    · intro P2 h; refine gt_cmp ?_; refine ge_bin ?_; refine ge_var 8 ?_; refine ge_int ?_; walk_at "Mod"; refine ge_int ?_; walk_at "Eq"; refine isB_i ?_; exact h
    · intro hc P2 h
      try simp only [decide_eq_true_eq, decide_eq_false_iff_not, Bool.and_eq_true, Bool.or_eq_true, Bool.not_eq_true', Bool.not_eq_false', Bool.and_eq_false_iff, Bool.or_eq_false_iff, Int.not_lt, Int.not_le] at hc
      refine ge_call (ok_odd_crossers T) T.m_odd_crossers T.F_odd_crossers.kp T.b_odd_crossers_1 (hr.mono (by first | decide | omega)) ?_; refine ga_cons ?_; refine ge_var 7 ?_
      refine ga_nil ?_; refine gk_nil ?_
      first | refine cal_odd h9 ?_ | refine cal_odd hSO ?_ | refine cal_odd hB ?_ | refine cal_odd hR ?_
      exact h
    · intro hc P2 h
      try simp only [decide_eq_true_eq, decide_eq_false_iff_not, Bool.and_eq_true, Bool.or_eq_true, Bool.not_eq_true', Bool.not_eq_false', Bool.and_eq_false_iff, Bool.or_eq_false_iff, Int.not_lt, Int.not_le] at hc
      refine ge_tup (K := K) ?_; refine ga_nil ?_; refine ⟨Nat.le_of_ble_eq_true rfl, _, tupIs_all (T := tStr) .nil, ?_⟩; exact h
    refine ga_nil ?_; refine ⟨Nat.le_of_ble_eq_true rfl, _, lstIs_het, ?_⟩
    refine gss_cons ?_; refine gs_set 10 ?_ sc_law.nd; refine ge_tup (K := K) ?_; refine ga_cons ?_; refine ge_tup (K := K) ?_; refine ga_cons ?_; refine ge_str ?_; refine ga_cons ?_
    refine ge_var 8 ?_; refine ga_cons ?_; refine ge_var 7 ?_; refine ga_nil ?_; refine ⟨Nat.le_of_ble_eq_true rfl, _, tup_times (i := both), ?_⟩; refine ga_nil ?_; refine ⟨Nat.le_of_ble_eq_true rfl, _, tupIs_all (.cons .nil), ?_⟩
    have hR : ScoreOk ys (.times n both .nil) := ⟨hN, ⟨⟨n0, n1⟩, ⟨hB.ok, hB.l1, hB.l2⟩, trivial⟩, Nat.le_refl _, Nat.le_of_ble_eq_true rfl, by show max (dep both + 1) 0 ≤ 5; omega⟩
    refine gss_one ?_; refine gs_ret ?_; refine ge_call (ok_same T) T.m_same T.F_same.kp T.b_same_2 (hr.mono (by first | decide | omega)) ?_; refine ga_cons ?_; refine ge_lst ?_
    refine ga_cons ?_; refine ge_call (ok_long T) T.m_long T.F_long.kp T.b_long_1 (hr.mono (by first | decide | omega)) ?_; refine ga_cons ?_; refine ge_var 10 ?_
    refine ga_nil ?_; refine gk_nil ?_
    first | refine cal_long h9 ?_ | refine cal_long hSO ?_ | refine cal_long hB ?_ | refine cal_long hR ?_
    refine ga_cons ?_; refine ge_call (ok_odd_crossers T) T.m_odd_crossers T.F_odd_crossers.kp T.b_odd_crossers_1 (hr.mono (by first | decide | omega)) ?_; refine ga_cons ?_
    refine ge_var 10 ?_; refine ga_nil ?_; refine gk_nil ?_
    first | refine cal_odd h9 ?_ | refine cal_odd hSO ?_ | refine cal_odd hB ?_ | refine cal_odd hR ?_
    refine ga_nil ?_; refine ⟨Nat.le_of_ble_eq_true rfl, _, lstIs_het, ?_⟩; refine ga_cons ?_; refine ge_var 9 ?_; refine ga_nil ?_; refine gk_nil ?_
    refine cal_LD hN hR.sub hR.log tot_times (odd_times hB.ok) ?_
    rfl
end
end Law

end
open PySem PySem.W PySem.Calls PyProof.Rows
theorem PySem.Challenge.cw_bankfolk_k43_how_many_crossings_and_whos_holds : PySem.Challenge.rw_bankfolk_k43_how_many_crossings_and_whos.Holds := by
  w_on; o_law
  refine HandSHeadRun.head_any (r := OpenLaw.row PySem.Challenge.rw_bankfolk_k43_how_many_crossings_and_whos) (q := view (OpenLaw.row PySem.Challenge.rw_bankfolk_k43_how_many_crossings_and_whos).prog [37]) (H := Law.hk) (ob := Law.ob) (M := 6000) (loose := Law.loose) (d := HandSHeadRun.topDef (OpenLaw.row PySem.Challenge.rw_bankfolk_k43_how_many_crossings_and_whos).prog 37) (kwd := []) Law.ob_eq
    (by kernel_rfl) (fun s => by kernel_rfl) Law.run (by kernel_rfl) (by kernel_rfl) (by kernel_rfl) (by rfl) (by first | assumption | decide +kernel) (by decide +kernel) ⟨rfl, rfl, rfl, rfl, rfl, by decide +kernel⟩ ?hw ?hc
  case hw => w_witness2
  case hc =>
    refine G.walk_g (l := PySem.Challenge.rw_bankfolk_k43_how_many_crossings_and_whos) (k := 17) (x := "_law_script") rfl (by kernel_rfl) ⟨rfl, by decide, by decide⟩ ?F
    intro w mg fa h Y G hmg0
    obtain ⟨K, KX, c⟩ := Y
    have hmg : mg ("law" : PySem.Str) = some (.ref fa) := by
      have e : (HandSHeadRun.topDef (OpenLaw.row PySem.Challenge.rw_bankfolk_k43_how_many_crossings_and_whos).prog 37).name = ("law" : PySem.Str) := by kernel_rfl
      rw [← e]
      exact hmg0
    obtain ⟨A, T, _⟩ := Law.txt_of KX G c
    have e := hmg.symm.trans T.m_law
    cases e
    refine ⟨K, A.d_law, KX, fun s v => L2.FunD.bindsA (ps := ["_law_script"]) T.F_law (fun _ _ _ _ _ _ us hl => match us, hl with | [_], _ => rfl) s [v] rfl, fun base _ _ => Law.ok_law T⟩
#print axioms PySem.Challenge.cw_bankfolk_k43_how_many_crossings_and_whos_holds
