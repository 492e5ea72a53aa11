import PyProof.Rows.All
import Wide.All
import OpenK.AllK
import Wide.FinOn
import HandS.ForMost
import HandS.Flow
import HandS.TupAny
import HandS.TupMul
import HandS.CallLocal
import HandS.Walk
import HandS.Deep
import HandS.More
import HandS.Style
import HandS.IsInst
import HandS.Text
import HandS.Conv
import HandS.DictComp
import HandS.Zip
import HandS.Star
import KE.GoesMore
import KE.GoesEnum
import HandS.Rev
import HandS.RevTup
import HandS.Nested
import HandS.Lambda
import KE.KNestM
import HandS.EndTab
import PySem.Challenge.RW_airheld_k91_whole_what_is_one_by_its_for
set_option Elab.async false
set_option linter.all false
set_option maxRecDepth 100000
set_option maxHeartbeats 4000000
/-! frozen data over an abstract heap; readings by data -/
namespace G
open PySem PySem.Spec PyProof.Rows L2

/-- data -/
inductive D where
  | non | bl (b : Bool) | int (i : Int) | str (x : Str) | ref (a : Addr) | ty (n : String)
  | tup (ds : List D) | lst (ds : List D) | dct (ks : List Key) (ds : List D)

mutual
def IsD (K : PySem.W.Frag) (F : Hp) : D → V → Prop
  | .non, v => v = .non
  | .bl b, v => v = .bl b
  | .int i, v => v = .int i
  | .str x, v => v = .str x
  | .ref a, v => v = .ref a
  | .ty n, v => v = .ty n
  | .tup ds, v => ds.length ≤ sizeLine ∧ ∃ a vs, v = .ref a ∧ SqT K F a vs ∧ IsDs K F ds vs
  | .lst ds, v => ds.length ≤ sizeLine ∧ ∃ a vs, v = .ref a ∧ Rd F a (.lst vs) ∧ IsDs K F ds vs
  | .dct ks ds, v => ds.length = ks.length ∧ ∃ a vs o, v = .ref a ∧ F a = some (.frz o (.dK (ks.zip vs))) ∧ IsDs K F ds vs
def IsDs (K : PySem.W.Frag) (F : Hp) : List D → List V → Prop
  | [], vs => vs = []
  | d :: ds, vs => ∃ v ws, vs = v :: ws ∧ IsD K F d v ∧ IsDs K F ds ws
end

/-- what is frozen stands in the heap (a dict that is walked stands locked) -/
def Sub (F H : Hp) : Prop := ∀ a u, F a = some u → H a = some u ∨ (Mut (some u) ∧ ∃ o, H a = some (.frz o u))

theorem Rd.same {F F' : Hp} {a : Addr} {u : HO} (e : Same F F') (h : Rd F a u) : Rd F' a u := by
  rcases h with h | ⟨o, h⟩
  · exact .inl (e _ _ h)
  · exact .inr ⟨o, e _ _ h⟩
theorem SqT.same {K : PySem.W.Frag} {F F' : Hp} {a : Addr} {xs : List V} (e : Same F F') (h : SqT K F a xs) : SqT K F' a xs := by
  rcases h with h | h
  · exact .inl (Rd.same e h)
  · exact .inr h
theorem Rd.sub {F H : Hp} {a : Addr} {u : HO} (e : Sub F H) (h : Rd F a u) : Rd H a u := by
  rcases h with h | ⟨o, h⟩
  · rcases e _ _ h with q | ⟨_, o, q⟩
    · exact .inl q
    · exact .inr ⟨o, q⟩
  · rcases e _ _ h with q | ⟨m, _⟩
    · exact .inr ⟨o, q⟩
    · exact m.elim
theorem SqT.sub {K : PySem.W.Frag} {F H : Hp} {a : Addr} {xs : List V} (e : Sub F H) (h : SqT K F a xs) : SqT K H a xs := by
  rcases h with h | h
  · exact .inl (Rd.sub e h)
  · exact .inr h

mutual
theorem IsD.same {K : PySem.W.Frag} {F F' : Hp} (e : Same F F') : ∀ {d : D} {v : V}, IsD K F d v → IsD K F' d v
  | .non, _, h => by simpa only [IsD] using h
  | .bl _, _, h => by simpa only [IsD] using h
  | .int _, _, h => by simpa only [IsD] using h
  | .str _, _, h => by simpa only [IsD] using h
  | .ref _, _, h => by simpa only [IsD] using h
  | .ty _, _, h => by simpa only [IsD] using h
  | .tup ds, _, h => by
    simp only [IsD] at h ⊢
    obtain ⟨z, a, vs, h1, h2, h3⟩ := h
    exact ⟨z, a, vs, h1, SqT.same e h2, IsDs.same e h3⟩
  | .lst ds, _, h => by
    simp only [IsD] at h ⊢
    obtain ⟨z, a, vs, h1, h2, h3⟩ := h
    exact ⟨z, a, vs, h1, Rd.same e h2, IsDs.same e h3⟩
  | .dct ks ds, _, h => by
    simp only [IsD] at h ⊢
    obtain ⟨z, a, vs, o, h1, h2, h3⟩ := h
    exact ⟨z, a, vs, o, h1, e _ _ h2, IsDs.same e h3⟩
theorem IsDs.same {K : PySem.W.Frag} {F F' : Hp} (e : Same F F') : ∀ {ds : List D} {vs : List V}, IsDs K F ds vs → IsDs K F' ds vs
  | [], _, h => by simpa only [IsDs] using h
  | d :: ds, _, h => by
    simp only [IsDs] at h ⊢
    obtain ⟨v, ws, h1, h2, h3⟩ := h
    exact ⟨v, ws, h1, IsD.same e h2, IsDs.same e h3⟩
end

theorem IsDs.length {K : PySem.W.Frag} {F : Hp} : ∀ {ds : List D} {vs : List V}, IsDs K F ds vs → vs.length = ds.length
  | [], _, h => by simp only [IsDs] at h; subst h; rfl
  | d :: ds, _, h => by
    simp only [IsDs] at h
    obtain ⟨v, ws, rfl, _, h3⟩ := h
    simp [IsDs.length h3]
theorem IsDs.get {K : PySem.W.Frag} {F : Hp} : ∀ {ds : List D} {vs : List V} {i : Nat} {d : D}, IsDs K F ds vs → ds[i]? = some d → ∃ v, vs[i]? = some v ∧ IsD K F d v
  | [], _, _, _, _, e => by simp at e
  | d :: ds, _, 0, x, h, e => by
    simp only [IsDs] at h
    obtain ⟨v, ws, rfl, h2, _⟩ := h
    simp at e; subst e
    exact ⟨v, rfl, h2⟩
  | d :: ds, _, i + 1, x, h, e => by
    simp only [IsDs] at h
    obtain ⟨v, ws, rfl, _, h3⟩ := h
    obtain ⟨v', h4, h5⟩ := IsDs.get (i := i) h3 (by simpa using e)
    exact ⟨v', by simpa using h4, h5⟩
theorem IsDs.app {K : PySem.W.Frag} {F : Hp} : ∀ {ds es : List D} {vs ws : List V}, IsDs K F ds vs → IsDs K F es ws → IsDs K F (ds ++ es) (vs ++ ws)
  | [], _, _, _, h, h' => by simp only [IsDs] at h; subst h; exact h'
  | d :: ds, _, _, _, h, h' => by
    simp only [IsDs] at h
    obtain ⟨v, vs, rfl, h2, h3⟩ := h
    show IsDs K F (d :: (ds ++ _)) _
    simp only [IsDs]
    exact ⟨v, vs ++ _, rfl, h2, IsDs.app h3 h'⟩
theorem IsDs.one {K : PySem.W.Frag} {F : Hp} {d : D} {v : V} (h : IsD K F d v) : IsDs K F [d] [v] := by
  simp only [IsDs]; exact ⟨v, [], rfl, h, rfl⟩
theorem IsDs.cons {K : PySem.W.Frag} {F : Hp} {d : D} {v : V} {ds : List D} {vs : List V} (h : IsD K F d v) (h' : IsDs K F ds vs) : IsDs K F (d :: ds) (v :: vs) := by
  simp only [IsDs]; exact ⟨v, vs, rfl, h, h'⟩
theorem IsDs.nil {K : PySem.W.Frag} {F : Hp} : IsDs K F [] [] := by simp only [IsDs]
theorem IsDs.take {K : PySem.W.Frag} {F : Hp} : ∀ {ds : List D} {vs : List V} (n : Nat), IsDs K F ds vs → IsDs K F (ds.take n) (vs.take n)
  | _, _, 0, _ => by simp only [List.take_zero]; exact .nil
  | [], _, n + 1, h => by simp only [IsDs] at h; subst h; exact .nil
  | d :: ds, _, n + 1, h => by
    simp only [IsDs] at h
    obtain ⟨v, ws, rfl, h2, h3⟩ := h
    exact .cons h2 (IsDs.take n h3)
theorem IsDs.drop {K : PySem.W.Frag} {F : Hp} : ∀ {ds : List D} {vs : List V} (n : Nat), IsDs K F ds vs → IsDs K F (ds.drop n) (vs.drop n)
  | _, _, 0, h => h
  | [], _, n + 1, h => by simp only [IsDs] at h; subst h; exact .nil
  | d :: ds, _, n + 1, h => by
    simp only [IsDs] at h
    obtain ⟨v, ws, rfl, h2, h3⟩ := h
    exact IsDs.drop n h3
theorem IsDs.rep {K : PySem.W.Frag} {F : Hp} {ds : List D} {vs : List V} (h : IsDs K F ds vs) : ∀ k : Nat, IsDs K F (List.replicate k ds).flatten (List.replicate k vs).flatten
  | 0 => .nil
  | k + 1 => by
    rw [List.replicate_succ, List.replicate_succ, List.flatten_cons, List.flatten_cons]
    exact h.app (IsDs.rep h k)
theorem IsDs.set {K : PySem.W.Frag} {F : Hp} {d : D} {v : V} (hd : IsD K F d v) : ∀ {ds : List D} {vs : List V} (n : Nat), IsDs K F ds vs → IsDs K F (ds.set n d) (vs.set n v)
  | [], _, n, h => by simp only [IsDs] at h; subst h; exact .nil
  | e :: ds, _, 0, h => by
    simp only [IsDs] at h
    obtain ⟨v, ws, rfl, h2, h3⟩ := h
    exact .cons hd h3
  | e :: ds, _, n + 1, h => by
    simp only [IsDs] at h
    obtain ⟨v, ws, rfl, h2, h3⟩ := h
    exact .cons h2 (IsDs.set hd n h3)

/-! ### worlds: what may change beside what is frozen -/
structure Wd (S : Type) where
  fp : S → Addr → Prop
  P : S → Hp → Hp → Prop
  loc : ∀ s F H H', P s F H → (∀ a, fp s a → H' a = H a) → P s F H'
  mono : ∀ s F F' H, P s F H → Same F F' → P s F' H
  here : ∀ s F H a, P s F H → fp s a → H a ≠ none

structure Rel {S : Type} (W : Wd S) (s : S) (F H : Hp) : Prop where
  sub : Sub F H
  ap : ∀ a, W.fp s a → F a = none
  ok : W.P s F H

structure Ext {S : Type} (W : Wd S) (s s' : S) (F H F' H' : Hp) : Prop where
  same : Same F F'
  kept : ∀ a o, H a = some o → ¬ W.fp s a → H' a = some o
  fresh : ∀ a, H a ≠ none → F a = none → F' a = none
  grow : ∀ a, W.fp s' a → W.fp s a ∨ H a = none
  alive : ∀ a, H a ≠ none → H' a ≠ none

section
variable {S : Type} {W : Wd S} {s s' s1 s2 : S} {F H F' H' F1 H1 F2 H2 : Hp}
theorem Ext.refl : Ext W s s F H F H := ⟨fun _ _ h => h, fun _ _ h _ => h, fun _ _ h => h, fun _ h => .inl h, fun _ h => h⟩
theorem Ext.trans (a : Ext W s s1 F H F1 H1) (b : Ext W s1 s2 F1 H1 F2 H2) : Ext W s s2 F H F2 H2 where
  same := a.same.trans b.same
  kept := fun x o h n => b.kept x o (a.kept x o h n) fun q => (a.grow x q).elim n fun z => by rw [z] at h; cases h
  fresh := fun x h n => b.fresh x (a.alive x h) (a.fresh x h n)
  grow := fun x q => (b.grow x q).elim (fun q => a.grow x q) fun z => .inr (by
    cases e : H x with
    | none => rfl
    | some o => exact absurd z (a.alive x (by rw [e]; simp)))
  alive := fun x h => b.alive x (a.alive x h)

theorem Sub.laid {p : Addr} {o : HO} (h : Sub F H) (hp : H p = none) : Sub (upd F p o) (upd H p o) := fun a u e => by
  by_cases q : a = p
  · subst q; rw [upd_same] at e ⊢; exact .inl e
  · rw [upd_ne q] at e ⊢; exact h a u e
theorem Sub.temp {p : Addr} {o : HO} (h : Sub F H) (hp : F p = none) : Sub F (upd H p o) := fun a u e => by
  have q : a ≠ p := fun z => by rw [z, hp] at e; cases e
  rw [upd_ne q]; exact h a u e
theorem Sub.none {p : Addr} (h : Sub F H) (hp : H p = none) : F p = none := by
  cases e : F p with
  | none => rfl
  | some u =>
    rcases h p u e with q | ⟨_, o, q⟩ <;> rw [hp] at q <;> cases q
theorem Sub.freeze {p : Addr} {o : HO} (h : Sub F H) (hp : H p = some o) : Sub (upd F p o) H := fun a u e => by
  by_cases q : a = p
  · subst q; rw [upd_same] at e; cases e; exact .inl hp
  · rw [upd_ne q] at e; exact h a u e
theorem Same.upd {p : Addr} {o : HO} (hp : F p = none) : Same F (upd F p o) := fun a u e => by
  have q : a ≠ p := fun z => by rw [z, hp] at e; cases e
  rw [upd_ne q]; exact e
theorem Rel.nfp {p : Addr} (R : Rel W s F H) (hp : H p = none) : ¬ W.fp s p := fun q => W.here s F H p R.ok q hp
/-- a new object that is frozen at once -/
theorem Rel.laid {p : Addr} {o : HO} (R : Rel W s F H) (hp : H p = none) : Rel W s (upd F p o) (upd H p o) := by
  refine ⟨R.sub.laid hp, fun a q => ?_, ?_⟩
  · have n : a ≠ p := fun z => R.nfp hp (z ▸ q)
    rw [upd_ne n]; exact R.ap a q
  · refine W.mono s F _ _ (W.loc s F H _ R.ok fun a q => ?_) (Same.upd (R.sub.none hp))
    have n : a ≠ p := fun z => R.nfp hp (z ▸ q)
    rw [upd_ne n]
theorem Ext.laid {p : Addr} {o : HO} (R : Rel W s F H) (hp : H p = none) : Ext W s s F H (upd F p o) (upd H p o) where
  same := Same.upd (R.sub.none hp)
  kept := fun a u e _ => by rw [upd_ne (ne_of_none e hp)]; exact e
  fresh := fun a h n => by
    have q : a ≠ p := fun z => h (z ▸ hp)
    rw [upd_ne q]; exact n
  grow := fun _ q => .inl q
  alive := fun a h => by
    by_cases q : a = p
    · subst q; rw [upd_same]; simp
    · rw [upd_ne q]; exact h
/-- a new object that stays ours -/
theorem Rel.temp {p : Addr} {o : HO} (R : Rel W s F H) (hf : F p = none) (hw : ¬ W.fp s p) : Rel W s F (upd H p o) := by
  refine ⟨R.sub.temp hf, R.ap, W.loc s F H _ R.ok fun a q => ?_⟩
  have n : a ≠ p := fun z => hw (z ▸ q)
  rw [upd_ne n]
theorem Rel.freeze {p : Addr} {o : HO} (R : Rel W s F H) (hf : F p = none) (hw : ¬ W.fp s p) (hp : H p = some o) : Rel W s (upd F p o) H := by
  refine ⟨R.sub.freeze hp, fun a q => ?_, W.mono s F _ _ R.ok (Same.upd hf)⟩
  have n : a ≠ p := fun z => hw (z ▸ q)
  rw [upd_ne n]; exact R.ap a q
end

/-! ### readings by data -/
abbrev En := List (Option D)
structure EnvOk (K : PySem.W.Frag) (F : Hp) (δ : En) (σ : L2.St) : Prop where
  len : δ.length = σ.length
  at_ : ∀ (i : Nat) (d : D), δ[i]? = some (some d) → ∃ v, σ[i]? = some (some v) ∧ IsD K F d v
theorem EnvOk.same {K : PySem.W.Frag} {F F' : Hp} {δ : En} {σ : L2.St} (h : EnvOk K F δ σ) (e : Same F F') : EnvOk K F' δ σ :=
  ⟨h.len, fun i d q => let ⟨v, h1, h2⟩ := h.at_ i d q; ⟨v, h1, h2.same e⟩⟩
theorem EnvOk.set {K : PySem.W.Frag} {F : Hp} {δ : En} {σ : L2.St} {i : Nat} {d : D} {v : V} (h : EnvOk K F δ σ) (hd : IsD K F d v) : EnvOk K F (δ.set i (some d)) (σ.set i (some v)) := by
  refine ⟨by simpa using h.len, fun j x q => ?_⟩
  by_cases e : i = j
  · subst e
    by_cases hl : i < δ.length
    · rw [List.getElem?_set_self hl] at q
      cases q
      exact ⟨v, List.getElem?_set_self (by rw [← h.len]; exact hl), hd⟩
    · rw [List.getElem?_eq_none (by simpa using hl)] at q; cases q
  · rw [List.getElem?_set_ne e] at q ⊢
    exact h.at_ j x q
def wipeD (δ : En) : List Nat → En
  | [] => δ
  | v :: vs => (wipeD δ vs).set v none
theorem wipeD_len (δ : En) : ∀ vs : List Nat, (wipeD δ vs).length = δ.length
  | [] => rfl
  | v :: vs => by unfold wipeD; rw [List.length_set, wipeD_len δ vs]
theorem wipeD_some {δ : En} {i : Nat} {x : D} : ∀ {vs : List Nat}, (wipeD δ vs)[i]? = some (some x) → δ[i]? = some (some x) ∧ i ∉ vs
  | [], h => ⟨h, by simp⟩
  | v :: vs, h => by
    unfold wipeD at h
    by_cases hi : v = i
    · subst hi
      by_cases hv : v < (wipeD δ vs).length
      · rw [List.getElem?_set_self hv] at h; cases h
      · rw [List.getElem?_eq_none (by simpa using hv)] at h; cases h
    · rw [List.getElem?_set_ne hi] at h
      obtain ⟨h1, h2⟩ := wipeD_some h
      exact ⟨h1, by simp only [List.mem_cons, not_or]; exact ⟨fun e => hi e.symm, h2⟩⟩
theorem EnvOk.wipe {K : PySem.W.Frag} {F : Hp} {δ : En} {σ : L2.St} (h : EnvOk K F δ σ) (vs : List Nat) : EnvOk K F (wipeD δ vs) (L2.wipe σ vs) := by
  refine ⟨by rw [wipeD_len, wipe_length]; exact h.len, fun i d q => ?_⟩
  obtain ⟨h1, h2⟩ := wipeD_some q
  obtain ⟨v, h3, h4⟩ := h.at_ i d h1
  exact ⟨v, by rw [wipe_out h2]; exact h3, h4⟩

/-- an optional answer -/
def OQ {α : Type} (o : Option α) (Q : α → Prop) : Prop := match o with
  | some a => Q a
  | none => False
theorem OQ.mono {α : Type} {o : Option α} {Q Q' : α → Prop} (h : ∀ a, Q a → Q' a) : OQ o Q → OQ o Q' := by
  cases o with
  | none => exact id
  | some a => exact h a
theorem OQ.ex {α : Type} {o : Option α} {Q : α → Prop} (h : OQ o Q) : ∃ a, o = some a ∧ Q a := by
  cases o with
  | none => exact h.elim
  | some a => exact ⟨a, rfl, h⟩

structure ME (S : Type) where
  run : En → S → (D → S → Prop) → Prop
  mono : ∀ {δ s} {Q Q' : D → S → Prop}, (∀ d s', Q d s' → Q' d s') → run δ s Q → run δ s Q'
structure MT (S : Type) where
  run : En → S → (Bool → S → Prop) → Prop
  mono : ∀ {δ s} {Q Q' : Bool → S → Prop}, (∀ d s', Q d s' → Q' d s') → run δ s Q → run δ s Q'
structure MA (S : Type) where
  run : En → S → (List D → S → Prop) → Prop
  mono : ∀ {δ s} {Q Q' : List D → S → Prop}, (∀ d s', Q d s' → Q' d s') → run δ s Q → run δ s Q'
structure MF (S : Type) where
  run : List D → S → (D → S → Prop) → Prop
  mono : ∀ {ds s} {Q Q' : D → S → Prop}, (∀ d s', Q d s' → Q' d s') → run ds s Q → run ds s Q'
structure GEnds (S : Type) where
  nx : En → S → Prop
  rt : D → S → Prop
  bk : En → S → Prop := fun _ _ => False
  ct : En → S → Prop := fun _ _ => False
structure GEnds.Le {S : Type} (E E' : GEnds S) : Prop where
  nx : ∀ δ s, E.nx δ s → E'.nx δ s
  rt : ∀ d s, E.rt d s → E'.rt d s
  bk : ∀ δ s, E.bk δ s → E'.bk δ s
  ct : ∀ δ s, E.ct δ s → E'.ct δ s
structure MS (S : Type) where
  run : En → S → GEnds S → Prop
  mono : ∀ {δ s} {E E' : GEnds S}, E.Le E' → run δ s E → run δ s E'

section
variable {S : Type} (K : PySem.W.Frag) (W : Wd S)
/-- what is to hold behind an evaluation -/
def aft {α β : Type} (R : Hp → α → β → Prop) (Q : β → Hp → Prop) (F H : Hp) (s : S) : α → S → Prop :=
  fun d s' => ∀ F' H' v, Rel W s' F' H' → Ext W s s' F H F' H' → R F' d v → Q v H'
def tG (m : ME S) : TE := fun σ H Q => ∃ F δ s, Rel W s F H ∧ EnvOk K F δ σ ∧ m.run δ s (aft W (IsD K) Q F H s)
def tGT (m : MT S) : TT := fun σ H Q => ∃ F δ s, Rel W s F H ∧ EnvOk K F δ σ ∧ m.run δ s (aft W (fun _ (b : Bool) (c : Bool) => b = c) Q F H s)
def tGA (m : MA S) : TA := fun σ H Q => ∃ F δ s, Rel W s F H ∧ EnvOk K F δ σ ∧ m.run δ s (aft W (IsDs K) Q F H s)
def lift (Dn : Ends) (F H : Hp) (s : S) : GEnds S where
  nx := aft W (EnvOk K) Dn.nx F H s
  rt := aft W (IsD K) Dn.rt F H s
  bk := aft W (EnvOk K) Dn.bk F H s
  ct := aft W (EnvOk K) Dn.ct F H s
def tGS (m : MS S) : TS := fun Dn σ H => ∃ F δ s, Rel W s F H ∧ EnvOk K F δ σ ∧ m.run δ s (lift K W Dn F H s)
/-- a def's promise by data: n arguments -/
def spG (n : Nat) (f : MF S) : Sp := fun vs H Q _ => ∃ F s ds, Rel W s F H ∧ IsDs K F ds vs ∧ ds.length = n ∧ f.run ds s (aft W (IsD K) Q F H s)
end
section
variable {S : Type} {K : PySem.W.Frag} {W : Wd S}
theorem aft.ext {α β : Type} {R : Hp → α → β → Prop} {Q : β → Hp → Prop} {F H F1 H1 : Hp} {s s1 : S} (e : Ext W s s1 F H F1 H1) {d : α} {s' : S} (h : aft W R Q F H s d s') : aft W R Q F1 H1 s1 d s' :=
  fun F' H' v r x q => h F' H' v r (e.trans x) q
theorem lift.ext {Dn : Ends} {F H F1 H1 : Hp} {s s1 : S} (e : Ext W s s1 F H F1 H1) : (lift K W Dn F H s).Le (lift K W Dn F1 H1 s1) :=
  ⟨fun _ _ h => aft.ext e h, fun _ _ h => aft.ext e h, fun _ _ h => aft.ext e h, fun _ _ h => aft.ext e h⟩
theorem spG.len {n : Nat} {f : MF S} {vs : List V} {H : Hp} {Q : VK} {E : XK} (h : spG K W n f vs H Q E) : vs.length = n := by
  obtain ⟨F, s, ds, _, h2, h3, _⟩ := h
  rw [h2.length, h3]
theorem spG.imp {n : Nat} {f g : MF S} (h : ∀ ds s Q, ds.length = n → g.run ds s Q → f.run ds s Q) (vs : List V) (H : Hp) (Q : VK) (E : XK) (q : spG K W n g vs H Q E) : spG K W n f vs H Q E := by
  obtain ⟨F, s, ds, h1, h2, h3, h4⟩ := q
  exact ⟨F, s, ds, h1, h2, h3, h _ _ _ h3 h4⟩
theorem PE.imp {X : Cx} {e : Expr} {t t' : TE} (h : PE X e t) (w : ∀ σ H Q, t' σ H Q → t σ H Q) : PE X e t' := ⟨fun pins s σ H Q I q => h.run pins s σ H Q I (w _ _ _ q)⟩
theorem PT.imp {X : Cx} {e : Expr} {t t' : TT} (h : PT X e t) (w : ∀ σ H Q, t' σ H Q → t σ H Q) : PT X e t' := ⟨fun pins s σ H Q I q => h.run pins s σ H Q I (w _ _ _ q)⟩
theorem PW.imp {X : Cx} {e : Expr} {t t' : TT} (h : PW X e t) (w : ∀ σ H Q, t' σ H Q → t σ H Q) : PW X e t' := ⟨fun wh pins s σ H Q I q => h.run wh pins s σ H Q I (w _ _ _ q)⟩
theorem PA.imp {X : Cx} {e : List Expr} {t t' : TA} (h : PA X e t) (w : ∀ σ H Q, t' σ H Q → t σ H Q) : PA X e t' := ⟨fun pos pins s σ H Q I q => h.run pos pins s σ H Q I (w _ _ _ q)⟩
theorem PS.imp {X : Cx} {e : Stmt} {t t' : TS} (h : PS X e t) (w : ∀ Dn σ H, t' Dn σ H → t Dn σ H) : PS X e t' := ⟨fun pins s σ H Dn I q => h.run pins s σ H Dn I (w _ _ _ q)⟩
theorem PSs.imp {X : Cx} {e : List Stmt} {t t' : TS} (h : PSs X e t) (w : ∀ Dn σ H, t' Dn σ H → t Dn σ H) : PSs X e t' := ⟨fun pins s σ H Dn I q => h.run pins s σ H Dn I (w _ _ _ q)⟩
end
end G

set_option Elab.async false
set_option linter.all false
set_option maxRecDepth 100000
set_option maxHeartbeats 4000000
/-! expressions by data: names, constants, operators, comparisons, tests -/
namespace G
open PySem PySem.Spec PyProof.Rows L2
abbrev big : Nat := 16777216
theorem big_le {n : Nat} (h : n ≤ big) : n ≤ sizeLine := by rw [sizeLine_eq]; exact h
theorem le_big {n : Nat} (h : n ≤ sizeLine) : n ≤ big := by rw [sizeLine_eq] at h; exact h

section
variable {S : Type}
def ME.var (i : Nat) : ME S := ⟨fun δ s Q => OQ (δ.getD i none) fun d => Q d s, fun h => OQ.mono fun d => h d _⟩
def ME.c (d : D) : ME S := ⟨fun _ s Q => Q d s, fun h => h d _⟩
def ME.op2 (f : D → D → Option D) (a b : ME S) : ME S := ⟨fun δ s Q => a.run δ s fun x s1 => b.run δ s1 fun y s2 => OQ (f x y) fun d => Q d s2, fun h => a.mono fun _ _ => b.mono fun _ _ => OQ.mono fun d => h d _⟩
def ME.op1 (f : D → Option D) (a : ME S) : ME S := ⟨fun δ s Q => a.run δ s fun x s1 => OQ (f x) fun d => Q d s1, fun h => a.mono fun _ _ => OQ.mono fun d => h d _⟩
def MT.op2 (f : D → D → Option Bool) (a b : ME S) : MT S := ⟨fun δ s Q => a.run δ s fun x s1 => b.run δ s1 fun y s2 => OQ (f x y) fun d => Q d s2, fun h => a.mono fun _ _ => b.mono fun _ _ => OQ.mono fun d => h d _⟩
def blD : D → Option Bool
  | .bl b => some b
  | _ => none
def MT.of (a : ME S) : MT S := ⟨fun δ s Q => a.run δ s fun x s1 => OQ (blD x) fun b => Q b s1, fun h => a.mono fun _ _ => OQ.mono fun d => h d _⟩
def ME.of (a : MT S) : ME S := ⟨fun δ s Q => a.run δ s fun b s1 => Q (.bl b) s1, fun h => a.mono fun _ _ => h _ _⟩
def MT.and (a b : MT S) : MT S := ⟨fun δ s Q => a.run δ s fun c s1 => if c = true then b.run δ s1 Q else Q false s1, fun h => a.mono fun c _ => by cases c <;> simp only [if_true, if_false, Bool.false_eq_true] <;> first | exact h _ _ | exact b.mono h⟩
def MT.or (a b : MT S) : MT S := ⟨fun δ s Q => a.run δ s fun c s1 => if c = true then Q true s1 else b.run δ s1 Q, fun h => a.mono fun c _ => by cases c <;> simp only [if_true, if_false, Bool.false_eq_true] <;> first | exact h _ _ | exact b.mono h⟩
def MT.not (a : MT S) : MT S := ⟨fun δ s Q => a.run δ s fun c s1 => Q (!c) s1, fun h => a.mono fun _ _ => h _ _⟩
def ME.ite (t : MT S) (a b : ME S) : ME S := ⟨fun δ s Q => t.run δ s fun c s1 => if c = true then a.run δ s1 Q else b.run δ s1 Q, fun h => t.mono fun c _ => by cases c <;> simp only [if_true, if_false, Bool.false_eq_true] <;> first | exact a.mono h | exact b.mono h⟩
/-- a op1 b op2 c -/
def ME.chain (f g : D → D → Option Bool) (a b c : ME S) : ME S :=
  ⟨fun δ s Q => a.run δ s fun x s1 => b.run δ s1 fun y s2 => OQ (f x y) fun k => if k = true then c.run δ s2 fun z s3 => OQ (g y z) fun k' => Q (.bl k') s3 else Q (.bl false) s2,
   fun h => a.mono fun _ _ => b.mono fun _ _ => OQ.mono fun k => by cases k <;> simp only [if_true, if_false, Bool.false_eq_true] <;> first | exact h _ _ | exact c.mono fun _ _ => OQ.mono fun _ => h _ _⟩
def MT.chain (f g : D → D → Option Bool) (a b c : ME S) : MT S :=
  ⟨fun δ s Q => a.run δ s fun x s1 => b.run δ s1 fun y s2 => OQ (f x y) fun k => if k = true then c.run δ s2 fun z s3 => OQ (g y z) fun k' => Q k' s3 else Q false s2,
   fun h => a.mono fun _ _ => b.mono fun _ _ => OQ.mono fun k => by cases k <;> simp only [if_true, if_false, Bool.false_eq_true] <;> first | exact h _ _ | exact c.mono fun _ _ => OQ.mono fun _ => h _ _⟩
def MA.nil : MA S := ⟨fun _ s Q => Q [] s, fun h => h _ _⟩
def MA.cons (a : ME S) (r : MA S) : MA S := ⟨fun δ s Q => a.run δ s fun x s1 => r.run δ s1 fun xs s2 => Q (x :: xs) s2, fun h => a.mono fun _ _ => r.mono fun _ _ => h _ _⟩
end

section
variable {S : Type} {W : Wd S} {X : Cx} {a b c e : Expr} {pos : Pos} {K : PySem.W.Frag}

theorem isD_c {F : Hp} {d : D} {v : V} (h : ∀ F, IsD K F d v) : IsD K F d v := h F
theorem g_var (i : Nat) {x : Str} (hN : X.N[i]? = some x := by rfl) (hv : Vis X.env.scope x := by first | exact Or.inl rfl | exact Or.inr (Or.inl rfl) | exact Or.inr (Or.inr rfl)) (hd : (x == ("__debug__" : Str)) = false := by decide)
    (hcd : (x == ("__classdict__" : Str)) = false := by decide) : PE X (.Name x pos) (tG X.K W (ME.var i)) := by
  refine PE.imp (pe_var hN hv hd hcd) fun σ H Q ⟨F, δ, s, R, E, h⟩ => ?_
  obtain ⟨d, e, q⟩ := OQ.ex h
  have e' : δ[i]? = some (some d) := by
    rw [List.getD_eq_getElem?_getD] at e
    cases z : δ[i]? with
    | none => rw [z] at e; cases e
    | some o => rw [z] at e; exact congrArg some e
  obtain ⟨v, h1, h2⟩ := E.at_ i d e'
  exact ⟨v, h1, q F H v R .refl h2⟩
/-- what is a constant -/
theorem g_c {v : V} {d : D} (h : PE X e (tC v)) (hd : ∀ F, IsD X.K F d v) : PE X e (tG X.K W (ME.c d)) :=
  PE.imp h fun σ H Q ⟨F, δ, s, R, E, q⟩ => q F H v R .refl (hd F)
theorem g_int {i j} : PE X (.Constant (.int i) j pos) (tG X.K W (ME.c (.int i))) := g_c pe_int fun F => by simp only [IsD]
theorem g_bl {i j} : PE X (.Constant (.bool i) j pos) (tG X.K W (ME.c (.bl i))) := g_c pe_bl fun F => by simp only [IsD]
theorem g_non {j} : PE X (.Constant .none j pos) (tG X.K W (ME.c .non)) := g_c pe_non fun F => by simp only [IsD]
theorem g_str {x j} : PE X (.Constant (.str x) j pos) (tG X.K W (ME.c (.str x))) := g_c pe_str fun F => by simp only [IsD]
/-- a module's constant: what it holds is told by data -/
structure GlobD (K : PySem.W.Frag) (mg : Str → Option Value) (x : Str) (d : D) : Prop where
  ex : ∃ (u : Value) (v : V), mg x = some u ∧ RelV v u ∧ ∀ F, IsD K F d v
theorem g_gl {x : Str} {d : D} (g : GlobD X.K X.mg x d) (hg : Gl X x := by rfl) (hd : (x == ("__debug__" : Str)) = false := by decide) : PE X (.Name x pos) (tG X.K W (ME.c d)) := by
  obtain ⟨u, v, h1, h2, h3⟩ := g.ex
  exact g_c (pe_glob hg h1 h2 hd) h3
/-- a built-in type as a value -/
theorem g_ty {x : Str} {n : String} (hm : X.mg x = none) (hv : bootBuiltins x = some (.type n)) (hg : Gl X x := by rfl) (hn : x ≠ "__name__" := by decide) (hd : (x == ("__debug__" : Str)) = false := by decide) : PE X (.Name x pos) (tG X.K W (ME.c (.ty n))) :=
  g_c (pe_bltn (v := .ty n) hg hm hv rfl hn hd) fun F => by simp only [IsD]

/-! ### operators -/
def OpG (K : PySem.W.Frag) (W : Wd S) (r : R2) (f : D → D → Option D) : Prop :=
  ∀ (s : S) (F H : Hp) (x y : D) (v u : V) (Q : VK), Rel W s F H → IsD K F x v → IsD K F y u → OQ (f x y) (fun d => aft W (IsD K) Q F H s d s) → r v u H Q
def UnG (K : PySem.W.Frag) (W : Wd S) (r : V → Hp → VK → Prop) (f : D → Option D) : Prop :=
  ∀ (s : S) (F H : Hp) (x : D) (v : V) (Q : VK), Rel W s F H → IsD K F x v → OQ (f x) (fun d => aft W (IsD K) Q F H s d s) → r v H Q
/-- a comparison's answer -/
def CpG (K : PySem.W.Frag) (W : Wd S) (r : R2) (f : D → D → Option Bool) : Prop :=
  ∀ (s : S) (F H : Hp) (x y : D) (v u : V) (Q : VK), Rel W s F H → IsD K F x v → IsD K F y u → OQ (f x y) (fun b => Q (.bl b) H) → r v u H Q

/-- two in a row -/
theorem two_run {ta tb : TE} {ma mb : ME S} {σ : L2.St} {H : Hp} {F : Hp} {δ : En} {s : S} {R : V → V → Hp → Prop} (ha : ta = tG K W ma) (hb : tb = tG K W mb) (Rl : Rel W s F H) (E : EnvOk K F δ σ)
    {P : D → D → S → Prop} (h : ma.run δ s fun x s1 => mb.run δ s1 fun y s2 => P x y s2)
    (w : ∀ x y s2 F2 H2 v u, Rel W s2 F2 H2 → Ext W s s2 F H F2 H2 → IsD K F2 x v → IsD K F2 y u → P x y s2 → R v u H2) : ta σ H fun v H1 => tb σ H1 fun u H2 => R v u H2 := by
  subst ha hb
  refine ⟨F, δ, s, Rl, E, ma.mono (fun x s1 q => ?_) h⟩
  intro F1 H1 v R1 E1 d1
  refine ⟨F1, δ, s1, R1, E.same E1.same, mb.mono (fun y s2 q => ?_) q⟩
  intro F2 H2 u R2 E2 d2
  exact w x y s2 F2 H2 v u R2 (E1.trans E2) (d1.same E2.same) d2 q

theorem g_op2 {op : Operator} {r : R2} {f : D → D → Option D} {ma mb : ME S} (ho : OpR X (binaryOp op) r) (hf : OpG X.K W r f) (ha : PE X a (tG X.K W ma)) (hb : PE X b (tG X.K W mb)) : PE X (.BinOp a op b pos) (tG X.K W (ME.op2 f ma mb)) := by
  refine PE.imp (pe_op ho ha hb) fun σ H Q ⟨F, δ, s, R, E, h⟩ => ?_
  refine two_run rfl rfl R E h fun x y s2 F2 H2 v u R2 E2 d1 d2 q => ?_
  exact hf s2 F2 H2 x y v u Q R2 d1 d2 (OQ.mono (fun d z => aft.ext E2 z) q)
theorem g_un {op : UnaryOp} {r : V → Hp → VK → Prop} {f : D → Option D} {ma : ME S} (ho : UnR X (unaryOp op) r) (hf : UnG X.K W r f) (ha : PE X a (tG X.K W ma)) : PE X (.UnaryOp op a pos) (tG X.K W (ME.op1 f ma)) := by
  refine PE.imp (pe_un ho ha) fun σ H Q ⟨F, δ, s, R, E, h⟩ => ?_
  refine ⟨F, δ, s, R, E, ma.mono (fun x s1 q => ?_) h⟩
  intro F1 H1 v R1 E1 d1
  exact hf s1 F1 H1 x v Q R1 d1 (OQ.mono (fun d z => aft.ext E1 z) q)

theorem isD_int {F : Hp} {i : Int} {v : V} : IsD K F (.int i) v ↔ v = .int i := by simp only [IsD]
theorem isD_bl {F : Hp} {i : Bool} {v : V} : IsD K F (.bl i) v ↔ v = .bl i := by simp only [IsD]
theorem isD_str {F : Hp} {i : Str} {v : V} : IsD K F (.str i) v ↔ v = .str i := by simp only [IsD]
theorem isD_non {F : Hp} {v : V} : IsD K F .non v ↔ v = .non := by simp only [IsD]
theorem isD_ref {F : Hp} {a : Addr} {v : V} : IsD K F (.ref a) v ↔ v = .ref a := by simp only [IsD]
theorem isD_ty {F : Hp} {a : String} {v : V} : IsD K F (.ty a) v ↔ v = .ty a := by simp only [IsD]
theorem isD_tup {F : Hp} {ds : List D} {v : V} : IsD K F (.tup ds) v ↔ ds.length ≤ sizeLine ∧ ∃ a vs, v = .ref a ∧ SqT K F a vs ∧ IsDs K F ds vs := by simp only [IsD]
theorem isD_lst {F : Hp} {ds : List D} {v : V} : IsD K F (.lst ds) v ↔ ds.length ≤ sizeLine ∧ ∃ a vs, v = .ref a ∧ Rd F a (.lst vs) ∧ IsDs K F ds vs := by simp only [IsD]
theorem isD_dct {F : Hp} {ks : List Key} {ds : List D} {v : V} : IsD K F (.dct ks ds) v ↔ ds.length = ks.length ∧ ∃ a vs o, v = .ref a ∧ F a = some (.frz o (.dK (ks.zip vs))) ∧ IsDs K F ds vs := by simp only [IsD]

/-- a new tuple, a new list -/
theorem new_tup {s : S} {F H : Hp} {Q : VK} {ds : List D} {vs : List V} (R : Rel W s F H) (h : IsDs K F ds vs) (hz : ds.length ≤ sizeLine) (q : aft W (IsD K) Q F H s (.tup ds) s) : ∀ p, H p = none → Q (.ref p) (upd H p (.tup vs)) := fun p hp =>
  q (upd F p (.tup vs)) (upd H p (.tup vs)) (.ref p) (R.laid hp) (Ext.laid R hp) (isD_tup.mpr ⟨hz, p, vs, rfl, SqT.of upd_same, h.same (Same.upd (R.sub.none hp))⟩)
theorem new_lst {s : S} {F H : Hp} {Q : VK} {ds : List D} {vs : List V} (R : Rel W s F H) (h : IsDs K F ds vs) (hz : ds.length ≤ sizeLine) (q : aft W (IsD K) Q F H s (.lst ds) s) : ∀ p, H p = none → Q (.ref p) (upd H p (.lst vs)) := fun p hp =>
  q (upd F p (.lst vs)) (upd H p (.lst vs)) (.ref p) (R.laid hp) (Ext.laid R hp) (isD_lst.mpr ⟨hz, p, vs, rfl, .inl upd_same, h.same (Same.upd (R.sub.none hp))⟩)
theorem same_d {s : S} {F H : Hp} {Q : VK} {d : D} {v : V} (R : Rel W s F H) (q : aft W (IsD K) Q F H s d s) (h : IsD K F d v) : Q v H := q F H v R .refl h
theorem same_int {s : S} {F H : Hp} {Q : VK} {i : Int} (R : Rel W s F H) (q : aft W (IsD K) Q F H s (.int i) s) : Q (.int i) H := same_d R q (isD_int.mpr rfl)

def addD : D → D → Option D
  | .int i, .int j => some (.int (i + j))
  | .lst a, .lst b => if a.length + b.length ≤ big then some (.lst (a ++ b)) else none
  | .tup a, .tup b => if a.length + b.length ≤ big then some (.tup (a ++ b)) else none
  | .str a, .str b => if a.length + b.length ≤ big then some (.str (a ++ b)) else none
  | _, _ => none
/-- list + list, either locked -/
def rCat2 : R2 := fun x y H Q => ∃ l b xs zs, x = .ref l ∧ y = .ref b ∧ Rd H l (.lst xs) ∧ Rd H b (.lst zs) ∧ xs.length + zs.length ≤ sizeLine ∧ ∀ p, H p = none → Q (.ref p) (upd H p (.lst (xs ++ zs)))
theorem Inv.lstR {pins : List (Addr × Obj)} {σ : L2.St} {H : Hp} {s : Shared} {l : Addr} {xs : List V} (I : Inv X pins σ H s) (h : Rd H l (.lst xs)) : xs.length ≤ sizeLine ∧ ∃ (its : List Value) (n : Nat), Vals xs its ∧ xs.length = its.length ∧ s.heap.get? l = some { cls := .type "list", data := .seq its.toArray n } := by
  obtain ⟨z, its, n, r, e⟩ := h.ok I.hok
  exact ⟨z, its, n, r, r.length, e⟩
theorem op_cat2 : OpR X (binaryOp .Add) rCat2 := by
  intro pins s σ H x y v u Q I rx ry h
  obtain ⟨l, b, xs, zs, rfl, rfl, hH, hB, hz, q⟩ := h
  cases rx
  cases ry
  obtain ⟨z, its, n, r, hl, e⟩ := Inv.lstR I hH
  obtain ⟨z2, its2, n2, r2, hl2, e2⟩ := Inv.lstR I hB
  refine PySem.P.add_list e e2 ?_ (by rw [List.size_toArray, List.size_toArray]; omega)
  have ea : its.toArray ++ its2.toArray = (its ++ its2).toArray := by simp
  rw [ea]
  exact ⟨.ref _, _, I.lnew (t' := s.toks) (r.append r2) (by rw [List.length_append]; omega), rfl, q _ I.fresh⟩
def rAddD (K : PySem.W.Frag) : R2 := fun x y H Q => (rI0 fun i j => .int (i + j)) x y H Q ∨ rCat2 x y H Q ∨ rCatA K x y H Q ∨ (∃ i j, x = .str i ∧ y = .str j ∧ i.length + j.length ≤ sizeLine ∧ Q (.str (i ++ j)) H)
theorem op_addD : OpR X (binaryOp .Add) (rAddD X.K) := op_add.or (op_cat2.or (op_catA.or op_add_str))
theorem addG : OpG K W (rAddD K) addD := by
  intro s F H x y v u Q R hx hy h
  obtain ⟨d, e, q⟩ := OQ.ex h
  unfold addD at e
  split at e
  · cases e
    rw [isD_int] at hx hy
    subst hx hy
    exact .inl ⟨_, _, rfl, rfl, same_int R q⟩
  · split at e
    · rename_i hz
      cases e
      obtain ⟨_, l, vs, rfl, h1, h2⟩ := isD_lst.mp hx
      obtain ⟨_, l', vs', rfl, h1', h2'⟩ := isD_lst.mp hy
      refine .inr (.inl ⟨l, l', vs, vs', rfl, rfl, Rd.sub R.sub h1, Rd.sub R.sub h1', by rw [h2.length, h2'.length]; exact big_le hz, ?_⟩)
      exact new_lst R (h2.app h2') (by rw [List.length_append]; exact big_le hz) q
    · cases e
  · split at e
    · rename_i a b hz
      cases e
      obtain ⟨z1, l, vs, rfl, h1, h2⟩ := isD_tup.mp hx
      obtain ⟨z2, l', vs', rfl, h1', h2'⟩ := isD_tup.mp hy
      refine .inr (.inr (.inl ⟨l, l', vs, vs', rfl, rfl, SqT.sub R.sub h1, SqT.sub R.sub h1', by rw [h2.length, h2'.length]; exact big_le hz, fun z => ?_, fun _ z => ?_, fun _ _ => new_tup R (h2.app h2') (by rw [List.length_append]; exact big_le hz) q⟩))
      · have za : a = [] := List.eq_nil_of_length_eq_zero (by rw [← h2.length, z]; rfl)
        subst za
        exact same_d R q hy
      · have zb : b = [] := List.eq_nil_of_length_eq_zero (by rw [← h2'.length, z]; rfl)
        subst zb
        rw [List.append_nil] at q
        exact same_d R q hx
    · cases e
  · split at e
    · rename_i hz
      cases e
      rw [isD_str] at hx hy
      subst hx hy
      exact .inr (.inr (.inr ⟨_, _, rfl, rfl, big_le hz, same_d R q (isD_str.mpr rfl)⟩))
    · cases e
  · cases e
theorem g_add {ma mb : ME S} (ha : PE X a (tG X.K W ma)) (hb : PE X b (tG X.K W mb)) : PE X (.BinOp a .Add b pos) (tG X.K W (ME.op2 addD ma mb)) := g_op2 op_addD addG ha hb

def iiD (f : Int → Int → Option Int) : D → D → Option D
  | .int i, .int j => (f i j).map .int
  | _, _ => none
theorem iiG {C : Int → Int → Prop} {g : Int → Int → Int} {f : Int → Int → Option Int} (h : ∀ i j k, f i j = some k → C i j ∧ k = g i j) : OpG K W (rI C fun i j => .int (g i j)) (iiD f) := by
  intro s F H x y v u Q R hx hy q
  obtain ⟨d, e, q⟩ := OQ.ex q
  unfold iiD at e
  split at e
  · rename_i i j
    cases z : f i j with
    | none => rw [z] at e; cases e
    | some k =>
      rw [z] at e
      cases e
      obtain ⟨h1, rfl⟩ := h i j k z
      rw [isD_int] at hx hy
      subst hx hy
      exact ⟨i, j, rfl, rfl, h1, same_int R q⟩
  · cases e
theorem iiG0 {g : Int → Int → Int} : OpG K W (rI0 fun i j => .int (g i j)) (iiD fun i j => some (g i j)) := by
  intro s F H x y v u Q R hx hy q
  obtain ⟨d, e, q⟩ := OQ.ex q
  unfold iiD at e
  split at e
  · cases e
    rw [isD_int] at hx hy
    subst hx hy
    exact ⟨_, _, rfl, rfl, same_int R q⟩
  · cases e
abbrev subD : D → D → Option D := iiD fun i j => some (i - j)
theorem g_sub {ma mb : ME S} (ha : PE X a (tG X.K W ma)) (hb : PE X b (tG X.K W mb)) : PE X (.BinOp a .Sub b pos) (tG X.K W (ME.op2 subD ma mb)) := g_op2 op_sub iiG0 ha hb
abbrev xorD : D → D → Option D := iiD fun i j => some (Builtin.bitXor i j)
theorem g_xor {ma mb : ME S} (ha : PE X a (tG X.K W ma)) (hb : PE X b (tG X.K W mb)) : PE X (.BinOp a .BitXor b pos) (tG X.K W (ME.op2 xorD ma mb)) := g_op2 op_xor iiG0 ha hb
abbrev modD : D → D → Option D := iiD fun i j => if 0 < j then some (i % j) else none
theorem g_mod {ma mb : ME S} (ha : PE X a (tG X.K W ma)) (hb : PE X b (tG X.K W mb)) : PE X (.BinOp a .Mod b pos) (tG X.K W (ME.op2 modD ma mb)) :=
  g_op2 op_mod (iiG fun i j k e => by split at e <;> cases e; exact ⟨by assumption, rfl⟩) ha hb
abbrev divD : D → D → Option D := iiD fun i j => if 0 < j ∧ j < 1073741824 then some (i / j) else none
theorem g_div {ma mb : ME S} (ha : PE X a (tG X.K W ma)) (hb : PE X b (tG X.K W mb)) : PE X (.BinOp a .FloorDiv b pos) (tG X.K W (ME.op2 divD ma mb)) :=
  g_op2 op_fdiv (iiG fun i j k e => by split at e <;> cases e; exact ⟨by assumption, rfl⟩) ha hb
abbrev powD : D → D → Option D := iiD fun i j => if 0 ≤ j ∧ j ≤ 1000000 ∧ i.natAbs < 2 ^ 64 then some (i ^ j.toNat) else none
theorem g_pow {ma mb : ME S} (ha : PE X a (tG X.K W ma)) (hb : PE X b (tG X.K W mb)) : PE X (.BinOp a .Pow b pos) (tG X.K W (ME.op2 powD ma mb)) :=
  g_op2 op_pow (iiG fun i j k e => by split at e <;> cases e; exact ⟨by assumption, rfl⟩) ha hb

def negD : D → Option D
  | .int i => some (.int (-i))
  | _ => none
theorem negG : UnG K W (rU fun i => .int (-i)) negD := by
  intro s F H x v Q R hx q
  obtain ⟨d, e, q⟩ := OQ.ex q
  unfold negD at e
  split at e
  · cases e
    rw [isD_int] at hx
    subst hx
    exact ⟨_, rfl, same_int R q⟩
  · cases e
theorem g_neg {ma : ME S} (ha : PE X a (tG X.K W ma)) : PE X (.UnaryOp .USub a pos) (tG X.K W (ME.op1 negD ma)) := g_un un_neg negG ha

/-! ### comparisons -/
theorem g_cmp {op : CmpOp} {r : R2} {f : D → D → Option Bool} {ma mb : ME S} (ho : OpR X (compareOp op) r) (hf : CpG X.K W r f) (hm : behindInMarks op b = false) (ha : PE X a (tG X.K W ma)) (hb : PE X b (tG X.K W mb)) : PE X (.Compare a [op] [b] pos) (tG X.K W (ME.of (MT.op2 f ma mb))) := by
  refine PE.imp (pe_cmpR ho ha hb hm) fun σ H Q ⟨F, δ, s, R, E, h⟩ => ?_
  refine two_run rfl rfl R E h fun x y s2 F2 H2 v u R2 E2 d1 d2 q => ?_
  exact hf s2 F2 H2 x y v u Q R2 d1 d2 (OQ.mono (fun d z => z F2 H2 (.bl d) R2 E2 (isD_bl.mpr rfl)) q)
theorem t_cmp {op : CmpOp} {r : R2} {f : D → D → Option Bool} {ma mb : ME S} (ho : OpR X (compareOp op) r) (hf : CpG X.K W r f) (hm : behindInMarks op b = false) (ha : PE X a (tG X.K W ma)) (hb : PE X b (tG X.K W mb)) : PT X (.Compare a [op] [b] pos) (tGT X.K W (MT.op2 f ma mb)) := by
  refine PT.imp (pt_cmpR ho ha hb hm) fun σ H Q ⟨F, δ, s, R, E, h⟩ => ?_
  refine two_run rfl rfl R E h fun x y s2 F2 H2 v u R2 E2 d1 d2 q => ?_
  exact hf s2 F2 H2 x y v u _ R2 d1 d2 (OQ.mono (fun d z => ⟨d, rfl, z F2 H2 d R2 E2 rfl⟩) q)
theorem g_chain {op op' : CmpOp} {r r' : R2} {f f' : D → D → Option Bool} {ma mb mc : ME S} (ho : OpR X (compareOp op) r) (hf : CpG X.K W r f) (ho' : OpR X (compareOp op') r') (hf' : CpG X.K W r' f') (ha : PE X a (tG X.K W ma)) (hb : PE X b (tG X.K W mb)) (hc : PE X c (tG X.K W mc))
    (hm : lastMarks [op, op'] [b, c] = false := by with_unfolding_all rfl) : PE X (.Compare a [op, op'] [b, c] pos) (tG X.K W (ME.chain f f' ma mb mc)) := by
  refine PE.imp (pe_chain ho ho' ha hb hc hm) fun σ H Q ⟨F, δ, s, R, E, h⟩ => ?_
  refine two_run rfl rfl R E h fun x y s2 F2 H2 v u R2 E2 d1 d2 q => ?_
  refine hf s2 F2 H2 x y v u _ R2 d1 d2 (OQ.mono (fun k z => ⟨k, rfl, ?_⟩) q)
  cases k with
  | false => exact iteF (z F2 H2 _ R2 E2 (isD_bl.mpr rfl))
  | true =>
    refine iteT ⟨F2, δ, s2, R2, E.same E2.same, mc.mono (fun w s3 q3 => ?_) z⟩
    intro F3 H3 t R3 E3 d3
    exact hf' s3 F3 H3 y w u t Q R3 (d2.same E3.same) d3 (OQ.mono (fun d z => z F3 H3 (.bl d) R3 (E2.trans E3) (isD_bl.mpr rfl)) q3)
theorem t_chain {op op' : CmpOp} {r r' : R2} {f f' : D → D → Option Bool} {ma mb mc : ME S} (ho : OpR X (compareOp op) r) (hf : CpG X.K W r f) (ho' : OpR X (compareOp op') r') (hf' : CpG X.K W r' f') (ha : PE X a (tG X.K W ma)) (hb : PE X b (tG X.K W mb)) (hc : PE X c (tG X.K W mc))
    (hm : lastMarks [op, op'] [b, c] = false := by with_unfolding_all rfl) : PT X (.Compare a [op, op'] [b, c] pos) (tGT X.K W (MT.chain f f' ma mb mc)) := by
  refine PT.imp (pt_chain ho ho' ha hb hc hm) fun σ H Q ⟨F, δ, s, R, E, h⟩ => ?_
  refine two_run rfl rfl R E h fun x y s2 F2 H2 v u R2 E2 d1 d2 q => ?_
  refine hf s2 F2 H2 x y v u _ R2 d1 d2 (OQ.mono (fun k z => ⟨k, rfl, ?_⟩) q)
  cases k with
  | false => exact iteF ⟨_, rfl, z F2 H2 _ R2 E2 rfl⟩
  | true =>
    refine iteT ⟨F2, δ, s2, R2, E.same E2.same, mc.mono (fun w s3 q3 => ?_) z⟩
    intro F3 H3 t R3 E3 d3
    exact hf' s3 F3 H3 y w u t _ R3 (d2.same E3.same) d3 (OQ.mono (fun d z => ⟨d, rfl, z F3 H3 d R3 (E2.trans E3) rfl⟩) q3)

/-! ### tests -/
theorem t_of {m : ME S} (h : PE X e (tG X.K W m)) (he : ∀ whole, isTrue e X.env whole = (do let v ← whole; standAt e.pos; holding [v] (truthy v)) := by intro _; rfl) : PT X e (tGT X.K W (MT.of m)) := by
  refine PT.imp (pt_val h he) fun σ H Q ⟨F, δ, s, R, E, h⟩ => ?_
  refine ⟨F, δ, s, R, E, m.mono (fun x s1 q => ?_) h⟩
  intro F1 H1 v R1 E1 d1
  obtain ⟨b, e, q⟩ := OQ.ex q
  unfold blD at e
  split at e
  · cases e
    rw [isD_bl] at d1
    subst d1
    exact ⟨_, rfl, q F1 H1 _ R1 E1 rfl⟩
  · cases e
theorem w_and1 {m : MT S} (h : PT X a (tGT X.K W m)) : PW X (.BoolOp .And [a] pos) (tGT X.K W m) := pw_and1 h
theorem w_or1 {m : MT S} (h : PT X a (tGT X.K W m)) : PW X (.BoolOp .Or [a] pos) (tGT X.K W m) := pw_or1 h
variable {rest : List Expr}
theorem w_and {m n : MT S} (ha : PT X a (tGT X.K W m)) (hb : PW X (.BoolOp .And (b :: rest) pos) (tGT X.K W n)) : PW X (.BoolOp .And (a :: b :: rest) pos) (tGT X.K W (MT.and m n)) := by
  refine PW.imp (pw_and ha hb) fun σ H Q ⟨F, δ, s, R, E, h⟩ => ?_
  refine ⟨F, δ, s, R, E, m.mono (fun k s1 q => ?_) h⟩
  intro F1 H1 v R1 E1 d1
  subst d1
  cases k with
  | true => exact iteT ⟨F1, δ, s1, R1, E.same E1.same, n.mono (fun d s2 z => aft.ext E1 z) q⟩
  | false => exact iteF (q F1 H1 _ R1 E1 rfl)
theorem w_or {m n : MT S} (ha : PT X a (tGT X.K W m)) (hb : PW X (.BoolOp .Or (b :: rest) pos) (tGT X.K W n)) : PW X (.BoolOp .Or (a :: b :: rest) pos) (tGT X.K W (MT.or m n)) := by
  refine PW.imp (pw_or ha hb) fun σ H Q ⟨F, δ, s, R, E, h⟩ => ?_
  refine ⟨F, δ, s, R, E, m.mono (fun k s1 q => ?_) h⟩
  intro F1 H1 v R1 E1 d1
  subst d1
  cases k with
  | true => exact iteT (q F1 H1 _ R1 E1 rfl)
  | false => exact iteF ⟨F1, δ, s1, R1, E.same E1.same, n.mono (fun d s2 z => aft.ext E1 z) q⟩
theorem t_not {m : MT S} (ha : PT X a (tGT X.K W m)) : PT X (.UnaryOp .Not a pos) (tGT X.K W (MT.not m)) := by
  refine PT.imp (pt_not ha) fun σ H Q ⟨F, δ, s, R, E, h⟩ => ?_
  refine ⟨F, δ, s, R, E, m.mono (fun k s1 q => ?_) h⟩
  intro F1 H1 v R1 E1 d1
  subst d1
  exact q F1 H1 _ R1 E1 rfl
/-! .. as values: bools -/
theorem g_one {op} {m : ME S} (h : PE X a (tG X.K W m)) : PE X (.BoolOp op [a] pos) (tG X.K W m) := pe_one h
theorem g_and {m n : ME S} (ha : PE X a (tG X.K W m)) (hb : PE X (.BoolOp .And (b :: rest) pos) (tG X.K W n)) : PE X (.BoolOp .And (a :: b :: rest) pos) (tG X.K W (ME.ite (MT.of m) n (ME.c (.bl false)))) := by
  refine PE.imp (pe_and ha hb) fun σ H Q ⟨F, δ, s, R, E, h⟩ => ?_
  refine ⟨F, δ, s, R, E, m.mono (fun x s1 q => ?_) h⟩
  intro F1 H1 v R1 E1 d1
  obtain ⟨k, e, q⟩ := OQ.ex q
  unfold blD at e
  split at e
  · cases e
    rw [isD_bl] at d1
    refine ⟨k, d1, ?_⟩
    cases k with
    | true => exact iteT ⟨F1, δ, s1, R1, E.same E1.same, n.mono (fun d s2 z => aft.ext E1 z) q⟩
    | false => exact iteF (q F1 H1 _ R1 E1 (isD_bl.mpr rfl))
  · cases e
theorem g_or {m n : ME S} (ha : PE X a (tG X.K W m)) (hb : PE X (.BoolOp .Or (b :: rest) pos) (tG X.K W n)) : PE X (.BoolOp .Or (a :: b :: rest) pos) (tG X.K W (ME.ite (MT.of m) (ME.c (.bl true)) n)) := by
  refine PE.imp (pe_or ha hb) fun σ H Q ⟨F, δ, s, R, E, h⟩ => ?_
  refine ⟨F, δ, s, R, E, m.mono (fun x s1 q => ?_) h⟩
  intro F1 H1 v R1 E1 d1
  obtain ⟨k, e, q⟩ := OQ.ex q
  unfold blD at e
  split at e
  · cases e
    rw [isD_bl] at d1
    refine ⟨k, d1, ?_⟩
    cases k with
    | true => exact iteT (q F1 H1 _ R1 E1 (isD_bl.mpr rfl))
    | false => exact iteF ⟨F1, δ, s1, R1, E.same E1.same, n.mono (fun d s2 z => aft.ext E1 z) q⟩
  · cases e
theorem g_not {m : ME S} (ha : PE X a (tG X.K W m)) : PE X (.UnaryOp .Not a pos) (tG X.K W (ME.of (MT.not (MT.of m)))) := by
  refine PE.imp (pe_not ha) fun σ H Q ⟨F, δ, s, R, E, h⟩ => ?_
  refine ⟨F, δ, s, R, E, m.mono (fun x s1 q => ?_) h⟩
  intro F1 H1 v R1 E1 d1
  obtain ⟨k, e, q⟩ := OQ.ex q
  unfold blD at e
  split at e
  · cases e
    rw [isD_bl] at d1
    exact ⟨k, d1, q F1 H1 _ R1 E1 (isD_bl.mpr rfl)⟩
  · cases e
theorem g_ite {t : MT S} {m n : ME S} (hc : PT X c (tGT X.K W t)) (ha : PE X a (tG X.K W m)) (hb : PE X b (tG X.K W n)) : PE X (.IfExp c a b pos) (tG X.K W (ME.ite t m n)) := by
  refine PE.imp (pe_ifExp hc ha hb) fun σ H Q ⟨F, δ, s, R, E, h⟩ => ?_
  refine ⟨F, δ, s, R, E, t.mono (fun k s1 q => ?_) h⟩
  intro F1 H1 v R1 E1 d1
  subst d1
  cases k with
  | true => exact iteT ⟨F1, δ, s1, R1, E.same E1.same, m.mono (fun d s2 z => aft.ext E1 z) q⟩
  | false => exact iteF ⟨F1, δ, s1, R1, E.same E1.same, n.mono (fun d s2 z => aft.ext E1 z) q⟩
end
end G

set_option Elab.async false
set_option linter.all false
set_option maxRecDepth 100000
set_option maxHeartbeats 4000000
/-! comparisons, membership, products, displays, subscripts, slices -/
namespace G
open PySem PySem.Spec PyProof.Rows L2

/-! ### data without dicts and addresses, as the library's data -/
mutual
def toP : D → PyData
  | .non => .none
  | .bl b => .bool b
  | .int i => .int i
  | .str x => .str x
  | .tup ds => .tuple (toPs ds)
  | .lst ds => .list (toPs ds)
  | .ref _ => .none
  | .ty _ => .none
  | .dct _ _ => .none
def toPs : List D → List PyData
  | [] => []
  | d :: ds => toP d :: toPs ds
end
mutual
/-- nothing but scalars, tuples and lists, of depth n at most -/
def shD (n : Nat) : D → Bool
  | .non => true
  | .bl _ => true
  | .int _ => true
  | .str x => PyData.strOk x
  | .tup ds => match n with | 0 => false | n + 1 => shDs n ds
  | .lst ds => match n with | 0 => false | n + 1 => shDs n ds
  | .ref _ => false
  | .ty _ => false
  | .dct _ _ => false
def shDs (n : Nat) : List D → Bool
  | [] => true
  | d :: ds => shD n d && shDs n ds
end
mutual
theorem shD_ok : ∀ (n : Nat) (d : D), shD n d = true → (toP d).canLay0 = true ∧ (toP d).depth ≤ n
  | _, .non, _ => by simp [toP, PyData.canLay0, PyData.depth]
  | _, .bl _, _ => by simp [toP, PyData.canLay0, PyData.depth]
  | _, .int _, _ => by simp [toP, PyData.canLay0, PyData.depth]
  | _, .str x, h => by
    have h' : PyData.strOk x = true := by simpa [shD] using h
    simp [toP, PyData.canLay0, PyData.depth, h']
  | 0, .tup _, h => by simp [shD] at h
  | n + 1, .tup ds, h => by
    obtain ⟨h1, h2⟩ := shDs_ok n ds (by simpa [shD] using h)
    simp [toP, PyData.canLay0, PyData.depth, h1, h2]
  | 0, .lst _, h => by simp [shD] at h
  | n + 1, .lst ds, h => by
    obtain ⟨h1, h2⟩ := shDs_ok n ds (by simpa [shD] using h)
    simp [toP, PyData.canLay0, PyData.depth, h1, h2]
  | _, .ref _, h => by simp [shD] at h
  | _, .ty _, h => by simp [shD] at h
  | _, .dct _ _, h => by simp [shD] at h
theorem shDs_ok : ∀ (n : Nat) (ds : List D), shDs n ds = true → PyData.canLayAll0 (toPs ds) = true ∧ PyData.depthAll (toPs ds) ≤ n
  | _, [], _ => by simp [toPs, PyData.canLayAll0, PyData.depthAll]
  | n, d :: ds, h => by
    have h' : shD n d = true ∧ shDs n ds = true := by simpa [shDs] using h
    obtain ⟨h1, h2⟩ := shD_ok n d h'.1
    obtain ⟨h3, h4⟩ := shDs_ok n ds h'.2
    simp only [toPs, PyData.canLayAll0, PyData.depthAll, h1, h3, Bool.and_self, true_and]
    omega
end
theorem shaped_of {d : D} (h : shD 64 d = true) : SeqAt.shaped (toP d) = true := by
  obtain ⟨h1, h2⟩ := shD_ok 64 d h
  show ((toP d).canLay0 && decide ((toP d).depth ≤ 64)) = true
  rw [h1, decide_eq_true h2]; rfl
section
variable {K : PySem.W.Frag} {F H : Hp}
mutual
theorem toP_dp (e : Sub F H) : ∀ (d : D) (n : Nat) (v : V), IsD K F d v → shD n d = true → Dp K H v (toP d)
  | .non, _, v, h, _ => by rw [isD_non] at h; subst h; simp only [toP]; exact .non
  | .bl b, _, v, h, _ => by rw [isD_bl] at h; subst h; simp only [toP]; exact .bl b
  | .int i, _, v, h, _ => by rw [isD_int] at h; subst h; simp only [toP]; exact .int i
  | .str x, _, v, h, _ => by rw [isD_str] at h; subst h; simp only [toP]; exact .str x
  | .tup ds, 0, _, _, h => by simp [shD] at h
  | .tup ds, n + 1, v, h, q => by
    obtain ⟨_, a, vs, rfl, h1, h2⟩ := isD_tup.mp h
    simp only [toP]
    exact .tup (SqT.sub e h1) (toPs_dp e ds n vs h2 (by simpa [shD] using q))
  | .lst ds, 0, _, _, h => by simp [shD] at h
  | .lst ds, n + 1, v, h, q => by
    obtain ⟨_, a, vs, rfl, h1, h2⟩ := isD_lst.mp h
    simp only [toP]
    exact .lst (.inl (Rd.sub e h1)) (toPs_dp e ds n vs h2 (by simpa [shD] using q))
  | .ref _, _, _, _, h => by simp [shD] at h
  | .ty _, _, _, _, h => by simp [shD] at h
  | .dct _ _, _, _, _, h => by simp [shD] at h
theorem toPs_dp (e : Sub F H) : ∀ (ds : List D) (n : Nat) (vs : List V), IsDs K F ds vs → shDs n ds = true → DpAll K H vs (toPs ds)
  | [], _, vs, h, _ => by simp only [IsDs] at h; subst h; simp only [toPs]; exact .nil
  | d :: ds, n, vs, h, q => by
    simp only [IsDs] at h
    obtain ⟨v, ws, rfl, h1, h2⟩ := h
    have q' : shD n d = true ∧ shDs n ds = true := by simpa [shDs] using q
    simp only [toPs]
    exact .cons (toP_dp e d n v h1 q'.1) (toPs_dp e ds n ws h2 q'.2)
end
end

section
variable {S : Type} {W : Wd S} {X : Cx} {a b c e : Expr} {pos : Pos} {K : PySem.W.Frag}
/-! ### ==, != -/
def eqD (x y : D) : Option Bool := if shD 64 x = true ∧ shD 64 y = true then some (PyData.eqv (toP x) (toP y)) else none
def neD (x y : D) : Option Bool := (eqD x y).map (!·)
theorem eqG : CpG K W (rEqD K) eqD := by
  intro s F H x y v u Q R hx hy q
  obtain ⟨d, e, q⟩ := OQ.ex q
  unfold eqD at e
  split at e
  · rename_i h
    cases e
    exact ⟨_, _, toP_dp R.sub x 64 v hx h.1, toP_dp R.sub y 64 u hy h.2, shaped_of h.1, shaped_of h.2, q⟩
  · cases e
theorem neG : CpG K W (rNeD K) neD := by
  intro s F H x y v u Q R hx hy q
  obtain ⟨d, e, q⟩ := OQ.ex q
  unfold neD eqD at e
  split at e
  · rename_i h
    cases e
    exact ⟨_, _, toP_dp R.sub x 64 v hx h.1, toP_dp R.sub y 64 u hy h.2, shaped_of h.1, shaped_of h.2, q⟩
  · cases e
variable {ma mb mc : ME S}
theorem g_eq (hu : X.A.units + 64 < cLine) (ha : PE X a (tG X.K W ma)) (hb : PE X b (tG X.K W mb)) : PE X (.Compare a [.Eq] [b] pos) (tG X.K W (ME.of (MT.op2 eqD ma mb))) := g_cmp (op_eqD hu) eqG (nomark _) ha hb
theorem t_eq (hu : X.A.units + 64 < cLine) (ha : PE X a (tG X.K W ma)) (hb : PE X b (tG X.K W mb)) : PT X (.Compare a [.Eq] [b] pos) (tGT X.K W (MT.op2 eqD ma mb)) := t_cmp (op_eqD hu) eqG (nomark _) ha hb
theorem g_ne (hu : X.A.units + 64 < cLine) (ha : PE X a (tG X.K W ma)) (hb : PE X b (tG X.K W mb)) : PE X (.Compare a [.NotEq] [b] pos) (tG X.K W (ME.of (MT.op2 neD ma mb))) := g_cmp (op_neD hu) neG (nomark _) ha hb
theorem t_ne (hu : X.A.units + 64 < cLine) (ha : PE X a (tG X.K W ma)) (hb : PE X b (tG X.K W mb)) : PT X (.Compare a [.NotEq] [b] pos) (tGT X.K W (MT.op2 neD ma mb)) := t_cmp (op_neD hu) neG (nomark _) ha hb

/-! ### the order of ints and texts -/
def ordD (f : Int → Int → Bool) (g : Str → Str → Bool) : D → D → Option Bool
  | .int i, .int j => some (f i j)
  | .str i, .str j => some (g i j)
  | _, _ => none
def rOrd (f : Int → Int → Bool) (g : Str → Str → Bool) : R2 := fun x y H Q => (rI0 fun i j => .bl (f i j)) x y H Q ∨ ∃ i j, x = .str i ∧ y = .str j ∧ Q (.bl (g i j)) H
theorem ordG {f : Int → Int → Bool} {g : Str → Str → Bool} : CpG K W (rOrd f g) (ordD f g) := by
  intro s F H x y v u Q R hx hy q
  obtain ⟨d, e, q⟩ := OQ.ex q
  unfold ordD at e
  split at e
  · cases e
    rw [isD_int] at hx hy
    subst hx hy
    exact .inl ⟨_, _, rfl, rfl, q⟩
  · cases e
    rw [isD_str] at hx hy
    subst hx hy
    exact .inr ⟨_, _, rfl, rfl, q⟩
  · cases e
abbrev sLt (i j : Str) : Bool := decide (i.cps.toList < j.cps.toList)
abbrev ltD := ordD (fun i j => decide (i < j)) sLt
abbrev leD := ordD (fun i j => decide (i ≤ j)) fun i j => !sLt j i
abbrev gtD := ordD (fun i j => decide (j < i)) fun i j => sLt j i
abbrev geD := ordD (fun i j => decide (j ≤ i)) fun i j => !sLt i j
theorem op_ltD : OpR X (compareOp .Lt) (rOrd (fun i j => decide (i < j)) sLt) := op_lt.or op_lt_str
theorem op_leD : OpR X (compareOp .LtE) (rOrd (fun i j => decide (i ≤ j)) fun i j => !sLt j i) := op_le.or op_le_str
theorem op_gtD : OpR X (compareOp .Gt) (rOrd (fun i j => decide (j < i)) fun i j => sLt j i) := op_gt.or op_gt_str
theorem op_geD : OpR X (compareOp .GtE) (rOrd (fun i j => decide (j ≤ i)) fun i j => !sLt i j) := op_ge.or op_ge_str
theorem g_lt (ha : PE X a (tG X.K W ma)) (hb : PE X b (tG X.K W mb)) : PE X (.Compare a [.Lt] [b] pos) (tG X.K W (ME.of (MT.op2 ltD ma mb))) := g_cmp op_ltD ordG (nomark _) ha hb
theorem t_lt (ha : PE X a (tG X.K W ma)) (hb : PE X b (tG X.K W mb)) : PT X (.Compare a [.Lt] [b] pos) (tGT X.K W (MT.op2 ltD ma mb)) := t_cmp op_ltD ordG (nomark _) ha hb
theorem g_le (ha : PE X a (tG X.K W ma)) (hb : PE X b (tG X.K W mb)) : PE X (.Compare a [.LtE] [b] pos) (tG X.K W (ME.of (MT.op2 leD ma mb))) := g_cmp op_leD ordG (nomark _) ha hb
theorem t_le (ha : PE X a (tG X.K W ma)) (hb : PE X b (tG X.K W mb)) : PT X (.Compare a [.LtE] [b] pos) (tGT X.K W (MT.op2 leD ma mb)) := t_cmp op_leD ordG (nomark _) ha hb
theorem g_gt (ha : PE X a (tG X.K W ma)) (hb : PE X b (tG X.K W mb)) : PE X (.Compare a [.Gt] [b] pos) (tG X.K W (ME.of (MT.op2 gtD ma mb))) := g_cmp op_gtD ordG (nomark _) ha hb
theorem t_gt (ha : PE X a (tG X.K W ma)) (hb : PE X b (tG X.K W mb)) : PT X (.Compare a [.Gt] [b] pos) (tGT X.K W (MT.op2 gtD ma mb)) := t_cmp op_gtD ordG (nomark _) ha hb
theorem g_ge (ha : PE X a (tG X.K W ma)) (hb : PE X b (tG X.K W mb)) : PE X (.Compare a [.GtE] [b] pos) (tG X.K W (ME.of (MT.op2 geD ma mb))) := g_cmp op_geD ordG (nomark _) ha hb
theorem t_ge (ha : PE X a (tG X.K W ma)) (hb : PE X b (tG X.K W mb)) : PT X (.Compare a [.GtE] [b] pos) (tGT X.K W (MT.op2 geD ma mb)) := t_cmp op_geD ordG (nomark _) ha hb
/-- a <= b <= c, a <= b < c -/
theorem g_lele (ha : PE X a (tG X.K W ma)) (hb : PE X b (tG X.K W mb)) (hc : PE X c (tG X.K W mc)) (hm : lastMarks [.LtE, .LtE] [b, c] = false := by with_unfolding_all rfl) : PE X (.Compare a [.LtE, .LtE] [b, c] pos) (tG X.K W (ME.chain leD leD ma mb mc)) := g_chain op_leD ordG op_leD ordG ha hb hc hm
theorem t_lele (ha : PE X a (tG X.K W ma)) (hb : PE X b (tG X.K W mb)) (hc : PE X c (tG X.K W mc)) (hm : lastMarks [.LtE, .LtE] [b, c] = false := by with_unfolding_all rfl) : PT X (.Compare a [.LtE, .LtE] [b, c] pos) (tGT X.K W (MT.chain leD leD ma mb mc)) := t_chain op_leD ordG op_leD ordG ha hb hc hm
theorem g_lelt (ha : PE X a (tG X.K W ma)) (hb : PE X b (tG X.K W mb)) (hc : PE X c (tG X.K W mc)) (hm : lastMarks [.LtE, .Lt] [b, c] = false := by with_unfolding_all rfl) : PE X (.Compare a [.LtE, .Lt] [b, c] pos) (tG X.K W (ME.chain leD ltD ma mb mc)) := g_chain op_leD ordG op_ltD ordG ha hb hc hm
theorem t_lelt (ha : PE X a (tG X.K W ma)) (hb : PE X b (tG X.K W mb)) (hc : PE X c (tG X.K W mc)) (hm : lastMarks [.LtE, .Lt] [b, c] = false := by with_unfolding_all rfl) : PT X (.Compare a [.LtE, .Lt] [b, c] pos) (tGT X.K W (MT.chain leD ltD ma mb mc)) := t_chain op_leD ordG op_ltD ordG ha hb hc hm
theorem g_eqeq (hu : X.A.units + 64 < cLine) (ha : PE X a (tG X.K W ma)) (hb : PE X b (tG X.K W mb)) (hc : PE X c (tG X.K W mc)) (hm : lastMarks [.Eq, .Eq] [b, c] = false := by with_unfolding_all rfl) : PE X (.Compare a [.Eq, .Eq] [b, c] pos) (tG X.K W (ME.chain eqD eqD ma mb mc)) := g_chain (op_eqD hu) eqG (op_eqD hu) eqG ha hb hc hm

/-! ### is, is not: None, and bools -/
def isNon : D → Bool
  | .non => true
  | _ => false
def isB (x y : D) : Option Bool := match x, y with
  | .bl i, .bl j => some (i == j)
  | x, .non => some (isNon x)
  | _, _ => none
def isNotB (x y : D) : Option Bool := (isB x y).map (!·)
theorem non_iff {F : Hp} {d : D} {v : V} (h : IsD K F d v) : decide (v = .non) = isNon d := by
  cases d <;> simp only [IsD] at h <;> first
    | (subst h; simp [isNon])
    | (obtain ⟨_, a, vs, rfl, _⟩ := h; simp [isNon])
    | (obtain ⟨_, a, vs, _, rfl, _⟩ := h; simp [isNon])
def rIsD : R2 := fun x y H Q => rIsB x y H Q ∨ (y = .non ∧ Q (.bl (decide (x = .non))) H)
def rIsNotD : R2 := fun x y H Q => rNotB x y H Q ∨ (y = .non ∧ Q (.bl (!decide (x = .non))) H)
theorem op_isD : OpR X (compareOp .Is) rIsD := op_isBl.or op_isN
theorem op_isNotD : OpR X (compareOp .IsNot) rIsNotD := op_notBl.or op_notN
theorem isG : CpG K W rIsD isB := by
  intro s F H x y v u Q R hx hy q
  obtain ⟨d, e, q⟩ := OQ.ex q
  unfold isB at e
  split at e
  · rename_i i j
    cases e
    rw [isD_bl] at hx hy
    subst hx hy
    refine .inl ⟨_, _, rfl, rfl, ?_⟩
    rw [show decide (i = j) = (i == j) by cases i <;> cases j <;> rfl]; exact q
  · cases e
    rw [isD_non] at hy
    exact .inr ⟨hy, by rw [non_iff hx]; exact q⟩
  · cases e
theorem isNotG : CpG K W rIsNotD isNotB := by
  intro s F H x y v u Q R hx hy q
  obtain ⟨d, e, q⟩ := OQ.ex q
  unfold isNotB isB at e
  split at e
  · rename_i i j
    cases e
    rw [isD_bl] at hx hy
    subst hx hy
    refine .inl ⟨_, _, rfl, rfl, ?_⟩
    rw [show decide (i = j) = (i == j) by cases i <;> cases j <;> rfl]; exact q
  · cases e
    rw [isD_non] at hy
    exact .inr ⟨hy, by rw [non_iff hx]; exact q⟩
  · cases e
theorem g_is (ha : PE X a (tG X.K W ma)) (hb : PE X b (tG X.K W mb)) : PE X (.Compare a [.Is] [b] pos) (tG X.K W (ME.of (MT.op2 isB ma mb))) := g_cmp op_isD isG (nomark _) ha hb
theorem t_is (ha : PE X a (tG X.K W ma)) (hb : PE X b (tG X.K W mb)) : PT X (.Compare a [.Is] [b] pos) (tGT X.K W (MT.op2 isB ma mb)) := t_cmp op_isD isG (nomark _) ha hb
theorem g_isNot (ha : PE X a (tG X.K W ma)) (hb : PE X b (tG X.K W mb)) : PE X (.Compare a [.IsNot] [b] pos) (tG X.K W (ME.of (MT.op2 isNotB ma mb))) := g_cmp op_isNotD isNotG (nomark _) ha hb
theorem t_isNot (ha : PE X a (tG X.K W ma)) (hb : PE X b (tG X.K W mb)) : PT X (.Compare a [.IsNot] [b] pos) (tGT X.K W (MT.op2 isNotB ma mb)) := t_cmp op_isNotD isNotG (nomark _) ha hb

/-! ### in, not in -/
/-- among items that are data; a text in a text; a key in a dict -/
def keyOf : D → Option Key
  | .int i => some (.inl i)
  | .str x => some (.inr x)
  | _ => none
def memK (ks : List Key) (k : Key) : Bool := ks.any fun j => decide (j = k)
def inStr (i j : Str) : Bool := !(Builtin.Str.occurrences j i 0 j.length 1).isEmpty
def inD (x y : D) : Option Bool := match y with
  | .lst ds => if shD 64 x = true ∧ shDs 63 ds = true then some (ds.any fun z => PyData.eqv (toP z) (toP x)) else none
  | .tup ds => if shD 64 x = true ∧ shDs 63 ds = true then some (ds.any fun z => PyData.eqv (toP z) (toP x)) else none
  | .str j => (match x with | .str i => some (inStr i j) | _ => none)
  | .dct ks _ => (keyOf x).map fun k => memK ks k
  | _ => none
def notInD (x y : D) : Option Bool := (inD x y).map (!·)
theorem any_toPs {x : PyData} : ∀ ds : List D, ((toPs ds).any fun z => PyData.eqv z x) = ds.any fun z => PyData.eqv (toP z) x
  | [] => by simp [toPs]
  | d :: ds => by simp only [toPs, List.any_cons, any_toPs ds]
theorem lay_lst {ds : List D} (h : shDs 63 ds = true) : SeqAt.shaped (.list (toPs ds)) = true := by
  have := shaped_of (d := .lst ds) (by simpa [shD] using h)
  simpa [toP] using this
def rInT (K : PySem.W.Frag) (neg : Bool) : R2 := fun x y H Q => ∃ d ds, Dp K H x d ∧ Dp K H y (.tuple ds) ∧ SeqAt.shaped d = true ∧ PyData.canLayAll0 ds = true ∧ Q (.bl (if neg then !ds.any fun z => PyData.eqv z d else ds.any fun z => PyData.eqv z d)) H
theorem op_inT (hu : X.A.units + 65 < cLine) : OpR X (compareOp .In) (rInT X.K false) := by
  intro pins s σ H x y v u Q I rx ry h
  obtain ⟨d, ds, hd, he, sd, se, q⟩ := h
  obtain ⟨as, r1⟩ := Dp.reads I d x v hd rx
  obtain ⟨bs, r2⟩ := Dp.reads I (.tuple ds) y u he ry
  exact SeqAt.in_tuple_reads r2 r1 se (SeqAt.canLay_of_shaped sd) (PyProof.Rows.room_in_shaped sd hu) ⟨.bl _, H, I, rfl, q⟩
theorem op_notInT (hu : X.A.units + 65 < cLine) : OpR X (compareOp .NotIn) (rInT X.K true) := by
  intro pins s σ H x y v u Q I rx ry h
  obtain ⟨d, ds, hd, he, sd, se, q⟩ := h
  obtain ⟨as, r1⟩ := Dp.reads I d x v hd rx
  obtain ⟨bs, r2⟩ := Dp.reads I (.tuple ds) y u he ry
  exact SeqAt.notIn_tuple_reads r2 r1 se (SeqAt.canLay_of_shaped sd) (PyProof.Rows.room_in_shaped sd hu) ⟨.bl _, H, I, rfl, q⟩
def rInK (neg : Bool) : R2 := fun x y H Q => ∃ a o, y = .ref a ∧ DGet H a x o ∧ Q (.bl (if neg then !o.isSome else o.isSome)) H
theorem op_inK (hu : X.A.units + 1 < cLine) : OpR X (compareOp .In) (rInK false) := by
  intro pins s σ H x y v u Q I rx ry h
  obtain ⟨a, o, rfl, g, q⟩ := h
  cases ry
  exact d_in hu I g rx fun s' I' => ⟨.bl _, H, I', rfl, q⟩
theorem op_notInK (hu : X.A.units + 1 < cLine) : OpR X (compareOp .NotIn) (rInK true) := by
  intro pins s σ H x y v u Q I rx ry h
  obtain ⟨a, o, rfl, g, q⟩ := h
  cases ry
  exact d_notIn hu I g rx fun s' I' => ⟨.bl _, H, I', rfl, q⟩
def rInA (K : PySem.W.Frag) : R2 := fun x y H Q => rInD K x y H Q ∨ rInT K false x y H Q ∨ rInK false x y H Q ∨ ∃ i j, x = .str i ∧ y = .str j ∧ Q (.bl (!(Builtin.Str.occurrences j i 0 j.length 1).isEmpty)) H
def rNotInA (K : PySem.W.Frag) : R2 := fun x y H Q => rNotInD K x y H Q ∨ rInT K true x y H Q ∨ rInK true x y H Q ∨ ∃ i j, x = .str i ∧ y = .str j ∧ Q (.bl (!(!(Builtin.Str.occurrences j i 0 j.length 1).isEmpty))) H
theorem op_inA (hu : X.A.units + 65 < cLine) : OpR X (compareOp .In) (rInA X.K) := (op_inD hu).or ((op_inT hu).or ((op_inK (by omega)).or op_in_str))
theorem op_notInA (hu : X.A.units + 65 < cLine) : OpR X (compareOp .NotIn) (rNotInA X.K) := (op_notInD hu).or ((op_notInT hu).or ((op_notInK (by omega)).or L2.op_notIn_str))
theorem keyOf_kV {F : Hp} {x : D} {v : V} {k : Key} (h : IsD K F x v) (e : keyOf x = some k) : v = kV k := by
  unfold keyOf at e
  split at e
  · cases e; exact isD_int.mp h
  · cases e; exact isD_str.mp h
  · cases e
theorem val_zip {k : Key} : ∀ {ks : List Key} {vs : List V}, vs.length = ks.length → (valV (ks.zip vs) k).isSome = memK ks k
  | [], _, _ => by simp [valV, memK]
  | a :: ks, [], h => by simp at h
  | a :: ks, v :: vs, h => by
    rw [List.zip_cons_cons]
    by_cases e : a = k
    · rw [valV_pos (p := (a, v)) e]; simp [e, memK]
    · rw [valV_neg (p := (a, v)) e, val_zip (by simpa using h)]
      simp [memK, e]
theorem dget_of {F H : Hp} (e : Sub F H) {a : Addr} {kvs : List (Key × V)} {k : Key} {o : Obj} (h : F a = some (.frz o (.dK kvs))) : DGet H a (kV k) (valV kvs k) := .inl ⟨kvs, k, Rd.sub e (.inr ⟨o, h⟩), rfl, rfl⟩
theorem inG : CpG K W (rInA K) inD := by
  intro s F H x y v u Q R hx hy q
  obtain ⟨d, e, q⟩ := OQ.ex q
  unfold inD at e
  split at e
  · split at e
    · rename_i ds h
      cases e
      have hl := toP_dp R.sub (.lst ds) 64 u hy (by simpa [shD] using h.2)
      simp only [toP] at hl
      refine .inl ⟨_, _, toP_dp R.sub x 64 v hx h.1, hl, shaped_of h.1, lay_lst h.2, ?_⟩
      rw [any_toPs]; exact q
    · cases e
  · split at e
    · rename_i ds h
      cases e
      have hl := toP_dp R.sub (.tup ds) 64 u hy (by simpa [shD] using h.2)
      simp only [toP] at hl
      refine .inr (.inl ⟨_, _, toP_dp R.sub x 64 v hx h.1, hl, shaped_of h.1, (shDs_ok 63 ds h.2).1, ?_⟩)
      rw [any_toPs]; exact q
    · cases e
  · split at e
    · cases e
      rw [isD_str] at hx hy
      subst hx hy
      exact .inr (.inr (.inr ⟨_, _, rfl, rfl, q⟩))
    · cases e
  · rename_i ks ds
    cases z : keyOf x with
    | none => rw [z] at e; cases e
    | some k =>
      rw [z] at e
      cases e
      obtain ⟨hl, a, vs, od, rfl, h1, h2⟩ := isD_dct.mp hy
      refine .inr (.inr (.inl ⟨a, _, rfl, by rw [keyOf_kV hx z]; exact dget_of R.sub h1, ?_⟩))
      show Q (.bl ((valV (ks.zip vs) k).isSome)) H
      rw [val_zip (by rw [h2.length, hl])]; exact q
  · cases e
theorem notInG : CpG K W (rNotInA K) notInD := by
  intro s F H x y v u Q R hx hy q
  obtain ⟨d, e, q⟩ := OQ.ex q
  unfold notInD inD at e
  split at e
  · split at e
    · rename_i ds h
      cases e
      have hl := toP_dp R.sub (.lst ds) 64 u hy (by simpa [shD] using h.2)
      simp only [toP] at hl
      refine .inl ⟨_, _, toP_dp R.sub x 64 v hx h.1, hl, shaped_of h.1, lay_lst h.2, ?_⟩
      rw [any_toPs]; exact q
    · cases e
  · split at e
    · rename_i ds h
      cases e
      have hl := toP_dp R.sub (.tup ds) 64 u hy (by simpa [shD] using h.2)
      simp only [toP] at hl
      refine .inr (.inl ⟨_, _, toP_dp R.sub x 64 v hx h.1, hl, shaped_of h.1, (shDs_ok 63 ds h.2).1, ?_⟩)
      rw [any_toPs]; exact q
    · cases e
  · split at e
    · cases e
      rw [isD_str] at hx hy
      subst hx hy
      exact .inr (.inr (.inr ⟨_, _, rfl, rfl, q⟩))
    · cases e
  · rename_i ks ds
    cases z : keyOf x with
    | none => rw [z] at e; cases e
    | some k =>
      rw [z] at e
      cases e
      obtain ⟨hl, a, vs, od, rfl, h1, h2⟩ := isD_dct.mp hy
      refine .inr (.inr (.inl ⟨a, _, rfl, by rw [keyOf_kV hx z]; exact dget_of R.sub h1, ?_⟩))
      show Q (.bl (!(valV (ks.zip vs) k).isSome)) H
      rw [val_zip (by rw [h2.length, hl])]; exact q
  · cases e
theorem g_in (hu : X.A.units + 65 < cLine) (ha : PE X a (tG X.K W ma)) (hb : PE X b (tG X.K W mb)) (hm : behindInMarks .In b = false := by with_unfolding_all rfl) : PE X (.Compare a [.In] [b] pos) (tG X.K W (ME.of (MT.op2 inD ma mb))) := g_cmp (op_inA hu) inG hm ha hb
theorem t_in (hu : X.A.units + 65 < cLine) (ha : PE X a (tG X.K W ma)) (hb : PE X b (tG X.K W mb)) (hm : behindInMarks .In b = false := by with_unfolding_all rfl) : PT X (.Compare a [.In] [b] pos) (tGT X.K W (MT.op2 inD ma mb)) := t_cmp (op_inA hu) inG hm ha hb
theorem g_notIn (hu : X.A.units + 65 < cLine) (ha : PE X a (tG X.K W ma)) (hb : PE X b (tG X.K W mb)) (hm : behindInMarks .NotIn b = false := by with_unfolding_all rfl) : PE X (.Compare a [.NotIn] [b] pos) (tG X.K W (ME.of (MT.op2 notInD ma mb))) := g_cmp (op_notInA hu) notInG hm ha hb
theorem t_notIn (hu : X.A.units + 65 < cLine) (ha : PE X a (tG X.K W ma)) (hb : PE X b (tG X.K W mb)) (hm : behindInMarks .NotIn b = false := by with_unfolding_all rfl) : PT X (.Compare a [.NotIn] [b] pos) (tGT X.K W (MT.op2 notInD ma mb)) := t_cmp (op_notInA hu) notInG hm ha hb
/-! a dict of the module with text keys -/
structure GlobT (K : PySem.W.Frag) (w : World) (mg : Str → Option Value) (x : Str) (tbl : List (Str × D)) : Prop where
  ex : ∃ (d : Addr) (es : Array DictEntry) (n : Nat), mg x = some (.ref d) ∧ KDict K w d es n ∧ ∀ z : Str, match tbl.lookup z with
    | none => PySem.W.nsIn K d z = some none
    | some dd => ∃ (u : Value) (v : V), PySem.W.nsIn K d z = some (some u) ∧ RelV v u ∧ ∀ F, IsD K F dd v
def strD : D → Option Str
  | .str x => some x
  | _ => none
def inTbl (tbl : List (Str × D)) (x : D) : Option Bool := (strD x).map fun z => (tbl.lookup z).isSome
def notInTbl (tbl : List (Str × D)) (x : D) : Option Bool := (strD x).map fun z => !(tbl.lookup z).isSome
def getTbl (tbl : List (Str × D)) (x : D) : Option D := (strD x).bind fun z => tbl.lookup z
def MT.op1 (f : D → Option Bool) (a : ME S) : MT S := ⟨fun δ s Q => a.run δ s fun x s1 => OQ (f x) fun d => Q d s1, fun h => a.mono fun _ _ => OQ.mono fun d => h d _⟩
theorem strD_ex {F : Hp} {x : D} {v : V} {z : Str} (h : IsD K F x v) (e : strD x = some z) : v = .str z := by
  unfold strD at e
  split at e
  · cases e; exact isD_str.mp h
  · cases e
theorem t_inTbl {x : Str} {p : Pos} {tbl : List (Str × D)} (g : GlobT X.K X.w X.mg x tbl) (ha : PE X a (tG X.K W ma)) (hg : Gl X x := by rfl) (hd : (x == ("__debug__" : Str)) = false := by decide) (hm : behindInMarks .In (.Name x p) = false := by with_unfolding_all rfl) :
    PT X (.Compare a [.In] [.Name x p] pos) (tGT X.K W (MT.op1 (inTbl tbl) ma)) := by
  obtain ⟨d, es, n, h1, h2, h3⟩ := g.ex
  refine PT.imp (pt_cmpR (op_in_kd h2) ha (pe_glob (v := .ref d) hg h1 rfl hd) hm) fun σ H Q ⟨F, δ, s, R, E, h⟩ => ?_
  refine ⟨F, δ, s, R, E, ma.mono (fun y s1 q => ?_) h⟩
  intro F1 H1 v R1 E1 d1
  obtain ⟨k, e, q⟩ := OQ.ex q
  unfold inTbl at e
  cases ez : strD y with
  | none => rw [ez] at e; cases e
  | some z =>
    rw [ez] at e
    cases e
    have h4 := h3 z
    dsimp only at q
    cases el : tbl.lookup z with
    | none =>
      rw [el] at h4 q
      exact ⟨z, _, strD_ex d1 ez, rfl, h4, _, rfl, q F1 H1 _ R1 E1 rfl⟩
    | some dd =>
      rw [el] at h4 q
      obtain ⟨u, v', h5, _⟩ := h4
      exact ⟨z, _, strD_ex d1 ez, rfl, h5, _, rfl, q F1 H1 _ R1 E1 rfl⟩
theorem t_notInTbl {x : Str} {p : Pos} {tbl : List (Str × D)} (g : GlobT X.K X.w X.mg x tbl) (ha : PE X a (tG X.K W ma)) (hg : Gl X x := by rfl) (hd : (x == ("__debug__" : Str)) = false := by decide) (hm : behindInMarks .NotIn (.Name x p) = false := by with_unfolding_all rfl) :
    PT X (.Compare a [.NotIn] [.Name x p] pos) (tGT X.K W (MT.op1 (notInTbl tbl) ma)) := by
  obtain ⟨d, es, n, h1, h2, h3⟩ := g.ex
  refine PT.imp (pt_cmpR (op_notIn_kd h2) ha (pe_glob (v := .ref d) hg h1 rfl hd) hm) fun σ H Q ⟨F, δ, s, R, E, h⟩ => ?_
  refine ⟨F, δ, s, R, E, ma.mono (fun y s1 q => ?_) h⟩
  intro F1 H1 v R1 E1 d1
  obtain ⟨k, e, q⟩ := OQ.ex q
  unfold notInTbl at e
  cases ez : strD y with
  | none => rw [ez] at e; cases e
  | some z =>
    rw [ez] at e
    cases e
    have h4 := h3 z
    dsimp only at q
    cases el : tbl.lookup z with
    | none =>
      rw [el] at h4 q
      exact ⟨z, _, strD_ex d1 ez, rfl, h4, _, rfl, q F1 H1 _ R1 E1 rfl⟩
    | some dd =>
      rw [el] at h4 q
      obtain ⟨u, v', h5, _⟩ := h4
      exact ⟨z, _, strD_ex d1 ez, rfl, h5, _, rfl, q F1 H1 _ R1 E1 rfl⟩
theorem ix_kd {d : Addr} {es : Array DictEntry} {n : Nat} (D : KDict X.K X.w d es n) : IxR X (fun x y H Q => ∃ (z : Str) (u0 : Value) (v0 : V), x = .ref d ∧ y = .str z ∧ PySem.W.nsIn X.K d z = some (some u0) ∧ RelV v0 u0 ∧ Q v0 H) := by
  intro value slice pins s σ H x y v u Q I rx ry h hs
  obtain ⟨z, u0, v0, rfl, h'⟩ := h
  cases rx
  refine tail_any (kd_type D I) PySem.F.slot_dict_getitem.lookup (op_item_kd D pins s σ H (.ref d) y (.ref d) u Q I rfl ry ⟨z, u0, v0, rfl, h'⟩) hs
theorem g_getTbl {x : Str} {p : Pos} {tbl : List (Str × D)} (g : GlobT X.K X.w X.mg x tbl) (hb : PE X b (tG X.K W mb)) (hs : PlainIx b := by exact fun _ _ => rfl) (hg : Gl X x := by rfl) (hd : (x == ("__debug__" : Str)) = false := by decide) :
    PE X (.Subscript (.Name x p) b pos) (tG X.K W (ME.op1 (getTbl tbl) mb)) := by
  obtain ⟨d, es, n, h1, h2, h3⟩ := g.ex
  refine PE.imp (pe_ix (ix_kd h2) (pe_glob (v := .ref d) hg h1 rfl hd) hb hs) fun σ H Q ⟨F, δ, s, R, E, h⟩ => ?_
  refine ⟨F, δ, s, R, E, mb.mono (fun y s1 q => ?_) h⟩
  intro F1 H1 v R1 E1 d1
  obtain ⟨k, e, q⟩ := OQ.ex q
  unfold getTbl at e
  cases ez : strD y with
  | none => rw [ez] at e; cases e
  | some z =>
    rw [ez] at e
    have e' : tbl.lookup z = some k := e
    have h4 := h3 z
    rw [e'] at h4
    obtain ⟨u, v', h5, h6, h7⟩ := h4
    exact ⟨z, u, v', rfl, strD_ex d1 ez, h5, h6, q F1 H1 _ R1 E1 (h7 F1)⟩
end
end G

set_option Elab.async false
set_option linter.all false
set_option maxRecDepth 100000
set_option maxHeartbeats 4000000
/-! products, displays, subscripts, slices, calls -/
namespace G
open PySem PySem.Spec PyProof.Rows L2
section
variable {S : Type} {W : Wd S} {X : Cx} {a b c e : Expr} {es : List Expr} {pos : Pos} {K : PySem.W.Frag} {ma mb mc m : ME S}

/-! ### products -/
/-- a tuple times an int, two or more -/
def rMulT (K : PySem.W.Frag) : R2 := fun x y H Q => ∃ l k xs, x = .ref l ∧ y = .int k ∧ SqT K H l xs ∧ xs ≠ [] ∧ 2 ≤ k ∧ xs.length * k.toNat ≤ 1000000 ∧ ∀ p, H p = none → Q (.ref p) (upd H p (.tup (List.replicate k.toNat xs).flatten))
theorem flat_len {α : Type} (xs : List α) (n : Nat) : (List.replicate n xs).flatten.length = xs.length * n := by
  rw [PyProof.Rows.lm_len_rep_flat, Nat.mul_comm]
theorem op_mulT : OpR X (binaryOp .Mult) (rMulT X.K) := by
  intro pins s σ H x y v u Q I rx ry ⟨l, k, xs, ex, ey, hT, hne, h2, hz, q⟩
  subst ex ey
  obtain ⟨t, rfl⟩ := ry
  cases rx
  obtain ⟨its, r, hit, _⟩ := I.tuple hT
  obtain ⟨o, ho, hc, n, hd⟩ := hit
  obtain ⟨cls, dd, data, sl⟩ := o
  dsimp only at hc hd
  subst hc hd
  have hlen : its.toArray.size = xs.length := by rw [List.size_toArray]; exact r.length.symm
  have pos1 : 0 < xs.length := List.length_pos_iff.mpr hne
  have nemp : its.toArray.isEmpty = false := by
    rw [← Bool.not_eq_true, Array.isEmpty_iff_size_eq_zero]; omega
  obtain ⟨kn, rfl⟩ : ∃ kn : Nat, k = (kn : Int) := ⟨k.toNat, by omega⟩
  have kt : ((kn : Int)).toNat = kn := Int.toNat_natCast kn
  rw [kt] at hz
  have kle : kn ≤ 1000000 := Nat.le_trans (Nat.le_mul_of_pos_left kn pos1) hz
  have prod : ((its.toArray.size : Nat) : Int) * (kn : Int) ≤ 1000000 := by
    rw [hlen, ← Int.natCast_mul]; omega
  have fl : (List.replicate kn its).flatten.length ≤ sizeLine := by
    rw [flat_len, ← r.length, sizeLine_eq]; omega
  have b0 : (decide ((kn : Int) < -(2 ^ 63)) || decide ((kn : Int) ≥ 2 ^ 63)) = false := by
    rw [Bool.or_eq_false_iff]; exact ⟨decide_eq_false (by omega), decide_eq_false (by omega)⟩
  have b1 : (its.toArray.isEmpty || (kn : Int) == 1) = false := by
    rw [nemp, Bool.false_or]; exact beq_eq_false_iff_ne.mpr (by omega)
  have b2 : (decide ((kn : Int) ≤ 0) || its.toArray.isEmpty) = false := by
    rw [nemp, Bool.or_false]; exact decide_eq_false (by omega)
  have b4 : Builtin.Tuple.tupleTooMany (((its.toArray.size : Nat) : Int) * (kn : Int)) = false := by
    show decide _ = false
    rw [sizeLine_eq]; exact decide_eq_false (by omega)
  have mt := tuple_mulW l its.toArray n dd sl (kn : Int) t b0 b1 b2 (by omega) b4 (by rw [size_rep, kt, List.size_toArray]; exact fl)
  refine wpAny_binaryOp_repeat_ref (T := "tuple") (U := "int") (by decide) ⟨_, ho, rfl⟩ (fun s' => typeIs_int s' _ t) noFill_tuple_mul F.fills_int_mul F.slot_int_rmul repeat_tuple F.slot_int_index.lookup
    (call_meets F.slot_int_rmul (typeIs_int s _ t) F.entry_int_rmul (F.args_int_rmul_2 _ _) (int_rmul_tuple _ t l its.toArray n dd sl) ⟨ho, rfl, ⟨_, ho, rfl⟩, call_meets F.slot_tuple_mul ⟨_, ho, rfl⟩ F.entry_tuple_mul (F.args_tuple_mul_2 _ _) mt ⟨ho, ?_⟩⟩)
  rw [size_rep, kt]
  rw [kt] at q
  exact ⟨.ref s.heap.objs.size, _, I.laid (t' := s.toks) (o := .tup (List.replicate kn xs).flatten) (fun b ob z => Heap.get?_push_of_some _ z) (Nat.le_refl _)
    ⟨by rw [flat_len, sizeLine_eq]; omega, _, r.rep kn, IsTup.new _ _⟩, rfl, q _ I.fresh⟩
/-- a list times an int, locked or not -/
def rMulS : R2 := fun x y H Q => ∃ (z : Str) (k : Int), x = .str z ∧ y = .int k ∧ 2 ≤ k ∧ 1 ≤ z.length ∧ (z.length : Int) * k ≤ 100000 ∧ Q (.str ⟨(List.replicate k.toNat z.cps).foldl (· ++ ·) #[]⟩) H
theorem op_mulS : OpR X (binaryOp .Mult) rMulS := by
  intro pins s σ H x y v u Q I rx ry ⟨z, k, ex, ey, h2, h1, hz, q⟩
  subst ex ey
  obtain ⟨t', rfl⟩ := rx
  obtain ⟨t, rfl⟩ := ry
  obtain ⟨kn, rfl⟩ : ∃ kn : Nat, k = (kn : Int) := ⟨k.toNat, by omega⟩
  have kt : ((kn : Int)).toNat = kn := Int.toNat_natCast kn
  have kle : (kn : Int) ≤ 100000 := by
    have : (1 : Int) * (kn : Int) ≤ (z.length : Int) * (kn : Int) := Int.mul_le_mul_of_nonneg_right (by omega) (by omega)
    omega
  have zle : (z.length : Int) ≤ 100000 := by
    have : (z.length : Int) * 1 ≤ (z.length : Int) * (kn : Int) := Int.mul_le_mul_of_nonneg_left (by omega) (by omega)
    omega
  have e2 : Txt.mul z (kn : Int) = ⟨(List.replicate ((kn : Int)).toNat z.cps).foldl (· ++ ·) #[]⟩ := by
    unfold Txt.mul
    rw [if_neg (by omega), if_neg (by rw [Bool.or_eq_true, beq_iff_eq, beq_iff_eq]; omega)]
  have prod : z.length * kn ≤ 100000 := by
    have : ((z.length * kn : Nat) : Int) ≤ 100000 := by rw [Int.natCast_mul]; exact hz
    omega
  refine SB.mul ⟨?_, fun _ _ => ?_, fun _ _ => ?_⟩ fun t2 k2 => ?_
  · rw [Bool.or_eq_false_iff]; exact ⟨decide_eq_false (by omega), decide_eq_false (by omega)⟩
  · have h5 : (100000 : Int) ≤ (2 ^ 63 - 1) / (kn : Int) := by
      rw [Int.le_ediv_iff_mul_le (by omega)]; omega
    omega
  · rw [kt]
    show decide _ = false
    refine decide_eq_false ?_
    rw [sizeLine_eq]; omega
  · rw [e2]
    exact ⟨.str ⟨(List.replicate ((kn : Int)).toNat z.cps).foldl (· ++ ·) #[]⟩, H, I.tok _, ⟨_, rfl⟩, q⟩
def mulD : D → D → Option D
  | .int i, .int j => if (-(2 ^ 64) < i ∧ i < 2 ^ 64) ∨ (-(2 ^ 64) < j ∧ j < 2 ^ 64) then some (.int (i * j)) else none
  | .tup ds, .int k => if ds ≠ [] ∧ 2 ≤ k ∧ ds.length * k.toNat ≤ 1000000 then some (.tup (List.replicate k.toNat ds).flatten) else none
  | .lst ds, .int k => if 0 ≤ k ∧ k ≤ 1000000 ∧ ds.length * k.toNat ≤ 1000000 then some (.lst (List.replicate k.toNat ds).flatten) else none
  | .str z, .int k => if 2 ≤ k ∧ 1 ≤ z.length ∧ (z.length : Int) * k ≤ 100000 then some (.str ⟨(List.replicate k.toNat z.cps).foldl (· ++ ·) #[]⟩) else none
  | _, _ => none
def rMulL : R2 := fun x y H Q => rRep x y H Q
/-- a locked list does not come to a product -/
def mulOk : D → Prop := fun _ => True
def rMulD (K : PySem.W.Frag) : R2 := fun x y H Q => (rI CMul fun i j => .int (i * j)) x y H Q ∨ rMulT K x y H Q ∨ rRep x y H Q ∨ rMulS x y H Q
theorem op_mulD : OpR X (binaryOp .Mult) (rMulD X.K) := op_mul.or (op_mulT.or (op_rep.or op_mulS))
theorem ne_of_len {ds : List D} {vs : List V} (h : vs.length = ds.length) (n : ds ≠ []) : vs ≠ [] := fun e => n (List.eq_nil_of_length_eq_zero (by rw [← h, e]; rfl))
/-- products but of lists -/
def mulD' (x y : D) : Option D := match x with
  | .lst _ => none
  | _ => mulD x y
theorem mulG : OpG K W (rMulD K) mulD' := by
  intro s F H x y v u Q R hx hy h
  obtain ⟨d, e, q⟩ := OQ.ex h
  unfold mulD' at e
  split at e
  · cases e
  · rename_i nl
    unfold mulD at e
    split at e
    · split at e
      · rename_i hc
        cases e
        rw [isD_int] at hx hy
        subst hx hy
        exact .inl ⟨_, _, rfl, rfl, hc, same_int R q⟩
      · cases e
    · split at e
      · rename_i hc
        cases e
        obtain ⟨_, l, vs, rfl, h1, h2⟩ := isD_tup.mp hx
        rw [isD_int] at hy
        subst hy
        exact .inr (.inl ⟨l, _, vs, rfl, rfl, SqT.sub R.sub h1, ne_of_len h2.length hc.1, hc.2.1, by rw [h2.length]; exact hc.2.2, new_tup R (h2.rep _) (by rw [flat_len, sizeLine_eq]; omega) q⟩)
      · cases e
    · exact absurd rfl (nl _)
    · split at e
      · rename_i hc
        cases e
        rw [isD_str] at hx
        rw [isD_int] at hy
        subst hx hy
        exact .inr (.inr (.inr ⟨_, _, rfl, rfl, hc.1, hc.2.1, hc.2.2, same_d R q (isD_str.mpr rfl)⟩))
      · cases e
    · cases e
theorem g_mul (ha : PE X a (tG X.K W ma)) (hb : PE X b (tG X.K W mb)) : PE X (.BinOp a .Mult b pos) (tG X.K W (ME.op2 mulD' ma mb)) := g_op2 op_mulD mulG ha hb

/-! ### arguments, displays -/
theorem a_nil : PA X [] (tGA X.K W (MA.nil : MA S)) := PA.imp pa_nil fun σ H Q ⟨F, δ, s, R, E, q⟩ => q F H [] R .refl .nil
theorem a_cons {m : ME S} {r : MA S} (ha : PE X e (tG X.K W m)) (hr : PA X es (tGA X.K W r)) (hs : starEach (e :: es) X.env = (false, eval e X.env) :: starEach es X.env := by rfl) : PA X (e :: es) (tGA X.K W (MA.cons m r)) := by
  refine PA.imp (pa_cons ha hr hs) fun σ H Q ⟨F, δ, s, R, E, h⟩ => ?_
  refine ⟨F, δ, s, R, E, m.mono (fun x s1 q => ?_) h⟩
  intro F1 H1 v R1 E1 d1
  refine ⟨F1, δ, s1, R1, E.same E1.same, r.mono (fun xs s2 q2 => ?_) q⟩
  intro F2 H2 vs R2 E2 d2
  exact q2 F2 H2 (v :: vs) R2 (E1.trans E2) (.cons (d1.same E2.same) d2)
def ME.tup (r : MA S) : ME S := ⟨fun δ s Q => r.run δ s fun xs s1 => xs.length ≤ big ∧ Q (.tup xs) s1, fun h => r.mono fun _ _ q => ⟨q.1, h _ _ q.2⟩⟩
def ME.lst (r : MA S) : ME S := ⟨fun δ s Q => r.run δ s fun xs s1 => xs.length ≤ big ∧ Q (.lst xs) s1, fun h => r.mono fun _ _ q => ⟨q.1, h _ _ q.2⟩⟩
theorem g_tup {r : MA S} {k} (h : PA X es (tGA X.K W r)) : PE X (.Tuple es k pos) (tG X.K W (ME.tup r)) := by
  refine PE.imp (pe_tup h) fun σ H Q ⟨F, δ, s, R, E, h⟩ => ?_
  refine ⟨F, δ, s, R, E, r.mono (fun xs s1 q => ?_) h⟩
  intro F1 H1 vs R1 E1 d1
  exact ⟨by rw [d1.length]; exact big_le q.1, new_tup R1 d1 (big_le q.1) (aft.ext E1 q.2)⟩
theorem g_lst {r : MA S} (h : PA X es (tGA X.K W r)) : PE X (.List es pos) (tG X.K W (ME.lst r)) := by
  refine PE.imp (pe_lst h) fun σ H Q ⟨F, δ, s, R, E, h⟩ => ?_
  refine ⟨F, δ, s, R, E, r.mono (fun xs s1 q => ?_) h⟩
  intro F1 H1 vs R1 E1 d1
  exact ⟨by rw [d1.length]; exact big_le q.1, new_lst R1 d1 (big_le q.1) (aft.ext E1 q.2)⟩

/-! ### subscripts -/
def valD : List Key → List D → Key → Option D
  | k :: ks, d :: ds, j => if k = j then some d else valD ks ds j
  | _, _, _ => none
def ixD (x y : D) : Option D := match x, y with
  | .lst ds, .int i => atI ds i
  | .tup ds, .int i => atI ds i
  | .str z, .int i => if z.length ≤ big then (atI z.cps.toList i).map fun c => .str ⟨#[c]⟩ else none
  | .dct ks ds, y => (keyOf y).bind fun k => valD ks ds k
  | _, _ => none
theorem at_get {F : Hp} {ds : List D} {vs : List V} {i : Int} {d : D} (h : IsDs K F ds vs) (e : atI ds i = some d) : ∃ v, atI vs i = some v ∧ IsD K F d v := by
  unfold atI at e ⊢
  rw [h.length]
  cases z : ixN ds.length i with
  | none => rw [z] at e; cases e
  | some j =>
    rw [z] at e
    exact h.get (i := j) e
theorem val_get {F : Hp} {k : Key} {d : D} : ∀ {ks : List Key} {ds : List D} {vs : List V}, IsDs K F ds vs → valD ks ds k = some d → ∃ v, valV (ks.zip vs) k = some v ∧ IsD K F d v
  | [], _, _, _, e => by simp [valD] at e
  | _ :: _, [], _, _, e => by simp [valD] at e
  | j :: ks, x :: ds, vs, h, e => by
    simp only [IsDs] at h
    obtain ⟨v, ws, rfl, h1, h2⟩ := h
    rw [List.zip_cons_cons]
    unfold valD at e
    by_cases q : j = k
    · rw [if_pos q] at e; cases e
      exact ⟨v, valV_pos (p := (j, v)) q, h1⟩
    · rw [if_neg q] at e
      obtain ⟨w', h3, h4⟩ := val_get h2 e
      exact ⟨w', by rw [valV_neg (p := (j, v)) q]; exact h3, h4⟩
def rIxK : R2 := fun x y H Q => ∃ a v, x = .ref a ∧ DGet H a y (some v) ∧ Q v H
theorem ix_dct (hu : X.A.units + 1 < cLine) : IxR X rIxK := by
  intro value slice pins s σ H x y v u Q I rx ry ⟨a, z, ex, g, q⟩ hs
  subst ex
  cases rx
  exact tail_any (dict_typeIs I g) PySem.F.slot_dict_getitem.lookup (d_getItem hu I g ry fun w' s' I' r' => ⟨z, H, I', r', q⟩) hs
def rIxA (K : PySem.W.Frag) : R2 := fun x y H Q => rIx K x y H Q ∨ rIxK x y H Q
theorem ixG : OpG K W (rIxA K) ixD := by
  intro s F H x y v u Q R hx hy h
  obtain ⟨d, e, q⟩ := OQ.ex h
  unfold ixD at e
  split at e
  · obtain ⟨_, l, vs, rfl, h1, h2⟩ := isD_lst.mp hx
    rw [isD_int] at hy
    subst hy
    obtain ⟨w', h3, h4⟩ := at_get h2 e
    exact .inl (.inl ⟨l, vs, _, w', rfl, rfl, .inl (Rd.sub R.sub h1), h3, same_d R q h4⟩)
  · obtain ⟨_, l, vs, rfl, h1, h2⟩ := isD_tup.mp hx
    rw [isD_int] at hy
    subst hy
    obtain ⟨w', h3, h4⟩ := at_get h2 e
    exact .inl (.inr (.inl ⟨l, vs, _, w', rfl, rfl, SqT.sub R.sub h1, h3, same_d R q h4⟩))
  · split at e
    · rename_i z i hz
      rw [isD_str] at hx
      rw [isD_int] at hy
      subst hx hy
      cases ec : atI z.cps.toList i with
      | none => rw [ec] at e; cases e
      | some c =>
        rw [ec] at e
        cases e
        exact .inl (.inr (.inr ⟨z, i, c, rfl, rfl, big_le hz, ec, same_d R q (isD_str.mpr rfl)⟩))
    · cases e
  · rename_i ks ds _
    obtain ⟨_, a, vs, od, rfl, h1, h2⟩ := isD_dct.mp hx
    cases ek : keyOf y with
    | none => rw [ek] at e; cases e
    | some k =>
      rw [ek] at e
      obtain ⟨w', h3, h4⟩ := val_get h2 e
      have g := dget_of (k := k) R.sub h1
      rw [h3, ← keyOf_kV hy ek] at g
      exact .inr ⟨a, w', rfl, g, same_d R q h4⟩
  · cases e
theorem g_ix (hu : X.A.units + 1 < cLine) (ha : PE X a (tG X.K W ma)) (hb : PE X b (tG X.K W mb)) (hs : PlainIx b := by exact fun _ _ => rfl) : PE X (.Subscript a b pos) (tG X.K W (ME.op2 ixD ma mb)) := by
  refine PE.imp (pe_ix (ix_seq.or (ix_dct hu)) ha hb hs) fun σ H Q ⟨F, δ, s, R, E, h⟩ => ?_
  refine two_run rfl rfl R E h fun x y s2 F2 H2 v u R2 E2 d1 d2 q => ?_
  exact ixG s2 F2 H2 x y v u Q R2 d1 d2 (OQ.mono (fun d z => aft.ext E2 z) q)

/-! ### slices -/
structure MO (S : Type) where
  run : En → S → (Option Int → S → Prop) → Prop
  mono : ∀ {δ s} {Q Q' : Option Int → S → Prop}, (∀ d s', Q d s' → Q' d s') → run δ s Q → run δ s Q'
def tGO (K : PySem.W.Frag) (W : Wd S) (m : MO S) : TO := fun σ H Q => ∃ F δ s, Rel W s F H ∧ EnvOk K F δ σ ∧ m.run δ s (aft W (fun _ (b : Option Int) (c : Option Int) => b = c) Q F H s)
def intD : D → Option Int
  | .int i => some i
  | _ => none
def MO.no : MO S := ⟨fun _ s Q => Q none s, fun h => h _ _⟩
def MO.yes (m : ME S) : MO S := ⟨fun δ s Q => m.run δ s fun x s1 => OQ (intD x) fun i => Q (some i) s1, fun h => m.mono fun _ _ => OQ.mono fun _ => h _ _⟩
theorem o_none : PO X none (tGO X.K W (MO.no : MO S)) := by
  refine ⟨fun pins s σ H Q I ⟨F, δ, s0, R, E, q⟩ => ?_⟩
  exact po_none.run pins s σ H Q I (q F H none R .refl rfl)
theorem o_some (h : PE X e (tG X.K W m)) : PO X (some e) (tGO X.K W (MO.yes m)) := by
  refine ⟨fun pins s σ H Q I ⟨F, δ, s0, R, E, q⟩ => ?_⟩
  refine (po_some h).run pins s σ H Q I ⟨F, δ, s0, R, E, m.mono (fun x s1 q => ?_) q⟩
  intro F1 H1 v R1 E1 d1
  obtain ⟨i, e, q⟩ := OQ.ex q
  unfold intD at e
  split at e
  · cases e
    exact ⟨i, isD_int.mp d1, q F1 H1 _ R1 E1 rfl⟩
  · cases e
def cutL {α : Type} (xs : List α) (lo hi : Option Int) : List α := (xs.drop (HT.sIx xs.length 0 lo)).take (HT.sIx xs.length xs.length hi - HT.sIx xs.length 0 lo)
def slD (x : D) (lo hi : Option Int) : Option D := match x with
  | .lst ds => some (.lst (cutL ds lo hi))
  | .tup ds => some (.tup (cutL ds lo hi))
  | .str z => if z.length ≤ big then some (.str (cutS z lo hi)) else none
  | _ => none
theorem cut_ds {F : Hp} {ds : List D} {vs : List V} (lo hi : Option Int) (h : IsDs K F ds vs) : IsDs K F (cutL ds lo hi) (cutV vs lo hi) := by
  unfold cutL cutV
  rw [h.length]
  exact (h.drop _).take _
theorem cutL_le {α : Type} (xs : List α) (lo hi : Option Int) : (cutL xs lo hi).length ≤ xs.length := by
  unfold cutL
  rw [List.length_take, List.length_drop]; omega
theorem cutL_all {α : Type} {xs : List α} {lo hi : Option Int} (h : HT.sIx xs.length 0 lo = 0 ∧ HT.sIx xs.length xs.length hi = xs.length) : cutL xs lo hi = xs := by
  unfold cutL
  rw [h.1, h.2]
  simp
def ME.sl (m : ME S) (l u : MO S) : ME S := ⟨fun δ s Q => m.run δ s fun x s1 => l.run δ s1 fun lo s2 => u.run δ s2 fun hi s3 => OQ (slD x lo hi) fun d => Q d s3, fun h => m.mono fun _ _ => l.mono fun _ _ => u.mono fun _ _ => OQ.mono fun _ => h _ _⟩
theorem g_sl {l u : MO S} {lo hi : Option Expr} {p2 : Pos} (he : PE X e (tG X.K W m)) (hl : PO X lo (tGO X.K W l)) (hh : PO X hi (tGO X.K W u)) : PE X (.Subscript e (.Slice lo hi none p2) pos) (tG X.K W (ME.sl m l u)) := by
  refine PE.imp (pe_slice (sl_list.or (sl_tupA.or sl_str)) he hl hh) fun σ H Q ⟨F, δ, s, R, E, h⟩ => ?_
  refine ⟨F, δ, s, R, E, m.mono (fun x s1 q => ?_) h⟩
  intro F1 H1 v R1 E1 d1
  refine ⟨F1, δ, s1, R1, E.same E1.same, l.mono (fun lo s2 q => ?_) q⟩
  intro F2 H2 lo' R2 E2 e2
  subst e2
  refine ⟨F2, δ, s2, R2, (E.same E1.same).same E2.same, u.mono (fun hi s3 q => ?_) q⟩
  intro F3 H3 hi' R3 E3 e3
  subst e3
  have d3 := (d1.same E2.same).same E3.same
  obtain ⟨d, e, q⟩ := OQ.ex q
  have q' := aft.ext ((E1.trans E2).trans E3) q
  unfold slD at e
  split at e
  · cases e
    obtain ⟨hz, a, vs, rfl, h1, h2⟩ := isD_lst.mp d3
    exact .inl ⟨a, vs, rfl, .inl (Rd.sub R3.sub h1), new_lst R3 (cut_ds _ _ h2) (Nat.le_trans (cutL_le _ _ _) hz) q'⟩
  · cases e
    obtain ⟨hz, a, vs, rfl, h1, h2⟩ := isD_tup.mp d3
    refine .inr (.inl ⟨a, vs, rfl, SqT.sub R3.sub h1, fun w => ?_, fun w => new_tup R3 (cut_ds _ _ h2) (Nat.le_trans (cutL_le _ _ _) hz) q'⟩)
    rw [h2.length] at w
    rw [cutL_all w] at q'
    exact same_d R3 q' d3
  · split at e
    · rename_i hz
      cases e
      rw [isD_str] at d3
      subst d3
      exact .inr (.inr ⟨_, rfl, big_le hz, same_d R3 q' (isD_str.mpr rfl)⟩)
    · cases e
  · cases e

/-! ### calls of built-ins by data -/
def ClG (K : PySem.W.Frag) (W : Wd S) (r : List V → Hp → VK → Prop) (f : List D → Option D) : Prop :=
  ∀ (s : S) (F H : Hp) (xs : List D) (vs : List V) (Q : VK), Rel W s F H → IsDs K F xs vs → OQ (f xs) (fun d => aft W (IsD K) Q F H s d s) → r vs H Q
def ME.fn (f : List D → Option D) (r : MA S) : ME S := ⟨fun δ s Q => r.run δ s fun xs s1 => OQ (f xs) fun d => Q d s1, fun h => r.mono fun _ _ => OQ.mono fun _ => h _ _⟩
variable {x : Str} {p : Pos} {r : MA S}
theorem fn_run {rr : List V → Hp → VK → Prop} {f : List D → Option D} (hf : ClG X.K W rr f) {σ : L2.St} {H : Hp} {Q : VK} (h : tG X.K W (ME.fn f r) σ H Q) : tCB rr (tGA X.K W r) σ H Q := by
  obtain ⟨F, δ, s, R, E, h⟩ := h
  refine ⟨F, δ, s, R, E, r.mono (fun xs s1 q => ?_) h⟩
  intro F1 H1 vs R1 E1 d1
  exact hf s1 F1 H1 xs vs Q R1 d1 (OQ.mono (fun d z => aft.ext E1 z) q)
theorem g_fnB {id : String} {rr : List V → Hp → VK → Prop} {f : List D → Option D} (hc : CallR X (.builtin id) rr) (hf : ClG X.K W rr f) (hm : X.mg x = none) (hv : bootBuiltins x = some (.builtin id)) (ha : PA X (e :: es) (tGA X.K W r)) (hg : Gl X x := by rfl)
    (hn : x ≠ "__name__" := by decide) (hdb : (x == ("__debug__" : Str)) = false := by decide) (he : starEach (e :: es) X.env = (false, eval e X.env) :: starEach es X.env := by rfl) (hpl : (backTo pos (starEach es X.env)).any (·.1) = false := by rfl) :
    PE X (.Call (.Name x p) (e :: es) [] pos) (tG X.K W (ME.fn f r)) := PE.imp (pe_callB hc hg hm hv ha hn hdb he hpl) fun σ H Q h => fn_run hf h
theorem g_fnT {T : String} {rr : List V → Hp → VK → Prop} {f : List D → Option D} (hc : CallR X (.type T) rr) (hf : ClG X.K W rr f) (hm : X.mg x = none) (hv : bootBuiltins x = some (.type T)) (ha : PA X (e :: es) (tGA X.K W r)) (hg : Gl X x := by rfl)
    (hn : x ≠ "__name__" := by decide) (hdb : (x == ("__debug__" : Str)) = false := by decide) (he : starEach (e :: es) X.env = (false, eval e X.env) :: starEach es X.env := by rfl) (hpl : (backTo pos (starEach es X.env)).any (·.1) = false := by rfl) :
    PE X (.Call (.Name x p) (e :: es) [] pos) (tG X.K W (ME.fn f r)) := PE.imp (pe_callTy hc hg hm hv ha hn hdb he hpl) fun σ H Q h => fn_run hf h
theorem one_d {F : Hp} {d : D} {vs : List V} (h : IsDs K F [d] vs) : ∃ v, vs = [v] ∧ IsD K F d v := by
  simp only [IsDs] at h
  obtain ⟨v, ws, rfl, h1, rfl⟩ := h
  exact ⟨v, rfl, h1⟩
theorem two_d {F : Hp} {d d' : D} {vs : List V} (h : IsDs K F [d, d'] vs) : ∃ v v', vs = [v, v'] ∧ IsD K F d v ∧ IsD K F d' v' := by
  simp only [IsDs] at h
  obtain ⟨v, ws, rfl, h1, v', ws', rfl, h2, rfl⟩ := h
  exact ⟨v, v', rfl, h1, h2⟩
/-- len -/
def lenD : List D → Option D
  | [.lst ds] => some (.int ds.length)
  | [.tup ds] => some (.int ds.length)
  | [.str z] => if z.length ≤ big then some (.int z.length) else none
  | [.dct ks _] => some (.int ks.length)
  | _ => none
def rLenD : List V → Hp → VK → Prop := fun xs H Q => ∃ a kvs, xs = [.ref a] ∧ Rd H a (.dK kvs) ∧ Q (.int (kvs.length : Nat)) H
theorem call_lenK : CallR X (.builtin "len") rLenD := by
  intro pins s σ H xs us Q I r ⟨a, kvs, ex, h, q⟩
  subst ex
  obtain ⟨u, rfl, rx⟩ := vals1 r
  cases rx
  exact d_len I h fun t s' I' => ⟨.int (kvs.length : Nat), H, I', ⟨t, rfl⟩, q⟩
def rLen (K : PySem.W.Frag) : List V → Hp → VK → Prop := fun xs H Q => (∃ x n, xs = [x] ∧ LenV K x H n ∧ Q (.int n) H) ∨ rLenD xs H Q
theorem lenG : ClG K W (rLen K) lenD := by
  intro s F H xs vs Q R hx h
  obtain ⟨d, e, q⟩ := OQ.ex h
  unfold lenD at e
  split at e
  · cases e
    obtain ⟨v, rfl, h1⟩ := one_d hx
    obtain ⟨_, a, vs, rfl, h2, h3⟩ := isD_lst.mp h1
    exact .inl ⟨_, _, rfl, .inl ⟨vs, .inl (Rd.sub R.sub h2), h3.length.symm⟩, same_int R q⟩
  · cases e
    obtain ⟨v, rfl, h1⟩ := one_d hx
    obtain ⟨_, a, vs, rfl, h2, h3⟩ := isD_tup.mp h1
    exact .inl ⟨_, _, rfl, .inr ⟨vs, SqT.sub R.sub h2, h3.length.symm⟩, same_int R q⟩
  · split at e
    · rename_i hz
      cases e
      obtain ⟨v, rfl, h1⟩ := one_d hx
      rw [isD_str] at h1
      subst h1
      exact .inl ⟨_, _, rfl, ⟨big_le hz, rfl⟩, same_int R q⟩
    · cases e
  · rename_i ks ds
    cases e
    obtain ⟨v, rfl, h1⟩ := one_d hx
    obtain ⟨hl, a, vs, od, rfl, h2, h3⟩ := isD_dct.mp h1
    refine .inr ⟨a, _, rfl, Rd.sub R.sub (.inr ⟨od, h2⟩), ?_⟩
    rw [List.length_zip, h3.length, hl, Nat.min_self]
    exact same_int R q
  · cases e
theorem g_len (hm : X.mg "len" = none) (ha : PA X [e] (tGA X.K W r)) (hg : Gl X "len" := by rfl) (he : starEach [e] X.env = (false, eval e X.env) :: starEach [] X.env := by rfl) : PE X (.Call (.Name "len" p) [e] [] pos) (tG X.K W (ME.fn lenD r)) :=
  g_fnB (call_len.or call_lenK) lenG hm PySem.boot_len ha hg (by decide) (by decide) he
/-- abs, int, min, max -/
def absD : List D → Option D
  | [.int i] => some (.int (if i < 0 then -i else i))
  | _ => none
theorem absG : ClG K W (fun xs H Q => ∃ i, xs = [.int i] ∧ Q (.int (if i < 0 then -i else i)) H) absD := by
  intro s F H xs vs Q R hx h
  obtain ⟨d, e, q⟩ := OQ.ex h
  unfold absD at e
  split at e
  · cases e
    obtain ⟨v, rfl, h1⟩ := one_d hx
    rw [isD_int] at h1; subst h1
    exact ⟨_, rfl, same_int R q⟩
  · cases e
theorem g_abs (hm : X.mg "abs" = none) (hv : bootBuiltins "abs" = some (.builtin "abs")) (ha : PA X [e] (tGA X.K W r)) (hg : Gl X "abs" := by rfl) (he : starEach [e] X.env = (false, eval e X.env) :: starEach [] X.env := by rfl) : PE X (.Call (.Name "abs" p) [e] [] pos) (tG X.K W (ME.fn absD r)) :=
  g_fnB call_abs absG hm hv ha hg (by decide) (by decide) he
def toIntD : List D → Option D
  | [.int i] => some (.int i)
  | [.bl b] => some (.int (if b then 1 else 0))
  | _ => none
theorem toIntG : ClG K W (fun xs H Q => (∃ i, xs = [.int i] ∧ Q (.int i) H) ∨ ∃ k, xs = [.bl k] ∧ Q (.int (if k then 1 else 0)) H) toIntD := by
  intro s F H xs vs Q R hx h
  obtain ⟨d, e, q⟩ := OQ.ex h
  unfold toIntD at e
  split at e
  · cases e
    obtain ⟨v, rfl, h1⟩ := one_d hx
    rw [isD_int] at h1; subst h1
    exact .inl ⟨_, rfl, same_int R q⟩
  · cases e
    obtain ⟨v, rfl, h1⟩ := one_d hx
    rw [isD_bl] at h1; subst h1
    exact .inr ⟨_, rfl, same_int R q⟩
  · cases e
theorem g_toInt (hm : X.mg "int" = none) (hv : bootBuiltins "int" = some (.type "int")) (ha : PA X [e] (tGA X.K W r)) (hg : Gl X "int" := by rfl) (he : starEach [e] X.env = (false, eval e X.env) :: starEach [] X.env := by rfl) : PE X (.Call (.Name "int" p) [e] [] pos) (tG X.K W (ME.fn toIntD r)) :=
  g_fnT call_int1 toIntG hm hv ha hg (by decide) (by decide) he
def minD : List D → Option D
  | [.int i, .int j] => some (.int (if j < i then j else i))
  | _ => none
theorem minG : ClG K W (fun xs H Q => ∃ i j, xs = [.int i, .int j] ∧ Q (.int (if j < i then j else i)) H) minD := by
  intro s F H xs vs Q R hx h
  obtain ⟨d, e, q⟩ := OQ.ex h
  unfold minD at e
  split at e
  · cases e
    obtain ⟨v, v', rfl, h1, h2⟩ := two_d hx
    rw [isD_int] at h1 h2; subst h1 h2
    exact ⟨_, _, rfl, same_int R q⟩
  · cases e
theorem g_min (hc : X.calm = true) (hm : X.mg "min" = none) (hv : bootBuiltins "min" = some (.builtin "min")) (ha : PA X [a, b] (tGA X.K W r)) (hg : Gl X "min" := by rfl) (he : starEach [a, b] X.env = (false, eval a X.env) :: starEach [b] X.env := by rfl) (hpl : (backTo pos (starEach [b] X.env)).any (·.1) = false := by rfl) : PE X (.Call (.Name "min" p) [a, b] [] pos) (tG X.K W (ME.fn minD r)) :=
  g_fnB (call_min2 hc) minG hm hv ha hg (by decide) (by decide) he hpl
/-- all, any -/
def blsD : List D → Option (List Bool)
  | [] => some []
  | .bl b :: r => (blsD r).map (b :: ·)
  | _ :: _ => none
theorem blsD_eq : ∀ {ds : List D} {bs : List Bool}, blsD ds = some bs → ds = bs.map D.bl
  | [], bs, h => by simp [blsD] at h; subst h; rfl
  | .bl b :: r, bs, h => by
    simp only [blsD] at h
    cases e : blsD r with
    | none => rw [e] at h; cases h
    | some cs =>
      rw [e] at h
      cases h
      rw [blsD_eq e]; rfl
  | .non :: _, _, h | .int _ :: _, _, h | .str _ :: _, _, h | .ref _ :: _, _, h | .ty _ :: _, _, h | .tup _ :: _, _, h | .lst _ :: _, _, h | .dct _ _ :: _, _, h => by simp [blsD] at h
theorem isDs_bls {F : Hp} : ∀ {bs : List Bool} {vs : List V}, IsDs K F (bs.map D.bl) vs → vs = bs.map V.bl
  | [], vs, h => by simpa [IsDs] using h
  | b :: bs, vs, h => by
    simp only [List.map_cons, IsDs] at h
    obtain ⟨v, ws, rfl, h1, h2⟩ := h
    rw [isD_bl] at h1; subst h1
    rw [isDs_bls h2]; rfl
def allD : List D → Option D
  | [.lst ds] => (blsD ds).map fun bs => .bl (bs.all id)
  | _ => none
def anyD : List D → Option D
  | [.lst ds] => (blsD ds).map fun bs => .bl (bs.any id)
  | _ => none
theorem allG : ClG K W (rAll K) allD := by
  intro s F H xs vs Q R hx h
  obtain ⟨d, e, q⟩ := OQ.ex h
  unfold allD at e
  split at e
  · rename_i ds
    cases ez : blsD ds with
    | none => rw [ez] at e; cases e
    | some bs =>
      rw [ez] at e
      cases e
      obtain ⟨v, rfl, h1⟩ := one_d hx
      obtain ⟨_, a, vs, rfl, h2, h3⟩ := isD_lst.mp h1
      rw [blsD_eq ez] at h3
      exact ⟨a, bs, rfl, by rw [← isDs_bls h3]; exact .inl (Rd.sub R.sub h2), same_d R q (isD_bl.mpr rfl)⟩
  · cases e
theorem anyG : ClG K W (rAny K) anyD := by
  intro s F H xs vs Q R hx h
  obtain ⟨d, e, q⟩ := OQ.ex h
  unfold anyD at e
  split at e
  · rename_i ds
    cases ez : blsD ds with
    | none => rw [ez] at e; cases e
    | some bs =>
      rw [ez] at e
      cases e
      obtain ⟨v, rfl, h1⟩ := one_d hx
      obtain ⟨_, a, vs, rfl, h2, h3⟩ := isD_lst.mp h1
      rw [blsD_eq ez] at h3
      exact ⟨a, bs, rfl, by rw [← isDs_bls h3]; exact .inl (Rd.sub R.sub h2), same_d R q (isD_bl.mpr rfl)⟩
  · cases e
theorem g_all (hc : X.calm = true) (hm : X.mg "all" = none) (hv : bootBuiltins "all" = some (.builtin "all")) (ha : PA X [e] (tGA X.K W r)) (hg : Gl X "all" := by rfl) (he : starEach [e] X.env = (false, eval e X.env) :: starEach [] X.env := by rfl) : PE X (.Call (.Name "all" p) [e] [] pos) (tG X.K W (ME.fn allD r)) :=
  g_fnB (cr_all hc) allG hm hv ha hg (by decide) (by decide) he
theorem g_any (hc : X.calm = true) (hm : X.mg "any" = none) (hv : bootBuiltins "any" = some (.builtin "any")) (ha : PA X [e] (tGA X.K W r)) (hg : Gl X "any" := by rfl) (he : starEach [e] X.env = (false, eval e X.env) :: starEach [] X.env := by rfl) : PE X (.Call (.Name "any" p) [e] [] pos) (tG X.K W (ME.fn anyD r)) :=
  g_fnB (cr_any hc) anyG hm hv ha hg (by decide) (by decide) he
/-- sum of ints -/
def intsD : List D → Option (List Int)
  | [] => some []
  | .int b :: r => (intsD r).map (b :: ·)
  | _ :: _ => none
theorem intsD_eq : ∀ {ds : List D} {bs : List Int}, intsD ds = some bs → ds = bs.map D.int
  | [], bs, h => by simp [intsD] at h; subst h; rfl
  | .int b :: r, bs, h => by
    simp only [intsD] at h
    cases e : intsD r with
    | none => rw [e] at h; cases h
    | some cs =>
      rw [e] at h
      cases h
      rw [intsD_eq e]; rfl
  | .non :: _, _, h | .bl _ :: _, _, h | .str _ :: _, _, h | .ref _ :: _, _, h | .ty _ :: _, _, h | .tup _ :: _, _, h | .lst _ :: _, _, h | .dct _ _ :: _, _, h => by simp [intsD] at h
theorem isDs_ints {F : Hp} : ∀ {bs : List Int} {vs : List V}, IsDs K F (bs.map D.int) vs → vs = bs.map V.int
  | [], vs, h => by simpa [IsDs] using h
  | b :: bs, vs, h => by
    simp only [List.map_cons, IsDs] at h
    obtain ⟨v, ws, rfl, h1, h2⟩ := h
    rw [isD_int] at h1; subst h1
    rw [isDs_ints h2]; rfl
theorem isDs_ints' {F : Hp} : ∀ {bs : List Int}, IsDs K F (bs.map D.int) (bs.map V.int)
  | [] => .nil
  | b :: bs => .cons (isD_int.mpr rfl) isDs_ints'
def sumD : List D → Option D
  | [.lst ds] => (intsD ds).map fun bs => .int bs.sum
  | _ => none
theorem sumG : ClG K W (rSum K) sumD := by
  intro s F H xs vs Q R hx h
  obtain ⟨d, e, q⟩ := OQ.ex h
  unfold sumD at e
  split at e
  · rename_i ds
    cases ez : intsD ds with
    | none => rw [ez] at e; cases e
    | some bs =>
      rw [ez] at e
      cases e
      obtain ⟨v, rfl, h1⟩ := one_d hx
      obtain ⟨_, a, vs, rfl, h2, h3⟩ := isD_lst.mp h1
      rw [intsD_eq ez] at h3
      exact ⟨a, bs, rfl, by rw [← isDs_ints h3]; exact .inl (Rd.sub R.sub h2), same_int R q⟩
  · cases e
theorem g_sum (hc : X.calm = true) (hm : X.mg "sum" = none) (hv : bootBuiltins "sum" = some (.builtin "sum")) (ha : PA X [e] (tGA X.K W r)) (hg : Gl X "sum" := by rfl) (he : starEach [e] X.env = (false, eval e X.env) :: starEach [] X.env := by rfl) : PE X (.Call (.Name "sum" p) [e] [] pos) (tG X.K W (ME.fn sumD r)) :=
  g_fnB (cr_sum hc) sumG hm hv ha hg (by decide) (by decide) he
/-- list(x), tuple(x) -/
def keyD : Key → D
  | .inl i => .int i
  | .inr x => .str x
def toLstD : List D → Option D
  | [.lst ds] => some (.lst ds)
  | [.tup ds] => some (.lst ds)
  | [.dct ks _] => if ks.length ≤ big then some (.lst (ks.map keyD)) else none
  | _ => none
def toTupD : List D → Option D
  | [.lst ds] => some (.tup ds)
  | [.tup ds] => some (.tup ds)
  | _ => none
theorem isD_key {F : Hp} (k : Key) : IsD K F (keyD k) (kV k) := by
  cases k with
  | inl i => exact isD_int.mpr rfl
  | inr x => exact isD_str.mpr rfl
theorem isDs_keys {F : Hp} : ∀ ks : List Key, IsDs K F (ks.map keyD) (ks.map kV)
  | [] => .nil
  | k :: ks => .cons (isD_key k) (isDs_keys ks)
theorem zip_fst {ks : List Key} {vs : List V} (h : vs.length = ks.length) : (ks.zip vs).map (fun kv => kV kv.1) = ks.map kV := by
  have h2 : ((ks.zip vs).map Prod.fst) = ks := List.map_fst_zip (by omega)
  have h3 := congrArg (List.map kV) h2
  rw [List.map_map] at h3
  exact h3
theorem toLstG : ClG K W (fun xs H Q => (∃ p ys, xs = [.ref p] ∧ (SqL K H p ys ∨ SqT K H p ys) ∧ ∀ l, H l = none → Q (.ref l) (upd H l (.lst ys))) ∨
    ∃ (a : Addr) (kvs : List (Key × V)), xs = [.ref a] ∧ Rd H a (.dK kvs) ∧ ∀ p, H p = none → Q (.ref p) (upd H p (.lst (kvs.map fun kv => kV kv.1)))) toLstD := by
  intro s F H xs vs Q R hx h
  obtain ⟨d, e, q⟩ := OQ.ex h
  unfold toLstD at e
  split at e
  · cases e
    obtain ⟨v, rfl, h1⟩ := one_d hx
    obtain ⟨hz, a, vs, rfl, h2, h3⟩ := isD_lst.mp h1
    exact .inl ⟨a, vs, rfl, .inl (.inl (Rd.sub R.sub h2)), new_lst R h3 hz q⟩
  · cases e
    obtain ⟨v, rfl, h1⟩ := one_d hx
    obtain ⟨hz, a, vs, rfl, h2, h3⟩ := isD_tup.mp h1
    exact .inl ⟨a, vs, rfl, .inr (SqT.sub R.sub h2), new_lst R h3 hz q⟩
  · split at e
    · rename_i ks ds hz
      cases e
      obtain ⟨v, rfl, h1⟩ := one_d hx
      obtain ⟨hl, a, vs, od, rfl, h2, h3⟩ := isD_dct.mp h1
      refine .inr ⟨a, _, rfl, Rd.sub R.sub (.inr ⟨od, h2⟩), ?_⟩
      rw [zip_fst (by rw [h3.length, hl])]
      exact new_lst R (isDs_keys ks) (by rw [List.length_map]; exact big_le hz) q
    · cases e
  · cases e
theorem g_toLst (hc : X.calm = true) (hm : X.mg "list" = none) (hv : bootBuiltins "list" = some (.type "list")) (ha : PA X [e] (tGA X.K W r)) (hg : Gl X "list" := by rfl) (he : starEach [e] X.env = (false, eval e X.env) :: starEach [] X.env := by rfl) : PE X (.Call (.Name "list" p) [e] [] pos) (tG X.K W (ME.fn toLstD r)) :=
  g_fnT (call_list_of.or (call_listD hc)) toLstG hm hv ha hg (by decide) (by decide) he
theorem toTupG : ClG K W (fun xs H Q => ∃ p ys, xs = [.ref p] ∧ ((SqL K H p ys ∧ ∀ l, H l = none → Q (.ref l) (upd H l (.tup ys))) ∨ (SqT K H p ys ∧ Q (.ref p) H))) toTupD := by
  intro s F H xs vs Q R hx h
  obtain ⟨d, e, q⟩ := OQ.ex h
  unfold toTupD at e
  split at e
  · cases e
    obtain ⟨v, rfl, h1⟩ := one_d hx
    obtain ⟨hz, a, vs, rfl, h2, h3⟩ := isD_lst.mp h1
    exact ⟨a, vs, rfl, .inl ⟨.inl (Rd.sub R.sub h2), new_tup R h3 hz q⟩⟩
  · cases e
    obtain ⟨v, rfl, h1⟩ := one_d hx
    have h1' := h1
    obtain ⟨hz, a, vs, rfl, h2, h3⟩ := isD_tup.mp h1
    exact ⟨a, vs, rfl, .inr ⟨SqT.sub R.sub h2, same_d R q h1'⟩⟩
  · cases e
theorem g_toTup (hm : X.mg "tuple" = none) (hv : bootBuiltins "tuple" = some (.type "tuple")) (ha : PA X [e] (tGA X.K W r)) (hg : Gl X "tuple" := by rfl) (he : starEach [e] X.env = (false, eval e X.env) :: starEach [] X.env := by rfl) : PE X (.Call (.Name "tuple" p) [e] [] pos) (tG X.K W (ME.fn toTupD r)) :=
  g_fnT call_tuple_of toTupG hm hv ha hg (by decide) (by decide) he
/-- isinstance -/
def tyD : D → Option String
  | .non => some "NoneType"
  | .bl _ => some "bool"
  | .int _ => some "int"
  | .str _ => some "str"
  | .tup _ => some "tuple"
  | .lst _ => some "list"
  | .dct _ _ => some "dict"
  | _ => none
def isiD : List D → Option D
  | [d, .ty n] => if n = "int" ∨ n = "bool" ∨ n = "str" ∨ n = "tuple" ∨ n = "dict" ∨ n = "list" then (tyD d).map fun t => .bl (t == n || (t == "bool" && n == "int")) else none
  | _ => none
theorem kitB_ok {t n : String} (ht : t = "NoneType" ∨ t = "bool" ∨ t = "int" ∨ t = "str" ∨ t = "tuple" ∨ t = "list" ∨ t = "dict") (hn : n = "int" ∨ n = "bool" ∨ n = "str" ∨ n = "tuple" ∨ n = "dict" ∨ n = "list") :
    kitB t n = some (t == n || (t == "bool" && n == "int")) := by
  rcases ht with rfl | rfl | rfl | rfl | rfl | rfl | rfl <;> rcases hn with rfl | rfl | rfl | rfl | rfl | rfl <;> decide +kernel
theorem tyX_of {F H : Hp} (e : Sub F H) {d : D} {v : V} {t : String} (h : IsD K F d v) (ht : tyD d = some t) : TyX K H v (.type t) ∧ (t = "NoneType" ∨ t = "bool" ∨ t = "int" ∨ t = "str" ∨ t = "tuple" ∨ t = "list" ∨ t = "dict") := by
  cases d <;> simp only [tyD, Option.some.injEq] at ht <;> first | cases ht | skip
  · rw [isD_non] at h; subst h; exact ⟨.base .non, by simp⟩
  · rw [isD_bl] at h; subst h; exact ⟨.base (.bl _), by simp⟩
  · rw [isD_int] at h; subst h; exact ⟨.base (.int _), by simp⟩
  · rw [isD_str] at h; subst h; exact ⟨.base (.str _), by simp⟩
  · obtain ⟨_, a, vs, rfl, h2, _⟩ := isD_tup.mp h
    refine ⟨?_, by simp⟩
    rcases SqT.sub e h2 with (q | ⟨o, q⟩) | ⟨o, its, n, h3, h4, _⟩
    · exact .base (.tup q)
    · exact .fTuple q
    · exact .kTuple h3 h4
  · obtain ⟨_, a, vs, rfl, h2, _⟩ := isD_lst.mp h
    refine ⟨?_, by simp⟩
    rcases Rd.sub e h2 with q | ⟨o, q⟩
    · exact .base (.lst q)
    · exact .base (.frz q)
  · obtain ⟨_, a, vs, od, rfl, h2, _⟩ := isD_dct.mp h
    refine ⟨?_, by simp⟩
    rcases Rd.sub e (.inr ⟨od, h2⟩) with q | ⟨o, q⟩
    · exact .base (.dK q)
    · exact .fDict q
theorem isiG : ClG K W (rIsi K) isiD := by
  intro s F H xs vs Q R hx h
  obtain ⟨d, e, q⟩ := OQ.ex h
  unfold isiD at e
  split at e
  · rename_i dd n
    split at e
    · rename_i hn
      cases et : tyD dd with
      | none => rw [et] at e; cases e
      | some t =>
        rw [et] at e
        cases e
        obtain ⟨v, v', rfl, h1, h2⟩ := two_d hx
        rw [isD_ty] at h2; subst h2
        obtain ⟨h3, h4⟩ := tyX_of R.sub h1 et
        exact ⟨v, .ty n, .type t, .type n, _, rfl, .ty n, h3, kit_ty (kitB_ok h4 hn), same_d R q (isD_bl.mpr rfl)⟩
    · cases e
  · cases e
theorem g_isi (hm : X.mg "isinstance" = none) (hv : bootBuiltins "isinstance" = some (.builtin "isinstance")) (ha : PA X [a, b] (tGA X.K W r)) (hg : Gl X "isinstance" := by rfl) (he : starEach [a, b] X.env = (false, eval a X.env) :: starEach [b] X.env := by rfl) (hpl : (backTo pos (starEach [b] X.env)).any (·.1) = false := by rfl) : PE X (.Call (.Name "isinstance" p) [a, b] [] pos) (tG X.K W (ME.fn isiD r)) :=
  g_fnB call_isi isiG hm hv ha hg (by decide) (by decide) he hpl
end
end G

set_option Elab.async false
set_option linter.all false
set_option maxRecDepth 100000
set_option maxHeartbeats 4000000
/-! calls of defs, statements, targets, loops, comprehensions -/
namespace G
open PySem PySem.Spec PyProof.Rows L2

/-! ### a def of the text, its promise told by data -/
structure Cal {S : Type} (P : Program) (w : World) (K : PySem.W.Frag) (mg : Str → Option Value) (base : Heap) (W : Wd S) (k : Nat) (x : Str) (n : Nat) (f : MF S) : Prop where
  ex : ∃ (fa : Addr) (fd : FuncData) (ps : List Str), FnOk P w K mg base CX0 k fa fd ps (spG K W n f) ∧ mg x = some (.ref fa) ∧ PySem.W.keepIn K (.ref fa) = true ∧ Binds K fd ps []
theorem Cal.imp {S : Type} {P : Program} {w : World} {K : PySem.W.Frag} {mg : Str → Option Value} {base : Heap} {W : Wd S} {k j : Nat} {x : Str} {n : Nat} {f g : MF S} (c : Cal P w K mg base W k x n f) (hk : k ≤ j) (h : ∀ ds s Q, ds.length = n → g.run ds s Q → f.run ds s Q) : Cal P w K mg base W j x n g := by
  obtain ⟨fa, fd, ps, h1, h2, h3, h4⟩ := c.ex
  exact ⟨fa, fd, ps, (h1.mono hk).imp fun vs H Q E => spG.imp h vs H Q E, h2, h3, h4⟩
section
variable {S : Type} {W : Wd S} {X : Cx} {a b c e : Expr} {es : List Expr} {pos p : Pos} {K : PySem.W.Frag} {ma mb mc m : ME S} {r : MA S} {x : Str} {j k n : Nat} {f : MF S}
def ME.call (n : Nat) (f : MF S) (r : MA S) : ME S := ⟨fun δ s Q => r.run δ s fun ds s1 => ds.length = n ∧ f.run ds s1 Q, fun h => r.mono fun _ _ q => ⟨q.1, f.mono h q.2⟩⟩
theorem sp_run {σ : L2.St} {H : Hp} {Q : VK} (h : tG K W (ME.call n f r) σ H Q) : tCall (spG K W n f) [] E0 (tGA K W r) σ H Q := by
  obtain ⟨F, δ, s, R, E, h⟩ := h
  refine ⟨F, δ, s, R, E, r.mono (fun ds s1 q => ?_) h⟩
  intro F1 H1 vs R1 E1 d1
  rw [List.append_nil]
  exact ⟨F1, s1, ds, R1, d1, q.1, f.mono (fun d s2 z => aft.ext E1 z) q.2⟩
theorem g_call (c : Cal X.prog X.w X.K X.mg X.base W k x n f) (hr : Room j X.A) (hk : k ≤ j) (ha : PA X (e :: es) (tGA X.K W r)) (hg : Gl X x := by rfl) (hdb : (x == ("__debug__" : Str)) = false := by decide)
    (he : starEach (e :: es) X.env = (false, eval e X.env) :: starEach es X.env := by rfl) (hpl : (backTo pos (starEach es X.env)).any (·.1) = false := by rfl) : PE X (.Call (.Name x p) (e :: es) [] pos) (tG X.K W (ME.call n f r)) := by
  obtain ⟨fa, fd, ps, h1, h2, h3, h4⟩ := c.ex
  exact PE.imp (pe_call h1 (hr.mono hk) hg h2 h3 h4 .nil pass0 ha hdb he hpl) fun σ H Q h => sp_run h

/-! ### statements -/
def MS.nil : MS S := ⟨fun δ s E => E.nx δ s, fun h => h.nx _ _⟩
def MS.seq (m n : MS S) : MS S := ⟨fun δ s E => m.run δ s { E with nx := fun δ' s' => n.run δ' s' E }, fun h => m.mono ⟨fun _ _ => n.mono h, h.rt, h.bk, h.ct⟩⟩
def MS.drop (m : ME S) : MS S := ⟨fun δ s E => m.run δ s fun _ s1 => E.nx δ s1, fun h => m.mono fun _ _ => h.nx _ _⟩
def MS.ret (m : ME S) : MS S := ⟨fun δ s E => m.run δ s E.rt, fun h => m.mono h.rt⟩
def MS.retN : MS S := ⟨fun _ s E => E.rt .non s, fun h => h.rt _ _⟩
def MS.brk : MS S := ⟨fun δ s E => E.bk δ s, fun h => h.bk _ _⟩
def MS.cnt : MS S := ⟨fun δ s E => E.ct δ s, fun h => h.ct _ _⟩
def MS.no : MS S := ⟨fun _ _ _ => False, fun _ h => h⟩
def MS.ite (t : MT S) (m n : MS S) : MS S := ⟨fun δ s E => t.run δ s fun c s1 => if c = true then m.run δ s1 E else n.run δ s1 E, fun h => t.mono fun c _ => by cases c <;> simp only [if_true, if_false, Bool.false_eq_true] <;> first | exact m.mono h | exact n.mono h⟩
def MS.set (i : Nat) (m : ME S) : MS S := ⟨fun δ s E => m.run δ s fun d s1 => E.nx (δ.set i (some d)) s1, fun h => m.mono fun _ _ => h.nx _ _⟩
variable {st : Stmt} {rest body : List Stmt} {u v : MS S} {t : MT S}
theorem b_nil : PSs X [] (tGS X.K W (MS.nil : MS S)) := PSs.imp pss_nil fun Dn σ H ⟨F, δ, s, R, E, q⟩ => q F H σ R .refl E
theorem b_cons (h1 : PS X st (tGS X.K W u)) (h2 : PSs X rest (tGS X.K W v)) : PSs X (st :: rest) (tGS X.K W (MS.seq u v)) := by
  refine PSs.imp (pss_cons h1 h2) fun Dn σ H ⟨F, δ, s, R, E, h⟩ => ?_
  refine ⟨F, δ, s, R, E, u.mono ?_ (show u.run δ s { lift X.K W Dn F H s with nx := fun δ' s' => v.run δ' s' (lift X.K W Dn F H s) } from h)⟩
  refine ⟨fun δ' s' q => ?_, fun _ _ q => q, fun _ _ q => q, fun _ _ q => q⟩
  intro F1 H1 σ1 R1 E1 e1
  exact ⟨F1, δ', s', R1, e1, v.mono (lift.ext E1) q⟩
theorem b_one (h1 : PS X st (tGS X.K W u)) : PSs X [st] (tGS X.K W u) := pss_one h1
theorem s_drop (h : PE X e (tG X.K W m)) (hs : swapsWith e none pos.line X.env = pure false := by rfl) : PS X (.Expr e pos) (tGS X.K W (MS.drop m)) := by
  refine PS.imp (ps_expr h hs) fun Dn σ H ⟨F, δ, s, R, E, h⟩ => ?_
  refine ⟨F, δ, s, R, E, m.mono (fun d s1 q => ?_) h⟩
  intro F1 H1 v1 R1 E1 d1
  exact q F1 H1 σ R1 E1 (E.same E1.same)
theorem s_ret (h : PE X e (tG X.K W m)) : PS X (.Return (some e) pos) (tGS X.K W (MS.ret m)) := PS.imp (ps_ret h) fun Dn σ H h => h
theorem s_retN : PS X (.Return none pos) (tGS X.K W (MS.retN : MS S)) := PS.imp ps_retN fun Dn σ H ⟨F, δ, s, R, E, q⟩ => q F H .non R .refl (isD_non.mpr rfl)
theorem s_brk : PS X (.Break pos) (tGS X.K W (MS.brk : MS S)) := PS.imp ps_break fun Dn σ H ⟨F, δ, s, R, E, q⟩ => q F H σ R .refl E
theorem s_cnt : PS X (.Continue pos) (tGS X.K W (MS.cnt : MS S)) := PS.imp ps_continue fun Dn σ H ⟨F, δ, s, R, E, q⟩ => q F H σ R .refl E
theorem s_pass : PS X (.Pass pos) (tGS X.K W (MS.nil : MS S)) := PS.imp ps_pass fun Dn σ H ⟨F, δ, s, R, E, q⟩ => q F H σ R .refl E
theorem s_no : PS X st (tGS X.K W (MS.no : MS S)) := PS.imp ps_never fun Dn σ H ⟨F, δ, s, R, E, q⟩ => q
theorem b_no : PSs X rest (tGS X.K W (MS.no : MS S)) := PSs.imp pss_never fun Dn σ H ⟨F, δ, s, R, E, q⟩ => q
theorem s_ite {aa bb : List Stmt} (hc : PT X c (tGT X.K W t)) (ha : PSs X aa (tGS X.K W u)) (hb : PSs X bb (tGS X.K W v)) : PS X (.If c aa bb pos) (tGS X.K W (MS.ite t u v)) := by
  refine PS.imp (ps_if hc ha hb) fun Dn σ H ⟨F, δ, s, R, E, h⟩ => ?_
  refine ⟨F, δ, s, R, E, t.mono (fun k s1 q => ?_) h⟩
  intro F1 H1 v1 R1 E1 d1
  subst d1
  cases k with
  | true => exact iteT ⟨F1, δ, s1, R1, E.same E1.same, u.mono (lift.ext E1) q⟩
  | false => exact iteF ⟨F1, δ, s1, R1, E.same E1.same, v.mono (lift.ext E1) q⟩
theorem s_set {i : Nat} {pos' : Pos} (hN : X.N.Nodup) (he : PE X e (tG X.K W m)) (hi : X.N[i]? = some x := by rfl) (hx : Loc X.env.scope x := by first | exact Or.inl rfl | exact Or.inr rfl) (hs : swapsWith e (some (.Name x pos')) pos.line X.env = pure false := by rfl)
    (hf : X.fn x = true ∨ X.env.scope.names.lookup x = some .local := by first | exact .inl rfl | exact .inr rfl) : PS X (.Assign [.Name x pos'] e pos) (tGS X.K W (MS.set i m)) := by
  refine PS.imp (ps_set hN hi hx he hs hf) fun Dn σ H ⟨F, δ, s, R, E, h⟩ => ?_
  refine ⟨F, δ, s, R, E, m.mono (fun d s1 q => ?_) h⟩
  intro F1 H1 v1 R1 E1 d1
  exact q F1 H1 _ R1 E1 ((E.same E1.same).set d1)
/-- x op= e, ints -/
def MS.aug (i : Nat) (f : D → D → Option D) (m : ME S) : MS S := ⟨fun δ s E => OQ (δ.getD i none) fun x => m.run δ s fun y s1 => OQ (f x y) fun z => E.nx (δ.set i (some z)) s1, fun h => OQ.mono fun _ => m.mono fun _ _ => OQ.mono fun _ => h.nx _ _⟩
theorem ip_of {op : Operator} {r : R2} (h : OpR X (inplaceOp op) r) : PIp X op r := fun pins s σ H x y v u Q I rx ry q => h pins s σ H x y v u Q I rx ry q
theorem slot_get {F : Hp} {δ : En} {σ : L2.St} {i : Nat} {d : D} (E : EnvOk K F δ σ) (e : δ.getD i none = some d) : ∃ v, σ[i]? = some (some v) ∧ IsD K F d v := by
  refine E.at_ i d ?_
  rw [List.getD_eq_getElem?_getD] at e
  cases z : δ[i]? with
  | none => rw [z] at e; cases e
  | some o => rw [z] at e; exact congrArg some e
theorem s_aug {op : Operator} {r : R2} {f : D → D → Option D} {i : Nat} {pos' : Pos} (ho : OpR X (inplaceOp op) r) (hf2 : OpG X.K W r f) (hN : X.N.Nodup) (he : PE X e (tG X.K W m)) (hi : X.N[i]? = some x := by rfl) (hx : Loc X.env.scope x := by first | exact Or.inl rfl | exact Or.inr rfl)
    (hf : X.fn x = true ∨ X.env.scope.names.lookup x = some .local := by first | exact .inl rfl | exact .inr rfl) : PS X (.AugAssign (.Name x pos') op e pos) (tGS X.K W (MS.aug i f m)) := by
  refine PS.imp (ps_aug hN hi hx he (ip_of ho) hf) fun Dn σ H ⟨F, δ, s, R, E, h⟩ => ?_
  obtain ⟨y, e1, h⟩ := OQ.ex h
  obtain ⟨v, h1, h2⟩ := slot_get E e1
  refine ⟨v, h1, F, δ, s, R, E, m.mono (fun d s1 q => ?_) h⟩
  intro F1 H1 v1 R1 E1 d1
  refine hf2 s1 F1 H1 y d v v1 _ R1 (h2.same E1.same) d1 (OQ.mono (fun z q => ?_) q)
  intro F2 H2 v2 R2 E2 d2
  exact q F2 H2 _ R2 (E1.trans E2) (((E.same E1.same).same E2.same).set d2)
theorem s_subE {i : Nat} {pos' : Pos} (hN : X.N.Nodup) (he : PE X e (tG X.K W m)) (hi : X.N[i]? = some x := by rfl) (hx : Loc X.env.scope x := by first | exact Or.inl rfl | exact Or.inr rfl)
    (hf : X.fn x = true ∨ X.env.scope.names.lookup x = some .local := by first | exact .inl rfl | exact .inr rfl) : PS X (.AugAssign (.Name x pos') .Sub e pos) (tGS X.K W (MS.aug i subD m)) := s_aug iop_sub iiG0 hN he hi hx hf
theorem s_addE {i : Nat} {pos' : Pos} (hN : X.N.Nodup) (he : PE X e (tG X.K W m)) (hi : X.N[i]? = some x := by rfl) (hx : Loc X.env.scope x := by first | exact Or.inl rfl | exact Or.inr rfl)
    (hf : X.fn x = true ∨ X.env.scope.names.lookup x = some .local := by first | exact .inl rfl | exact .inr rfl) : PS X (.AugAssign (.Name x pos') .Add e pos) (tGS X.K W (MS.aug i (iiD fun i j => some (i + j)) m)) := s_aug iop_add iiG0 hN he hi hx hf
end

/-! ### targets: names, tuples of targets -/
inductive Tgt where
  | nm (i : Nat)
  | tp (ts : List Tgt)
mutual
def setT : Tgt → D → En → Option En
  | .nm i, d, δ => some (δ.set i (some d))
  | .tp ts, d, δ => match d with
    | .tup ds => setTs ts ds δ
    | _ => none
def setTs : List Tgt → List D → En → Option En
  | [], [], δ => some δ
  | t :: ts, d :: ds, δ => (setT t d δ).bind fun δ' => setTs ts ds δ'
  | _, _, _ => none
end
mutual
def gT (K : PySem.W.Frag) : Tgt → TG
  | .nm i => gName i
  | .tp ts => gTup K ts.length (gTs K ts)
def gTs (K : PySem.W.Frag) : List Tgt → TGs
  | [] => gNil
  | t :: ts => gCons (gT K t) (gTs K ts)
end
mutual
/-- all names are among vs -/
def inT (vs : List Nat) : Tgt → Bool
  | .nm i => vs.contains i
  | .tp ts => inTs vs ts
def inTs (vs : List Nat) : List Tgt → Bool
  | [] => true
  | t :: ts => inT vs t && inTs vs ts
end
theorem wipe_set {σ : L2.St} {i : Nat} {v : V} : ∀ {vs : List Nat}, i ∈ vs → L2.wipe (σ.set i (some v)) vs = L2.wipe σ vs
  | a :: vs, h => by
    unfold L2.wipe
    by_cases e : i = a
    · subst e
      by_cases hm : i ∈ vs
      · rw [wipe_set hm]
      · refine List.ext_getElem? fun j => ?_
        by_cases q : i = j
        · subst q
          by_cases hl : i < σ.length
          · rw [List.getElem?_set_self (by rw [wipe_length]; simpa using hl), List.getElem?_set_self (by rw [wipe_length]; exact hl)]
          · rw [List.getElem?_eq_none (by rw [List.length_set, wipe_length, List.length_set]; omega), List.getElem?_eq_none (by rw [List.length_set, wipe_length]; omega)]
        · rw [List.getElem?_set_ne q, List.getElem?_set_ne q]
          have aux : ∀ (ws : List Nat), (L2.wipe (σ.set i (some v)) ws)[j]? = (L2.wipe σ ws)[j]? := by
            intro ws
            induction ws with
            | nil => exact List.getElem?_set_ne q
            | cons b ws ih =>
              unfold L2.wipe
              by_cases qb : b = j
              · subst qb
                by_cases hl : b < σ.length
                · rw [List.getElem?_set_self (by rw [wipe_length]; simpa using hl), List.getElem?_set_self (by rw [wipe_length]; exact hl)]
                · rw [List.getElem?_eq_none (by rw [List.length_set, wipe_length, List.length_set]; omega), List.getElem?_eq_none (by rw [List.length_set, wipe_length]; omega)]
              · rw [List.getElem?_set_ne qb, List.getElem?_set_ne qb]; exact ih
          exact aux vs
    · rw [wipe_set ((List.mem_cons.mp h).resolve_left e)]
section
variable {K : PySem.W.Frag} {F H : Hp}
mutual
theorem gT_run (e : Sub F H) : ∀ (t : Tgt) (d : D) (v : V) (δ δ' : En) (σ : L2.St) (Q : L2.St → Hp → Prop), IsD K F d v → EnvOk K F δ σ → setT t d δ = some δ' → (∀ σ', EnvOk K F δ' σ' → (∀ vs, inT vs t = true → L2.wipe σ' vs = L2.wipe σ vs) → Q σ' H) → gT K t v σ H Q
  | .nm i, d, v, δ, δ', σ, Q, hd, hE, hs, q => by
    simp only [setT, Option.some.injEq] at hs
    subst hs
    simp only [gT]
    refine q _ (hE.set hd) fun vs hi => wipe_set ?_
    simpa [inT] using hi
  | .tp ts, d, v, δ, δ', σ, Q, hd, hE, hs, q => by
    simp only [setT] at hs
    split at hs
    · rename_i ds
      obtain ⟨_, a, vs, rfl, h1, h2⟩ := isD_tup.mp hd
      simp only [gT]
      have hl : ds.length = ts.length := setTs_len ts ds δ δ' hs
      refine ⟨a, vs, rfl, SqT.sub e h1, by rw [h2.length, hl], ?_⟩
      exact gTs_run e ts ds vs δ δ' σ Q h2 hE hs fun σ' h3 h4 => q σ' h3 fun ws hw => h4 ws (by simpa [inT] using hw)
    · cases hs
theorem gTs_run (e : Sub F H) : ∀ (ts : List Tgt) (ds : List D) (vs : List V) (δ δ' : En) (σ : L2.St) (Q : L2.St → Hp → Prop), IsDs K F ds vs → EnvOk K F δ σ → setTs ts ds δ = some δ' → (∀ σ', EnvOk K F δ' σ' → (∀ ws, inTs ws ts = true → L2.wipe σ' ws = L2.wipe σ ws) → Q σ' H) → gTs K ts vs σ H Q
  | [], [], vs, δ, δ', σ, Q, hd, hE, hs, q => by
    simp only [setTs, Option.some.injEq] at hs
    subst hs
    simp only [IsDs] at hd
    simp only [gTs]
    exact ⟨hd, q σ hE fun _ _ => rfl⟩
  | t :: ts, d :: ds, vs, δ, δ', σ, Q, hd, hE, hs, q => by
    simp only [setTs] at hs
    cases e1 : setT t d δ with
    | none => rw [e1] at hs; cases hs
    | some δ1 =>
      rw [e1] at hs
      have hs' : setTs ts ds δ1 = some δ' := hs
      simp only [IsDs] at hd
      obtain ⟨v, ws, rfl, h1, h2⟩ := hd
      simp only [gTs]
      refine ⟨v, ws, rfl, gT_run e t d v δ δ1 σ _ h1 hE e1 fun σ1 h3 h4 => ?_⟩
      exact gTs_run e ts ds ws δ1 δ' σ1 Q h2 h3 hs' fun σ' h5 h6 => q σ' h5 fun zs hz => by
        have hz' : inT zs t = true ∧ inTs zs ts = true := by simpa [inTs] using hz
        rw [h6 zs hz'.2, h4 zs hz'.1]
  | [], _ :: _, _, _, _, _, _, _, _, hs, _ => by simp [setTs] at hs
  | _ :: _, [], _, _, _, _, _, _, _, hs, _ => by simp [setTs] at hs
theorem setTs_len : ∀ (ts : List Tgt) (ds : List D) (δ δ' : En), setTs ts ds δ = some δ' → ds.length = ts.length
  | [], [], _, _, _ => rfl
  | t :: ts, d :: ds, δ, δ', hs => by
    simp only [setTs] at hs
    cases e1 : setT t d δ with
    | none => rw [e1] at hs; cases hs
    | some δ1 =>
      rw [e1] at hs
      have := setTs_len ts ds δ1 δ' hs
      simp [this]
  | [], _ :: _, _, _, hs => by simp [setTs] at hs
  | _ :: _, [], _, _, hs => by simp [setTs] at hs
end
end
section
variable {S : Type} {W : Wd S} {X : Cx} {a b c e : Expr} {es : List Expr} {pos p : Pos} {K : PySem.W.Frag} {ma mb mc m : ME S} {r : MA S} {x : Str}
theorem gt_nm {i : Nat} (hN : X.N.Nodup) (hi : X.N[i]? = some x := by rfl) (hx : Loc X.env.scope x := by first | exact Or.inl rfl | exact Or.inr rfl) (hf : X.fn x = true ∨ X.env.scope.names.lookup x = some .local := by first | exact .inl rfl | exact .inr rfl) : PG X (.Name x pos) (gT X.K (.nm i)) := by
  simp only [gT]; exact pg_name hN hi hx hf
theorem gts_nil : PGs X [] (gTs X.K []) := by simp only [gTs]; exact pgs_nil
theorem gts_cons {t : Tgt} {ts : List Tgt} (h1 : PG X e (gT X.K t)) (h2 : PGs X es (gTs X.K ts)) (hs : (assignEach (e :: es) X.env).map (·.2) = assign e X.env :: (assignEach es X.env).map (·.2) := by rfl) : PGs X (e :: es) (gTs X.K (t :: ts)) := by
  simp only [gTs]; exact pgs_cons h1 h2 hs
theorem gt_tp {ts : List Tgt} {k : Nat} (hc : X.calm = true) (h : PGs X es (gTs X.K ts)) (hn : (assignEach es X.env).length = ts.length := by rfl) (hst : (assignEach es X.env).findIdx? (·.1) = none := by rfl) : PG X (.Tuple es k pos) (gT X.K (.tp ts)) := by
  simp only [gT]; exact pg_tup hc h hn hst
/-- target = e -/
def MS.asg (t : Tgt) (m : ME S) : MS S := ⟨fun δ s E => m.run δ s fun d s1 => OQ (setT t d δ) fun δ' => E.nx δ' s1, fun h => m.mono fun _ _ => OQ.mono fun _ => h.nx _ _⟩
theorem s_asg {tg : Expr} {t : Tgt} (he : PE X e (tG X.K W m)) (hg : PG X tg (gT X.K t)) (hs : swapsWithSole [tg] e pos.line X.env = pure false := by rfl) (hw : swappedStores [tg] e X.env = pure none := by rfl)
    (h1 : (assignEach [tg] X.env).map (·.2) = [assign tg X.env] := by rfl) : PS X (.Assign [tg] e pos) (tGS X.K W (MS.asg t m)) := by
  refine PS.imp (ps_asg he hg hs hw h1) fun Dn σ H ⟨F, δ, s, R, E, h⟩ => ?_
  refine ⟨F, δ, s, R, E, m.mono (fun d s1 q => ?_) h⟩
  intro F1 H1 v1 R1 E1 d1
  obtain ⟨δ', e1, q⟩ := OQ.ex q
  exact gT_run R1.sub t d v1 δ δ' σ _ d1 (E.same E1.same) e1 fun σ' h2 _ => q F1 H1 σ' R1 E1 h2
/-- a, b = x, y -/
def MS.par (i j : Nat) (r : MA S) : MS S := ⟨fun δ s E => r.run δ s fun ds s1 => match ds with | [d, d'] => E.nx ((δ.set i (some d)).set j (some d')) s1 | _ => False,
  fun h => r.mono fun ds _ q => by
    match ds, q with
    | [d, d'], q => exact h.nx _ _ q⟩
theorem s_par {i j : Nat} {y : Str} {px py pt : Pos} {kt k2 pt2} (hc : X.calm = true) (hN : X.N.Nodup) (ha : PA X [a, b] (tGA X.K W r)) (hi : X.N[i]? = some x := by rfl) (hj : X.N[j]? = some y := by rfl) (hij : i ≠ j := by decide)
    (hx : X.env.scope.names.lookup x = some .local := by rfl) (hy : X.env.scope.names.lookup y = some .local := by rfl)
    (hw : swappedStores [.Tuple [.Name x px, .Name y py] kt pt] (.Tuple [a, b] k2 pt2) X.env = pure (some [x, y]) := by rfl)
    (hs : swapsWithSole [.Tuple [.Name x px, .Name y py] kt pt] (.Tuple [a, b] k2 pt2) pos.line X.env = pure false := by rfl) :
    PS X (.Assign [.Tuple [.Name x px, .Name y py] kt pt] (.Tuple [a, b] k2 pt2) pos) (tGS X.K W (MS.par i j r)) := by
  refine PS.imp (ps_par hc hN hi hj hij hx hy ha hw hs) fun Dn σ H ⟨F, δ, s, R, E, h⟩ => ?_
  refine ⟨F, δ, s, R, E, r.mono (fun ds s1 q => ?_) h⟩
  intro F1 H1 vs R1 E1 d1
  match ds, q, d1 with
  | [d, d'], q, d1 =>
    obtain ⟨v, v', rfl, h1, h2⟩ := two_d d1
    exact ⟨v, v', rfl, q F1 H1 _ R1 E1 (((E.same E1.same).set h1).set h2)⟩
def MS.par3 (i j l : Nat) (r : MA S) : MS S := ⟨fun δ s E => r.run δ s fun ds s1 => match ds with | [d, d', d''] => E.nx (((δ.set i (some d)).set j (some d')).set l (some d'')) s1 | _ => False,
  fun h => r.mono fun ds _ q => by
    match ds, q with
    | [d, d', d''], q => exact h.nx _ _ q⟩
theorem three_d {F : Hp} {d d' d'' : D} {vs : List V} (h : IsDs K F [d, d', d''] vs) : ∃ v v' v'', vs = [v, v', v''] ∧ IsD K F d v ∧ IsD K F d' v' ∧ IsD K F d'' v'' := by
  simp only [IsDs] at h
  obtain ⟨v, ws, rfl, h1, v', ws', rfl, h2, v'', ws'', rfl, h3, rfl⟩ := h
  exact ⟨v, v', v'', rfl, h1, h2, h3⟩
theorem s_par3 {i j l : Nat} {y z : Str} {px py pz pt : Pos} {kt k2 pt2} (hc : X.calm = true) (hN : X.N.Nodup) (ha : PA X [a, b, c] (tGA X.K W r)) (hi : X.N[i]? = some x := by rfl) (hj : X.N[j]? = some y := by rfl) (hl : X.N[l]? = some z := by rfl) (hij : i ≠ j := by decide) (hil : i ≠ l := by decide) (hjl : j ≠ l := by decide)
    (hx : X.env.scope.names.lookup x = some .local := by rfl) (hy : X.env.scope.names.lookup y = some .local := by rfl) (hz : X.env.scope.names.lookup z = some .local := by rfl)
    (hw : swappedStores [.Tuple [.Name x px, .Name y py, .Name z pz] kt pt] (.Tuple [a, b, c] k2 pt2) X.env = pure (some [x, y, z]) := by rfl)
    (hs : swapsWithSole [.Tuple [.Name x px, .Name y py, .Name z pz] kt pt] (.Tuple [a, b, c] k2 pt2) pos.line X.env = pure false := by rfl) :
    PS X (.Assign [.Tuple [.Name x px, .Name y py, .Name z pz] kt pt] (.Tuple [a, b, c] k2 pt2) pos) (tGS X.K W (MS.par3 i j l r)) := by
  refine PS.imp (ps_par3 hc hN hi hj hl hij hil hjl hx hy hz ha hw hs) fun Dn σ H ⟨F, δ, s, R, E, h⟩ => ?_
  refine ⟨F, δ, s, R, E, r.mono (fun ds s1 q => ?_) h⟩
  intro F1 H1 vs R1 E1 d1
  match ds, q, d1 with
  | [d, d', d''], q, d1 =>
    obtain ⟨v, v', v'', rfl, h1, h2, h3⟩ := three_d d1
    exact ⟨v, v', v'', rfl, q F1 H1 _ R1 E1 ((((E.same E1.same).set h1).set h2).set h3)⟩
end
end G

set_option Elab.async false
set_option linter.all false
set_option maxRecDepth 100000
set_option maxHeartbeats 4000000
/-! what is walked; for; list comprehensions; a def's entry -/
namespace G
open PySem PySem.Spec PyProof.Rows L2
structure MI (S : Type) where
  run : En → S → (List D → S → Prop) → Prop
  mono : ∀ {δ s} {Q Q' : List D → S → Prop}, (∀ d s', Q d s' → Q' d s') → run δ s Q → run δ s Q'
section
variable {S : Type} (K : PySem.W.Frag) (W : Wd S)
/-- J walks items, from the state at which it was made on -/
structure Drv (J : It) (items : List D) (F1 : Hp) : Prop where
  go : ∀ i s2 F2 H2, Rel W s2 F2 H2 → Same F1 F2 → i < items.length → J.go i H2
  stop : ∀ s2 F2 H2, Rel W s2 F2 H2 → Same F1 F2 → J.stop items.length H2
  yld : ∀ (i : Nat) (d : D) s2 F2 H2 x H3, Rel W s2 F2 H2 → Same F1 F2 → items[i]? = some d → J.yld i H2 x H3 → ∃ F3, Rel W s2 F3 H3 ∧ Ext W s2 s2 F2 H2 F3 H3 ∧ IsD K F3 d x
def tI (m : MI S) : TI := fun σ H R => ∃ F δ s, Rel W s F H ∧ EnvOk K F δ σ ∧ m.run δ s fun items s1 => ∀ F1 H1 J, Rel W s1 F1 H1 → Ext W s s1 F H F1 H1 → Drv K W J items F1 → R J H1
end
section
variable {S : Type}
def forRun (t : Tgt) (body : MS S) (E : GEnds S) : List D → En → S → Prop
  | [], δ, s => E.nx δ s
  | d :: ds, δ, s => OQ (setT t d δ) fun δ1 => body.run δ1 s { nx := fun δ2 s2 => forRun t body E ds δ2 s2, rt := E.rt, bk := E.nx, ct := fun δ2 s2 => forRun t body E ds δ2 s2 }
theorem forRun_mono {t : Tgt} {body : MS S} {E E' : GEnds S} (h : E.Le E') : ∀ (ds : List D) (δ : En) (s : S), forRun t body E ds δ s → forRun t body E' ds δ s
  | [], _, _, q => h.nx _ _ q
  | d :: ds, _, s, q => OQ.mono (fun δ1 q => body.mono (E := { nx := fun δ2 s2 => forRun t body E ds δ2 s2, rt := E.rt, bk := E.nx, ct := fun δ2 s2 => forRun t body E ds δ2 s2 }) (E' := { nx := fun δ2 s2 => forRun t body E' ds δ2 s2, rt := E'.rt, bk := E'.nx, ct := fun δ2 s2 => forRun t body E' ds δ2 s2 })
      ⟨fun _ _ => forRun_mono h ds _ _, h.rt, h.nx, fun _ _ => forRun_mono h ds _ _⟩ q) q
def MS.for (i : MI S) (t : Tgt) (body : MS S) : MS S := ⟨fun δ s E => i.run δ s fun items s1 => forRun t body E items δ s1, fun h => i.mono fun _ _ => forRun_mono h _ _ _⟩
def lcRun (t : Tgt) (tt : MT S) (te : ME S) (δ : En) : List D → S → (List D → S → Prop) → Prop
  | [], s, k => k [] s
  | d :: ds, s, k => OQ (setT t d δ) fun δ1 => tt.run δ1 s fun b s1 => if b = true then te.run δ1 s1 fun y s2 => lcRun t tt te δ ds s2 fun r s3 => k (y :: r) s3 else lcRun t tt te δ ds s1 k
theorem lcRun_mono {t : Tgt} {tt : MT S} {te : ME S} {δ : En} : ∀ (ds : List D) (s : S) (k k' : List D → S → Prop), (∀ r s, k r s → k' r s) → lcRun t tt te δ ds s k → lcRun t tt te δ ds s k'
  | [], _, _, _, h, q => h _ _ q
  | d :: ds, _, _, _, h, q => OQ.mono (fun _ q => tt.mono (fun b s1 q => by
    cases b with
    | true => exact iteT (te.mono (fun y s2 q => lcRun_mono ds _ _ _ (fun r s3 => h _ _) q) (by simpa using q))
    | false => exact iteF (lcRun_mono ds _ _ _ h (by simpa using q))) q) q
def MT.yes : MT S := ⟨fun _ s Q => Q true s, fun h => h _ _⟩
/-- vs: the block's own names -/
def ME.lc (vs : List Nat) (i : MI S) (t : Tgt) (tt : MT S) (te : ME S) : ME S := ⟨fun δ s Q => i.run δ s fun items s1 => items.length ≤ big ∧ lcRun t tt te (wipeD δ vs) items s1 fun r s2 => Q (.lst r) s2, fun h => i.mono fun _ _ q => ⟨q.1, lcRun_mono _ _ _ _ (fun _ _ => h _ _) q.2⟩⟩
end
section
variable {S : Type} {W : Wd S} {X : Cx} {a b c e : Expr} {es : List Expr} {pos p : Pos} {K : PySem.W.Frag} {ma mb mc m : ME S} {r : MA S} {x : Str}

/-! ### for -/
theorem for_run {i : MI S} {t : Tgt} {body : MS S} {Dn : Ends} {σ : L2.St} {H : Hp} (h : tGS K W (MS.for i t body) Dn σ H) : tFor (tI K W i) (gT K t) (tGS K W body) Dn σ H := by
  obtain ⟨F, δ, s, R, E, h⟩ := h
  refine ⟨F, δ, s, R, E, i.mono (fun items s1 q => ?_) h⟩
  intro F1 H1 J R1 E1 dv
  refine ⟨fun i n σ' H' => n = items.length - i ∧ i ≤ items.length ∧ ∃ F' δ' s', Rel W s' F' H' ∧ EnvOk K F' δ' σ' ∧ Ext W s1 s' F1 H1 F' H' ∧ forRun t body (lift K W Dn F H s) (items.drop i) δ' s',
    ⟨items.length, by simp, Nat.zero_le _, F1, δ, s1, R1, E.same E1.same, .refl, by simpa using q⟩, ?_⟩
  rintro i n σ' H' ⟨rfl, hi, F', δ', s', R', E', X', q'⟩
  by_cases hlt : i < items.length
  · have hdrop : items.drop i = items[i] :: items.drop (i + 1) := List.drop_eq_getElem_cons hlt
    rw [hdrop] at q'
    refine .inr ⟨dv.go i s' F' H' R' X'.same hlt, fun σ2 H2 => ∃ F2 δ2 s2, Rel W s2 F2 H2 ∧ EnvOk K F2 δ2 σ2 ∧ Ext W s1 s2 F1 H1 F2 H2 ∧ forRun t body (lift K W Dn F H s) (items.drop (i + 1)) δ2 s2, ?_, ?_⟩
    · rintro σ2 H2 ⟨F2, δ2, s2, R2, E2, X2, q2⟩
      exact ⟨items.length - (i + 1), by omega, rfl, hlt, F2, δ2, s2, R2, E2, X2, q2⟩
    · intro xv H3 hy
      obtain ⟨F3, R3, X3, d3⟩ := dv.yld i items[i] s' F' H' xv H3 R' X'.same (by simp [hlt]) hy
      obtain ⟨δ1, e1, q1⟩ := OQ.ex q'
      refine gT_run R3.sub t items[i] xv δ' δ1 σ' _ d3 (E'.same X3.same) e1 fun σ4 h4 _ => ?_
      refine ⟨F3, δ1, s', R3, h4, body.mono (E := { nx := fun δ2 s2 => forRun t body (lift K W Dn F H s) (items.drop (i + 1)) δ2 s2, rt := (lift K W Dn F H s).rt, bk := (lift K W Dn F H s).nx, ct := fun δ2 s2 => forRun t body (lift K W Dn F H s) (items.drop (i + 1)) δ2 s2 }) ⟨?_, ?_, ?_, ?_⟩ q1⟩
      · intro δ5 s5 q5 F5 H5 σ5 R5 X5 h5
        exact ⟨F5, δ5, s5, R5, h5, (X'.trans X3).trans X5, q5⟩
      · intro d5 s5 q5 F5 H5 v5 R5 X5 h5
        exact q5 F5 H5 v5 R5 (((E1.trans X').trans X3).trans X5) h5
      · intro δ5 s5 q5 F5 H5 σ5 R5 X5 h5
        exact q5 F5 H5 σ5 R5 (((E1.trans X').trans X3).trans X5) h5
      · intro δ5 s5 q5 F5 H5 σ5 R5 X5 h5
        exact ⟨F5, δ5, s5, R5, h5, (X'.trans X3).trans X5, q5⟩
  · have e : i = items.length := by omega
    subst e
    refine .inl ⟨dv.stop s' F' H' R' X'.same, ?_⟩
    rw [List.drop_length] at q'
    exact q' F' H' σ' R' (E1.trans X') E'
theorem s_for {tg iter : Expr} {i : MI S} {t : Tgt} {bd : List Stmt} {body : MS S} (hp : PassesOwn (model X.prog X.w) X.A X.env X.xe) (hc : X.calm = true) (hi : PI X tg iter (tI X.K W i)) (hg : PG X tg (gT X.K t)) (hb : PSs X bd (tGS X.K W body))
    (hs : ∀ x, foldedSetIterable iter X.env x = pure x := by intro _; rfl) : PS X (.For tg iter bd [] pos) (tGS X.K W (MS.for i t body)) :=
  PS.imp (ps_for hp hc hi hg hb hs) fun Dn σ H h => for_run h

/-! ### list comprehensions -/
theorem pts0 : PTs X [] (tGT X.K W (MT.yes : MT S)) := ⟨fun pins s σ H Q I ⟨F, δ, s0, R, E, q⟩ => pts_nil.run pins s σ H Q I (q F H true R .refl rfl)⟩
theorem pts1 {t : MT S} (h : PT X c (tGT X.K W t)) : PTs X [c] (tGT X.K W t) := pts_one h
theorem wipe_idem (vs : List Nat) : ∀ (ws : List Nat) (σ : L2.St), (∀ i ∈ ws, i ∈ vs) → L2.wipe (L2.wipe σ vs) ws = L2.wipe σ vs
  | [], σ, _ => rfl
  | b :: ws, σ, hb => by
    show (L2.wipe (L2.wipe σ vs) ws).set b none = L2.wipe σ vs
    rw [wipe_idem vs ws σ fun i hi => hb i (List.mem_cons_of_mem _ hi)]
    refine List.ext_getElem? fun j => ?_
    by_cases e : b = j
    · subst e
      by_cases hl : b < (L2.wipe σ vs).length
      · rw [List.getElem?_set_self hl]
        have hb' := hb b List.mem_cons_self
        cases z : (L2.wipe σ vs)[b]? with
        | none => rw [List.getElem?_eq_none_iff] at z; omega
        | some o =>
          cases o with
          | none => rfl
          | some y => exact absurd hb' (wipe_some z).2
      · rw [List.getElem?_eq_none (by simpa using hl), List.getElem?_eq_none (by omega)]
    · rw [List.getElem?_set_ne e]
/-- one walk of a comprehension, J in hand; the list stands at Dd and holds acc0 already -/
theorem lc_core {J : It} {items acc0 : List D} {vs0 : List V} {t : Tgt} {tt : MT S} {te : ME S} {vs : List Nat} {δ : En} {σ : L2.St} {s0 s1 : S} {F0 H0 F1 H1 : Hp} {Dd : Addr} {Nx : Hp → Prop} {k : List D → S → Prop} (hD : H0 Dd = none)
    (dv : Drv K W J items F1) (R1 : Rel W s1 F1 H1) (X1 : Ext W s0 s1 F0 H0 F1 H1) (E : EnvOk K F1 δ (L2.wipe σ vs)) (hv : inT vs t = true) (f1 : F1 Dd = none) (w1 : ¬ W.fp s1 Dd) (h1 : H1 Dd = some (.lst vs0)) (ds0 : IsDs K F1 acc0 vs0)
    (hz : acc0.length + items.length ≤ big) (q : lcRun t tt te δ items s1 k)
    (fin : ∀ ds s F' H' vs', k ds s → Rel W s F' H' → Ext W s0 s F0 H0 F' H' → Same F1 F' → F' Dd = none → ¬ W.fp s Dd → H' Dd = some (.lst vs') → IsDs K F' (acc0 ++ ds) vs' → ds.length ≤ items.length → Nx H') :
    ∃ Wn : Nat → Nat → Hp → Prop, (∃ m, Wn 0 m H1) ∧ ∀ i m H, Wn i m H →
      (J.stop i H ∧ Nx H) ∨ (J.go i H ∧ ∃ Nn : Hp → Prop, (∀ H', Nn H' → ∃ m', m' < m ∧ Wn (i + 1) m' H') ∧ ∀ x H', J.yld i H x H' → gT K t x (L2.wipe σ vs) H' fun σ2 H2 => L2.wipe σ2 vs = L2.wipe σ vs ∧ tGT K W tt σ2 H2 fun b H3 =>
        if b = true then tG K W te σ2 H3 fun y H4 => ∃ acc, H4 Dd = some (.lst acc) ∧ acc.length < sizeLine ∧ Nn (upd H4 Dd (.lst (acc ++ [y]))) else Nn H3) := by
  have hz : acc0.length + items.length ≤ 16777216 := hz
  let In : Nat → Hp → Prop := fun i H => ∃ F s acc vs', Rel W s F H ∧ Ext W s0 s F0 H0 F H ∧ Same F1 F ∧ F Dd = none ∧ ¬ W.fp s Dd ∧ H Dd = some (.lst vs') ∧ IsDs K F (acc0 ++ acc) vs' ∧ acc.length ≤ i ∧ lcRun t tt te δ (items.drop i) s fun r s4 => k (acc ++ r) s4
  refine ⟨fun i n H => n = items.length - i ∧ i ≤ items.length ∧ In i H, ⟨items.length, by simp, Nat.zero_le _, F1, s1, [], vs0, R1, X1, fun _ _ h => h, f1, w1, h1, by rw [List.append_nil]; exact ds0, Nat.le_refl _, by simpa using q⟩, ?_⟩
  rintro i n H ⟨rfl, hi, F, s, acc, vs', R, X0, sm, hFD, hw, hH, hds, hl, q⟩
  by_cases hlt : i < items.length
  · have hdrop : items.drop i = items[i] :: items.drop (i + 1) := List.drop_eq_getElem_cons hlt
    rw [hdrop] at q
    refine .inr ⟨dv.go i s F H R sm hlt, In (i + 1), fun H' h => ⟨items.length - (i + 1), by omega, rfl, hlt, h⟩, ?_⟩
    intro xv H3 hy
    obtain ⟨F3, R3, X3, d3⟩ := dv.yld i items[i] s F H xv H3 R sm (by simp [hlt]) hy
    obtain ⟨δ1, e1, q1⟩ := OQ.ex q
    refine gT_run R3.sub t items[i] xv δ δ1 _ _ d3 ((E.same sm).same X3.same) e1 fun σ4 h4 h5 => ⟨?_, ?_⟩
    · rw [h5 vs hv]
      exact wipe_idem vs vs σ fun _ h => h
    refine ⟨F3, δ1, s, R3, h4, tt.mono (fun bb s5 q5 => ?_) q1⟩
    intro F5 H5 b5 R5 X5 e5
    subst e5
    have xx5 := (X0.trans X3).trans X5
    have sm5 := (sm.trans X3.same).trans X5.same
    have alive3 : H3 Dd = some (.lst vs') := X3.kept _ _ hH hw
    have f3 : F3 Dd = none := X3.fresh Dd (by rw [hH]; simp) hFD
    have alive5 : H5 Dd = some (.lst vs') := X5.kept _ _ alive3 hw
    have f5 : F5 Dd = none := X5.fresh Dd (by rw [alive3]; simp) f3
    have w5 : ¬ W.fp s5 Dd := fun z => (X5.grow Dd z).elim hw fun z => by rw [alive3] at z; cases z
    cases bb with
    | false =>
      refine iteF ⟨F5, s5, acc, vs', R5, xx5, sm5, f5, w5, alive5, (hds.same X3.same).same X5.same, by omega, by simpa using q5⟩
    | true =>
      refine iteT ⟨F5, δ1, s5, R5, h4.same X5.same, te.mono (fun y s6 q6 => ?_) (by simpa using q5)⟩
      intro F6 H6 v6 R6 X6 d6
      have alive6 : H6 Dd = some (.lst vs') := X6.kept _ _ alive5 w5
      have f6 : F6 Dd = none := X6.fresh Dd (by rw [alive5]; simp) f5
      have w6 : ¬ W.fp s6 Dd := fun z => (X6.grow Dd z).elim w5 fun z => by rw [alive5] at z; cases z
      have hds6 := ((hds.same X3.same).same X5.same).same X6.same
      have xx6 := xx5.trans X6
      refine ⟨vs', alive6, by rw [hds.length, sizeLine_eq, List.length_append]; omega, F6, s6, acc ++ [y], vs' ++ [v6], R6.temp f6 w6, ?_, sm5.trans X6.same, f6, w6, upd_same, by rw [← List.append_assoc]; exact hds6.app (.one d6), by simp; omega, ?_⟩
      · refine ⟨xx6.same, fun a o h n => ?_, xx6.fresh, xx6.grow, fun a h => ?_⟩
        · rw [upd_ne (ne_of_none h hD)]; exact xx6.kept a o h n
        · by_cases e : a = Dd
          · subst e; rw [upd_same]; simp
          · rw [upd_ne e]; exact xx6.alive a h
      · refine lcRun_mono _ _ _ _ (fun r s7 q7 => ?_) q6
        rw [List.append_assoc]
        exact q7
  · have e : i = items.length := by omega
    subst e
    refine .inl ⟨dv.stop s F H R sm, ?_⟩
    rw [List.drop_length] at q
    have q' : k acc s := by have := q; simp only [lcRun, List.append_nil] at this; exact this
    exact fin acc s F H vs' q' R X0 sm hFD hw hH hds hl
/-- the new list, empty as yet -/
theorem lc_new {s1 : S} {F1 H1 : Hp} {Dd : Addr} (R1 : Rel W s1 F1 H1) (hD : H1 Dd = none) : Rel W s1 F1 (upd H1 Dd (.lst [])) ∧ Ext W s1 s1 F1 H1 F1 (upd H1 Dd (.lst [])) ∧ F1 Dd = none ∧ ¬ W.fp s1 Dd := by
  have hF := R1.sub.none hD
  refine ⟨R1.temp hF (R1.nfp hD), ⟨fun _ _ h => h, fun a o h _ => by rw [upd_ne (ne_of_none h hD)]; exact h, fun _ _ h => h, fun _ h => .inl h, fun a h => ?_⟩, hF, R1.nfp hD⟩
  by_cases e : a = Dd
  · subst e; rw [upd_same]; simp
  · rw [upd_ne e]; exact h
/-- the list is done -/
theorem lc_fin {s0 s : S} {F0 H0 F H : Hp} {Dd : Addr} {vs' : List V} {ds : List D} (hD : H0 Dd = none) (R : Rel W s F H) (X0 : Ext W s0 s F0 H0 F H) (hFD : F Dd = none) (hw : ¬ W.fp s Dd) (hH : H Dd = some (.lst vs')) (hds : IsDs K F ds vs') (hz : ds.length ≤ big) :
    Rel W s (upd F Dd (.lst vs')) H ∧ Ext W s0 s F0 H0 (upd F Dd (.lst vs')) H ∧ IsD K (upd F Dd (.lst vs')) (.lst ds) (.ref Dd) := by
  have ff : ∀ a, H0 a ≠ none → F0 a = none → (upd F Dd (.lst vs')) a = none := fun a h n => by
    have ne : a ≠ Dd := fun z => h (z ▸ hD)
    rw [upd_ne ne]; exact X0.fresh a h n
  have sm : Same F (upd F Dd (.lst vs')) := Same.upd hFD
  exact ⟨R.freeze hFD hw hH, ⟨X0.same.trans sm, X0.kept, ff, X0.grow, X0.alive⟩, isD_lst.mpr ⟨big_le hz, Dd, vs', rfl, .inl upd_same, hds.same sm⟩⟩
theorem lc_run {i : MI S} {t : Tgt} {tt : MT S} {te : ME S} {vs : List Nat} (hv : inT vs t = true) {σ : L2.St} {H : Hp} {Q : VK} (h : tG K W (ME.lc vs i t tt te) σ H Q) : tLc (tI K W i) (gT K t) (tGT K W tt) (tG K W te) vs σ H Q := by
  obtain ⟨F, δ, s, R, E, h⟩ := h
  refine ⟨F, δ, s, R, E, i.mono (fun items s1 q => ?_) h⟩
  intro F1 H1 J R1 E1 dv Dd hD
  obtain ⟨hz, q⟩ := q
  obtain ⟨R2, X2, hF, hw⟩ := lc_new R1 hD
  refine lc_core (Nx := fun H' => Q (.ref Dd) H') (acc0 := []) hD dv R2 X2 ((E.same E1.same).wipe vs) hv hF hw upd_same .nil (by simpa using hz) q ?_
  intro ds s' F' H' vs' q' R' X' sm f' w' h' d' hl
  rw [List.nil_append] at d'
  obtain ⟨R3, X3, d3⟩ := lc_fin hD R' X' f' w' h' d' (Nat.le_trans hl hz)
  exact q' _ H' _ R3 (E1.trans X3) d3
variable {tg iter elt : Expr} {ifs : List Expr} {scope : Scope} {own : List (Str × Nat)} {i : MI S} {t : Tgt} {tt : MT S} {te : ME S}
theorem g_lc (own : List (Str × Nat)) (hc : X.calm = true) (hN : X.N.Nodup) (hi : PI X tg iter (tI X.K W i)) (ok : BlkOk X.N X.env.scope scope own)
    (hg : ∀ (s : Shared) (H : Hp) (C : Addr) (cl : List (Str × Addr)) (fp : List Addr), PG (X.blk s H scope (compEnvC scope cl C X.env) fp) tg (gT X.K t)) (ht : ∀ (s : Shared) (H : Hp) (C : Addr) (cl : List (Str × Addr)) (fp : List Addr), PTs (X.blk s H scope (compEnvC scope cl C X.env) fp) ifs (tGT X.K W tt))
    (he : ∀ (s : Shared) (H : Hp) (C : Addr) (cl : List (Str × Addr)) (fp : List Addr), PE (X.blk s H scope (compEnvC scope cl C X.env) fp) elt (tG X.K W te)) (hv : inT (own.map (·.2)) t = true := by rfl) (hs : ∀ x, foldedSetIterable iter X.env x = pure x := by intro _; rfl) :
    PE X (.ListComp elt [⟨tg, iter, ifs, 0⟩] scope pos) (tG X.K W (ME.lc (own.map (·.2)) i t tt te)) :=
  PE.imp (pe_lc hc hN hi ok hg ht he hs) fun σ H Q h => lc_run hv h
theorem s_setLc (own : List (Str × Nat)) {l : Nat} {y : Str} {py spos : Pos} (hc : X.calm = true) (hN : X.N.Nodup) (hi : PI X tg iter (tI X.K W i)) (ok : BlkOk X.N X.env.scope scope own)
    (hg : ∀ (s : Shared) (H : Hp) (C : Addr) (cl : List (Str × Addr)) (fp : List Addr), PG (X.blk s H scope (compEnvC scope cl C X.env) fp) tg (gT X.K t)) (ht : ∀ (s : Shared) (H : Hp) (C : Addr) (cl : List (Str × Addr)) (fp : List Addr), PTs (X.blk s H scope (compEnvC scope cl C X.env) fp) ifs (tGT X.K W tt))
    (he : ∀ (s : Shared) (H : Hp) (C : Addr) (cl : List (Str × Addr)) (fp : List Addr), PE (X.blk s H scope (compEnvC scope cl C X.env) fp) elt (tG X.K W te)) (hsw : swapsWith (.ListComp elt [⟨tg, iter, ifs, 0⟩] scope pos) (some (.Name y py)) spos.line X.env = pure true)
    (hv : inT (own.map (·.2)) t = true := by rfl) (hy : X.N[l]? = some y := by rfl) (hyl : X.env.scope.names.lookup y = some .local := by rfl) (hs : ∀ x, foldedSetIterable iter X.env x = pure x := by intro _; rfl) :
    PS X (.Assign [.Name y py] (.ListComp elt [⟨tg, iter, ifs, 0⟩] scope pos) spos) (tGS X.K W (MS.set l (ME.lc (own.map (·.2)) i t tt te))) := by
  refine PS.imp (ps_setLc (i := l) hc hN hy hyl hsw hi ok hg ht he hs) fun Dn σ H ⟨F, δ, s, R, E, h⟩ => ?_
  refine lc_run hv ⟨F, δ, s, R, E, ME.mono _ (fun d s1 q => ?_) (show (ME.lc (own.map (·.2)) i t tt te).run δ s (fun d s1 => (lift X.K W Dn F H s).nx (δ.set l (some d)) s1) from h)⟩
  intro F1 H1 v1 R1 E1 d1
  exact q F1 H1 _ R1 E1 ((E.same E1.same).set d1)

/-! ### what is walked -/
theorem PI.imp {wi wj : TI} (h : PI X tg iter wi) (w : ∀ σ H R, wj σ H R → wi σ H R) : PI X tg iter wj := ⟨fun pins s σ H R I q => h.run pins s σ H R I (w _ _ _ q)⟩
def signD (z : Str) : List D := z.cps.toList.map fun c => .str ⟨#[c]⟩
def seqD : D → Option (List D)
  | .lst ds => some ds
  | .tup ds => some ds
  | .str z => some (signD z)
  | .dct ks _ => some (ks.map keyD)
  | _ => none
def szD : D → Prop
  | .lst ds => ds.length ≤ big
  | .tup ds => ds.length ≤ big
  | _ => True
def MI.seq (m : ME S) : MI S := ⟨fun δ s Q => m.run δ s fun d s1 => OQ (seqD d) fun ds => szD d → Q ds s1, fun h => m.mono fun _ _ => OQ.mono fun _ q z => h _ _ (q z)⟩
theorem drv_lst {ds : List D} {vs : List V} {a : Addr} {F1 : Hp} (h1 : Rd F1 a (.lst vs)) (h2 : IsDs K F1 ds vs) : Drv K W (Itl K a) ds F1 := by
  refine ⟨fun i s2 F2 H2 R2 X2 hi => ?_, fun s2 F2 H2 R2 X2 => ⟨vs, .inl (Rd.sub R2.sub (Rd.same X2 h1)), by rw [h2.length]; exact Nat.le_refl _⟩, fun i d s2 F2 H2 x H3 R2 X2 hd hy => ?_⟩
  · exact ⟨vs, vs[i]'(by rw [h2.length]; exact hi), .inl (Rd.sub R2.sub (Rd.same X2 h1)), by simp⟩
  · obtain ⟨rfl, hx⟩ := hy
    obtain ⟨v, e, dv⟩ := h2.get hd
    have := hx vs (.inl (Rd.sub R2.sub (Rd.same X2 h1)))
    rw [e] at this
    cases this
    exact ⟨F2, R2, .refl, dv.same X2⟩
theorem drv_tup {ds : List D} {vs : List V} {a : Addr} {F1 : Hp} (h1 : SqT K F1 a vs) (h2 : IsDs K F1 ds vs) : Drv K W (Itt K a) ds F1 := by
  refine ⟨fun i s2 F2 H2 R2 X2 hi => ?_, fun s2 F2 H2 R2 X2 => ⟨vs, SqT.sub R2.sub (SqT.same X2 h1), by rw [h2.length]; exact Nat.le_refl _⟩, fun i d s2 F2 H2 x H3 R2 X2 hd hy => ?_⟩
  · exact ⟨vs, vs[i]'(by rw [h2.length]; exact hi), SqT.sub R2.sub (SqT.same X2 h1), by simp⟩
  · obtain ⟨rfl, hx⟩ := hy
    obtain ⟨v, e, dv⟩ := h2.get hd
    have := hx vs (SqT.sub R2.sub (SqT.same X2 h1))
    rw [e] at this
    cases this
    exact ⟨F2, R2, .refl, dv.same X2⟩
theorem drv_str {z : Str} {F1 : Hp} : Drv K W (Its z) (signD z) F1 := by
  have hl : (signD z).length = z.cps.size := by simp [signD]
  refine ⟨fun i s2 F2 H2 R2 X2 hi => by rw [hl] at hi; exact hi, fun s2 F2 H2 R2 X2 => by rw [hl]; exact Nat.le_refl _, fun i d s2 F2 H2 x H3 R2 X2 hd hy => ?_⟩
  obtain ⟨rfl, c, hc, rfl⟩ := hy
  unfold signD at hd
  rw [List.getElem?_map, Array.getElem?_toList, hc] at hd
  cases hd
  exact ⟨F2, R2, .refl, isD_str.mpr rfl⟩
theorem fl_same {H2 F F2 : Hp} {a : Addr} {o : Obj} {u : HO} (e : Same F F2) (u2 : Sub F2 H2) (h : F a = some (.frz o u)) : H2 a = some (.frz o u) := by
  rcases u2 a _ (e _ _ h) with q | ⟨m, _⟩
  · exact q
  · exact m.elim
theorem drv_keys {ks : List Key} {vs : List V} {ds : List D} {a : Addr} {o : Obj} {F1 : Hp} (h1 : F1 a = some (.frz o (.dK (ks.zip vs)))) (h2 : IsDs K F1 ds vs) (hl : ds.length = ks.length) : Drv K W (Itk a o (ks.zip vs)) (ks.map keyD) F1 := by
  have hz : (ks.zip vs).length = ks.length := by rw [List.length_zip, h2.length, hl, Nat.min_self]
  refine ⟨fun i s2 F2 H2 R2 X2 hi => ⟨fl_same X2 R2.sub h1, by rw [hz]; simpa using hi⟩, fun s2 F2 H2 R2 X2 => ⟨fl_same X2 R2.sub h1, by rw [hz]; simp⟩, fun i d s2 F2 H2 x H3 R2 X2 hd hy => ?_⟩
  obtain ⟨rfl, k, v, hk, rfl⟩ := hy
  have hk' : ks[i]? = some k := by
    have := congrArg (Option.map Prod.fst) hk
    rw [← List.getElem?_map, List.map_fst_zip (by rw [h2.length, hl]; exact Nat.le_refl _)] at this
    exact this
  rw [List.getElem?_map, hk'] at hd
  cases hd
  exact ⟨F2, R2, .refl, isD_key k⟩
theorem drv_vals {ks : List Key} {vs : List V} {ds : List D} {a : Addr} {o : Obj} {F1 : Hp} (h1 : F1 a = some (.frz o (.dK (ks.zip vs)))) (h2 : IsDs K F1 ds vs) (hl : ds.length = ks.length) : Drv K W (Itd a o (ks.zip vs)) ds F1 := by
  have hz : (ks.zip vs).length = ds.length := by rw [List.length_zip, h2.length, hl, Nat.min_self]
  refine ⟨fun i s2 F2 H2 R2 X2 hi => ⟨fl_same X2 R2.sub h1, by rw [hz]; exact hi⟩, fun s2 F2 H2 R2 X2 => ⟨fl_same X2 R2.sub h1, by rw [hz]; exact Nat.le_refl _⟩, fun i d s2 F2 H2 x H3 R2 X2 hd hy => ?_⟩
  obtain ⟨rfl, k, hk⟩ := hy
  have hk' : vs[i]? = some x := by
    have := congrArg (Option.map Prod.snd) hk
    rw [← List.getElem?_map, List.map_snd_zip (by rw [h2.length, hl]; exact Nat.le_refl _)] at this
    exact this
  obtain ⟨v, e, dv⟩ := h2.get hd
  rw [hk'] at e
  cases e
  exact ⟨F2, R2, .refl, dv.same X2⟩
theorem pair_len {a b : D} : [a, b].length ≤ sizeLine := by rw [sizeLine_eq]; show 2 ≤ 16777216; decide
theorem drv_items {ks : List Key} {vs : List V} {ds : List D} {a : Addr} {o : Obj} {F1 : Hp} (h1 : F1 a = some (.frz o (.dK (ks.zip vs)))) (h2 : IsDs K F1 ds vs) (hl : ds.length = ks.length) : Drv K W (Iti a o (ks.zip vs)) ((ks.zip ds).map fun kd => .tup [keyD kd.1, kd.2]) F1 := by
  have hz : (ks.zip vs).length = (ks.zip ds).length := by rw [List.length_zip, List.length_zip, h2.length]
  refine ⟨fun i s2 F2 H2 R2 X2 hi => ⟨fl_same X2 R2.sub h1, by rw [hz]; simpa using hi⟩, fun s2 F2 H2 R2 X2 => ⟨fl_same X2 R2.sub h1, by rw [hz]; simp⟩, fun i d s2 F2 H2 x H3 R2 X2 hd hy => ?_⟩
  obtain ⟨q, k, v, hk, rfl, hn, rfl⟩ := hy
  rw [List.getElem?_map] at hd
  rw [List.getElem?_zip_eq_some] at hk
  cases hj : (ks.zip ds)[i]? with
  | none => rw [hj] at hd; cases hd
  | some kd =>
    obtain ⟨k', d'⟩ := kd
    rw [hj] at hd
    rw [List.getElem?_zip_eq_some] at hj
    have ek : k' = k := by rw [hk.1] at hj; exact (Option.some.inj hj.1).symm
    subst ek
    cases hd
    obtain ⟨v', e, dv⟩ := h2.get hj.2
    have ev : v' = v := by rw [hk.2] at e; exact (Option.some.inj e).symm
    subst ev
    refine ⟨upd F2 q (.tup [kV k', v']), R2.laid hn, Ext.laid R2 hn, isD_tup.mpr ⟨pair_len, q, _, rfl, SqT.of upd_same, ?_⟩⟩
    exact .cons (isD_key k') (.one ((dv.same X2).same (Same.upd (R2.sub.none hn))))
/-- what an evaluation's answer is walked as -/
def iSeq (K : PySem.W.Frag) (te : TE) : TI := fun σ H R => te σ H fun x H1 => (∃ a, x = .ref a ∧ (∃ xs, SqL K H1 a xs) ∧ R (Itl K a) H1) ∨ (∃ a, x = .ref a ∧ (∃ xs, SqT K H1 a xs) ∧ R (Itt K a) H1) ∨ (∃ z, x = .str z ∧ R (Its z) H1) ∨ ∃ d o kvs, x = .ref d ∧ H1 d = some (.frz o (.dK kvs)) ∧ R (Itk d o kvs) H1
theorem pi_seq {te : TE} (he : PE X e te) : PI X tg e (iSeq X.K te) := by
  refine ⟨fun pins s σ H R I h => ?_⟩
  refine thn (he.run pins s σ H _ I h) fun v s1 ⟨y, H1, I1, r1, q⟩ => ?_
  rcases q with ⟨a, ex, ⟨xs, hq⟩, q⟩ | ⟨a, ex, ⟨xs, hq⟩, q⟩ | ⟨x, ex, q⟩ | ⟨d, o, kvs, ex, hd, q⟩
  · subst ex
    cases r1
    obtain ⟨its, rv, p, hz⟩ := I1.list hq
    exact wpAny_pyIter_list p.isList (pi_one (tk := s1.toks) I1 _ (turn_list a _) ⟨_, Heap.get?_push_size _ rfl, rfl, rfl⟩ q)
  · subst ex
    cases r1
    obtain ⟨its, rv, p, hz⟩ := I1.tuple hq
    exact wpAny_pyIter_tuple (show s1.heap.IsTuple a its.toArray from p) (pi_one (tk := s1.toks) I1 _ (turn_tuple a _) ⟨_, Heap.get?_push_size _ rfl, rfl, rfl⟩ q)
  · subst ex
    obtain ⟨t, rfl⟩ := r1
    cases ha : x.cps.all (· < 128)
    · exact wpAny_pyIter_wide ha (pi_one (tk := s1.toks) I1 _ (turn_str _ x t "str_iterator" (.inr rfl)) ⟨_, Heap.get?_push_size _ rfl, rfl, rfl⟩ q)
    · exact wpAny_pyIter_ascii ha (pi_one (tk := s1.toks) I1 _ (turn_str _ x t "str_ascii_iterator" (.inl rfl)) ⟨_, Heap.get?_push_size _ rfl, rfl, rfl⟩ q)
  · subst ex
    obtain rfl : v = Value.ref d := r1
    obtain ⟨hs, hgd, hx, es, ep, vs, hdt, hsz, kv, hm⟩ := I1.frzK hd
    refine iter_keys hs hgd hx hdt (pi_one (tk := s1.toks) I1 _ (turn_keys _ hdt) ⟨_, Heap.get?_push_size _ rfl, rfl, ?_⟩ q)
    rw [hsz] <;> rfl
theorem i_seq (h : PE X e (tG X.K W m)) : PI X tg e (tI X.K W (MI.seq m)) := by
  refine PI.imp (pi_seq h) fun σ H Rk ⟨F, δ, s, R, E, h⟩ => ?_
  refine ⟨F, δ, s, R, E, m.mono (fun x s1 q => ?_) h⟩
  intro F1 H1 v R1 E1 d1
  obtain ⟨ds, e, q⟩ := OQ.ex q
  unfold seqD at e
  split at e
  · cases e
    obtain ⟨hz, a, vs, rfl, h2, h3⟩ := isD_lst.mp d1
    exact .inl ⟨a, rfl, ⟨vs, .inl (Rd.sub R1.sub h2)⟩, q (le_big hz) F1 H1 _ R1 E1 (drv_lst h2 h3)⟩
  · cases e
    obtain ⟨hz, a, vs, rfl, h2, h3⟩ := isD_tup.mp d1
    exact .inr (.inl ⟨a, rfl, ⟨vs, SqT.sub R1.sub h2⟩, q (le_big hz) F1 H1 _ R1 E1 (drv_tup h2 h3)⟩)
  · cases e
    rw [isD_str] at d1; subst d1
    exact .inr (.inr (.inl ⟨_, rfl, q trivial F1 H1 _ R1 E1 drv_str⟩))
  · cases e
    obtain ⟨hl, a, vs, o, rfl, h2, h3⟩ := isD_dct.mp d1
    exact .inr (.inr (.inr ⟨a, o, _, rfl, fl_same (fun _ _ h => h) R1.sub h2, q trivial F1 H1 _ R1 E1 (drv_keys h2 h3 hl)⟩))
  · cases e
def valsD : D → Option (List D)
  | .dct _ ds => some ds
  | _ => none
def itemsD : D → Option (List D)
  | .dct ks ds => some ((ks.zip ds).map fun kd => .tup [keyD kd.1, kd.2])
  | _ => none
def MI.of (f : D → Option (List D)) (m : ME S) : MI S := ⟨fun δ s Q => m.run δ s fun d s1 => OQ (f d) fun ds => Q ds s1, fun h => m.mono fun _ _ => OQ.mono fun _ => h _ _⟩
variable {apos cpos : Pos}
theorem i_vals (he : PE X e (tG X.K W m)) (hbase : attributeBase e "values" X.env (eval e X.env) = eval e X.env := by rfl) (hline : (apos.endLine == cpos.line) = true := by rfl) : PI X tg (.Call (.Attribute e "values" apos) [] [] cpos) (tI X.K W (MI.of valsD m)) := by
  refine PI.imp (pi_values he hbase hline) fun σ H Rk ⟨F, δ, s, R, E, h⟩ => ?_
  refine ⟨F, δ, s, R, E, m.mono (fun x s1 q => ?_) h⟩
  intro F1 H1 v R1 E1 d1
  obtain ⟨ds, e, q⟩ := OQ.ex q
  unfold valsD at e
  split at e
  · cases e
    obtain ⟨hl, a, vs, o, rfl, h2, h3⟩ := isD_dct.mp d1
    exact ⟨a, o, _, rfl, fl_same (fun _ _ h => h) R1.sub h2, q F1 H1 _ R1 E1 (drv_vals h2 h3 hl)⟩
  · cases e
theorem i_items {elts : List Expr} {kk : Nat} {tpos : Pos} (he : PE X e (tG X.K W m)) (hbase : attributeBase e "items" X.env (eval e X.env) = eval e X.env := by rfl) (hline : (apos.endLine == cpos.line) = true := by rfl) :
    PI X (.Tuple elts kk tpos) (.Call (.Attribute e "items" apos) [] [] cpos) (tI X.K W (MI.of itemsD m)) := by
  refine PI.imp (pi_items he hbase hline) fun σ H Rk ⟨F, δ, s, R, E, h⟩ => ?_
  refine ⟨F, δ, s, R, E, m.mono (fun x s1 q => ?_) h⟩
  intro F1 H1 v R1 E1 d1
  obtain ⟨ds, e, q⟩ := OQ.ex q
  unfold itemsD at e
  split at e
  · cases e
    obtain ⟨hl, a, vs, o, rfl, h2, h3⟩ := isD_dct.mp d1
    exact ⟨a, o, _, rfl, fl_same (fun _ _ h => h) R1.sub h2, q F1 H1 _ R1 E1 (drv_items h2 h3 hl)⟩
  · cases e
/-! ranges -/
theorem drv_rng {lo : Int} {n : Nat} {F1 : Hp} : Drv K W (Itr lo n) ((List.range n).map fun i : Nat => D.int (lo + i)) F1 := by
  refine ⟨fun i s2 F2 H2 R2 X2 hi => (show i < n by simpa using hi), fun s2 F2 H2 R2 X2 => (show n ≤ _ by simp), fun i d s2 F2 H2 x H3 R2 X2 hd hy => ?_⟩
  obtain ⟨rfl, rfl⟩ := hy
  have hi : i < n := by
    have := List.getElem?_eq_some_iff.mp hd
    obtain ⟨h, _⟩ := this
    simpa using h
  rw [List.getElem?_map, List.getElem?_range hi] at hd
  cases hd
  exact ⟨F2, R2, .refl, isD_int.mpr rfl⟩
def rngD : List D → Option (List D)
  | [.int j] => if -4611686018427387904 ≤ j ∧ j < 4611686018427387904 then some ((List.range j.toNat).map fun i : Nat => D.int (0 + i)) else none
  | _ => none
def rngD2 : List D → Option (List D)
  | [.int i, .int j] => if (-4611686018427387904 ≤ i ∧ i < 4611686018427387904) ∧ (-4611686018427387904 ≤ j ∧ j < 4611686018427387904) then some ((List.range (j - i).toNat).map fun k : Nat => D.int (i + k)) else none
  | _ => none
def MI.ofA (f : List D → Option (List D)) (r : MA S) : MI S := ⟨fun δ s Q => r.run δ s fun d s1 => OQ (f d) fun ds => Q ds s1, fun h => r.mono fun _ _ => OQ.mono fun _ => h _ _⟩
theorem i_rng (hm : X.mg "range" = none) (ha : PA X [a] (tGA X.K W r)) (hg : Gl X "range" := by rfl) (hs : starEach [a] X.env = [(false, eval a X.env)] := by rfl) : PI X tg (.Call (.Name "range" p) [a] [] pos) (tI X.K W (MI.ofA rngD r)) := by
  refine PI.imp (pi_range1 hg hm ha hs) fun σ H Rk ⟨F, δ, s, R, E, h⟩ => ?_
  refine ⟨F, δ, s, R, E, r.mono (fun x s1 q => ?_) h⟩
  intro F1 H1 v R1 E1 d1
  obtain ⟨ds, e, q⟩ := OQ.ex q
  unfold rngD at e
  split at e
  · split at e
    · rename_i hj
      cases e
      obtain ⟨v, rfl, h1⟩ := one_d d1
      rw [isD_int] at h1; subst h1
      exact ⟨_, rfl, hj.1, hj.2, q F1 H1 _ R1 E1 drv_rng⟩
    · cases e
  · cases e
theorem i_rng2 (hm : X.mg "range" = none) (ha : PA X [a, b] (tGA X.K W r)) (hg : Gl X "range" := by rfl) (hs : starEach [a, b] X.env = [(false, eval a X.env), (false, eval b X.env)] := by rfl) (hs2 : starEach [b] X.env = [(false, eval b X.env)] := by rfl) : PI X tg (.Call (.Name "range" p) [a, b] [] pos) (tI X.K W (MI.ofA rngD2 r)) := by
  refine PI.imp (pi_range2 hg hm ha hs hs2) fun σ H Rk ⟨F, δ, s, R, E, h⟩ => ?_
  refine ⟨F, δ, s, R, E, r.mono (fun x s1 q => ?_) h⟩
  intro F1 H1 v R1 E1 d1
  obtain ⟨ds, e, q⟩ := OQ.ex q
  unfold rngD2 at e
  split at e
  · split at e
    · rename_i hj
      cases e
      obtain ⟨v, v', rfl, h1, h2⟩ := two_d d1
      rw [isD_int] at h1 h2; subst h1 h2
      exact ⟨_, _, rfl, ⟨hj.1.1, hj.1.2, hj.2.1, hj.2.2⟩, q F1 H1 _ R1 E1 drv_rng⟩
    · cases e
  · cases e
end
end G

set_option Elab.async false
set_option linter.all false
set_option maxRecDepth 100000
set_option maxHeartbeats 4000000
/-! a def's entry -/
namespace G
open PySem PySem.Spec PyProof.Rows L2
theorem cal_mk {S : Type} {P : Program} {w : World} {K : PySem.W.Frag} {mg : Str → Option Value} {base : Heap} {W : Wd S} {k : Nat} {x q qual : Str} {st : Stmt} {fa : Addr} {fd : FuncData} {N ps : List Str} {n : Nat} {f : MF S} {u : MS S}
    (F : Fun K q qual st fa fd) (hg : mg x = some (.ref fa)) (b : Binds K fd ps []) (Sc : FnScope N ps (defScope st)) (hn : ps.length = n)
    (hb : ∀ (cdv : Value) (A : Around) (outer : List Env) (s : Shared) (H : Hp) (E : XK), Room k (A.deeper (envOfC qual (defScope st) s.heap.objs.size fa cdv)) → PSs (cxOf CX0 P w K mg base N qual (defScope st) fa cdv A outer s H E).nox (defBody st) (tGS K W u))
    (h : ∀ ds s Q, ds.length = n → f.run ds s Q → u.run (ds.map some ++ List.replicate (N.length - n) none) s { nx := fun _ s' => Q .non s', rt := Q }) : Cal P w K mg base W (k + 1) x n f := by
  refine ⟨fa, fd, ps, F.ok Sc (fun vs H Q E hs => by rw [hn]; exact spG.len hs) (fun cdv A outer s H vs Q E hr hs => ⟨_, hb cdv A outer s H E hr, ?_⟩), hg, F.kp, b⟩
  obtain ⟨F1, s1, ds, R, hd, hl, hf⟩ := hs
  refine ⟨F1, ds.map some ++ List.replicate (N.length - n) none, s1, R, ⟨?_, ?_⟩, u.mono ⟨?_, ?_, ?_, ?_⟩ (h ds s1 _ hl hf)⟩
  · unfold L2.start
    rw [List.length_append, List.length_append, List.length_map, List.length_map, List.length_replicate, List.length_replicate, hd.length, hl]
  · intro i d e
    by_cases hi : i < ds.length
    · rw [List.getElem?_append_left (by simpa using hi), List.getElem?_map] at e
      cases ed : ds[i]? with
      | none => rw [ed] at e; cases e
      | some d' =>
        rw [ed] at e
        cases e
        obtain ⟨v, h1, h2⟩ := hd.get ed
        refine ⟨v, ?_, h2⟩
        unfold L2.start
        rw [List.getElem?_append_left (by rw [List.length_map, hd.length]; exact hi), List.getElem?_map, h1]; rfl
    · rw [List.getElem?_append_right (by simpa using hi), List.getElem?_replicate] at e
      split at e <;> cases e
  · intro δ' s' q F2 H2 σ R2 E2 e2
    exact q F2 H2 .non R2 E2 (isD_non.mpr rfl)
  · intro d s' q F2 H2 v R2 E2 d2
    exact q F2 H2 v R2 E2 d2
  · intro δ s q
    exact q.elim
  · intro δ s q
    exact q.elim

/-! ### zip of a text and a tuple, of two tuples -/
/-- x's signs beside the tuple at b -/
def ItzS (K : PySem.W.Frag) (x : Str) (b : Addr) : It :=
  ⟨fun i H => ∃ (ys : List V) (y : V), SqT K H b ys ∧ i < x.cps.size ∧ ys[i]? = some y,
    fun i H v H' => ∃ T c y, v = .ref T ∧ H T = none ∧ H' = upd H T (.tup [.str ⟨#[c]⟩, y]) ∧ x.cps[i]? = some c ∧ ∀ ys, SqT K H b ys → ys[i]? = some y,
    fun i H => ∃ ys : List V, SqT K H b ys ∧ i ≤ x.cps.size ∧ i ≤ ys.length ∧ (i = x.cps.size ∨ i = ys.length)⟩
theorem turn_zipS {P : Program} {w : World} {K : PySem.W.Frag} {elts : List Expr} {kk : Nat} {tpos : Pos} {b z TI TO i1 i2 : Addr} (x : Str) (t : Tok) (D : ZipSep2 z TI TO i1 i2 [i1] [i2, b]) (hb : b ≠ i2) :
    Turn P w K (.Tuple elts kk tpos) (ItzS K x b) [z, TI, TO, i1, i2] z (fun i h => IsZip h z TI TO .none ∧ IsTupOf2 h TI (.ref i1) (.ref i2) ∧ (∃ a c, IsTupOf2 h TO a c) ∧ h.IsStrIter i1 (strIterType x) x t i ∧ h.IsTupleIter i2 b i) where
  mem := by simp
  obj := fun i h st c hc => by
    obtain ⟨hz, hTI, ⟨x', y', hTO⟩, ⟨o1, e1, _, d1⟩, ⟨o2, e2, _, d2⟩⟩ := st
    have e' : c = z ∨ c = TI ∨ c = TO ∨ c = i1 ∨ c = i2 := by simpa using hc
    rcases e' with q | q | q | q | q
    · rw [q]; exact ⟨_, hz, fun v q => nomatch q⟩
    · rw [q]; exact ⟨_, hTI, fun v q => nomatch q⟩
    · rw [q]; exact ⟨_, hTO, fun v q => nomatch q⟩
    · rw [q]; exact ⟨o1, e1, fun v q => by rw [d1] at q; cases q⟩
    · rw [q]; exact ⟨o2, e2, fun v q => by rw [d2] at q; cases q⟩
  keep := fun i h h' st k => by
    obtain ⟨hz, hTI, ⟨x', y', hTO⟩, ⟨o1, e1, r1⟩, h2⟩ := st
    exact ⟨k z (by simp) _ hz, k TI (by simp) _ hTI, ⟨x', y', k TO (by simp) _ hTO⟩, ⟨o1, k i1 (by simp) _ e1, r1⟩, h2.at fun o q => k i2 (by simp) o q⟩
  item := by
    intro X hP hw hK hc i pins s σ H E I hf st hg
    subst hP hw hK
    obtain ⟨hz, hTI, ⟨x0, y0, hTO⟩, h1, h2⟩ := st
    obtain ⟨ys, y, hqy, hx, hy⟩ := hg
    obtain ⟨its2, rv2, p2, _⟩ := I.tuple hqy
    obtain ⟨u2, hu2, ru2⟩ := rv2.get hy
    have hzl : z < s.heap.objs.size := Heap.lt_size hz
    have hlen : i < its2.toArray.size := by
      have := List.getElem?_eq_some_iff.mp hu2
      obtain ⟨q, _⟩ := this
      simpa using q
    have D1 := Draws.text (prog := X.prog) (w := X.w) (A := X.A.in1) (I.ok.hd hc) i1 x t
    have D2 := Draws.tuple (prog := X.prog) (w := X.w) (A := X.A.in1) (I.ok.hd hc) i2 b hb its2.toArray
    refine wpAny_pyNext_zipD2_item D D1 D2 hz hTI hTO h1 ⟨h2, p2⟩ hx hlen fun u w2 h' tk hu hw z' TO' h1' h2' hT hsz hk => ?_
    obtain ⟨c, tc, hc1, rfl⟩ := hu
    have e2 : w2 = u2 := by
      rw [show its2.toArray[i]? = its2[i]? by simp] at hw
      rw [hu2] at hw; exact (Option.some.inj hw).symm
    subst e2
    refine ⟨_, rfl, wpAny_letOwnedTupleGo_zip (s := { s with heap := h', toks := tk }) z' fun h'' z'' sb => ?_⟩
    have hT2 : h''.get? s.heap.objs.size = some { cls := .type "tuple", data := .seq #[.str ⟨#[c]⟩ tc, w2] } := (sb.2 _ (Nat.ne_of_gt hzl)).trans hT
    have new : ObjOk X.prog X.w (upd H s.heap.objs.size (.tup [.str ⟨#[c]⟩, y])) h'' s.heap.objs.size (.tup [.str ⟨#[c]⟩, y]) :=
      ⟨by show 2 ≤ sizeLine; decide, [.str ⟨#[c]⟩ tc, w2], .cons ⟨_, rfl⟩ (.cons ru2 .nil), ⟨_, hT2, rfl, _, rfl⟩⟩
    have I1 : Inv X pins σ (upd H s.heap.objs.size (.tup [.str ⟨#[c]⟩, y])) { s with heap := h'', toks := tk } :=
      I.turnedNew (t' := tk) (ch := [z, TI, TO, i1, i2]) (fun c o hb q => (sb.2 c (fun q' => hb (by simp [q']))).trans (hk c o (fun q' => hb (by simp [q'])) (fun q' => hb (by simp [q'])) (fun q' => hb (by simp [q'])) (fun q' => hb (by simp [q'])) q)) hf (Nat.le_refl _) new
    refine ⟨.ref s.heap.objs.size, _, I1, rfl, ⟨_, c, y, rfl, I.hok.fresh (Nat.le_refl _), rfl, hc1, fun l hl => by rw [I.tuple_inj hl hqy]; exact hy⟩, ⟨z'', ?_, ⟨.str ⟨#[c]⟩ tc, w2, ?_⟩, ?_, ?_⟩, fun c hcm => ?_⟩
    · exact (sb.2 _ D.TIz).trans (hk _ _ D.TIz D.TITO D.TIi1 D.TIi2 hTI)
    · exact (sb.2 _ D.TOz).trans TO'
    · obtain ⟨o1, e1, r1⟩ := h1'
      exact ⟨o1, (sb.2 _ D.zi1.symm).trans e1, r1⟩
    · exact h2'.1.at fun o q => (sb.2 _ D.zi2.symm).trans q
    · have hlt : c < s.heap.objs.size := by
        have e' : c = z ∨ c = TI ∨ c = TO ∨ c = i1 ∨ c = i2 := by simpa using hcm
        rcases e' with q | q | q | q | q
        · rw [q]; exact hzl
        · rw [q]; exact Heap.lt_size hTI
        · rw [q]; exact Heap.lt_size hTO
        · rw [q]; obtain ⟨_, e1, _⟩ := h1; exact Heap.lt_size e1
        · rw [q]; obtain ⟨_, e2, _⟩ := h2; exact Heap.lt_size e2
      rw [upd_ne (Nat.ne_of_lt hlt)]
      exact (hf c hcm).1
  done := by
    intro X hP hw hK hc i pins s σ H E I hf st hg
    subst hP hw hK
    obtain ⟨hz, hTI, ⟨x0, y0, hTO⟩, h1, h2⟩ := st
    obtain ⟨ys, hqy, hi1, hi2, hend⟩ := hg
    obtain ⟨its2, rv2, p2, _⟩ := I.tuple hqy
    have l2 := rv2.length
    have D1 := Draws.text (prog := X.prog) (w := X.w) (A := X.A.in1) (I.ok.hd hc) i1 x t
    have D2 := Draws.tuple (prog := X.prog) (w := X.w) (A := X.A.in1) (I.ok.hd hc) i2 b hb its2.toArray
    exact wpAny_pyNext_zipD2_end D D1 D2 hz hTI hTO h1 ⟨h2, p2⟩ hi1 (by simp; omega) (by simp; omega) fun h' tk hk => ⟨rfl, I.turnedL (t' := tk) (ch := [z, TI, TO, i1, i2]) (fun c o hb q =>
      hk c o (fun q' => hb (by simp [q'])) (fun q' => hb (by simp [q'])) (fun q' => hb (by simp [q'])) (fun q' => hb (by simp [q'])) q) hf⟩
  self := fun A i s Q E st h => wpAny_pyIter_zip st.1 h
def iZipB (K : PySem.W.Frag) (ta : TA) : TI := fun σ H R => ta σ H fun vs H1 => (∃ x b ys, vs = [.str x, .ref b] ∧ SqT K H1 b ys ∧ R (ItzS K x b) H1) ∨ ∃ a b xs ys, vs = [.ref a, .ref b] ∧ SqT K H1 a xs ∧ SqT K H1 b ys ∧ R (RZ.ItzT K a b) H1
theorem pi_zipB {X : Cx} {e e2 : Expr} {ta : TA} {p pos tpos : Pos} {elts : List Expr} {kk : Nat} (hg : Gl X "zip") (hm : X.mg "zip" = none) (ha : PA X [e, e2] ta)
    (hs : starEach [e, e2] X.env = (false, eval e X.env) :: starEach [e2] X.env := by rfl) (hpl : (backTo pos (starEach [e2] X.env)).any (·.1) = false := by rfl) :
    PI X (.Tuple elts kk tpos) (.Call (.Name "zip" p) [e, e2] [] pos) (iZipB X.K ta) := by
  refine ⟨fun pins s σ H R I h => ?_⟩
  refine Call_ (ld_blt I hg hm PyProof.Rows.boot_zip (PyProof.Rows.callWith_type1 (thn (ha.run pos pins s σ H _ I h) fun us s1 ⟨vs, H1, I1, r1, q1⟩ => ?_) hs hpl))
  have fresh5 : ∀ c, c ∈ [s1.heap.objs.size + 4, s1.heap.objs.size + 2, s1.heap.objs.size + 3, s1.heap.objs.size, s1.heap.objs.size + 1] → FpOk X pins H1 c := fun c hcm => by
    have e' : c = s1.heap.objs.size + 4 ∨ c = s1.heap.objs.size + 2 ∨ c = s1.heap.objs.size + 3 ∨ c = s1.heap.objs.size ∨ c = s1.heap.objs.size + 1 := by simpa using hcm
    have hle : s1.heap.objs.size ≤ c := by
      rcases e' with z | z | z | z | z
      · rw [z]; exact Nat.le_add_right _ _
      · rw [z]; exact Nat.le_add_right _ _
      · rw [z]; exact Nat.le_add_right _ _
      · rw [z]; exact Nat.le_refl _
      · rw [z]; exact Nat.le_add_right _ _
    exact I1.fpOk hle (I1.hok.fresh hle)
  rcases q1 with ⟨x, b, ys, ex, hqy, q⟩ | ⟨a, b, xs, ys, ex, hqx, hqy, q⟩
  · subst ex
    cases r1 with
    | cons r rr =>
      cases rr with
      | cons r' rr =>
        cases rr
        obtain ⟨t, rfl⟩ := r
        cases r'
        obtain ⟨its2, rv2, p2, _⟩ := I1.tuple hqy
        obtain ⟨o2, ho2, _⟩ := id p2
        have lb : b < s1.heap.objs.size := Heap.lt_size ho2
        refine zip_begins2 (begins_text x t) (begins_tuple b its2.toArray) trivial p2 fun h' hz hTI hTO h1 h2 hsz hk => wpAny_pyIter_zip hz ?_
        have I2 : Inv X pins σ H1 { s1 with heap := h' } := I1.kept (t' := s1.toks) hk
        refine ⟨s1.heap.objs.size + 4, [s1.heap.objs.size + 4, s1.heap.objs.size + 2, s1.heap.objs.size + 3, s1.heap.objs.size, s1.heap.objs.size + 1], _, _, H1, rfl, I2,
          turn_zipS x t (zip_sep2 (N := s1.heap.objs.size) (fp1 := []) (fp2 := [b]) (by simp) (by simpa using lb)) (fun e => absurd lb (by rw [e]; exact Nat.not_lt.mpr (Nat.le_succ _))), ⟨hz, hTI, ⟨_, _, hTO⟩, ⟨_, h1, rfl, rfl⟩, ⟨_, h2, rfl, rfl⟩⟩, fresh5, q⟩
  · subst ex
    cases r1 with
    | cons r rr =>
      cases rr with
      | cons r' rr =>
        cases rr
        cases r
        cases r'
        obtain ⟨its, rv, p1, _⟩ := I1.tuple hqx
        obtain ⟨its2, rv2, p2, _⟩ := I1.tuple hqy
        obtain ⟨o1, ho1, _⟩ := id p1
        obtain ⟨o2, ho2, _⟩ := id p2
        refine RZ.call_zipT (show s1.heap.IsTuple a its.toArray from p1) (show s1.heap.IsTuple b its2.toArray from p2) fun h' hz hTI hTO h1 h2 hsz hk => wpAny_pyIter_zip hz ?_
        have I2 : Inv X pins σ H1 { s1 with heap := h' } := I1.kept (t' := s1.toks) hk
        exact ⟨s1.heap.objs.size + 4, [s1.heap.objs.size + 4, s1.heap.objs.size + 2, s1.heap.objs.size + 3, s1.heap.objs.size, s1.heap.objs.size + 1], _, _, H1, rfl, I2, RZ.turn_zipT (PySem.W.ktu_apart s1.heap.objs.size a b (Heap.lt_size ho1) (Heap.lt_size ho2)), ⟨hz, hTI, ⟨_, _, hTO⟩, h1, h2⟩, fresh5, q⟩
section
variable {S : Type} {W : Wd S} {X : Cx} {a b c e : Expr} {es : List Expr} {pos p tpos : Pos} {K : PySem.W.Frag} {r : MA S}
def pairD (ab : D × D) : D := .tup [ab.1, ab.2]
def zipD : List D → Option (List D)
  | [.str z, .tup ds] => some (((signD z).zip ds).map pairD)
  | [.tup es, .tup ds] => some ((es.zip ds).map pairD)
  | _ => none
theorem drv_zipS {ds : List D} {vs : List V} {z : Str} {b : Addr} {F1 : Hp} (h1 : SqT K F1 b vs) (h2 : IsDs K F1 ds vs) : Drv K W (ItzS K z b) (((signD z).zip ds).map pairD) F1 := by
  have hl : (((signD z).zip ds).map pairD).length = min z.cps.size ds.length := by simp [signD]
  refine ⟨fun i s2 F2 H2 R2 X2 hi => ?_, fun s2 F2 H2 R2 X2 => ⟨vs, SqT.sub R2.sub (SqT.same X2 h1), ?_⟩, fun i d s2 F2 H2 x H3 R2 X2 hd hy => ?_⟩
  · rw [hl] at hi
    exact ⟨vs, vs[i]'(by rw [h2.length]; omega), SqT.sub R2.sub (SqT.same X2 h1), by omega, by simp⟩
  · rw [hl, h2.length]; omega
  · obtain ⟨T, c, y, rfl, hT, rfl, hc, hy⟩ := hy
    rw [List.getElem?_map] at hd
    cases hj : ((signD z).zip ds)[i]? with
    | none => rw [hj] at hd; cases hd
    | some ab =>
      obtain ⟨a', b'⟩ := ab
      rw [hj] at hd
      rw [List.getElem?_zip_eq_some] at hj
      cases hd
      have ea : a' = .str ⟨#[c]⟩ := by
        have := hj.1
        unfold signD at this
        rw [List.getElem?_map, Array.getElem?_toList, hc] at this
        exact (Option.some.inj this).symm
      subst ea
      obtain ⟨v', e, dv⟩ := h2.get hj.2
      have ev := hy vs (SqT.sub R2.sub (SqT.same X2 h1))
      rw [e] at ev
      cases ev
      refine ⟨upd F2 T _, R2.laid hT, Ext.laid R2 hT, isD_tup.mpr ⟨pair_len, T, _, rfl, SqT.of upd_same, ?_⟩⟩
      exact .cons (isD_str.mpr rfl) (.one ((dv.same X2).same (Same.upd (R2.sub.none hT))))
theorem drv_zipT {es ds : List D} {us vs : List V} {a b : Addr} {F1 : Hp} (h1 : SqT K F1 a us) (h2 : IsDs K F1 es us) (h1' : SqT K F1 b vs) (h2' : IsDs K F1 ds vs) : Drv K W (RZ.ItzT K a b) ((es.zip ds).map pairD) F1 := by
  have hl : ((es.zip ds).map pairD).length = min es.length ds.length := by simp
  refine ⟨fun i s2 F2 H2 R2 X2 hi => ?_, fun s2 F2 H2 R2 X2 => ⟨us, vs, SqT.sub R2.sub (SqT.same X2 h1), SqT.sub R2.sub (SqT.same X2 h1'), ?_⟩, fun i d s2 F2 H2 x H3 R2 X2 hd hy => ?_⟩
  · rw [hl] at hi
    exact ⟨us, vs, us[i]'(by rw [h2.length]; omega), vs[i]'(by rw [h2'.length]; omega), SqT.sub R2.sub (SqT.same X2 h1), SqT.sub R2.sub (SqT.same X2 h1'), by simp, by simp⟩
  · rw [hl, h2.length, h2'.length]; omega
  · obtain ⟨T, x', y, rfl, hT, rfl, hx, hy⟩ := hy
    rw [List.getElem?_map] at hd
    cases hj : (es.zip ds)[i]? with
    | none => rw [hj] at hd; cases hd
    | some ab =>
      obtain ⟨a', b'⟩ := ab
      rw [hj] at hd
      rw [List.getElem?_zip_eq_some] at hj
      cases hd
      obtain ⟨v1, e1, dv1⟩ := h2.get hj.1
      obtain ⟨v2, e2, dv2⟩ := h2'.get hj.2
      have ex := hx us (SqT.sub R2.sub (SqT.same X2 h1))
      have ey := hy vs (SqT.sub R2.sub (SqT.same X2 h1'))
      rw [e1] at ex
      rw [e2] at ey
      cases ex
      cases ey
      refine ⟨upd F2 T _, R2.laid hT, Ext.laid R2 hT, isD_tup.mpr ⟨pair_len, T, _, rfl, SqT.of upd_same, ?_⟩⟩
      exact .cons ((dv1.same X2).same (Same.upd (R2.sub.none hT))) (.one ((dv2.same X2).same (Same.upd (R2.sub.none hT))))
theorem i_zip {elts : List Expr} {kk : Nat} (hm : X.mg "zip" = none) (ha : PA X [a, b] (tGA X.K W r)) (hg : Gl X "zip" := by rfl) (hs : starEach [a, b] X.env = (false, eval a X.env) :: starEach [b] X.env := by rfl) (hpl : (backTo pos (starEach [b] X.env)).any (·.1) = false := by rfl) :
    PI X (.Tuple elts kk tpos) (.Call (.Name "zip" p) [a, b] [] pos) (tI X.K W (MI.ofA zipD r)) := by
  refine PI.imp (pi_zipB hg hm ha hs hpl) fun σ H Rk ⟨F, δ, s, R, E, h⟩ => ?_
  refine ⟨F, δ, s, R, E, r.mono (fun x s1 q => ?_) h⟩
  intro F1 H1 v R1 E1 d1
  obtain ⟨ds, e, q⟩ := OQ.ex q
  unfold zipD at e
  split at e
  · cases e
    obtain ⟨v, v', rfl, h1, h2⟩ := two_d d1
    rw [isD_str] at h1; subst h1
    obtain ⟨_, l, vs, rfl, h3, h4⟩ := isD_tup.mp h2
    exact .inl ⟨_, l, vs, rfl, SqT.sub R1.sub h3, q F1 H1 _ R1 E1 (drv_zipS h3 h4)⟩
  · cases e
    obtain ⟨v, v', rfl, h1, h2⟩ := two_d d1
    obtain ⟨_, l, vs, rfl, h3, h4⟩ := isD_tup.mp h1
    obtain ⟨_, l', vs', rfl, h3', h4'⟩ := isD_tup.mp h2
    exact .inr ⟨l, l', vs, vs', rfl, SqT.sub R1.sub h3, SqT.sub R1.sub h3', q F1 H1 _ R1 E1 (drv_zipT h3 h4 h3' h4')⟩
  · cases e
end
end G

set_option Elab.async false
set_option linter.all false
set_option maxRecDepth 100000
set_option maxHeartbeats 4000000
/-! two fors in a comprehension; dicts; sorted; calls of what a name holds -/
namespace G
open PySem PySem.Spec PyProof.Rows L2
section
variable {S : Type}
def lc2Run (t : Tgt) (tt : MT S) (i1 : MI S) (t1 : Tgt) (tt1 : MT S) (te : ME S) (vs1 : List Nat) (δ : En) : Nat → List D → S → (List D → S → Prop) → Prop
  | _, [], s, k => k [] s
  | n, d :: ds, s, k => OQ (setT t d δ) fun δ1 => tt.run δ1 s fun b s1 => if b = true then i1.run δ1 s1 fun items s2 => n + items.length ≤ big ∧ lcRun t1 tt1 te (wipeD δ1 vs1) items s2 fun r s3 => lc2Run t tt i1 t1 tt1 te vs1 δ (n + r.length) ds s3 fun r' s4 => k (r ++ r') s4 else lc2Run t tt i1 t1 tt1 te vs1 δ n ds s1 k
theorem lc2Run_mono {t : Tgt} {tt : MT S} {i1 : MI S} {t1 : Tgt} {tt1 : MT S} {te : ME S} {vs1 : List Nat} {δ : En} : ∀ (ds : List D) (n : Nat) (s : S) (k k' : List D → S → Prop), (∀ r s, k r s → k' r s) → lc2Run t tt i1 t1 tt1 te vs1 δ n ds s k → lc2Run t tt i1 t1 tt1 te vs1 δ n ds s k'
  | [], _, _, _, _, h, q => h _ _ q
  | d :: ds, n, _, _, _, h, q => OQ.mono (fun _ q => tt.mono (fun b s1 q => by
    cases b with
    | true => exact iteT (i1.mono (fun items s2 => And.imp_right (lcRun_mono _ _ _ _ (fun r s3 q => lc2Run_mono ds _ _ _ _ (fun _ _ => h _ _) q))) (by simpa using q))
    | false => exact iteF (lc2Run_mono ds n _ _ _ h (by simpa using q))) q) q
def ME.lc2 (vs : List Nat) (i : MI S) (t : Tgt) (tt : MT S) (vs1 : List Nat) (i1 : MI S) (t1 : Tgt) (tt1 : MT S) (te : ME S) : ME S := ⟨fun δ s Q => i.run δ s fun items s1 => lc2Run t tt i1 t1 tt1 te vs1 (wipeD δ vs) 0 items s1 fun r s2 => r.length ≤ big ∧ Q (.lst r) s2, fun h => i.mono fun _ _ q => lc2Run_mono _ _ _ _ _ (fun _ _ q => ⟨q.1, h _ _ q.2⟩) q⟩
end
section
variable {S : Type} {W : Wd S} {X : Cx} {a b c e : Expr} {es : List Expr} {pos p : Pos} {K : PySem.W.Frag} {ma mb mc m : ME S} {r : MA S} {x : Str}
theorem lc2_run {i i1 : MI S} {t t1 : Tgt} {tt tt1 : MT S} {te : ME S} {vs vs1 : List Nat} (hv : inT vs t = true) (hv1 : inT vs1 t1 = true) {σ : L2.St} {H : Hp} {Q : VK} (h : tG K W (ME.lc2 vs i t tt vs1 i1 t1 tt1 te) σ H Q) :
    tLc2 (tI K W i) (gT K t) (tGT K W tt) (tI K W i1) (gT K t1) (tGT K W tt1) (tG K W te) vs vs1 σ H Q := by
  obtain ⟨F, δ, s, R, E, h⟩ := h
  refine ⟨F, δ, s, R, E, i.mono (fun items s1 q => ?_) h⟩
  intro F1 H1 J R1 E1 dv Dd hD
  obtain ⟨R2, X2, hF, hw⟩ := lc_new R1 hD
  let In : Nat → Hp → Prop := fun j H => ∃ F s acc vs', Rel W s F H ∧ Ext W s1 s F1 H1 F H ∧ F Dd = none ∧ ¬ W.fp s Dd ∧ H Dd = some (.lst vs') ∧ IsDs K F acc vs' ∧
    lc2Run t tt i1 t1 tt1 te vs1 (wipeD δ vs) acc.length (items.drop j) s fun r s4 => (acc ++ r).length ≤ big ∧ aft W (IsD K) Q F1 H1 s1 (.lst (acc ++ r)) s4
  refine ⟨fun i n H => n = items.length - i ∧ i ≤ items.length ∧ In i H, ⟨items.length, by simp, Nat.zero_le _, F1, s1, [], [], R2, X2, hF, hw, upd_same, .nil, ?_⟩, ?_⟩
  · refine lc2Run_mono _ _ _ _ _ (fun r s4 q => ?_) q
    exact ⟨q.1, aft.ext E1 q.2⟩
  have E' := (E.same E1.same).wipe vs
  rintro j n H ⟨rfl, hi, F, s, acc, vs', R, X0, hFD, hw, hH, hds, q⟩
  by_cases hlt : j < items.length
  · have hdrop : items.drop j = items[j] :: items.drop (j + 1) := List.drop_eq_getElem_cons hlt
    rw [hdrop] at q
    refine .inr ⟨dv.go j s F H R X0.same hlt, In (j + 1), fun H' h => ⟨items.length - (j + 1), by omega, rfl, hlt, h⟩, ?_⟩
    intro xv H3 hy
    obtain ⟨F3, R3, X3, d3⟩ := dv.yld j items[j] s F H xv H3 R X0.same (by simp [hlt]) hy
    obtain ⟨δ1, e1, q1⟩ := OQ.ex q
    refine gT_run R3.sub t items[j] xv _ δ1 _ _ d3 ((E'.same X0.same).same X3.same) e1 fun σ4 h4 h5 => ⟨?_, ?_⟩
    · rw [h5 vs hv]
      exact wipe_idem vs vs _ fun _ h => h
    refine ⟨F3, δ1, s, R3, h4, tt.mono (fun bb s5 q5 => ?_) q1⟩
    intro F5 H5 b5 R5 X5 e5
    subst e5
    have xx5 := (X0.trans X3).trans X5
    have alive3 : H3 Dd = some (.lst vs') := X3.kept _ _ hH hw
    have f3 : F3 Dd = none := X3.fresh Dd (by rw [hH]; simp) hFD
    have alive5 : H5 Dd = some (.lst vs') := X5.kept _ _ alive3 hw
    have f5 : F5 Dd = none := X5.fresh Dd (by rw [alive3]; simp) f3
    have w5 : ¬ W.fp s5 Dd := fun z => (X5.grow Dd z).elim hw fun z => by rw [alive3] at z; cases z
    have hds5 := (hds.same X3.same).same X5.same
    cases bb with
    | false => exact iteF ⟨F5, s5, acc, vs', R5, xx5, f5, w5, alive5, hds5, by simpa using q5⟩
    | true =>
      refine iteT ⟨F5, δ1, s5, R5, h4.same X5.same, i1.mono (fun items1 s6 q6 => ?_) (by simpa using q5)⟩
      intro F6 H6 J1 R6 X6 dv1
      have alive6 : H6 Dd = some (.lst vs') := X6.kept _ _ alive5 w5
      have f6 : F6 Dd = none := X6.fresh Dd (by rw [alive5]; simp) f5
      have w6 : ¬ W.fp s6 Dd := fun z => (X6.grow Dd z).elim w5 fun z => by rw [alive5] at z; cases z
      refine lc_core (Nx := In (j + 1)) (acc0 := acc) hD dv1 R6 (xx5.trans X6) (((h4.same X5.same).same X6.same).wipe vs1) hv1 f6 w6 alive6 (hds5.same X6.same) q6.1 q6.2 ?_
      intro ds s' F' H' vs'' q' R' X' sm f' w' h' d' hl
      refine ⟨F', s', acc ++ ds, vs'', R', X', f', w', h', d', ?_⟩
      rw [show (acc ++ ds).length = acc.length + ds.length from List.length_append]
      refine lc2Run_mono _ _ _ _ _ (fun r s4 q => ?_) q'
      rw [List.append_assoc]
      exact ⟨by simpa using q.1, q.2⟩
  · have e : j = items.length := by omega
    subst e
    refine .inl ⟨dv.stop s F H R X0.same, ?_⟩
    rw [List.drop_length] at q
    have q' : (acc ++ []).length ≤ big ∧ aft W (IsD K) Q F1 H1 s1 (.lst (acc ++ [])) s := q
    rw [List.append_nil] at q'
    obtain ⟨R3, X3, d3⟩ := lc_fin hD R X0 hFD hw hH hds q'.1
    exact q'.2 _ H _ R3 X3 d3
variable {tg iter elt tg1 iter1 : Expr} {ifs ifs1 : List Expr} {scope : Scope} {i i1 : MI S} {t t1 : Tgt} {tt tt1 : MT S} {te : ME S}
theorem g_lc2 (own own1 : List (Str × Nat)) (hc : X.calm = true) (hN : X.N.Nodup) (hi : PI X tg iter (tI X.K W i)) (ok : BlkOk X.N X.env.scope scope own) (hvs : ∀ i ∈ own1.map (·.2), i ∈ own.map (·.2))
    (hg : ∀ (s : Shared) (H : Hp) (C : Addr) (cl : List (Str × Addr)) (fp : List Addr), PG (X.blk s H scope (compEnvC scope cl C X.env) fp) tg (gT X.K t)) (ht : ∀ (s : Shared) (H : Hp) (C : Addr) (cl : List (Str × Addr)) (fp : List Addr), PTs (X.blk s H scope (compEnvC scope cl C X.env) fp) ifs (tGT X.K W tt))
    (hi1 : ∀ (s : Shared) (H : Hp) (C : Addr) (cl : List (Str × Addr)) (fp : List Addr), PI (X.blk s H scope (compEnvC scope cl C X.env) fp) tg1 iter1 (tI X.K W i1))
    (hg1 : ∀ (s : Shared) (H : Hp) (C : Addr) (cl : List (Str × Addr)) (fp : List Addr), PG (X.blk s H scope (compEnvC scope cl C X.env) fp) tg1 (gT X.K t1)) (ht1 : ∀ (s : Shared) (H : Hp) (C : Addr) (cl : List (Str × Addr)) (fp : List Addr), PTs (X.blk s H scope (compEnvC scope cl C X.env) fp) ifs1 (tGT X.K W tt1))
    (he : ∀ (s : Shared) (H : Hp) (C : Addr) (cl : List (Str × Addr)) (fp : List Addr), PE (X.blk s H scope (compEnvC scope cl C X.env) fp) elt (tG X.K W te)) (hv : inT (own.map (·.2)) t = true := by rfl) (hv1 : inT (own1.map (·.2)) t1 = true := by rfl) (hs : ∀ x, foldedSetIterable iter X.env x = pure x := by intro _; rfl) (hs1 : ∀ env x, foldedSetIterable iter1 env x = pure x := by intro _ _; rfl) :
    PE X (.ListComp elt [⟨tg, iter, ifs, 0⟩, ⟨tg1, iter1, ifs1, 0⟩] scope pos) (tG X.K W (ME.lc2 (own.map (·.2)) i t tt (own1.map (·.2)) i1 t1 tt1 te)) :=
  PE.imp (pe_lc2 hc hN hi ok hvs hg ht hi1 hg1 ht1 he hs hs1) fun σ H Q h => lc2_run hv hv1 h
theorem s_setLc2 (own own1 : List (Str × Nat)) {l : Nat} {y : Str} {py spos : Pos} (hc : X.calm = true) (hN : X.N.Nodup) (hi : PI X tg iter (tI X.K W i)) (ok : BlkOk X.N X.env.scope scope own) (hvs : ∀ i ∈ own1.map (·.2), i ∈ own.map (·.2))
    (hg : ∀ (s : Shared) (H : Hp) (C : Addr) (cl : List (Str × Addr)) (fp : List Addr), PG (X.blk s H scope (compEnvC scope cl C X.env) fp) tg (gT X.K t)) (ht : ∀ (s : Shared) (H : Hp) (C : Addr) (cl : List (Str × Addr)) (fp : List Addr), PTs (X.blk s H scope (compEnvC scope cl C X.env) fp) ifs (tGT X.K W tt))
    (hi1 : ∀ (s : Shared) (H : Hp) (C : Addr) (cl : List (Str × Addr)) (fp : List Addr), PI (X.blk s H scope (compEnvC scope cl C X.env) fp) tg1 iter1 (tI X.K W i1))
    (hg1 : ∀ (s : Shared) (H : Hp) (C : Addr) (cl : List (Str × Addr)) (fp : List Addr), PG (X.blk s H scope (compEnvC scope cl C X.env) fp) tg1 (gT X.K t1)) (ht1 : ∀ (s : Shared) (H : Hp) (C : Addr) (cl : List (Str × Addr)) (fp : List Addr), PTs (X.blk s H scope (compEnvC scope cl C X.env) fp) ifs1 (tGT X.K W tt1))
    (he : ∀ (s : Shared) (H : Hp) (C : Addr) (cl : List (Str × Addr)) (fp : List Addr), PE (X.blk s H scope (compEnvC scope cl C X.env) fp) elt (tG X.K W te)) (hsw : swapsWith (.ListComp elt [⟨tg, iter, ifs, 0⟩, ⟨tg1, iter1, ifs1, 0⟩] scope pos) (some (.Name y py)) spos.line X.env = pure true)
    (hv : inT (own.map (·.2)) t = true := by rfl) (hv1 : inT (own1.map (·.2)) t1 = true := by rfl) (hy : X.N[l]? = some y := by rfl) (hyl : X.env.scope.names.lookup y = some .local := by rfl) (hs : ∀ x, foldedSetIterable iter X.env x = pure x := by intro _; rfl) (hs1 : ∀ env x, foldedSetIterable iter1 env x = pure x := by intro _ _; rfl) :
    PS X (.Assign [.Name y py] (.ListComp elt [⟨tg, iter, ifs, 0⟩, ⟨tg1, iter1, ifs1, 0⟩] scope pos) spos) (tGS X.K W (MS.set l (ME.lc2 (own.map (·.2)) i t tt (own1.map (·.2)) i1 t1 tt1 te))) := by
  refine PS.imp (ps_setLc2 (i := l) hc hN hy hyl hsw hi ok hvs hg ht hi1 hg1 ht1 he hs hs1) fun Dn σ H ⟨F, δ, s, R, E, h⟩ => ?_
  refine lc2_run hv hv1 ⟨F, δ, s, R, E, ME.mono _ (fun d s1 q => ?_) (show (ME.lc2 (own.map (·.2)) i t tt (own1.map (·.2)) i1 t1 tt1 te).run δ s (fun d s1 => (lift X.K W Dn F H s).nx (δ.set l (some d)) s1) from h)⟩
  intro F1 H1 v1 R1 E1 d1
  exact q F1 H1 _ R1 E1 ((E.same E1.same).set d1)

/-! ### a dict is locked as soon as it is made -/
def tLk (t : TE) : TE := fun σ H Q => t σ H fun v H' => ∃ p kvs, v = .ref p ∧ H' p = some (.dK kvs) ∧ ∀ od, Q v (upd H' p (.frz od (.dK kvs)))
theorem pe_lk {t : TE} (h : PE X e t) : PE X e (tLk t) := by
  refine ⟨fun pins s σ H Q I hw => ?_⟩
  refine thn (h.run pins s σ H _ I hw) fun v s1 ⟨x, H1, I1, r, p, kvs, ex, hd, q⟩ => ?_
  obtain ⟨od, I2⟩ := I1.lock hd trivial
  exact ⟨x, _, I2, r, q od⟩
theorem zip_fs : ∀ kvs : List (Key × V), (kvs.map (·.1)).zip (kvs.map (·.2)) = kvs
  | [] => rfl
  | kv :: kvs => by rw [List.map_cons, List.map_cons, List.zip_cons_cons, zip_fs kvs]
/-- a dict just made, in hand -/
theorem lk_fin {s0 s : S} {F0 H0 F H : Hp} {Dd : Addr} {kvs : List (Key × V)} {ks : List Key} {ds : List D} {od : Obj} (hD : H0 Dd = none) (R : Rel W s F H) (X0 : Ext W s0 s F0 H0 F H) (hFD : F Dd = none) (hw : ¬ W.fp s Dd) (hk : kvs.map (·.1) = ks) (hds : IsDs K F ds (kvs.map (·.2))) :
    Rel W s (upd F Dd (.frz od (.dK kvs))) (upd H Dd (.frz od (.dK kvs))) ∧ Ext W s0 s F0 H0 (upd F Dd (.frz od (.dK kvs))) (upd H Dd (.frz od (.dK kvs))) ∧ IsD K (upd F Dd (.frz od (.dK kvs))) (.dct ks ds) (.ref Dd) := by
  have ff : ∀ a, H0 a ≠ none → F0 a = none → (upd F Dd (.frz od (.dK kvs))) a = none := fun a h n => by
    have ne : a ≠ Dd := fun z => h (z ▸ hD)
    rw [upd_ne ne]; exact X0.fresh a h n
  have sm : Same F (upd F Dd (.frz od (.dK kvs))) := Same.upd hFD
  have R1 : Rel W s F (upd H Dd (.frz od (.dK kvs))) := R.temp hFD hw
  refine ⟨R1.freeze hFD hw upd_same, ⟨X0.same.trans sm, fun a o h n => ?_, ff, X0.grow, fun a h => ?_⟩, isD_dct.mpr ⟨?_, Dd, kvs.map (·.2), od, rfl, ?_, hds.same sm⟩⟩
  · rw [upd_ne (ne_of_none h hD)]; exact X0.kept a o h n
  · by_cases e : a = Dd
    · subst e; rw [upd_same]; simp
    · rw [upd_ne e]; exact X0.alive a h
  · rw [← hds.length, ← hk, List.length_map, List.length_map]
  · rw [upd_same, ← hk]
    rw [zip_fs]
theorem g_dnew : PE X (.Dict [] [] pos) (tG X.K W (ME.c (.dct [] []) : ME S)) := by
  refine PE.imp (pe_lk pe_dnewK) fun σ H Q ⟨F, δ, s, R, E, q⟩ => ?_
  intro p hp
  refine ⟨p, [], rfl, upd_same, fun od => ?_⟩
  have hF := R.sub.none hp
  have R1 : Rel W s F (upd H p (.dK [])) := R.temp hF (R.nfp hp)
  have X1 : Ext W s s F H F (upd H p (.dK [])) := ⟨fun _ _ h => h, fun a o h _ => by rw [upd_ne (ne_of_none h hp)]; exact h, fun _ _ h => h, fun _ h => .inl h, fun a h => by
    by_cases e : a = p
    · subst e; rw [upd_same]; simp
    · rw [upd_ne e]; exact h⟩
  obtain ⟨R2, X2, d2⟩ := lk_fin (K := X.K) (od := od) (kvs := []) (ks := []) (ds := []) hp R1 X1 hF (R.nfp hp) rfl .nil
  exact q _ _ _ R2 X2 d2
/-! displays with pairs -/
def putD (kds : List (Key × D)) (k : Key) (d : D) : List (Key × D) :=
  if (kds.any fun kv => decide (kv.1 = k)) = true then kds.map (fun kv => if kv.1 = k then (kv.1, d) else kv) else kds ++ [(k, d)]
def IsK (K : PySem.W.Frag) (F : Hp) (kds : List (Key × D)) (kvs : List (Key × V)) : Prop := kvs.map (·.1) = kds.map (·.1) ∧ IsDs K F (kds.map (·.2)) (kvs.map (·.2))
theorem IsK.same {F F' : Hp} {kds : List (Key × D)} {kvs : List (Key × V)} (h : IsK K F kds kvs) (e : Same F F') : IsK K F' kds kvs := ⟨h.1, h.2.same e⟩
theorem IsK.cons {F : Hp} {k : Key} {d : D} {v : V} {kds : List (Key × D)} {kvs : List (Key × V)} (h : IsD K F d v) (h' : IsK K F kds kvs) : IsK K F ((k, d) :: kds) ((k, v) :: kvs) := ⟨by simp [h'.1], .cons h h'.2⟩
theorem IsK.cases {F : Hp} {kd : Key × D} {kds : List (Key × D)} {kvs : List (Key × V)} (h : IsK K F (kd :: kds) kvs) : ∃ v kvs', kvs = (kd.1, v) :: kvs' ∧ IsD K F kd.2 v ∧ IsK K F kds kvs' := by
  obtain ⟨h1, h2⟩ := h
  match kvs, h1, h2 with
  | [], h1, _ => simp at h1
  | (k, v) :: kvs', h1, h2 =>
    simp only [List.map_cons, List.cons.injEq] at h1
    simp only [List.map_cons, IsDs] at h2
    obtain ⟨w', ws, e, h3, h4⟩ := h2
    simp only [List.cons.injEq] at e
    obtain ⟨rfl, rfl⟩ := e
    exact ⟨v, kvs', by rw [← h1.1], h3, h1.2, h4⟩
theorem IsK.len {F : Hp} {kds : List (Key × D)} {kvs : List (Key × V)} (h : IsK K F kds kvs) : kvs.length = kds.length := by
  have := congrArg List.length h.1
  simpa using this
theorem IsK.any {F : Hp} {k : Key} {kds : List (Key × D)} {kvs : List (Key × V)} (h : IsK K F kds kvs) : (kvs.any fun kv => decide (kv.1 = k)) = kds.any fun kv => decide (kv.1 = k) := by
  have e1 : (kvs.any fun kv => decide (kv.1 = k)) = (kvs.map (·.1)).any fun j => decide (j = k) := by rw [List.any_map]; rfl
  have e2 : (kds.any fun kv => decide (kv.1 = k)) = (kds.map (·.1)).any fun j => decide (j = k) := by rw [List.any_map]; rfl
  rw [e1, e2, h.1]
theorem IsK.upd1 {F : Hp} {k : Key} {d : D} {v : V} (hd : IsD K F d v) : ∀ {kds : List (Key × D)} {kvs : List (Key × V)}, IsK K F kds kvs → IsK K F (kds.map fun kv => if kv.1 = k then (kv.1, d) else kv) (kvs.map fun kv => if kv.1 = k then (kv.1, v) else kv)
  | [], kvs, h => by
    have : kvs = [] := List.eq_nil_of_length_eq_zero h.len
    subst this
    exact ⟨rfl, .nil⟩
  | kd :: kds, kvs, h => by
    obtain ⟨u, kvs', rfl, h1, h2⟩ := h.cases
    rw [List.map_cons, List.map_cons]
    by_cases e : kd.1 = k
    · rw [if_pos e, if_pos e]
      exact .cons hd (IsK.upd1 hd h2)
    · rw [if_neg e, if_neg e]
      exact IsK.cons (k := kd.1) h1 (IsK.upd1 hd h2)
theorem IsK.put {F : Hp} {k : Key} {d : D} {v : V} {kds : List (Key × D)} {kvs : List (Key × V)} (h : IsK K F kds kvs) (hd : IsD K F d v) : IsK K F (putD kds k d) (putK kvs k v) := by
  unfold putD putK
  rw [h.any]
  split
  · exact h.upd1 hd
  · exact ⟨by simp [h.1], by rw [List.map_append, List.map_append]; exact h.2.app (.one hd)⟩
def mergeD (kds more : List (Key × D)) : List (Key × D) := more.foldl (fun acc kv => putD acc kv.1 kv.2) kds
theorem IsK.merge {F : Hp} : ∀ {more : List (Key × D)} {mv : List (Key × V)} {kds : List (Key × D)} {kvs : List (Key × V)}, IsK K F more mv → IsK K F kds kvs → IsK K F (mergeD kds more) (mergeK kvs mv)
  | [], mv, _, _, h, h' => by
    have : mv = [] := List.eq_nil_of_length_eq_zero h.len
    subst this
    exact h'
  | kd :: more, mv, _, _, h, h' => by
    obtain ⟨u, mv', rfl, h1, h2⟩ := h.cases
    exact IsK.merge (more := more) (mv := mv') h2 (IsK.put h' h1)
def pairsD : List D → Option (List (Key × D))
  | [] => some []
  | k :: d :: r => (keyOf k).bind fun k => (pairsD r).map ((k, d) :: ·)
  | _ => none
def pairsV : List V → List (V × V)
  | a :: b :: r => (a, b) :: pairsV r
  | _ => []
structure PD (X : Cx) (W : Wd S) (pos : Pos) (keys : List (Option Expr)) (values : List Expr) (r : MA S) : Prop where
  ex : ∃ trs, PPs X pos keys values trs ∧ ∀ σ H Q, tGA X.K W r σ H (fun vs H' => Q (pairsV vs) H') → tPairs trs σ H Q
theorem pd_nil : PD X W pos [] [] (MA.nil : MA S) := ⟨[], pps_nil, fun σ H Q ⟨F, δ, s, R, E, q⟩ => q F H [] R .refl .nil⟩
theorem pd_cons {ks : List (Option Expr)} {r : MA S} (ha : PE X a (tG X.K W ma)) (hb : PE X b (tG X.K W mb)) (hr : PD X W pos ks es r) : PD X W pos (some a :: ks) (b :: es) (MA.cons ma (MA.cons mb r)) := by
  obtain ⟨trs, h1, h2⟩ := hr.ex
  refine ⟨_, pps_cons ha hb h1, fun σ H Q ⟨F, δ, s, R, E, h⟩ => ?_⟩
  refine ⟨F, δ, s, R, E, ma.mono (fun x s1 q => ?_) h⟩
  intro F1 H1 v R1 E1 d1
  refine ⟨F1, δ, s1, R1, E.same E1.same, mb.mono (fun y s2 q2 => ?_) q⟩
  intro F2 H2 u R2 E2 d2
  refine h2 _ _ _ ⟨F2, δ, s2, R2, (E.same E1.same).same E2.same, r.mono (fun xs s3 q3 => ?_) q2⟩
  intro F3 H3 vs R3 E3 d3
  exact q3 F3 H3 (v :: u :: vs) R3 ((E1.trans E2).trans E3) (.cons ((d1.same E2.same).same E3.same) (.cons (d2.same E3.same) d3))
def dispD (xs : List D) : Option D := (pairsD xs).bind fun ps => if ps.length ≤ 15 then some (.dct ((mergeD [] ps).map (·.1)) ((mergeD [] ps).map (·.2))) else none
def ME.disp (r : MA S) : ME S := ⟨fun δ s Q => r.run δ s fun xs s1 => OQ (dispD xs) fun d => Q d s1, fun h => r.mono fun _ _ => OQ.mono fun _ => h _ _⟩
theorem pairs_ok {F : Hp} : ∀ (xs : List D) (ps : List (Key × D)) (vs : List V), pairsD xs = some ps → IsDs K F xs vs → ∃ kvs, pairsV vs = kvs.map (fun kv => (kV kv.1, kv.2)) ∧ IsK K F ps kvs
  | [], ps, vs, e, h => by
    simp only [pairsD, Option.some.injEq] at e
    simp only [IsDs] at h
    subst e h
    exact ⟨[], rfl, rfl, .nil⟩
  | [_], ps, vs, e, h => by simp [pairsD] at e
  | k :: d :: r, ps, vs, e, h => by
    simp only [pairsD] at e
    simp only [IsDs] at h
    obtain ⟨v, ws, rfl, h1, u, ws', rfl, h2, h3⟩ := h
    cases ek : keyOf k with
    | none => rw [ek] at e; cases e
    | some kk =>
      rw [ek] at e
      cases er : pairsD r with
      | none => rw [er] at e; cases e
      | some ps' =>
        rw [er] at e
        cases e
        obtain ⟨kvs, h4, h5⟩ := pairs_ok r ps' ws' er h3
        exact ⟨(kk, u) :: kvs, by simp only [pairsV, List.map_cons, h4, keyOf_kV h1 ek], .cons h2 h5⟩
theorem g_disp {keys : List (Option Expr)} {values : List Expr} (h : PD X W pos keys values r) (hall : keys.all (·.isSome) = true := by rfl) (hl : keys.length = values.length := by rfl) (h0 : keys ≠ [] := by exact List.cons_ne_nil _ _) (h15 : keys.length ≤ 15 := by decide) :
    PE X (.Dict keys values pos) (tG X.K W (ME.disp r)) := by
  obtain ⟨trs, h1, h2⟩ := h.ex
  refine PE.imp (pe_lk (pe_disp h1 hall hl h0 h15)) fun σ H Q ⟨F, δ, s, R, E, q⟩ => ?_
  intro p hp
  have hF := R.sub.none hp
  have R1 : Rel W s F (upd H p (.dK [])) := R.temp hF (R.nfp hp)
  have X1 : Ext W s s F H F (upd H p (.dK [])) := ⟨fun _ _ h => h, fun a o h _ => by rw [upd_ne (ne_of_none h hp)]; exact h, fun _ _ h => h, fun _ h => .inl h, fun a h => by
    by_cases e : a = p
    · subst e; rw [upd_same]; simp
    · rw [upd_ne e]; exact h⟩
  refine h2 _ _ _ ⟨F, δ, s, R1, E, r.mono (fun xs s1 q1 => ?_) q⟩
  intro F1 H1 vs R2 X2 d2
  obtain ⟨d, e, q2⟩ := OQ.ex q1
  unfold dispD at e
  cases ep : pairsD xs with
  | none => rw [ep] at e; cases e
  | some ps =>
    rw [ep] at e
    replace e : (if ps.length ≤ 15 then some (D.dct ((mergeD [] ps).map (·.1)) ((mergeD [] ps).map (·.2))) else none) = some d := e
    split at e
    · rename_i hz
      cases e
      obtain ⟨kvs, e1, k1⟩ := pairs_ok xs ps vs ep d2
      have wp : ¬ W.fp s p := R.nfp hp
      have hp1 : H1 p = some (.dK []) := X2.kept p _ upd_same wp
      have f1 : F1 p = none := X2.fresh p (by rw [upd_same]; simp) hF
      have w1 : ¬ W.fp s1 p := fun z => (X2.grow p z).elim wp fun z => by rw [upd_same] at z; cases z
      refine ⟨hp1, kvs, e1, by rw [k1.len]; exact hz, p, _, rfl, upd_same, fun od => ?_⟩
      have X3 : Ext W s s1 F H F1 H1 := X1.trans X2
      have kk := IsK.merge (K := X.K) (F := F1) (kds := []) (kvs := []) k1 ⟨rfl, .nil⟩
      obtain ⟨R4, X4, d4⟩ := lk_fin (K := X.K) (od := od) (kvs := mergeK [] kvs) (ks := (mergeD [] ps).map (·.1)) (ds := (mergeD [] ps).map (·.2)) hp R2 X3 f1 w1 kk.1 kk.2
      rw [upd_upd]
      exact q2 _ _ _ R4 X4 d4
    · cases e
end
end G

set_option Elab.async false
set_option linter.all false
set_option maxRecDepth 100000
set_option maxHeartbeats 4000000
/-! dict comprehensions; sorted; calls of what a name holds -/
namespace G
open PySem PySem.Spec PyProof.Rows L2
section
variable {S : Type}
def dcRun (t : Tgt) (tt : MT S) (tk tv : ME S) (δ : En) : List D → List (Key × D) → S → (List (Key × D) → S → Prop) → Prop
  | [], acc, s, k => k acc s
  | d :: ds, acc, s, k => OQ (setT t d δ) fun δ1 => tt.run δ1 s fun b s1 => if b = true then tk.run δ1 s1 fun x s2 => tv.run δ1 s2 fun y s3 => OQ (keyOf x) fun key => acc.length < big ∧ dcRun t tt tk tv δ ds (putD acc key y) s3 k else dcRun t tt tk tv δ ds acc s1 k
theorem dcRun_mono {t : Tgt} {tt : MT S} {tk tv : ME S} {δ : En} : ∀ (ds : List D) (acc : List (Key × D)) (s : S) (k k' : List (Key × D) → S → Prop), (∀ r s, k r s → k' r s) → dcRun t tt tk tv δ ds acc s k → dcRun t tt tk tv δ ds acc s k'
  | [], _, _, _, _, h, q => h _ _ q
  | d :: ds, acc, _, _, _, h, q => OQ.mono (fun _ q => tt.mono (fun b s1 q => by
    cases b with
    | true => exact iteT (tk.mono (fun x s2 => tv.mono fun y s3 => OQ.mono fun key => And.imp_right (dcRun_mono ds _ _ _ _ h)) (by simpa using q))
    | false => exact iteF (dcRun_mono ds acc _ _ _ h (by simpa using q))) q) q
def dctOf (kds : List (Key × D)) : D := .dct (kds.map (·.1)) (kds.map (·.2))
def ME.dc (vs : List Nat) (i : MI S) (t : Tgt) (tt : MT S) (tk tv : ME S) : ME S := ⟨fun δ s Q => i.run δ s fun items s1 => dcRun t tt tk tv (wipeD δ vs) items [] s1 fun r s2 => Q (dctOf r) s2, fun h => i.mono fun _ _ q => dcRun_mono _ _ _ _ _ (fun _ _ => h _ _) q⟩
end
section
variable {S : Type} {W : Wd S} {X : Cx} {a b c e : Expr} {es : List Expr} {pos p : Pos} {K : PySem.W.Frag} {ma mb mc m : ME S} {r : MA S} {x : Str}
theorem dc_run {i : MI S} {t : Tgt} {tt : MT S} {tk tv : ME S} {vs : List Nat} (hv : inT vs t = true) {σ : L2.St} {H : Hp} {Q : VK} (h : tG K W (ME.dc vs i t tt tk tv) σ H Q) :
    tDc (tI K W i) (gT K t) (tGT K W tt) (tG K W tk) (tG K W tv) vs σ H fun v H' => ∃ p kvs, v = .ref p ∧ H' p = some (.dK kvs) ∧ ∀ od, Q v (upd H' p (.frz od (.dK kvs))) := by
  obtain ⟨F, δ, s, R, E, h⟩ := h
  refine ⟨F, δ, s, R, E, i.mono (fun items s1 q => ?_) h⟩
  intro F1 H1 J R1 E1 dv Dd hD
  have hF := R1.sub.none hD
  have hw := R1.nfp hD
  have R2 : Rel W s1 F1 (upd H1 Dd (.dK [])) := R1.temp hF hw
  have X2 : Ext W s1 s1 F1 H1 F1 (upd H1 Dd (.dK [])) := ⟨fun _ _ h => h, fun a o h _ => by rw [upd_ne (ne_of_none h hD)]; exact h, fun _ _ h => h, fun _ h => .inl h, fun a h => by
    by_cases e : a = Dd
    · subst e; rw [upd_same]; simp
    · rw [upd_ne e]; exact h⟩
  let In : Nat → Hp → Prop := fun j H => ∃ F s acc kvs, Rel W s F H ∧ Ext W s1 s F1 H1 F H ∧ F Dd = none ∧ ¬ W.fp s Dd ∧ H Dd = some (.dK kvs) ∧ IsK K F acc kvs ∧
    dcRun t tt tk tv (wipeD δ vs) (items.drop j) acc s fun r s4 => aft W (IsD K) Q F1 H1 s1 (dctOf r) s4
  refine ⟨fun i n H => n = items.length - i ∧ i ≤ items.length ∧ In i H, ⟨items.length, by simp, Nat.zero_le _, F1, s1, [], [], R2, X2, hF, hw, upd_same, ⟨rfl, .nil⟩, ?_⟩, ?_⟩
  · exact dcRun_mono _ _ _ _ _ (fun r s4 q => aft.ext E1 q) q
  have E' := (E.same E1.same).wipe vs
  rintro j n H ⟨rfl, hi, F, s, acc, kvs, R, X0, hFD, hw, hH, hds, q⟩
  by_cases hlt : j < items.length
  · have hdrop : items.drop j = items[j] :: items.drop (j + 1) := List.drop_eq_getElem_cons hlt
    rw [hdrop] at q
    refine .inr ⟨dv.go j s F H R X0.same hlt, In (j + 1), fun H' h => ⟨items.length - (j + 1), by omega, rfl, hlt, h⟩, ?_⟩
    intro xv H3 hy
    obtain ⟨F3, R3, X3, d3⟩ := dv.yld j items[j] s F H xv H3 R X0.same (by simp [hlt]) hy
    obtain ⟨δ1, e1, q1⟩ := OQ.ex q
    refine gT_run R3.sub t items[j] xv _ δ1 _ _ d3 ((E'.same X0.same).same X3.same) e1 fun σ4 h4 h5 => ⟨?_, ?_⟩
    · rw [h5 vs hv]
      exact wipe_idem vs vs _ fun _ h => h
    refine ⟨F3, δ1, s, R3, h4, tt.mono (fun bb s5 q5 => ?_) q1⟩
    intro F5 H5 b5 R5 X5 e5
    subst e5
    have xx5 := (X0.trans X3).trans X5
    have alive3 : H3 Dd = some (.dK kvs) := X3.kept _ _ hH hw
    have f3 : F3 Dd = none := X3.fresh Dd (by rw [hH]; simp) hFD
    have alive5 : H5 Dd = some (.dK kvs) := X5.kept _ _ alive3 hw
    have f5 : F5 Dd = none := X5.fresh Dd (by rw [alive3]; simp) f3
    have w5 : ¬ W.fp s5 Dd := fun z => (X5.grow Dd z).elim hw fun z => by rw [alive3] at z; cases z
    have hds5 := (hds.same X3.same).same X5.same
    cases bb with
    | false => exact iteF ⟨F5, s5, acc, kvs, R5, xx5, f5, w5, alive5, hds5, by simpa using q5⟩
    | true =>
      refine iteT ⟨F5, δ1, s5, R5, h4.same X5.same, tk.mono (fun y s6 q6 => ?_) (by simpa using q5)⟩
      intro F6 H6 v6 R6 X6 d6
      have alive6 : H6 Dd = some (.dK kvs) := X6.kept _ _ alive5 w5
      have f6 : F6 Dd = none := X6.fresh Dd (by rw [alive5]; simp) f5
      have w6 : ¬ W.fp s6 Dd := fun z => (X6.grow Dd z).elim w5 fun z => by rw [alive5] at z; cases z
      refine ⟨F6, δ1, s6, R6, (h4.same X5.same).same X6.same, tv.mono (fun z s7 q7 => ?_) q6⟩
      intro F7 H7 v7 R7 X7 d7
      have alive7 : H7 Dd = some (.dK kvs) := X7.kept _ _ alive6 w6
      have f7 : F7 Dd = none := X7.fresh Dd (by rw [alive6]; simp) f6
      have w7 : ¬ W.fp s7 Dd := fun z => (X7.grow Dd z).elim w6 fun z => by rw [alive6] at z; cases z
      obtain ⟨key, ek, hz, q8⟩ := OQ.ex q7
      have hds7 := (hds5.same X6.same).same X7.same
      have xx7 := (xx5.trans X6).trans X7
      refine ⟨kvs, key, keyOf_kV d6 ek, alive7, by rw [hds7.len, sizeLine_eq]; exact hz, F7, s7, putD acc key z, putK kvs key v7, R7.temp f7 w7, ?_, f7, w7, upd_same, hds7.put d7, q8⟩
      refine ⟨xx7.same, fun a o h n => ?_, xx7.fresh, xx7.grow, fun a h => ?_⟩
      · rw [upd_ne (ne_of_none h hD)]; exact xx7.kept a o h n
      · by_cases e : a = Dd
        · subst e; rw [upd_same]; simp
        · rw [upd_ne e]; exact xx7.alive a h
  · have e : j = items.length := by omega
    subst e
    refine .inl ⟨dv.stop s F H R X0.same, Dd, kvs, rfl, hH, fun od => ?_⟩
    rw [List.drop_length] at q
    have q' : aft W (IsD K) Q F1 H1 s1 (dctOf acc) s := q
    obtain ⟨R3, X3, d3⟩ := lk_fin (od := od) hD R X0 hFD hw hds.1 hds.2
    exact q' _ _ _ R3 X3 d3
variable {tg iter kx vx : Expr} {ifs : List Expr} {scope : Scope} {i : MI S} {t : Tgt} {tt : MT S} {tk tv : ME S}
theorem g_dc (own : List (Str × Nat)) (hc : X.calm = true) (hN : X.N.Nodup) (hi : PI X tg iter (tI X.K W i)) (ok : BlkOk X.N X.env.scope scope own)
    (hg : ∀ (s : Shared) (H : Hp) (C : Addr) (cl : List (Str × Addr)) (fp : List Addr), PG (X.blk s H scope (compEnvC scope cl C X.env) fp) tg (gT X.K t)) (ht : ∀ (s : Shared) (H : Hp) (C : Addr) (cl : List (Str × Addr)) (fp : List Addr), PTs (X.blk s H scope (compEnvC scope cl C X.env) fp) ifs (tGT X.K W tt))
    (hk : ∀ (s : Shared) (H : Hp) (C : Addr) (cl : List (Str × Addr)) (fp : List Addr), PE (X.blk s H scope (compEnvC scope cl C X.env) fp) kx (tG X.K W tk))
    (he : ∀ (s : Shared) (H : Hp) (C : Addr) (cl : List (Str × Addr)) (fp : List Addr), PE (X.blk s H scope (compEnvC scope cl C X.env) fp) vx (tG X.K W tv)) (hv : inT (own.map (·.2)) t = true := by rfl) (hs : ∀ x, foldedSetIterable iter X.env x = pure x := by intro _; rfl) :
    PE X (.DictComp kx vx [⟨tg, iter, ifs, 0⟩] scope pos) (tG X.K W (ME.dc (own.map (·.2)) i t tt tk tv)) :=
  PE.imp (pe_lk (pe_dc hc hN hi ok hg ht hk he hs)) fun σ H Q h => dc_run hv h

/-! ### sorted(d), int keys -/
def ME.sorted (r : MA S) : ME S := ⟨fun δ s Q => r.run δ s fun xs s1 => match xs with
  | [.dct ks _] => ∃ is : List Int, ks = is.map Sum.inl ∧ is.length < 64 ∧ ∀ ys : List Int, ys.Perm is → ys.Pairwise (· ≤ ·) → Q (.lst (ys.map .int)) s1
  | _ => False, fun {δ s Q Q'} h => r.mono fun xs s1 q => by
    split at q
    · obtain ⟨is, h1, h2, h3⟩ := q
      exact ⟨is, h1, h2, fun ys a b => h _ _ (h3 ys a b)⟩
    · exact q.elim⟩
theorem g_sorted (hc : X.calm = true) (hm : X.mg "sorted" = none) (hv : bootBuiltins "sorted" = some (.builtin "sorted")) (ha : PA X [e] (tGA X.K W r)) (hg : Gl X "sorted" := by rfl) (he : starEach [e] X.env = (false, eval e X.env) :: starEach [] X.env := by rfl) : PE X (.Call (.Name "sorted" p) [e] [] pos) (tG X.K W (ME.sorted r)) := by
  refine PE.imp (pe_callB (call_sortedDI hc) hg hm hv ha (by decide) (by decide) he) fun σ H Q ⟨F, δ, s, R, E, h⟩ => ?_
  refine ⟨F, δ, s, R, E, r.mono (fun xs s1 q => ?_) h⟩
  intro F1 H1 vs R1 E1 d1
  split at q
  · rename_i ks ds
    obtain ⟨is, rfl, h2, h3⟩ := q
    obtain ⟨v, rfl, h4⟩ := one_d d1
    obtain ⟨hl, a, vs, od, rfl, h5, h6⟩ := isD_dct.mp h4
    refine ⟨a, _, is, rfl, Rd.sub R1.sub (.inr ⟨od, h5⟩), ?_, h2, fun ys l hp hs hl => ?_⟩
    · exact List.map_fst_zip (by rw [h6.length, hl]; exact Nat.le_refl _)
    · have := new_lst (Q := Q) R1 (isDs_ints' (bs := ys)) (by rw [List.length_map, hp.length_eq, sizeLine_eq]; omega) (aft.ext E1 (h3 ys hp hs)) l hl
      exact this
  · exact q.elim

/-! ### a call of what a name holds -/
theorem Cal.held {P : Program} {w : World} {K : PySem.W.Frag} {mg : Str → Option Value} {base : Heap} {k n : Nat} {f : MF S} (c : Cal P w K mg base W k x n f) : ∃ fa, mg x = some (.ref fa) ∧ Held P w K mg base k fa (spG K W n f) := by
  obtain ⟨fa, fd, ps, h1, h2, h3, h4⟩ := c.ex
  exact ⟨fa, h2, ⟨fd, ps, h1, h3, h4⟩⟩
theorem g_ref {fa : Addr} (h : X.mg x = some (.ref fa)) (hg : Gl X x := by rfl) (hd : (x == ("__debug__" : Str)) = false := by decide) : PE X (.Name x pos) (tG X.K W (ME.c (.ref fa) : ME S)) :=
  g_gl (d := .ref fa) ⟨⟨.ref fa, .ref fa, h, rfl, fun F => isD_ref.mpr rfl⟩⟩ hg hd
/-- what the i-th name holds is called: T tells the promise by the address -/
def refD : D → Option Addr
  | .ref a => some a
  | _ => none
def ME.callA (i n : Nat) (T : Addr → Option (MF S)) (r : MA S) : ME S := ⟨fun δ s Q => OQ (δ.getD i none) fun d => OQ (refD d) fun a => OQ (T a) fun f => r.run δ s fun ds s1 => ds.length = n ∧ f.run ds s1 Q, fun h => OQ.mono fun _ => OQ.mono fun _ => OQ.mono fun f => r.mono fun _ _ => And.imp_right (f.mono h)⟩
theorem g_callA {k n : Nat} (i : Nat) (T : Addr → Option (MF S)) (A : ∀ f m, T f = some m → Held X.prog X.w X.K X.mg X.base k f (spG X.K W n m)) (hr : Room k X.A) (ha : PA X (e :: es) (tGA X.K W r)) (hN : X.N[i]? = some x := by rfl)
    (hv : Vis X.env.scope x := by first | exact Or.inl rfl | exact Or.inr (Or.inl rfl) | exact Or.inr (Or.inr rfl)) (hdb : (x == ("__debug__" : Str)) = false := by decide) (hcd : (x == ("__classdict__" : Str)) = false := by decide)
    (he : starEach (e :: es) X.env = (false, eval e X.env) :: starEach es X.env := by rfl) (hpl : (backTo pos (starEach es X.env)).any (·.1) = false := by rfl) : PE X (.Call (.Name x p) (e :: es) [] pos) (tG X.K W (ME.callA i n T r)) := by
  refine PE.imp (pe_callA (S := fun f => (T f).map fun m => spG X.K W n m) (fun f sp h => ?_) hr hN hv ha hdb hcd he hpl) fun σ H Q ⟨F, δ, s, R, E, h⟩ => ?_
  · cases ez : T f with
    | none => rw [ez] at h; cases h
    | some m =>
      rw [ez] at h
      cases h
      exact A f m ez
  · obtain ⟨d, e1, h0⟩ := OQ.ex h
    obtain ⟨ad, e2, h00⟩ := OQ.ex h0
    obtain ⟨f, e3, h3⟩ := OQ.ex h00
    have ed : d = .ref ad := by
      unfold refD at e2
      split at e2
      · cases e2; rfl
      · cases e2
    subst ed
    obtain ⟨v, h1, h2⟩ := slot_get E e1
    rw [isD_ref] at h2; subst h2
    refine ⟨_, spG X.K W n f, h1, by show (T ad).map _ = _; rw [e3]; rfl, F, δ, s, R, E, r.mono (fun ds s1 q => ?_) h3⟩
    intro F1 H1 vs R1 E1 d1
    exact ⟨F1, s1, ds, R1, d1, q.1, f.mono (fun d s2 z => aft.ext E1 z) q.2⟩
end
end G

set_option Elab.async false
set_option linter.all false
set_option maxRecDepth 100000
set_option maxHeartbeats 4000000
/-! a def with a star parameter alone -/
namespace G
open PySem PySem.Spec PyProof.Rows L2
def spGR {S : Type} (K : PySem.W.Frag) (W : Wd S) (f : MF S) : Sp := fun vs H Q _ => ∃ F s ds, Rel W s F H ∧ IsDs K F ds vs ∧ ds.length ≤ big ∧ f.run ds s (aft W (IsD K) Q F H s)
structure CalR {S : Type} (P : Program) (w : World) (K : PySem.W.Frag) (mg : Str → Option Value) (base : Heap) (W : Wd S) (k : Nat) (x : Str) (f : MF S) : Prop where
  ex : ∃ (fa : Addr), FnR P w K mg base CX0 k fa (spGR K W f) ∧ mg x = some (.ref fa) ∧ PySem.W.keepIn K (.ref fa) = true
theorem cal_star {S : Type} {P : Program} {w : World} {K : PySem.W.Frag} {mg : Str → Option Value} {base : Heap} {W : Wd S} {k : Nat} {x q qual pv : Str} {st : Stmt} {fa : Addr} {fd : FuncData} {N : List Str} {f : MF S} {u : MS S}
    (F : Fun K q qual st fa fd) (hg : mg x = some (.ref fa)) (Sc : FnScope N [pv] (defScope st))
    (hbind : ∀ (kV doc pm : Value) (an : Option Addr) (cdv ct : Value) (rest : List Value), bindArgs (PySem.W.fnOf q qual (defArgs st) (defBody st) (defScope st) .none kV doc pm an cdv ct) ⟨rest, []⟩ = (newTuple rest >>= fun t => pure [(pv, t)]))
    (hb : ∀ (cdv : Value) (A : Around) (outer : List Env) (s : Shared) (H : Hp) (E : XK), Room k (A.deeper (envOfC qual (defScope st) s.heap.objs.size fa cdv)) → PSs (cxOf CX0 P w K mg base N qual (defScope st) fa cdv A outer s H E).nox (defBody st) (tGS K W u))
    (h : ∀ ds s Q, f.run ds s Q → u.run (some (.tup ds) :: List.replicate (N.length - 1) none) s { nx := fun _ s' => Q .non s', rt := Q }) : CalR P w K mg base W (k + 1) x f := by
  obtain ⟨oc, od, kV, doc, pm, an, cdv, ct, osl, rfl, lk, hcd⟩ := F.ex
  refine ⟨fa, ?_, hg, F.kp⟩
  refine FnR.imp (StX.fn_star (ps := []) (pv := pv) (sp := fun vs H Q _ => ∃ F s ds p, vs = [.ref p] ∧ Rel W s F H ∧ IsD K F (.tup ds) (.ref p) ∧ f.run ds s (aft W (IsD K) Q F H s)) lk hcd Sc (StX.cxUp_none) (fun us rest hl => ?_) (fun A outer s H vs Q E hr hs => ?_)) fun vs H Q E hs => ?_
  · have : us = [] := List.eq_nil_of_length_eq_zero hl
    subst this
    exact hbind kV doc pm an cdv ct rest
  · obtain ⟨F1, s1, ds, p, rfl, R, hd, hf⟩ := hs
    refine ⟨_, (hb cdv A outer s H E hr).nox, F1, some (.tup ds) :: List.replicate (N.length - 1) none, s1, R, ⟨?_, ?_⟩, u.mono ⟨?_, ?_, ?_, ?_⟩ (h ds s1 _ hf)⟩
    · unfold L2.start; simp
    · intro i d e
      cases i with
      | zero =>
        simp at e
        subst e
        exact ⟨.ref p, rfl, hd⟩
      | succ i =>
        rw [List.getElem?_cons_succ, List.getElem?_replicate] at e
        split at e <;> cases e
    · intro δ' s' q F2 H2 σ R2 E2 e2
      exact q F2 H2 .non R2 E2 (isD_non.mpr rfl)
    · intro d s' q F2 H2 v R2 E2 d2
      exact q F2 H2 v R2 E2 d2
    · intro δ s q
      exact q.elim
    · intro δ s q
      exact q.elim
  · obtain ⟨F1, s1, ds, R, hd, hz, hf⟩ := hs
    refine ⟨[], vs, rfl, rfl, by rw [hd.length]; exact big_le hz, fun p hp => ?_⟩
    have R1 := R.laid (o := .tup vs) hp
    have X1 := Ext.laid (o := .tup vs) R hp
    exact ⟨_, s1, ds, p, rfl, R1, isD_tup.mpr ⟨big_le hz, p, vs, rfl, SqT.of upd_same, hd.same X1.same⟩, f.mono (fun d s2 z => aft.ext X1 z) hf⟩
section
variable {S : Type} {W : Wd S} {X : Cx} {e : Expr} {es : List Expr} {pos p : Pos} {r : MA S} {x : Str} {j k : Nat} {f : MF S}
def ME.callR (f : MF S) (r : MA S) : ME S := ⟨fun δ s Q => r.run δ s fun ds s1 => ds.length ≤ big ∧ f.run ds s1 Q, fun h => r.mono fun _ _ => And.imp_right (f.mono h)⟩
theorem g_callR (c : CalR X.prog X.w X.K X.mg X.base W k x f) (hr : Room j X.A) (hk : k ≤ j) (ha : PA X (e :: es) (tGA X.K W r)) (hg : Gl X x := by rfl) (hdb : (x == ("__debug__" : Str)) = false := by decide)
    (he : starEach (e :: es) X.env = (false, eval e X.env) :: starEach es X.env := by rfl) (hpl : (backTo pos (starEach es X.env)).any (·.1) = false := by rfl) : PE X (.Call (.Name x p) (e :: es) [] pos) (tG X.K W (ME.callR f r)) := by
  obtain ⟨fa, h1, h2, h3⟩ := c.ex
  refine ⟨fun pins s σ H Q I ⟨F, δ, s0, R, E, h⟩ => ?_⟩
  refine wpAny_Call_Name_kw (ld_glob I hg h2 ?_ hdb)
  refine PySem.W.callWith_K (h₀ := X.base) I.ok.mod.kin h3 (thn (ha.run pos pins s σ H (fun vs H1 => spGR X.K W f vs H1 Q E0) I ⟨F, δ, s0, R, E, r.mono (fun ds s1 q => ?_) h⟩) fun us s2 ⟨vs, H2, I2, r2, q⟩ => ⟨I2.kIn, wpAny_call (run_fnR (E := E0) h1 (hr.mono hk) pass0 I2 r2 q)⟩) he hpl
  intro F1 H1 vs R1 E1 d1
  exact ⟨F1, s1, ds, R1, d1, q.1, f.mono (fun d s2 z => aft.ext E1 z) q.2⟩
end
end G

set_option Elab.async false
set_option linter.all false
set_option maxRecDepth 100000
set_option maxHeartbeats 4000000
/-! list(reversed(x)); the draws -/
namespace G
open PySem PySem.Spec PyProof.Rows L2
section
variable {prog : Program} {w : World} {A : Around} {E : Value → Shared → Prop} {s : Shared} {R : Result → Shared → Prop}
theorem rev_extend {it l S : Addr} {items : Array Value} {c₀ : Nat} (hh : A.handled = none) (hit : s.heap.IsRevIter it l ((items.size : Int) - 1)) (hl : s.heap.IsList l items) (hne : l ≠ it) (hn : items.size ≤ sizeLine) (hSi : S ≠ it) (hSl : S ≠ l)
    (hS : s.heap.get? S = some { cls := .type "list", data := .seq #[] c₀ })
    (hR : ∀ (h' : Heap) (tk : Nat) (acc : Array Value) (c' : Nat), (∀ b o, b ≠ it → b ≠ S → s.heap.get? b = some o → h'.get? b = some o) → h'.get? S = some { cls := .type "list", dict := none, data := .seq acc c', slots := #[] } → ItemsOf (fun i v => items[items.size - 1 - i]? = some v) acc items.size → R (.ok (.ret .none)) { s with heap := h', toks := tk }) :
    wpAny (model prog w) A.in1 (Builtin.List.listExtendWith (.ref S) (.ref it) .none)
      (fun fin s' => match fin with | .done f => R (.ok f) s' | .again c' => c'.quiet = true ∧ codeAny (model prog w) A c' R s') (fun e s' => R (.error e) s') s := by
  have W := (Walks.listRev (prog := prog) (w := w) (A := A.in1) hh it l hne items).toS
  have hSf : S ∉ [it, l] := by simp only [List.mem_cons, List.not_mem_nil, or_false, not_or]; exact ⟨hSi, hSl⟩
  have hT : s.TypeIs (.ref it) "list_reverseiterator" := Heap.IsRevIter.typeIs hit
  have h1 : Builtin.List.listSameRef (.ref S) (.ref it) = false := by simp [Builtin.List.listSameRef, hSi]
  unfold Builtin.List.listExtendWith
  refine wpAny_bind (wpAny_typeOf hT ?_)
  rw [if_neg (by rw [h1]; decide)]
  refine wpAny_bind (wpAny_pyIter_revIter hit ?_)
  refine wpAny_bind (wpAny_holding ?_)
  unfold Builtin.List.listLengthHint
  refine wpAny_bind (wpAny_specialOf hT RT.nolen_lri ?_)
  show wpAny _ A.in1 (specialOf (Value.ref it) (Str.ofString "__length_hint__") >>= _) _ _ _
  refine wpAny_bind (wpAny_specialOf hT RT.hint_lri ?_)
  generalize hid : ("list_reverseiterator.__length_hint__" : String) = id0
  wp_delta
  rw [show splitId id0 = some ("list_reverseiterator", "__length_hint__") from by subst hid; decide +kernel]
  subst hid
  refine wpAny_bind (wpAny_isInstance (b := true) hT (by rw [isSubtype_type]; kernel_rfl) ?_)
  refine wpAny_pure ?_
  rw [if_neg (by decide)]
  have e0 : ((items.size : Nat) : Int) - 1 - ((0 : Nat) : Int) = (items.size : Int) - 1 := by omega
  refine wpAny_pure ⟨plainId_quiet PySem.F.plain_extend_loop _, codeAny_extend_loopS W hn _ hSf _ items.size 0 _ _ _ rfl (Nat.zero_le _) ⟨Nat.zero_le _, by rw [e0]; exact hit, hl⟩ hS (ItemsOf.nil _) fun s' acc' c' hm hS' hacc => ?_⟩
  rw [Moved.eq_with hm]
  refine hR s'.heap s'.toks acc' c' (fun b o hb1 hb2 e => hm.heap b o (fun hmem => ?_) e) hS' hacc
  rcases List.mem_cons.mp hmem with e' | hmem
  · exact hb2 e'
  · exact hb1 (List.mem_singleton.mp hmem)
theorem rev_init {it l S : Addr} {items : Array Value} (hh : A.handled = none) (hit : s.heap.IsRevIter it l ((items.size : Int) - 1)) (hl : s.heap.IsList l items) (hne : l ≠ it) (hn : items.size ≤ sizeLine) (hSi : S ≠ it) (hSl : S ≠ l)
    (hS : s.heap.get? S = some { cls := .type "list", data := .seq #[] })
    (hR : ∀ (h' : Heap) (tk : Nat) (acc : Array Value) (c' : Nat), (∀ b o, b ≠ it → b ≠ S → s.heap.get? b = some o → h'.get? b = some o) → h'.get? S = some { cls := .type "list", dict := none, data := .seq acc c', slots := #[] } → ItemsOf (fun i v => items[items.size - 1 - i]? = some v) acc items.size → R (.ok (.ret .none)) { s with heap := h', toks := tk }) :
    wpAny (model prog w) A.in1 (Builtin.«list.__init__» ⟨[.ref S, .ref it], []⟩)
      (fun fin s' => match fin with | .done f => R (.ok f) s' | .again c' => c'.quiet = true ∧ codeAny (model prog w) A c' R s') (fun e s' => R (.error e) s') s := by
  show wpAny _ A.in1 (do let old ← Builtin.List.listItems (.ref S); Builtin.List.listUpdate (.ref S) (fun _ => #[]); letGo old.toList.reverse; Builtin.List.listExtendWith (.ref S) (.ref it) .none) _ _ s
  refine wpAny_bind ?_
  unfold Builtin.List.listItems
  refine wpAny_bind (wpAny_seqItems hS rfl (wpAny_pure ?_))
  show wpAny _ A.in1 (updateSeq S (fun _ => #[]) >>= fun _ => letGo (#[] : Array Value).toList.reverse >>= fun _ => Builtin.List.listExtendWith (.ref S) (.ref it) .none) _ _ s
  refine wpAny_bind (wpAny_updateSeq hS rfl ?_)
  have hS₂ := Heap.get?_update_self (Obj.mapSeq (fun _ => (#[] : Array Value))) hS rfl
  have oth : ∀ b o, b ≠ S → s.heap.get? b = some o → (s.heap.update S (Obj.mapSeq (fun _ => (#[] : Array Value)))).get? b = some o :=
    fun b o hb e => (Heap.get?_update_other _ _ (Ne.symm hb)).trans e
  refine wpAny_bind (wpAny_letGo ?_)
  refine rev_extend (s := { s with heap := s.heap.update S (Obj.mapSeq (fun _ => (#[] : Array Value))) }) hh (hit.at fun o e => oth it o (Ne.symm hSi) e) (hl.at fun o e => oth l o (Ne.symm hSl) e) hne hn hSi hSl hS₂ fun h' tk acc' c' hk hS' hacc => ?_
  exact hR h' tk acc' c' (fun b o hb1 hb2 e => hk b o hb1 hb2 (oth b o hb2 e)) hS' hacc
theorem call_list_rev {it l : Addr} {items : Array Value} {Q : Value → Shared → Prop} (hh : A.handled = none) (hit : s.heap.IsRevIter it l ((items.size : Int) - 1)) (hl : s.heap.IsList l items) (hne : l ≠ it) (hn : items.size ≤ sizeLine)
    (hQ : ∀ (h' : Heap) (tk : Nat) (acc : Array Value) (c' : Nat), (∀ b o, b ≠ it → s.heap.get? b = some o → h'.get? b = some o) → h'.get? s.heap.objs.size = some { cls := .type "list", dict := none, data := .seq acc c', slots := #[] } → ItemsOf (fun i v => items[items.size - 1 - i]? = some v) acc items.size → Q (.ref s.heap.objs.size) { s with heap := h', toks := tk }) :
    wpAny (model prog w) A (call (.type "list") [.ref it]) Q E s := by
  obtain ⟨oi, hoi, _⟩ := id hit
  obtain ⟨ol, hol, _⟩ := id hl
  have hSi : s.heap.objs.size ≠ it := Nat.ne_of_gt (Heap.lt_size hoi)
  have hSl : s.heap.objs.size ≠ l := Nat.ne_of_gt (Heap.lt_size hol)
  refine callType_codes (Q₁ := fun obj s₁ => obj = .ref s.heap.objs.size ∧ s₁ = { s with heap := s.heap.push { cls := .type "list", data := .seq #[] } }) PySem.F.called_list (PySem.F.typeCall_list_1 _) PySem.F.entry_list_init
    (code_list_new _ ⟨rfl, rfl⟩) fun obj s₁ h₁ => ?_
  obtain ⟨rfl, rfl⟩ := h₁
  have hS : (s.heap.push { cls := .type "list", data := .seq #[] }).get? s.heap.objs.size = some { cls := .type "list", data := .seq #[] } := Heap.get?_push_size _ rfl
  refine ⟨⟨_, hS, rfl⟩, PySem.F.args_list_init_2 _ _, rev_init (A := A.in1) (s := { s with heap := s.heap.push { cls := .type "list", data := .seq #[] } }) hh (hit.at fun o e => Heap.get?_push_of_some _ e) (hl.push _) hne hn hSi hSl hS fun h' tk acc' c' hk hS' hacc => ?_⟩
  exact ⟨rfl, hQ h' tk acc' c' (fun b o hb e => hk b o hb (Nat.ne_of_lt (Heap.lt_size e)) (Heap.get?_push_of_some _ e)) hS' hacc⟩
end
def tLstRev (K : PySem.W.Frag) (te : TE) : TE := fun σ H Q => te σ H fun v H1 => ∃ (a : Addr) (xs : List V), v = .ref a ∧ SqL K H1 a xs ∧ ∀ q, H1 q = none → Q (.ref q) (upd H1 q (.lst xs.reverse))
theorem pe_lstRev {X : Cx} {e : Expr} {te : TE} {p p2 pos pos2 : Pos} (hc : X.calm = true) (hm : X.mg "list" = none) (hv : bootBuiltins "list" = some (.type "list")) (hm2 : X.mg "reversed" = none) (he : PE X e te) (hg : Gl X "list" := by rfl) (hg2 : Gl X "reversed" := by rfl)
    (hs : starEach [e] X.env = (false, eval e X.env) :: starEach [] X.env := by rfl)
    (hs2 : starEach [.Call (.Name "reversed" p2) [e] [] pos2] X.env = (false, eval (.Call (.Name "reversed" p2) [e] [] pos2) X.env) :: starEach [] X.env := by rfl) :
    PE X (.Call (.Name "list" p) [.Call (.Name "reversed" p2) [e] [] pos2] [] pos) (tLstRev X.K te) := by
  refine ⟨fun pins s σ H Q I h => ?_⟩
  refine Call_ (ld_blt I hg hm hv (PyProof.Rows.callWith_type1 (args_cons (Call_ (ld_blt I hg2 hm2 PyProof.Rows.boot_reversed (PyProof.Rows.callWith_type1 (args_cons (thn (he.run pins s σ H _ I h) fun u s1 ⟨v, H1, I1, r1, q1⟩ => args_nil ?_) hs) hs rfl))) hs2) hs2 rfl))
  obtain ⟨a, xs, ev, hq, q⟩ := q1
  subst ev
  obtain rfl : u = Value.ref a := r1
  obtain ⟨its, rv, p', hz⟩ := I1.list hq
  refine call_reversed_list p'.isList (args_nil ?_)
  have k0 : ∀ b o, s1.heap.get? b = some o → (s1.heap.push (revObj a ((its.toArray.size : Int) - 1))).get? b = some o := fun b o e => Heap.get?_push_of_some _ e
  have I2 : Inv X pins σ H1 { s1 with heap := s1.heap.push (revObj a ((its.toArray.size : Int) - 1)) } := I1.kept (t' := s1.toks) k0
  obtain ⟨f0, f1, f2, f3, f4, f5⟩ := I1.fpOk (H' := H1) (b := s1.heap.objs.size) (Nat.le_refl _) (I1.hok.fresh (Nat.le_refl _))
  have hl := p'.isList
  obtain ⟨ol, hol, _⟩ := id hl
  have hne : a ≠ s1.heap.objs.size := Nat.ne_of_lt (Heap.lt_size hol)
  have hn : its.toArray.size ≤ sizeLine := by rw [List.size_toArray, ← rv.length]; exact hz
  have sz : (s1.heap.push (revObj a ((its.toArray.size : Int) - 1))).objs.size = s1.heap.objs.size + 1 := Heap.size_push _ _
  refine call_list_rev (s := { s1 with heap := s1.heap.push (revObj a ((its.toArray.size : Int) - 1)) }) (I1.ok.hd hc) ⟨_, Heap.get?_push_size _ rfl, rfl, rfl⟩ (hl.push _) hne hn fun h' tk acc c' hk hD hi => ?_
  have hv2 : Vals xs.reverse acc.toList := RT.vals_rev rv hi
  have ff := I1.fpOk (H' := H1) (b := s1.heap.objs.size) (Nat.le_refl _) (I1.hok.fresh (Nat.le_refl _))
  have new : ObjOk X.prog X.w (upd H1 (s1.heap.push (revObj a ((its.toArray.size : Int) - 1))).objs.size (.lst xs.reverse)) h' (s1.heap.push (revObj a ((its.toArray.size : Int) - 1))).objs.size (.lst xs.reverse) :=
    ⟨by rw [List.length_reverse]; exact hz, acc.toList, c', hv2, by rw [Array.toArray_toList]; exact hD⟩
  have I3 : Inv X pins σ (upd H1 (s1.heap.push (revObj a ((its.toArray.size : Int) - 1))).objs.size (.lst xs.reverse)) { s1 with heap := h', toks := tk } :=
    I2.turnedNew (t' := tk) (ch := [s1.heap.objs.size]) (fun b o hb e => hk b o (by simpa using hb) e) (fun b hb => by
      have e : b = s1.heap.objs.size := by simpa using hb
      subst e
      exact ff) (Nat.le_refl _) new
  exact ⟨.ref _, _, I3, rfl, q _ (I2.hok.fresh (Nat.le_refl _))⟩

/-! ### the draws: a list of ints that is the law's own -/
abbrev Dr := Option (Addr × List Int)
def WD : Wd Dr where
  fp s a := ∃ xs, s = some (a, xs)
  P s _ H := match s with
    | some (a, xs) => H a = some (.lst (xs.map V.int))
    | none => True
  loc := fun s F H H' h e => by
    cases s with
    | none => trivial
    | some p => exact (e p.1 ⟨p.2, rfl⟩).trans h
  mono := fun s F F' H h _ => h
  here := fun s F H a h ⟨xs, e⟩ => by
    subst e
    intro z
    have h' : H a = some (.lst (xs.map V.int)) := h
    rw [h'] at z; cases z
section
variable {X : Cx} {a b c e : Expr} {es : List Expr} {pos p apos : Pos} {m : ME Dr} {r : MA Dr} {x : Str}
/-- [] as the draws -/
def ME.dnew : ME Dr := ⟨fun _ s Q => s = none ∧ ∀ p, Q (.ref p) (some (p, [])), fun h q => ⟨q.1, fun p => h _ _ (q.2 p)⟩⟩
theorem g_drNew : PE X (.List [] pos) (tG X.K WD ME.dnew) := by
  refine PE.imp (pe_lst pa_nil) fun σ H Q ⟨F, δ, s, R, E, h⟩ => ?_
  obtain ⟨rfl, h⟩ := h
  refine ⟨Nat.zero_le _, fun p hp => ?_⟩
  have hF := R.sub.none hp
  refine h p F (upd H p (.lst [])) (.ref p) ⟨R.sub.temp hF, fun a ⟨xs, e⟩ => ?_, upd_same⟩ ⟨fun _ _ h => h, fun a o h _ => by rw [upd_ne (ne_of_none h hp)]; exact h, fun _ _ h => h, fun a ⟨xs, e⟩ => ?_, fun a h => ?_⟩ (isD_ref.mpr rfl)
  · cases e; exact hF
  · cases e; exact .inr hp
  · by_cases e : a = p
    · subst e; rw [upd_same]; simp
    · rw [upd_ne e]; exact h
/-- the draws at slot i -/
def drD (s : Dr) : D → Option (Addr × List Int)
  | .ref a => (match s with | some (b, xs) => if a = b then some (b, xs) else none | none => none)
  | _ => none
theorem drD_ex {s : Dr} {d : D} {q : Addr × List Int} (h : drD s d = some q) : d = .ref q.1 ∧ s = some q := by
  unfold drD at h
  split at h
  · split at h
    · split at h
      · rename_i e; subst e; cases h; exact ⟨rfl, rfl⟩
      · cases h
    · cases h
  · cases h
theorem wd_set {q : Addr × List Int} {ys : List Int} {F H : Hp} (R : Rel WD (some q) F H) : Rel WD (some (q.1, ys)) F (upd H q.1 (.lst (ys.map V.int))) ∧ ∀ (s0 : Dr) (F0 H0 : Hp), Ext WD s0 (some q) F0 H0 F H → (∀ b o, H0 b = some o → ¬ WD.fp s0 b → b ≠ q.1) → Ext WD s0 (some (q.1, ys)) F0 H0 F (upd H q.1 (.lst (ys.map V.int))) := by
  have hf : F q.1 = none := R.ap q.1 ⟨q.2, rfl⟩
  refine ⟨⟨R.sub.temp hf, fun a ⟨xs, e⟩ => ?_, upd_same⟩, fun s0 F0 H0 X0 hne => ⟨X0.same, fun a o h n => ?_, X0.fresh, fun a ⟨xs, e⟩ => ?_, fun a h => ?_⟩⟩
  · cases e; exact hf
  · rw [upd_ne (hne a o h n)]; exact X0.kept a o h n
  · cases e; exact X0.grow _ ⟨q.2, rfl⟩
  · by_cases e : a = q.1
    · subst e; rw [upd_same]; simp
    · rw [upd_ne e]; exact X0.alive a h
theorem wd_ne {q : Addr × List Int} {s0 : Dr} {F0 H0 F H : Hp} (R0 : Rel WD s0 F0 H0) (X0 : Ext WD s0 (some q) F0 H0 F H) : ∀ b o, H0 b = some o → ¬ WD.fp s0 b → b ≠ q.1 := by
  intro b o hb n e
  subst e
  rcases X0.grow q.1 ⟨q.2, rfl⟩ with h | h
  · exact n h
  · rw [h] at hb; cases hb
/-- draws.append(e) -/
def ME.dapp (i : Nat) (m : ME Dr) : ME Dr := ⟨fun δ s Q => OQ (δ.getD i none) fun d => OQ (drD s d) fun _ => m.run δ s fun y s1 => OQ (drD s1 d) fun q => OQ (intD y) fun v => q.2.length < big ∧ Q .non (some (q.1, q.2 ++ [v])), fun h => OQ.mono fun _ => OQ.mono fun _ => m.mono fun _ _ => OQ.mono fun _ => OQ.mono fun _ => And.imp_right (h _ _)⟩
theorem tyV_lst {K : PySem.W.Frag} {H : Hp} {a : Addr} {xs : List V} (h : H a = some (.lst xs)) : tyV K "list" (.ref a) H := .inl ⟨rfl, xs, SqL.of h⟩
theorem intD_ex {d : D} {i : Int} (h : intD d = some i) : d = .int i := by
  unfold intD at h
  split at h
  · cases h; rfl
  · cases h
theorem g_drApp (i : Nat) {x : Str} {p2 : Pos} (he : PE X e (tG X.K WD m)) (hN : X.N[i]? = some x := by rfl) (hv : Vis X.env.scope x := by first | exact Or.inl rfl | exact Or.inr (Or.inl rfl) | exact Or.inr (Or.inr rfl)) (hd : (x == ("__debug__" : Str)) = false := by decide) (hcd : (x == ("__classdict__" : Str)) = false := by decide)
    (hbase : attributeBase (.Name x p2) "append" X.env (eval (.Name x p2) X.env) = eval (.Name x p2) X.env := by rfl)
    (hfew : ((backTo pos (starEach [e] X.env)).all (fun x => !x.1) && (backToKw pos (keywordEach [] X.env)).all (fun x => x.1.isSome)
      && decide (([e] : List Expr).length + ([] : List Keyword).length + (if ([] : List Keyword).isEmpty then 0 else 1) < 30)) = true := by rfl) (hline : (apos.endLine == pos.line) = true := by rfl)
    (hs : starEach [e] X.env = (false, eval e X.env) :: starEach [] X.env := by rfl) (hplain : (backTo pos (starEach [] X.env)).any (·.1) = false := by rfl) : PE X (.Call (.Attribute (.Name x p2) "append" apos) [e] [] pos) (tG X.K WD (ME.dapp i m)) := by
  refine PE.imp (pe_bm PySem.F.plainAttrs_list PySem.F.slot_list_append PySem.F.type_list_append mt_append (pe_var hN hv hd hcd) (pa_cons he pa_nil hs) hbase hfew hline hs hplain) fun σ H Q ⟨F, δ, s, R, E, h⟩ => ?_
  obtain ⟨d, e1, ha⟩ := OQ.ex h
  obtain ⟨q0, e2, hb⟩ := OQ.ex ha
  obtain ⟨rfl, rfl⟩ := drD_ex e2
  obtain ⟨v, h1, h2⟩ := slot_get E e1
  rw [isD_ref] at h2; subst h2
  refine ⟨_, h1, tyV_lst R.ok, F, δ, some q0, R, E, m.mono (fun y s1 q => ?_) hb⟩
  intro F1 H1 v R1 E1 d1
  obtain ⟨q1, e3, qa⟩ := OQ.ex q
  obtain ⟨i, e4, hz, qb⟩ := OQ.ex qa
  obtain ⟨e5, rfl⟩ := drD_ex e3
  cases intD_ex e4
  rw [isD_int] at d1; subst d1
  have e6 : q0.1 = q1.1 := D.ref.inj e5
  rw [e6]
  obtain ⟨R2, X2⟩ := wd_set (ys := q1.2 ++ [i]) R1
  refine ⟨q1.1, _, .int i, rfl, rfl, R1.ok, by rw [List.length_map, sizeLine_eq]; exact hz, ?_⟩
  have z := qb F1 (upd H1 q1.1 (.lst ((q1.2 ++ [i]).map V.int))) .non R2 (X2 _ _ _ E1 (wd_ne R E1)) (isD_non.mpr rfl)
  rw [List.map_append] at z
  exact z
/-- draws.pop() -/
def ME.dpop (i : Nat) : ME Dr := ⟨fun δ s Q => OQ (δ.getD i none) fun d => OQ (drD s d) fun q => OQ q.2.getLast? fun v => Q (.int v) (some (q.1, q.2.dropLast)), fun h => OQ.mono fun _ => OQ.mono fun _ => OQ.mono fun _ => h _ _⟩
theorem g_drPop (i : Nat) {x : Str} {p2 : Pos} (hN : X.N[i]? = some x := by rfl) (hv : Vis X.env.scope x := by first | exact Or.inl rfl | exact Or.inr (Or.inl rfl) | exact Or.inr (Or.inr rfl)) (hd : (x == ("__debug__" : Str)) = false := by decide) (hcd : (x == ("__classdict__" : Str)) = false := by decide)
    (hbase : attributeBase (.Name x p2) "pop" X.env (eval (.Name x p2) X.env) = eval (.Name x p2) X.env := by rfl) (hline : (apos.endLine == pos.line) = true := by rfl) : PE X (.Call (.Attribute (.Name x p2) "pop" apos) [] [] pos) (tG X.K WD (ME.dpop i)) := by
  refine PE.imp (pe_bm0 PySem.F.plainAttrs_list PySem.F.slot_list_pop PySem.F.type_list_pop mt_pop (pe_var hN hv hd hcd) hbase hline) fun σ H Q ⟨F, δ, s, R, E, h⟩ => ?_
  obtain ⟨d, e1, ha⟩ := OQ.ex h
  obtain ⟨q0, e2, hb⟩ := OQ.ex ha
  obtain ⟨k, e3, hc⟩ := OQ.ex hb
  obtain ⟨rfl, rfl⟩ := drD_ex e2
  obtain ⟨v, h1, h2⟩ := slot_get E e1
  rw [isD_ref] at h2; subst h2
  obtain ⟨R2, X2⟩ := wd_set (ys := q0.2.dropLast) R
  refine ⟨_, h1, tyV_lst R.ok, q0.1, _, .int k, rfl, rfl, R.ok, ?_, ?_⟩
  · rw [List.length_map, List.getElem?_map, ← List.getLast?_eq_getElem?, e3]; rfl
  · have z := hc F (upd H q0.1 (.lst (q0.2.dropLast.map V.int))) (.int k) R2 (X2 _ _ _ .refl (wd_ne R .refl)) (isD_int.mpr rfl)
    rw [List.map_dropLast] at z
    exact z
/-- len(draws) -/
def ME.dlen (i : Nat) : ME Dr := ⟨fun δ s Q => OQ (δ.getD i none) fun d => OQ (drD s d) fun q => Q (.int q.2.length) s, fun h => OQ.mono fun _ => OQ.mono fun _ => h _ _⟩
theorem g_drLen (i : Nat) {x : Str} {p2 : Pos} (hm : X.mg "len" = none) (hN : X.N[i]? = some x := by rfl) (hv : Vis X.env.scope x := by first | exact Or.inl rfl | exact Or.inr (Or.inl rfl) | exact Or.inr (Or.inr rfl)) (hd : (x == ("__debug__" : Str)) = false := by decide) (hcd : (x == ("__classdict__" : Str)) = false := by decide) (hg : Gl X "len" := by rfl)
    (he : starEach [.Name x p2] X.env = (false, eval (.Name x p2) X.env) :: starEach [] X.env := by rfl) (hpl : (backTo pos (starEach [] X.env)).any (·.1) = false := by rfl) : PE X (.Call (.Name "len" p) [.Name x p2] [] pos) (tG X.K WD (ME.dlen i)) := by
  refine PE.imp (pe_callB call_len_seq hg hm PySem.boot_len (pa_cons (pe_var hN hv hd hcd) pa_nil he) (by decide) (by decide) he hpl) fun σ H Q ⟨F, δ, s, R, E, h⟩ => ?_
  obtain ⟨d, e1, ha⟩ := OQ.ex h
  obtain ⟨q0, e2, hb⟩ := OQ.ex ha
  obtain ⟨rfl, rfl⟩ := drD_ex e2
  obtain ⟨v, h1, h2⟩ := slot_get E e1
  rw [isD_ref] at h2; subst h2
  refine ⟨_, h1, q0.1, q0.2.map V.int, rfl, .inl (SqL.of R.ok), ?_⟩
  rw [List.length_map]
  exact same_int R hb
/-- list(reversed(draws)) -/
def ME.drev (i : Nat) : ME Dr := ⟨fun δ s Q => OQ (δ.getD i none) fun d => OQ (drD s d) fun q => ∀ p, Q (.ref p) (some (p, q.2.reverse)), fun h => OQ.mono fun _ => OQ.mono fun _ q p => h _ _ (q p)⟩
theorem g_drRev (i : Nat) {x : Str} {p2 p3 p4 : Pos} (hc : X.calm = true) (hm : X.mg "list" = none) (hbb : bootBuiltins "list" = some (.type "list")) (hm2 : X.mg "reversed" = none) (hN : X.N[i]? = some x := by rfl) (hv : Vis X.env.scope x := by first | exact Or.inl rfl | exact Or.inr (Or.inl rfl) | exact Or.inr (Or.inr rfl)) (hd : (x == ("__debug__" : Str)) = false := by decide) (hcd : (x == ("__classdict__" : Str)) = false := by decide) (hg : Gl X "list" := by rfl) (hg2 : Gl X "reversed" := by rfl)
    (hs : starEach [.Name x p2] X.env = (false, eval (.Name x p2) X.env) :: starEach [] X.env := by rfl)
    (hs2 : starEach [.Call (.Name "reversed" p3) [.Name x p2] [] p4] X.env = (false, eval (.Call (.Name "reversed" p3) [.Name x p2] [] p4) X.env) :: starEach [] X.env := by rfl) :
    PE X (.Call (.Name "list" p) [.Call (.Name "reversed" p3) [.Name x p2] [] p4] [] pos) (tG X.K WD (ME.drev i)) := by
  refine PE.imp (pe_lstRev hc hm hbb hm2 (pe_var hN hv hd hcd) hg hg2 hs hs2) fun σ H Q ⟨F, δ, s, R, E, h⟩ => ?_
  obtain ⟨d, e1, ha⟩ := OQ.ex h
  obtain ⟨q0, e2, hb⟩ := OQ.ex ha
  obtain ⟨rfl, rfl⟩ := drD_ex e2
  obtain ⟨v, h1, h2⟩ := slot_get E e1
  rw [isD_ref] at h2; subst h2
  refine ⟨_, h1, q0.1, q0.2.map V.int, rfl, SqL.of R.ok, fun p hp => ?_⟩
  have hF := R.sub.none hp
  have z := hb p F (upd H p (.lst (q0.2.reverse.map V.int))) (.ref p) ⟨R.sub.temp hF, fun a ⟨xs, e⟩ => ?_, upd_same⟩ ⟨fun _ _ h => h, fun a o h _ => by rw [upd_ne (ne_of_none h hp)]; exact h, fun _ _ h => h, fun a ⟨xs, e⟩ => ?_, fun a h => ?_⟩ (isD_ref.mpr rfl)
  · rw [List.map_reverse] at z
    exact z
  · cases e; exact hF
  · cases e; exact .inr hp
  · by_cases e : a = p
    · subst e; rw [upd_same]; simp
    · rw [upd_ne e]; exact h
end
end G

set_option Elab.async false
set_option linter.all false
set_option maxRecDepth 100000
set_option maxHeartbeats 4000000
namespace G
open PySem PySem.Spec PyProof.Rows L2
def top (i : Nat) : Stmt := PySem.Challenge.pw_airheld_k91_whole_what_is_one_by_its_for.main.body.getD i (.Pass ⟨0, 0, 0, 0⟩)
structure Bls (mg : Str → Option Value) : Prop where
  isinstance : mg "isinstance" = none
  len : mg "len" = none
  all : mg "all" = none
  any : mg "any" = none
  sum : mg "sum" = none
  list : mg "list" = none
  tuple : mg "tuple" = none
  int : mg "int" = none
  abs : mg "abs" = none
  min : mg "min" = none
  sorted : mg "sorted" = none
  range : mg "range" = none
  zip : mg "zip" = none
  reversed : mg "reversed" = none
  bool : mg "bool" = none
  str : mg "str" = none
  dict : mg "dict" = none
theorem bb_isinstance : bootBuiltins "isinstance" = some (.builtin "isinstance") := by decide +kernel
theorem bb_len : bootBuiltins "len" = some (.builtin "len") := by decide +kernel
theorem bb_all : bootBuiltins "all" = some (.builtin "all") := by decide +kernel
theorem bb_any : bootBuiltins "any" = some (.builtin "any") := by decide +kernel
theorem bb_sum : bootBuiltins "sum" = some (.builtin "sum") := by decide +kernel
theorem bb_list : bootBuiltins "list" = some (.type "list") := by decide +kernel
theorem bb_tuple : bootBuiltins "tuple" = some (.type "tuple") := by decide +kernel
theorem bb_int : bootBuiltins "int" = some (.type "int") := by decide +kernel
theorem bb_abs : bootBuiltins "abs" = some (.builtin "abs") := by decide +kernel
theorem bb_min : bootBuiltins "min" = some (.builtin "min") := by decide +kernel
theorem bb_sorted : bootBuiltins "sorted" = some (.builtin "sorted") := by decide +kernel
theorem bb_range : bootBuiltins "range" = some (.type "range") := by decide +kernel
theorem bb_zip : bootBuiltins "zip" = some (.type "zip") := by decide +kernel
theorem bb_reversed : bootBuiltins "reversed" = some (.type "reversed") := by decide +kernel
theorem bb_bool : bootBuiltins "bool" = some (.type "bool") := by decide +kernel
theorem bb_str : bootBuiltins "str" = some (.type "str") := by decide +kernel
theorem bb_dict : bootBuiltins "dict" = some (.type "dict") := by decide +kernel
theorem hu1 {k : Nat} {A : Around} (r : Room k A) : A.units + 1 < cLine := by have := r.un; omega
theorem hu65 {k : Nat} {A : Around} (r : Room k A) : A.units + 65 < cLine := by have := r.un; omega
structure Df (K : PySem.W.Frag) (mg : Str → Option Value) (x q : Str) (st : Stmt) (ps : List Str) : Prop where
  ex : ∃ fa fd, Fun K q q st fa fd ∧ mg x = some (.ref fa) ∧ Binds K fd ps []
@[simp] theorem OQ_some {α : Type} {a : α} {Q : α → Prop} : OQ (some a) Q = Q a := rfl
abbrev s_is_integer : Stmt := top 5
theorem sc_is_integer : FnScope ["value"] ["value"] (defScope s_is_integer) := ⟨rfl, rfl, rfl, by decide +kernel, rfl, by decide +kernel, by decide +kernel⟩
abbrev s_is_within : Stmt := top 6
theorem sc_is_within : FnScope ["value", "low", "high"] ["value", "low", "high"] (defScope s_is_within) := ⟨rfl, rfl, rfl, by decide +kernel, rfl, by decide +kernel, by decide +kernel⟩
abbrev s_is_small : Stmt := top 7
theorem sc_is_small : FnScope ["sign"] ["sign"] (defScope s_is_small) := ⟨rfl, rfl, rfl, by decide +kernel, rfl, by decide +kernel, by decide +kernel⟩
abbrev s_is_name : Stmt := top 8
theorem sc_is_name : FnScope ["value", "sign"] ["value"] (defScope s_is_name) := ⟨rfl, rfl, rfl, by decide +kernel, rfl, by decide +kernel, by decide +kernel⟩
abbrev s_is_word : Stmt := top 9
theorem sc_is_word : FnScope ["value"] ["value"] (defScope s_is_word) := ⟨rfl, rfl, rfl, by decide +kernel, rfl, by decide +kernel, by decide +kernel⟩
abbrev s_are_words : Stmt := top 10
theorem sc_are_words : FnScope ["value", "one"] ["value"] (defScope s_are_words) := ⟨rfl, rfl, rfl, by decide +kernel, rfl, by decide +kernel, by decide +kernel⟩
abbrev s_check : Stmt := top 11
theorem sc_check : FnScope ["is_right"] ["is_right"] (defScope s_check) := ⟨rfl, rfl, rfl, by decide +kernel, rfl, by decide +kernel, by decide +kernel⟩
abbrev s_is_page : Stmt := top 21
theorem sc_is_page : FnScope ["value"] ["value"] (defScope s_is_page) := ⟨rfl, rfl, rfl, by decide +kernel, rfl, by decide +kernel, by decide +kernel⟩
abbrev s_are_rights : Stmt := top 22
theorem sc_are_rights : FnScope ["value"] ["value"] (defScope s_are_rights) := ⟨rfl, rfl, rfl, by decide +kernel, rfl, by decide +kernel, by decide +kernel⟩
abbrev s_is_asked_kind : Stmt := top 23
theorem sc_is_asked_kind : FnScope ["value"] ["value"] (defScope s_is_asked_kind) := ⟨rfl, rfl, rfl, by decide +kernel, rfl, by decide +kernel, by decide +kernel⟩
abbrev s_is_length : Stmt := top 24
theorem sc_is_length : FnScope ["value", "low", "high"] ["value", "low", "high"] (defScope s_is_length) := ⟨rfl, rfl, rfl, by decide +kernel, rfl, by decide +kernel, by decide +kernel⟩
abbrev s_is_part_calls : Stmt := top 25
theorem sc_is_part_calls : FnScope ["sign", "value"] ["sign", "value"] (defScope s_is_part_calls) := ⟨rfl, rfl, rfl, by decide +kernel, rfl, by decide +kernel, by decide +kernel⟩
abbrev s_has_form : Stmt := top 27
theorem sc_has_form : FnScope ["value", "form", "sign", "one"] ["value"] (defScope s_has_form) := ⟨rfl, rfl, rfl, by decide +kernel, rfl, by decide +kernel, by decide +kernel⟩
abbrev s_is_call_calls : Stmt := top 28
theorem sc_is_call_calls : FnScope ["value"] ["value"] (defScope s_is_call_calls) := ⟨rfl, rfl, rfl, by decide +kernel, rfl, by decide +kernel, by decide +kernel⟩
abbrev s_is_call_world : Stmt := top 31
theorem sc_is_call_world : FnScope ["value"] ["value"] (defScope s_is_call_world) := ⟨rfl, rfl, rfl, by decide +kernel, rfl, by decide +kernel, by decide +kernel⟩
abbrev s_is_asking : Stmt := top 36
theorem sc_is_asking : FnScope ["value"] ["value"] (defScope s_is_asking) := ⟨rfl, rfl, rfl, by decide +kernel, rfl, by decide +kernel, by decide +kernel⟩
abbrev s_are_askings : Stmt := top 37
theorem sc_are_askings : FnScope ["value", "one"] ["value"] (defScope s_are_askings) := ⟨rfl, rfl, rfl, by decide +kernel, rfl, by decide +kernel, by decide +kernel⟩
abbrev s_is_count_courses : Stmt := top 40
theorem sc_is_count_courses : FnScope ["value"] ["value"] (defScope s_is_count_courses) := ⟨rfl, rfl, rfl, by decide +kernel, rfl, by decide +kernel, by decide +kernel⟩
abbrev s_are_indexes : Stmt := top 42
theorem sc_are_indexes : FnScope ["value", "one", "other"] ["value"] (defScope s_are_indexes) := ⟨rfl, rfl, rfl, by decide +kernel, rfl, by decide +kernel, by decide +kernel⟩
abbrev s_is_part_courses : Stmt := top 43
theorem sc_is_part_courses : FnScope ["sign", "value"] ["sign", "value"] (defScope s_is_part_courses) := ⟨rfl, rfl, rfl, by decide +kernel, rfl, by decide +kernel, by decide +kernel⟩
abbrev s_is_step : Stmt := top 45
theorem sc_is_step : FnScope ["value", "form", "sign", "one"] ["value"] (defScope s_is_step) := ⟨rfl, rfl, rfl, by decide +kernel, rfl, by decide +kernel, by decide +kernel⟩
abbrev s_is_course : Stmt := top 46
theorem sc_is_course : FnScope ["value", "step"] ["value"] (defScope s_is_course) := ⟨rfl, rfl, rfl, by decide +kernel, rfl, by decide +kernel, by decide +kernel⟩
abbrev s_is_count_buffers : Stmt := top 48
theorem sc_is_count_buffers : FnScope ["value"] ["value"] (defScope s_is_count_buffers) := ⟨rfl, rfl, rfl, by decide +kernel, rfl, by decide +kernel, by decide +kernel⟩
abbrev s_is_doing : Stmt := top 57
theorem sc_is_doing : FnScope ["value", "many", "one"] ["value"] (defScope s_is_doing) := ⟨rfl, rfl, rfl, by decide +kernel, rfl, by decide +kernel, by decide +kernel⟩
abbrev s_names_of : Stmt := top 58
theorem sc_names_of : FnScope ["thread", "doing"] ["thread"] (defScope s_names_of) := ⟨rfl, rfl, rfl, by decide +kernel, rfl, by decide +kernel, by decide +kernel⟩
abbrev s_is_thread : Stmt := top 59
theorem sc_is_thread : FnScope ["value", "doing"] ["value"] (defScope s_is_thread) := ⟨rfl, rfl, rfl, by decide +kernel, rfl, by decide +kernel, by decide +kernel⟩
abbrev s_are_threads : Stmt := top 60
theorem sc_are_threads : FnScope ["value", "names", "thread", "name"] ["value"] (defScope s_are_threads) := ⟨rfl, rfl, rfl, by decide +kernel, rfl, by decide +kernel, by decide +kernel⟩
abbrev s_is_row : Stmt := top 64
theorem sc_is_row : FnScope ["value", "one"] ["value"] (defScope s_is_row) := ⟨rfl, rfl, rfl, by decide +kernel, rfl, by decide +kernel, by decide +kernel⟩
abbrev s_check_rows : Stmt := top 65
theorem sc_check_rows : FnScope ["rows", "row"] ["rows"] (defScope s_check_rows) := ⟨rfl, rfl, rfl, by decide +kernel, rfl, by decide +kernel, by decide +kernel⟩
abbrev s_is_piece : Stmt := top 66
theorem sc_is_piece : FnScope ["length", "value"] ["length", "value"] (defScope s_is_piece) := ⟨rfl, rfl, rfl, by decide +kernel, rfl, by decide +kernel, by decide +kernel⟩
abbrev s_is_patch : Stmt := top 67
theorem sc_is_patch : FnScope ["one", "patch"] ["one", "patch"] (defScope s_is_patch) := ⟨rfl, rfl, rfl, by decide +kernel, rfl, by decide +kernel, by decide +kernel⟩
abbrev s_are_pieces : Stmt := top 68
theorem sc_are_pieces : FnScope ["length", "patch", "piece"] ["length", "patch"] (defScope s_are_pieces) := ⟨rfl, rfl, rfl, by decide +kernel, rfl, by decide +kernel, by decide +kernel⟩
abbrev s_is_worth : Stmt := top 76
theorem sc_is_worth : FnScope ["value", "deep", "word", "parts", "part"] ["value", "deep"] (defScope s_is_worth) := ⟨rfl, rfl, rfl, by decide +kernel, rfl, by decide +kernel, by decide +kernel⟩
abbrev s_is_condition : Stmt := top 77
theorem sc_is_condition : FnScope ["value", "deep", "word", "parts", "part"] ["value", "deep"] (defScope s_is_condition) := ⟨rfl, rfl, rfl, by decide +kernel, rfl, by decide +kernel, by decide +kernel⟩
abbrev s_is_part_programs : Stmt := top 78
theorem sc_is_part_programs : FnScope ["sign", "value"] ["sign", "value"] (defScope s_is_part_programs) := ⟨rfl, rfl, rfl, by decide +kernel, rfl, by decide +kernel, by decide +kernel⟩
abbrev s_is_line : Stmt := top 81
theorem sc_is_line : FnScope ["value", "form", "sign", "one"] ["value"] (defScope s_is_line) := ⟨rfl, rfl, rfl, by decide +kernel, rfl, by decide +kernel, by decide +kernel⟩
abbrev s_inner_lines : Stmt := top 82
theorem sc_inner_lines : FnScope ["line", "sign", "part"] ["line"] (defScope s_inner_lines) := ⟨rfl, rfl, rfl, by decide +kernel, rfl, by decide +kernel, by decide +kernel⟩
abbrev s_lines_left : Stmt := top 83
theorem sc_lines_left : FnScope ["lines", "deep", "left", "line", "inner"] ["lines", "deep", "left"] (defScope s_lines_left) := ⟨rfl, rfl, rfl, by decide +kernel, rfl, by decide +kernel, by decide +kernel⟩
abbrev s_is_program : Stmt := top 84
theorem sc_is_program : FnScope ["value"] ["value"] (defScope s_is_program) := ⟨rfl, rfl, rfl, by decide +kernel, rfl, by decide +kernel, by decide +kernel⟩
abbrev s_is_frame : Stmt := top 89
theorem sc_is_frame : FnScope ["value"] ["value"] (defScope s_is_frame) := ⟨rfl, rfl, rfl, by decide +kernel, rfl, by decide +kernel, by decide +kernel⟩
abbrev s_is_told : Stmt := top 90
theorem sc_is_told : FnScope ["value"] ["value"] (defScope s_is_told) := ⟨rfl, rfl, rfl, by decide +kernel, rfl, by decide +kernel, by decide +kernel⟩
abbrev s_is_mapping : Stmt := top 91
theorem sc_is_mapping : FnScope ["value", "told", "page"] ["value"] (defScope s_is_mapping) := ⟨rfl, rfl, rfl, by decide +kernel, rfl, by decide +kernel, by decide +kernel⟩
abbrev s_is_sign : Stmt := top 98
theorem sc_is_sign : FnScope ["value", "own", "rules"] ["value", "own", "rules"] (defScope s_is_sign) := ⟨rfl, rfl, rfl, by decide +kernel, rfl, by decide +kernel, by decide +kernel⟩
abbrev s_are_rules : Stmt := top 99
theorem sc_are_rules : FnScope ["value", "sign", "own", "row"] ["value"] (defScope s_are_rules) := ⟨rfl, rfl, rfl, by decide +kernel, rfl, by decide +kernel, by decide +kernel⟩
abbrev s__law_draws : Stmt := top 101
theorem sc__law_draws : FnScope ["script", "draws", "cell", "seed", "k", "number", "first"] ["script"] (defScope s__law_draws) := ⟨rfl, rfl, rfl, by decide +kernel, rfl, by decide +kernel, by decide +kernel⟩
abbrev s__law_take : Stmt := top 102
theorem sc__law_take : FnScope ["draws", "bound"] ["draws", "bound"] (defScope s__law_take) := ⟨rfl, rfl, rfl, by decide +kernel, rfl, by decide +kernel, by decide +kernel⟩
abbrev s__law_pick : Stmt := top 103
theorem sc__law_pick : FnScope ["draws", "some"] ["draws", "some"] (defScope s__law_pick) := ⟨rfl, rfl, rfl, by decide +kernel, rfl, by decide +kernel, by decide +kernel⟩
abbrev s__law_tells : Stmt := top 104
theorem sc__law_tells : FnScope ["call", "right", "wrong", "value"] ["call", "right", "wrong"] (defScope s__law_tells) := ⟨rfl, rfl, rfl, by decide +kernel, rfl, by decide +kernel, by decide +kernel⟩
abbrev s__law_word : Stmt := top 105
theorem sc__law_word : FnScope ["draws"] ["draws"] (defScope s__law_word) := ⟨rfl, rfl, rfl, by decide +kernel, rfl, by decide +kernel, by decide +kernel⟩
abbrev s__law_name : Stmt := top 106
theorem sc__law_name : FnScope ["draws"] ["draws"] (defScope s__law_name) := ⟨rfl, rfl, rfl, by decide +kernel, rfl, by decide +kernel, by decide +kernel⟩
abbrev s__law_calls : Stmt := top 107
theorem sc__law_calls : FnScope ["draws", "words", "found", "a", "w", "p", "n", "x", "y", "kind", "rights", "size", "k"] ["draws"] (defScope s__law_calls) := ⟨rfl, rfl, rfl, by decide +kernel, rfl, by decide +kernel, by decide +kernel⟩
abbrev s__law_are_calls_due : Stmt := top 108
theorem sc__law_are_calls_due : FnScope ["draws", "calls", "bent", "steps", "wrong", "kind", "own", "k", "x", "word", "step", "call"] ["draws"] (defScope s__law_are_calls_due) := ⟨rfl, rfl, rfl, by decide +kernel, rfl, by decide +kernel, by decide +kernel⟩
abbrev s__law_are_threads_due : Stmt := top 109
theorem sc__law_are_threads_due : FnScope ["draws", "good", "bent", "pairs", "wrong", "a", "w", "put", "fence", "k"] ["draws"] (defScope s__law_are_threads_due) := ⟨rfl, rfl, rfl, by decide +kernel, rfl, by decide +kernel, by decide +kernel⟩
abbrev s__law_are_rows_due : Stmt := top 110
theorem sc__law_are_rows_due : FnScope ["draws", "bent", "good", "row", "n", "page", "frame", "sign", "times", "k"] ["draws"] (defScope s__law_are_rows_due) := ⟨rfl, rfl, rfl, by decide +kernel, rfl, by decide +kernel, by decide +kernel⟩
abbrev s__law_worth : Stmt := top 111
theorem sc__law_worth : FnScope ["draws", "deep", "kind", "part"] ["draws", "deep"] (defScope s__law_worth) := ⟨rfl, rfl, rfl, by decide +kernel, rfl, by decide +kernel, by decide +kernel⟩
abbrev s__law_are_programs_due : Stmt := top 112
theorem sc__law_are_programs_due : FnScope ["draws", "c", "calls", "good", "bent", "right", "a", "b", "x", "n", "call", "line"] ["draws"] (defScope s__law_are_programs_due) := ⟨rfl, rfl, rfl, by decide +kernel, rfl, by decide +kernel, by decide +kernel⟩
abbrev s_law : Stmt := top 113
theorem sc_law : FnScope ["script", "draws", "turn"] ["script"] (defScope s_law) := ⟨rfl, rfl, rfl, by decide +kernel, rfl, by decide +kernel, by decide +kernel⟩
def tb_FORMS_calls : List (Str × D) := [("read", (.str "a")), ("write", (.str "aw")), ("map", (.str "gnkr")), ("unmap", (.str "fn")), ("rights", (.str "fnr")), ("fork", (.str "x")), ("exit", (.str "")), ("make", (.str "x")), ("cut", (.str "xs")), ("drop", (.str "x")), ("get", (.str "xpp")), ("put", (.str "xpv")), ("sync", (.str "")), ("kept", (.str "i")), ("post", (.str "ad")), ("look", (.str "i"))]
def tb_FORMS_courses : List (Str × D) := [("start", (.str "x")), ("do", (.str "cxe")), ("take", (.str "c")), ("press", (.str "c")), ("move", (.str "c")), ("merge", (.str "c")), ("join", (.str "c")), ("split", (.str "c")), ("write", (.str "c")), ("age", (.str "")), ("settle", (.str "")), ("device", (.str "c")), ("crash", (.str "d"))]
def tb_NAMED : List (Str × D) := [("get", (.int 1)), ("swap", (.int 3))]
def tb_FORMS_programs : List (Str × D) := [("set", (.str "xw")), ("write", (.str "ww")), ("map", (.str "xnkr")), ("unmap", (.str "wn")), ("if", (.str "cll")), ("while", (.str "cml")), ("call", (.str "xe")), ("stop", (.str ""))]
structure Txt (K : PySem.W.Frag) (w : World) (mg : Str → Option Value) : Prop where
  b : Bls mg
  k_MOST_SIGNS_errors : GlobD K mg "MOST_SIGNS_errors" (.int 8)
  k_MOST_WORD : GlobD K mg "MOST_WORD" (.int 65535)
  k_MOST_PAGE_calls : GlobD K mg "MOST_PAGE_calls" (.int 4095)
  k_MOST_MANY : GlobD K mg "MOST_MANY" (.int 4096)
  k_MOST_FROM : GlobD K mg "MOST_FROM" (.int 95)
  k_MOST_FILE : GlobD K mg "MOST_FILE" (.int 1536)
  k_MOST_SIZE : GlobD K mg "MOST_SIZE" (.int 65535)
  k_MOST_POSTED : GlobD K mg "MOST_POSTED" (.int 16)
  k_RIGHTS_calls : GlobD K mg "RIGHTS_calls" (.tup [(.str "r"), (.str "rw")])
  t_FORMS_calls : GlobT K w mg "FORMS_calls" tb_FORMS_calls
  k_MOST_ASKINGS : GlobD K mg "MOST_ASKINGS" (.int 16)
  k_MOST_PAGE_costs : GlobD K mg "MOST_PAGE_costs" (.int 7)
  t_FORMS_courses : GlobT K w mg "FORMS_courses" tb_FORMS_courses
  k_MOST_THREADS : GlobD K mg "MOST_THREADS" (.int 4)
  k_MOST_DOINGS : GlobD K mg "MOST_DOINGS" (.int 6)
  k_MOST_ROWS : GlobD K mg "MOST_ROWS" (.int 12)
  k_PUT_orders : GlobD K mg "PUT_orders" (.str "put")
  k_FENCE : GlobD K mg "FENCE" (.tup [(.str "fence")])
  t_NAMED : GlobT K w mg "NAMED" tb_NAMED
  k_KEEP : GlobD K mg "KEEP" (.str "keep")
  k_PUT_patches : GlobD K mg "PUT_patches" (.str "put")
  k_MOST_LINES : GlobD K mg "MOST_LINES" (.int 200)
  k_MOST_DEEP : GlobD K mg "MOST_DEEP" (.int 12)
  k_MOST_WORTH : GlobD K mg "MOST_WORTH" (.int 8)
  k_MOST_ROUNDS : GlobD K mg "MOST_ROUNDS" (.int 1000)
  k_TWO : GlobD K mg "TWO" (.tup [(.str "sum"), (.str "less"), (.str "times")])
  k_COMPARED : GlobD K mg "COMPARED" (.tup [(.str "same"), (.str "below")])
  t_FORMS_programs : GlobT K w mg "FORMS_programs" tb_FORMS_programs
  k_MOST_FRAMES : GlobD K mg "MOST_FRAMES" (.int 1024)
  k_PAGES : GlobD K mg "PAGES" (.int 4096)
  k_RIGHTS_sharing : GlobD K mg "RIGHTS_sharing" (.tup [(.int 1), (.int 3)])
  k_MOST_PAGE_shortrows : GlobD K mg "MOST_PAGE_shortrows" (.int 30)
  k_MOST_SIGNS_shortrows : GlobD K mg "MOST_SIGNS_shortrows" (.int 2000)
  k_MOST_TIMES : GlobD K mg "MOST_TIMES" (.int 1000000)
  k_PAGE_SIGN : GlobD K mg "PAGE_SIGN" (.str "page")
  k_RULE : GlobD K mg "RULE" (.str "rule")
  d_is_integer : Df K mg "is_integer" "is_integer" s_is_integer ["value"]
  d_is_within : Df K mg "is_within" "is_within" s_is_within ["value", "low", "high"]
  d_is_small : Df K mg "is_small" "is_small" s_is_small ["sign"]
  d_is_name : Df K mg "is_name" "is_name" s_is_name ["value"]
  d_is_word : Df K mg "is_word" "is_word" s_is_word ["value"]
  d_are_words : Df K mg "are_words" "are_words" s_are_words ["value"]
  d_check : Df K mg "check" "check" s_check ["is_right"]
  d_is_page : Df K mg "is_page" "is_page" s_is_page ["value"]
  d_are_rights : Df K mg "are_rights" "are_rights" s_are_rights ["value"]
  d_is_asked_kind : Df K mg "is_asked_kind" "is_asked_kind" s_is_asked_kind ["value"]
  d_is_length : Df K mg "is_length" "is_length" s_is_length ["value", "low", "high"]
  d_is_part_calls : Df K mg "is_part_calls" "is_part" s_is_part_calls ["sign", "value"]
  d_has_form : Df K mg "has_form" "has_form" s_has_form ["value"]
  d_is_call_calls : Df K mg "is_call_calls" "is_call" s_is_call_calls ["value"]
  d_is_call_world : Df K mg "is_call_world" "is_call" s_is_call_world ["value"]
  d_is_asking : Df K mg "is_asking" "is_asking" s_is_asking ["value"]
  d_are_askings : Df K mg "are_askings" "are_askings" s_are_askings ["value"]
  d_is_count_courses : Df K mg "is_count_courses" "is_count" s_is_count_courses ["value"]
  d_are_indexes : Df K mg "are_indexes" "are_indexes" s_are_indexes ["value"]
  d_is_part_courses : Df K mg "is_part_courses" "is_part" s_is_part_courses ["sign", "value"]
  d_is_step : Df K mg "is_step" "is_step" s_is_step ["value"]
  d_is_course : Df K mg "is_course" "is_course" s_is_course ["value"]
  d_is_count_buffers : Df K mg "is_count_buffers" "is_count" s_is_count_buffers ["value"]
  d_is_doing : Df K mg "is_doing" "is_doing" s_is_doing ["value"]
  d_names_of : Df K mg "names_of" "names_of" s_names_of ["thread"]
  d_is_thread : Df K mg "is_thread" "is_thread" s_is_thread ["value"]
  d_are_threads : Df K mg "are_threads" "are_threads" s_are_threads ["value"]
  d_is_row : Df K mg "is_row" "is_row" s_is_row ["value"]
  r_check_rows : ∃ fa fd, Fun K "check_rows" "check_rows" s_check_rows fa fd ∧ mg "check_rows" = some (.ref fa)
  d_is_piece : Df K mg "is_piece" "is_piece" s_is_piece ["length", "value"]
  d_is_patch : Df K mg "is_patch" "is_patch" s_is_patch ["one", "patch"]
  d_are_pieces : Df K mg "are_pieces" "are_pieces" s_are_pieces ["length", "patch"]
  d_is_worth : Df K mg "is_worth" "is_worth" s_is_worth ["value", "deep"]
  d_is_condition : Df K mg "is_condition" "is_condition" s_is_condition ["value", "deep"]
  d_is_part_programs : Df K mg "is_part_programs" "is_part" s_is_part_programs ["sign", "value"]
  d_is_line : Df K mg "is_line" "is_line" s_is_line ["value"]
  d_inner_lines : Df K mg "inner_lines" "inner_lines" s_inner_lines ["line"]
  d_lines_left : Df K mg "lines_left" "lines_left" s_lines_left ["lines", "deep", "left"]
  d_is_program : Df K mg "is_program" "is_program" s_is_program ["value"]
  d_is_frame : Df K mg "is_frame" "is_frame" s_is_frame ["value"]
  d_is_told : Df K mg "is_told" "is_told" s_is_told ["value"]
  d_is_mapping : Df K mg "is_mapping" "is_mapping" s_is_mapping ["value"]
  d_is_sign : Df K mg "is_sign" "is_sign" s_is_sign ["value", "own", "rules"]
  d_are_rules : Df K mg "are_rules" "are_rules" s_are_rules ["value"]
  d__law_draws : Df K mg "_law_draws" "_law_draws" s__law_draws ["script"]
  d__law_take : Df K mg "_law_take" "_law_take" s__law_take ["draws", "bound"]
  d__law_pick : Df K mg "_law_pick" "_law_pick" s__law_pick ["draws", "some"]
  d__law_tells : Df K mg "_law_tells" "_law_tells" s__law_tells ["call", "right", "wrong"]
  d__law_word : Df K mg "_law_word" "_law_word" s__law_word ["draws"]
  d__law_name : Df K mg "_law_name" "_law_name" s__law_name ["draws"]
  d__law_calls : Df K mg "_law_calls" "_law_calls" s__law_calls ["draws"]
  d__law_are_calls_due : Df K mg "_law_are_calls_due" "_law_are_calls_due" s__law_are_calls_due ["draws"]
  d__law_are_threads_due : Df K mg "_law_are_threads_due" "_law_are_threads_due" s__law_are_threads_due ["draws"]
  d__law_are_rows_due : Df K mg "_law_are_rows_due" "_law_are_rows_due" s__law_are_rows_due ["draws"]
  d__law_worth : Df K mg "_law_worth" "_law_worth" s__law_worth ["draws", "deep"]
  d__law_are_programs_due : Df K mg "_law_are_programs_due" "_law_are_programs_due" s__law_are_programs_due ["draws"]
  d_law : Df K mg "law" "law" s_law ["script"]
section
variable {S : Type} {P : Program} {w : World} {K : PySem.W.Frag} {mg : Str → Option Value} {base : Heap} {W : Wd S}
end
end G

set_option Elab.async false
set_option linter.all false
set_option maxRecDepth 100000
set_option maxHeartbeats 4000000
namespace G
open PySem PySem.Spec PyProof.Rows L2
/-! ### plain laws: what is one by its form -/
/-! good data: texts are texts, not too long; n deep at most -/
mutual
def gd (n : Nat) : D → Bool
  | .non => true
  | .bl _ => true
  | .int _ => true
  | .str x => PyData.strOk x && decide (x.length ≤ 16777216)
  | .tup ds => match n with | 0 => false | n + 1 => gds n ds
  | .lst ds => match n with | 0 => false | n + 1 => gds n ds
  | .ref _ => false
  | .ty _ => false
  | .dct _ _ => false
def gds (n : Nat) : List D → Bool
  | [] => true
  | d :: ds => gd n d && gds n ds
end
mutual
theorem gd_sh : ∀ (n m : Nat) (d : D), n ≤ m → gd n d = true → shD m d = true
  | _, _, .non, _, _ => by simp [shD]
  | _, _, .bl _, _, _ => by simp [shD]
  | _, _, .int _, _, _ => by simp [shD]
  | _, _, .str x, _, h => by simp only [gd, Bool.and_eq_true] at h; simp only [shD]; exact h.1
  | 0, _, .tup _, _, h => by simp [gd] at h
  | n + 1, m, .tup ds, hm, h => by
    obtain ⟨m', rfl⟩ : ∃ m', m = m' + 1 := ⟨m - 1, by omega⟩
    simp only [gd] at h
    simp only [shD]
    exact gds_sh n m' ds (by omega) h
  | 0, _, .lst _, _, h => by simp [gd] at h
  | n + 1, m, .lst ds, hm, h => by
    obtain ⟨m', rfl⟩ : ∃ m', m = m' + 1 := ⟨m - 1, by omega⟩
    simp only [gd] at h
    simp only [shD]
    exact gds_sh n m' ds (by omega) h
  | _, _, .ref _, _, h => by simp [gd] at h
  | _, _, .ty _, _, h => by simp [gd] at h
  | _, _, .dct _ _, _, h => by simp [gd] at h
theorem gds_sh : ∀ (n m : Nat) (ds : List D), n ≤ m → gds n ds = true → shDs m ds = true
  | _, _, [], _, _ => by simp [shDs]
  | n, m, d :: ds, hm, h => by
    simp only [gds, Bool.and_eq_true] at h
    simp only [shDs, Bool.and_eq_true]
    exact ⟨gd_sh n m d hm h.1, gds_sh n m ds hm h.2⟩
end
mutual
theorem gd_mono : ∀ (n m : Nat) (d : D), n ≤ m → gd n d = true → gd m d = true
  | _, _, .non, _, _ => by simp [gd]
  | _, _, .bl _, _, _ => by simp [gd]
  | _, _, .int _, _, _ => by simp [gd]
  | _, _, .str x, _, h => by simpa only [gd] using h
  | 0, _, .tup _, _, h => by simp [gd] at h
  | n + 1, m, .tup ds, hm, h => by
    obtain ⟨m', rfl⟩ : ∃ m', m = m' + 1 := ⟨m - 1, by omega⟩
    simp only [gd] at h ⊢
    exact gds_mono n m' ds (by omega) h
  | 0, _, .lst _, _, h => by simp [gd] at h
  | n + 1, m, .lst ds, hm, h => by
    obtain ⟨m', rfl⟩ : ∃ m', m = m' + 1 := ⟨m - 1, by omega⟩
    simp only [gd] at h ⊢
    exact gds_mono n m' ds (by omega) h
  | _, _, .ref _, _, h => by simp [gd] at h
  | _, _, .ty _, _, h => by simp [gd] at h
  | _, _, .dct _ _, _, h => by simp [gd] at h
theorem gds_mono : ∀ (n m : Nat) (ds : List D), n ≤ m → gds n ds = true → gds m ds = true
  | _, _, [], _, _ => by simp [gds]
  | n, m, d :: ds, hm, h => by
    simp only [gds, Bool.and_eq_true] at h ⊢
    exact ⟨gd_mono n m d hm h.1, gds_mono n m ds hm h.2⟩
end
theorem gds_all {n : Nat} : ∀ {ds : List D}, gds n ds = true ↔ ∀ d ∈ ds, gd n d = true
  | [] => by simp [gds]
  | d :: ds => by simp only [gds, Bool.and_eq_true, gds_all (ds := ds), List.forall_mem_cons]
/-- the blanket premise -/
abbrev ok (d : D) : Prop := gd 40 d = true
theorem ok_tup {ds : List D} (h : ok (.tup ds)) : ∀ d ∈ ds, ok d := fun d hd => gd_mono 39 40 d (by omega) (gds_all.mp (by simpa only [ok, gd] using h) d hd)
theorem ok_lst {ds : List D} (h : ok (.lst ds)) : ∀ d ∈ ds, ok d := fun d hd => gd_mono 39 40 d (by omega) (gds_all.mp (by simpa only [ok, gd] using h) d hd)
theorem ok_sh {d : D} (h : ok d) : shD 64 d = true := gd_sh 40 64 d (by omega) h
theorem ok_sh63 {d : D} (h : ok d) : shD 63 d = true := gd_sh 40 63 d (by omega) h
theorem ok_str {x : Str} (h : ok (.str x)) : PyData.strOk x = true ∧ x.length ≤ 16777216 := by simpa [ok, gd] using h
def eqP (a b : D) : Bool := PyData.eqv (toP a) (toP b)
theorem eqD_ok {a b : D} (ha : shD 64 a = true) (hb : shD 64 b = true) : eqD a b = some (eqP a b) := by unfold eqD; rw [if_pos ⟨ha, hb⟩]; rfl
theorem neD_ok {a b : D} (ha : shD 64 a = true) (hb : shD 64 b = true) : neD a b = some (!eqP a b) := by unfold neD; rw [eqD_ok ha hb]; rfl
theorem inD_tup {x : D} {ds : List D} (ha : shD 64 x = true) (hb : shDs 63 ds = true) : inD x (.tup ds) = some (ds.any fun z => eqP z x) := by
  unfold inD; simp only [ha, hb, and_self, if_true]; rfl
theorem notInD_tup {x : D} {ds : List D} (ha : shD 64 x = true) (hb : shDs 63 ds = true) : notInD x (.tup ds) = some (!ds.any fun z => eqP z x) := by
  unfold notInD; rw [inD_tup ha hb]; rfl

/-- MF's: one datum to a bool -/
def pf1 {S : Type} (pre : D → Prop) (p : D → Bool) : MF S := ⟨fun ds s Q => match ds with | [d] => pre d ∧ Q (.bl (p d)) s | _ => False, fun {ds s Q Q'} h q => by
  match ds, q with
  | [d], q => exact ⟨q.1, h _ _ q.2⟩⟩
theorem pf1_inv {S : Type} {pre : D → Prop} {p : D → Bool} {ds : List D} {s : S} {Q : D → S → Prop} (h : (pf1 pre p : MF S).run ds s Q) : ∃ d, ds = [d] ∧ pre d ∧ Q (.bl (p d)) s := by
  match ds, h with
  | [d], h => exact ⟨d, rfl, h⟩
def pf2 {S : Type} (pre : D → D → Prop) (p : D → D → Bool) : MF S := ⟨fun ds s Q => match ds with | [d, e] => pre d e ∧ Q (.bl (p d e)) s | _ => False, fun {ds s Q Q'} h q => by
  match ds, q with
  | [d, e], q => exact ⟨q.1, h _ _ q.2⟩⟩
theorem pf2_inv {S : Type} {pre : D → D → Prop} {p : D → D → Bool} {ds : List D} {s : S} {Q : D → S → Prop} (h : (pf2 pre p : MF S).run ds s Q) : ∃ d e, ds = [d, e] ∧ pre d e ∧ Q (.bl (p d e)) s := by
  match ds, h with
  | [d, e], h => exact ⟨d, e, rfl, h⟩
def pf3 {S : Type} (pre : D → D → D → Prop) (p : D → D → D → Bool) : MF S := ⟨fun ds s Q => match ds with | [d, e, g] => pre d e g ∧ Q (.bl (p d e g)) s | _ => False, fun {ds s Q Q'} h q => by
  match ds, q with
  | [d, e, g], q => exact ⟨q.1, h _ _ q.2⟩⟩
theorem pf3_inv {S : Type} {pre : D → D → D → Prop} {p : D → D → D → Bool} {ds : List D} {s : S} {Q : D → S → Prop} (h : (pf3 pre p : MF S).run ds s Q) : ∃ d e g, ds = [d, e, g] ∧ pre d e g ∧ Q (.bl (p d e g)) s := by
  match ds, h with
  | [d, e, g], h => exact ⟨d, e, g, rfl, h⟩
/-- a comprehension whose turns answer by a function -/
theorem lc_map {S : Type} {t : Tgt} {te : ME S} {δ : En} {s : S} {k : List D → S → Prop} {f : D → D} : ∀ (ds : List D), (∀ d ∈ ds, ∃ δ1, setT t d δ = some δ1 ∧ ∀ Q, Q (f d) s → te.run δ1 s Q) → k (ds.map f) s → lcRun t MT.yes te δ ds s k
  | [], _, h => h
  | d :: ds, hd, h => by
    obtain ⟨δ1, e, h1⟩ := hd d List.mem_cons_self
    unfold lcRun
    rw [e]
    show (if true = true then te.run δ1 s fun y s2 => lcRun t MT.yes te δ ds s2 fun r s3 => k (y :: r) s3 else lcRun t MT.yes te δ ds s k)
    rw [if_pos rfl]
    exact h1 _ (lc_map (k := fun r s3 => k (f d :: r) s3) ds (fun d' hd' => hd d' (List.mem_cons_of_mem _ hd')) h)
theorem blsD_map (f : D → Bool) : ∀ ds : List D, blsD (ds.map fun d => .bl (f d)) = some (ds.map f)
  | [] => rfl
  | d :: ds => by simp only [List.map_cons, blsD, blsD_map f ds]; rfl
theorem all_id (f : D → Bool) (ds : List D) : (ds.map f).all id = ds.all f := by simp [List.all_map]
theorem allD_map (f : D → Bool) (ds : List D) : allD [.lst (ds.map fun d => .bl (f d))] = some (.bl (ds.all f)) := by
  show (blsD _).map _ = _
  rw [blsD_map]
  show some (D.bl ((ds.map f).all id)) = _
  rw [all_id]
def isIntD : D → Bool
  | .int _ => true
  | _ => false
def withinD (lo hi : Int) : D → Bool
  | .int i => decide (lo ≤ i) && decide (i ≤ hi)
  | _ => false
def smallS (x : Str) : Bool := (!sLt x "a" && !sLt "z" x) || (!sLt x "0" && !sLt "9" x)
def nameS (x : Str) : Bool := decide (1 ≤ x.length) && decide (x.length ≤ 8) && (match x.cps.toList with | c :: _ => !sLt ⟨#[c]⟩ "a" && !sLt "z" ⟨#[c]⟩ | [] => false) && x.cps.toList.all fun c => smallS ⟨#[c]⟩
def nameD : D → Bool
  | .str x => nameS x
  | _ => false
def wordsD : D → Bool
  | .tup ds => ds.all (withinD 0 65535)
  | _ => false
def smallD : D → Bool
  | .str x => smallS x
  | _ => false
def rightsD : D → Bool
  | .str x => ("r" : Str) == x || ("rw" : Str) == x
  | _ => false
def kindD (d : D) : Bool := eqP (.tup [.str "own"]) d || eqP (.tup [.str "common"]) d || (match d with
  | .tup [.str x, n, i] => (("file" : Str) == x || ("copy" : Str) == x) && nameD n && withinD 0 95 i
  | _ => false)
def lengthD (lo hi : Int) : D → Bool
  | .tup ds => ds.all (withinD 0 65535) && (decide (lo ≤ ds.length) && decide ((ds.length : Int) ≤ hi))
  | _ => false
def wordD (d : D) : Bool := withinD 0 65535 d
def pageD (d : D) : Bool := withinD 0 4095 d
def pfU {S : Type} : MF S := ⟨fun ds s Q => ds = [.bl true] ∧ Q .non s, fun h q => ⟨q.1, h _ _ q.2⟩⟩
theorem at0 {α : Type} (x : α) (xs : List α) : atI (x :: xs) 0 = some x := by
  unfold atI L2.ixN
  rw [if_pos (by omega), if_pos (by simp only [List.length_cons]; omega)]; rfl
theorem at1 {α : Type} (x y : α) (xs : List α) : atI (x :: y :: xs) 1 = some y := by
  unfold atI L2.ixN
  rw [if_pos (by omega), if_pos (by simp only [List.length_cons]; omega)]; rfl
theorem at2 {α : Type} (x y z : α) (xs : List α) : atI (x :: y :: z :: xs) 2 = some z := by
  unfold atI L2.ixN
  rw [if_pos (by omega), if_pos (by simp only [List.length_cons]; omega)]; rfl
theorem gd_tup3 {a b c : D} (h : ok (.tup [a, b, c])) : ok a ∧ ok b ∧ ok c := ⟨ok_tup h a (by simp), ok_tup h b (by simp), ok_tup h c (by simp)⟩
theorem eqP_int (i j : Int) : eqP (.int i) (.int j) = (i == j) := by simp [eqP, toP, PyData.eqv]
theorem eqP_str (i j : Str) : eqP (.str i) (.str j) = (i == j) := by simp [eqP, toP, PyData.eqv]
theorem eqD_int (i j : Int) : eqD (.int i) (.int j) = some (i == j) := by rw [eqD_ok rfl rfl, eqP_int]
theorem neD_int (i j : Int) : neD (.int i) (.int j) = some (!(i == j)) := by rw [neD_ok rfl rfl, eqP_int]
theorem tup3 {ds : List D} (h : ((ds.length : Int) == 3) = true) : ∃ a b c, ds = [a, b, c] := by
  have h1 : (ds.length : Int) = 3 := by simpa using h
  have h' : ds.length = 3 := by omega
  match ds, h' with
  | [a, b, c], _ => exact ⟨a, b, c, rfl⟩
theorem tup2 {ds : List D} (h : ((ds.length : Int) == 2) = true) : ∃ a b, ds = [a, b] := by
  have h1 : (ds.length : Int) = 2 := by simpa using h
  have h' : ds.length = 2 := by omega
  match ds, h' with
  | [a, b], _ => exact ⟨a, b, rfl⟩
def isStrD : D → Bool
  | .str _ => true
  | _ => false
def isTupD : D → Bool
  | .tup _ => true
  | _ => false
def isBlD : D → Bool
  | .bl _ => true
  | _ => false
theorem isi_str {d : D} (h : ok d) : isiD [d, .ty "str"] = some (.bl (isStrD d)) := by cases d <;> simp [isiD, tyD, isStrD, ok, gd] at h ⊢
theorem isi_tup {d : D} (h : ok d) : isiD [d, .ty "tuple"] = some (.bl (isTupD d)) := by cases d <;> simp [isiD, tyD, isTupD, ok, gd] at h ⊢
theorem isi_bool {d : D} (h : ok d) : isiD [d, .ty "bool"] = some (.bl (isBlD d)) := by cases d <;> simp [isiD, tyD, isBlD, ok, gd] at h ⊢
theorem len_tup (ds : List D) : lenD [.tup ds] = some (.int ds.length) := rfl
theorem ix_tup (ds : List D) (i : Int) : ixD (.tup ds) (.int i) = atI ds i := rfl
theorem blD_bl (b : Bool) : blD (.bl b) = some b := rfl
def countD : D → Bool
  | .int i => decide (0 ≤ i)
  | _ => false
def partC (x : Str) (d : D) : Bool :=
  if x = "a" ∨ x = "w" then wordD d else if x = "f" then pageD d else if x = "g" then pageD d || isNon d else if x = "k" then kindD d else if x = "r" then rightsD d else if x = "x" then nameD d
  else if x = "v" then lengthD 0 1536 d else if x = "d" then lengthD 1 16 d else if x = "i" then countD d else if x = "n" then withinD 1 4096 d else if x = "s" then withinD 0 65535 d else withinD 0 1536 d
def sgC : List Str := ["a", "w", "f", "g", "k", "r", "x", "v", "d", "i", "n", "s", "p"]
theorem is_non (d : D) (h : ok d) : isB d .non = some (isNon d) := by cases d <;> simp [isB, isNon, ok, gd] at h ⊢
theorem count_eq (d : D) : countD d = (isIntD d && (match d with | .int i => decide (0 ≤ i) | _ => false)) := by cases d <;> simp [countD, isIntD]
section
variable {S : Type} {P : Program} {w : World} {K : PySem.W.Frag} {mg : Str → Option Value} {base : Heap} {W : Wd S}
end
end G

set_option Elab.async false
set_option linter.all false
set_option maxRecDepth 100000
set_option maxHeartbeats 4000000
namespace G
open PySem PySem.Spec PyProof.Rows L2
section
variable {S : Type} {P : Program} {w : World} {K : PySem.W.Frag} {mg : Str → Option Value} {base : Heap} {W : Wd S}
theorem c_is_integer (T : Txt K w mg) : Cal P w K mg base W 1 "is_integer" 1 (pf1 ok isIntD : MF S) := by
  obtain ⟨fa, fd, F, hg, b⟩ := T.d_is_integer.ex
  refine cal_mk F hg b sc_is_integer rfl (fun cdv A outer s H E hr => (b_one (s_ret (g_and (g_isi T.b.isinstance bb_isinstance (a_cons (g_var 0) (a_cons (g_ty T.b.int bb_int) a_nil))) (g_one (g_not (g_isi T.b.isinstance bb_isinstance (a_cons (g_var 0) (a_cons (g_ty T.b.bool bb_bool) a_nil))))))))) ?_
  intro ds s Q hl h
  obtain ⟨d, rfl, hd, h⟩ := pf1_inv h
  simp only [MS.ret, MS.retN, MS.ite, MS.seq, MS.nil, MS.drop, MS.set, MS.asg, MS.par, MS.par3, MS.no, MS.for, MS.aug, ME.var, ME.c, ME.op1, ME.op2, ME.of, ME.ite, ME.chain, MT.op2, MT.op1, MT.of, MT.and, MT.or, MT.not, MT.chain, MA.nil, MA.cons, ME.tup, ME.lst, ME.fn, ME.call, ME.lc, ME.sl, MO.no, MO.yes, MI.seq, MI.of, MI.ofA, ME.disp, ME.callA, ME.callR, ME.dc, ME.lc2, ME.sorted, List.map_cons, List.map_nil, List.cons_append, List.nil_append, List.append_nil, List.length_cons, List.length_nil, Nat.zero_add, Nat.reduceAdd, Nat.reduceSub, List.replicate_succ, List.replicate_zero, List.getD_cons_zero, List.getD_cons_succ, List.set_cons_zero, List.set_cons_succ, OQ_some]
  cases d <;> simp [isiD, tyD, blD, isIntD, ok, gd] at h hd ⊢ <;> exact h
theorem c_is_within (T : Txt K w mg) : Cal P w K mg base W 2 "is_within" 3 (pf3 (fun d l h => ok d ∧ isIntD l = true ∧ isIntD h = true) (fun d l h => match l, h with | .int l, .int h => withinD l h d | _, _ => false) : MF S) := by
  obtain ⟨fa, fd, F, hg, b⟩ := T.d_is_within.ex
  refine cal_mk F hg b sc_is_within rfl (fun cdv A outer s H E hr => (b_one (s_ret (g_and (g_call (c_is_integer T) hr (by decide) (a_cons (g_var 0) a_nil)) (g_one (g_lele (g_var 1) (g_var 0) (g_var 2))))))) ?_
  intro ds s Q hl h
  obtain ⟨d, l, u, rfl, ⟨hd, h1, h2⟩, h⟩ := pf3_inv h
  cases l <;> simp [isIntD] at h1
  cases u <;> simp [isIntD] at h2
  simp only [MS.ret, MS.retN, MS.ite, MS.seq, MS.nil, MS.drop, MS.set, MS.asg, MS.par, MS.par3, MS.no, MS.for, MS.aug, ME.var, ME.c, ME.op1, ME.op2, ME.of, ME.ite, ME.chain, MT.op2, MT.op1, MT.of, MT.and, MT.or, MT.not, MT.chain, MA.nil, MA.cons, ME.tup, ME.lst, ME.fn, ME.call, ME.lc, ME.sl, MO.no, MO.yes, MI.seq, MI.of, MI.ofA, ME.disp, ME.callA, ME.callR, ME.dc, ME.lc2, ME.sorted, List.map_cons, List.map_nil, List.cons_append, List.nil_append, List.append_nil, List.length_cons, List.length_nil, Nat.zero_add, Nat.reduceAdd, Nat.reduceSub, List.replicate_succ, List.replicate_zero, List.getD_cons_zero, List.getD_cons_succ, List.set_cons_zero, List.set_cons_succ, OQ_some]
  refine ⟨trivial, hd, ?_⟩
  cases d <;> simp [isIntD, blD, withinD, leD, ordD] at h ⊢ <;> try exact h
  split <;> simp_all
theorem c_is_small (T : Txt K w mg) : Cal P w K mg base W 1 "is_small" 1 (pf1 (fun d => ∃ x, d = .str x) smallD : MF S) := by
  obtain ⟨fa, fd, F, hg, b⟩ := T.d_is_small.ex
  refine cal_mk F hg b sc_is_small rfl (fun cdv A outer s H E hr => (b_one (s_ret (g_or (g_lele g_str (g_var 0) g_str) (g_one (g_lele g_str (g_var 0) g_str)))))) ?_
  intro ds s Q hl h
  obtain ⟨d, rfl, hd, h⟩ := pf1_inv h
  obtain ⟨x, rfl⟩ := hd
  simp only [MS.ret, MS.retN, MS.ite, MS.seq, MS.nil, MS.drop, MS.set, MS.asg, MS.par, MS.par3, MS.no, MS.for, MS.aug, ME.var, ME.c, ME.op1, ME.op2, ME.of, ME.ite, ME.chain, MT.op2, MT.op1, MT.of, MT.and, MT.or, MT.not, MT.chain, MA.nil, MA.cons, ME.tup, ME.lst, ME.fn, ME.call, ME.lc, ME.sl, MO.no, MO.yes, MI.seq, MI.of, MI.ofA, ME.disp, ME.callA, ME.callR, ME.dc, ME.lc2, ME.sorted, List.map_cons, List.map_nil, List.cons_append, List.nil_append, List.append_nil, List.length_cons, List.length_nil, Nat.zero_add, Nat.reduceAdd, Nat.reduceSub, List.replicate_succ, List.replicate_zero, List.getD_cons_zero, List.getD_cons_succ, List.set_cons_zero, List.set_cons_succ, OQ_some]
  simp only [leD, ordD, OQ_some, blD, smallD, smallS] at h ⊢
  cases e1 : sLt x "a" <;> cases e2 : sLt "z" x <;> cases e3 : sLt x "0" <;> cases e4 : sLt "9" x <;> simp [e1, e2, e3, e4, blD] at h ⊢ <;> exact h
theorem c_is_word (T : Txt K w mg) : Cal P w K mg base W 3 "is_word" 1 (pf1 ok wordD : MF S) := by
  obtain ⟨fa, fd, F, hg, b⟩ := T.d_is_word.ex
  refine cal_mk F hg b sc_is_word rfl (fun cdv A outer s H E hr => (b_one (s_ret (g_call (c_is_within T) hr (by decide) (a_cons (g_var 0) (a_cons g_int (a_cons (g_gl T.k_MOST_WORD) a_nil))))))) ?_
  intro ds s Q hl h
  obtain ⟨d, rfl, hd, h⟩ := pf1_inv h
  simp only [MS.ret, MS.retN, MS.ite, MS.seq, MS.nil, MS.drop, MS.set, MS.asg, MS.par, MS.par3, MS.no, MS.for, MS.aug, ME.var, ME.c, ME.op1, ME.op2, ME.of, ME.ite, ME.chain, MT.op2, MT.op1, MT.of, MT.and, MT.or, MT.not, MT.chain, MA.nil, MA.cons, ME.tup, ME.lst, ME.fn, ME.call, ME.lc, ME.sl, MO.no, MO.yes, MI.seq, MI.of, MI.ofA, ME.disp, ME.callA, ME.callR, ME.dc, ME.lc2, ME.sorted, List.map_cons, List.map_nil, List.cons_append, List.nil_append, List.append_nil, List.length_cons, List.length_nil, Nat.zero_add, Nat.reduceAdd, Nat.reduceSub, List.replicate_succ, List.replicate_zero, List.getD_cons_zero, List.getD_cons_succ, List.set_cons_zero, List.set_cons_succ, OQ_some]
  exact ⟨trivial, ⟨hd, rfl, rfl⟩, h⟩
theorem c_is_page (T : Txt K w mg) : Cal P w K mg base W 3 "is_page" 1 (pf1 ok pageD : MF S) := by
  obtain ⟨fa, fd, F, hg, b⟩ := T.d_is_page.ex
  refine cal_mk F hg b sc_is_page rfl (fun cdv A outer s H E hr => (b_one (s_ret (g_call (c_is_within T) hr (by decide) (a_cons (g_var 0) (a_cons g_int (a_cons (g_gl T.k_MOST_PAGE_calls) a_nil))))))) ?_
  intro ds s Q hl h
  obtain ⟨d, rfl, hd, h⟩ := pf1_inv h
  simp only [MS.ret, MS.retN, MS.ite, MS.seq, MS.nil, MS.drop, MS.set, MS.asg, MS.par, MS.par3, MS.no, MS.for, MS.aug, ME.var, ME.c, ME.op1, ME.op2, ME.of, ME.ite, ME.chain, MT.op2, MT.op1, MT.of, MT.and, MT.or, MT.not, MT.chain, MA.nil, MA.cons, ME.tup, ME.lst, ME.fn, ME.call, ME.lc, ME.sl, MO.no, MO.yes, MI.seq, MI.of, MI.ofA, ME.disp, ME.callA, ME.callR, ME.dc, ME.lc2, ME.sorted, List.map_cons, List.map_nil, List.cons_append, List.nil_append, List.append_nil, List.length_cons, List.length_nil, Nat.zero_add, Nat.reduceAdd, Nat.reduceSub, List.replicate_succ, List.replicate_zero, List.getD_cons_zero, List.getD_cons_succ, List.set_cons_zero, List.set_cons_succ, OQ_some]
  exact ⟨trivial, ⟨hd, rfl, rfl⟩, h⟩
theorem c_are_words (T : Txt K w mg) : Cal P w K mg base W 4 "are_words" 1 (pf1 ok wordsD : MF S) := by
  obtain ⟨fa, fd, F, hg, b⟩ := T.d_are_words.ex
  refine cal_mk F hg b sc_are_words rfl (fun cdv A outer s H E hr => (b_one (s_ret (g_and (g_isi T.b.isinstance bb_isinstance (a_cons (g_var 0) (a_cons (g_ty T.b.tuple bb_tuple) a_nil))) (g_one (g_all rfl T.b.all bb_all (a_cons (g_lc [("one", 1)] rfl sc_are_words.nd (i_seq (g_var 0)) (blkOk_by (by kernel_rfl)) (fun _ _ _ _ _ => (gt_nm (i := 1) sc_are_words.nd)) (fun _ _ _ _ _ => pts0) (fun _ _ _ _ _ => (g_call (c_is_word T) hr (by decide) (a_cons (g_var 1) a_nil)))) a_nil))))))) ?_
  intro ds s Q hl h
  obtain ⟨d, rfl, hd, h⟩ := pf1_inv h
  simp only [MS.ret, MS.retN, MS.ite, MS.seq, MS.nil, MS.drop, MS.set, MS.asg, MS.par, MS.par3, MS.no, MS.for, MS.aug, ME.var, ME.c, ME.op1, ME.op2, ME.of, ME.ite, ME.chain, MT.op2, MT.op1, MT.of, MT.and, MT.or, MT.not, MT.chain, MA.nil, MA.cons, ME.tup, ME.lst, ME.fn, ME.call, ME.lc, ME.sl, MO.no, MO.yes, MI.seq, MI.of, MI.ofA, ME.disp, ME.callA, ME.callR, ME.dc, ME.lc2, ME.sorted, List.map_cons, List.map_nil, List.cons_append, List.nil_append, List.append_nil, List.length_cons, List.length_nil, Nat.zero_add, Nat.reduceAdd, Nat.reduceSub, List.replicate_succ, List.replicate_zero, List.getD_cons_zero, List.getD_cons_succ, List.set_cons_zero, List.set_cons_succ, OQ_some]
  cases d with
  | tup ds =>
    simp only [isiD, tyD, seqD, OQ_some, blD]
    simp [blD, wordsD, szD] at h ⊢
    intro hz
    refine ⟨hz, lc_map (f := fun d => .bl (wordD d)) ds (fun d hm => ⟨_, rfl, fun Q hq => ?_⟩) ?_⟩
    · simp only [setT, List.map_cons, List.map_nil, List.cons_append, List.nil_append, List.append_nil, List.length_cons, List.length_nil, Nat.zero_add, Nat.reduceAdd, Nat.reduceSub, List.replicate_succ, List.replicate_zero, List.getD_cons_zero, List.getD_cons_succ, List.set_cons_zero, List.set_cons_succ, OQ_some, wipeD]
      exact ⟨ok_tup hd d hm, hq⟩
    · rw [allD_map]; exact h
  | _ => simp [isiD, tyD, blD, wordsD, ok, gd] at h hd ⊢ <;> exact h
theorem c_check (T : Txt K w mg) : Cal P w K mg base W 1 "check" 1 (pfU : MF S) := by
  obtain ⟨fa, fd, F, hg, b⟩ := T.d_check.ex
  refine cal_mk F hg b sc_check rfl (fun cdv A outer s H E hr => (b_one (s_ite (t_not (t_of (g_var 0))) (b_one s_no) b_nil))) ?_
  intro ds s Q hl h
  obtain ⟨rfl, h⟩ := h
  simp only [MS.ret, MS.retN, MS.ite, MS.seq, MS.nil, MS.drop, MS.set, MS.asg, MS.par, MS.par3, MS.no, MS.for, MS.aug, ME.var, ME.c, ME.op1, ME.op2, ME.of, ME.ite, ME.chain, MT.op2, MT.op1, MT.of, MT.and, MT.or, MT.not, MT.chain, MA.nil, MA.cons, ME.tup, ME.lst, ME.fn, ME.call, ME.lc, ME.sl, MO.no, MO.yes, MI.seq, MI.of, MI.ofA, ME.disp, ME.callA, ME.callR, ME.dc, ME.lc2, ME.sorted, List.map_cons, List.map_nil, List.cons_append, List.nil_append, List.append_nil, List.length_cons, List.length_nil, Nat.zero_add, Nat.reduceAdd, Nat.reduceSub, List.replicate_succ, List.replicate_zero, List.getD_cons_zero, List.getD_cons_succ, List.set_cons_zero, List.set_cons_succ, OQ_some]
  simp [blD]
  exact h
theorem c_are_rights (T : Txt K w mg) : Cal P w K mg base W 1 "are_rights" 1 (pf1 ok rightsD : MF S) := by
  obtain ⟨fa, fd, F, hg, b⟩ := T.d_are_rights.ex
  refine cal_mk F hg b sc_are_rights rfl (fun cdv A outer s H E hr => (b_one (s_ret (g_and (g_isi T.b.isinstance bb_isinstance (a_cons (g_var 0) (a_cons (g_ty T.b.str bb_str) a_nil))) (g_one (g_in (hu65 hr) (g_var 0) (g_gl T.k_RIGHTS_calls))))))) ?_
  intro ds s Q hl h
  obtain ⟨d, rfl, hd, h⟩ := pf1_inv h
  simp only [MS.ret, MS.retN, MS.ite, MS.seq, MS.nil, MS.drop, MS.set, MS.asg, MS.par, MS.par3, MS.no, MS.for, MS.aug, ME.var, ME.c, ME.op1, ME.op2, ME.of, ME.ite, ME.chain, MT.op2, MT.op1, MT.of, MT.and, MT.or, MT.not, MT.chain, MA.nil, MA.cons, ME.tup, ME.lst, ME.fn, ME.call, ME.lc, ME.sl, MO.no, MO.yes, MI.seq, MI.of, MI.ofA, ME.disp, ME.callA, ME.callR, ME.dc, ME.lc2, ME.sorted, List.map_cons, List.map_nil, List.cons_append, List.nil_append, List.append_nil, List.length_cons, List.length_nil, Nat.zero_add, Nat.reduceAdd, Nat.reduceSub, List.replicate_succ, List.replicate_zero, List.getD_cons_zero, List.getD_cons_succ, List.set_cons_zero, List.set_cons_succ, OQ_some]
  cases d with
  | str x =>
    have e : inD (.str x) (.tup [.str "r", .str "rw"]) = some (rightsD (.str x)) := by
      rw [inD_tup (ok_sh hd) (by decide +kernel)]
      simp [eqP, toP, PyData.eqv, rightsD]
    simp only [isiD, tyD, OQ_some]
    simp [blD, e]
    exact h
  | _ => simp [isiD, tyD, blD, rightsD, ok, gd] at h hd ⊢ <;> exact h
theorem c_is_length (T : Txt K w mg) : Cal P w K mg base W 5 "is_length" 3 (pf3 (fun d l h => ok d ∧ isIntD l = true ∧ isIntD h = true) (fun d l h => match l, h with | .int l, .int h => lengthD l h d | _, _ => false) : MF S) := by
  obtain ⟨fa, fd, F, hg, b⟩ := T.d_is_length.ex
  refine cal_mk F hg b sc_is_length rfl (fun cdv A outer s H E hr => (b_one (s_ret (g_and (g_call (c_are_words T) hr (by decide) (a_cons (g_var 0) a_nil)) (g_one (g_lele (g_var 1) (g_len T.b.len (a_cons (g_var 0) a_nil)) (g_var 2))))))) ?_
  intro ds s Q hl h
  obtain ⟨d, l, u, rfl, ⟨hd, h1, h2⟩, h⟩ := pf3_inv h
  cases l <;> simp [isIntD] at h1
  cases u <;> simp [isIntD] at h2
  simp only [MS.ret, MS.retN, MS.ite, MS.seq, MS.nil, MS.drop, MS.set, MS.asg, MS.par, MS.par3, MS.no, MS.for, MS.aug, ME.var, ME.c, ME.op1, ME.op2, ME.of, ME.ite, ME.chain, MT.op2, MT.op1, MT.of, MT.and, MT.or, MT.not, MT.chain, MA.nil, MA.cons, ME.tup, ME.lst, ME.fn, ME.call, ME.lc, ME.sl, MO.no, MO.yes, MI.seq, MI.of, MI.ofA, ME.disp, ME.callA, ME.callR, ME.dc, ME.lc2, ME.sorted, List.map_cons, List.map_nil, List.cons_append, List.nil_append, List.append_nil, List.length_cons, List.length_nil, Nat.zero_add, Nat.reduceAdd, Nat.reduceSub, List.replicate_succ, List.replicate_zero, List.getD_cons_zero, List.getD_cons_succ, List.set_cons_zero, List.set_cons_succ, OQ_some]
  refine ⟨trivial, hd, ?_⟩
  cases d with
  | tup ds =>
    simp only [lengthD, wordsD, blD, OQ_some, lenD, leD, ordD] at h ⊢
    cases e1 : ds.all (withinD 0 65535) <;> simp [e1] at h ⊢
    · exact h
    · split <;> simp_all
  | _ => simp [blD, wordsD, lengthD] at h ⊢ <;> exact h
end
end G

set_option Elab.async false
set_option linter.all false
set_option maxRecDepth 100000
set_option maxHeartbeats 4000000
namespace G
open PySem PySem.Spec PyProof.Rows L2
section
variable {S : Type} {P : Program} {w : World} {K : PySem.W.Frag} {mg : Str → Option Value} {base : Heap} {W : Wd S}
theorem c_is_name (T : Txt K w mg) : Cal P w K mg base W 2 "is_name" 1 (pf1 ok nameD : MF S) := by
  obtain ⟨fa, fd, F, hg, b⟩ := T.d_is_name.ex
  refine cal_mk F hg b sc_is_name rfl (fun cdv A outer s H E hr => (b_cons (s_ite (PW.pt (w_or (t_not (t_of (g_isi T.b.isinstance bb_isinstance (a_cons (g_var 0) (a_cons (g_ty T.b.str bb_str) a_nil))))) (w_or (t_not (t_lele g_int (g_len T.b.len (a_cons (g_var 0) a_nil)) (g_gl T.k_MOST_SIGNS_errors))) (w_or1 (t_not (t_lele g_str (g_ix (hu1 hr) (g_var 0) g_int) g_str)))))) (b_one (s_ret g_bl)) b_nil) (b_one (s_ret (g_all rfl T.b.all bb_all (a_cons (g_lc [("sign", 1)] rfl sc_is_name.nd (i_seq (g_var 0)) (blkOk_by (by kernel_rfl)) (fun _ _ _ _ _ => (gt_nm (i := 1) sc_is_name.nd)) (fun _ _ _ _ _ => pts0) (fun _ _ _ _ _ => (g_call (c_is_small T) hr (by decide) (a_cons (g_var 1) a_nil)))) a_nil)))))) ?_
  intro ds s Q hl h
  obtain ⟨d, rfl, hd, h⟩ := pf1_inv h
  simp only [MS.ret, MS.retN, MS.ite, MS.seq, MS.nil, MS.drop, MS.set, MS.asg, MS.par, MS.par3, MS.no, MS.for, MS.aug, ME.var, ME.c, ME.op1, ME.op2, ME.of, ME.ite, ME.chain, MT.op2, MT.op1, MT.of, MT.and, MT.or, MT.not, MT.chain, MA.nil, MA.cons, ME.tup, ME.lst, ME.fn, ME.call, ME.lc, ME.sl, MO.no, MO.yes, MI.seq, MI.of, MI.ofA, ME.disp, ME.callA, ME.callR, ME.dc, ME.lc2, ME.sorted, List.map_cons, List.map_nil, List.cons_append, List.nil_append, List.append_nil, List.length_cons, List.length_nil, Nat.zero_add, Nat.reduceAdd, Nat.reduceSub, List.replicate_succ, List.replicate_zero, List.getD_cons_zero, List.getD_cons_succ, List.set_cons_zero, List.set_cons_succ, OQ_some]
  cases d with
  | str x =>
    have hz := (ok_str hd).2
    simp only [isiD, tyD, OQ_some, lenD, if_pos (show x.length ≤ big from hz), leD, ordD, blD, ixD, nameD, nameS] at h ⊢
    by_cases h1 : 1 ≤ x.length
    · by_cases h2 : x.length ≤ 8
      · have h1' : (1 : Int) ≤ (x.length : Int) := by omega
        have h2' : (x.length : Int) ≤ 8 := by omega
        obtain ⟨c, cs, e⟩ : ∃ c cs, x.cps.toList = c :: cs := by
          cases e : x.cps.toList with
          | nil =>
            have : x.length = 0 := by show x.cps.size = 0; rw [← Array.length_toList, e]; rfl
            omega
          | cons c cs => exact ⟨c, cs, rfl⟩
        simp only [e, at0, h1, h2, h1', h2', decide_true, Bool.true_and, Bool.not_true, if_true, Option.map_some, OQ_some, OQ, Bool.and_true] at h ⊢
        cases e1 : sLt ⟨#[c]⟩ "a" <;> cases e2 : sLt "z" ⟨#[c]⟩ <;> simp only [e1, e2, if_true, if_false, Bool.not_true, Bool.not_false, Bool.false_and, Bool.true_and, Bool.and_false, Bool.false_eq_true, OQ_some, seqD, szD] at h ⊢ <;> simp at h ⊢ <;> try exact h
        refine ⟨?_, ?_⟩
        · have : (signD x).length = x.length := by simp [signD]; rfl
          rw [this]; exact hz
        · refine lc_map (f := fun d => .bl (smallD d)) (signD x) (fun d hm => ⟨_, rfl, fun Q hq => ?_⟩) ?_
          · simp only [setT, List.map_cons, List.map_nil, List.cons_append, List.nil_append, List.append_nil, List.length_cons, List.length_nil, Nat.zero_add, Nat.reduceAdd, Nat.reduceSub, List.replicate_succ, List.replicate_zero, List.getD_cons_zero, List.getD_cons_succ, List.set_cons_zero, List.set_cons_succ, OQ_some, wipeD]
            obtain ⟨c, _, rfl⟩ := List.mem_map.mp hm
            exact ⟨⟨_, rfl⟩, hq⟩
          · rw [allD_map]
            have : (signD x).all smallD = (smallS ⟨#[c]⟩ && cs.all fun c => smallS ⟨#[c]⟩) := by simp [signD, e, smallD, List.all_map, Function.comp_def]
            rw [this]
            simpa [Bool.and_comm] using h
      · have h2' : ¬ (x.length : Int) ≤ 8 := by omega
        have h1' : (1 : Int) ≤ (x.length : Int) := by omega
        simp [h1, h2, h1', h2'] at h ⊢
        exact h
    · have h1' : ¬ (1 : Int) ≤ (x.length : Int) := by omega
      simp [h1, h1'] at h ⊢
      exact h
  | _ => simp [isiD, tyD, blD, nameD, ok, gd] at h hd ⊢ <;> exact h
end
end G

set_option Elab.async false
set_option linter.all false
set_option maxRecDepth 100000
set_option maxHeartbeats 4000000
namespace G
open PySem PySem.Spec PyProof.Rows L2
section
variable {S : Type} {P : Program} {w : World} {K : PySem.W.Frag} {mg : Str → Option Value} {base : Heap} {W : Wd S}
theorem c_is_asked_kind (T : Txt K w mg) : Cal P w K mg base W 3 "is_asked_kind" 1 (pf1 ok kindD : MF S) := by
  obtain ⟨fa, fd, F, hg, b⟩ := T.d_is_asked_kind.ex
  refine cal_mk F hg b sc_is_asked_kind rfl (fun cdv A outer s H E hr => (b_cons (s_ite (t_in (hu65 hr) (g_var 0) (g_tup (a_cons (g_tup (a_cons g_str a_nil)) (a_cons (g_tup (a_cons g_str a_nil)) a_nil)))) (b_one (s_ret g_bl)) b_nil) (b_cons (s_ite (PW.pt (w_or (t_not (t_of (g_isi T.b.isinstance bb_isinstance (a_cons (g_var 0) (a_cons (g_ty T.b.tuple bb_tuple) a_nil))))) (w_or (t_ne hr.units (g_len T.b.len (a_cons (g_var 0) a_nil)) g_int) (w_or1 (t_not (t_of (g_isi T.b.isinstance bb_isinstance (a_cons (g_ix (hu1 hr) (g_var 0) g_int) (a_cons (g_ty T.b.str bb_str) a_nil))))))))) (b_one (s_ret g_bl)) b_nil) (b_one (s_ret (g_and (g_in (hu65 hr) (g_ix (hu1 hr) (g_var 0) g_int) (g_tup (a_cons g_str (a_cons g_str a_nil)))) (g_and (g_call (c_is_name T) hr (by decide) (a_cons (g_ix (hu1 hr) (g_var 0) g_int) a_nil)) (g_one (g_call (c_is_within T) hr (by decide) (a_cons (g_ix (hu1 hr) (g_var 0) g_int) (a_cons g_int (a_cons (g_gl T.k_MOST_FROM) a_nil)))))))))))) ?_
  intro ds s Q hl h
  obtain ⟨d, rfl, hd, h⟩ := pf1_inv h
  simp only [MS.ret, MS.retN, MS.ite, MS.seq, MS.nil, MS.drop, MS.set, MS.asg, MS.par, MS.par3, MS.no, MS.for, MS.aug, ME.var, ME.c, ME.op1, ME.op2, ME.of, ME.ite, ME.chain, MT.op2, MT.op1, MT.of, MT.and, MT.or, MT.not, MT.chain, MA.nil, MA.cons, ME.tup, ME.lst, ME.fn, ME.call, ME.lc, ME.sl, MO.no, MO.yes, MI.seq, MI.of, MI.ofA, ME.disp, ME.callA, ME.callR, ME.dc, ME.lc2, ME.sorted, List.map_cons, List.map_nil, List.cons_append, List.nil_append, List.append_nil, List.length_cons, List.length_nil, Nat.zero_add, Nat.reduceAdd, Nat.reduceSub, List.replicate_succ, List.replicate_zero, List.getD_cons_zero, List.getD_cons_succ, List.set_cons_zero, List.set_cons_succ, OQ_some]
  have e0 : inD d (.tup [.tup [.str "own"], .tup [.str "common"]]) = some (eqP (.tup [.str "own"]) d || eqP (.tup [.str "common"]) d) := by
    rw [inD_tup (ok_sh hd) (by decide +kernel)]; simp
  have hb : ∀ n : Nat, (n ≤ 3) → n ≤ big := fun n h => by show n ≤ 16777216; omega
  simp only [isi_tup hd, OQ_some, blD_bl, kindD] at h ⊢
  refine ⟨by decide, by decide, by decide, ?_⟩
  rw [e0]
  simp only [OQ_some]
  cases ec : (eqP (.tup [.str "own"]) d || eqP (.tup [.str "common"]) d) with
  | true => simp only [ec, Bool.true_or, if_true] at h ⊢; exact h
  | false =>
    simp only [ec, Bool.false_or, if_false, Bool.false_eq_true] at h ⊢
    cases d with
    | tup ds =>
      simp only [isTupD, Bool.not_true, if_false, Bool.false_eq_true, len_tup, OQ_some, neD_int] at h ⊢
      cases el : ((ds.length : Int) == 3) with
      | false =>
        have : ∀ x n i, ds ≠ [.str x, n, i] := by rintro x n i rfl; simp at el
        simp only [el, Bool.not_false, if_true] at h ⊢
        split at h
        · rename_i x n i e; exact absurd (D.tup.inj e) (this x n i)
        · exact h
      | true =>
        obtain ⟨a, b, c, rfl⟩ := tup3 el
        obtain ⟨ha, hb', hc⟩ := gd_tup3 hd
        simp only [el, Bool.not_true, if_false, Bool.false_eq_true, ix_tup, at0, at1, at2, OQ_some, isi_str ha, blD_bl] at h ⊢
        cases a with
        | str x =>
          have e1 : inD (.str x) (.tup [.str "file", .str "copy"]) = some (("file" : Str) == x || ("copy" : Str) == x) := by
            rw [inD_tup (ok_sh ha) (by decide +kernel)]; simp [eqP_str]
          simp only [isStrD, Bool.not_true, if_false, Bool.false_eq_true, e1, OQ_some, blD_bl] at h ⊢
          refine ⟨by decide, ?_⟩
          cases e2 : (("file" : Str) == x || ("copy" : Str) == x) with
          | false => simp only [e2, Bool.false_and, if_false, Bool.false_eq_true] at h ⊢; exact h
          | true =>
            simp only [e2, Bool.true_and, if_true] at h ⊢
            refine ⟨trivial, hb', ?_⟩
            cases e3 : nameD b with
            | false => simp only [e3, Bool.false_and, if_false, Bool.false_eq_true] at h ⊢; exact h
            | true =>
              simp only [e3, Bool.true_and, if_true] at h ⊢
              exact ⟨trivial, ⟨hc, rfl, rfl⟩, h⟩
        | _ => simp only [isStrD, Bool.not_false, if_true] at h ⊢; exact h
    | _ => simp only [isTupD, Bool.not_false, if_true] at h ⊢; exact h
end
end G

set_option Elab.async false
set_option linter.all false
set_option maxRecDepth 100000
set_option maxHeartbeats 4000000
namespace G
open PySem PySem.Spec PyProof.Rows L2
section
variable {S : Type} {P : Program} {w : World} {K : PySem.W.Frag} {mg : Str → Option Value} {base : Heap} {W : Wd S}
theorem c_is_part_calls (T : Txt K w mg) : Cal P w K mg base W 6 "is_part_calls" 2 (pf2 (fun s d => ok d ∧ ∃ x ∈ sgC, s = .str x) (fun s d => match s with | .str x => partC x d | _ => false) : MF S) := by
  obtain ⟨fa, fd, F, hg, b⟩ := T.d_is_part_calls.ex
  refine cal_mk F hg b sc_is_part_calls rfl (fun cdv A outer s H E hr => (b_cons (s_ite (t_in (hu65 hr) (g_var 0) g_str) (b_one (s_ret (g_call (c_is_word T) hr (by decide) (a_cons (g_var 1) a_nil)))) b_nil) (b_cons (s_ite (t_in (hu65 hr) (g_var 0) g_str) (b_one (s_ret (g_or (g_call (c_is_page T) hr (by decide) (a_cons (g_var 1) a_nil)) (g_one (g_and (g_eq hr.units (g_var 0) g_str) (g_one (g_is (g_var 1) g_non))))))) b_nil) (b_cons (s_ite (t_in (hu65 hr) (g_var 0) g_str) (b_one (s_ret (g_ite (t_eq hr.units (g_var 0) g_str) (g_call (c_is_asked_kind T) hr (by decide) (a_cons (g_var 1) a_nil)) (g_call (c_are_rights T) hr (by decide) (a_cons (g_var 1) a_nil))))) b_nil) (b_cons (s_ite (t_eq hr.units (g_var 0) g_str) (b_one (s_ret (g_call (c_is_name T) hr (by decide) (a_cons (g_var 1) a_nil)))) b_nil) (b_cons (s_ite (t_in (hu65 hr) (g_var 0) g_str) (b_one (s_ret (g_ite (t_eq hr.units (g_var 0) g_str) (g_call (c_is_length T) hr (by decide) (a_cons (g_var 1) (a_cons g_int (a_cons (g_gl T.k_MOST_FILE) a_nil)))) (g_call (c_is_length T) hr (by decide) (a_cons (g_var 1) (a_cons g_int (a_cons (g_gl T.k_MOST_POSTED) a_nil))))))) b_nil) (b_cons (s_ite (t_eq hr.units (g_var 0) g_str) (b_one (s_ret (g_and (g_call (c_is_integer T) hr (by decide) (a_cons (g_var 1) a_nil)) (g_one (g_ge (g_var 1) g_int))))) b_nil) (b_one (s_ret (g_call (c_is_within T) hr (by decide) (a_cons (g_var 1) (a_cons (g_ite (t_eq hr.units (g_var 0) g_str) g_int g_int) (a_cons (g_ix (hu1 hr) (g_disp (pd_cons g_str (g_gl T.k_MOST_MANY) (pd_cons g_str (g_gl T.k_MOST_SIZE) (pd_cons g_str (g_gl T.k_MOST_FILE) pd_nil)))) (g_var 0)) a_nil))))))))))))) ?_
  intro ds s Q hl h
  obtain ⟨sg, d, rfl, ⟨hd, x, hx, rfl⟩, h⟩ := pf2_inv h
  replace h : Q (.bl (partC x d)) s := h
  simp only [sgC, List.mem_cons, List.not_mem_nil, or_false] at hx
  rcases hx with rfl | rfl | rfl | rfl | rfl | rfl | rfl | rfl | rfl | rfl | rfl | rfl | rfl
  · have ep : partC "a" d = wordD d := by kernel_rfl
    rw [ep] at h
    simp only [MS.ret, MS.retN, MS.ite, MS.seq, MS.nil, MS.drop, MS.set, MS.asg, MS.par, MS.par3, MS.no, MS.for, MS.aug, ME.var, ME.c, ME.op1, ME.op2, ME.of, ME.ite, ME.chain, MT.op2, MT.op1, MT.of, MT.and, MT.or, MT.not, MT.chain, MA.nil, MA.cons, ME.tup, ME.lst, ME.fn, ME.call, ME.lc, ME.sl, MO.no, MO.yes, MI.seq, MI.of, MI.ofA, ME.disp, ME.callA, ME.callR, ME.dc, ME.lc2, ME.sorted, List.map_cons, List.map_nil, List.cons_append, List.nil_append, List.append_nil, List.length_cons, List.length_nil, Nat.zero_add, Nat.reduceAdd, Nat.reduceSub, List.replicate_succ, List.replicate_zero, List.getD_cons_zero, List.getD_cons_succ, List.set_cons_zero, List.set_cons_succ, OQ_some]
    have e0 : inD (.str "a") (.str "aw") = some true := by kernel_rfl
    simp only [e0, OQ_some, blD_bl, if_true, if_false, Bool.false_eq_true, Bool.true_and, Bool.false_and]
    exact ⟨trivial, hd, h⟩
  · have ep : partC "w" d = wordD d := by kernel_rfl
    rw [ep] at h
    simp only [MS.ret, MS.retN, MS.ite, MS.seq, MS.nil, MS.drop, MS.set, MS.asg, MS.par, MS.par3, MS.no, MS.for, MS.aug, ME.var, ME.c, ME.op1, ME.op2, ME.of, ME.ite, ME.chain, MT.op2, MT.op1, MT.of, MT.and, MT.or, MT.not, MT.chain, MA.nil, MA.cons, ME.tup, ME.lst, ME.fn, ME.call, ME.lc, ME.sl, MO.no, MO.yes, MI.seq, MI.of, MI.ofA, ME.disp, ME.callA, ME.callR, ME.dc, ME.lc2, ME.sorted, List.map_cons, List.map_nil, List.cons_append, List.nil_append, List.append_nil, List.length_cons, List.length_nil, Nat.zero_add, Nat.reduceAdd, Nat.reduceSub, List.replicate_succ, List.replicate_zero, List.getD_cons_zero, List.getD_cons_succ, List.set_cons_zero, List.set_cons_succ, OQ_some]
    have e0 : inD (.str "w") (.str "aw") = some true := by kernel_rfl
    simp only [e0, OQ_some, blD_bl, if_true, if_false, Bool.false_eq_true, Bool.true_and, Bool.false_and]
    exact ⟨trivial, hd, h⟩
  · have ep : partC "f" d = pageD d := by kernel_rfl
    rw [ep] at h
    simp only [MS.ret, MS.retN, MS.ite, MS.seq, MS.nil, MS.drop, MS.set, MS.asg, MS.par, MS.par3, MS.no, MS.for, MS.aug, ME.var, ME.c, ME.op1, ME.op2, ME.of, ME.ite, ME.chain, MT.op2, MT.op1, MT.of, MT.and, MT.or, MT.not, MT.chain, MA.nil, MA.cons, ME.tup, ME.lst, ME.fn, ME.call, ME.lc, ME.sl, MO.no, MO.yes, MI.seq, MI.of, MI.ofA, ME.disp, ME.callA, ME.callR, ME.dc, ME.lc2, ME.sorted, List.map_cons, List.map_nil, List.cons_append, List.nil_append, List.append_nil, List.length_cons, List.length_nil, Nat.zero_add, Nat.reduceAdd, Nat.reduceSub, List.replicate_succ, List.replicate_zero, List.getD_cons_zero, List.getD_cons_succ, List.set_cons_zero, List.set_cons_succ, OQ_some]
    have e0 : inD (.str "f") (.str "aw") = some false := by kernel_rfl
    have e1 : inD (.str "f") (.str "fg") = some true := by kernel_rfl
    have e2 : eqD (.str "f") (.str "g") = some false := by kernel_rfl
    simp only [e0, e1, e2, OQ_some, blD_bl, if_true, if_false, Bool.false_eq_true, Bool.true_and, Bool.false_and]
    refine ⟨trivial, hd, ?_⟩
    cases e : pageD d <;> simp only [e, if_true, if_false, Bool.false_eq_true] at h ⊢ <;> exact h
  · have ep : partC "g" d = (pageD d || isNon d) := by kernel_rfl
    rw [ep] at h
    simp only [MS.ret, MS.retN, MS.ite, MS.seq, MS.nil, MS.drop, MS.set, MS.asg, MS.par, MS.par3, MS.no, MS.for, MS.aug, ME.var, ME.c, ME.op1, ME.op2, ME.of, ME.ite, ME.chain, MT.op2, MT.op1, MT.of, MT.and, MT.or, MT.not, MT.chain, MA.nil, MA.cons, ME.tup, ME.lst, ME.fn, ME.call, ME.lc, ME.sl, MO.no, MO.yes, MI.seq, MI.of, MI.ofA, ME.disp, ME.callA, ME.callR, ME.dc, ME.lc2, ME.sorted, List.map_cons, List.map_nil, List.cons_append, List.nil_append, List.append_nil, List.length_cons, List.length_nil, Nat.zero_add, Nat.reduceAdd, Nat.reduceSub, List.replicate_succ, List.replicate_zero, List.getD_cons_zero, List.getD_cons_succ, List.set_cons_zero, List.set_cons_succ, OQ_some]
    have e0 : inD (.str "g") (.str "aw") = some false := by kernel_rfl
    have e1 : inD (.str "g") (.str "fg") = some true := by kernel_rfl
    have e2 : eqD (.str "g") (.str "g") = some true := by kernel_rfl
    simp only [e0, e1, e2, OQ_some, blD_bl, if_true, if_false, Bool.false_eq_true, Bool.true_and, Bool.false_and]
    refine ⟨trivial, hd, ?_⟩
    cases e : pageD d <;> simp only [e, is_non d hd, OQ_some, if_true, if_false, Bool.false_eq_true, Bool.true_or, Bool.false_or] at h ⊢ <;> exact h
  · have ep : partC "k" d = kindD d := by kernel_rfl
    rw [ep] at h
    simp only [MS.ret, MS.retN, MS.ite, MS.seq, MS.nil, MS.drop, MS.set, MS.asg, MS.par, MS.par3, MS.no, MS.for, MS.aug, ME.var, ME.c, ME.op1, ME.op2, ME.of, ME.ite, ME.chain, MT.op2, MT.op1, MT.of, MT.and, MT.or, MT.not, MT.chain, MA.nil, MA.cons, ME.tup, ME.lst, ME.fn, ME.call, ME.lc, ME.sl, MO.no, MO.yes, MI.seq, MI.of, MI.ofA, ME.disp, ME.callA, ME.callR, ME.dc, ME.lc2, ME.sorted, List.map_cons, List.map_nil, List.cons_append, List.nil_append, List.append_nil, List.length_cons, List.length_nil, Nat.zero_add, Nat.reduceAdd, Nat.reduceSub, List.replicate_succ, List.replicate_zero, List.getD_cons_zero, List.getD_cons_succ, List.set_cons_zero, List.set_cons_succ, OQ_some]
    have e0 : inD (.str "k") (.str "aw") = some false := by kernel_rfl
    have e1 : inD (.str "k") (.str "fg") = some false := by kernel_rfl
    have e2 : inD (.str "k") (.str "kr") = some true := by kernel_rfl
    have e3 : eqD (.str "k") (.str "k") = some true := by kernel_rfl
    simp only [e0, e1, e2, e3, OQ_some, blD_bl, if_true, if_false, Bool.false_eq_true, Bool.true_and, Bool.false_and]
    exact ⟨trivial, hd, h⟩
  · have ep : partC "r" d = rightsD d := by kernel_rfl
    rw [ep] at h
    simp only [MS.ret, MS.retN, MS.ite, MS.seq, MS.nil, MS.drop, MS.set, MS.asg, MS.par, MS.par3, MS.no, MS.for, MS.aug, ME.var, ME.c, ME.op1, ME.op2, ME.of, ME.ite, ME.chain, MT.op2, MT.op1, MT.of, MT.and, MT.or, MT.not, MT.chain, MA.nil, MA.cons, ME.tup, ME.lst, ME.fn, ME.call, ME.lc, ME.sl, MO.no, MO.yes, MI.seq, MI.of, MI.ofA, ME.disp, ME.callA, ME.callR, ME.dc, ME.lc2, ME.sorted, List.map_cons, List.map_nil, List.cons_append, List.nil_append, List.append_nil, List.length_cons, List.length_nil, Nat.zero_add, Nat.reduceAdd, Nat.reduceSub, List.replicate_succ, List.replicate_zero, List.getD_cons_zero, List.getD_cons_succ, List.set_cons_zero, List.set_cons_succ, OQ_some]
    have e0 : inD (.str "r") (.str "aw") = some false := by kernel_rfl
    have e1 : inD (.str "r") (.str "fg") = some false := by kernel_rfl
    have e2 : inD (.str "r") (.str "kr") = some true := by kernel_rfl
    have e3 : eqD (.str "r") (.str "k") = some false := by kernel_rfl
    simp only [e0, e1, e2, e3, OQ_some, blD_bl, if_true, if_false, Bool.false_eq_true, Bool.true_and, Bool.false_and]
    exact ⟨trivial, hd, h⟩
  · have ep : partC "x" d = nameD d := by kernel_rfl
    rw [ep] at h
    simp only [MS.ret, MS.retN, MS.ite, MS.seq, MS.nil, MS.drop, MS.set, MS.asg, MS.par, MS.par3, MS.no, MS.for, MS.aug, ME.var, ME.c, ME.op1, ME.op2, ME.of, ME.ite, ME.chain, MT.op2, MT.op1, MT.of, MT.and, MT.or, MT.not, MT.chain, MA.nil, MA.cons, ME.tup, ME.lst, ME.fn, ME.call, ME.lc, ME.sl, MO.no, MO.yes, MI.seq, MI.of, MI.ofA, ME.disp, ME.callA, ME.callR, ME.dc, ME.lc2, ME.sorted, List.map_cons, List.map_nil, List.cons_append, List.nil_append, List.append_nil, List.length_cons, List.length_nil, Nat.zero_add, Nat.reduceAdd, Nat.reduceSub, List.replicate_succ, List.replicate_zero, List.getD_cons_zero, List.getD_cons_succ, List.set_cons_zero, List.set_cons_succ, OQ_some]
    have e0 : inD (.str "x") (.str "aw") = some false := by kernel_rfl
    have e1 : inD (.str "x") (.str "fg") = some false := by kernel_rfl
    have e2 : inD (.str "x") (.str "kr") = some false := by kernel_rfl
    have e3 : eqD (.str "x") (.str "x") = some true := by kernel_rfl
    simp only [e0, e1, e2, e3, OQ_some, blD_bl, if_true, if_false, Bool.false_eq_true, Bool.true_and, Bool.false_and]
    exact ⟨trivial, hd, h⟩
  · have ep : partC "v" d = lengthD 0 1536 d := by kernel_rfl
    rw [ep] at h
    simp only [MS.ret, MS.retN, MS.ite, MS.seq, MS.nil, MS.drop, MS.set, MS.asg, MS.par, MS.par3, MS.no, MS.for, MS.aug, ME.var, ME.c, ME.op1, ME.op2, ME.of, ME.ite, ME.chain, MT.op2, MT.op1, MT.of, MT.and, MT.or, MT.not, MT.chain, MA.nil, MA.cons, ME.tup, ME.lst, ME.fn, ME.call, ME.lc, ME.sl, MO.no, MO.yes, MI.seq, MI.of, MI.ofA, ME.disp, ME.callA, ME.callR, ME.dc, ME.lc2, ME.sorted, List.map_cons, List.map_nil, List.cons_append, List.nil_append, List.append_nil, List.length_cons, List.length_nil, Nat.zero_add, Nat.reduceAdd, Nat.reduceSub, List.replicate_succ, List.replicate_zero, List.getD_cons_zero, List.getD_cons_succ, List.set_cons_zero, List.set_cons_succ, OQ_some]
    have e0 : inD (.str "v") (.str "aw") = some false := by kernel_rfl
    have e1 : inD (.str "v") (.str "fg") = some false := by kernel_rfl
    have e2 : inD (.str "v") (.str "kr") = some false := by kernel_rfl
    have e3 : eqD (.str "v") (.str "x") = some false := by kernel_rfl
    have e4 : inD (.str "v") (.str "vd") = some true := by kernel_rfl
    have e5 : eqD (.str "v") (.str "v") = some true := by kernel_rfl
    simp only [e0, e1, e2, e3, e4, e5, OQ_some, blD_bl, if_true, if_false, Bool.false_eq_true, Bool.true_and, Bool.false_and]
    exact ⟨trivial, ⟨hd, rfl, rfl⟩, h⟩
  · have ep : partC "d" d = lengthD 1 16 d := by kernel_rfl
    rw [ep] at h
    simp only [MS.ret, MS.retN, MS.ite, MS.seq, MS.nil, MS.drop, MS.set, MS.asg, MS.par, MS.par3, MS.no, MS.for, MS.aug, ME.var, ME.c, ME.op1, ME.op2, ME.of, ME.ite, ME.chain, MT.op2, MT.op1, MT.of, MT.and, MT.or, MT.not, MT.chain, MA.nil, MA.cons, ME.tup, ME.lst, ME.fn, ME.call, ME.lc, ME.sl, MO.no, MO.yes, MI.seq, MI.of, MI.ofA, ME.disp, ME.callA, ME.callR, ME.dc, ME.lc2, ME.sorted, List.map_cons, List.map_nil, List.cons_append, List.nil_append, List.append_nil, List.length_cons, List.length_nil, Nat.zero_add, Nat.reduceAdd, Nat.reduceSub, List.replicate_succ, List.replicate_zero, List.getD_cons_zero, List.getD_cons_succ, List.set_cons_zero, List.set_cons_succ, OQ_some]
    have e0 : inD (.str "d") (.str "aw") = some false := by kernel_rfl
    have e1 : inD (.str "d") (.str "fg") = some false := by kernel_rfl
    have e2 : inD (.str "d") (.str "kr") = some false := by kernel_rfl
    have e3 : eqD (.str "d") (.str "x") = some false := by kernel_rfl
    have e4 : inD (.str "d") (.str "vd") = some true := by kernel_rfl
    have e5 : eqD (.str "d") (.str "v") = some false := by kernel_rfl
    simp only [e0, e1, e2, e3, e4, e5, OQ_some, blD_bl, if_true, if_false, Bool.false_eq_true, Bool.true_and, Bool.false_and]
    exact ⟨trivial, ⟨hd, rfl, rfl⟩, h⟩
  · have ep : partC "i" d = countD d := by kernel_rfl
    rw [ep] at h
    simp only [MS.ret, MS.retN, MS.ite, MS.seq, MS.nil, MS.drop, MS.set, MS.asg, MS.par, MS.par3, MS.no, MS.for, MS.aug, ME.var, ME.c, ME.op1, ME.op2, ME.of, ME.ite, ME.chain, MT.op2, MT.op1, MT.of, MT.and, MT.or, MT.not, MT.chain, MA.nil, MA.cons, ME.tup, ME.lst, ME.fn, ME.call, ME.lc, ME.sl, MO.no, MO.yes, MI.seq, MI.of, MI.ofA, ME.disp, ME.callA, ME.callR, ME.dc, ME.lc2, ME.sorted, List.map_cons, List.map_nil, List.cons_append, List.nil_append, List.append_nil, List.length_cons, List.length_nil, Nat.zero_add, Nat.reduceAdd, Nat.reduceSub, List.replicate_succ, List.replicate_zero, List.getD_cons_zero, List.getD_cons_succ, List.set_cons_zero, List.set_cons_succ, OQ_some]
    have e0 : inD (.str "i") (.str "aw") = some false := by kernel_rfl
    have e1 : inD (.str "i") (.str "fg") = some false := by kernel_rfl
    have e2 : inD (.str "i") (.str "kr") = some false := by kernel_rfl
    have e3 : eqD (.str "i") (.str "x") = some false := by kernel_rfl
    have e4 : inD (.str "i") (.str "vd") = some false := by kernel_rfl
    have e5 : eqD (.str "i") (.str "i") = some true := by kernel_rfl
    simp only [e0, e1, e2, e3, e4, e5, OQ_some, blD_bl, if_true, if_false, Bool.false_eq_true, Bool.true_and, Bool.false_and]
    refine ⟨trivial, hd, ?_⟩
    cases d <;> simp only [isIntD, countD, geD, ordD, OQ_some, if_true, if_false, Bool.false_eq_true] at h ⊢ <;> exact h
  · have ep : partC "n" d = withinD 1 4096 d := by kernel_rfl
    rw [ep] at h
    simp only [MS.ret, MS.retN, MS.ite, MS.seq, MS.nil, MS.drop, MS.set, MS.asg, MS.par, MS.par3, MS.no, MS.for, MS.aug, ME.var, ME.c, ME.op1, ME.op2, ME.of, ME.ite, ME.chain, MT.op2, MT.op1, MT.of, MT.and, MT.or, MT.not, MT.chain, MA.nil, MA.cons, ME.tup, ME.lst, ME.fn, ME.call, ME.lc, ME.sl, MO.no, MO.yes, MI.seq, MI.of, MI.ofA, ME.disp, ME.callA, ME.callR, ME.dc, ME.lc2, ME.sorted, List.map_cons, List.map_nil, List.cons_append, List.nil_append, List.append_nil, List.length_cons, List.length_nil, Nat.zero_add, Nat.reduceAdd, Nat.reduceSub, List.replicate_succ, List.replicate_zero, List.getD_cons_zero, List.getD_cons_succ, List.set_cons_zero, List.set_cons_succ, OQ_some]
    have e0 : inD (.str "n") (.str "aw") = some false := by kernel_rfl
    have e1 : inD (.str "n") (.str "fg") = some false := by kernel_rfl
    have e2 : inD (.str "n") (.str "kr") = some false := by kernel_rfl
    have e3 : eqD (.str "n") (.str "x") = some false := by kernel_rfl
    have e4 : inD (.str "n") (.str "vd") = some false := by kernel_rfl
    have e5 : eqD (.str "n") (.str "i") = some false := by kernel_rfl
    have e6 : eqD (.str "n") (.str "n") = some true := by kernel_rfl
    simp only [e0, e1, e2, e3, e4, e5, e6, OQ_some, blD_bl, if_true, if_false, Bool.false_eq_true, Bool.true_and, Bool.false_and]
    have e9 : dispD [.str "n", .int 4096, .str "s", .int 65535, .str "p", .int 1536] = some (.dct [.inr "n", .inr "s", .inr "p"] [.int 4096, .int 65535, .int 1536]) := by kernel_rfl
    have e8 : ixD (.dct [.inr "n", .inr "s", .inr "p"] [.int 4096, .int 65535, .int 1536]) (.str "n") = some (.int 4096) := by kernel_rfl
    simp only [e9, e8, OQ_some]
    exact ⟨trivial, ⟨hd, rfl, rfl⟩, h⟩
  · have ep : partC "s" d = withinD 0 65535 d := by kernel_rfl
    rw [ep] at h
    simp only [MS.ret, MS.retN, MS.ite, MS.seq, MS.nil, MS.drop, MS.set, MS.asg, MS.par, MS.par3, MS.no, MS.for, MS.aug, ME.var, ME.c, ME.op1, ME.op2, ME.of, ME.ite, ME.chain, MT.op2, MT.op1, MT.of, MT.and, MT.or, MT.not, MT.chain, MA.nil, MA.cons, ME.tup, ME.lst, ME.fn, ME.call, ME.lc, ME.sl, MO.no, MO.yes, MI.seq, MI.of, MI.ofA, ME.disp, ME.callA, ME.callR, ME.dc, ME.lc2, ME.sorted, List.map_cons, List.map_nil, List.cons_append, List.nil_append, List.append_nil, List.length_cons, List.length_nil, Nat.zero_add, Nat.reduceAdd, Nat.reduceSub, List.replicate_succ, List.replicate_zero, List.getD_cons_zero, List.getD_cons_succ, List.set_cons_zero, List.set_cons_succ, OQ_some]
    have e0 : inD (.str "s") (.str "aw") = some false := by kernel_rfl
    have e1 : inD (.str "s") (.str "fg") = some false := by kernel_rfl
    have e2 : inD (.str "s") (.str "kr") = some false := by kernel_rfl
    have e3 : eqD (.str "s") (.str "x") = some false := by kernel_rfl
    have e4 : inD (.str "s") (.str "vd") = some false := by kernel_rfl
    have e5 : eqD (.str "s") (.str "i") = some false := by kernel_rfl
    have e6 : eqD (.str "s") (.str "n") = some false := by kernel_rfl
    simp only [e0, e1, e2, e3, e4, e5, e6, OQ_some, blD_bl, if_true, if_false, Bool.false_eq_true, Bool.true_and, Bool.false_and]
    have e9 : dispD [.str "n", .int 4096, .str "s", .int 65535, .str "p", .int 1536] = some (.dct [.inr "n", .inr "s", .inr "p"] [.int 4096, .int 65535, .int 1536]) := by kernel_rfl
    have e8 : ixD (.dct [.inr "n", .inr "s", .inr "p"] [.int 4096, .int 65535, .int 1536]) (.str "s") = some (.int 65535) := by kernel_rfl
    simp only [e9, e8, OQ_some]
    exact ⟨trivial, ⟨hd, rfl, rfl⟩, h⟩
  · have ep : partC "p" d = withinD 0 1536 d := by kernel_rfl
    rw [ep] at h
    simp only [MS.ret, MS.retN, MS.ite, MS.seq, MS.nil, MS.drop, MS.set, MS.asg, MS.par, MS.par3, MS.no, MS.for, MS.aug, ME.var, ME.c, ME.op1, ME.op2, ME.of, ME.ite, ME.chain, MT.op2, MT.op1, MT.of, MT.and, MT.or, MT.not, MT.chain, MA.nil, MA.cons, ME.tup, ME.lst, ME.fn, ME.call, ME.lc, ME.sl, MO.no, MO.yes, MI.seq, MI.of, MI.ofA, ME.disp, ME.callA, ME.callR, ME.dc, ME.lc2, ME.sorted, List.map_cons, List.map_nil, List.cons_append, List.nil_append, List.append_nil, List.length_cons, List.length_nil, Nat.zero_add, Nat.reduceAdd, Nat.reduceSub, List.replicate_succ, List.replicate_zero, List.getD_cons_zero, List.getD_cons_succ, List.set_cons_zero, List.set_cons_succ, OQ_some]
    have e0 : inD (.str "p") (.str "aw") = some false := by kernel_rfl
    have e1 : inD (.str "p") (.str "fg") = some false := by kernel_rfl
    have e2 : inD (.str "p") (.str "kr") = some false := by kernel_rfl
    have e3 : eqD (.str "p") (.str "x") = some false := by kernel_rfl
    have e4 : inD (.str "p") (.str "vd") = some false := by kernel_rfl
    have e5 : eqD (.str "p") (.str "i") = some false := by kernel_rfl
    have e6 : eqD (.str "p") (.str "n") = some false := by kernel_rfl
    simp only [e0, e1, e2, e3, e4, e5, e6, OQ_some, blD_bl, if_true, if_false, Bool.false_eq_true, Bool.true_and, Bool.false_and]
    have e9 : dispD [.str "n", .int 4096, .str "s", .int 65535, .str "p", .int 1536] = some (.dct [.inr "n", .inr "s", .inr "p"] [.int 4096, .int 65535, .int 1536]) := by kernel_rfl
    have e8 : ixD (.dct [.inr "n", .inr "s", .inr "p"] [.int 4096, .int 65535, .int 1536]) (.str "p") = some (.int 1536) := by kernel_rfl
    simp only [e9, e8, OQ_some]
    exact ⟨trivial, ⟨hd, rfl, rfl⟩, h⟩
end
end G

set_option Elab.async false
set_option linter.all false
set_option maxRecDepth 100000
set_option maxHeartbeats 4000000
namespace G
open PySem PySem.Spec PyProof.Rows L2
/-! forms by tables -/
def partP (part : Str → D → Bool) : D → Bool
  | .tup [.str x, d] => part x d
  | _ => false
def formD (tb : List (Str × D)) (part : Str → D → Bool) : D → Bool
  | .tup (.str w :: ds) => (match tb.lookup w with
    | some (.str f) => decide (ds.length = f.length) && (((signD f).zip ds).map pairD).all (partP part)
    | _ => false)
  | _ => false
def sgIn (sg : List Str) : D → Bool
  | .str x => sg.contains x
  | _ => false
def tbOk (sg : List Str) (tb : List (Str × D)) : Bool := tb.all fun p => match p.2 with
  | .str f => decide (f.length ≤ 16777216) && (signD f).all (sgIn sg)
  | _ => false
theorem lookup_mem {w : Str} {dd : D} : ∀ {tb : List (Str × D)}, tb.lookup w = some dd → ∃ w', (w', dd) ∈ tb
  | [], h => by simp at h
  | (a, b) :: tb, h => by
    rw [List.lookup_cons] at h
    split at h
    · cases h; exact ⟨a, List.mem_cons_self⟩
    · obtain ⟨w', h'⟩ := lookup_mem h
      exact ⟨w', List.mem_cons_of_mem _ h'⟩
theorem tb_form {sg : List Str} {tb : List (Str × D)} (h : tbOk sg tb = true) {w : Str} {dd : D} (e : tb.lookup w = some dd) : ∃ f, dd = .str f ∧ f.length ≤ 16777216 ∧ ∀ d ∈ signD f, ∃ x ∈ sg, d = .str x := by
  obtain ⟨w', hm⟩ := lookup_mem e
  have h1 := List.all_eq_true.mp h _ hm
  dsimp only at h1
  split at h1
  · rename_i f
    rw [Bool.and_eq_true, decide_eq_true_eq] at h1
    refine ⟨f, rfl, h1.1, fun d hd => ?_⟩
    have h2 := List.all_eq_true.mp h1.2 d hd
    unfold sgIn at h2
    split at h2
    · exact ⟨_, by simpa using h2, rfl⟩
    · cases h2
  · cases h1
theorem cut_tail {α : Type} (a : α) (ds : List α) : cutL (a :: ds) (some 1) none = ds := by
  unfold cutL
  have h1 : HT.sIx (a :: ds).length 0 (some 1) = 1 := by
    simp [HT.sIx]
  rw [h1, HT.sIx_none]
  simp
theorem slD_tail (a : D) (ds : List D) : slD (.tup (a :: ds)) (some 1) none = some (.tup ds) := by
  show some (D.tup (cutL (a :: ds) (some 1) none)) = _
  rw [cut_tail]
theorem ok_cons {a : D} {ds : List D} (h : ok (.tup (a :: ds))) : ok a ∧ ∀ d ∈ ds, ok d := ⟨ok_tup h a List.mem_cons_self, fun d hd => ok_tup h d (List.mem_cons_of_mem _ hd)⟩
theorem zip_items {f : Str} {ds : List D} {d : D} (h : d ∈ ((signD f).zip ds).map pairD) : ∃ s e, s ∈ signD f ∧ e ∈ ds ∧ d = .tup [s, e] := by
  obtain ⟨⟨s, e⟩, hm, rfl⟩ := List.mem_map.mp h
  exact ⟨s, e, (List.of_mem_zip hm).1, (List.of_mem_zip hm).2, rfl⟩
theorem len_eq1 (n m : Nat) : (((n + 1 : Nat) : Int) == ((m : Int) + 1)) = decide (n = m) := by
  by_cases h : n = m
  · subst h; simp
  · have : ¬ ((n + 1 : Nat) : Int) = (m : Int) + 1 := by omega
    simp only [h, decide_false]
    exact beq_eq_false_iff_ne.mpr this
abbrev callD (d : D) : Bool := formD tb_FORMS_calls partC d
theorem tbC_ok : tbOk sgC tb_FORMS_calls = true := by decide +kernel
section
variable {S : Type} {P : Program} {w : World} {K : PySem.W.Frag} {mg : Str → Option Value} {base : Heap} {W : Wd S}
theorem c_has_form (T : Txt K w mg) : Cal P w K mg base W 7 "has_form" 1 (pf1 ok callD : MF S) := by
  obtain ⟨fa, fd, F, hg, b⟩ := T.d_has_form.ex
  refine cal_mk F hg b sc_has_form rfl (fun cdv A outer s H E hr => (b_cons (s_ite (PW.pt (w_or (t_not (t_of (g_isi T.b.isinstance bb_isinstance (a_cons (g_var 0) (a_cons (g_ty T.b.tuple bb_tuple) a_nil))))) (w_or (t_eq hr.units (g_len T.b.len (a_cons (g_var 0) a_nil)) g_int) (w_or (t_not (t_of (g_isi T.b.isinstance bb_isinstance (a_cons (g_ix (hu1 hr) (g_var 0) g_int) (a_cons (g_ty T.b.str bb_str) a_nil))))) (w_or1 (t_notInTbl T.t_FORMS_calls (g_ix (hu1 hr) (g_var 0) g_int))))))) (b_one (s_ret g_bl)) b_nil) (b_cons (s_set (i := 1) sc_has_form.nd (g_getTbl T.t_FORMS_calls (g_ix (hu1 hr) (g_var 0) g_int))) (b_one (s_ret (g_and (g_eq hr.units (g_len T.b.len (a_cons (g_var 0) a_nil)) (g_add (g_len T.b.len (a_cons (g_var 1) a_nil)) g_int)) (g_one (g_all rfl T.b.all bb_all (a_cons (g_lc [("sign", 2), ("one", 3)] rfl sc_has_form.nd (i_zip T.b.zip (a_cons (g_var 1) (a_cons (g_sl (g_var 0) (o_some g_int) o_none) a_nil))) (blkOk_by (by kernel_rfl)) (fun _ _ _ _ _ => (gt_tp rfl (gts_cons (gt_nm (i := 2) sc_has_form.nd) (gts_cons (gt_nm (i := 3) sc_has_form.nd) gts_nil)))) (fun _ _ _ _ _ => pts0) (fun _ _ _ _ _ => (g_call (c_is_part_calls T) hr (by decide) (a_cons (g_var 2) (a_cons (g_var 3) a_nil))))) a_nil))))))))) ?_
  intro ds s Q hl h
  obtain ⟨d, rfl, hd, h⟩ := pf1_inv h
  simp only [MS.ret, MS.retN, MS.ite, MS.seq, MS.nil, MS.drop, MS.set, MS.asg, MS.par, MS.par3, MS.no, MS.for, MS.aug, ME.var, ME.c, ME.op1, ME.op2, ME.of, ME.ite, ME.chain, MT.op2, MT.op1, MT.of, MT.and, MT.or, MT.not, MT.chain, MA.nil, MA.cons, ME.tup, ME.lst, ME.fn, ME.call, ME.lc, ME.sl, MO.no, MO.yes, MI.seq, MI.of, MI.ofA, ME.disp, ME.callA, ME.callR, ME.dc, ME.lc2, ME.sorted, List.map_cons, List.map_nil, List.cons_append, List.nil_append, List.append_nil, List.length_cons, List.length_nil, Nat.zero_add, Nat.reduceAdd, Nat.reduceSub, List.replicate_succ, List.replicate_zero, List.getD_cons_zero, List.getD_cons_succ, List.set_cons_zero, List.set_cons_succ, OQ_some]
  cases d with
  | tup ds =>
    simp only [isi_tup hd, isTupD, OQ_some, blD_bl, Bool.not_true, if_false, Bool.false_eq_true, len_tup, eqD_int]
    cases ds with
    | nil => simp only [List.length_nil]; exact h
    | cons a ds =>
      obtain ⟨ha, hds⟩ := ok_cons hd
      have e0 : (((a :: ds).length : Int) == 0) = false := by simp; omega
      simp only [e0, if_false, Bool.false_eq_true, ix_tup, at0, OQ_some, isi_str ha, blD_bl]
      cases a with
      | str x =>
        simp only [isStrD, Bool.not_true, if_false, Bool.false_eq_true, notInTbl, getTbl, strD, Option.map_some, Option.bind_some, OQ_some]
        cases el : tb_FORMS_calls.lookup x with
        | none =>
          simp only [formD, el, Option.isSome_none, Bool.not_false, if_true] at h ⊢
          exact h
        | some dd =>
          obtain ⟨f, rfl, hf, hsg⟩ := tb_form tbC_ok el
          simp only [formD, el, Option.isSome_some, Bool.not_true, if_false, Bool.false_eq_true, OQ_some, lenD, if_pos (show f.length ≤ big from hf), addD, eqD_int, List.length_cons, len_eq1, intD, slD_tail, zipD, blD_bl] at h ⊢
          cases en : decide (ds.length = f.length) with
          | false => simp only [en, Bool.false_and, if_false, Bool.false_eq_true] at h ⊢; exact h
          | true =>
            simp only [en, Bool.true_and, if_true] at h ⊢
            refine ⟨?_, lc_map (f := fun d => .bl (partP partC d)) _ (fun d hm => ?_) ?_⟩
            · have : (signD f).length = f.length := by simp [signD]; rfl
              rw [List.length_map, List.length_zip, this]
              show _ ≤ 16777216
              omega
            · obtain ⟨sg, e, hs, he, rfl⟩ := zip_items hm
              obtain ⟨x', hx', rfl⟩ := hsg sg hs
              refine ⟨_, rfl, fun Q hq => ?_⟩
              simp only [wipeD, List.map_cons, List.map_nil, List.cons_append, List.nil_append, List.append_nil, List.length_cons, List.length_nil, Nat.zero_add, Nat.reduceAdd, Nat.reduceSub, List.replicate_succ, List.replicate_zero, List.getD_cons_zero, List.getD_cons_succ, List.set_cons_zero, List.set_cons_succ, OQ_some, List.map_cons]
              exact ⟨trivial, ⟨hds e he, x', hx', rfl⟩, hq⟩
            · rw [allD_map]; exact h
      | _ => simp only [isStrD, Bool.not_false, if_true] at h ⊢; exact h
  | _ => simp [isiD, tyD, blD, formD, ok, gd] at h hd ⊢ <;> exact h
theorem c_is_call_calls (T : Txt K w mg) : Cal P w K mg base W 8 "is_call_calls" 1 (pf1 ok callD : MF S) := by
  obtain ⟨fa, fd, F, hg, b⟩ := T.d_is_call_calls.ex
  refine cal_mk F hg b sc_is_call_calls rfl (fun cdv A outer s H E hr => (b_one (s_ret (g_call (c_has_form T) hr (by decide) (a_cons (g_var 0) a_nil))))) ?_
  intro ds s Q hl h
  obtain ⟨d, rfl, hd, h⟩ := pf1_inv h
  simp only [MS.ret, MS.retN, MS.ite, MS.seq, MS.nil, MS.drop, MS.set, MS.asg, MS.par, MS.par3, MS.no, MS.for, MS.aug, ME.var, ME.c, ME.op1, ME.op2, ME.of, ME.ite, ME.chain, MT.op2, MT.op1, MT.of, MT.and, MT.or, MT.not, MT.chain, MA.nil, MA.cons, ME.tup, ME.lst, ME.fn, ME.call, ME.lc, ME.sl, MO.no, MO.yes, MI.seq, MI.of, MI.ofA, ME.disp, ME.callA, ME.callR, ME.dc, ME.lc2, ME.sorted, List.map_cons, List.map_nil, List.cons_append, List.nil_append, List.append_nil, List.length_cons, List.length_nil, Nat.zero_add, Nat.reduceAdd, Nat.reduceSub, List.replicate_succ, List.replicate_zero, List.getD_cons_zero, List.getD_cons_succ, List.set_cons_zero, List.set_cons_succ, OQ_some]
  exact ⟨trivial, hd, h⟩
theorem c_is_call_world (T : Txt K w mg) : Cal P w K mg base W 8 "is_call_world" 1 (pf1 ok callD : MF S) := by
  obtain ⟨fa, fd, F, hg, b⟩ := T.d_is_call_world.ex
  refine cal_mk F hg b sc_is_call_world rfl (fun cdv A outer s H E hr => (b_one (s_ret (g_call (c_has_form T) hr (by decide) (a_cons (g_var 0) a_nil))))) ?_
  intro ds s Q hl h
  obtain ⟨d, rfl, hd, h⟩ := pf1_inv h
  simp only [MS.ret, MS.retN, MS.ite, MS.seq, MS.nil, MS.drop, MS.set, MS.asg, MS.par, MS.par3, MS.no, MS.for, MS.aug, ME.var, ME.c, ME.op1, ME.op2, ME.of, ME.ite, ME.chain, MT.op2, MT.op1, MT.of, MT.and, MT.or, MT.not, MT.chain, MA.nil, MA.cons, ME.tup, ME.lst, ME.fn, ME.call, ME.lc, ME.sl, MO.no, MO.yes, MI.seq, MI.of, MI.ofA, ME.disp, ME.callA, ME.callR, ME.dc, ME.lc2, ME.sorted, List.map_cons, List.map_nil, List.cons_append, List.nil_append, List.append_nil, List.length_cons, List.length_nil, Nat.zero_add, Nat.reduceAdd, Nat.reduceSub, List.replicate_succ, List.replicate_zero, List.getD_cons_zero, List.getD_cons_succ, List.set_cons_zero, List.set_cons_succ, OQ_some]
  exact ⟨trivial, hd, h⟩
end
end G

set_option Elab.async false
set_option linter.all false
set_option maxRecDepth 100000
set_option maxHeartbeats 4000000
namespace G
open PySem PySem.Spec PyProof.Rows L2
def askD : D → Bool
  | .tup [a, b] => withinD 0 7 a && isBlD b
  | _ => false
def asksD : D → Bool
  | .tup ds => decide ((ds.length : Int) ≤ 16) && ds.all askD
  | _ => false
def ltP : D → Bool
  | .tup [.int i, .int j] => decide (i < j)
  | _ => false
def ascD (ds : List D) : Bool := ((ds.zip ds.tail).map pairD).all ltP
def indexesD : D → Bool
  | .tup ds => ds.all countD && ascD ds
  | _ => false
def partK (x : Str) (d : D) : Bool := if x = "x" then nameD d else if x = "e" then callD d else if x = "d" then indexesD d else countD d
def sgK : List Str := ["x", "c", "e", "d"]
abbrev stepD (d : D) : Bool := formD tb_FORMS_courses partK d
theorem tbK_ok : tbOk sgK tb_FORMS_courses = true := by decide +kernel
def courseD : D → Bool
  | .tup ds => ds.all stepD
  | _ => false
theorem slD_rest (ds : List D) : slD (.tup ds) (some 1) none = some (.tup ds.tail) := by
  cases ds with
  | nil => rfl
  | cons a ds => exact slD_tail a ds
theorem pair_mem {es ds : List D} {d : D} (h : d ∈ (es.zip ds).map pairD) : ∃ a b, a ∈ es ∧ b ∈ ds ∧ d = .tup [a, b] := by
  obtain ⟨⟨s, e⟩, hm, rfl⟩ := List.mem_map.mp h
  exact ⟨s, e, (List.of_mem_zip hm).1, (List.of_mem_zip hm).2, rfl⟩
theorem countD_int {d : D} (h : countD d = true) : ∃ i, d = .int i := by
  cases d with
  | int i => exact ⟨i, rfl⟩
  | _ => cases h
section
variable {S : Type} {P : Program} {w : World} {K : PySem.W.Frag} {mg : Str → Option Value} {base : Heap} {W : Wd S}
theorem c_is_asking (T : Txt K w mg) : Cal P w K mg base W 3 "is_asking" 1 (pf1 ok askD : MF S) := by
  obtain ⟨fa, fd, F, hg, b⟩ := T.d_is_asking.ex
  refine cal_mk F hg b sc_is_asking rfl (fun cdv A outer s H E hr => (b_cons (s_ite (PW.pt (w_or (t_not (t_of (g_isi T.b.isinstance bb_isinstance (a_cons (g_var 0) (a_cons (g_ty T.b.tuple bb_tuple) a_nil))))) (w_or1 (t_ne hr.units (g_len T.b.len (a_cons (g_var 0) a_nil)) g_int)))) (b_one (s_ret g_bl)) b_nil) (b_one (s_ret (g_and (g_call (c_is_within T) hr (by decide) (a_cons (g_ix (hu1 hr) (g_var 0) g_int) (a_cons g_int (a_cons (g_gl T.k_MOST_PAGE_costs) a_nil)))) (g_one (g_isi T.b.isinstance bb_isinstance (a_cons (g_ix (hu1 hr) (g_var 0) g_int) (a_cons (g_ty T.b.bool bb_bool) a_nil))))))))) ?_
  intro ds s Q hl h
  obtain ⟨d, rfl, hd, h⟩ := pf1_inv h
  simp only [MS.ret, MS.retN, MS.ite, MS.seq, MS.nil, MS.drop, MS.set, MS.asg, MS.par, MS.par3, MS.no, MS.for, MS.aug, ME.var, ME.c, ME.op1, ME.op2, ME.of, ME.ite, ME.chain, MT.op2, MT.op1, MT.of, MT.and, MT.or, MT.not, MT.chain, MA.nil, MA.cons, ME.tup, ME.lst, ME.fn, ME.call, ME.lc, ME.sl, MO.no, MO.yes, MI.seq, MI.of, MI.ofA, ME.disp, ME.callA, ME.callR, ME.dc, ME.lc2, ME.sorted, List.map_cons, List.map_nil, List.cons_append, List.nil_append, List.append_nil, List.length_cons, List.length_nil, Nat.zero_add, Nat.reduceAdd, Nat.reduceSub, List.replicate_succ, List.replicate_zero, List.getD_cons_zero, List.getD_cons_succ, List.set_cons_zero, List.set_cons_succ, OQ_some]
  simp only [isi_tup hd, OQ_some, blD_bl]
  cases d with
  | tup ds =>
    simp only [isTupD, Bool.not_true, if_false, Bool.false_eq_true, len_tup, OQ_some, neD_int] at h ⊢
    cases el : ((ds.length : Int) == 2) with
    | false =>
      have : ∀ x n, ds ≠ [x, n] := by rintro x n rfl; simp at el
      simp only [el, Bool.not_false, if_true] at h ⊢
      simp only [askD] at h
      split at h
      · rename_i x n e; exact absurd (D.tup.inj e) (this x n)
      · exact h
    | true =>
      obtain ⟨a, b, rfl⟩ := tup2 el
      have ha : ok a := ok_tup hd a (by simp)
      have hb : ok b := ok_tup hd b (by simp)
      simp only [el, Bool.not_true, if_false, Bool.false_eq_true, ix_tup, at0, at1, OQ_some, isi_bool hb, blD_bl] at h ⊢
      refine ⟨trivial, ⟨ha, rfl, rfl⟩, ?_⟩
      simp only [askD] at h
      cases e : withinD 0 7 a <;> simp only [e, if_true, if_false, Bool.false_eq_true, Bool.true_and, Bool.false_and] at h ⊢ <;> exact h
  | _ => simp only [isTupD, Bool.not_false, if_true] at h ⊢; exact h
theorem c_are_askings (T : Txt K w mg) : Cal P w K mg base W 4 "are_askings" 1 (pf1 ok asksD : MF S) := by
  obtain ⟨fa, fd, F, hg, b⟩ := T.d_are_askings.ex
  refine cal_mk F hg b sc_are_askings rfl (fun cdv A outer s H E hr => (b_one (s_ret (g_and (g_isi T.b.isinstance bb_isinstance (a_cons (g_var 0) (a_cons (g_ty T.b.tuple bb_tuple) a_nil))) (g_and (g_le (g_len T.b.len (a_cons (g_var 0) a_nil)) (g_gl T.k_MOST_ASKINGS)) (g_one (g_all rfl T.b.all bb_all (a_cons (g_lc [("one", 1)] rfl sc_are_askings.nd (i_seq (g_var 0)) (blkOk_by (by kernel_rfl)) (fun _ _ _ _ _ => (gt_nm (i := 1) sc_are_askings.nd)) (fun _ _ _ _ _ => pts0) (fun _ _ _ _ _ => (g_call (c_is_asking T) hr (by decide) (a_cons (g_var 1) a_nil)))) a_nil)))))))) ?_
  intro ds s Q hl h
  obtain ⟨d, rfl, hd, h⟩ := pf1_inv h
  simp only [MS.ret, MS.retN, MS.ite, MS.seq, MS.nil, MS.drop, MS.set, MS.asg, MS.par, MS.par3, MS.no, MS.for, MS.aug, ME.var, ME.c, ME.op1, ME.op2, ME.of, ME.ite, ME.chain, MT.op2, MT.op1, MT.of, MT.and, MT.or, MT.not, MT.chain, MA.nil, MA.cons, ME.tup, ME.lst, ME.fn, ME.call, ME.lc, ME.sl, MO.no, MO.yes, MI.seq, MI.of, MI.ofA, ME.disp, ME.callA, ME.callR, ME.dc, ME.lc2, ME.sorted, List.map_cons, List.map_nil, List.cons_append, List.nil_append, List.append_nil, List.length_cons, List.length_nil, Nat.zero_add, Nat.reduceAdd, Nat.reduceSub, List.replicate_succ, List.replicate_zero, List.getD_cons_zero, List.getD_cons_succ, List.set_cons_zero, List.set_cons_succ, OQ_some]
  simp only [isi_tup hd, OQ_some, blD_bl]
  cases d with
  | tup ds =>
    simp only [isTupD, len_tup, leD, ordD, OQ_some, if_true, blD_bl, asksD] at h ⊢
    cases e : decide ((ds.length : Int) ≤ 16) with
    | false => simp only [e, if_false, Bool.false_eq_true, Bool.false_and] at h ⊢; exact h
    | true =>
      simp only [e, if_true, Bool.true_and] at h ⊢
      simp only [OQ_some, seqD, szD] at h ⊢
      intro hz
      refine ⟨hz, lc_map (f := fun d => .bl (askD d)) ds (fun d hm => ⟨_, rfl, fun Q hq => ?_⟩) ?_⟩
      · simp only [setT, List.map_cons, List.map_nil, List.cons_append, List.nil_append, List.append_nil, List.length_cons, List.length_nil, Nat.zero_add, Nat.reduceAdd, Nat.reduceSub, List.replicate_succ, List.replicate_zero, List.getD_cons_zero, List.getD_cons_succ, List.set_cons_zero, List.set_cons_succ, OQ_some, wipeD]
        exact ⟨trivial, ok_tup hd d hm, hq⟩
      · rw [allD_map]; exact h
  | _ => simp only [isTupD, if_false, Bool.false_eq_true] at h ⊢; exact h
theorem c_is_count_courses (T : Txt K w mg) : Cal P w K mg base W 2 "is_count_courses" 1 (pf1 ok countD : MF S) := by
  obtain ⟨fa, fd, F, hg, b⟩ := T.d_is_count_courses.ex
  refine cal_mk F hg b sc_is_count_courses rfl (fun cdv A outer s H E hr => (b_one (s_ret (g_and (g_call (c_is_integer T) hr (by decide) (a_cons (g_var 0) a_nil)) (g_one (g_ge (g_var 0) g_int)))))) ?_
  intro ds s Q hl h
  obtain ⟨d, rfl, hd, h⟩ := pf1_inv h
  simp only [MS.ret, MS.retN, MS.ite, MS.seq, MS.nil, MS.drop, MS.set, MS.asg, MS.par, MS.par3, MS.no, MS.for, MS.aug, ME.var, ME.c, ME.op1, ME.op2, ME.of, ME.ite, ME.chain, MT.op2, MT.op1, MT.of, MT.and, MT.or, MT.not, MT.chain, MA.nil, MA.cons, ME.tup, ME.lst, ME.fn, ME.call, ME.lc, ME.sl, MO.no, MO.yes, MI.seq, MI.of, MI.ofA, ME.disp, ME.callA, ME.callR, ME.dc, ME.lc2, ME.sorted, List.map_cons, List.map_nil, List.cons_append, List.nil_append, List.append_nil, List.length_cons, List.length_nil, Nat.zero_add, Nat.reduceAdd, Nat.reduceSub, List.replicate_succ, List.replicate_zero, List.getD_cons_zero, List.getD_cons_succ, List.set_cons_zero, List.set_cons_succ, OQ_some]
  refine ⟨trivial, hd, ?_⟩
  cases d <;> simp only [isIntD, countD, geD, ordD, OQ_some, blD_bl, if_true, if_false, Bool.false_eq_true] at h ⊢ <;> exact h
theorem c_is_count_buffers (T : Txt K w mg) : Cal P w K mg base W 2 "is_count_buffers" 1 (pf1 ok countD : MF S) := by
  obtain ⟨fa, fd, F, hg, b⟩ := T.d_is_count_buffers.ex
  refine cal_mk F hg b sc_is_count_buffers rfl (fun cdv A outer s H E hr => (b_one (s_ret (g_and (g_call (c_is_integer T) hr (by decide) (a_cons (g_var 0) a_nil)) (g_one (g_ge (g_var 0) g_int)))))) ?_
  intro ds s Q hl h
  obtain ⟨d, rfl, hd, h⟩ := pf1_inv h
  simp only [MS.ret, MS.retN, MS.ite, MS.seq, MS.nil, MS.drop, MS.set, MS.asg, MS.par, MS.par3, MS.no, MS.for, MS.aug, ME.var, ME.c, ME.op1, ME.op2, ME.of, ME.ite, ME.chain, MT.op2, MT.op1, MT.of, MT.and, MT.or, MT.not, MT.chain, MA.nil, MA.cons, ME.tup, ME.lst, ME.fn, ME.call, ME.lc, ME.sl, MO.no, MO.yes, MI.seq, MI.of, MI.ofA, ME.disp, ME.callA, ME.callR, ME.dc, ME.lc2, ME.sorted, List.map_cons, List.map_nil, List.cons_append, List.nil_append, List.append_nil, List.length_cons, List.length_nil, Nat.zero_add, Nat.reduceAdd, Nat.reduceSub, List.replicate_succ, List.replicate_zero, List.getD_cons_zero, List.getD_cons_succ, List.set_cons_zero, List.set_cons_succ, OQ_some]
  refine ⟨trivial, hd, ?_⟩
  cases d <;> simp only [isIntD, countD, geD, ordD, OQ_some, blD_bl, if_true, if_false, Bool.false_eq_true] at h ⊢ <;> exact h
theorem c_are_indexes (T : Txt K w mg) : Cal P w K mg base W 3 "are_indexes" 1 (pf1 ok indexesD : MF S) := by
  obtain ⟨fa, fd, F, hg, b⟩ := T.d_are_indexes.ex
  refine cal_mk F hg b sc_are_indexes rfl (fun cdv A outer s H E hr => (b_cons (s_ite (PW.pt (w_or (t_not (t_of (g_isi T.b.isinstance bb_isinstance (a_cons (g_var 0) (a_cons (g_ty T.b.tuple bb_tuple) a_nil))))) (w_or1 (t_not (t_of (g_all rfl T.b.all bb_all (a_cons (g_lc [("one", 1)] rfl sc_are_indexes.nd (i_seq (g_var 0)) (blkOk_by (by kernel_rfl)) (fun _ _ _ _ _ => (gt_nm (i := 1) sc_are_indexes.nd)) (fun _ _ _ _ _ => pts0) (fun _ _ _ _ _ => (g_call (c_is_count_courses T) hr (by decide) (a_cons (g_var 1) a_nil)))) a_nil))))))) (b_one (s_ret g_bl)) b_nil) (b_one (s_ret (g_all rfl T.b.all bb_all (a_cons (g_lc [("one", 1), ("other", 2)] rfl sc_are_indexes.nd (i_zip T.b.zip (a_cons (g_var 0) (a_cons (g_sl (g_var 0) (o_some g_int) o_none) a_nil))) (blkOk_by (by kernel_rfl)) (fun _ _ _ _ _ => (gt_tp rfl (gts_cons (gt_nm (i := 1) sc_are_indexes.nd) (gts_cons (gt_nm (i := 2) sc_are_indexes.nd) gts_nil)))) (fun _ _ _ _ _ => pts0) (fun _ _ _ _ _ => (g_lt (g_var 1) (g_var 2)))) a_nil)))))) ?_
  intro ds s Q hl h
  obtain ⟨d, rfl, hd, h⟩ := pf1_inv h
  simp only [MS.ret, MS.retN, MS.ite, MS.seq, MS.nil, MS.drop, MS.set, MS.asg, MS.par, MS.par3, MS.no, MS.for, MS.aug, ME.var, ME.c, ME.op1, ME.op2, ME.of, ME.ite, ME.chain, MT.op2, MT.op1, MT.of, MT.and, MT.or, MT.not, MT.chain, MA.nil, MA.cons, ME.tup, ME.lst, ME.fn, ME.call, ME.lc, ME.sl, MO.no, MO.yes, MI.seq, MI.of, MI.ofA, ME.disp, ME.callA, ME.callR, ME.dc, ME.lc2, ME.sorted, List.map_cons, List.map_nil, List.cons_append, List.nil_append, List.append_nil, List.length_cons, List.length_nil, Nat.zero_add, Nat.reduceAdd, Nat.reduceSub, List.replicate_succ, List.replicate_zero, List.getD_cons_zero, List.getD_cons_succ, List.set_cons_zero, List.set_cons_succ, OQ_some]
  simp only [isi_tup hd, OQ_some, blD_bl]
  cases d with
  | tup ds =>
    simp only [isTupD, OQ_some, if_true, seqD, szD, Bool.not_true, if_false, Bool.false_eq_true] at h ⊢
    intro hz
    refine ⟨hz, lc_map (f := fun d => .bl (countD d)) ds (fun d hm => ⟨_, rfl, fun Q hq => ?_⟩) ?_⟩
    · simp only [setT, List.map_cons, List.map_nil, List.cons_append, List.nil_append, List.append_nil, List.length_cons, List.length_nil, Nat.zero_add, Nat.reduceAdd, Nat.reduceSub, List.replicate_succ, List.replicate_zero, List.getD_cons_zero, List.getD_cons_succ, List.set_cons_zero, List.set_cons_succ, OQ_some, wipeD]
      exact ⟨trivial, ok_tup hd d hm, hq⟩
    · rw [allD_map]
      simp only [OQ_some, blD_bl, intD, slD_rest, zipD, indexesD] at h ⊢
      cases e : ds.all countD with
      | false => simp only [e, Bool.not_false, if_true, Bool.false_and] at h ⊢; exact h
      | true =>
        simp only [e, Bool.not_true, if_false, Bool.false_eq_true, Bool.true_and] at h ⊢
        refine ⟨?_, lc_map (f := fun d => .bl (ltP d)) _ (fun d hm => ?_) ?_⟩
        · rw [List.length_map, List.length_zip]
          exact Nat.le_trans (Nat.min_le_left _ _) hz
        · obtain ⟨a, b', ha, hb', rfl⟩ := pair_mem hm
          obtain ⟨i, rfl⟩ := countD_int (List.all_eq_true.mp e a ha)
          obtain ⟨j, rfl⟩ := countD_int (List.all_eq_true.mp e b' (List.mem_of_mem_tail hb'))
          refine ⟨_, rfl, fun Q hq => ?_⟩
          simp only [wipeD, List.map_cons, List.map_nil, List.cons_append, List.nil_append, List.append_nil, List.length_cons, List.length_nil, Nat.zero_add, Nat.reduceAdd, Nat.reduceSub, List.replicate_succ, List.replicate_zero, List.getD_cons_zero, List.getD_cons_succ, List.set_cons_zero, List.set_cons_succ, OQ_some, ltD, ordD]
          exact hq
        · rw [allD_map]; exact h
  | _ => simp only [isTupD, Bool.not_false, if_true] at h ⊢; exact h
theorem c_is_part_courses (T : Txt K w mg) : Cal P w K mg base W 9 "is_part_courses" 2 (pf2 (fun s d => ok d ∧ ∃ x ∈ sgK, s = .str x) (fun s d => match s with | .str x => partK x d | _ => false) : MF S) := by
  obtain ⟨fa, fd, F, hg, b⟩ := T.d_is_part_courses.ex
  refine cal_mk F hg b sc_is_part_courses rfl (fun cdv A outer s H E hr => (b_cons (s_ite (t_eq hr.units (g_var 0) g_str) (b_one (s_ret (g_call (c_is_name T) hr (by decide) (a_cons (g_var 1) a_nil)))) b_nil) (b_cons (s_ite (t_eq hr.units (g_var 0) g_str) (b_one (s_ret (g_call (c_is_call_calls T) hr (by decide) (a_cons (g_var 1) a_nil)))) b_nil) (b_one (s_ret (g_ite (t_eq hr.units (g_var 0) g_str) (g_call (c_are_indexes T) hr (by decide) (a_cons (g_var 1) a_nil)) (g_call (c_is_count_courses T) hr (by decide) (a_cons (g_var 1) a_nil)))))))) ?_
  intro ds s Q hl h
  obtain ⟨sg, d, rfl, ⟨hd, x, hx, rfl⟩, h⟩ := pf2_inv h
  replace h : Q (.bl (partK x d)) s := h
  simp only [sgK, List.mem_cons, List.not_mem_nil, or_false] at hx
  rcases hx with rfl | rfl | rfl | rfl
  · have ep : partK "x" d = nameD d := by kernel_rfl
    rw [ep] at h
    simp only [MS.ret, MS.retN, MS.ite, MS.seq, MS.nil, MS.drop, MS.set, MS.asg, MS.par, MS.par3, MS.no, MS.for, MS.aug, ME.var, ME.c, ME.op1, ME.op2, ME.of, ME.ite, ME.chain, MT.op2, MT.op1, MT.of, MT.and, MT.or, MT.not, MT.chain, MA.nil, MA.cons, ME.tup, ME.lst, ME.fn, ME.call, ME.lc, ME.sl, MO.no, MO.yes, MI.seq, MI.of, MI.ofA, ME.disp, ME.callA, ME.callR, ME.dc, ME.lc2, ME.sorted, List.map_cons, List.map_nil, List.cons_append, List.nil_append, List.append_nil, List.length_cons, List.length_nil, Nat.zero_add, Nat.reduceAdd, Nat.reduceSub, List.replicate_succ, List.replicate_zero, List.getD_cons_zero, List.getD_cons_succ, List.set_cons_zero, List.set_cons_succ, OQ_some]
    have e0 : eqD (.str "x") (.str "x") = some true := by kernel_rfl
    simp only [e0, OQ_some, blD_bl, if_true, if_false, Bool.false_eq_true, Bool.true_and, Bool.false_and]
    exact ⟨trivial, hd, h⟩
  · have ep : partK "c" d = countD d := by kernel_rfl
    rw [ep] at h
    simp only [MS.ret, MS.retN, MS.ite, MS.seq, MS.nil, MS.drop, MS.set, MS.asg, MS.par, MS.par3, MS.no, MS.for, MS.aug, ME.var, ME.c, ME.op1, ME.op2, ME.of, ME.ite, ME.chain, MT.op2, MT.op1, MT.of, MT.and, MT.or, MT.not, MT.chain, MA.nil, MA.cons, ME.tup, ME.lst, ME.fn, ME.call, ME.lc, ME.sl, MO.no, MO.yes, MI.seq, MI.of, MI.ofA, ME.disp, ME.callA, ME.callR, ME.dc, ME.lc2, ME.sorted, List.map_cons, List.map_nil, List.cons_append, List.nil_append, List.append_nil, List.length_cons, List.length_nil, Nat.zero_add, Nat.reduceAdd, Nat.reduceSub, List.replicate_succ, List.replicate_zero, List.getD_cons_zero, List.getD_cons_succ, List.set_cons_zero, List.set_cons_succ, OQ_some]
    have e0 : eqD (.str "c") (.str "x") = some false := by kernel_rfl
    have e1 : eqD (.str "c") (.str "e") = some false := by kernel_rfl
    have e2 : eqD (.str "c") (.str "d") = some false := by kernel_rfl
    simp only [e0, e1, e2, OQ_some, blD_bl, if_true, if_false, Bool.false_eq_true, Bool.true_and, Bool.false_and]
    exact ⟨trivial, hd, h⟩
  · have ep : partK "e" d = callD d := by kernel_rfl
    rw [ep] at h
    simp only [MS.ret, MS.retN, MS.ite, MS.seq, MS.nil, MS.drop, MS.set, MS.asg, MS.par, MS.par3, MS.no, MS.for, MS.aug, ME.var, ME.c, ME.op1, ME.op2, ME.of, ME.ite, ME.chain, MT.op2, MT.op1, MT.of, MT.and, MT.or, MT.not, MT.chain, MA.nil, MA.cons, ME.tup, ME.lst, ME.fn, ME.call, ME.lc, ME.sl, MO.no, MO.yes, MI.seq, MI.of, MI.ofA, ME.disp, ME.callA, ME.callR, ME.dc, ME.lc2, ME.sorted, List.map_cons, List.map_nil, List.cons_append, List.nil_append, List.append_nil, List.length_cons, List.length_nil, Nat.zero_add, Nat.reduceAdd, Nat.reduceSub, List.replicate_succ, List.replicate_zero, List.getD_cons_zero, List.getD_cons_succ, List.set_cons_zero, List.set_cons_succ, OQ_some]
    have e0 : eqD (.str "e") (.str "x") = some false := by kernel_rfl
    have e1 : eqD (.str "e") (.str "e") = some true := by kernel_rfl
    simp only [e0, e1, OQ_some, blD_bl, if_true, if_false, Bool.false_eq_true, Bool.true_and, Bool.false_and]
    exact ⟨trivial, hd, h⟩
  · have ep : partK "d" d = indexesD d := by kernel_rfl
    rw [ep] at h
    simp only [MS.ret, MS.retN, MS.ite, MS.seq, MS.nil, MS.drop, MS.set, MS.asg, MS.par, MS.par3, MS.no, MS.for, MS.aug, ME.var, ME.c, ME.op1, ME.op2, ME.of, ME.ite, ME.chain, MT.op2, MT.op1, MT.of, MT.and, MT.or, MT.not, MT.chain, MA.nil, MA.cons, ME.tup, ME.lst, ME.fn, ME.call, ME.lc, ME.sl, MO.no, MO.yes, MI.seq, MI.of, MI.ofA, ME.disp, ME.callA, ME.callR, ME.dc, ME.lc2, ME.sorted, List.map_cons, List.map_nil, List.cons_append, List.nil_append, List.append_nil, List.length_cons, List.length_nil, Nat.zero_add, Nat.reduceAdd, Nat.reduceSub, List.replicate_succ, List.replicate_zero, List.getD_cons_zero, List.getD_cons_succ, List.set_cons_zero, List.set_cons_succ, OQ_some]
    have e0 : eqD (.str "d") (.str "x") = some false := by kernel_rfl
    have e1 : eqD (.str "d") (.str "e") = some false := by kernel_rfl
    have e2 : eqD (.str "d") (.str "d") = some true := by kernel_rfl
    simp only [e0, e1, e2, OQ_some, blD_bl, if_true, if_false, Bool.false_eq_true, Bool.true_and, Bool.false_and]
    exact ⟨trivial, hd, h⟩
theorem c_is_step (T : Txt K w mg) : Cal P w K mg base W 10 "is_step" 1 (pf1 ok stepD : MF S) := by
  obtain ⟨fa, fd, F, hg, b⟩ := T.d_is_step.ex
  refine cal_mk F hg b sc_is_step rfl (fun cdv A outer s H E hr => (b_cons (s_ite (PW.pt (w_or (t_not (t_of (g_isi T.b.isinstance bb_isinstance (a_cons (g_var 0) (a_cons (g_ty T.b.tuple bb_tuple) a_nil))))) (w_or (t_eq hr.units (g_len T.b.len (a_cons (g_var 0) a_nil)) g_int) (w_or (t_not (t_of (g_isi T.b.isinstance bb_isinstance (a_cons (g_ix (hu1 hr) (g_var 0) g_int) (a_cons (g_ty T.b.str bb_str) a_nil))))) (w_or1 (t_notInTbl T.t_FORMS_courses (g_ix (hu1 hr) (g_var 0) g_int))))))) (b_one (s_ret g_bl)) b_nil) (b_cons (s_set (i := 1) sc_is_step.nd (g_getTbl T.t_FORMS_courses (g_ix (hu1 hr) (g_var 0) g_int))) (b_one (s_ret (g_and (g_eq hr.units (g_len T.b.len (a_cons (g_var 0) a_nil)) (g_add (g_len T.b.len (a_cons (g_var 1) a_nil)) g_int)) (g_one (g_all rfl T.b.all bb_all (a_cons (g_lc [("sign", 2), ("one", 3)] rfl sc_is_step.nd (i_zip T.b.zip (a_cons (g_var 1) (a_cons (g_sl (g_var 0) (o_some g_int) o_none) a_nil))) (blkOk_by (by kernel_rfl)) (fun _ _ _ _ _ => (gt_tp rfl (gts_cons (gt_nm (i := 2) sc_is_step.nd) (gts_cons (gt_nm (i := 3) sc_is_step.nd) gts_nil)))) (fun _ _ _ _ _ => pts0) (fun _ _ _ _ _ => (g_call (c_is_part_courses T) hr (by decide) (a_cons (g_var 2) (a_cons (g_var 3) a_nil))))) a_nil))))))))) ?_
  intro ds s Q hl h
  obtain ⟨d, rfl, hd, h⟩ := pf1_inv h
  simp only [MS.ret, MS.retN, MS.ite, MS.seq, MS.nil, MS.drop, MS.set, MS.asg, MS.par, MS.par3, MS.no, MS.for, MS.aug, ME.var, ME.c, ME.op1, ME.op2, ME.of, ME.ite, ME.chain, MT.op2, MT.op1, MT.of, MT.and, MT.or, MT.not, MT.chain, MA.nil, MA.cons, ME.tup, ME.lst, ME.fn, ME.call, ME.lc, ME.sl, MO.no, MO.yes, MI.seq, MI.of, MI.ofA, ME.disp, ME.callA, ME.callR, ME.dc, ME.lc2, ME.sorted, List.map_cons, List.map_nil, List.cons_append, List.nil_append, List.append_nil, List.length_cons, List.length_nil, Nat.zero_add, Nat.reduceAdd, Nat.reduceSub, List.replicate_succ, List.replicate_zero, List.getD_cons_zero, List.getD_cons_succ, List.set_cons_zero, List.set_cons_succ, OQ_some]
  cases d with
  | tup ds =>
    simp only [isi_tup hd, isTupD, OQ_some, blD_bl, Bool.not_true, if_false, Bool.false_eq_true, len_tup, eqD_int]
    cases ds with
    | nil => simp only [List.length_nil]; exact h
    | cons a ds =>
      obtain ⟨ha, hds⟩ := ok_cons hd
      have e0 : (((a :: ds).length : Int) == 0) = false := by simp; omega
      simp only [e0, if_false, Bool.false_eq_true, ix_tup, at0, OQ_some, isi_str ha, blD_bl]
      cases a with
      | str x =>
        simp only [isStrD, Bool.not_true, if_false, Bool.false_eq_true, notInTbl, getTbl, strD, Option.map_some, Option.bind_some, OQ_some]
        cases el : tb_FORMS_courses.lookup x with
        | none =>
          simp only [formD, el, Option.isSome_none, Bool.not_false, if_true] at h ⊢
          exact h
        | some dd =>
          obtain ⟨f, rfl, hf, hsg⟩ := tb_form tbK_ok el
          simp only [formD, el, Option.isSome_some, Bool.not_true, if_false, Bool.false_eq_true, OQ_some, lenD, if_pos (show f.length ≤ big from hf), addD, eqD_int, List.length_cons, len_eq1, intD, slD_tail, zipD, blD_bl] at h ⊢
          cases en : decide (ds.length = f.length) with
          | false => simp only [en, Bool.false_and, if_false, Bool.false_eq_true] at h ⊢; exact h
          | true =>
            simp only [en, Bool.true_and, if_true] at h ⊢
            refine ⟨?_, lc_map (f := fun d => .bl (partP partK d)) _ (fun d hm => ?_) ?_⟩
            · have : (signD f).length = f.length := by simp [signD]; rfl
              rw [List.length_map, List.length_zip, this]
              show _ ≤ 16777216
              omega
            · obtain ⟨sg, e, hs, he, rfl⟩ := zip_items hm
              obtain ⟨x', hx', rfl⟩ := hsg sg hs
              refine ⟨_, rfl, fun Q hq => ?_⟩
              simp only [wipeD, List.map_cons, List.map_nil, List.cons_append, List.nil_append, List.append_nil, List.length_cons, List.length_nil, Nat.zero_add, Nat.reduceAdd, Nat.reduceSub, List.replicate_succ, List.replicate_zero, List.getD_cons_zero, List.getD_cons_succ, List.set_cons_zero, List.set_cons_succ, OQ_some, List.map_cons]
              exact ⟨trivial, ⟨hds e he, x', hx', rfl⟩, hq⟩
            · rw [allD_map]; exact h
      | _ => simp only [isStrD, Bool.not_false, if_true] at h ⊢; exact h
  | _ => simp [isiD, tyD, blD, formD, ok, gd] at h hd ⊢ <;> exact h
theorem c_is_course (T : Txt K w mg) : Cal P w K mg base W 11 "is_course" 1 (pf1 ok courseD : MF S) := by
  obtain ⟨fa, fd, F, hg, b⟩ := T.d_is_course.ex
  refine cal_mk F hg b sc_is_course rfl (fun cdv A outer s H E hr => (b_one (s_ret (g_and (g_isi T.b.isinstance bb_isinstance (a_cons (g_var 0) (a_cons (g_ty T.b.tuple bb_tuple) a_nil))) (g_one (g_all rfl T.b.all bb_all (a_cons (g_lc [("step", 1)] rfl sc_is_course.nd (i_seq (g_var 0)) (blkOk_by (by kernel_rfl)) (fun _ _ _ _ _ => (gt_nm (i := 1) sc_is_course.nd)) (fun _ _ _ _ _ => pts0) (fun _ _ _ _ _ => (g_call (c_is_step T) hr (by decide) (a_cons (g_var 1) a_nil)))) a_nil))))))) ?_
  intro ds s Q hl h
  obtain ⟨d, rfl, hd, h⟩ := pf1_inv h
  simp only [MS.ret, MS.retN, MS.ite, MS.seq, MS.nil, MS.drop, MS.set, MS.asg, MS.par, MS.par3, MS.no, MS.for, MS.aug, ME.var, ME.c, ME.op1, ME.op2, ME.of, ME.ite, ME.chain, MT.op2, MT.op1, MT.of, MT.and, MT.or, MT.not, MT.chain, MA.nil, MA.cons, ME.tup, ME.lst, ME.fn, ME.call, ME.lc, ME.sl, MO.no, MO.yes, MI.seq, MI.of, MI.ofA, ME.disp, ME.callA, ME.callR, ME.dc, ME.lc2, ME.sorted, List.map_cons, List.map_nil, List.cons_append, List.nil_append, List.append_nil, List.length_cons, List.length_nil, Nat.zero_add, Nat.reduceAdd, Nat.reduceSub, List.replicate_succ, List.replicate_zero, List.getD_cons_zero, List.getD_cons_succ, List.set_cons_zero, List.set_cons_succ, OQ_some]
  simp only [isi_tup hd, OQ_some, blD_bl, courseD] at h ⊢
  cases d with
  | tup ds =>
    simp only [isTupD, OQ_some, if_true, seqD, szD] at h ⊢
    intro hz
    refine ⟨hz, lc_map (f := fun d => .bl (stepD d)) ds (fun d hm => ⟨_, rfl, fun Q hq => ?_⟩) ?_⟩
    · simp only [setT, List.map_cons, List.map_nil, List.cons_append, List.nil_append, List.append_nil, List.length_cons, List.length_nil, Nat.zero_add, Nat.reduceAdd, Nat.reduceSub, List.replicate_succ, List.replicate_zero, List.getD_cons_zero, List.getD_cons_succ, List.set_cons_zero, List.set_cons_succ, OQ_some, wipeD]
      exact ⟨trivial, ok_tup hd d hm, hq⟩
    · rw [allD_map]; exact h
  | _ => simp only [isTupD, if_false, Bool.false_eq_true] at h ⊢; exact h
end
end G

set_option Elab.async false
set_option linter.all false
set_option maxRecDepth 100000
set_option maxHeartbeats 4000000
namespace G
open PySem PySem.Spec PyProof.Rows L2
abbrev fenceD : D := .tup [.str "fence"]
def getR : List D → Bool
  | [a, n] => countD a && nameD n
  | _ => false
def swapR : List D → Bool
  | [a, b, c, n] => (countD a && (countD b && countD c)) && nameD n
  | _ => false
def putR : List D → Bool
  | [a, b] => countD a && countD b
  | _ => false
def doingD : D → Bool
  | .tup (.str x :: ds) =>
    if x = "get" then getR ds
    else if x = "swap" then swapR ds
    else eqP (.tup (.str x :: ds)) fenceD || ((x == "put") && putR ds)
  | _ => false
def isNamed : D → Bool
  | .tup (.str x :: _) => decide (x = "get") || decide (x = "swap")
  | _ => false
def lastD : D → D
  | .tup ds => ds.getLast?.getD .non
  | _ => .non
def namesT : D → List D
  | .tup ds => (ds.filter isNamed).map lastD
  | _ => []
def threadD : D → Bool
  | .tup ds => (decide ((ds.length : Int) ≤ 12) && ds.all doingD) && decide (((ds.filter fun d => !eqP d fenceD).length : Int) ≤ 6)
  | _ => false
def putAll (ns : List D) (acc : List (Key × D)) : List (Key × D) := ns.foldl (fun acc d => match keyOf d with | some k => putD acc k (.bl true) | none => acc) acc
def threadsD : D → Bool
  | .tup ds => (decide ((1 : Int) ≤ ds.length) && decide ((ds.length : Int) ≤ 4)) && (ds.all threadD && (((putAll (ds.flatMap namesT) []).length : Int) == ((ds.flatMap namesT).length : Int)))
  | _ => false
/-- a comprehension with a test -/
theorem lc_filter {S : Type} {t : Tgt} {tt : MT S} {te : ME S} {δ : En} {s : S} {k : List D → S → Prop} {p : D → Bool} {f : D → D} : ∀ (ds : List D), (∀ d ∈ ds, ∃ δ1, setT t d δ = some δ1 ∧ (∀ Q, Q (p d) s → tt.run δ1 s Q) ∧ (p d = true → ∀ Q, Q (f d) s → te.run δ1 s Q)) → k ((ds.filter p).map f) s → lcRun t tt te δ ds s k
  | [], _, h => h
  | d :: ds, hd, h => by
    obtain ⟨δ1, e, h1, h2⟩ := hd d List.mem_cons_self
    unfold lcRun
    rw [e]
    refine h1 _ ?_
    cases ep : p d with
    | true =>
      rw [if_pos rfl]
      refine h2 ep _ (lc_filter (k := fun r s3 => k (f d :: r) s3) ds (fun d' hd' => hd d' (List.mem_cons_of_mem _ hd')) ?_)
      rw [List.filter_cons_of_pos ep] at h
      exact h
    | false =>
      rw [if_neg (by simp)]
      refine lc_filter ds (fun d' hd' => hd d' (List.mem_cons_of_mem _ hd')) ?_
      rw [List.filter_cons_of_neg (by simp [ep])] at h
      exact h
theorem yes_if {S : Type} {δ : En} {s : S} {A B : S → Prop} (h : A s) : (MT.yes : MT S).run δ s fun b s1 => if b = true then A s1 else B s1 := by
  show (if true = true then A s else B s)
  rw [if_pos rfl]
  exact h
/-- two fors, no test -/
theorem lc2_flat {S : Type} {t : Tgt} {i1 : MI S} {t1 : Tgt} {te : ME S} {vs1 : List Nat} {δ : En} {s : S} {f : D → List D} {g : D → D} {m : Nat} : ∀ (ds : List D) (n : Nat) (k : List D → S → Prop), (∀ d ∈ ds, (f d).length ≤ m ∧ ∃ δ1, setT t d δ = some δ1 ∧ (∀ Q, Q (f d) s → i1.run δ1 s Q) ∧ ∀ y ∈ f d, ∃ δ2, setT t1 y (wipeD δ1 vs1) = some δ2 ∧ ∀ Q, Q (g y) s → te.run δ2 s Q) →
    n + ds.length * m ≤ big → k ((ds.flatMap f).map g) s → lc2Run t MT.yes i1 t1 MT.yes te vs1 δ n ds s k
  | [], n, k, _, _, h => h
  | d :: ds, n, k, hd, hn, h => by
    obtain ⟨hm, δ1, e, h1, h2⟩ := hd d List.mem_cons_self
    have hn' : n + (ds.length + 1) * m ≤ 16777216 := by simpa using hn
    have e1 : (ds.length + 1) * m = ds.length * m + m := by rw [Nat.add_mul, Nat.one_mul]
    unfold lc2Run
    rw [e]
    refine yes_if (h1 _ ⟨show n + (f d).length ≤ 16777216 by omega, lc_map (f := g) (f d) h2 ?_⟩)
    have hn2 : n + ((f d).map g).length + ds.length * m ≤ 16777216 := by rw [List.length_map]; omega
    refine lc2_flat ds _ (fun r s4 => k ((f d).map g ++ r) s4) (fun d' hd' => hd d' (List.mem_cons_of_mem _ hd')) hn2 ?_
    rw [List.flatMap_cons, List.map_append] at h
    exact h
theorem putD_len (acc : List (Key × D)) (k : Key) (d : D) : (putD acc k d).length ≤ acc.length + 1 := by
  unfold putD
  split
  · rw [List.length_map]; omega
  · simp
/-- {x: True for x in xs} -/
theorem dc_put {S : Type} {t : Tgt} {tk tv : ME S} {δ : En} {s : S} {k : List (Key × D) → S → Prop} : ∀ (ds : List D) (acc : List (Key × D)), (∀ d ∈ ds, (∃ z, d = .str z) ∧ ∃ δ1, setT t d δ = some δ1 ∧ (∀ Q, Q d s → tk.run δ1 s Q) ∧ (∀ Q, Q (.bl true) s → tv.run δ1 s Q)) →
    acc.length + ds.length ≤ big → k (putAll ds acc) s → dcRun t MT.yes tk tv δ ds acc s k
  | [], acc, _, _, h => h
  | d :: ds, acc, hd, hn, h => by
    obtain ⟨⟨z, rfl⟩, δ1, e, h1, h2⟩ := hd d List.mem_cons_self
    have hn' : acc.length + (ds.length + 1) ≤ 16777216 := by simpa using hn
    unfold dcRun
    rw [e]
    refine yes_if (h1 _ (h2 _ ⟨show acc.length < 16777216 by omega, ?_⟩))
    have := putD_len acc (.inr z) (.bl true)
    refine dc_put ds _ (fun d' hd' => hd d' (List.mem_cons_of_mem _ hd')) (show _ ≤ 16777216 by omega) ?_
    exact h
theorem atm1 {α : Type} (xs : List α) (h : xs ≠ []) : atI xs (-1) = xs.getLast? := by
  have hl : 0 < xs.length := List.length_pos_iff.mpr h
  unfold atI L2.ixN
  rw [if_neg (by omega), if_pos (by omega)]
  show xs[((-1 : Int) + xs.length).toNat]? = _
  rw [List.getLast?_eq_getElem?]
  congr 1
  omega
theorem named_none {x : Str} (h1 : x ≠ "get") (h2 : x ≠ "swap") : tb_NAMED.lookup x = none := by
  have e1 : (x == ("get" : Str)) = false := beq_eq_false_iff_ne.mpr h1
  have e2 : (x == ("swap" : Str)) = false := beq_eq_false_iff_ne.mpr h2
  simp [tb_NAMED, List.lookup_cons, e1, e2]
theorem named_get : tb_NAMED.lookup (Str.ofString "get") = some (D.int 1) := by kernel_rfl
theorem named_swap : tb_NAMED.lookup (Str.ofString "swap") = some (D.int 3) := by kernel_rfl
theorem inTbl_str (tb : List (Str × D)) (x : Str) : inTbl tb (.str x) = some (tb.lookup x).isSome := rfl
theorem getTbl_str (tb : List (Str × D)) (x : Str) : getTbl tb (.str x) = tb.lookup x := rfl
theorem doing_str {d : D} (h : doingD d = true) : ∃ x ds, d = .tup (.str x :: ds) := by
  unfold doingD at h
  split at h
  · exact ⟨_, _, rfl⟩
  · cases h
/-- who is named at the end -/
theorem doing_last {x : Str} {ds : List D} (h : doingD (.tup (.str x :: ds)) = true) (hn : isNamed (.tup (.str x :: ds)) = true) : ∃ z, lastD (.tup (.str x :: ds)) = .str z ∧ (D.str x :: ds).getLast? = some (.str z) := by
  simp only [isNamed, Bool.or_eq_true, decide_eq_true_eq] at hn
  simp only [doingD] at h
  have key : ∀ (d : D) (r : List D), r.getLast? = some d → nameD d = true → ∃ z, lastD (.tup r) = .str z ∧ r.getLast? = some (.str z) := by
    intro d r e hd
    cases d with
    | str z => exact ⟨z, by simp [lastD, e], e⟩
    | _ => cases hd
  rcases hn with rfl | rfl
  · rw [if_pos rfl] at h
    unfold getR at h
    split at h
    · rename_i a n
      rw [Bool.and_eq_true] at h
      exact key n _ rfl h.2
    · cases h
  · rw [if_neg (by decide +kernel), if_pos rfl] at h
    unfold swapR at h
    split at h
    · rename_i a b c n
      rw [Bool.and_eq_true] at h
      exact key n _ rfl h.2
    · cases h
section
variable {S : Type} {P : Program} {w : World} {K : PySem.W.Frag} {mg : Str → Option Value} {base : Heap} {W : Wd S}
theorem c_is_doing (T : Txt K w mg) : Cal P w K mg base W 3 "is_doing" 1 (pf1 ok doingD : MF S) := by
  obtain ⟨fa, fd, F, hg, b⟩ := T.d_is_doing.ex
  refine cal_mk F hg b sc_is_doing rfl (fun cdv A outer s H E hr => (b_cons (s_ite (PW.pt (w_or (t_not (t_of (g_isi T.b.isinstance bb_isinstance (a_cons (g_var 0) (a_cons (g_ty T.b.tuple bb_tuple) a_nil))))) (w_or (t_eq hr.units (g_len T.b.len (a_cons (g_var 0) a_nil)) g_int) (w_or1 (t_not (t_of (g_isi T.b.isinstance bb_isinstance (a_cons (g_ix (hu1 hr) (g_var 0) g_int) (a_cons (g_ty T.b.str bb_str) a_nil))))))))) (b_one (s_ret g_bl)) b_nil) (b_cons (s_ite (t_inTbl T.t_NAMED (g_ix (hu1 hr) (g_var 0) g_int)) (b_cons (s_set (i := 1) sc_is_doing.nd (g_getTbl T.t_NAMED (g_ix (hu1 hr) (g_var 0) g_int))) (b_one (s_ret (g_and (g_eq hr.units (g_len T.b.len (a_cons (g_var 0) a_nil)) (g_add (g_var 1) g_int)) (g_and (g_all rfl T.b.all bb_all (a_cons (g_lc [("one", 2)] rfl sc_is_doing.nd (i_seq (g_sl (g_var 0) (o_some g_int) (o_some (g_add (g_var 1) g_int)))) (blkOk_by (by kernel_rfl)) (fun _ _ _ _ _ => (gt_nm (i := 2) sc_is_doing.nd)) (fun _ _ _ _ _ => pts0) (fun _ _ _ _ _ => (g_call (c_is_count_buffers T) hr (by decide) (a_cons (g_var 2) a_nil)))) a_nil)) (g_one (g_call (c_is_name T) hr (by decide) (a_cons (g_ix (hu1 hr) (g_var 0) (g_neg g_int)) a_nil)))))))) b_nil) (b_one (s_ret (g_or (g_eq hr.units (g_var 0) (g_gl T.k_FENCE)) (g_one (g_and (g_eq hr.units (g_ix (hu1 hr) (g_var 0) g_int) (g_gl T.k_PUT_orders)) (g_and (g_eq hr.units (g_len T.b.len (a_cons (g_var 0) a_nil)) g_int) (g_and (g_call (c_is_count_buffers T) hr (by decide) (a_cons (g_ix (hu1 hr) (g_var 0) g_int) a_nil)) (g_one (g_call (c_is_count_buffers T) hr (by decide) (a_cons (g_ix (hu1 hr) (g_var 0) g_int) a_nil))))))))))))) ?_
  intro ds s Q hl h
  obtain ⟨d, rfl, hd, h⟩ := pf1_inv h
  simp only [MS.ret, MS.retN, MS.ite, MS.seq, MS.nil, MS.drop, MS.set, MS.asg, MS.par, MS.par3, MS.no, MS.for, MS.aug, ME.var, ME.c, ME.op1, ME.op2, ME.of, ME.ite, ME.chain, MT.op2, MT.op1, MT.of, MT.and, MT.or, MT.not, MT.chain, MA.nil, MA.cons, ME.tup, ME.lst, ME.fn, ME.call, ME.lc, ME.sl, MO.no, MO.yes, MI.seq, MI.of, MI.ofA, ME.disp, ME.callA, ME.callR, ME.dc, ME.lc2, ME.sorted, List.map_cons, List.map_nil, List.cons_append, List.nil_append, List.append_nil, List.length_cons, List.length_nil, Nat.zero_add, Nat.reduceAdd, Nat.reduceSub, List.replicate_succ, List.replicate_zero, List.getD_cons_zero, List.getD_cons_succ, List.set_cons_zero, List.set_cons_succ, OQ_some]
  cases d with
  | tup ds =>
    simp only [isi_tup hd, isTupD, OQ_some, blD_bl, Bool.not_true, if_false, Bool.false_eq_true, len_tup, eqD_int]
    cases ds with
    | nil => simp only [List.length_nil]; exact h
    | cons a ds =>
      obtain ⟨ha, hds⟩ := ok_cons hd
      have e0 : (((a :: ds).length : Int) == 0) = false := by simp; omega
      simp only [e0, if_false, Bool.false_eq_true, ix_tup, at0, OQ_some, isi_str ha, blD_bl]
      cases a with
      | str x =>
        simp only [isStrD, Bool.not_true, if_false, Bool.false_eq_true, inTbl_str, getTbl_str, OQ_some]
        by_cases hx : x = "get"
        · subst hx
          simp only [named_get, Option.isSome_some, if_true, OQ_some, addD, eqD_int, blD_bl, intD]
          have ed : doingD (.tup (.str "get" :: ds)) = getR ds := by simp only [doingD, if_true]
          rw [ed] at h
          cases el : (((D.str "get" :: ds).length : Int) == 1 + 2) with
          | false =>
            simp only [if_false, Bool.false_eq_true]
            unfold getR at h
            split at h
            · simp at el
            · exact h
          | true =>
            obtain ⟨a, n, rfl⟩ : ∃ a n, ds = [a, n] := by
              have h1 : ((ds.length + 1 : Nat) : Int) = 1 + 2 := by simpa using el
              exact tup2 (by have : ds.length = 2 := by omega
                             rw [this]; rfl)
            have ec : slD (.tup [.str "get", a, n]) (some 1) (some (1 + 1)) = some (.tup [a]) := rfl
            simp only [if_true, ec, OQ_some, seqD, szD]
            intro hz
            refine ⟨hz, lc_map (f := fun d => .bl (countD d)) _ (fun d hm => ⟨_, rfl, fun Q hq => ?_⟩) ?_⟩
            · simp only [setT, List.map_cons, List.map_nil, List.cons_append, List.nil_append, List.append_nil, List.length_cons, List.length_nil, Nat.zero_add, Nat.reduceAdd, Nat.reduceSub, List.replicate_succ, List.replicate_zero, List.getD_cons_zero, List.getD_cons_succ, List.set_cons_zero, List.set_cons_succ, OQ_some, wipeD]
              exact ⟨trivial, hds d (by simp at hm; simp [hm]), hq⟩
            · rw [allD_map]
              simp only [OQ_some, blD_bl, List.all_cons, List.all_nil, Bool.and_true, negD, ix_tup, getR, swapR] at h ⊢
              rw [atm1 _ (by simp)]
              cases e : countD a <;> simp only [e, if_true, if_false, Bool.false_eq_true, Bool.true_and, Bool.false_and] at h ⊢
              · exact h
              · exact ⟨trivial, hds n (by simp), h⟩
        · by_cases hx2 : x = "swap"
          · subst hx2
            simp only [named_swap, Option.isSome_some, if_true, OQ_some, addD, eqD_int, blD_bl, intD]
            have ed : doingD (.tup (.str "swap" :: ds)) = swapR ds := by simp only [doingD, if_true, if_neg hx]
            rw [ed] at h
            cases el : (((D.str "swap" :: ds).length : Int) == 3 + 2) with
            | false =>
              simp only [if_false, Bool.false_eq_true]
              unfold swapR at h
              split at h
              · simp at el
              · exact h
            | true =>
              obtain ⟨a, b, c, n, rfl⟩ : ∃ a b c n, ds = [a, b, c, n] := by
                have h1 : ((ds.length + 1 : Nat) : Int) = 3 + 2 := by simpa using el
                have h2 : ds.length = 4 := by omega
                match ds, h2 with
                | [a, b, c, n], _ => exact ⟨a, b, c, n, rfl⟩
              have ec : slD (.tup [.str "swap", a, b, c, n]) (some 1) (some (3 + 1)) = some (.tup [a, b, c]) := rfl
              simp only [if_true, ec, OQ_some, seqD, szD]
              intro hz
              refine ⟨hz, lc_map (f := fun d => .bl (countD d)) _ (fun d hm => ⟨_, rfl, fun Q hq => ?_⟩) ?_⟩
              · simp only [setT, List.map_cons, List.map_nil, List.cons_append, List.nil_append, List.append_nil, List.length_cons, List.length_nil, Nat.zero_add, Nat.reduceAdd, Nat.reduceSub, List.replicate_succ, List.replicate_zero, List.getD_cons_zero, List.getD_cons_succ, List.set_cons_zero, List.set_cons_succ, OQ_some, wipeD]
                refine ⟨trivial, hds d ?_, hq⟩
                simp only [List.mem_cons, List.not_mem_nil, or_false] at hm ⊢
                rcases hm with rfl | rfl | rfl <;> simp
              · rw [allD_map]
                simp only [OQ_some, blD_bl, List.all_cons, List.all_nil, Bool.and_true, negD, ix_tup, getR, swapR] at h ⊢
                rw [atm1 _ (by simp)]
                cases e : (countD a && (countD b && countD c)) <;> simp only [e, if_true, if_false, Bool.false_eq_true, Bool.true_and, Bool.false_and] at h ⊢
                · exact h
                · exact ⟨trivial, hds n (by simp), h⟩
          · have ed : doingD (.tup (.str x :: ds)) = (eqP (.tup (.str x :: ds)) fenceD || ((x == "put") && putR ds)) := by simp only [doingD, if_neg hx, if_neg hx2]
            rw [ed] at h
            have e3 : eqD (.str x) (.str "put") = some (x == "put") := by rw [eqD_ok (ok_sh ha) (by decide +kernel), eqP_str]
            have e4 : eqD (.tup (.str x :: ds)) fenceD = some (eqP (.tup (.str x :: ds)) fenceD) := eqD_ok (ok_sh hd) (by decide +kernel)
            simp only [named_none hx hx2, Option.isSome_none, if_false, Bool.false_eq_true, e4, OQ_some, blD_bl, e3]
            cases e5 : eqP (.tup (.str x :: ds)) fenceD with
            | true => simp only [e5, Bool.true_or, if_true] at h ⊢; exact h
            | false =>
              simp only [e5, Bool.false_or, if_false, Bool.false_eq_true] at h ⊢
              cases e6 : (x == "put") with
              | false => simp only [e6, Bool.false_and, if_false, Bool.false_eq_true] at h ⊢; exact h
              | true =>
                simp only [e6, Bool.true_and, if_true] at h ⊢
                cases el : (((D.str x :: ds).length : Int) == 3) with
                | false =>
                  simp only [if_false, Bool.false_eq_true]
                  unfold putR at h
                  split at h
                  · simp at el
                  · exact h
                | true =>
                  obtain ⟨a, n, rfl⟩ : ∃ a n, ds = [a, n] := by
                    have h1 : ((ds.length + 1 : Nat) : Int) = 3 := by simpa using el
                    exact tup2 (by have : ds.length = 2 := by omega
                                   rw [this]; rfl)
                  simp only [if_true, at1, at2, OQ_some, putR] at h ⊢
                  refine ⟨trivial, hds a (by simp), ?_⟩
                  cases e : countD a <;> simp only [e, if_true, if_false, Bool.false_eq_true, Bool.true_and, Bool.false_and] at h ⊢
                  · exact h
                  · exact ⟨trivial, hds n (by simp), h⟩
      | _ => simp only [isStrD, Bool.not_false, if_true] at h ⊢; exact h
  | _ => simp [isiD, tyD, blD, doingD, ok, gd] at h hd ⊢ <;> exact h
end
end G

set_option Elab.async false
set_option linter.all false
set_option maxRecDepth 100000
set_option maxHeartbeats 4000000
namespace G
open PySem PySem.Spec PyProof.Rows L2
def namesF {S : Type} : MF S := ⟨fun ds s Q => ∃ es, ds = [.tup es] ∧ ok (.tup es) ∧ es.all doingD = true ∧ Q (.lst (namesT (.tup es))) s, fun h ⟨es, a, b, c, q⟩ => ⟨es, a, b, c, h _ _ q⟩⟩
theorem isNamed_eq (x : Str) (ds : List D) : (tb_NAMED.lookup x).isSome = isNamed (.tup (.str x :: ds)) := by
  by_cases h1 : x = "get"
  · subst h1; rfl
  · by_cases h2 : x = "swap"
    · subst h2; rfl
    · rw [named_none h1 h2]
      simp [isNamed, h1, h2]
theorem names_str {d : D} (h : threadD d = true) : ∀ y ∈ namesT d, ∃ z, y = .str z := by
  cases d with
  | tup ds =>
    simp only [threadD, Bool.and_eq_true] at h
    intro y hy
    simp only [namesT, List.mem_map, List.mem_filter] at hy
    obtain ⟨e, ⟨he, hn⟩, rfl⟩ := hy
    obtain ⟨x, r, rfl⟩ := doing_str (List.all_eq_true.mp h.1.2 e he)
    obtain ⟨z, hz, _⟩ := doing_last (List.all_eq_true.mp h.1.2 _ he) hn
    exact ⟨z, hz⟩
  | _ => cases h
theorem names_len {d : D} (h : threadD d = true) : (namesT d).length ≤ 12 := by
  cases d with
  | tup ds =>
    simp only [threadD, Bool.and_eq_true, decide_eq_true_eq] at h
    have h1 := h.1.1
    simp only [namesT, List.length_map]
    have := List.length_filter_le isNamed ds
    omega
  | _ => cases h
theorem flat_len_le {f : D → List D} {m : Nat} : ∀ ds : List D, (∀ d ∈ ds, (f d).length ≤ m) → (ds.flatMap f).length ≤ ds.length * m
  | [], _ => by simp
  | d :: ds, h => by
    rw [List.flatMap_cons, List.length_append, List.length_cons, Nat.add_mul, Nat.one_mul]
    have h1 := h d List.mem_cons_self
    have h2 := flat_len_le ds fun d' hd' => h d' (List.mem_cons_of_mem _ hd')
    omega
theorem thread_tup {d : D} (h : threadD d = true) : ∃ es, d = .tup es ∧ es.all doingD = true := by
  cases d with
  | tup ds =>
    simp only [threadD, Bool.and_eq_true] at h
    exact ⟨ds, rfl, h.1.2⟩
  | _ => cases h
theorem isi_dct (ds : List (Key × D)) : lenD [dctOf ds] = some (.int ds.length) := by simp [lenD, dctOf]
theorem len_lst (ds : List D) : lenD [.lst ds] = some (.int ds.length) := rfl
section
variable {S : Type} {P : Program} {w : World} {K : PySem.W.Frag} {mg : Str → Option Value} {base : Heap} {W : Wd S}
theorem c_names_of (T : Txt K w mg) : Cal P w K mg base W 2 "names_of" 1 (namesF : MF S) := by
  obtain ⟨fa, fd, F, hg, b⟩ := T.d_names_of.ex
  refine cal_mk F hg b sc_names_of rfl (fun cdv A outer s H E hr => (b_one (s_ret (g_lc [("doing", 1)] rfl sc_names_of.nd (i_seq (g_var 0)) (blkOk_by (by kernel_rfl)) (fun _ _ _ _ _ => (gt_nm (i := 1) sc_names_of.nd)) (fun _ _ _ _ _ => (pts1 (t_inTbl T.t_NAMED (g_ix (hu1 hr) (g_var 1) g_int)))) (fun _ _ _ _ _ => (g_ix (hu1 hr) (g_var 1) (g_neg g_int))))))) ?_
  intro ds s Q hl h
  obtain ⟨es, rfl, hd, hall, h⟩ := h
  simp only [MS.ret, MS.retN, MS.ite, MS.seq, MS.nil, MS.drop, MS.set, MS.asg, MS.par, MS.par3, MS.no, MS.for, MS.aug, ME.var, ME.c, ME.op1, ME.op2, ME.of, ME.ite, ME.chain, MT.op2, MT.op1, MT.of, MT.and, MT.or, MT.not, MT.chain, MA.nil, MA.cons, ME.tup, ME.lst, ME.fn, ME.call, ME.lc, ME.sl, MO.no, MO.yes, MI.seq, MI.of, MI.ofA, ME.disp, ME.callA, ME.callR, ME.dc, ME.lc2, ME.sorted, List.map_cons, List.map_nil, List.cons_append, List.nil_append, List.append_nil, List.length_cons, List.length_nil, Nat.zero_add, Nat.reduceAdd, Nat.reduceSub, List.replicate_succ, List.replicate_zero, List.getD_cons_zero, List.getD_cons_succ, List.set_cons_zero, List.set_cons_succ, OQ_some]
  simp only [seqD, OQ_some, szD]
  intro hz
  refine ⟨hz, lc_filter (p := isNamed) (f := lastD) es (fun d hm => ⟨_, rfl, fun Q hq => ?_, fun hn Q hq => ?_⟩) h⟩
  · obtain ⟨x, r, rfl⟩ := doing_str (List.all_eq_true.mp hall d hm)
    simp only [setT, List.map_cons, List.map_nil, List.cons_append, List.nil_append, List.append_nil, List.length_cons, List.length_nil, Nat.zero_add, Nat.reduceAdd, Nat.reduceSub, List.replicate_succ, List.replicate_zero, List.getD_cons_zero, List.getD_cons_succ, List.set_cons_zero, List.set_cons_succ, OQ_some, wipeD, ix_tup, at0, inTbl_str, isNamed_eq x r]
    exact hq
  · obtain ⟨x, r, rfl⟩ := doing_str (List.all_eq_true.mp hall d hm)
    obtain ⟨z, e1, e2⟩ := doing_last (List.all_eq_true.mp hall _ hm) hn
    simp only [setT, List.map_cons, List.map_nil, List.cons_append, List.nil_append, List.append_nil, List.length_cons, List.length_nil, Nat.zero_add, Nat.reduceAdd, Nat.reduceSub, List.replicate_succ, List.replicate_zero, List.getD_cons_zero, List.getD_cons_succ, List.set_cons_zero, List.set_cons_succ, OQ_some, wipeD, negD, ix_tup]
    rw [atm1 _ (by simp), e2, ← e1]
    exact hq
theorem c_is_thread (T : Txt K w mg) : Cal P w K mg base W 4 "is_thread" 1 (pf1 ok threadD : MF S) := by
  obtain ⟨fa, fd, F, hg, b⟩ := T.d_is_thread.ex
  refine cal_mk F hg b sc_is_thread rfl (fun cdv A outer s H E hr => (b_cons (s_ite (PW.pt (w_or (t_not (t_of (g_isi T.b.isinstance bb_isinstance (a_cons (g_var 0) (a_cons (g_ty T.b.tuple bb_tuple) a_nil))))) (w_or (t_gt (g_len T.b.len (a_cons (g_var 0) a_nil)) (g_gl T.k_MOST_ROWS)) (w_or1 (t_not (t_of (g_all rfl T.b.all bb_all (a_cons (g_lc [("doing", 1)] rfl sc_is_thread.nd (i_seq (g_var 0)) (blkOk_by (by kernel_rfl)) (fun _ _ _ _ _ => (gt_nm (i := 1) sc_is_thread.nd)) (fun _ _ _ _ _ => pts0) (fun _ _ _ _ _ => (g_call (c_is_doing T) hr (by decide) (a_cons (g_var 1) a_nil)))) a_nil)))))))) (b_one (s_ret g_bl)) b_nil) (b_one (s_ret (g_le (g_len T.b.len (a_cons (g_lc [("doing", 1)] rfl sc_is_thread.nd (i_seq (g_var 0)) (blkOk_by (by kernel_rfl)) (fun _ _ _ _ _ => (gt_nm (i := 1) sc_is_thread.nd)) (fun _ _ _ _ _ => (pts1 (t_ne hr.units (g_var 1) (g_gl T.k_FENCE)))) (fun _ _ _ _ _ => (g_var 1))) a_nil)) (g_gl T.k_MOST_DOINGS)))))) ?_
  intro ds s Q hl h
  obtain ⟨d, rfl, hd, h⟩ := pf1_inv h
  simp only [MS.ret, MS.retN, MS.ite, MS.seq, MS.nil, MS.drop, MS.set, MS.asg, MS.par, MS.par3, MS.no, MS.for, MS.aug, ME.var, ME.c, ME.op1, ME.op2, ME.of, ME.ite, ME.chain, MT.op2, MT.op1, MT.of, MT.and, MT.or, MT.not, MT.chain, MA.nil, MA.cons, ME.tup, ME.lst, ME.fn, ME.call, ME.lc, ME.sl, MO.no, MO.yes, MI.seq, MI.of, MI.ofA, ME.disp, ME.callA, ME.callR, ME.dc, ME.lc2, ME.sorted, List.map_cons, List.map_nil, List.cons_append, List.nil_append, List.append_nil, List.length_cons, List.length_nil, Nat.zero_add, Nat.reduceAdd, Nat.reduceSub, List.replicate_succ, List.replicate_zero, List.getD_cons_zero, List.getD_cons_succ, List.set_cons_zero, List.set_cons_succ, OQ_some]
  simp only [isi_tup hd, OQ_some, blD_bl]
  cases d with
  | tup ds =>
    simp only [isTupD, len_tup, gtD, ordD, OQ_some, Bool.not_true, if_false, Bool.false_eq_true, threadD] at h ⊢
    by_cases hle : (ds.length : Int) ≤ 12
    · have hgt : ¬ (12 : Int) < ds.length := by omega
      simp only [hle, hgt, decide_true, decide_false, if_false, Bool.false_eq_true, Bool.true_and, seqD, szD, OQ_some] at h ⊢
      intro hz
      refine ⟨hz, lc_map (f := fun d => .bl (doingD d)) ds (fun d hm => ⟨_, rfl, fun Q hq => ?_⟩) ?_⟩
      · simp only [setT, List.map_cons, List.map_nil, List.cons_append, List.nil_append, List.append_nil, List.length_cons, List.length_nil, Nat.zero_add, Nat.reduceAdd, Nat.reduceSub, List.replicate_succ, List.replicate_zero, List.getD_cons_zero, List.getD_cons_succ, List.set_cons_zero, List.set_cons_succ, OQ_some, wipeD]
        exact ⟨trivial, ok_tup hd d hm, hq⟩
      · rw [allD_map]
        simp only [OQ_some, blD_bl]
        cases e : ds.all doingD with
        | false => simp only [e, Bool.not_false, if_true, Bool.false_and] at h ⊢; exact h
        | true =>
          simp only [e, Bool.not_true, if_false, Bool.false_eq_true, Bool.true_and] at h ⊢
          intro hz2
          refine ⟨hz2, lc_filter (p := fun d => !eqP d fenceD) (f := fun d => d) ds (fun d hm => ⟨_, rfl, fun Q hq => ?_, fun hn Q hq => ?_⟩) ?_⟩
          · simp only [setT, List.map_cons, List.map_nil, List.cons_append, List.nil_append, List.append_nil, List.length_cons, List.length_nil, Nat.zero_add, Nat.reduceAdd, Nat.reduceSub, List.replicate_succ, List.replicate_zero, List.getD_cons_zero, List.getD_cons_succ, List.set_cons_zero, List.set_cons_succ, OQ_some, wipeD]
            rw [neD_ok (ok_sh (ok_tup hd d hm)) (by decide +kernel)]
            exact hq
          · simp only [setT, List.map_cons, List.map_nil, List.cons_append, List.nil_append, List.append_nil, List.length_cons, List.length_nil, Nat.zero_add, Nat.reduceAdd, Nat.reduceSub, List.replicate_succ, List.replicate_zero, List.getD_cons_zero, List.getD_cons_succ, List.set_cons_zero, List.set_cons_succ, OQ_some, wipeD]
            exact hq
          · simp only [List.map_id', len_lst, leD, ordD, OQ_some]
            exact h
    · have hgt : (12 : Int) < ds.length := by omega
      simp only [hle, hgt, decide_true, decide_false, if_true, Bool.false_and] at h ⊢
      exact h
  | _ => simp only [isTupD, Bool.not_false, if_true] at h ⊢; exact h
theorem c_are_threads (T : Txt K w mg) : Cal P w K mg base W 5 "are_threads" 1 (pf1 ok threadsD : MF S) := by
  obtain ⟨fa, fd, F, hg, b⟩ := T.d_are_threads.ex
  refine cal_mk F hg b sc_are_threads rfl (fun cdv A outer s H E hr => (b_cons (s_ite (PW.pt (w_or (t_not (t_of (g_isi T.b.isinstance bb_isinstance (a_cons (g_var 0) (a_cons (g_ty T.b.tuple bb_tuple) a_nil))))) (w_or1 (t_not (t_lele g_int (g_len T.b.len (a_cons (g_var 0) a_nil)) (g_gl T.k_MOST_THREADS)))))) (b_one (s_ret g_bl)) b_nil) (b_cons (s_ite (t_not (t_of (g_all rfl T.b.all bb_all (a_cons (g_lc [("thread", 2)] rfl sc_are_threads.nd (i_seq (g_var 0)) (blkOk_by (by kernel_rfl)) (fun _ _ _ _ _ => (gt_nm (i := 2) sc_are_threads.nd)) (fun _ _ _ _ _ => pts0) (fun _ _ _ _ _ => (g_call (c_is_thread T) hr (by decide) (a_cons (g_var 2) a_nil)))) a_nil)))) (b_one (s_ret g_bl)) b_nil) (b_cons (s_setLc2 [("thread", 2), ("name", 3)] [("name", 3)] (l := 1) rfl sc_are_threads.nd (i_seq (g_var 0)) (blkOk_by (by kernel_rfl)) (by decide) (fun _ _ _ _ _ => (gt_nm (i := 2) sc_are_threads.nd)) (fun _ _ _ _ _ => pts0) (fun _ _ _ _ _ => (i_seq (g_call (c_names_of T) hr (by decide) (a_cons (g_var 2) a_nil)))) (fun _ _ _ _ _ => (gt_nm (i := 3) sc_are_threads.nd)) (fun _ _ _ _ _ => pts0) (fun _ _ _ _ _ => (g_var 3)) rfl) (b_one (s_ret (g_eq hr.units (g_len T.b.len (a_cons (g_dc [("name", 3)] rfl sc_are_threads.nd (i_seq (g_var 1)) (blkOk_by (by kernel_rfl)) (fun _ _ _ _ _ => (gt_nm (i := 3) sc_are_threads.nd)) (fun _ _ _ _ _ => pts0) (fun _ _ _ _ _ => (g_var 3)) (fun _ _ _ _ _ => g_bl)) a_nil)) (g_len T.b.len (a_cons (g_var 1) a_nil))))))))) ?_
  intro ds s Q hl h
  obtain ⟨d, rfl, hd, h⟩ := pf1_inv h
  simp only [MS.ret, MS.retN, MS.ite, MS.seq, MS.nil, MS.drop, MS.set, MS.asg, MS.par, MS.par3, MS.no, MS.for, MS.aug, ME.var, ME.c, ME.op1, ME.op2, ME.of, ME.ite, ME.chain, MT.op2, MT.op1, MT.of, MT.and, MT.or, MT.not, MT.chain, MA.nil, MA.cons, ME.tup, ME.lst, ME.fn, ME.call, ME.lc, ME.sl, MO.no, MO.yes, MI.seq, MI.of, MI.ofA, ME.disp, ME.callA, ME.callR, ME.dc, ME.lc2, ME.sorted, List.map_cons, List.map_nil, List.cons_append, List.nil_append, List.append_nil, List.length_cons, List.length_nil, Nat.zero_add, Nat.reduceAdd, Nat.reduceSub, List.replicate_succ, List.replicate_zero, List.getD_cons_zero, List.getD_cons_succ, List.set_cons_zero, List.set_cons_succ, OQ_some]
  simp only [isi_tup hd, OQ_some, blD_bl]
  cases d with
  | tup ds =>
    simp only [isTupD, len_tup, leD, ordD, OQ_some, Bool.not_true, if_false, Bool.false_eq_true, threadsD] at h ⊢
    cases e1 : decide ((1 : Int) ≤ ds.length) with
    | false => simp only [e1, Bool.false_and, if_false, Bool.false_eq_true, Bool.not_false, if_true] at h ⊢; exact h
    | true =>
      simp only [e1, Bool.true_and, if_true] at h ⊢
      cases e2 : decide ((ds.length : Int) ≤ 4) with
      | false => simp only [e2, Bool.false_and, if_false, Bool.false_eq_true, Bool.not_false, if_true] at h ⊢; exact h
      | true =>
        simp only [e2, Bool.true_and, Bool.not_true, if_false, Bool.false_eq_true, seqD, szD, OQ_some] at h ⊢
        intro hz
        refine ⟨hz, lc_map (f := fun d => .bl (threadD d)) ds (fun d hm => ⟨_, rfl, fun Q hq => ?_⟩) ?_⟩
        · simp only [setT, List.map_cons, List.map_nil, List.cons_append, List.nil_append, List.append_nil, List.length_cons, List.length_nil, Nat.zero_add, Nat.reduceAdd, Nat.reduceSub, List.replicate_succ, List.replicate_zero, List.getD_cons_zero, List.getD_cons_succ, List.set_cons_zero, List.set_cons_succ, OQ_some, wipeD]
          exact ⟨trivial, ok_tup hd d hm, hq⟩
        · rw [allD_map]
          simp only [OQ_some, blD_bl]
          cases e : ds.all threadD with
          | false => simp only [e, Bool.not_false, if_true, Bool.false_and] at h ⊢; exact h
          | true =>
            simp only [e, Bool.not_true, if_false, Bool.false_eq_true, Bool.true_and] at h ⊢
            intro hz2
            have h4 : ds.length ≤ 4 := by
              have e3 : (ds.length : Int) ≤ 4 := by simpa using e2
              omega
            have hfl : (ds.flatMap namesT).length ≤ 48 := Nat.le_trans (flat_len_le (m := 12) ds fun d hm => names_len (List.all_eq_true.mp e d hm)) (by omega)
            refine lc2_flat (f := namesT) (g := fun d => d) (m := 12) ds 0 _ (fun d hm => ⟨names_len (List.all_eq_true.mp e d hm), _, rfl, fun Q hq => ?_, fun y hy => ⟨_, rfl, fun Q hq => ?_⟩⟩) (show _ ≤ 16777216 by omega) ?_
            · obtain ⟨es, rfl, hall⟩ := thread_tup (List.all_eq_true.mp e d hm)
              simp only [setT, List.map_cons, List.map_nil, List.cons_append, List.nil_append, List.append_nil, List.length_cons, List.length_nil, Nat.zero_add, Nat.reduceAdd, Nat.reduceSub, List.replicate_succ, List.replicate_zero, List.getD_cons_zero, List.getD_cons_succ, List.set_cons_zero, List.set_cons_succ, OQ_some, wipeD]
              exact ⟨trivial, es, rfl, ok_tup hd _ hm, hall, fun _ => hq⟩
            · simp only [setT, List.map_cons, List.map_nil, List.cons_append, List.nil_append, List.append_nil, List.length_cons, List.length_nil, Nat.zero_add, Nat.reduceAdd, Nat.reduceSub, List.replicate_succ, List.replicate_zero, List.getD_cons_zero, List.getD_cons_succ, List.set_cons_zero, List.set_cons_succ, OQ_some, wipeD]
              exact hq
            · rw [show (ds.flatMap namesT).map (fun d => d) = ds.flatMap namesT from List.map_id' _]
              refine ⟨show _ ≤ 16777216 by omega, ?_⟩
              intro hz3
              refine dc_put _ [] (fun d hm => ⟨?_, _, rfl, fun Q hq => ?_, fun Q hq => ?_⟩) (show _ ≤ 16777216 by simp only [List.length_nil]; omega) ?_
              · obtain ⟨t, ht, hy⟩ := List.mem_flatMap.mp hm
                exact names_str (List.all_eq_true.mp e t ht) d hy
              · simp only [setT, List.map_cons, List.map_nil, List.cons_append, List.nil_append, List.append_nil, List.length_cons, List.length_nil, Nat.zero_add, Nat.reduceAdd, Nat.reduceSub, List.replicate_succ, List.replicate_zero, List.getD_cons_zero, List.getD_cons_succ, List.set_cons_zero, List.set_cons_succ, OQ_some, wipeD]; exact hq
              · simp only [setT, List.map_cons, List.map_nil, List.cons_append, List.nil_append, List.append_nil, List.length_cons, List.length_nil, Nat.zero_add, Nat.reduceAdd, Nat.reduceSub, List.replicate_succ, List.replicate_zero, List.getD_cons_zero, List.getD_cons_succ, List.set_cons_zero, List.set_cons_succ, OQ_some, wipeD]; exact hq
              · simp only [isi_dct, len_lst, OQ_some, eqD_int]
                exact h
  | _ => simp only [isTupD, Bool.not_false, if_true] at h ⊢; exact h
end
end G

set_option Elab.async false
set_option linter.all false
set_option maxRecDepth 100000
set_option maxHeartbeats 4000000
namespace G
open PySem PySem.Spec PyProof.Rows L2
def rowD : D → Bool
  | .tup ds => ds.all countD
  | _ => false
def rowsF {S : Type} : MF S := ⟨fun ds s Q => (∀ d ∈ ds, ok d ∧ rowD d = true) ∧ Q .non s, fun h q => ⟨q.1, h _ _ q.2⟩⟩
def putP : List D → Bool
  | [.tup r] => r.all countD && decide ((0 : Int) < r.length)
  | _ => false
def keepP (n : Int) : List D → Bool
  | [.int i, .int j] => decide (0 ≤ i) && (decide (0 < j) && decide (i + j ≤ n))
  | _ => false
def pieceD (n : Int) : D → Bool
  | .tup (.str x :: ds) => if x = "put" then putP ds else if x = "keep" then keepP n ds else false
  | _ => false
def piecesD (n : Int) : D → Bool
  | .tup ds => ds.all (pieceD n)
  | _ => false
def rowLen : D → Int
  | .tup ds => ds.length
  | _ => 0
def pieceF {S : Type} (p : Int → D → Bool) : MF S := ⟨fun ds s Q => ∃ n d, ds = [.int n, d] ∧ ok d ∧ Q (.bl (p n d)) s, fun h ⟨n, d, a, b, q⟩ => ⟨n, d, a, b, h _ _ q⟩⟩
theorem two_of {ds : List D} (h : ¬ ((ds.length + 1 : Nat) : Int) < 2) : ∃ b r, ds = b :: r := by
  match ds with
  | [] => simp at h
  | b :: r => exact ⟨b, r, rfl⟩
section
variable {S : Type} {P : Program} {w : World} {K : PySem.W.Frag} {mg : Str → Option Value} {base : Heap} {W : Wd S}
theorem c_is_row (T : Txt K w mg) : Cal P w K mg base W 3 "is_row" 1 (pf1 ok rowD : MF S) := by
  obtain ⟨fa, fd, F, hg, b⟩ := T.d_is_row.ex
  refine cal_mk F hg b sc_is_row rfl (fun cdv A outer s H E hr => (b_one (s_ret (g_and (g_isi T.b.isinstance bb_isinstance (a_cons (g_var 0) (a_cons (g_ty T.b.tuple bb_tuple) a_nil))) (g_one (g_all rfl T.b.all bb_all (a_cons (g_lc [("one", 1)] rfl sc_is_row.nd (i_seq (g_var 0)) (blkOk_by (by kernel_rfl)) (fun _ _ _ _ _ => (gt_nm (i := 1) sc_is_row.nd)) (fun _ _ _ _ _ => pts0) (fun _ _ _ _ _ => (g_and (g_call (c_is_integer T) hr (by decide) (a_cons (g_var 1) a_nil)) (g_one (g_ge (g_var 1) g_int))))) a_nil))))))) ?_
  intro ds s Q hl h
  obtain ⟨d, rfl, hd, h⟩ := pf1_inv h
  simp only [MS.ret, MS.retN, MS.ite, MS.seq, MS.nil, MS.drop, MS.set, MS.asg, MS.par, MS.par3, MS.no, MS.for, MS.aug, ME.var, ME.c, ME.op1, ME.op2, ME.of, ME.ite, ME.chain, MT.op2, MT.op1, MT.of, MT.and, MT.or, MT.not, MT.chain, MA.nil, MA.cons, ME.tup, ME.lst, ME.fn, ME.call, ME.lc, ME.sl, MO.no, MO.yes, MI.seq, MI.of, MI.ofA, ME.disp, ME.callA, ME.callR, ME.dc, ME.lc2, ME.sorted, List.map_cons, List.map_nil, List.cons_append, List.nil_append, List.append_nil, List.length_cons, List.length_nil, Nat.zero_add, Nat.reduceAdd, Nat.reduceSub, List.replicate_succ, List.replicate_zero, List.getD_cons_zero, List.getD_cons_succ, List.set_cons_zero, List.set_cons_succ, OQ_some]
  simp only [isi_tup hd, OQ_some, blD_bl, rowD] at h ⊢
  cases d with
  | tup ds =>
    simp only [isTupD, OQ_some, if_true, seqD, szD] at h ⊢
    intro hz
    refine ⟨hz, lc_map (f := fun d => .bl (countD d)) ds (fun d hm => ⟨_, rfl, fun Q hq => ?_⟩) ?_⟩
    · simp only [setT, List.map_cons, List.map_nil, List.cons_append, List.nil_append, List.append_nil, List.length_cons, List.length_nil, Nat.zero_add, Nat.reduceAdd, Nat.reduceSub, List.replicate_succ, List.replicate_zero, List.getD_cons_zero, List.getD_cons_succ, List.set_cons_zero, List.set_cons_succ, OQ_some, wipeD]
      refine ⟨trivial, ok_tup hd d hm, ?_⟩
      cases d <;> simp only [isIntD, countD, geD, ordD, OQ_some, blD_bl, if_true, if_false, Bool.false_eq_true] at hq ⊢ <;> exact hq
    · rw [allD_map]; exact h
  | _ => simp only [isTupD, if_false, Bool.false_eq_true] at h ⊢; exact h
theorem c_is_piece (T : Txt K w mg) : Cal P w K mg base W 4 "is_piece" 2 (pieceF pieceD : MF S) := by
  obtain ⟨fa, fd, F, hg, b⟩ := T.d_is_piece.ex
  refine cal_mk F hg b sc_is_piece rfl (fun cdv A outer s H E hr => (b_cons (s_ite (PW.pt (w_or (t_not (t_of (g_isi T.b.isinstance bb_isinstance (a_cons (g_var 1) (a_cons (g_ty T.b.tuple bb_tuple) a_nil))))) (w_or (t_lt (g_len T.b.len (a_cons (g_var 1) a_nil)) g_int) (w_or1 (t_not (t_of (g_isi T.b.isinstance bb_isinstance (a_cons (g_ix (hu1 hr) (g_var 1) g_int) (a_cons (g_ty T.b.str bb_str) a_nil))))))))) (b_one (s_ret g_bl)) b_nil) (b_cons (s_ite (t_eq hr.units (g_ix (hu1 hr) (g_var 1) g_int) (g_gl T.k_PUT_patches)) (b_one (s_ret (g_and (g_eq hr.units (g_len T.b.len (a_cons (g_var 1) a_nil)) g_int) (g_and (g_call (c_is_row T) hr (by decide) (a_cons (g_ix (hu1 hr) (g_var 1) g_int) a_nil)) (g_one (g_gt (g_len T.b.len (a_cons (g_ix (hu1 hr) (g_var 1) g_int) a_nil)) g_int)))))) b_nil) (b_cons (s_ite (PW.pt (w_or (t_ne hr.units (g_ix (hu1 hr) (g_var 1) g_int) (g_gl T.k_KEEP)) (w_or (t_ne hr.units (g_len T.b.len (a_cons (g_var 1) a_nil)) g_int) (w_or (t_not (t_of (g_call (c_is_integer T) hr (by decide) (a_cons (g_ix (hu1 hr) (g_var 1) g_int) a_nil)))) (w_or1 (t_not (t_of (g_call (c_is_integer T) hr (by decide) (a_cons (g_ix (hu1 hr) (g_var 1) g_int) a_nil))))))))) (b_one (s_ret g_bl)) b_nil) (b_one (s_ret (g_and (g_ge (g_ix (hu1 hr) (g_var 1) g_int) g_int) (g_and (g_gt (g_ix (hu1 hr) (g_var 1) g_int) g_int) (g_one (g_le (g_add (g_ix (hu1 hr) (g_var 1) g_int) (g_ix (hu1 hr) (g_var 1) g_int)) (g_var 0))))))))))) ?_
  intro ds s Q hl h
  obtain ⟨n, d, rfl, hd, h⟩ := h
  simp only [MS.ret, MS.retN, MS.ite, MS.seq, MS.nil, MS.drop, MS.set, MS.asg, MS.par, MS.par3, MS.no, MS.for, MS.aug, ME.var, ME.c, ME.op1, ME.op2, ME.of, ME.ite, ME.chain, MT.op2, MT.op1, MT.of, MT.and, MT.or, MT.not, MT.chain, MA.nil, MA.cons, ME.tup, ME.lst, ME.fn, ME.call, ME.lc, ME.sl, MO.no, MO.yes, MI.seq, MI.of, MI.ofA, ME.disp, ME.callA, ME.callR, ME.dc, ME.lc2, ME.sorted, List.map_cons, List.map_nil, List.cons_append, List.nil_append, List.append_nil, List.length_cons, List.length_nil, Nat.zero_add, Nat.reduceAdd, Nat.reduceSub, List.replicate_succ, List.replicate_zero, List.getD_cons_zero, List.getD_cons_succ, List.set_cons_zero, List.set_cons_succ, OQ_some]
  cases d with
  | tup ds =>
    simp only [isi_tup hd, isTupD, OQ_some, blD_bl, Bool.not_true, if_false, Bool.false_eq_true, len_tup, ltD, ordD]
    cases ds with
    | nil => simp only [List.length_nil]; exact h
    | cons a ds =>
      obtain ⟨ha, hds⟩ := ok_cons hd
      by_cases hlt : (((a :: ds).length : Nat) : Int) < 2
      · have : ds = [] := by
          match ds with
          | [] => rfl
          | _ :: _ => simp at hlt; omega
        subst this
        simp only [hlt, decide_true, if_true]
        cases a with
        | str x =>
          have : pieceD n (.tup [.str x]) = false := by simp [pieceD, putP, keepP]
          rw [this] at h; exact h
        | _ => exact h
      · simp only [hlt, decide_false, if_false, Bool.false_eq_true, ix_tup, at0, OQ_some, isi_str ha, blD_bl]
        obtain ⟨b, r, rfl⟩ := two_of hlt
        cases a with
        | str x =>
          have e1 : eqD (.str x) (.str "put") = some (x == "put") := by rw [eqD_ok (ok_sh ha) (by decide +kernel), eqP_str]
          have e2 : neD (.str x) (.str "keep") = some (!(x == "keep")) := by rw [neD_ok (ok_sh ha) (by decide +kernel), eqP_str]
          simp only [isStrD, Bool.not_true, if_false, Bool.false_eq_true, e1, e2, OQ_some, eqD_int, neD_int]
          by_cases hx : x = "put"
          · subst hx
            simp only [pieceD, if_true] at h
            simp only [beq_self_eq_true, if_true]
            cases el : (((D.str "put" :: b :: r).length : Int) == 2) with
            | false =>
              simp only [if_false, Bool.false_eq_true]
              unfold putP at h
              split at h
              · rename_i e; cases e; simp at el
              · exact h
            | true =>
              have hr : r = [] := by
                match r with
                | [] => rfl
                | _ :: _ => simp at el; omega
              subst hr
              simp only [if_true, at1, OQ_some, blD_bl]
              refine ⟨trivial, hds b (by simp), ?_⟩
              cases b with
              | tup rs =>
                simp only [putP, rowD, len_tup, gtD, ordD, OQ_some] at h ⊢
                cases e : rs.all countD <;> simp only [e, if_true, if_false, Bool.false_eq_true, Bool.true_and, Bool.false_and] at h ⊢ <;> exact h
              | _ => simp only [putP, rowD, if_false, Bool.false_eq_true] at h ⊢; exact h
          · have hb : (x == ("put" : Str)) = false := beq_eq_false_iff_ne.mpr hx
            simp only [pieceD, if_neg hx] at h
            simp only [hb, if_false, Bool.false_eq_true]
            by_cases hk : x = "keep"
            · subst hk
              simp only [if_true] at h
              simp only [beq_self_eq_true, Bool.not_true, if_false, Bool.false_eq_true]
              cases el : (((D.str "keep" :: b :: r).length : Int) == 3) with
              | false =>
                simp only [Bool.not_false, if_true]
                unfold keepP at h
                split at h
                · rename_i e; cases e; simp at el
                · exact h
              | true =>
                obtain ⟨c, rfl⟩ : ∃ c, r = [c] := by
                  match r, el with
                  | [c], _ => exact ⟨c, rfl⟩
                  | [], el => simp at el
                  | _ :: _ :: _, el => simp at el; omega
                simp only [Bool.not_true, if_false, Bool.false_eq_true, at1, at2, OQ_some]
                refine ⟨trivial, hds b (by simp), ?_⟩
                cases b with
                | int i =>
                  simp only [isIntD, blD_bl, OQ_some, Bool.not_true, if_false, Bool.false_eq_true]
                  refine ⟨trivial, hds c (by simp), ?_⟩
                  cases c with
                  | int j =>
                    simp only [isIntD, blD_bl, OQ_some, Bool.not_true, if_false, Bool.false_eq_true, geD, gtD, leD, ordD, addD, keepP] at h ⊢
                    cases e1 : decide (0 ≤ i) <;> simp only [e1, if_true, if_false, Bool.false_eq_true, Bool.true_and, Bool.false_and] at h ⊢
                    · exact h
                    · cases e2 : decide (0 < j) <;> simp only [e2, if_true, if_false, Bool.false_eq_true, Bool.true_and, Bool.false_and] at h ⊢ <;> exact h
                  | _ => simp only [isIntD, keepP, blD_bl, OQ_some, Bool.not_false, if_true] at h ⊢; exact h
                | _ => simp only [isIntD, keepP, blD_bl, OQ_some, Bool.not_false, if_true] at h ⊢; exact h
            · have hb : (x == ("keep" : Str)) = false := beq_eq_false_iff_ne.mpr hk
              simp only [if_neg hk] at h
              simp only [hb, Bool.not_false, if_true]
              exact h
        | _ => simp only [isStrD, Bool.not_false, if_true] at h ⊢; exact h
  | _ => simp [isiD, tyD, blD, pieceD, ok, gd] at h hd ⊢ <;> exact h
theorem c_are_pieces (T : Txt K w mg) : Cal P w K mg base W 5 "are_pieces" 2 (pieceF piecesD : MF S) := by
  obtain ⟨fa, fd, F, hg, b⟩ := T.d_are_pieces.ex
  refine cal_mk F hg b sc_are_pieces rfl (fun cdv A outer s H E hr => (b_one (s_ret (g_and (g_isi T.b.isinstance bb_isinstance (a_cons (g_var 1) (a_cons (g_ty T.b.tuple bb_tuple) a_nil))) (g_one (g_all rfl T.b.all bb_all (a_cons (g_lc [("piece", 2)] rfl sc_are_pieces.nd (i_seq (g_var 1)) (blkOk_by (by kernel_rfl)) (fun _ _ _ _ _ => (gt_nm (i := 2) sc_are_pieces.nd)) (fun _ _ _ _ _ => pts0) (fun _ _ _ _ _ => (g_call (c_is_piece T) hr (by decide) (a_cons (g_var 0) (a_cons (g_var 2) a_nil))))) a_nil))))))) ?_
  intro ds s Q hl h
  obtain ⟨n, d, rfl, hd, h⟩ := h
  simp only [MS.ret, MS.retN, MS.ite, MS.seq, MS.nil, MS.drop, MS.set, MS.asg, MS.par, MS.par3, MS.no, MS.for, MS.aug, ME.var, ME.c, ME.op1, ME.op2, ME.of, ME.ite, ME.chain, MT.op2, MT.op1, MT.of, MT.and, MT.or, MT.not, MT.chain, MA.nil, MA.cons, ME.tup, ME.lst, ME.fn, ME.call, ME.lc, ME.sl, MO.no, MO.yes, MI.seq, MI.of, MI.ofA, ME.disp, ME.callA, ME.callR, ME.dc, ME.lc2, ME.sorted, List.map_cons, List.map_nil, List.cons_append, List.nil_append, List.append_nil, List.length_cons, List.length_nil, Nat.zero_add, Nat.reduceAdd, Nat.reduceSub, List.replicate_succ, List.replicate_zero, List.getD_cons_zero, List.getD_cons_succ, List.set_cons_zero, List.set_cons_succ, OQ_some]
  simp only [isi_tup hd, OQ_some, blD_bl, piecesD] at h ⊢
  cases d with
  | tup ds =>
    simp only [isTupD, OQ_some, if_true, seqD, szD] at h ⊢
    intro hz
    refine ⟨hz, lc_map (f := fun d => .bl (pieceD n d)) ds (fun d hm => ⟨_, rfl, fun Q hq => ?_⟩) ?_⟩
    · simp only [setT, List.map_cons, List.map_nil, List.cons_append, List.nil_append, List.append_nil, List.length_cons, List.length_nil, Nat.zero_add, Nat.reduceAdd, Nat.reduceSub, List.replicate_succ, List.replicate_zero, List.getD_cons_zero, List.getD_cons_succ, List.set_cons_zero, List.set_cons_succ, OQ_some, wipeD]
      exact ⟨trivial, n, d, rfl, ok_tup hd d hm, hq⟩
    · rw [allD_map]; exact h
  | _ => simp only [isTupD, if_false, Bool.false_eq_true] at h ⊢; exact h
theorem c_check_rows (T : Txt K w mg) : CalR P w K mg base W 4 "check_rows" (rowsF : MF S) := by
  obtain ⟨fa, fd, F, hg⟩ := T.r_check_rows
  refine cal_star F hg sc_check_rows (fun _ _ _ _ _ _ rest => by cases rest <;> rfl) (fun cdv A outer s H E hr => (b_one (s_drop (g_call (c_check T) hr (by decide) (a_cons (g_all rfl T.b.all bb_all (a_cons (g_lc [("row", 1)] rfl sc_check_rows.nd (i_seq (g_var 0)) (blkOk_by (by kernel_rfl)) (fun _ _ _ _ _ => (gt_nm (i := 1) sc_check_rows.nd)) (fun _ _ _ _ _ => pts0) (fun _ _ _ _ _ => (g_call (c_is_row T) hr (by decide) (a_cons (g_var 1) a_nil)))) a_nil)) a_nil))))) ?_
  intro ds s Q ⟨hd, h⟩
  simp only [MS.ret, MS.retN, MS.ite, MS.seq, MS.nil, MS.drop, MS.set, MS.asg, MS.par, MS.par3, MS.no, MS.for, MS.aug, ME.var, ME.c, ME.op1, ME.op2, ME.of, ME.ite, ME.chain, MT.op2, MT.op1, MT.of, MT.and, MT.or, MT.not, MT.chain, MA.nil, MA.cons, ME.tup, ME.lst, ME.fn, ME.call, ME.lc, ME.sl, MO.no, MO.yes, MI.seq, MI.of, MI.ofA, ME.disp, ME.callA, ME.callR, ME.dc, ME.lc2, ME.sorted, List.map_cons, List.map_nil, List.cons_append, List.nil_append, List.append_nil, List.length_cons, List.length_nil, Nat.zero_add, Nat.reduceAdd, Nat.reduceSub, List.replicate_succ, List.replicate_zero, List.getD_cons_zero, List.getD_cons_succ, List.set_cons_zero, List.set_cons_succ, OQ_some]
  simp only [seqD, szD, OQ_some]
  intro hz
  refine ⟨hz, lc_map (f := fun d => .bl (rowD d)) ds (fun d hm => ⟨_, rfl, fun Q hq => ?_⟩) ?_⟩
  · simp only [setT, List.map_cons, List.map_nil, List.cons_append, List.nil_append, List.append_nil, List.length_cons, List.length_nil, Nat.zero_add, Nat.reduceAdd, Nat.reduceSub, List.replicate_succ, List.replicate_zero, List.getD_cons_zero, List.getD_cons_succ, List.set_cons_zero, List.set_cons_succ, OQ_some, wipeD]
    exact ⟨trivial, (hd d hm).1, hq⟩
  · rw [allD_map]
    have e : ds.all rowD = true := List.all_eq_true.mpr fun d hm => (hd d hm).2
    rw [e]
    exact ⟨trivial, rfl, h⟩
theorem c_is_patch (T : Txt K w mg) : Cal P w K mg base W 6 "is_patch" 2 (pf2 (fun a b => ok a ∧ rowD a = true ∧ ok b) (fun a b => piecesD (rowLen a) b) : MF S) := by
  obtain ⟨fa, fd, F, hg, b⟩ := T.d_is_patch.ex
  refine cal_mk F hg b sc_is_patch rfl (fun cdv A outer s H E hr => (b_cons (s_drop (g_callR (c_check_rows T) hr (by decide) (a_cons (g_var 0) a_nil))) (b_one (s_ret (g_call (c_are_pieces T) hr (by decide) (a_cons (g_len T.b.len (a_cons (g_var 0) a_nil)) (a_cons (g_var 1) a_nil))))))) ?_
  intro ds s Q hl h
  obtain ⟨a, d, rfl, ⟨ha, hr, hd⟩, h⟩ := pf2_inv h
  simp only [MS.ret, MS.retN, MS.ite, MS.seq, MS.nil, MS.drop, MS.set, MS.asg, MS.par, MS.par3, MS.no, MS.for, MS.aug, ME.var, ME.c, ME.op1, ME.op2, ME.of, ME.ite, ME.chain, MT.op2, MT.op1, MT.of, MT.and, MT.or, MT.not, MT.chain, MA.nil, MA.cons, ME.tup, ME.lst, ME.fn, ME.call, ME.lc, ME.sl, MO.no, MO.yes, MI.seq, MI.of, MI.ofA, ME.disp, ME.callA, ME.callR, ME.dc, ME.lc2, ME.sorted, List.map_cons, List.map_nil, List.cons_append, List.nil_append, List.append_nil, List.length_cons, List.length_nil, Nat.zero_add, Nat.reduceAdd, Nat.reduceSub, List.replicate_succ, List.replicate_zero, List.getD_cons_zero, List.getD_cons_succ, List.set_cons_zero, List.set_cons_succ, OQ_some]
  refine ⟨show 1 ≤ 16777216 by decide, ⟨?_, ?_⟩⟩
  · intro x hx
    simp only [List.mem_cons, List.not_mem_nil, or_false] at hx
    subst hx
    exact ⟨ha, hr⟩
  · cases a with
    | tup as =>
      simp only [len_tup, OQ_some, rowLen] at h ⊢
      exact ⟨trivial, _, d, rfl, hd, h⟩
    | _ => cases hr
end
end G

set_option Elab.async false
set_option linter.all false
set_option maxRecDepth 100000
set_option maxHeartbeats 4000000
namespace G
open PySem PySem.Spec PyProof.Rows L2
def MF.never {S : Type} : MF S := ⟨fun _ _ _ => False, fun _ h => h⟩
theorem cal_never {S : Type} {P : Program} {w : World} {K : PySem.W.Frag} {mg : Str → Option Value} {base : Heap} {W : Wd S} {x q : Str} {st : Stmt} {ps : List Str} (d : Df K mg x q st ps) (k n : Nat) : Cal P w K mg base W k x n (MF.never : MF S) := by
  obtain ⟨fa, fd, F, hg, b⟩ := d.ex
  exact ⟨fa, fd, ps, ⟨fun vs H Q E ⟨_, _, _, _, _, _, h⟩ => h.elim, fun A outer s H args us vs Q E _ _ _ _ ⟨_, _, _, _, _, _, h⟩ => h.elim⟩, hg, F.kp, b⟩
def isTwo (x : Str) : Bool := ("sum" : Str) == x || (("less" : Str) == x || ("times" : Str) == x)
def isHalf (x : Str) : Bool := ("half" : Str) == x || ("at" : Str) == x
def isLit (x : Str) : Bool := ("lit" : Str) == x || ("get" : Str) == x
def one1 (p : D → Bool) : List D → Bool
  | [a] => p a
  | _ => false
def all2 (n : Nat) (p : D → Bool) (ds : List D) : Bool := ((ds.length : Int) == (n : Int)) && ds.all p
def worthD : Nat → D → Bool
  | 0, _ => false
  | n + 1, .tup (.str x :: ds) => if isTwo x then all2 2 (worthD n) ds else if isHalf x then one1 (worthD n) ds else one1 (fun a => if isLit x then (if x == "lit" then wordD a else nameD a) else false) ds
  | _ + 1, _ => false
def worthF {S : Type} (n : Nat) : MF S := ⟨fun ds s Q => ∃ d m, ds = [d, .int m] ∧ 0 ≤ m ∧ m ≤ n ∧ ok d ∧ Q (.bl (worthD m.toNat d)) s, fun h ⟨d, m, a, b, c, e, q⟩ => ⟨d, m, a, b, c, e, h _ _ q⟩⟩
def isCmp (x : Str) : Bool := ("same" : Str) == x || ("below" : Str) == x
def isNB (x : Str) : Bool := ("not" : Str) == x || ("both" : Str) == x
def condD : Nat → D → Bool
  | 0, _ => false
  | n + 1, .tup (.str x :: ds) => if isCmp x then all2 2 (worthD 8) ds else if isNB x then all2 (if x == "both" then 2 else 1) (condD n) ds else false
  | _ + 1, _ => false
def condF {S : Type} (n : Nat) : MF S := ⟨fun ds s Q => ∃ d m, ds = [d, .int m] ∧ 0 ≤ m ∧ m ≤ n ∧ ok d ∧ Q (.bl (condD m.toNat d)) s, fun h ⟨d, m, a, b, c, e, q⟩ => ⟨d, m, a, b, c, e, h _ _ q⟩⟩
theorem eqD_zero (m : Int) : eqD (.int m) (.int 0) = some (decide (m = 0)) := by
  rw [eqD_int]
  by_cases h : m = 0
  · subst h; rfl
  · simp [h]
section
variable {S : Type} {P : Program} {w : World} {K : PySem.W.Frag} {mg : Str → Option Value} {base : Heap} {W : Wd S}
theorem c_is_worth {n k : Nat} {g : MF S} (T : Txt K w mg) (ih : Cal P w K mg base W k "is_worth" 2 g) (hk : 3 ≤ k) (hgn : ∀ d (j : Nat) s Q, 0 ≤ (j : Int) → j < n → ok d → Q (.bl (worthD ((j : Int)).toNat d)) s → g.run [d, .int j] s Q) : Cal P w K mg base W (k + 1) "is_worth" 2 (worthF n : MF S) := by
  obtain ⟨fa, fd, F, hg, b⟩ := T.d_is_worth.ex
  refine cal_mk F hg b sc_is_worth rfl (fun cdv A outer s H E hr => (b_cons (s_ite (PW.pt (w_or (t_eq hr.units (g_var 1) g_int) (w_or (t_not (t_of (g_isi T.b.isinstance bb_isinstance (a_cons (g_var 0) (a_cons (g_ty T.b.tuple bb_tuple) a_nil))))) (w_or (t_eq hr.units (g_len T.b.len (a_cons (g_var 0) a_nil)) g_int) (w_or1 (t_not (t_of (g_isi T.b.isinstance bb_isinstance (a_cons (g_ix (hu1 hr) (g_var 0) g_int) (a_cons (g_ty T.b.str bb_str) a_nil)))))))))) (b_one (s_ret g_bl)) b_nil) (b_cons (s_par (i := 2) (j := 3) rfl sc_is_worth.nd (a_cons (g_ix (hu1 hr) (g_var 0) g_int) (a_cons (g_sl (g_var 0) (o_some g_int) o_none) a_nil))) (b_cons (s_ite (t_in (hu65 hr) (g_var 2) (g_gl T.k_TWO)) (b_one (s_ret (g_and (g_eq hr.units (g_len T.b.len (a_cons (g_var 3) a_nil)) g_int) (g_one (g_all rfl T.b.all bb_all (a_cons (g_lc [("part", 4)] rfl sc_is_worth.nd (i_seq (g_var 3)) (blkOk_by (by kernel_rfl)) (fun _ _ _ _ _ => (gt_nm (i := 4) sc_is_worth.nd)) (fun _ _ _ _ _ => pts0) (fun _ _ _ _ _ => (g_call ih hr (Nat.le_refl _) (a_cons (g_var 4) (a_cons (g_sub (g_var 1) g_int) a_nil))))) a_nil)))))) b_nil) (b_cons (s_ite (t_in (hu65 hr) (g_var 2) (g_tup (a_cons g_str (a_cons g_str a_nil)))) (b_one (s_ret (g_and (g_eq hr.units (g_len T.b.len (a_cons (g_var 3) a_nil)) g_int) (g_one (g_call ih hr (Nat.le_refl _) (a_cons (g_ix (hu1 hr) (g_var 3) g_int) (a_cons (g_sub (g_var 1) g_int) a_nil))))))) b_nil) (b_cons (s_ite (PW.pt (w_or (t_ne hr.units (g_len T.b.len (a_cons (g_var 3) a_nil)) g_int) (w_or1 (t_notIn (hu65 hr) (g_var 2) (g_tup (a_cons g_str (a_cons g_str a_nil))))))) (b_one (s_ret g_bl)) b_nil) (b_one (s_ret (g_ite (t_eq hr.units (g_var 2) g_str) (g_call (c_is_word T) hr hk (a_cons (g_ix (hu1 hr) (g_var 3) g_int) a_nil)) (g_call (c_is_name T) hr (by omega) (a_cons (g_ix (hu1 hr) (g_var 3) g_int) a_nil))))))))))) ?_
  intro ds s Q hl h
  obtain ⟨d, m, rfl, h0, hm, hd, h⟩ := h
  simp only [MS.ret, MS.retN, MS.ite, MS.seq, MS.nil, MS.drop, MS.set, MS.asg, MS.par, MS.par3, MS.no, MS.for, MS.aug, ME.var, ME.c, ME.op1, ME.op2, ME.of, ME.ite, ME.chain, MT.op2, MT.op1, MT.of, MT.and, MT.or, MT.not, MT.chain, MA.nil, MA.cons, ME.tup, ME.lst, ME.fn, ME.call, ME.lc, ME.sl, MO.no, MO.yes, MI.seq, MI.of, MI.ofA, ME.disp, ME.callA, ME.callR, ME.dc, ME.lc2, ME.sorted, List.map_cons, List.map_nil, List.cons_append, List.nil_append, List.append_nil, List.length_cons, List.length_nil, Nat.zero_add, Nat.reduceAdd, Nat.reduceSub, List.replicate_succ, List.replicate_zero, List.getD_cons_zero, List.getD_cons_succ, List.set_cons_zero, List.set_cons_succ, OQ_some]
  simp only [eqD_zero, OQ_some, isi_tup hd, blD_bl]
  by_cases hz : m = 0
  · subst hz
    simp only [decide_true, if_true]
    cases d <;> exact h
  · obtain ⟨j, rfl⟩ : ∃ j : Nat, m = ((j + 1 : Nat) : Int) := ⟨m.toNat - 1, by omega⟩
    have ej : (((j + 1 : Nat) : Int)).toNat = j + 1 := Int.toNat_natCast _
    have em : ((j + 1 : Nat) : Int) - 1 = (j : Int) := by omega
    rw [ej] at h
    simp only [hz, decide_false, if_false, Bool.false_eq_true]
    cases d with
    | tup ds =>
      simp only [isTupD, Bool.not_true, if_false, Bool.false_eq_true, len_tup, eqD_int, OQ_some]
      cases ds with
      | nil => simp only [List.length_nil]; exact h
      | cons a ds =>
        obtain ⟨ha, hds⟩ := ok_cons hd
        have e0 : (((a :: ds).length : Int) == 0) = false := by simp; omega
        simp only [e0, if_false, Bool.false_eq_true, ix_tup, at0, OQ_some, isi_str ha, blD_bl]
        cases a with
        | str x =>
          simp only [isStrD, Bool.not_true, if_false, Bool.false_eq_true, intD, OQ_some, slD_tail]
          have e1 : inD (.str x) (.tup [.str "sum", .str "less", .str "times"]) = some (isTwo x) := by rw [inD_tup (ok_sh ha) (by decide +kernel)]; simp [eqP_str, isTwo]
          have e2 : inD (.str x) (.tup [.str "half", .str "at"]) = some (isHalf x) := by rw [inD_tup (ok_sh ha) (by decide +kernel)]; simp [eqP_str, isHalf]
          have e3 : notInD (.str x) (.tup [.str "lit", .str "get"]) = some (!isLit x) := by rw [notInD_tup (ok_sh ha) (by decide +kernel)]; simp [eqP_str, isLit]
          have e4 : eqD (.str x) (.str "lit") = some (x == "lit") := by rw [eqD_ok (ok_sh ha) (by decide +kernel), eqP_str]
          simp only [worthD] at h
          simp only [e1, OQ_some]
          cases c1 : isTwo x with
          | true =>
            simp only [c1, if_true, all2, blD_bl, len_tup, eqD_int, OQ_some] at h ⊢
            cases el : ((ds.length : Int) == 2) with
            | false =>
              simp only [show ((ds.length : Int) == ((2 : Nat) : Int)) = false from el, Bool.false_and, if_false, Bool.false_eq_true] at h ⊢
              exact h
            | true =>
              simp only [show ((ds.length : Int) == ((2 : Nat) : Int)) = true from el, Bool.true_and, if_true, seqD, szD, OQ_some] at h ⊢
              intro hz
              refine ⟨hz, lc_map (f := fun d => .bl (worthD j d)) ds (fun d hmm => ⟨_, rfl, fun Q hq => ?_⟩) ?_⟩
              · simp only [setT, List.map_cons, List.map_nil, List.cons_append, List.nil_append, List.append_nil, List.length_cons, List.length_nil, Nat.zero_add, Nat.reduceAdd, Nat.reduceSub, List.replicate_succ, List.replicate_zero, List.getD_cons_zero, List.getD_cons_succ, List.set_cons_zero, List.set_cons_succ, OQ_some, wipeD, iiD, Option.map_some, em]
                refine ⟨trivial, hgn d j _ _ (by omega) (by omega) (hds d hmm) ?_⟩
                rw [Int.toNat_natCast]; exact hq
              · rw [allD_map]; exact h
          | false =>
            simp only [c1, if_false, Bool.false_eq_true] at h ⊢
            refine ⟨by decide, ?_⟩
            rw [e2]
            simp only [OQ_some]
            cases c2 : isHalf x with
            | true =>
              simp only [c2, if_true, blD_bl, len_tup, eqD_int, OQ_some] at h ⊢
              cases el : ((ds.length : Int) == 1) with
              | false =>
                simp only [if_false, Bool.false_eq_true]
                unfold one1 at h
                split at h
                · simp at el
                · exact h
              | true =>
                obtain ⟨a, rfl⟩ : ∃ a, ds = [a] := by
                  match ds, el with
                  | [a], _ => exact ⟨a, rfl⟩
                  | [], el => simp at el
                  | _ :: _ :: _, el => simp at el; omega
                simp only [if_true, at0, OQ_some, iiD, Option.map_some, em, one1] at h ⊢
                refine ⟨trivial, hgn a j _ _ (by omega) (by omega) (hds a (by simp)) ?_⟩
                rw [Int.toNat_natCast]; exact h
            | false =>
              simp only [c2, if_false, Bool.false_eq_true, len_tup, neD_int, OQ_some] at h ⊢
              cases el : ((ds.length : Int) == 1) with
              | false =>
                simp only [Bool.not_false, if_true]
                unfold one1 at h
                split at h
                · simp at el
                · exact h
              | true =>
                obtain ⟨a, rfl⟩ : ∃ a, ds = [a] := by
                  match ds, el with
                  | [a], _ => exact ⟨a, rfl⟩
                  | [], el => simp at el
                  | _ :: _ :: _, el => simp at el; omega
                simp only [Bool.not_true, if_false, Bool.false_eq_true, one1] at h ⊢
                refine ⟨by decide, ?_⟩
                rw [e3]
                simp only [OQ_some]
                cases c3 : isLit x with
                | false => simp only [c3, Bool.not_false, if_true, if_false, Bool.false_eq_true] at h ⊢; exact h
                | true =>
                  simp only [c3, Bool.not_true, if_true, if_false, Bool.false_eq_true, e4, OQ_some, at0] at h ⊢
                  cases c4 : (x == ("lit" : Str)) <;> simp only [c4, if_true, if_false, Bool.false_eq_true] at h ⊢ <;> exact ⟨trivial, hds a (by simp), h⟩
        | _ => simp only [isStrD, Bool.not_false, if_true] at h ⊢; exact h
    | _ => simp only [isTupD, Bool.not_false, if_true] at h ⊢; exact h
theorem d_is_worth (T : Txt K w mg) : ∀ n : Nat, Cal P w K mg base W (4 + n) "is_worth" 2 (worthF n : MF S)
  | 0 => c_is_worth T (cal_never T.d_is_worth 3 2) (by omega) fun d j s Q _ h => by omega
  | n + 1 => c_is_worth T (d_is_worth T n) (show 3 ≤ 4 + n by omega) fun d j s Q h0 h hd q => ⟨d, j, rfl, h0, by omega, hd, q⟩
theorem c_is_condition {n k : Nat} {g : MF S} (T : Txt K w mg) (ih : Cal P w K mg base W k "is_condition" 2 g) (hk : 12 ≤ k) (hgn : ∀ d (j : Nat) s Q, 0 ≤ (j : Int) → j < n → ok d → Q (.bl (condD ((j : Int)).toNat d)) s → g.run [d, .int j] s Q) : Cal P w K mg base W (k + 1) "is_condition" 2 (condF n : MF S) := by
  obtain ⟨fa, fd, F, hg, b⟩ := T.d_is_condition.ex
  refine cal_mk F hg b sc_is_condition rfl (fun cdv A outer s H E hr => (b_cons (s_ite (PW.pt (w_or (t_eq hr.units (g_var 1) g_int) (w_or (t_not (t_of (g_isi T.b.isinstance bb_isinstance (a_cons (g_var 0) (a_cons (g_ty T.b.tuple bb_tuple) a_nil))))) (w_or (t_eq hr.units (g_len T.b.len (a_cons (g_var 0) a_nil)) g_int) (w_or1 (t_not (t_of (g_isi T.b.isinstance bb_isinstance (a_cons (g_ix (hu1 hr) (g_var 0) g_int) (a_cons (g_ty T.b.str bb_str) a_nil)))))))))) (b_one (s_ret g_bl)) b_nil) (b_cons (s_par (i := 2) (j := 3) rfl sc_is_condition.nd (a_cons (g_ix (hu1 hr) (g_var 0) g_int) (a_cons (g_sl (g_var 0) (o_some g_int) o_none) a_nil))) (b_cons (s_ite (t_in (hu65 hr) (g_var 2) (g_gl T.k_COMPARED)) (b_one (s_ret (g_and (g_eq hr.units (g_len T.b.len (a_cons (g_var 3) a_nil)) g_int) (g_one (g_all rfl T.b.all bb_all (a_cons (g_lc [("part", 4)] rfl sc_is_condition.nd (i_seq (g_var 3)) (blkOk_by (by kernel_rfl)) (fun _ _ _ _ _ => (gt_nm (i := 4) sc_is_condition.nd)) (fun _ _ _ _ _ => pts0) (fun _ _ _ _ _ => (g_call (d_is_worth T 8) hr hk (a_cons (g_var 4) (a_cons (g_gl T.k_MOST_WORTH) a_nil))))) a_nil)))))) b_nil) (b_cons (s_ite (PW.pt (w_or (t_notIn (hu65 hr) (g_var 2) (g_tup (a_cons g_str (a_cons g_str a_nil)))) (w_or1 (t_ne hr.units (g_len T.b.len (a_cons (g_var 3) a_nil)) (g_add g_int (g_toInt T.b.int bb_int (a_cons (g_eq hr.units (g_var 2) g_str) a_nil))))))) (b_one (s_ret g_bl)) b_nil) (b_one (s_ret (g_all rfl T.b.all bb_all (a_cons (g_lc [("part", 4)] rfl sc_is_condition.nd (i_seq (g_var 3)) (blkOk_by (by kernel_rfl)) (fun _ _ _ _ _ => (gt_nm (i := 4) sc_is_condition.nd)) (fun _ _ _ _ _ => pts0) (fun _ _ _ _ _ => (g_call ih hr (Nat.le_refl _) (a_cons (g_var 4) (a_cons (g_sub (g_var 1) g_int) a_nil))))) a_nil))))))))) ?_
  intro ds s Q hl h
  obtain ⟨d, m, rfl, h0, hm, hd, h⟩ := h
  simp only [MS.ret, MS.retN, MS.ite, MS.seq, MS.nil, MS.drop, MS.set, MS.asg, MS.par, MS.par3, MS.no, MS.for, MS.aug, ME.var, ME.c, ME.op1, ME.op2, ME.of, ME.ite, ME.chain, MT.op2, MT.op1, MT.of, MT.and, MT.or, MT.not, MT.chain, MA.nil, MA.cons, ME.tup, ME.lst, ME.fn, ME.call, ME.lc, ME.sl, MO.no, MO.yes, MI.seq, MI.of, MI.ofA, ME.disp, ME.callA, ME.callR, ME.dc, ME.lc2, ME.sorted, List.map_cons, List.map_nil, List.cons_append, List.nil_append, List.append_nil, List.length_cons, List.length_nil, Nat.zero_add, Nat.reduceAdd, Nat.reduceSub, List.replicate_succ, List.replicate_zero, List.getD_cons_zero, List.getD_cons_succ, List.set_cons_zero, List.set_cons_succ, OQ_some]
  simp only [eqD_zero, OQ_some, isi_tup hd, blD_bl]
  by_cases hz : m = 0
  · subst hz
    simp only [decide_true, if_true]
    cases d <;> exact h
  · obtain ⟨j, rfl⟩ : ∃ j : Nat, m = ((j + 1 : Nat) : Int) := ⟨m.toNat - 1, by omega⟩
    have ej : (((j + 1 : Nat) : Int)).toNat = j + 1 := Int.toNat_natCast _
    have em : ((j + 1 : Nat) : Int) - 1 = (j : Int) := by omega
    rw [ej] at h
    simp only [hz, decide_false, if_false, Bool.false_eq_true]
    cases d with
    | tup ds =>
      simp only [isTupD, Bool.not_true, if_false, Bool.false_eq_true, len_tup, eqD_int, OQ_some]
      cases ds with
      | nil => simp only [List.length_nil]; exact h
      | cons a ds =>
        obtain ⟨ha, hds⟩ := ok_cons hd
        have e0 : (((a :: ds).length : Int) == 0) = false := by simp; omega
        simp only [e0, if_false, Bool.false_eq_true, ix_tup, at0, OQ_some, isi_str ha, blD_bl]
        cases a with
        | str x =>
          simp only [isStrD, Bool.not_true, if_false, Bool.false_eq_true, intD, OQ_some, slD_tail]
          have e1 : inD (.str x) (.tup [.str "same", .str "below"]) = some (isCmp x) := by rw [inD_tup (ok_sh ha) (by decide +kernel)]; simp [eqP_str, isCmp]
          have e3 : notInD (.str x) (.tup [.str "not", .str "both"]) = some (!isNB x) := by rw [notInD_tup (ok_sh ha) (by decide +kernel)]; simp [eqP_str, isNB]
          have e4 : eqD (.str x) (.str "both") = some (x == "both") := by rw [eqD_ok (ok_sh ha) (by decide +kernel), eqP_str]
          simp only [condD] at h
          simp only [e1, OQ_some]
          cases c1 : isCmp x with
          | true =>
            simp only [c1, if_true, all2, blD_bl, len_tup, eqD_int, OQ_some] at h ⊢
            cases el : ((ds.length : Int) == 2) with
            | false =>
              simp only [show ((ds.length : Int) == ((2 : Nat) : Int)) = false from el, Bool.false_and, if_false, Bool.false_eq_true] at h ⊢
              exact h
            | true =>
              simp only [show ((ds.length : Int) == ((2 : Nat) : Int)) = true from el, Bool.true_and, if_true, seqD, szD, OQ_some] at h ⊢
              intro hz
              refine ⟨hz, lc_map (f := fun d => .bl (worthD 8 d)) ds (fun d hmm => ⟨_, rfl, fun Q hq => ?_⟩) ?_⟩
              · simp only [setT, List.map_cons, List.map_nil, List.cons_append, List.nil_append, List.append_nil, List.length_cons, List.length_nil, Nat.zero_add, Nat.reduceAdd, Nat.reduceSub, List.replicate_succ, List.replicate_zero, List.getD_cons_zero, List.getD_cons_succ, List.set_cons_zero, List.set_cons_succ, OQ_some, wipeD]
                exact ⟨trivial, d, 8, rfl, by decide, by decide, hds d hmm, hq⟩
              · rw [allD_map]; exact h
          | false =>
            simp only [c1, if_false, Bool.false_eq_true] at h ⊢
            refine ⟨by decide, ?_⟩
            rw [e3]
            simp only [OQ_some]
            cases c3 : isNB x with
            | false => simp only [c3, Bool.not_false, if_true, if_false, Bool.false_eq_true] at h ⊢; exact h
            | true =>
              simp only [c3, Bool.not_true, if_true, if_false, Bool.false_eq_true, e4, OQ_some, toIntD, addD, len_tup, neD_int, all2] at h ⊢
              have e5 : (((ds.length : Nat) : Int) == (((if (x == ("both" : Str)) = true then 2 else 1 : Nat) : Nat) : Int)) = (((ds.length : Nat) : Int) == 1 + (if (x == ("both" : Str)) = true then 1 else 0)) := by
                cases (x == ("both" : Str)) <;> rfl
              rw [e5] at h
              cases el : (((ds.length : Nat) : Int) == 1 + (if (x == ("both" : Str)) = true then 1 else 0)) with
              | false => simp only [el, Bool.false_and, Bool.not_false, if_true] at h ⊢; exact h
              | true =>
                simp only [el, Bool.true_and, Bool.not_true, if_false, Bool.false_eq_true, seqD, szD, OQ_some] at h ⊢
                intro hz
                refine ⟨hz, lc_map (f := fun d => .bl (condD j d)) ds (fun d hmm => ⟨_, rfl, fun Q hq => ?_⟩) ?_⟩
                · simp only [setT, List.map_cons, List.map_nil, List.cons_append, List.nil_append, List.append_nil, List.length_cons, List.length_nil, Nat.zero_add, Nat.reduceAdd, Nat.reduceSub, List.replicate_succ, List.replicate_zero, List.getD_cons_zero, List.getD_cons_succ, List.set_cons_zero, List.set_cons_succ, OQ_some, wipeD, iiD, Option.map_some, em]
                  refine ⟨trivial, hgn d j _ _ (by omega) (by omega) (hds d hmm) ?_⟩
                  rw [Int.toNat_natCast]; exact hq
                · rw [allD_map]; exact h
        | _ => simp only [isStrD, Bool.not_false, if_true] at h ⊢; exact h
    | _ => simp only [isTupD, Bool.not_false, if_true] at h ⊢; exact h
theorem d_is_condition (T : Txt K w mg) : ∀ n : Nat, Cal P w K mg base W (13 + n) "is_condition" 2 (condF n : MF S)
  | 0 => c_is_condition T (cal_never T.d_is_condition 12 2) (by omega) fun d j s Q _ h => by omega
  | n + 1 => c_is_condition T (d_is_condition T n) (show 12 ≤ 13 + n by omega) fun d j s Q h0 h hd q => ⟨d, j, rfl, h0, by omega, hd, q⟩
end
end G

set_option Elab.async false
set_option linter.all false
set_option maxRecDepth 100000
set_option maxHeartbeats 4000000
namespace G
open PySem PySem.Spec PyProof.Rows L2
def partG (x : Str) (d : D) : Bool :=
  if x = "x" then nameD d else if x = "w" then worthD 8 d else if x = "n" then withinD 1 4096 d else if x = "m" then withinD 1 1000 d else if x = "k" then kindD d else if x = "r" then rightsD d
  else if x = "c" then condD 8 d else if x = "e" then callD d else isTupD d
def sgG : List Str := ["x", "w", "n", "m", "k", "r", "c", "e", "l"]
abbrev lineD (d : D) : Bool := formD tb_FORMS_programs partG d
theorem tbG_ok : tbOk sgG tb_FORMS_programs = true := by decide +kernel
def isL : D → Bool
  | .tup [.str x, _] => x == "l"
  | _ => false
def sndD : D → D
  | .tup [_, d] => d
  | _ => .non
def innerD : D → List D
  | .tup (.str w :: ds) => (match tb_FORMS_programs.lookup w with
    | some (.str f) => ((((signD f).zip ds).map pairD).filter isL).map sndD
    | _ => [])
  | _ => []
def innerF {S : Type} : MF S := ⟨fun ds s Q => ∃ d, ds = [d] ∧ ok d ∧ lineD d = true ∧ Q (.lst (innerD d)) s, fun h ⟨d, a, b, c, q⟩ => ⟨d, a, b, c, h _ _ q⟩⟩
theorem line_ex {d : D} (h : lineD d = true) : ∃ w ds f, d = .tup (.str w :: ds) ∧ tb_FORMS_programs.lookup w = some (.str f) ∧ ds.length = f.length ∧ ∀ e ∈ ((signD f).zip ds).map pairD, partP partG e = true := by
  unfold lineD formD at h
  split at h
  · rename_i w ds
    split at h
    · rename_i f e
      simp only [Bool.and_eq_true, decide_eq_true_eq, List.all_eq_true] at h
      exact ⟨w, ds, f, rfl, e, h.1, h.2⟩
    · cases h
  · cases h
theorem inner_tup {d : D} (h : lineD d = true) (hd : ok d) : ∀ e ∈ innerD d, (∃ es, e = .tup es) ∧ ok e := by
  obtain ⟨w, ds, f, rfl, e1, _, hp⟩ := line_ex h
  intro e he
  simp only [innerD, e1, List.mem_map, List.mem_filter] at he
  obtain ⟨pe, ⟨⟨ab, hm, rfl⟩, hl⟩, rfl⟩ := he
  have hpp := hp _ (List.mem_map.mpr ⟨ab, hm, rfl⟩)
  obtain ⟨a, b⟩ := ab
  cases a with
  | str x =>
    simp only [isL, pairD] at hl
    have ex : x = "l" := beq_iff_eq.mp hl
    subst ex
    have hl2 : partG (Str.ofString "l") b = isTupD b := by kernel_rfl
    have hb : isTupD b = true := hl2 ▸ (show partG (Str.ofString "l") b = true from hpp)
    refine ⟨?_, (ok_cons hd).2 b (List.of_mem_zip hm).2⟩
    cases b with
    | tup es => exact ⟨es, rfl⟩
    | _ => cases hb
  | _ => cases hl
def inners (rec : List D → Int → Option Int) : List D → Int → Option Int
  | [], left => some left
  | .tup xs :: es, left => (rec xs left).bind (inners rec es)
  | _ :: _, _ => none
def stepLines (rec : List D → Int → Option Int) : List D → Int → Option Int
  | [], left => some left
  | d :: ds, left => if lineD d = true then (inners rec (innerD d) left).bind (stepLines rec ds) else none
def leftD : Nat → List D → Int → Option Int
  | 0, ds, left => if left < ds.length then none else if (0 : Int) < ds.length then none else some (left - ds.length)
  | n + 1, ds, left => if left < ds.length then none else stepLines (leftD n) ds (left - ds.length)
def optD : Option Int → D
  | some i => .int i
  | none => .non
def linesF {S : Type} (n : Nat) : MF S := ⟨fun ds s Q => ∃ es m left, ds = [.tup es, .int m, .int left] ∧ 0 ≤ m ∧ m ≤ n ∧ ok (.tup es) ∧ Q (optD (leftD m.toNat es left)) s, fun h ⟨d, m, l, a, b, c, e, q⟩ => ⟨d, m, l, a, b, c, e, h _ _ q⟩⟩
def progD : D → Bool
  | .tup ds => (leftD 12 ds 200).isSome
  | _ => false
section
variable {S : Type} {P : Program} {w : World} {K : PySem.W.Frag} {mg : Str → Option Value} {base : Heap} {W : Wd S}
theorem c_is_part_programs (T : Txt K w mg) : Cal P w K mg base W 22 "is_part_programs" 2 (pf2 (fun s d => ok d ∧ ∃ x ∈ sgG, s = .str x) (fun s d => match s with | .str x => partG x d | _ => false) : MF S) := by
  obtain ⟨fa, fd, F, hg, b⟩ := T.d_is_part_programs.ex
  refine cal_mk F hg b sc_is_part_programs rfl (fun cdv A outer s H E hr => (b_cons (s_ite (t_in (hu65 hr) (g_var 0) g_str) (b_one (s_ret (g_ite (t_eq hr.units (g_var 0) g_str) (g_call (c_is_name T) hr (by decide) (a_cons (g_var 1) a_nil)) (g_call (d_is_worth T 8) hr (by decide) (a_cons (g_var 1) (a_cons (g_gl T.k_MOST_WORTH) a_nil)))))) b_nil) (b_cons (s_ite (t_in (hu65 hr) (g_var 0) g_str) (b_one (s_ret (g_call (c_is_within T) hr (by decide) (a_cons (g_var 1) (a_cons g_int (a_cons (g_ite (t_eq hr.units (g_var 0) g_str) (g_gl T.k_MOST_MANY) (g_gl T.k_MOST_ROUNDS)) a_nil)))))) b_nil) (b_cons (s_ite (t_in (hu65 hr) (g_var 0) g_str) (b_one (s_ret (g_ite (t_eq hr.units (g_var 0) g_str) (g_call (c_is_asked_kind T) hr (by decide) (a_cons (g_var 1) a_nil)) (g_call (c_are_rights T) hr (by decide) (a_cons (g_var 1) a_nil))))) b_nil) (b_cons (s_ite (t_in (hu65 hr) (g_var 0) g_str) (b_one (s_ret (g_ite (t_eq hr.units (g_var 0) g_str) (g_call (d_is_condition T 8) hr (by decide) (a_cons (g_var 1) (a_cons (g_gl T.k_MOST_WORTH) a_nil))) (g_call (c_is_call_calls T) hr (by decide) (a_cons (g_var 1) a_nil))))) b_nil) (b_one (s_ret (g_isi T.b.isinstance bb_isinstance (a_cons (g_var 1) (a_cons (g_ty T.b.tuple bb_tuple) a_nil)))))))))) ?_
  intro ds s Q hl h
  obtain ⟨sg, d, rfl, ⟨hd, x, hx, rfl⟩, h⟩ := pf2_inv h
  replace h : Q (.bl (partG x d)) s := h
  simp only [sgG, List.mem_cons, List.not_mem_nil, or_false] at hx
  rcases hx with rfl | rfl | rfl | rfl | rfl | rfl | rfl | rfl | rfl
  · have ep : partG "x" d = nameD d := by kernel_rfl
    rw [ep] at h
    simp only [MS.ret, MS.retN, MS.ite, MS.seq, MS.nil, MS.drop, MS.set, MS.asg, MS.par, MS.par3, MS.no, MS.for, MS.aug, ME.var, ME.c, ME.op1, ME.op2, ME.of, ME.ite, ME.chain, MT.op2, MT.op1, MT.of, MT.and, MT.or, MT.not, MT.chain, MA.nil, MA.cons, ME.tup, ME.lst, ME.fn, ME.call, ME.lc, ME.sl, MO.no, MO.yes, MI.seq, MI.of, MI.ofA, ME.disp, ME.callA, ME.callR, ME.dc, ME.lc2, ME.sorted, List.map_cons, List.map_nil, List.cons_append, List.nil_append, List.append_nil, List.length_cons, List.length_nil, Nat.zero_add, Nat.reduceAdd, Nat.reduceSub, List.replicate_succ, List.replicate_zero, List.getD_cons_zero, List.getD_cons_succ, List.set_cons_zero, List.set_cons_succ, OQ_some]
    have e0 : inD (.str "x") (.str "xw") = some true := by kernel_rfl
    have e1 : eqD (.str "x") (.str "x") = some true := by kernel_rfl
    simp only [e0, e1, OQ_some, blD_bl, if_true, if_false, Bool.false_eq_true]
    exact ⟨trivial, hd, h⟩
  · have ep : partG "w" d = worthD 8 d := by kernel_rfl
    rw [ep] at h
    simp only [MS.ret, MS.retN, MS.ite, MS.seq, MS.nil, MS.drop, MS.set, MS.asg, MS.par, MS.par3, MS.no, MS.for, MS.aug, ME.var, ME.c, ME.op1, ME.op2, ME.of, ME.ite, ME.chain, MT.op2, MT.op1, MT.of, MT.and, MT.or, MT.not, MT.chain, MA.nil, MA.cons, ME.tup, ME.lst, ME.fn, ME.call, ME.lc, ME.sl, MO.no, MO.yes, MI.seq, MI.of, MI.ofA, ME.disp, ME.callA, ME.callR, ME.dc, ME.lc2, ME.sorted, List.map_cons, List.map_nil, List.cons_append, List.nil_append, List.append_nil, List.length_cons, List.length_nil, Nat.zero_add, Nat.reduceAdd, Nat.reduceSub, List.replicate_succ, List.replicate_zero, List.getD_cons_zero, List.getD_cons_succ, List.set_cons_zero, List.set_cons_succ, OQ_some]
    have e0 : inD (.str "w") (.str "xw") = some true := by kernel_rfl
    have e1 : eqD (.str "w") (.str "x") = some false := by kernel_rfl
    simp only [e0, e1, OQ_some, blD_bl, if_true, if_false, Bool.false_eq_true]
    exact ⟨trivial, d, 8, rfl, by decide, by decide, hd, h⟩
  · have ep : partG "n" d = withinD 1 4096 d := by kernel_rfl
    rw [ep] at h
    simp only [MS.ret, MS.retN, MS.ite, MS.seq, MS.nil, MS.drop, MS.set, MS.asg, MS.par, MS.par3, MS.no, MS.for, MS.aug, ME.var, ME.c, ME.op1, ME.op2, ME.of, ME.ite, ME.chain, MT.op2, MT.op1, MT.of, MT.and, MT.or, MT.not, MT.chain, MA.nil, MA.cons, ME.tup, ME.lst, ME.fn, ME.call, ME.lc, ME.sl, MO.no, MO.yes, MI.seq, MI.of, MI.ofA, ME.disp, ME.callA, ME.callR, ME.dc, ME.lc2, ME.sorted, List.map_cons, List.map_nil, List.cons_append, List.nil_append, List.append_nil, List.length_cons, List.length_nil, Nat.zero_add, Nat.reduceAdd, Nat.reduceSub, List.replicate_succ, List.replicate_zero, List.getD_cons_zero, List.getD_cons_succ, List.set_cons_zero, List.set_cons_succ, OQ_some]
    have e0 : inD (.str "n") (.str "xw") = some false := by kernel_rfl
    have e1 : inD (.str "n") (.str "nm") = some true := by kernel_rfl
    have e2 : eqD (.str "n") (.str "n") = some true := by kernel_rfl
    simp only [e0, e1, e2, OQ_some, blD_bl, if_true, if_false, Bool.false_eq_true]
    exact ⟨trivial, ⟨hd, rfl, rfl⟩, h⟩
  · have ep : partG "m" d = withinD 1 1000 d := by kernel_rfl
    rw [ep] at h
    simp only [MS.ret, MS.retN, MS.ite, MS.seq, MS.nil, MS.drop, MS.set, MS.asg, MS.par, MS.par3, MS.no, MS.for, MS.aug, ME.var, ME.c, ME.op1, ME.op2, ME.of, ME.ite, ME.chain, MT.op2, MT.op1, MT.of, MT.and, MT.or, MT.not, MT.chain, MA.nil, MA.cons, ME.tup, ME.lst, ME.fn, ME.call, ME.lc, ME.sl, MO.no, MO.yes, MI.seq, MI.of, MI.ofA, ME.disp, ME.callA, ME.callR, ME.dc, ME.lc2, ME.sorted, List.map_cons, List.map_nil, List.cons_append, List.nil_append, List.append_nil, List.length_cons, List.length_nil, Nat.zero_add, Nat.reduceAdd, Nat.reduceSub, List.replicate_succ, List.replicate_zero, List.getD_cons_zero, List.getD_cons_succ, List.set_cons_zero, List.set_cons_succ, OQ_some]
    have e0 : inD (.str "m") (.str "xw") = some false := by kernel_rfl
    have e1 : inD (.str "m") (.str "nm") = some true := by kernel_rfl
    have e2 : eqD (.str "m") (.str "n") = some false := by kernel_rfl
    simp only [e0, e1, e2, OQ_some, blD_bl, if_true, if_false, Bool.false_eq_true]
    exact ⟨trivial, ⟨hd, rfl, rfl⟩, h⟩
  · have ep : partG "k" d = kindD d := by kernel_rfl
    rw [ep] at h
    simp only [MS.ret, MS.retN, MS.ite, MS.seq, MS.nil, MS.drop, MS.set, MS.asg, MS.par, MS.par3, MS.no, MS.for, MS.aug, ME.var, ME.c, ME.op1, ME.op2, ME.of, ME.ite, ME.chain, MT.op2, MT.op1, MT.of, MT.and, MT.or, MT.not, MT.chain, MA.nil, MA.cons, ME.tup, ME.lst, ME.fn, ME.call, ME.lc, ME.sl, MO.no, MO.yes, MI.seq, MI.of, MI.ofA, ME.disp, ME.callA, ME.callR, ME.dc, ME.lc2, ME.sorted, List.map_cons, List.map_nil, List.cons_append, List.nil_append, List.append_nil, List.length_cons, List.length_nil, Nat.zero_add, Nat.reduceAdd, Nat.reduceSub, List.replicate_succ, List.replicate_zero, List.getD_cons_zero, List.getD_cons_succ, List.set_cons_zero, List.set_cons_succ, OQ_some]
    have e0 : inD (.str "k") (.str "xw") = some false := by kernel_rfl
    have e1 : inD (.str "k") (.str "nm") = some false := by kernel_rfl
    have e2 : inD (.str "k") (.str "kr") = some true := by kernel_rfl
    have e3 : eqD (.str "k") (.str "k") = some true := by kernel_rfl
    simp only [e0, e1, e2, e3, OQ_some, blD_bl, if_true, if_false, Bool.false_eq_true]
    exact ⟨trivial, hd, h⟩
  · have ep : partG "r" d = rightsD d := by kernel_rfl
    rw [ep] at h
    simp only [MS.ret, MS.retN, MS.ite, MS.seq, MS.nil, MS.drop, MS.set, MS.asg, MS.par, MS.par3, MS.no, MS.for, MS.aug, ME.var, ME.c, ME.op1, ME.op2, ME.of, ME.ite, ME.chain, MT.op2, MT.op1, MT.of, MT.and, MT.or, MT.not, MT.chain, MA.nil, MA.cons, ME.tup, ME.lst, ME.fn, ME.call, ME.lc, ME.sl, MO.no, MO.yes, MI.seq, MI.of, MI.ofA, ME.disp, ME.callA, ME.callR, ME.dc, ME.lc2, ME.sorted, List.map_cons, List.map_nil, List.cons_append, List.nil_append, List.append_nil, List.length_cons, List.length_nil, Nat.zero_add, Nat.reduceAdd, Nat.reduceSub, List.replicate_succ, List.replicate_zero, List.getD_cons_zero, List.getD_cons_succ, List.set_cons_zero, List.set_cons_succ, OQ_some]
    have e0 : inD (.str "r") (.str "xw") = some false := by kernel_rfl
    have e1 : inD (.str "r") (.str "nm") = some false := by kernel_rfl
    have e2 : inD (.str "r") (.str "kr") = some true := by kernel_rfl
    have e3 : eqD (.str "r") (.str "k") = some false := by kernel_rfl
    simp only [e0, e1, e2, e3, OQ_some, blD_bl, if_true, if_false, Bool.false_eq_true]
    exact ⟨trivial, hd, h⟩
  · have ep : partG "c" d = condD 8 d := by kernel_rfl
    rw [ep] at h
    simp only [MS.ret, MS.retN, MS.ite, MS.seq, MS.nil, MS.drop, MS.set, MS.asg, MS.par, MS.par3, MS.no, MS.for, MS.aug, ME.var, ME.c, ME.op1, ME.op2, ME.of, ME.ite, ME.chain, MT.op2, MT.op1, MT.of, MT.and, MT.or, MT.not, MT.chain, MA.nil, MA.cons, ME.tup, ME.lst, ME.fn, ME.call, ME.lc, ME.sl, MO.no, MO.yes, MI.seq, MI.of, MI.ofA, ME.disp, ME.callA, ME.callR, ME.dc, ME.lc2, ME.sorted, List.map_cons, List.map_nil, List.cons_append, List.nil_append, List.append_nil, List.length_cons, List.length_nil, Nat.zero_add, Nat.reduceAdd, Nat.reduceSub, List.replicate_succ, List.replicate_zero, List.getD_cons_zero, List.getD_cons_succ, List.set_cons_zero, List.set_cons_succ, OQ_some]
    have e0 : inD (.str "c") (.str "xw") = some false := by kernel_rfl
    have e1 : inD (.str "c") (.str "nm") = some false := by kernel_rfl
    have e2 : inD (.str "c") (.str "kr") = some false := by kernel_rfl
    have e3 : inD (.str "c") (.str "ce") = some true := by kernel_rfl
    have e4 : eqD (.str "c") (.str "c") = some true := by kernel_rfl
    simp only [e0, e1, e2, e3, e4, OQ_some, blD_bl, if_true, if_false, Bool.false_eq_true]
    exact ⟨trivial, d, 8, rfl, by decide, by decide, hd, h⟩
  · have ep : partG "e" d = callD d := by kernel_rfl
    rw [ep] at h
    simp only [MS.ret, MS.retN, MS.ite, MS.seq, MS.nil, MS.drop, MS.set, MS.asg, MS.par, MS.par3, MS.no, MS.for, MS.aug, ME.var, ME.c, ME.op1, ME.op2, ME.of, ME.ite, ME.chain, MT.op2, MT.op1, MT.of, MT.and, MT.or, MT.not, MT.chain, MA.nil, MA.cons, ME.tup, ME.lst, ME.fn, ME.call, ME.lc, ME.sl, MO.no, MO.yes, MI.seq, MI.of, MI.ofA, ME.disp, ME.callA, ME.callR, ME.dc, ME.lc2, ME.sorted, List.map_cons, List.map_nil, List.cons_append, List.nil_append, List.append_nil, List.length_cons, List.length_nil, Nat.zero_add, Nat.reduceAdd, Nat.reduceSub, List.replicate_succ, List.replicate_zero, List.getD_cons_zero, List.getD_cons_succ, List.set_cons_zero, List.set_cons_succ, OQ_some]
    have e0 : inD (.str "e") (.str "xw") = some false := by kernel_rfl
    have e1 : inD (.str "e") (.str "nm") = some false := by kernel_rfl
    have e2 : inD (.str "e") (.str "kr") = some false := by kernel_rfl
    have e3 : inD (.str "e") (.str "ce") = some true := by kernel_rfl
    have e4 : eqD (.str "e") (.str "c") = some false := by kernel_rfl
    simp only [e0, e1, e2, e3, e4, OQ_some, blD_bl, if_true, if_false, Bool.false_eq_true]
    exact ⟨trivial, hd, h⟩
  · have ep : partG "l" d = isTupD d := by kernel_rfl
    rw [ep] at h
    simp only [MS.ret, MS.retN, MS.ite, MS.seq, MS.nil, MS.drop, MS.set, MS.asg, MS.par, MS.par3, MS.no, MS.for, MS.aug, ME.var, ME.c, ME.op1, ME.op2, ME.of, ME.ite, ME.chain, MT.op2, MT.op1, MT.of, MT.and, MT.or, MT.not, MT.chain, MA.nil, MA.cons, ME.tup, ME.lst, ME.fn, ME.call, ME.lc, ME.sl, MO.no, MO.yes, MI.seq, MI.of, MI.ofA, ME.disp, ME.callA, ME.callR, ME.dc, ME.lc2, ME.sorted, List.map_cons, List.map_nil, List.cons_append, List.nil_append, List.append_nil, List.length_cons, List.length_nil, Nat.zero_add, Nat.reduceAdd, Nat.reduceSub, List.replicate_succ, List.replicate_zero, List.getD_cons_zero, List.getD_cons_succ, List.set_cons_zero, List.set_cons_succ, OQ_some]
    have e0 : inD (.str "l") (.str "xw") = some false := by kernel_rfl
    have e1 : inD (.str "l") (.str "nm") = some false := by kernel_rfl
    have e2 : inD (.str "l") (.str "kr") = some false := by kernel_rfl
    have e3 : inD (.str "l") (.str "ce") = some false := by kernel_rfl
    simp only [e0, e1, e2, e3, OQ_some, blD_bl, if_true, if_false, Bool.false_eq_true]
    rw [isi_tup hd]
    exact h
theorem c_is_line (T : Txt K w mg) : Cal P w K mg base W 23 "is_line" 1 (pf1 ok lineD : MF S) := by
  obtain ⟨fa, fd, F, hg, b⟩ := T.d_is_line.ex
  refine cal_mk F hg b sc_is_line rfl (fun cdv A outer s H E hr => (b_cons (s_ite (PW.pt (w_or (t_not (t_of (g_isi T.b.isinstance bb_isinstance (a_cons (g_var 0) (a_cons (g_ty T.b.tuple bb_tuple) a_nil))))) (w_or (t_eq hr.units (g_len T.b.len (a_cons (g_var 0) a_nil)) g_int) (w_or (t_not (t_of (g_isi T.b.isinstance bb_isinstance (a_cons (g_ix (hu1 hr) (g_var 0) g_int) (a_cons (g_ty T.b.str bb_str) a_nil))))) (w_or1 (t_notInTbl T.t_FORMS_programs (g_ix (hu1 hr) (g_var 0) g_int))))))) (b_one (s_ret g_bl)) b_nil) (b_cons (s_set (i := 1) sc_is_line.nd (g_getTbl T.t_FORMS_programs (g_ix (hu1 hr) (g_var 0) g_int))) (b_one (s_ret (g_and (g_eq hr.units (g_len T.b.len (a_cons (g_var 0) a_nil)) (g_add (g_len T.b.len (a_cons (g_var 1) a_nil)) g_int)) (g_one (g_all rfl T.b.all bb_all (a_cons (g_lc [("sign", 2), ("one", 3)] rfl sc_is_line.nd (i_zip T.b.zip (a_cons (g_var 1) (a_cons (g_sl (g_var 0) (o_some g_int) o_none) a_nil))) (blkOk_by (by kernel_rfl)) (fun _ _ _ _ _ => (gt_tp rfl (gts_cons (gt_nm (i := 2) sc_is_line.nd) (gts_cons (gt_nm (i := 3) sc_is_line.nd) gts_nil)))) (fun _ _ _ _ _ => pts0) (fun _ _ _ _ _ => (g_call (c_is_part_programs T) hr (by decide) (a_cons (g_var 2) (a_cons (g_var 3) a_nil))))) a_nil))))))))) ?_
  intro ds s Q hl h
  obtain ⟨d, rfl, hd, h⟩ := pf1_inv h
  simp only [MS.ret, MS.retN, MS.ite, MS.seq, MS.nil, MS.drop, MS.set, MS.asg, MS.par, MS.par3, MS.no, MS.for, MS.aug, ME.var, ME.c, ME.op1, ME.op2, ME.of, ME.ite, ME.chain, MT.op2, MT.op1, MT.of, MT.and, MT.or, MT.not, MT.chain, MA.nil, MA.cons, ME.tup, ME.lst, ME.fn, ME.call, ME.lc, ME.sl, MO.no, MO.yes, MI.seq, MI.of, MI.ofA, ME.disp, ME.callA, ME.callR, ME.dc, ME.lc2, ME.sorted, List.map_cons, List.map_nil, List.cons_append, List.nil_append, List.append_nil, List.length_cons, List.length_nil, Nat.zero_add, Nat.reduceAdd, Nat.reduceSub, List.replicate_succ, List.replicate_zero, List.getD_cons_zero, List.getD_cons_succ, List.set_cons_zero, List.set_cons_succ, OQ_some]
  cases d with
  | tup ds =>
    simp only [isi_tup hd, isTupD, OQ_some, blD_bl, Bool.not_true, if_false, Bool.false_eq_true, len_tup, eqD_int]
    cases ds with
    | nil => simp only [List.length_nil]; exact h
    | cons a ds =>
      obtain ⟨ha, hds⟩ := ok_cons hd
      have e0 : (((a :: ds).length : Int) == 0) = false := by simp; omega
      simp only [e0, if_false, Bool.false_eq_true, ix_tup, at0, OQ_some, isi_str ha, blD_bl]
      cases a with
      | str x =>
        simp only [isStrD, Bool.not_true, if_false, Bool.false_eq_true, notInTbl, getTbl, strD, Option.map_some, Option.bind_some, OQ_some]
        cases el : tb_FORMS_programs.lookup x with
        | none =>
          simp only [formD, el, Option.isSome_none, Bool.not_false, if_true] at h ⊢
          exact h
        | some dd =>
          obtain ⟨f, rfl, hf, hsg⟩ := tb_form tbG_ok el
          simp only [formD, el, Option.isSome_some, Bool.not_true, if_false, Bool.false_eq_true, OQ_some, lenD, if_pos (show f.length ≤ big from hf), addD, eqD_int, List.length_cons, len_eq1, intD, slD_tail, zipD, blD_bl] at h ⊢
          cases en : decide (ds.length = f.length) with
          | false => simp only [en, Bool.false_and, if_false, Bool.false_eq_true] at h ⊢; exact h
          | true =>
            simp only [en, Bool.true_and, if_true] at h ⊢
            refine ⟨?_, lc_map (f := fun d => .bl (partP partG d)) _ (fun d hm => ?_) ?_⟩
            · have : (signD f).length = f.length := by simp [signD]; rfl
              rw [List.length_map, List.length_zip, this]
              show _ ≤ 16777216
              omega
            · obtain ⟨sg, e, hs, he, rfl⟩ := zip_items hm
              obtain ⟨x', hx', rfl⟩ := hsg sg hs
              refine ⟨_, rfl, fun Q hq => ?_⟩
              simp only [wipeD, List.map_cons, List.map_nil, List.cons_append, List.nil_append, List.append_nil, List.length_cons, List.length_nil, Nat.zero_add, Nat.reduceAdd, Nat.reduceSub, List.replicate_succ, List.replicate_zero, List.getD_cons_zero, List.getD_cons_succ, List.set_cons_zero, List.set_cons_succ, OQ_some, List.map_cons]
              exact ⟨trivial, ⟨hds e he, x', hx', rfl⟩, hq⟩
            · rw [allD_map]; exact h
      | _ => simp only [isStrD, Bool.not_false, if_true] at h ⊢; exact h
  | _ => simp [isiD, tyD, blD, formD, ok, gd] at h hd ⊢ <;> exact h
theorem c_inner_lines (T : Txt K w mg) : Cal P w K mg base W 2 "inner_lines" 1 (innerF : MF S) := by
  obtain ⟨fa, fd, F, hg, b⟩ := T.d_inner_lines.ex
  refine cal_mk F hg b sc_inner_lines rfl (fun cdv A outer s H E hr => (b_one (s_ret (g_lc [("sign", 1), ("part", 2)] rfl sc_inner_lines.nd (i_zip T.b.zip (a_cons (g_getTbl T.t_FORMS_programs (g_ix (hu1 hr) (g_var 0) g_int)) (a_cons (g_sl (g_var 0) (o_some g_int) o_none) a_nil))) (blkOk_by (by kernel_rfl)) (fun _ _ _ _ _ => (gt_tp rfl (gts_cons (gt_nm (i := 1) sc_inner_lines.nd) (gts_cons (gt_nm (i := 2) sc_inner_lines.nd) gts_nil)))) (fun _ _ _ _ _ => (pts1 (t_eq hr.units (g_var 1) g_str))) (fun _ _ _ _ _ => (g_var 2)))))) ?_
  intro ds s Q hl h
  obtain ⟨d, rfl, hd, hln, h⟩ := h
  obtain ⟨w', es, f, rfl, e1, e2, hp⟩ := line_ex hln
  obtain ⟨ff, eff, hf, hsg⟩ := tb_form tbG_ok e1
  cases eff
  simp only [MS.ret, MS.retN, MS.ite, MS.seq, MS.nil, MS.drop, MS.set, MS.asg, MS.par, MS.par3, MS.no, MS.for, MS.aug, ME.var, ME.c, ME.op1, ME.op2, ME.of, ME.ite, ME.chain, MT.op2, MT.op1, MT.of, MT.and, MT.or, MT.not, MT.chain, MA.nil, MA.cons, ME.tup, ME.lst, ME.fn, ME.call, ME.lc, ME.sl, MO.no, MO.yes, MI.seq, MI.of, MI.ofA, ME.disp, ME.callA, ME.callR, ME.dc, ME.lc2, ME.sorted, List.map_cons, List.map_nil, List.cons_append, List.nil_append, List.append_nil, List.length_cons, List.length_nil, Nat.zero_add, Nat.reduceAdd, Nat.reduceSub, List.replicate_succ, List.replicate_zero, List.getD_cons_zero, List.getD_cons_succ, List.set_cons_zero, List.set_cons_succ, OQ_some]
  simp only [ix_tup, at0, OQ_some, getTbl_str, e1, intD, slD_tail, zipD]
  refine ⟨?_, lc_filter (p := isL) (f := sndD) _ (fun d hm => ?_) ?_⟩
  · have : (signD f).length = f.length := by simp [signD]; rfl
    rw [List.length_map, List.length_zip, this]
    show _ ≤ 16777216
    omega
  · obtain ⟨sg, e, hs, he, rfl⟩ := zip_items hm
    obtain ⟨x', hx', rfl⟩ := hsg sg hs
    refine ⟨_, rfl, fun Q hq => ?_, fun hn Q hq => ?_⟩
    · simp only [wipeD, List.map_cons, List.map_nil, List.cons_append, List.nil_append, List.append_nil, List.length_cons, List.length_nil, Nat.zero_add, Nat.reduceAdd, Nat.reduceSub, List.replicate_succ, List.replicate_zero, List.getD_cons_zero, List.getD_cons_succ, List.set_cons_zero, List.set_cons_succ, OQ_some]
      have e3 : eqD (.str x') (.str "l") = some (x' == "l") := by
        have : sgG.all (fun x => shD 64 (.str x)) = true := by decide +kernel
        rw [eqD_ok (List.all_eq_true.mp this x' hx') (by decide +kernel), eqP_str]
      rw [e3]
      exact hq
    · simp only [wipeD, List.map_cons, List.map_nil, List.cons_append, List.nil_append, List.append_nil, List.length_cons, List.length_nil, Nat.zero_add, Nat.reduceAdd, Nat.reduceSub, List.replicate_succ, List.replicate_zero, List.getD_cons_zero, List.getD_cons_succ, List.set_cons_zero, List.set_cons_succ, OQ_some]
      exact hq
  · simp only [innerD, e1] at h
    exact h
end
end G

set_option Elab.async false
set_option linter.all false
set_option maxRecDepth 100000
set_option maxHeartbeats 4000000
namespace G
open PySem PySem.Spec PyProof.Rows L2
def foldO (step : D → Int → Option Int) : List D → Int → Option Int
  | [], left => some left
  | d :: ds, left => (step d left).bind (foldO step ds)
def EndO {S : Type} (E : GEnds S) (a b : Option D) (s : S) : Option Int → Prop
  | some l => ∀ o1 o2, E.nx [a, b, some (.int l), o1, o2] s
  | none => E.rt .non s
theorem for_opt {S : Type} {t : Tgt} {body : MS S} {a b : Option D} {E : GEnds S} {step : D → Int → Option Int} {s : S} : ∀ (es : List D), (∀ d ∈ es, ∀ left o1 o2 (E' : GEnds S), EndO E' a b s (step d left) → OQ (setT t d [a, b, some (.int left), o1, o2]) (fun δ1 => body.run δ1 s E')) →
    ∀ left o1 o2, EndO E a b s (foldO step es left) → forRun t body E es [a, b, some (.int left), o1, o2] s
  | [], _, left, o1, o2, h => h o1 o2
  | d :: ds, hb, left, o1, o2, h => by
    unfold forRun
    refine hb d List.mem_cons_self left o1 o2 _ ?_
    simp only [foldO] at h
    cases e : step d left with
    | none => rw [e] at h; exact h
    | some l =>
      rw [e] at h
      exact fun o1 o2 => for_opt ds (fun d' hd' => hb d' (List.mem_cons_of_mem _ hd')) l o1 o2 h
def stepI (rec : List D → Int → Option Int) (e : D) (left : Int) : Option Int := match e with
  | .tup xs => rec xs left
  | _ => none
theorem inners_eq (rec : List D → Int → Option Int) : ∀ (es : List D) (left : Int), inners rec es left = foldO (stepI rec) es left
  | [], _ => rfl
  | .tup xs :: es, left => by
    simp only [inners, foldO, stepI]
    congr 1
    funext l
    exact inners_eq rec es l
  | .non :: _, _ | .bl _ :: _, _ | .int _ :: _, _ | .str _ :: _, _ | .ref _ :: _, _ | .ty _ :: _, _ | .lst _ :: _, _ | .dct _ _ :: _, _ => rfl
def stepO (rec : List D → Int → Option Int) (d : D) (left : Int) : Option Int := if lineD d = true then foldO (stepI rec) (innerD d) left else none
theorem steps_eq (rec : List D → Int → Option Int) : ∀ (es : List D) (left : Int), stepLines rec es left = foldO (stepO rec) es left
  | [], _ => rfl
  | d :: es, left => by
    simp only [stepLines, foldO, stepO, inners_eq]
    split
    · congr 1
      funext l
      exact steps_eq rec es l
    · rfl
section
variable {S : Type} {P : Program} {w : World} {K : PySem.W.Frag} {mg : Str → Option Value} {base : Heap} {W : Wd S}
theorem c_lines_left {n k : Nat} {g : MF S} (T : Txt K w mg) (ih : Cal P w K mg base W k "lines_left" 3 g) (hk : 23 ≤ k) (hgn : ∀ es (j : Nat) left s Q, j < n → ok (.tup es) → Q (optD (leftD j es left)) s → g.run [.tup es, .int j, .int left] s Q) : Cal P w K mg base W (k + 1) "lines_left" 3 (linesF n : MF S) := by
  obtain ⟨fa, fd, F, hg, b⟩ := T.d_lines_left.ex
  refine cal_mk F hg b sc_lines_left rfl (fun cdv A outer s H E hr => (b_cons (s_ite (PW.pt (w_or (t_gt (g_len T.b.len (a_cons (g_var 0) a_nil)) (g_var 2)) (w_or1 (PW.pt (w_and (t_gt (g_len T.b.len (a_cons (g_var 0) a_nil)) g_int) (w_and1 (t_eq hr.units (g_var 1) g_int))))))) (b_one (s_ret g_non)) b_nil) (b_cons (s_subE (i := 2) sc_lines_left.nd (g_len T.b.len (a_cons (g_var 0) a_nil))) (b_cons (s_for .never rfl (i_seq (g_var 0)) (gt_nm (i := 3) sc_lines_left.nd) (b_cons (s_ite (t_not (t_of (g_call (c_is_line T) hr hk (a_cons (g_var 3) a_nil)))) (b_one (s_ret g_non)) b_nil) (b_one (s_for .never rfl (i_seq (g_call (c_inner_lines T) hr (by omega) (a_cons (g_var 3) a_nil))) (gt_nm (i := 4) sc_lines_left.nd) (b_cons (s_set (i := 2) sc_lines_left.nd (g_call ih hr (Nat.le_refl _) (a_cons (g_var 4) (a_cons (g_sub (g_var 1) g_int) (a_cons (g_var 2) a_nil))))) (b_one (s_ite (t_is (g_var 2) g_non) (b_one (s_ret g_non)) b_nil))))))) (b_one (s_ret (g_var 2))))))) ?_
  intro ds s Q hl h
  obtain ⟨es, m, left, rfl, h0, hm, hd, h⟩ := h
  simp only [MS.ret, MS.retN, MS.ite, MS.seq, MS.nil, MS.drop, MS.set, MS.asg, MS.par, MS.par3, MS.no, MS.for, MS.aug, ME.var, ME.c, ME.op1, ME.op2, ME.of, ME.ite, ME.chain, MT.op2, MT.op1, MT.of, MT.and, MT.or, MT.not, MT.chain, MA.nil, MA.cons, ME.tup, ME.lst, ME.fn, ME.call, ME.lc, ME.sl, MO.no, MO.yes, MI.seq, MI.of, MI.ofA, ME.disp, ME.callA, ME.callR, ME.dc, ME.lc2, ME.sorted, List.map_cons, List.map_nil, List.cons_append, List.nil_append, List.append_nil, List.length_cons, List.length_nil, Nat.zero_add, Nat.reduceAdd, Nat.reduceSub, List.replicate_succ, List.replicate_zero, List.getD_cons_zero, List.getD_cons_succ, List.set_cons_zero, List.set_cons_succ, OQ_some]
  simp only [len_tup, gtD, ordD, OQ_some, eqD_zero]
  by_cases hlt : left < (es.length : Int)
  · simp only [hlt, decide_true, if_true]
    have : leftD m.toNat es left = none := by
      cases m.toNat <;> simp only [leftD, if_pos hlt]
    rw [this] at h
    exact h
  · simp only [hlt, decide_false, if_false, Bool.false_eq_true]
    by_cases hpos : (0 : Int) < es.length
    · simp only [hpos, decide_true, if_true]
      by_cases hz : m = 0
      · subst hz
        simp only [decide_true, if_true]
        have : leftD (0 : Int).toNat es left = none := by
          show leftD 0 es left = none
          simp only [leftD, if_neg hlt, if_pos hpos]
        rw [this] at h
        exact h
      · obtain ⟨j, rfl⟩ : ∃ j : Nat, m = ((j + 1 : Nat) : Int) := ⟨m.toNat - 1, by omega⟩
        have ej : (((j + 1 : Nat) : Int)).toNat = j + 1 := Int.toNat_natCast _
        have em : ((j + 1 : Nat) : Int) - 1 = (j : Int) := by omega
        rw [ej] at h
        have el : leftD (j + 1) es left = stepLines (leftD j) es (left - es.length) := by simp only [leftD, if_neg hlt]
        rw [el] at h
        simp only [hz, decide_false, if_false, Bool.false_eq_true, iiD, Option.map_some, OQ_some, seqD, szD]
        intro hz2
        rw [steps_eq] at h
        refine for_opt (step := stepO (leftD j)) es (fun d hmem left o1 o2 E' hE => ?_) _ none none ?_
        · simp only [setT, List.map_cons, List.map_nil, List.cons_append, List.nil_append, List.append_nil, List.length_cons, List.length_nil, Nat.zero_add, Nat.reduceAdd, Nat.reduceSub, List.replicate_succ, List.replicate_zero, List.getD_cons_zero, List.getD_cons_succ, List.set_cons_zero, List.set_cons_succ, OQ_some]
          refine ⟨trivial, ok_tup hd d hmem, ?_⟩
          simp only [blD_bl, OQ_some]
          cases eln : lineD d with
          | false =>
            simp only [Bool.not_false, if_true]
            simp only [stepO, eln, if_false, Bool.false_eq_true] at hE
            exact hE
          | true =>
            simp only [Bool.not_true, if_false, Bool.false_eq_true]
            simp only [stepO, eln, if_true] at hE
            refine ⟨trivial, d, rfl, ok_tup hd d hmem, eln, fun _ => ?_⟩
            refine for_opt (step := stepI (leftD j)) (innerD d) (fun e hi left o1 o2 E2 hE2 => ?_) _ _ _ hE
            obtain ⟨⟨xs, rfl⟩, hok⟩ := inner_tup eln (ok_tup hd d hmem) e hi
            simp only [setT, List.map_cons, List.map_nil, List.cons_append, List.nil_append, List.append_nil, List.length_cons, List.length_nil, Nat.zero_add, Nat.reduceAdd, Nat.reduceSub, List.replicate_succ, List.replicate_zero, List.getD_cons_zero, List.getD_cons_succ, List.set_cons_zero, List.set_cons_succ, OQ_some, iiD, Option.map_some, em]
            refine ⟨trivial, hgn xs j _ _ _ (by omega) hok ?_⟩
            simp only [stepI] at hE2
            cases e2 : leftD j xs left with
            | none =>
              simp only [e2, optD, isB, isNon, OQ_some, if_true] at hE2 ⊢
              exact hE2
            | some l =>
              simp only [e2, optD, isB, isNon, OQ_some, if_false, Bool.false_eq_true] at hE2 ⊢
              exact hE2 _ _
        · cases e : foldO (stepO (leftD j)) es (left - es.length) with
          | none => rw [e] at h; exact h
          | some l => rw [e] at h; exact fun o1 o2 => h
    · have he : es = [] := by
        match es with
        | [] => rfl
        | _ :: _ => exfalso; apply hpos; simp only [List.length_cons]; omega
      subst he
      simp only [hpos, decide_false, if_false, Bool.false_eq_true, iiD, Option.map_some, OQ_some, seqD, szD]
      intro hz2
      have : leftD m.toNat [] left = some (left - ((([] : List D).length : Nat) : Int)) := by
        cases m.toNat with
        | zero => simp only [leftD, if_neg hlt, if_neg hpos]
        | succ j => simp only [leftD, if_neg hlt]; rfl
      rw [this] at h
      exact h
theorem d_lines_left (T : Txt K w mg) : ∀ n : Nat, Cal P w K mg base W (24 + n) "lines_left" 3 (linesF n : MF S)
  | 0 => c_lines_left T (cal_never T.d_lines_left 23 3) (by omega) fun es j left s Q h => by omega
  | n + 1 => c_lines_left T (d_lines_left T n) (show 23 ≤ 24 + n by omega) fun es j left s Q h hd q => ⟨es, j, left, rfl, by omega, by omega, hd, by rw [Int.toNat_natCast]; exact q⟩
theorem c_is_program (T : Txt K w mg) : Cal P w K mg base W 37 "is_program" 1 (pf1 ok progD : MF S) := by
  obtain ⟨fa, fd, F, hg, b⟩ := T.d_is_program.ex
  refine cal_mk F hg b sc_is_program rfl (fun cdv A outer s H E hr => (b_one (s_ret (g_and (g_isi T.b.isinstance bb_isinstance (a_cons (g_var 0) (a_cons (g_ty T.b.tuple bb_tuple) a_nil))) (g_one (g_isNot (g_call (d_lines_left T 12) hr (by decide) (a_cons (g_var 0) (a_cons (g_gl T.k_MOST_DEEP) (a_cons (g_gl T.k_MOST_LINES) a_nil)))) g_non)))))) ?_
  intro ds s Q hl h
  obtain ⟨d, rfl, hd, h⟩ := pf1_inv h
  simp only [MS.ret, MS.retN, MS.ite, MS.seq, MS.nil, MS.drop, MS.set, MS.asg, MS.par, MS.par3, MS.no, MS.for, MS.aug, ME.var, ME.c, ME.op1, ME.op2, ME.of, ME.ite, ME.chain, MT.op2, MT.op1, MT.of, MT.and, MT.or, MT.not, MT.chain, MA.nil, MA.cons, ME.tup, ME.lst, ME.fn, ME.call, ME.lc, ME.sl, MO.no, MO.yes, MI.seq, MI.of, MI.ofA, ME.disp, ME.callA, ME.callR, ME.dc, ME.lc2, ME.sorted, List.map_cons, List.map_nil, List.cons_append, List.nil_append, List.append_nil, List.length_cons, List.length_nil, Nat.zero_add, Nat.reduceAdd, Nat.reduceSub, List.replicate_succ, List.replicate_zero, List.getD_cons_zero, List.getD_cons_succ, List.set_cons_zero, List.set_cons_succ, OQ_some]
  simp only [isi_tup hd, OQ_some, blD_bl, progD] at h ⊢
  cases d with
  | tup ds =>
    simp only [isTupD, if_true] at h ⊢
    refine ⟨trivial, ds, 12, 200, rfl, by decide, by decide, hd, ?_⟩
    rw [show ((12 : Int)).toNat = 12 from rfl]
    cases e : leftD 12 ds 200 <;> simp only [e, optD, isNotB, isB, isNon, Option.map_some, OQ_some, Option.isSome_none, Option.isSome_some, Bool.not_true, Bool.not_false] at h ⊢ <;> exact h
  | _ => simp only [isTupD, if_false, Bool.false_eq_true] at h ⊢; exact h
end
end G

set_option Elab.async false
set_option linter.all false
set_option maxRecDepth 100000
set_option maxHeartbeats 4000000
namespace G
open PySem PySem.Spec PyProof.Rows L2
def frameD (d : D) : Bool := withinD 0 1023 d
def toldD : D → Bool
  | .tup [a, .int i] => frameD a && ((1 : Int) == i || (3 : Int) == i)
  | _ => false
def keyI : Key → Option Int
  | .inl i => some i
  | .inr _ => none
def keyIs : List Key → Option (List Int)
  | [] => some []
  | k :: ks => (keyI k).bind fun i => (keyIs ks).map (i :: ·)
theorem keyIs_eq : ∀ {ks : List Key} {is : List Int}, keyIs ks = some is → ks = is.map Sum.inl
  | [], is, h => by simp [keyIs] at h; subst h; rfl
  | .inr x :: ks, is, h => by simp [keyIs, keyI] at h
  | .inl i :: ks, is, h => by
    simp only [keyIs, keyI, Option.bind_some] at h
    cases e : keyIs ks with
    | none => rw [e] at h; cases h
    | some js =>
      rw [e] at h
      cases h
      rw [keyIs_eq e]; rfl
theorem keyIs_of : ∀ {ks : List Key}, (ks.map keyD).all isIntD = true → ∃ is, keyIs ks = some is
  | [], _ => ⟨[], rfl⟩
  | .inl i :: ks, h => by
    simp only [List.map_cons, List.all_cons, Bool.and_eq_true] at h
    obtain ⟨is, e⟩ := keyIs_of h.2
    exact ⟨i :: is, by simp only [keyIs, keyI, Option.bind_some, e]; rfl⟩
  | .inr x :: ks, h => by
    simp only [List.map_cons, List.all_cons, keyD, isIntD, Bool.false_and] at h
    cases h
def sortK (ks : List Key) : Bool := match keyIs ks with
  | some is => decide (is.Pairwise (· ≤ ·))
  | none => false
def okm : D → Prop
  | .dct ks ds => ks.length < 64 ∧ ds.length = ks.length ∧ (∀ d ∈ ks.map keyD, ok d) ∧ ∀ d ∈ ds, ok d
  | d => ok d
def mappingD : D → Bool
  | .dct ks ds => (ks.map keyD).all (withinD 0 4095) && (sortK ks && ds.all toldD)
  | _ => false
theorem within_int {l h : Int} {d : D} (e : withinD l h d = true) : isIntD d = true := by
  cases d with
  | int i => rfl
  | _ => cases e
theorem eqv_ints : ∀ (a b : List Int), PyData.eqvAll (toPs (a.map D.int)) (toPs (b.map D.int)) = decide (a = b)
  | [], [] => by simp [toPs, PyData.eqvAll]
  | [], _ :: _ => by simp [toPs, PyData.eqvAll]
  | _ :: _, [] => by simp [toPs, PyData.eqvAll]
  | x :: a, y :: b => by
    simp only [List.map_cons, toPs, toP, PyData.eqvAll, PyData.eqv, eqv_ints a b]
    by_cases h : x = y
    · subst h; simp
    · simp [h]
theorem eqP_ints (a b : List Int) : eqP (.lst (a.map D.int)) (.lst (b.map D.int)) = decide (a = b) := by
  unfold eqP
  simp only [toP, PyData.eqv]
  exact eqv_ints a b
theorem shDs_ints (n : Nat) : ∀ is : List Int, shDs n (is.map D.int) = true
  | [] => by simp [shDs]
  | i :: is => by simp [shDs, shD, shDs_ints n is]
theorem sh_ints (is : List Int) : shD 64 (.lst (is.map D.int)) = true := by simp only [shD]; exact shDs_ints _ is
theorem perm_sorted : ∀ {a b : List Int}, a.Perm b → a.Pairwise (· ≤ ·) → b.Pairwise (· ≤ ·) → a = b
  | [], b, h, _, _ => (List.nil_perm.mp h).symm
  | x :: a, [], h, _, _ => absurd h.length_eq (by simp)
  | x :: a, y :: b, h, h1, h2 => by
    have hx : y ≤ x := by
      rcases List.mem_cons.mp (h.mem_iff.mp List.mem_cons_self) with e | e
      · omega
      · exact (List.pairwise_cons.mp h2).1 x e
    have hy : x ≤ y := by
      rcases List.mem_cons.mp (h.mem_iff.mpr List.mem_cons_self) with e | e
      · omega
      · exact (List.pairwise_cons.mp h1).1 y e
    have e : x = y := by omega
    subst e
    rw [perm_sorted (List.perm_cons x |>.mp h) (List.pairwise_cons.mp h1).2 (List.pairwise_cons.mp h2).2]
theorem sort_eq {is ys : List Int} (hp : ys.Perm is) (hs : ys.Pairwise (· ≤ ·)) : decide (is = ys) = decide (is.Pairwise (· ≤ ·)) := by
  by_cases h : is.Pairwise (· ≤ ·)
  · have : is = ys := (perm_sorted hp hs h).symm
    simp [this, hs]
  · have : ¬ is = ys := fun e => h (e ▸ hs)
    simp [this, h]
theorem map_keyD (is : List Int) : (is.map Sum.inl).map keyD = is.map D.int := by rw [List.map_map]; rfl
theorem isi_dict {d : D} (h : okm d) : isiD [d, .ty "dict"] = some (.bl (match d with | .dct _ _ => true | _ => false)) := by cases d <;> simp [isiD, tyD, okm, ok, gd] at h ⊢
def isDct : D → Bool
  | .dct _ _ => true
  | _ => false
theorem isi_dict' {d : D} (h : okm d) : isiD [d, .ty "dict"] = some (.bl (isDct d)) := by rw [isi_dict h]; cases d <;> rfl
/-! shortrows -/
def pageP : List D → Bool
  | [a] => withinD 0 30 a
  | _ => false
def ruleP (own : Int) (ks : List Key) : List D → Bool
  | [.int i, b] => withinD 1 1000000 b && (decide (own < i) && memK ks (.inl i))
  | _ => false
def signR (own : Int) (ks : List Key) : D → Bool
  | .tup (.str x :: ds) => if x = "page" then pageP ds else if x = "rule" then ruleP own ks ds else false
  | _ => false
def signF {S : Type} : MF S := ⟨fun ds s Q => ∃ d own ks es, ds = [d, .int own, .dct ks es] ∧ ok d ∧ Q (.bl (signR own ks d)) s, fun h ⟨d, own, ks, es, a, b, q⟩ => ⟨d, own, ks, es, a, b, h _ _ q⟩⟩
def zeroK : List Key → Bool
  | .inl i :: _ => i == 0
  | _ => false
def rowsR (ks0 : List Key) : List Key → List D → Bool
  | .inl i :: ks, .tup es :: ds => es.all (signR i ks0) && rowsR ks0 ks ds
  | [], [] => true
  | _, _ => false
def sumLen (ds : List D) : Int := (ds.map rowLen).sum
def rulesD : D → Bool
  | .dct ks ds => ((ks.map keyD).all isIntD && sortK ks) && ((zeroK ks && ds.all isTupD) && (decide (sumLen ds ≤ 2000) && rowsR ks ks ds))
  | _ => false
section
variable {S : Type} {P : Program} {w : World} {K : PySem.W.Frag} {mg : Str → Option Value} {base : Heap} {W : Wd S}
theorem c_is_frame (T : Txt K w mg) : Cal P w K mg base W 3 "is_frame" 1 (pf1 ok frameD : MF S) := by
  obtain ⟨fa, fd, F, hg, b⟩ := T.d_is_frame.ex
  refine cal_mk F hg b sc_is_frame rfl (fun cdv A outer s H E hr => (b_one (s_ret (g_call (c_is_within T) hr (by decide) (a_cons (g_var 0) (a_cons g_int (a_cons (g_sub (g_gl T.k_MOST_FRAMES) g_int) a_nil))))))) ?_
  intro ds s Q hl h
  obtain ⟨d, rfl, hd, h⟩ := pf1_inv h
  simp only [MS.ret, MS.retN, MS.ite, MS.seq, MS.nil, MS.drop, MS.set, MS.asg, MS.par, MS.par3, MS.no, MS.for, MS.aug, ME.var, ME.c, ME.op1, ME.op2, ME.of, ME.ite, ME.chain, MT.op2, MT.op1, MT.of, MT.and, MT.or, MT.not, MT.chain, MA.nil, MA.cons, ME.tup, ME.lst, ME.fn, ME.call, ME.lc, ME.sl, MO.no, MO.yes, MI.seq, MI.of, MI.ofA, ME.disp, ME.callA, ME.callR, ME.dc, ME.lc2, ME.sorted, List.map_cons, List.map_nil, List.cons_append, List.nil_append, List.append_nil, List.length_cons, List.length_nil, Nat.zero_add, Nat.reduceAdd, Nat.reduceSub, List.replicate_succ, List.replicate_zero, List.getD_cons_zero, List.getD_cons_succ, List.set_cons_zero, List.set_cons_succ, OQ_some]
  exact ⟨trivial, ⟨hd, rfl, rfl⟩, h⟩
theorem c_is_told (T : Txt K w mg) : Cal P w K mg base W 4 "is_told" 1 (pf1 ok toldD : MF S) := by
  obtain ⟨fa, fd, F, hg, b⟩ := T.d_is_told.ex
  refine cal_mk F hg b sc_is_told rfl (fun cdv A outer s H E hr => (b_cons (s_ite (PW.pt (w_or (t_not (t_of (g_isi T.b.isinstance bb_isinstance (a_cons (g_var 0) (a_cons (g_ty T.b.tuple bb_tuple) a_nil))))) (w_or1 (t_ne hr.units (g_len T.b.len (a_cons (g_var 0) a_nil)) g_int)))) (b_one (s_ret g_bl)) b_nil) (b_one (s_ret (g_and (g_call (c_is_frame T) hr (by decide) (a_cons (g_ix (hu1 hr) (g_var 0) g_int) a_nil)) (g_and (g_call (c_is_integer T) hr (by decide) (a_cons (g_ix (hu1 hr) (g_var 0) g_int) a_nil)) (g_one (g_in (hu65 hr) (g_ix (hu1 hr) (g_var 0) g_int) (g_gl T.k_RIGHTS_sharing))))))))) ?_
  intro ds s Q hl h
  obtain ⟨d, rfl, hd, h⟩ := pf1_inv h
  simp only [MS.ret, MS.retN, MS.ite, MS.seq, MS.nil, MS.drop, MS.set, MS.asg, MS.par, MS.par3, MS.no, MS.for, MS.aug, ME.var, ME.c, ME.op1, ME.op2, ME.of, ME.ite, ME.chain, MT.op2, MT.op1, MT.of, MT.and, MT.or, MT.not, MT.chain, MA.nil, MA.cons, ME.tup, ME.lst, ME.fn, ME.call, ME.lc, ME.sl, MO.no, MO.yes, MI.seq, MI.of, MI.ofA, ME.disp, ME.callA, ME.callR, ME.dc, ME.lc2, ME.sorted, List.map_cons, List.map_nil, List.cons_append, List.nil_append, List.append_nil, List.length_cons, List.length_nil, Nat.zero_add, Nat.reduceAdd, Nat.reduceSub, List.replicate_succ, List.replicate_zero, List.getD_cons_zero, List.getD_cons_succ, List.set_cons_zero, List.set_cons_succ, OQ_some]
  simp only [isi_tup hd, OQ_some, blD_bl]
  cases d with
  | tup ds =>
    simp only [isTupD, Bool.not_true, if_false, Bool.false_eq_true, len_tup, OQ_some, neD_int] at h ⊢
    cases el : ((ds.length : Int) == 2) with
    | false =>
      have : ∀ x n, ds ≠ [x, n] := by rintro x n rfl; simp at el
      simp only [Bool.not_false, if_true]
      simp only [toldD] at h
      split at h
      · rename_i x n e; exact absurd (D.tup.inj e) (this x _)
      · exact h
    | true =>
      obtain ⟨a, b, rfl⟩ := tup2 el
      have ha : ok a := ok_tup hd a (by simp)
      have hb : ok b := ok_tup hd b (by simp)
      simp only [Bool.not_true, if_false, Bool.false_eq_true, ix_tup, at0, at1, OQ_some]
      refine ⟨trivial, ha, ?_⟩
      simp only [blD_bl, OQ_some]
      cases b with
      | int i =>
        simp only [toldD] at h
        cases e : frameD a with
        | false => simp only [e, if_false, Bool.false_eq_true, Bool.false_and] at h ⊢; exact h
        | true =>
          simp only [e, if_true, Bool.true_and, isIntD] at h ⊢
          refine ⟨trivial, hb, ?_⟩
          have e2 : inD (.int i) (.tup [.int 1, .int 3]) = some ((1 : Int) == i || (3 : Int) == i) := by
            rw [inD_tup rfl (by decide +kernel)]; simp [eqP_int]
          simp only [e2, blD_bl, OQ_some, if_true]
          exact h
      | _ =>
        have h' : Q (.bl false) s := h
        cases e : frameD a with
        | false => simp only [if_false, Bool.false_eq_true]; exact h'
        | true =>
          simp only [if_true, isIntD]
          refine ⟨trivial, hb, ?_⟩
          simp only [blD_bl, OQ_some, if_false, Bool.false_eq_true]
          exact h'
  | _ => simp only [isTupD, Bool.not_false, if_true] at h ⊢; exact h
theorem c_is_mapping (T : Txt K w mg) : Cal P w K mg base W 5 "is_mapping" 1 (pf1 okm mappingD : MF S) := by
  obtain ⟨fa, fd, F, hg, b⟩ := T.d_is_mapping.ex
  refine cal_mk F hg b sc_is_mapping rfl (fun cdv A outer s H E hr => (b_cons (s_ite (PW.pt (w_or (t_not (t_of (g_isi T.b.isinstance bb_isinstance (a_cons (g_var 0) (a_cons (g_ty T.b.dict bb_dict) a_nil))))) (w_or1 (t_not (t_of (g_all rfl T.b.all bb_all (a_cons (g_lc [("page", 2)] rfl sc_is_mapping.nd (i_seq (g_var 0)) (blkOk_by (by kernel_rfl)) (fun _ _ _ _ _ => (gt_nm (i := 2) sc_is_mapping.nd)) (fun _ _ _ _ _ => pts0) (fun _ _ _ _ _ => (g_call (c_is_within T) hr (by decide) (a_cons (g_var 2) (a_cons g_int (a_cons (g_sub (g_gl T.k_PAGES) g_int) a_nil)))))) a_nil))))))) (b_one (s_ret g_bl)) b_nil) (b_one (s_ret (g_and (g_eq hr.units (g_toLst rfl T.b.list bb_list (a_cons (g_var 0) a_nil)) (g_sorted rfl T.b.sorted bb_sorted (a_cons (g_var 0) a_nil))) (g_one (g_all rfl T.b.all bb_all (a_cons (g_lc [("told", 1)] rfl sc_is_mapping.nd (i_vals (g_var 0)) (blkOk_by (by kernel_rfl)) (fun _ _ _ _ _ => (gt_nm (i := 1) sc_is_mapping.nd)) (fun _ _ _ _ _ => pts0) (fun _ _ _ _ _ => (g_call (c_is_told T) hr (by decide) (a_cons (g_var 1) a_nil)))) a_nil)))))))) ?_
  intro ds s Q hl h
  obtain ⟨d, rfl, hd, h⟩ := pf1_inv h
  simp only [MS.ret, MS.retN, MS.ite, MS.seq, MS.nil, MS.drop, MS.set, MS.asg, MS.par, MS.par3, MS.no, MS.for, MS.aug, ME.var, ME.c, ME.op1, ME.op2, ME.of, ME.ite, ME.chain, MT.op2, MT.op1, MT.of, MT.and, MT.or, MT.not, MT.chain, MA.nil, MA.cons, ME.tup, ME.lst, ME.fn, ME.call, ME.lc, ME.sl, MO.no, MO.yes, MI.seq, MI.of, MI.ofA, ME.disp, ME.callA, ME.callR, ME.dc, ME.lc2, ME.sorted, List.map_cons, List.map_nil, List.cons_append, List.nil_append, List.append_nil, List.length_cons, List.length_nil, Nat.zero_add, Nat.reduceAdd, Nat.reduceSub, List.replicate_succ, List.replicate_zero, List.getD_cons_zero, List.getD_cons_succ, List.set_cons_zero, List.set_cons_succ, OQ_some]
  simp only [isi_dict' hd, OQ_some, blD_bl]
  cases d with
  | dct ks ds =>
    obtain ⟨h64, hlen, hk, hds⟩ := hd
    simp only [isDct, Bool.not_true, if_false, Bool.false_eq_true, seqD, szD, OQ_some, iiD, Option.map_some, mappingD] at h ⊢
    intro _
    refine ⟨show _ ≤ 16777216 by rw [List.length_map]; omega, lc_map (f := fun d => .bl (withinD 0 4095 d)) _ (fun d hm => ⟨_, rfl, fun Q hq => ?_⟩) ?_⟩
    · simp only [setT, List.map_cons, List.map_nil, List.cons_append, List.nil_append, List.append_nil, List.length_cons, List.length_nil, Nat.zero_add, Nat.reduceAdd, Nat.reduceSub, List.replicate_succ, List.replicate_zero, List.getD_cons_zero, List.getD_cons_succ, List.set_cons_zero, List.set_cons_succ, OQ_some, wipeD]
      exact ⟨trivial, ⟨hk d hm, rfl, rfl⟩, hq⟩
    · rw [allD_map]
      simp only [OQ_some, blD_bl]
      cases e : (ks.map keyD).all (withinD 0 4095) with
      | false => simp only [e, Bool.not_false, if_true, Bool.false_and] at h ⊢; exact h
      | true =>
        simp only [e, Bool.not_true, if_false, Bool.false_eq_true, Bool.true_and, toLstD, if_pos (show ks.length ≤ big from show _ ≤ 16777216 by omega), OQ_some] at h ⊢
        obtain ⟨is, eis⟩ := keyIs_of (List.all_eq_true.mpr fun d hm => within_int (List.all_eq_true.mp e d hm))
        have eks := keyIs_eq eis
        refine ⟨is, eks, by rw [eks, List.length_map] at h64; exact h64, fun ys hp hs => ?_⟩
        have esk : sortK ks = decide (is.Pairwise (· ≤ ·)) := by simp only [sortK, eis]
        rw [eks, map_keyD, eqD_ok (sh_ints is) (sh_ints ys), eqP_ints, sort_eq hp hs]
        simp only [OQ_some, blD_bl]
        rw [esk] at h
        cases e2 : decide (is.Pairwise (· ≤ ·)) with
        | false => simp only [e2, Bool.false_and, if_false, Bool.false_eq_true] at h ⊢; exact h
        | true =>
          simp only [e2, Bool.true_and, if_true, valsD, OQ_some] at h ⊢
          refine ⟨show _ ≤ 16777216 by omega, lc_map (f := fun d => .bl (toldD d)) _ (fun d hm => ⟨_, rfl, fun Q hq => ?_⟩) ?_⟩
          · simp only [setT, List.map_cons, List.map_nil, List.cons_append, List.nil_append, List.append_nil, List.length_cons, List.length_nil, Nat.zero_add, Nat.reduceAdd, Nat.reduceSub, List.replicate_succ, List.replicate_zero, List.getD_cons_zero, List.getD_cons_succ, List.set_cons_zero, List.set_cons_succ, OQ_some, wipeD]
            exact ⟨trivial, hds d hm, hq⟩
          · rw [allD_map]; exact h
  | _ => simp only [isDct, Bool.not_false, if_true] at h ⊢; exact h
theorem c_is_sign (T : Txt K w mg) : Cal P w K mg base W 4 "is_sign" 3 (signF : MF S) := by
  obtain ⟨fa, fd, F, hg, b⟩ := T.d_is_sign.ex
  refine cal_mk F hg b sc_is_sign rfl (fun cdv A outer s H E hr => (b_cons (s_ite (PW.pt (w_or (t_not (t_of (g_isi T.b.isinstance bb_isinstance (a_cons (g_var 0) (a_cons (g_ty T.b.tuple bb_tuple) a_nil))))) (w_or (t_lt (g_len T.b.len (a_cons (g_var 0) a_nil)) g_int) (w_or1 (t_not (t_of (g_isi T.b.isinstance bb_isinstance (a_cons (g_ix (hu1 hr) (g_var 0) g_int) (a_cons (g_ty T.b.str bb_str) a_nil))))))))) (b_one (s_ret g_bl)) b_nil) (b_cons (s_ite (t_eq hr.units (g_ix (hu1 hr) (g_var 0) g_int) (g_gl T.k_PAGE_SIGN)) (b_one (s_ret (g_and (g_eq hr.units (g_len T.b.len (a_cons (g_var 0) a_nil)) g_int) (g_one (g_call (c_is_within T) hr (by decide) (a_cons (g_ix (hu1 hr) (g_var 0) g_int) (a_cons g_int (a_cons (g_gl T.k_MOST_PAGE_shortrows) a_nil)))))))) b_nil) (b_cons (s_ite (PW.pt (w_or (t_ne hr.units (g_ix (hu1 hr) (g_var 0) g_int) (g_gl T.k_RULE)) (w_or (t_ne hr.units (g_len T.b.len (a_cons (g_var 0) a_nil)) g_int) (w_or (t_not (t_of (g_call (c_is_integer T) hr (by decide) (a_cons (g_ix (hu1 hr) (g_var 0) g_int) a_nil)))) (w_or1 (t_not (t_of (g_call (c_is_within T) hr (by decide) (a_cons (g_ix (hu1 hr) (g_var 0) g_int) (a_cons g_int (a_cons (g_gl T.k_MOST_TIMES) a_nil))))))))))) (b_one (s_ret g_bl)) b_nil) (b_one (s_ret (g_and (g_gt (g_ix (hu1 hr) (g_var 0) g_int) (g_var 1)) (g_one (g_in (hu65 hr) (g_ix (hu1 hr) (g_var 0) g_int) (g_var 2)))))))))) ?_
  intro ds s Q hl h
  obtain ⟨d, own, ks, es, rfl, hd, h⟩ := h
  simp only [MS.ret, MS.retN, MS.ite, MS.seq, MS.nil, MS.drop, MS.set, MS.asg, MS.par, MS.par3, MS.no, MS.for, MS.aug, ME.var, ME.c, ME.op1, ME.op2, ME.of, ME.ite, ME.chain, MT.op2, MT.op1, MT.of, MT.and, MT.or, MT.not, MT.chain, MA.nil, MA.cons, ME.tup, ME.lst, ME.fn, ME.call, ME.lc, ME.sl, MO.no, MO.yes, MI.seq, MI.of, MI.ofA, ME.disp, ME.callA, ME.callR, ME.dc, ME.lc2, ME.sorted, List.map_cons, List.map_nil, List.cons_append, List.nil_append, List.append_nil, List.length_cons, List.length_nil, Nat.zero_add, Nat.reduceAdd, Nat.reduceSub, List.replicate_succ, List.replicate_zero, List.getD_cons_zero, List.getD_cons_succ, List.set_cons_zero, List.set_cons_succ, OQ_some]
  cases d with
  | tup ds =>
    simp only [isi_tup hd, isTupD, OQ_some, blD_bl, Bool.not_true, if_false, Bool.false_eq_true, len_tup, ltD, ordD]
    cases ds with
    | nil => simp only [List.length_nil]; exact h
    | cons a ds =>
      obtain ⟨ha, hds⟩ := ok_cons hd
      by_cases hlt : (((a :: ds).length : Nat) : Int) < 2
      · have : ds = [] := by
          match ds with
          | [] => rfl
          | _ :: _ => simp at hlt; omega
        subst this
        simp only [hlt, decide_true, if_true]
        cases a with
        | str x =>
          have : signR own ks (.tup [.str x]) = false := by simp [signR, pageP, ruleP]
          rw [this] at h; exact h
        | _ => exact h
      · simp only [hlt, decide_false, if_false, Bool.false_eq_true, ix_tup, at0, OQ_some, isi_str ha, blD_bl]
        obtain ⟨b, r, rfl⟩ := two_of hlt
        cases a with
        | str x =>
          have e1 : eqD (.str x) (.str "page") = some (x == "page") := by rw [eqD_ok (ok_sh ha) (by decide +kernel), eqP_str]
          have e2 : neD (.str x) (.str "rule") = some (!(x == "rule")) := by rw [neD_ok (ok_sh ha) (by decide +kernel), eqP_str]
          simp only [isStrD, Bool.not_true, if_false, Bool.false_eq_true, e1, e2, OQ_some, eqD_int, neD_int]
          by_cases hx : x = "page"
          · subst hx
            simp only [signR, if_true] at h
            simp only [beq_self_eq_true, if_true]
            cases el : (((D.str "page" :: b :: r).length : Int) == 2) with
            | false =>
              simp only [if_false, Bool.false_eq_true]
              unfold pageP at h
              split at h
              · rename_i e; cases e; simp at el
              · exact h
            | true =>
              have hr : r = [] := by
                match r with
                | [] => rfl
                | _ :: _ => simp at el; omega
              subst hr
              simp only [if_true, at1, OQ_some, pageP] at h ⊢
              exact ⟨trivial, ⟨hds b (by simp), rfl, rfl⟩, h⟩
          · have hb : (x == ("page" : Str)) = false := beq_eq_false_iff_ne.mpr hx
            simp only [signR, if_neg hx] at h
            simp only [hb, if_false, Bool.false_eq_true]
            by_cases hk : x = "rule"
            · subst hk
              simp only [if_true] at h
              simp only [beq_self_eq_true, Bool.not_true, if_false, Bool.false_eq_true]
              cases el : (((D.str "rule" :: b :: r).length : Int) == 3) with
              | false =>
                simp only [Bool.not_false, if_true]
                unfold ruleP at h
                split at h
                · rename_i e; cases e; simp at el
                · exact h
              | true =>
                obtain ⟨c, rfl⟩ : ∃ c, r = [c] := by
                  match r, el with
                  | [c], _ => exact ⟨c, rfl⟩
                  | [], el => simp at el
                  | _ :: _ :: _, el => simp at el; omega
                simp only [Bool.not_true, if_false, Bool.false_eq_true, at1, at2, OQ_some]
                refine ⟨trivial, hds b (by simp), ?_⟩
                cases b with
                | int i =>
                  simp only [isIntD, blD_bl, OQ_some, Bool.not_true, if_false, Bool.false_eq_true, ruleP] at h ⊢
                  refine ⟨trivial, ⟨hds c (by simp), rfl, rfl⟩, ?_⟩
                  cases e3 : withinD 1 1000000 c with
                  | false => simp only [e3, blD_bl, OQ_some, Bool.not_false, if_true, Bool.false_and] at h ⊢; exact h
                  | true =>
                    simp only [e3, blD_bl, OQ_some, Bool.not_true, if_false, Bool.false_eq_true, Bool.true_and, gtD, ordD] at h ⊢
                    cases e4 : decide (own < i) with
                    | false => simp only [e4, if_false, Bool.false_eq_true, Bool.false_and] at h ⊢; exact h
                    | true =>
                      simp only [e4, if_true, Bool.true_and, inD, keyOf, Option.map_some, OQ_some] at h ⊢
                      exact h
                | _ => simp only [isIntD, ruleP, blD_bl, OQ_some, Bool.not_false, if_true] at h ⊢; exact h
            · have hb : (x == ("rule" : Str)) = false := beq_eq_false_iff_ne.mpr hk
              simp only [if_neg hk] at h
              simp only [hb, Bool.not_false, if_true]
              exact h
        | _ => simp only [isStrD, Bool.not_false, if_true] at h ⊢; exact h
  | _ => simp [isiD, tyD, blD, signR, ok, gd] at h hd ⊢ <;> exact h
end
end G

set_option Elab.async false
set_option linter.all false
set_option maxRecDepth 100000
set_option maxHeartbeats 4000000
namespace G
open PySem PySem.Spec PyProof.Rows L2
/-- two fors, no test, the answers bools -/
theorem lc2_bls {S : Type} {t : Tgt} {i1 : MI S} {t1 : Tgt} {te : ME S} {vs1 : List Nat} {δ : En} {s : S} {f : D → List D} {g : D → D → Bool} {m : Nat} : ∀ (ds : List D) (n : Nat) (k : List D → S → Prop), (∀ d ∈ ds, (f d).length ≤ m ∧ ∃ δ1, setT t d δ = some δ1 ∧ (∀ Q, Q (f d) s → i1.run δ1 s Q) ∧ ∀ y ∈ f d, ∃ δ2, setT t1 y (wipeD δ1 vs1) = some δ2 ∧ ∀ Q, Q (.bl (g d y)) s → te.run δ2 s Q) →
    n + ds.length * m ≤ big → k ((ds.flatMap fun d => (f d).map (g d)).map D.bl) s → lc2Run t MT.yes i1 t1 MT.yes te vs1 δ n ds s k
  | [], n, k, _, _, h => h
  | d :: ds, n, k, hd, hn, h => by
    obtain ⟨hm, δ1, e, h1, h2⟩ := hd d List.mem_cons_self
    have hn' : n + (ds.length + 1) * m ≤ 16777216 := by simpa using hn
    have e1 : (ds.length + 1) * m = ds.length * m + m := by rw [Nat.add_mul, Nat.one_mul]
    unfold lc2Run
    rw [e]
    refine yes_if (h1 _ ⟨show n + (f d).length ≤ 16777216 by omega, lc_map (f := fun y => .bl (g d y)) (f d) h2 ?_⟩)
    have hn2 : n + ((f d).map fun y => D.bl (g d y)).length + ds.length * m ≤ 16777216 := by rw [List.length_map]; omega
    refine lc2_bls ds _ (fun r s4 => k (((f d).map fun y => D.bl (g d y)) ++ r) s4) (fun d' hd' => hd d' (List.mem_cons_of_mem _ hd')) hn2 ?_
    rw [List.flatMap_cons, List.map_append, List.map_map] at h
    exact h
theorem blsD_bls : ∀ bs : List Bool, blsD (bs.map D.bl) = some bs
  | [] => rfl
  | b :: bs => by simp only [List.map_cons, blsD, blsD_bls bs]; rfl
theorem allD_bls (bs : List Bool) : allD [.lst (bs.map D.bl)] = some (.bl (bs.all id)) := by
  show (blsD _).map _ = _
  rw [blsD_bls]; rfl
def itemsOf (ks : List Key) (ds : List D) : List D := (ks.zip ds).map fun kd => .tup [keyD kd.1, kd.2]
def rowOf : D → List D
  | .tup [_, .tup es] => es
  | _ => []
def signOf (ks0 : List Key) : D → D → Bool
  | .tup [.int own, _], d => signR own ks0 d
  | _, _ => false
theorem rowsR_eq (ks0 : List Key) : ∀ (is : List Int) (ds : List D), ds.length = is.length → ds.all isTupD = true → rowsR ks0 (is.map Sum.inl) ds = ((itemsOf (is.map Sum.inl) ds).flatMap fun d => (rowOf d).map (signOf ks0 d)).all id
  | [], [], _, _ => rfl
  | [], _ :: _, h, _ => by simp at h
  | _ :: _, [], h, _ => by simp at h
  | i :: is, .tup es :: ds, h, ht => by
    simp only [List.all_cons, Bool.and_eq_true] at ht
    simp only [List.map_cons, rowsR, itemsOf, List.zip_cons_cons, List.flatMap_cons, List.all_append]
    rw [rowsR_eq ks0 is ds (by simpa using h) ht.2]
    congr 1
    simp only [rowOf, signOf, keyD, List.all_map]
    rfl
  | i :: is, .non :: ds, h, ht | i :: is, .bl _ :: ds, h, ht | i :: is, .int _ :: ds, h, ht | i :: is, .str _ :: ds, h, ht | i :: is, .ref _ :: ds, h, ht | i :: is, .ty _ :: ds, h, ht | i :: is, .lst _ :: ds, h, ht | i :: is, .dct _ _ :: ds, h, ht => by
    simp only [List.all_cons, isTupD, Bool.false_and] at ht
    cases ht
theorem intsD_map (f : D → Int) : ∀ ds : List D, intsD (ds.map fun d => .int (f d)) = some (ds.map f)
  | [] => rfl
  | d :: ds => by simp only [List.map_cons, intsD, intsD_map f ds]; rfl
theorem take1 {α : Type} (x : α) (xs : List α) : cutL (x :: xs) none (some 1) = [x] := by
  unfold cutL
  have h1 : HT.sIx (x :: xs).length (x :: xs).length (some 1) = 1 := by simp [HT.sIx]
  rw [h1, HT.sIx_none]; rfl
theorem row_len {ds : List D} : ∀ {d : D}, d ∈ ds → ds.all isTupD = true → 0 ≤ rowLen d ∧ rowLen d ≤ sumLen ds := by
  induction ds with
  | nil => intro d h; cases h
  | cons a ds ih =>
    intro d h ht
    simp only [List.all_cons, Bool.and_eq_true] at ht
    have hs : 0 ≤ sumLen ds := by
      clear ih h
      have : ∀ xs : List D, 0 ≤ sumLen xs := by
        intro xs
        induction xs with
        | nil => exact Int.le_refl 0
        | cons y ys ih =>
          have : 0 ≤ rowLen y := by cases y <;> simp [rowLen] <;> omega
          simp only [sumLen, List.map_cons, List.sum_cons] at ih ⊢
          omega
      exact this ds
    have ha : 0 ≤ rowLen a := by cases a <;> simp [rowLen] <;> omega
    have hd : 0 ≤ rowLen d := by cases d <;> simp [rowLen] <;> omega
    refine ⟨hd, ?_⟩
    have e : sumLen (a :: ds) = rowLen a + sumLen ds := by simp [sumLen]
    rw [e]
    rcases List.mem_cons.mp h with rfl | h
    · omega
    · have := (ih h ht.2).2
      omega
theorem flat_len_leX {α β : Type} {f : α → List β} {m : Nat} : ∀ ds : List α, (∀ d ∈ ds, (f d).length ≤ m) → (ds.flatMap f).length ≤ ds.length * m
  | [], _ => by simp
  | d :: ds, h => by
    rw [List.flatMap_cons, List.length_append, List.length_cons, Nat.add_mul, Nat.one_mul]
    have h1 := h d List.mem_cons_self
    have h2 := flat_len_leX ds fun d' hd' => h d' (List.mem_cons_of_mem _ hd')
    omega
section
variable {S : Type} {P : Program} {w : World} {K : PySem.W.Frag} {mg : Str → Option Value} {base : Heap} {W : Wd S}
theorem c_are_rules (T : Txt K w mg) : Cal P w K mg base W 5 "are_rules" 1 (pf1 okm rulesD : MF S) := by
  obtain ⟨fa, fd, F, hg, b⟩ := T.d_are_rules.ex
  refine cal_mk F hg b sc_are_rules rfl (fun cdv A outer s H E hr => (b_cons (s_ite (PW.pt (w_or (t_not (t_of (g_isi T.b.isinstance bb_isinstance (a_cons (g_var 0) (a_cons (g_ty T.b.dict bb_dict) a_nil))))) (w_or (t_not (t_of (g_all rfl T.b.all bb_all (a_cons (g_lc [("own", 2)] rfl sc_are_rules.nd (i_seq (g_var 0)) (blkOk_by (by kernel_rfl)) (fun _ _ _ _ _ => (gt_nm (i := 2) sc_are_rules.nd)) (fun _ _ _ _ _ => pts0) (fun _ _ _ _ _ => (g_call (c_is_integer T) hr (by decide) (a_cons (g_var 2) a_nil)))) a_nil)))) (w_or1 (t_ne hr.units (g_toLst rfl T.b.list bb_list (a_cons (g_var 0) a_nil)) (g_sorted rfl T.b.sorted bb_sorted (a_cons (g_var 0) a_nil))))))) (b_one (s_ret g_bl)) b_nil) (b_cons (s_ite (PW.pt (w_or (t_ne hr.units (g_sl (g_toLst rfl T.b.list bb_list (a_cons (g_var 0) a_nil)) o_none (o_some g_int)) (g_lst (a_cons g_int a_nil))) (w_or1 (t_not (t_of (g_all rfl T.b.all bb_all (a_cons (g_lc [("row", 3)] rfl sc_are_rules.nd (i_vals (g_var 0)) (blkOk_by (by kernel_rfl)) (fun _ _ _ _ _ => (gt_nm (i := 3) sc_are_rules.nd)) (fun _ _ _ _ _ => pts0) (fun _ _ _ _ _ => (g_isi T.b.isinstance bb_isinstance (a_cons (g_var 3) (a_cons (g_ty T.b.tuple bb_tuple) a_nil))))) a_nil))))))) (b_one (s_ret g_bl)) b_nil) (b_cons (s_ite (PW.pt (w_or (t_gt (g_len T.b.len (a_cons (g_var 0) a_nil)) (g_gl T.k_MOST_SIGNS_shortrows)) (w_or1 (t_gt (g_sum rfl T.b.sum bb_sum (a_cons (g_lc [("row", 3)] rfl sc_are_rules.nd (i_vals (g_var 0)) (blkOk_by (by kernel_rfl)) (fun _ _ _ _ _ => (gt_nm (i := 3) sc_are_rules.nd)) (fun _ _ _ _ _ => pts0) (fun _ _ _ _ _ => (g_len T.b.len (a_cons (g_var 3) a_nil)))) a_nil)) (g_gl T.k_MOST_SIGNS_shortrows))))) (b_one (s_ret g_bl)) b_nil) (b_one (s_ret (g_all rfl T.b.all bb_all (a_cons (g_lc2 [("own", 2), ("row", 3), ("sign", 1)] [("sign", 1)] rfl sc_are_rules.nd (i_items (g_var 0)) (blkOk_by (by kernel_rfl)) (by decide) (fun _ _ _ _ _ => (gt_tp rfl (gts_cons (gt_nm (i := 2) sc_are_rules.nd) (gts_cons (gt_nm (i := 3) sc_are_rules.nd) gts_nil)))) (fun _ _ _ _ _ => pts0) (fun _ _ _ _ _ => (i_seq (g_var 3))) (fun _ _ _ _ _ => (gt_nm (i := 1) sc_are_rules.nd)) (fun _ _ _ _ _ => pts0) (fun _ _ _ _ _ => (g_call (c_is_sign T) hr (by decide) (a_cons (g_var 1) (a_cons (g_var 2) (a_cons (g_var 0) a_nil)))))) a_nil)))))))) ?_
  intro ds s Q hl h
  obtain ⟨d, rfl, hd, h⟩ := pf1_inv h
  simp only [MS.ret, MS.retN, MS.ite, MS.seq, MS.nil, MS.drop, MS.set, MS.asg, MS.par, MS.par3, MS.no, MS.for, MS.aug, ME.var, ME.c, ME.op1, ME.op2, ME.of, ME.ite, ME.chain, MT.op2, MT.op1, MT.of, MT.and, MT.or, MT.not, MT.chain, MA.nil, MA.cons, ME.tup, ME.lst, ME.fn, ME.call, ME.lc, ME.sl, MO.no, MO.yes, MI.seq, MI.of, MI.ofA, ME.disp, ME.callA, ME.callR, ME.dc, ME.lc2, ME.sorted, List.map_cons, List.map_nil, List.cons_append, List.nil_append, List.append_nil, List.length_cons, List.length_nil, Nat.zero_add, Nat.reduceAdd, Nat.reduceSub, List.replicate_succ, List.replicate_zero, List.getD_cons_zero, List.getD_cons_succ, List.set_cons_zero, List.set_cons_succ, OQ_some]
  simp only [isi_dict' hd, OQ_some, blD_bl]
  cases d with
  | dct ks ds =>
    obtain ⟨h64, hlen, hk, hds⟩ := hd
    simp only [isDct, Bool.not_true, if_false, Bool.false_eq_true, seqD, szD, OQ_some, rulesD] at h ⊢
    intro _
    refine ⟨show _ ≤ 16777216 by rw [List.length_map]; omega, lc_map (f := fun d => .bl (isIntD d)) _ (fun d hm => ⟨_, rfl, fun Q hq => ?_⟩) ?_⟩
    · simp only [setT, List.map_cons, List.map_nil, List.cons_append, List.nil_append, List.append_nil, List.length_cons, List.length_nil, Nat.zero_add, Nat.reduceAdd, Nat.reduceSub, List.replicate_succ, List.replicate_zero, List.getD_cons_zero, List.getD_cons_succ, List.set_cons_zero, List.set_cons_succ, OQ_some, wipeD]
      exact ⟨trivial, hk d hm, hq⟩
    · rw [allD_map]
      simp only [OQ_some, blD_bl]
      cases e : (ks.map keyD).all isIntD with
      | false => simp only [e, Bool.not_false, if_true, Bool.false_and] at h ⊢; exact h
      | true =>
        simp only [e, Bool.not_true, if_false, Bool.false_eq_true, Bool.true_and, toLstD, if_pos (show ks.length ≤ big from show _ ≤ 16777216 by omega), OQ_some] at h ⊢
        obtain ⟨is, eis⟩ := keyIs_of e
        have eks := keyIs_eq eis
        refine ⟨is, eks, by rw [eks, List.length_map] at h64; exact h64, fun ys hp hs => ?_⟩
        have esk : sortK ks = decide (is.Pairwise (· ≤ ·)) := by simp only [sortK, eis]
        rw [neD_ok (by rw [eks, map_keyD]; exact sh_ints is) (sh_ints ys), show eqP (.lst (ks.map keyD)) (.lst (ys.map D.int)) = decide (is.Pairwise (· ≤ ·)) by rw [eks, map_keyD, eqP_ints, sort_eq hp hs]]
        simp only [OQ_some, blD_bl]
        rw [esk] at h
        cases e2 : decide (is.Pairwise (· ≤ ·)) with
        | false => simp only [e2, Bool.false_and, Bool.not_false, if_true] at h ⊢; exact h
        | true =>
          simp only [e2, Bool.true_and, Bool.not_true, if_false, Bool.false_eq_true, intD, OQ_some, slD] at h ⊢
          have ez : neD (.lst (cutL (ks.map keyD) none (some 1))) (.lst [.int 0]) = some (!zeroK ks) := by
            rw [eks, map_keyD]
            cases is with
            | nil =>
              show neD (.lst (([] : List Int).map D.int)) (.lst ([(0 : Int)].map D.int)) = _
              rw [neD_ok (sh_ints []) (sh_ints [0]), eqP_ints]; rfl
            | cons i is =>
              rw [List.map_cons, take1]
              show neD (.lst ([i].map D.int)) (.lst ([(0 : Int)].map D.int)) = _
              rw [neD_ok (sh_ints [i]) (sh_ints [0]), eqP_ints]
              simp only [List.map_cons, zeroK]
              by_cases h0 : i = 0
              · subst h0; rfl
              · simp [h0]
          refine ⟨show 1 ≤ 16777216 by decide, ?_⟩
          rw [ez]
          simp only [OQ_some]
          cases e3 : zeroK ks with
          | false => simp only [e3, Bool.false_and, Bool.not_false, if_true] at h ⊢; exact h
          | true =>
            simp only [e3, Bool.true_and, Bool.not_true, if_false, Bool.false_eq_true, valsD, OQ_some] at h ⊢
            refine ⟨show _ ≤ 16777216 by omega, lc_map (f := fun d => .bl (isTupD d)) _ (fun d hm => ⟨_, rfl, fun Q hq => ?_⟩) ?_⟩
            · simp only [setT, List.map_cons, List.map_nil, List.cons_append, List.nil_append, List.append_nil, List.length_cons, List.length_nil, Nat.zero_add, Nat.reduceAdd, Nat.reduceSub, List.replicate_succ, List.replicate_zero, List.getD_cons_zero, List.getD_cons_succ, List.set_cons_zero, List.set_cons_succ, OQ_some, wipeD]
              rw [isi_tup (hds d hm)]
              exact hq
            · rw [allD_map]
              simp only [OQ_some, blD_bl]
              cases e4 : ds.all isTupD with
              | false => simp only [e4, Bool.false_and, Bool.not_false, if_true] at h ⊢; exact h
              | true =>
                have hg : ¬ (2000 : Int) < (ks.length : Int) := by omega
                simp only [e4, Bool.true_and, Bool.not_true, if_false, Bool.false_eq_true, lenD, OQ_some, gtD, ordD, hg, decide_false] at h ⊢
                refine ⟨show _ ≤ 16777216 by omega, lc_map (f := fun d => .int (rowLen d)) _ (fun d hm => ⟨_, rfl, fun Q hq => ?_⟩) ?_⟩
                · simp only [setT, List.map_cons, List.map_nil, List.cons_append, List.nil_append, List.append_nil, List.length_cons, List.length_nil, Nat.zero_add, Nat.reduceAdd, Nat.reduceSub, List.replicate_succ, List.replicate_zero, List.getD_cons_zero, List.getD_cons_succ, List.set_cons_zero, List.set_cons_succ, OQ_some, wipeD]
                  have := List.all_eq_true.mp e4 d hm
                  cases d with
                  | tup es => exact hq
                  | _ => cases this
                · have es : sumD [.lst (ds.map fun d => .int (rowLen d))] = some (.int (sumLen ds)) := by
                    show (intsD _).map _ = _
                    rw [intsD_map]; rfl
                  rw [es]
                  simp only [OQ_some]
                  by_cases h5 : sumLen ds ≤ 2000
                  · have h5' : ¬ (2000 : Int) < sumLen ds := by omega
                    simp only [h5, h5', decide_true, decide_false, if_false, Bool.false_eq_true, Bool.true_and, itemsD, OQ_some] at h ⊢
                    refine lc2_bls (f := rowOf) (g := signOf ks) (m := 2000) _ 0 _ (fun d hm => ?_) ?_ ?_
                    · obtain ⟨⟨k, row⟩, hm2, rfl⟩ := List.mem_map.mp hm
                      have hrow := (List.of_mem_zip hm2).2
                      have hkey := List.all_eq_true.mp e (keyD k) (List.mem_map.mpr ⟨k, (List.of_mem_zip hm2).1, rfl⟩)
                      have ht := List.all_eq_true.mp e4 row hrow
                      have hrl := row_len hrow e4
                      cases row with
                      | tup rs =>
                        cases k with
                        | inr x => cases hkey
                        | inl own =>
                          refine ⟨?_, _, rfl, fun Q hq => ?_, fun y hy => ⟨_, rfl, fun Q hq => ?_⟩⟩
                          · simp only [rowLen] at hrl
                            simp only [rowOf]
                            omega
                          · simp only [wipeD, List.map_cons, List.map_nil, List.cons_append, List.nil_append, List.append_nil, List.length_cons, List.length_nil, Nat.zero_add, Nat.reduceAdd, Nat.reduceSub, List.replicate_succ, List.replicate_zero, List.getD_cons_zero, List.getD_cons_succ, List.set_cons_zero, List.set_cons_succ, OQ_some, seqD, szD, OQ_some]
                            exact fun _ => hq
                          · simp only [wipeD, List.map_cons, List.map_nil, List.cons_append, List.nil_append, List.append_nil, List.length_cons, List.length_nil, Nat.zero_add, Nat.reduceAdd, Nat.reduceSub, List.replicate_succ, List.replicate_zero, List.getD_cons_zero, List.getD_cons_succ, List.set_cons_zero, List.set_cons_succ, OQ_some]
                            simp only [rowOf] at hy
                            exact ⟨trivial, y, own, ks, ds, rfl, ok_tup (hds _ hrow) y hy, hq⟩
                      | _ => cases ht
                    · rw [List.length_map, List.length_zip]
                      show 0 + (min ks.length ds.length) * 2000 ≤ 16777216
                      have : min ks.length ds.length ≤ 63 := by omega
                      omega
                    · rw [allD_bls]
                      rw [show rowsR ks ks ds = ((itemsOf ks ds).flatMap fun d => (rowOf d).map (signOf ks d)).all id by
                        have := rowsR_eq ks is ds (by rw [hlen, eks, List.length_map]) e4
                        rw [← eks] at this; exact this] at h
                      refine ⟨?_, h⟩
                      rw [List.length_map]
                      refine Nat.le_trans (flat_len_leX (m := 2000) _ fun d hm => ?_) ?_
                      · obtain ⟨⟨k, row⟩, hm2, rfl⟩ := List.mem_map.mp hm
                        have hrow := (List.of_mem_zip hm2).2
                        have hrl := row_len hrow e4
                        rw [List.length_map]
                        cases row with
                        | tup rs =>
                          simp only [rowLen] at hrl
                          simp only [rowOf]
                          omega
                        | _ => simp [rowOf]
                      · rw [List.length_map, List.length_zip]
                        show (min ks.length ds.length) * 2000 ≤ 16777216
                        have : min ks.length ds.length ≤ 63 := by omega
                        omega
                  · have h5' : (2000 : Int) < sumLen ds := by omega
                    simp only [h5, h5', decide_true, decide_false, if_true, Bool.false_and] at h ⊢
                    exact h
  | _ => simp only [isDct, Bool.not_false, if_true] at h ⊢; exact h
end
end G

set_option Elab.async false
set_option linter.all false
set_option maxRecDepth 100000
set_option maxHeartbeats 4000000
namespace G
open PySem PySem.Spec PyProof.Rows L2
/-! ### the law's own defs -/
def takeF : MF Dr := ⟨fun ds s Q => ∃ a xs b, ds = [.ref a, .int b] ∧ s = some (a, xs) ∧ 0 < b ∧ ∀ i xs', 0 ≤ i → i < b → Q (.int i) (some (a, xs')), fun h ⟨a, xs, b, e1, e2, e3, q⟩ => ⟨a, xs, b, e1, e2, e3, fun i xs' h0 h1 => h _ _ (q i xs' h0 h1)⟩⟩
def pickF : MF Dr := ⟨fun ds s Q => ∃ a xs es, ds = [.ref a, .lst es] ∧ s = some (a, xs) ∧ es ≠ [] ∧ ∀ d ∈ es, ∀ xs', Q d (some (a, xs')), fun h ⟨a, xs, b, e1, e2, e3, q⟩ => ⟨a, xs, b, e1, e2, e3, fun i hi xs' => h _ _ (q i hi xs')⟩⟩
def drawF (C : D → Prop) : MF Dr := ⟨fun ds s Q => ∃ a xs, ds = [.ref a] ∧ s = some (a, xs) ∧ ∀ d, C d → ∀ xs', Q d (some (a, xs')), fun h ⟨a, xs, e1, e2, q⟩ => ⟨a, xs, e1, e2, fun i hi xs' => h _ _ (q i hi xs')⟩⟩
def isWordI : D → Prop
  | .int i => 0 ≤ i ∧ i ≤ 65535
  | _ => False
def isNameS : D → Prop
  | .str x => nameS x = true ∧ ok (.str x)
  | _ => False
theorem word_of {i : Int} (h0 : 0 ≤ i) (h1 : i ≤ 65535) : isWordI (.int i) := ⟨h0, h1⟩
theorem name_of {x : Str} (h0 : nameS x = true) (h1 : ok (.str x)) : isNameS (.str x) := ⟨h0, h1⟩
def tellsF {S : Type} (f0 : Addr) (pre : D → Prop) (p : D → Bool) : MF S := ⟨fun ds s Q => ∃ r wr, ds = [.ref f0, .lst r, .lst wr] ∧ (∀ d ∈ r, pre d ∧ p d = true) ∧ (∀ d ∈ wr, pre d ∧ p d = false) ∧ Q (.bl true) s, fun h ⟨r, wr, a, b, c, q⟩ => ⟨r, wr, a, b, c, h _ _ q⟩⟩
theorem drD_some (a : Addr) (xs : List Int) : drD (some (a, xs)) (.ref a) = some (a, xs) := by simp [drD]
def tblOf {S : Type} (f0 : Addr) (m : MF S) : Addr → Option (MF S) := fun a => if a = f0 then some m else none
theorem tblOf_held {S : Type} {P : Program} {w : World} {K : PySem.W.Frag} {mg : Str → Option Value} {base : Heap} {W : Wd S} {k n : Nat} {f0 : Addr} {m : MF S} (h : Held P w K mg base k f0 (spG K W n m)) : ∀ f m', tblOf f0 m f = some m' → Held P w K mg base k f (spG K W n m') := by
  intro f m' e
  unfold tblOf at e
  split at e
  · rename_i ef; subst ef; cases e; exact h
  · cases e
theorem tblOf_self {S : Type} (f0 : Addr) (m : MF S) : tblOf f0 m f0 = some m := if_pos rfl
theorem filter_nil {α : Type} {p : α → Bool} : ∀ {l : List α}, (∀ a ∈ l, p a = false) → l.filter p = []
  | [], _ => rfl
  | a :: l, h => by
    rw [List.filter_cons_of_neg (by rw [h a List.mem_cons_self]; decide)]
    exact filter_nil fun b hb => h b (List.mem_cons_of_mem _ hb)
section
variable {S : Type} {P : Program} {w : World} {K : PySem.W.Frag} {mg : Str → Option Value} {base : Heap} {W : Wd S}
theorem c__law_take (T : Txt K w mg) : Cal P w K mg base WD 1 "_law_take" 2 (takeF) := by
  obtain ⟨fa, fd, F, hg, b⟩ := T.d__law_take.ex
  refine cal_mk F hg b sc__law_take rfl (fun cdv A outer s H E hr => (b_cons (s_ite (t_eq hr.units (g_drLen 0 T.b.len) g_int) (b_one (s_ret g_int)) b_nil) (b_one (s_ret (g_mod (g_toInt T.b.int bb_int (a_cons (g_drPop 0) a_nil)) (g_var 1)))))) ?_
  intro ds s Q hl h
  obtain ⟨a, xs, b, rfl, rfl, hb, h⟩ := h
  simp only [MS.ret, MS.retN, MS.ite, MS.seq, MS.nil, MS.drop, MS.set, MS.asg, MS.par, MS.par3, MS.no, MS.for, MS.aug, ME.var, ME.c, ME.op1, ME.op2, ME.of, ME.ite, ME.chain, MT.op2, MT.op1, MT.of, MT.and, MT.or, MT.not, MT.chain, MA.nil, MA.cons, ME.tup, ME.lst, ME.fn, ME.call, ME.lc, ME.sl, MO.no, MO.yes, MI.seq, MI.of, MI.ofA, ME.disp, ME.callA, ME.callR, ME.dc, ME.lc2, ME.sorted, List.map_cons, List.map_nil, List.cons_append, List.nil_append, List.append_nil, List.length_cons, List.length_nil, Nat.zero_add, Nat.reduceAdd, Nat.reduceSub, List.replicate_succ, List.replicate_zero, List.getD_cons_zero, List.getD_cons_succ, List.set_cons_zero, List.set_cons_succ, OQ_some, ME.dlen, ME.dpop, drD_some, eqD_zero]
  cases xs with
  | nil => simp only [List.length_nil]; exact h 0 _ (by omega) (by omega)
  | cons x xs =>
    have e0 : ¬ (((x :: xs).length : Nat) : Int) = 0 := by simp; omega
    simp only [e0, decide_false, if_false, Bool.false_eq_true]
    rw [List.getLast?_cons]
    simp only [OQ_some, toIntD, iiD, if_pos hb, Option.map_some]
    exact h _ _ (Int.emod_nonneg _ (by omega)) (Int.emod_lt_of_pos _ hb)
theorem c__law_pick (T : Txt K w mg) : Cal P w K mg base WD 2 "_law_pick" 2 (pickF) := by
  obtain ⟨fa, fd, F, hg, b⟩ := T.d__law_pick.ex
  refine cal_mk F hg b sc__law_pick rfl (fun cdv A outer s H E hr => (b_one (s_ret (g_ix (hu1 hr) (g_var 1) (g_call (c__law_take T) hr (by decide) (a_cons (g_var 0) (a_cons (g_len T.b.len (a_cons (g_var 1) a_nil)) a_nil))))))) ?_
  intro ds s Q hl h
  obtain ⟨a, xs, es, rfl, rfl, hne, h⟩ := h
  simp only [MS.ret, MS.retN, MS.ite, MS.seq, MS.nil, MS.drop, MS.set, MS.asg, MS.par, MS.par3, MS.no, MS.for, MS.aug, ME.var, ME.c, ME.op1, ME.op2, ME.of, ME.ite, ME.chain, MT.op2, MT.op1, MT.of, MT.and, MT.or, MT.not, MT.chain, MA.nil, MA.cons, ME.tup, ME.lst, ME.fn, ME.call, ME.lc, ME.sl, MO.no, MO.yes, MI.seq, MI.of, MI.ofA, ME.disp, ME.callA, ME.callR, ME.dc, ME.lc2, ME.sorted, List.map_cons, List.map_nil, List.cons_append, List.nil_append, List.append_nil, List.length_cons, List.length_nil, Nat.zero_add, Nat.reduceAdd, Nat.reduceSub, List.replicate_succ, List.replicate_zero, List.getD_cons_zero, List.getD_cons_succ, List.set_cons_zero, List.set_cons_succ, OQ_some, len_lst]
  have hl : 0 < es.length := List.length_pos_iff.mpr hne
  refine ⟨trivial, a, xs, es.length, rfl, rfl, by omega, fun i xs' h0 h1 => ?_⟩
  have e : ixD (.lst es) (.int i) = some (es[i.toNat]'(by omega)) := by
    show atI es i = _
    unfold atI L2.ixN
    rw [if_pos h0, if_pos h1]
    show es[i.toNat]? = _
    rw [List.getElem?_eq_getElem (by omega)]
  show OQ (ixD (.lst es) (.int i)) _
  rw [e]
  exact h _ (List.getElem_mem _) _
theorem c__law_word (T : Txt K w mg) : Cal P w K mg base WD 3 "_law_word" 1 (drawF isWordI) := by
  obtain ⟨fa, fd, F, hg, b⟩ := T.d__law_word.ex
  refine cal_mk F hg b sc__law_word rfl (fun cdv A outer s H E hr => (b_one (s_ret (g_call (c__law_pick T) hr (by decide) (a_cons (g_var 0) (a_cons (g_lst (a_cons g_int (a_cons g_int (a_cons g_int (a_cons (g_call (c__law_take T) hr (by decide) (a_cons (g_var 0) (a_cons g_int a_nil))) a_nil))))) a_nil)))))) ?_
  intro ds s Q hl h
  obtain ⟨a, xs, rfl, rfl, h⟩ := h
  simp only [MS.ret, MS.retN, MS.ite, MS.seq, MS.nil, MS.drop, MS.set, MS.asg, MS.par, MS.par3, MS.no, MS.for, MS.aug, ME.var, ME.c, ME.op1, ME.op2, ME.of, ME.ite, ME.chain, MT.op2, MT.op1, MT.of, MT.and, MT.or, MT.not, MT.chain, MA.nil, MA.cons, ME.tup, ME.lst, ME.fn, ME.call, ME.lc, ME.sl, MO.no, MO.yes, MI.seq, MI.of, MI.ofA, ME.disp, ME.callA, ME.callR, ME.dc, ME.lc2, ME.sorted, List.map_cons, List.map_nil, List.cons_append, List.nil_append, List.append_nil, List.length_cons, List.length_nil, Nat.zero_add, Nat.reduceAdd, Nat.reduceSub, List.replicate_succ, List.replicate_zero, List.getD_cons_zero, List.getD_cons_succ, List.set_cons_zero, List.set_cons_succ, OQ_some]
  refine ⟨trivial, a, xs, 65536, rfl, rfl, by decide, fun i xs' h0 h1 => ?_⟩
  refine ⟨show 4 ≤ 16777216 by decide, trivial, a, xs', _, rfl, rfl, by simp, fun d hd xs'' => ?_⟩
  simp only [List.mem_cons, List.not_mem_nil, or_false] at hd
  rcases hd with rfl | rfl | rfl | rfl
  · exact h _ (word_of (by omega) (by omega)) _
  · exact h _ (word_of (by omega) (by omega)) _
  · exact h _ (word_of (by omega) (by omega)) _
  · exact h _ (word_of (by omega) (by omega)) _
theorem c__law_name (T : Txt K w mg) : Cal P w K mg base WD 3 "_law_name" 1 (drawF isNameS) := by
  obtain ⟨fa, fd, F, hg, b⟩ := T.d__law_name.ex
  refine cal_mk F hg b sc__law_name rfl (fun cdv A outer s H E hr => (b_one (s_ret (g_call (c__law_pick T) hr (by decide) (a_cons (g_var 0) (a_cons (g_lst (a_cons g_str (a_cons g_str (a_cons g_str (a_cons g_str a_nil))))) a_nil)))))) ?_
  intro ds s Q hl h
  obtain ⟨a, xs, rfl, rfl, h⟩ := h
  simp only [MS.ret, MS.retN, MS.ite, MS.seq, MS.nil, MS.drop, MS.set, MS.asg, MS.par, MS.par3, MS.no, MS.for, MS.aug, ME.var, ME.c, ME.op1, ME.op2, ME.of, ME.ite, ME.chain, MT.op2, MT.op1, MT.of, MT.and, MT.or, MT.not, MT.chain, MA.nil, MA.cons, ME.tup, ME.lst, ME.fn, ME.call, ME.lc, ME.sl, MO.no, MO.yes, MI.seq, MI.of, MI.ofA, ME.disp, ME.callA, ME.callR, ME.dc, ME.lc2, ME.sorted, List.map_cons, List.map_nil, List.cons_append, List.nil_append, List.append_nil, List.length_cons, List.length_nil, Nat.zero_add, Nat.reduceAdd, Nat.reduceSub, List.replicate_succ, List.replicate_zero, List.getD_cons_zero, List.getD_cons_succ, List.set_cons_zero, List.set_cons_succ, OQ_some]
  refine ⟨show 4 ≤ 16777216 by decide, trivial, a, xs, _, rfl, rfl, by simp, fun d hd xs'' => ?_⟩
  simp only [List.mem_cons, List.not_mem_nil, or_false] at hd
  rcases hd with rfl | rfl | rfl | rfl
  · exact h _ (name_of (by decide +kernel) (by decide +kernel)) _
  · exact h _ (name_of (by decide +kernel) (by decide +kernel)) _
  · exact h _ (name_of (by decide +kernel) (by decide +kernel)) _
  · exact h _ (name_of (by decide +kernel) (by decide +kernel)) _
theorem c__law_tells {k : Nat} {f0 : Addr} {pre : D → Prop} {p : D → Bool} (T : Txt K w mg) (hf : Held P w K mg base k f0 (spG K W 1 (pf1 pre p : MF S))) : Cal P w K mg base W (k + 1) "_law_tells" 3 (tellsF f0 pre p : MF S) := by
  obtain ⟨fa, fd, F, hg, b⟩ := T.d__law_tells.ex
  refine cal_mk F hg b sc__law_tells rfl (fun cdv A outer s H E hr => (b_one (s_ret (g_and (g_eq hr.units (g_lc [("value", 3)] rfl sc__law_tells.nd (i_seq (g_var 1)) (blkOk_by (by kernel_rfl)) (fun _ _ _ _ _ => (gt_nm (i := 3) sc__law_tells.nd)) (fun _ _ _ _ _ => (pts1 (t_isNot (g_callA 0 (tblOf f0 (pf1 pre p : MF S)) (tblOf_held hf) hr (a_cons (g_var 3) a_nil)) g_bl))) (fun _ _ _ _ _ => (g_var 3))) (g_lst a_nil)) (g_one (g_eq hr.units (g_lc [("value", 3)] rfl sc__law_tells.nd (i_seq (g_var 2)) (blkOk_by (by kernel_rfl)) (fun _ _ _ _ _ => (gt_nm (i := 3) sc__law_tells.nd)) (fun _ _ _ _ _ => (pts1 (t_isNot (g_callA 0 (tblOf f0 (pf1 pre p : MF S)) (tblOf_held hf) hr (a_cons (g_var 3) a_nil)) g_bl))) (fun _ _ _ _ _ => (g_var 3))) (g_lst a_nil))))))) ?_
  intro ds s Q hl h
  obtain ⟨r, wr, rfl, h1, h2, h⟩ := h
  simp only [MS.ret, MS.retN, MS.ite, MS.seq, MS.nil, MS.drop, MS.set, MS.asg, MS.par, MS.par3, MS.no, MS.for, MS.aug, ME.var, ME.c, ME.op1, ME.op2, ME.of, ME.ite, ME.chain, MT.op2, MT.op1, MT.of, MT.and, MT.or, MT.not, MT.chain, MA.nil, MA.cons, ME.tup, ME.lst, ME.fn, ME.call, ME.lc, ME.sl, MO.no, MO.yes, MI.seq, MI.of, MI.ofA, ME.disp, ME.callA, ME.callR, ME.dc, ME.lc2, ME.sorted, List.map_cons, List.map_nil, List.cons_append, List.nil_append, List.append_nil, List.length_cons, List.length_nil, Nat.zero_add, Nat.reduceAdd, Nat.reduceSub, List.replicate_succ, List.replicate_zero, List.getD_cons_zero, List.getD_cons_succ, List.set_cons_zero, List.set_cons_succ, OQ_some, seqD, szD, refD, tblOf_self]
  intro hz
  have hr : ∀ b, eqD (.lst []) (.lst []) = some b → b = true := fun b e => by
    have : eqD (.lst []) (.lst []) = some true := by decide +kernel
    rw [this] at e; cases e; rfl
  have e0 : eqD (.lst []) (.lst []) = some true := by decide +kernel
  refine ⟨hz, lc_filter (p := fun d => !(p d == true)) (f := fun d => d) r (fun d hm => ⟨_, rfl, fun Q hq => ?_, fun hn Q hq => ?_⟩) ?_⟩
  · simp only [setT, List.map_cons, List.map_nil, List.cons_append, List.nil_append, List.append_nil, List.length_cons, List.length_nil, Nat.zero_add, Nat.reduceAdd, Nat.reduceSub, List.replicate_succ, List.replicate_zero, List.getD_cons_zero, List.getD_cons_succ, List.set_cons_zero, List.set_cons_succ, OQ_some, wipeD, refD, tblOf_self]
    exact ⟨trivial, (h1 d hm).1, hq⟩
  · rw [(h1 d hm).2] at hn; cases hn
  · rw [filter_nil fun d hm => by rw [(h1 d hm).2]; rfl]
    simp only [List.map_nil, e0, OQ_some, blD_bl, if_true]
    refine ⟨Nat.zero_le _, fun hz2 => ⟨hz2, ?_⟩⟩
    refine lc_filter (p := fun d => !(p d == false)) (f := fun d => d) wr (fun d hm => ⟨_, rfl, fun Q hq => ?_, fun hn Q hq => ?_⟩) ?_
    · simp only [setT, List.map_cons, List.map_nil, List.cons_append, List.nil_append, List.append_nil, List.length_cons, List.length_nil, Nat.zero_add, Nat.reduceAdd, Nat.reduceSub, List.replicate_succ, List.replicate_zero, List.getD_cons_zero, List.getD_cons_succ, List.set_cons_zero, List.set_cons_succ, OQ_some, wipeD, refD, tblOf_self]
      exact ⟨trivial, (h2 d hm).1, hq⟩
    · rw [(h2 d hm).2] at hn; cases hn
    · rw [filter_nil fun d hm => by rw [(h2 d hm).2]; rfl]
      simp only [List.map_nil, e0, OQ_some]
      exact ⟨Nat.zero_le _, h⟩
end
end G

set_option Elab.async false
set_option linter.all false
set_option maxRecDepth 100000
set_option maxHeartbeats 4000000
namespace G
open PySem PySem.Spec PyProof.Rows L2
theorem word_ex {d : D} (h : isWordI d) : ∃ i : Int, d = .int i ∧ 0 ≤ i ∧ i ≤ 65535 := by
  cases d with
  | int i => exact ⟨i, rfl, h⟩
  | _ => exact h.elim
theorem name_ex {d : D} (h : isNameS d) : ∃ x, d = .str x ∧ nameS x = true ∧ ok (.str x) := by
  cases d with
  | str x => exact ⟨x, rfl, h⟩
  | _ => exact h.elim
theorem lc_draw {C : D → Prop} {a : Addr} {t : Tgt} {te : ME Dr} {δ : En} : ∀ (ds : List D) (xs : List Int) (k : List D → Dr → Prop), (∀ d ∈ ds, ∃ δ1, setT t d δ = some δ1 ∧ ∀ xs Q, (∀ y, C y → ∀ xs', Q y (some (a, xs'))) → te.run δ1 (some (a, xs)) Q) →
    (∀ r xs', r.length = ds.length → (∀ y ∈ r, C y) → k r (some (a, xs'))) → lcRun t MT.yes te δ ds (some (a, xs)) k
  | [], xs, k, _, hk => hk [] xs rfl (by simp)
  | d :: ds, xs, k, hd, hk => by
    obtain ⟨δ1, e, h1⟩ := hd d List.mem_cons_self
    unfold lcRun
    rw [e]
    refine yes_if (h1 _ _ fun y hy xs' => lc_draw ds xs' (fun r s3 => k (y :: r) s3) (fun d' hd' => hd d' (List.mem_cons_of_mem _ hd')) fun r xs'' hl hc => hk _ _ (by simp [hl]) ?_)
    intro z hz
    rcases List.mem_cons.mp hz with rfl | hz
    · exact hy
    · exact hc z hz
def CallsOk (calls : List D) : Prop := (∀ d ∈ calls, gd 20 d = true ∧ callD d = true) ∧ calls.length = 17 ∧ ∃ (i : Int) (c1 m n kind r : D) (rest : List D), calls = .tup [.str "read", .int i] :: c1 :: .tup [.str "map", m, n, kind, r] :: rest ∧ kindD kind = true ∧ gd 19 kind = true
def callsF : MF Dr := ⟨fun ds s Q => ∃ a xs, ds = [.ref a] ∧ s = some (a, xs) ∧ ∀ cs, CallsOk cs → ∀ xs', Q (.lst cs) (some (a, xs')), fun h ⟨a, xs, e1, e2, q⟩ => ⟨a, xs, e1, e2, fun i hi xs' => h _ _ (q i hi xs')⟩⟩
theorem dr_word {a : Addr} {xs : List Int} {Q : D → Dr → Prop} (h : ∀ (i : Int) xs', 0 ≤ i → i ≤ 65535 → Q (.int i) (some (a, xs'))) : (drawF isWordI).run [.ref a] (some (a, xs)) Q :=
  ⟨a, xs, rfl, rfl, fun d hd xs' => by obtain ⟨i, rfl, h0, h1⟩ := word_ex hd; exact h i xs' h0 h1⟩
theorem dr_name {a : Addr} {xs : List Int} {Q : D → Dr → Prop} (h : ∀ (x : Str) xs', nameS x = true → ok (.str x) → Q (.str x) (some (a, xs'))) : (drawF isNameS).run [.ref a] (some (a, xs)) Q :=
  ⟨a, xs, rfl, rfl, fun d hd xs' => by obtain ⟨i, rfl, h0, h1⟩ := name_ex hd; exact h i xs' h0 h1⟩
theorem dr_take {a : Addr} {xs : List Int} {b : Int} {Q : D → Dr → Prop} (hb : 0 < b) (h : ∀ (i : Int) xs', 0 ≤ i → i < b → Q (.int i) (some (a, xs'))) : takeF.run [.ref a, .int b] (some (a, xs)) Q := ⟨a, xs, b, rfl, rfl, hb, h⟩
theorem dr_pick {a : Addr} {xs : List Int} {e : D} {es : List D} {Q : D → Dr → Prop} (h : ∀ d ∈ e :: es, ∀ xs', Q d (some (a, xs'))) : pickF.run [.ref a, .lst (e :: es)] (some (a, xs)) Q := ⟨a, xs, e :: es, rfl, rfl, by simp, h⟩
def okS (x : Str) : Bool := PyData.strOk x && decide (x.length ≤ 16777216)
theorem gd_str (n : Nat) (x : Str) : gd n (.str x) = okS x := by cases n <;> rfl
theorem gd_int (n : Nat) (i : Int) : gd n (.int i) = true := by cases n <;> rfl
theorem gd_bl (n : Nat) (i : Bool) : gd n (.bl i) = true := by cases n <;> rfl
theorem gd_non (n : Nat) : gd n .non = true := by cases n <;> rfl
theorem gd_tup (n : Nat) (ds : List D) : gd (n + 1) (.tup ds) = gds n ds := rfl
theorem gd_lst (n : Nat) (ds : List D) : gd (n + 1) (.lst ds) = gds n ds := rfl
theorem gds_nil (n : Nat) : gds n [] = true := by cases n <;> rfl
theorem gds_cons (n : Nat) (d : D) (ds : List D) : gds n (d :: ds) = (gd n d && gds n ds) := by cases n <;> rfl
theorem ok_okS {x : Str} (h : ok (.str x)) : okS x = true := h
theorem okl_0 : okS (Str.ofString "a") = true := by decide +kernel
theorem okl_1 : okS (Str.ofString "abcdefg1") = true := by decide +kernel
theorem okl_2 : okS (Str.ofString "abcdefg2") = true := by decide +kernel
theorem okl_3 : okS (Str.ofString "z9") = true := by decide +kernel
theorem okl_4 : okS (Str.ofString "read") = true := by decide +kernel
theorem okl_5 : okS (Str.ofString "write") = true := by decide +kernel
theorem okl_6 : okS (Str.ofString "map") = true := by decide +kernel
theorem okl_7 : okS (Str.ofString "unmap") = true := by decide +kernel
theorem okl_8 : okS (Str.ofString "rights") = true := by decide +kernel
theorem okl_9 : okS (Str.ofString "fork") = true := by decide +kernel
theorem okl_10 : okS (Str.ofString "exit") = true := by decide +kernel
theorem okl_11 : okS (Str.ofString "make") = true := by decide +kernel
theorem okl_12 : okS (Str.ofString "cut") = true := by decide +kernel
theorem okl_13 : okS (Str.ofString "r") = true := by decide +kernel
theorem okl_14 : okS (Str.ofString "rw") = true := by decide +kernel
theorem okl_15 : okS (Str.ofString "drop") = true := by decide +kernel
theorem okl_16 : okS (Str.ofString "get") = true := by decide +kernel
theorem okl_17 : okS (Str.ofString "put") = true := by decide +kernel
theorem okl_18 : okS (Str.ofString "sync") = true := by decide +kernel
theorem okl_19 : okS (Str.ofString "kept") = true := by decide +kernel
theorem okl_20 : okS (Str.ofString "post") = true := by decide +kernel
theorem okl_21 : okS (Str.ofString "look") = true := by decide +kernel
theorem okl_22 : okS (Str.ofString "own") = true := by decide +kernel
theorem okl_23 : okS (Str.ofString "common") = true := by decide +kernel
theorem okl_24 : okS (Str.ofString "file") = true := by decide +kernel
theorem okl_25 : okS (Str.ofString "copy") = true := by decide +kernel
theorem okl_26 : okS (Str.ofString "start") = true := by decide +kernel
theorem okl_27 : okS (Str.ofString "take") = true := by decide +kernel
theorem okl_28 : okS (Str.ofString "settle") = true := by decide +kernel
theorem okl_29 : okS (Str.ofString "age") = true := by decide +kernel
theorem okl_30 : okS (Str.ofString "device") = true := by decide +kernel
theorem okl_31 : okS (Str.ofString "crash") = true := by decide +kernel
theorem okl_32 : okS (Str.ofString "A") = true := by decide +kernel
theorem okl_33 : okS (Str.ofString "do") = true := by decide +kernel
theorem okl_34 : okS (Str.ofString "press") = true := by decide +kernel
theorem okl_35 : okS (Str.ofString "abcdefgh") = true := by decide +kernel
theorem okl_36 : okS (Str.ofString "") = true := by decide +kernel
theorem okl_37 : okS (Str.ofString "9a") = true := by decide +kernel
theorem okl_38 : okS (Str.ofString "_a") = true := by decide +kernel
theorem okl_39 : okS (Str.ofString "a_b") = true := by decide +kernel
theorem okl_40 : okS (Str.ofString "a b") = true := by decide +kernel
theorem okl_41 : okS (Str.ofString "1") = true := by decide +kernel
theorem okl_42 : okS (Str.ofString "w") = true := by decide +kernel
theorem okl_43 : okS (Str.ofString "x") = true := by decide +kernel
theorem okl_44 : okS (Str.ofString "B") = true := by decide +kernel
theorem okl_45 : okS (Str.ofString "f") = true := by decide +kernel
theorem okl_46 : okS (Str.ofString "walk") = true := by decide +kernel
theorem okl_47 : okS (Str.ofString "0") = true := by decide +kernel
theorem okl_48 : okS (Str.ofString "jump") = true := by decide +kernel
theorem okl_49 : okS (Str.ofString "start a") = true := by decide +kernel
theorem okl_50 : okS (Str.ofString "F") = true := by decide +kernel
theorem okl_51 : okS (Str.ofString "move") = true := by decide +kernel
theorem okl_52 : okS (Str.ofString "merge") = true := by decide +kernel
theorem okl_53 : okS (Str.ofString "join") = true := by decide +kernel
theorem okl_54 : okS (Str.ofString "split") = true := by decide +kernel
theorem okl_55 : okS (Str.ofString "fence") = true := by decide +kernel
theorem okl_56 : okS (Str.ofString "swap") = true := by decide +kernel
theorem okl_57 : okS (Str.ofString "y") = true := by decide +kernel
theorem okl_58 : okS (Str.ofString "z") = true := by decide +kernel
theorem okl_59 : okS (Str.ofString "X") = true := by decide +kernel
theorem okl_60 : okS (Str.ofString "page") = true := by decide +kernel
theorem okl_61 : okS (Str.ofString "keep") = true := by decide +kernel
theorem okl_62 : okS (Str.ofString "rule") = true := by decide +kernel
theorem okl_63 : okS (Str.ofString "row") = true := by decide +kernel
theorem okl_64 : okS (Str.ofString "sum") = true := by decide +kernel
theorem okl_65 : okS (Str.ofString "less") = true := by decide +kernel
theorem okl_66 : okS (Str.ofString "times") = true := by decide +kernel
theorem okl_67 : okS (Str.ofString "lit") = true := by decide +kernel
theorem okl_68 : okS (Str.ofString "half") = true := by decide +kernel
theorem okl_69 : okS (Str.ofString "at") = true := by decide +kernel
theorem okl_70 : okS (Str.ofString "set") = true := by decide +kernel
theorem okl_71 : okS (Str.ofString "if") = true := by decide +kernel
theorem okl_72 : okS (Str.ofString "stop") = true := by decide +kernel
theorem okl_73 : okS (Str.ofString "same") = true := by decide +kernel
theorem okl_74 : okS (Str.ofString "below") = true := by decide +kernel
theorem okl_75 : okS (Str.ofString "not") = true := by decide +kernel
theorem okl_76 : okS (Str.ofString "both") = true := by decide +kernel
theorem okl_77 : okS (Str.ofString "call") = true := by decide +kernel
theorem okl_78 : okS (Str.ofString "while") = true := by decide +kernel
theorem okl_79 : okS (Str.ofString "go") = true := by decide +kernel
theorem okl_80 : okS (Str.ofString "none") = true := by decide +kernel
theorem okl_81 : okS (Str.ofString "over") = true := by decide +kernel
theorem okl_82 : okS (Str.ofString "above") = true := by decide +kernel
theorem cd_read (a : D) : callD (.tup [.str "read", a]) = (wordD a && true) := by kernel_rfl
theorem cd_write (a b : D) : callD (.tup [.str "write", a, b]) = (wordD a && (wordD b && true)) := by kernel_rfl
theorem cd_map (a b c d : D) : callD (.tup [.str "map", a, b, c, d]) = ((pageD a || isNon a) && (withinD 1 4096 b && (kindD c && (rightsD d && true)))) := by kernel_rfl
theorem cd_unmap (a b : D) : callD (.tup [.str "unmap", a, b]) = (pageD a && (withinD 1 4096 b && true)) := by kernel_rfl
theorem cd_rights (a b c : D) : callD (.tup [.str "rights", a, b, c]) = (pageD a && (withinD 1 4096 b && (rightsD c && true))) := by kernel_rfl
theorem cd_fork (a : D) : callD (.tup [.str "fork", a]) = (nameD a && true) := by kernel_rfl
theorem cd_exit : callD (.tup [.str "exit"]) = true := by kernel_rfl
theorem cd_make (a : D) : callD (.tup [.str "make", a]) = (nameD a && true) := by kernel_rfl
theorem cd_cut (a b : D) : callD (.tup [.str "cut", a, b]) = (nameD a && (withinD 0 65535 b && true)) := by kernel_rfl
theorem cd_drop (a : D) : callD (.tup [.str "drop", a]) = (nameD a && true) := by kernel_rfl
theorem cd_get (a b c : D) : callD (.tup [.str "get", a, b, c]) = (nameD a && (withinD 0 1536 b && (withinD 0 1536 c && true))) := by kernel_rfl
theorem cd_put (a b c : D) : callD (.tup [.str "put", a, b, c]) = (nameD a && (withinD 0 1536 b && (lengthD 0 1536 c && true))) := by kernel_rfl
theorem cd_sync : callD (.tup [.str "sync"]) = true := by kernel_rfl
theorem cd_kept (a : D) : callD (.tup [.str "kept", a]) = (countD a && true) := by kernel_rfl
theorem cd_post (a b : D) : callD (.tup [.str "post", a, b]) = (wordD a && (lengthD 1 16 b && true)) := by kernel_rfl
theorem cd_look (a : D) : callD (.tup [.str "look", a]) = (countD a && true) := by kernel_rfl
theorem wi_int {l h i : Int} (h0 : l ≤ i) (h1 : i ≤ h) : withinD l h (.int i) = true := by simp [withinD, h0, h1]
theorem words_ok {ws : List D} (h : ∀ y ∈ ws, isWordI y) : (∀ n, gds n ws = true) ∧ ws.all (withinD 0 65535) = true := by
  refine ⟨fun n => gds_all.mpr fun d hd => ?_, List.all_eq_true.mpr fun d hd => ?_⟩
  · obtain ⟨i, rfl, _⟩ := word_ex (h d hd); exact gd_int _ _
  · obtain ⟨i, rfl, h0, h1⟩ := word_ex (h d hd)
    exact wi_int h0 h1
theorem words_len {ws : List D} {lo hi : Int} (h : ∀ y ∈ ws, isWordI y) (h0 : lo ≤ ws.length) (h1 : (ws.length : Int) ≤ hi) : lengthD lo hi (.tup ws) = true := by
  simp only [lengthD, (words_ok h).2, h0, h1, decide_true, Bool.and_self]
section
variable {S : Type} {P : Program} {w : World} {K : PySem.W.Frag} {mg : Str → Option Value} {base : Heap} {W : Wd S}
theorem c__law_calls (T : Txt K w mg) : Cal P w K mg base WD 4 "_law_calls" 1 (callsF) := by
  obtain ⟨fa, fd, F, hg, b⟩ := T.d__law_calls.ex
  refine cal_mk F hg b sc__law_calls rfl (fun cdv A outer s H E hr => (b_cons (s_asg (g_tup (a_cons (g_call (c__law_word T) hr (by decide) (a_cons (g_var 0) a_nil)) (a_cons (g_call (c__law_word T) hr (by decide) (a_cons (g_var 0) a_nil)) (a_cons (g_call (c__law_pick T) hr (by decide) (a_cons (g_var 0) (a_cons (g_lst (a_cons g_int (a_cons g_int (a_cons (g_call (c__law_take T) hr (by decide) (a_cons (g_var 0) (a_cons g_int a_nil))) a_nil)))) a_nil))) (a_cons (g_call (c__law_pick T) hr (by decide) (a_cons (g_var 0) (a_cons (g_lst (a_cons g_int (a_cons g_int (a_cons (g_add g_int (g_call (c__law_take T) hr (by decide) (a_cons (g_var 0) (a_cons g_int a_nil)))) a_nil)))) a_nil))) (a_cons (g_call (c__law_name T) hr (by decide) (a_cons (g_var 0) a_nil)) (a_cons (g_call (c__law_name T) hr (by decide) (a_cons (g_var 0) a_nil)) a_nil))))))) (gt_tp rfl (gts_cons (gt_nm (i := 3) sc__law_calls.nd) (gts_cons (gt_nm (i := 4) sc__law_calls.nd) (gts_cons (gt_nm (i := 5) sc__law_calls.nd) (gts_cons (gt_nm (i := 6) sc__law_calls.nd) (gts_cons (gt_nm (i := 7) sc__law_calls.nd) (gts_cons (gt_nm (i := 8) sc__law_calls.nd) gts_nil)))))))) (b_cons (s_par3 (i := 9) (j := 10) (l := 11) rfl sc__law_calls.nd (a_cons (g_call (c__law_pick T) hr (by decide) (a_cons (g_var 0) (a_cons (g_lst (a_cons (g_tup (a_cons g_str a_nil)) (a_cons (g_tup (a_cons g_str a_nil)) (a_cons (g_tup (a_cons g_str (a_cons (g_var 7) (a_cons (g_call (c__law_take T) hr (by decide) (a_cons (g_var 0) (a_cons g_int a_nil))) a_nil)))) (a_cons (g_tup (a_cons g_str (a_cons (g_var 7) (a_cons g_int a_nil)))) a_nil))))) a_nil))) (a_cons (g_call (c__law_pick T) hr (by decide) (a_cons (g_var 0) (a_cons (g_lst (a_cons g_str (a_cons g_str a_nil))) a_nil))) (a_cons (g_call (c__law_take T) hr (by decide) (a_cons (g_var 0) (a_cons g_int a_nil))) a_nil)))) (b_cons (s_set (i := 1) sc__law_calls.nd (g_toTup T.b.tuple bb_tuple (a_cons (g_lc [("k", 12)] rfl sc__law_calls.nd (i_rng T.b.range (a_cons (g_add g_int (g_call (c__law_take T) hr (by decide) (a_cons (g_var 0) (a_cons g_int a_nil)))) a_nil)) (blkOk_by (by kernel_rfl)) (fun _ _ _ _ _ => (gt_nm (i := 12) sc__law_calls.nd)) (fun _ _ _ _ _ => pts0) (fun _ _ _ _ _ => (g_call (c__law_word T) hr (by decide) (a_cons (g_var 0) a_nil)))) a_nil))) (b_cons (s_set (i := 2) sc__law_calls.nd (g_lst (a_cons (g_tup (a_cons g_str (a_cons (g_var 3) a_nil))) (a_cons (g_tup (a_cons g_str (a_cons (g_var 3) (a_cons (g_var 4) a_nil)))) (a_cons (g_tup (a_cons g_str (a_cons (g_call (c__law_pick T) hr (by decide) (a_cons (g_var 0) (a_cons (g_lst (a_cons g_non (a_cons (g_var 5) a_nil))) a_nil))) (a_cons (g_var 6) (a_cons (g_var 9) (a_cons (g_var 10) a_nil)))))) (a_cons (g_tup (a_cons g_str (a_cons (g_var 5) (a_cons (g_var 6) a_nil)))) (a_cons (g_tup (a_cons g_str (a_cons (g_var 5) (a_cons (g_var 6) (a_cons (g_var 10) a_nil))))) (a_cons (g_tup (a_cons g_str (a_cons (g_var 7) a_nil))) (a_cons (g_tup (a_cons g_str a_nil)) (a_cons (g_tup (a_cons g_str (a_cons (g_var 7) a_nil))) (a_cons (g_tup (a_cons g_str (a_cons (g_var 7) (a_cons (g_var 11) a_nil)))) a_nil))))))))))) (b_one (s_ret (g_add (g_var 2) (g_lst (a_cons (g_tup (a_cons g_str (a_cons (g_var 7) a_nil))) (a_cons (g_tup (a_cons g_str (a_cons (g_var 7) (a_cons (g_var 11) (a_cons g_int a_nil))))) (a_cons (g_tup (a_cons g_str (a_cons (g_var 8) (a_cons (g_var 11) (a_cons (g_var 1) a_nil))))) (a_cons (g_tup (a_cons g_str (a_cons (g_var 8) (a_cons g_int (a_cons (g_tup a_nil) a_nil))))) (a_cons (g_tup (a_cons g_str a_nil)) (a_cons (g_tup (a_cons g_str (a_cons (g_var 6) a_nil))) (a_cons (g_tup (a_cons g_str (a_cons (g_var 3) (a_cons (g_var 1) a_nil)))) (a_cons (g_tup (a_cons g_str (a_cons (g_var 6) a_nil))) a_nil))))))))))))))))) ?_
  intro ds s Q hl h
  obtain ⟨a, xs, rfl, rfl, h⟩ := h
  simp only [MS.ret, MS.retN, MS.ite, MS.seq, MS.nil, MS.drop, MS.set, MS.asg, MS.par, MS.par3, MS.no, MS.for, MS.aug, ME.var, ME.c, ME.op1, ME.op2, ME.of, ME.ite, ME.chain, MT.op2, MT.op1, MT.of, MT.and, MT.or, MT.not, MT.chain, MA.nil, MA.cons, ME.tup, ME.lst, ME.fn, ME.call, ME.lc, ME.sl, MO.no, MO.yes, MI.seq, MI.of, MI.ofA, ME.disp, ME.callA, ME.callR, ME.dc, ME.lc2, ME.sorted, List.map_cons, List.map_nil, List.cons_append, List.nil_append, List.append_nil, List.length_cons, List.length_nil, Nat.zero_add, Nat.reduceAdd, Nat.reduceSub, List.replicate_succ, List.replicate_zero, List.getD_cons_zero, List.getD_cons_succ, List.set_cons_zero, List.set_cons_succ, OQ_some]
  refine ⟨trivial, dr_word fun va s1 ha0 ha1 => ⟨trivial, dr_word fun vw s2 hw0 hw1 => ⟨trivial, dr_take (by decide) fun p0 s3 hq0 hq1 => ⟨by decide, trivial, dr_pick fun dp hdp s4 => ?_⟩⟩⟩⟩
  obtain ⟨vp, rfl, hp0, hp1⟩ : ∃ i : Int, dp = .int i ∧ 0 ≤ i ∧ i ≤ 4095 := by
    simp only [List.mem_cons, List.not_mem_nil, or_false] at hdp
    rcases hdp with rfl | rfl | rfl
    · exact ⟨_, rfl, by omega, by omega⟩
    · exact ⟨_, rfl, by omega, by omega⟩
    · exact ⟨_, rfl, by omega, by omega⟩
  refine ⟨trivial, dr_take (by decide) fun n0 s5 hm0 hm1 => ?_⟩
  simp only [addD, OQ_some]
  refine ⟨by decide, trivial, dr_pick fun dn hdn s6 => ?_⟩
  obtain ⟨vn, rfl, hn0, hn1⟩ : ∃ i : Int, dn = .int i ∧ 1 ≤ i ∧ i ≤ 4096 := by
    simp only [List.mem_cons, List.not_mem_nil, or_false] at hdn
    rcases hdn with rfl | rfl | rfl
    · exact ⟨_, rfl, by omega, by omega⟩
    · exact ⟨_, rfl, by omega, by omega⟩
    · exact ⟨_, rfl, by omega, by omega⟩
  refine ⟨trivial, dr_name fun x s7 hx0 hx1 => ⟨trivial, dr_name fun y s8 hy0 hy1 => ⟨by decide, ?_⟩⟩⟩
  simp only [setT, setTs, Option.bind_some, List.map_cons, List.map_nil, List.cons_append, List.nil_append, List.append_nil, List.length_cons, List.length_nil, Nat.zero_add, Nat.reduceAdd, Nat.reduceSub, List.replicate_succ, List.replicate_zero, List.getD_cons_zero, List.getD_cons_succ, List.set_cons_zero, List.set_cons_succ, OQ_some]
  refine ⟨by decide, by decide, trivial, dr_take (by decide) fun k0 s9 hk0 hk1 => ⟨by decide, by decide, by decide, trivial, dr_pick fun kind hkind s10 => ?_⟩⟩
  have hxok := ok_okS hx1
  have hyok := ok_okS hy1
  have hkd : kindD kind = true ∧ gd 19 kind = true := by
    have hnx : nameD (.str x) = true := hx0
    simp only [List.mem_cons, List.not_mem_nil, or_false] at hkind
    rcases hkind with rfl | rfl | rfl | rfl
    · exact ⟨by decide +kernel, by decide +kernel⟩
    · exact ⟨by decide +kernel, by decide +kernel⟩
    · refine ⟨?_, by simp only [ok, gd_str, gd_int, gd_bl, gd_non, gd_tup, gd_lst, gds_nil, gds_cons, Bool.and_true, Bool.true_and, okl_0, okl_1, okl_2, okl_3, okl_4, okl_5, okl_6, okl_7, okl_8, okl_9, okl_10, okl_11, okl_12, okl_13, okl_14, okl_15, okl_16, okl_17, okl_18, okl_19, okl_20, okl_21, okl_22, okl_23, okl_24, okl_25, okl_26, okl_27, okl_28, okl_29, okl_30, okl_31, okl_32, okl_33, okl_34, okl_35, okl_36, okl_37, okl_38, okl_39, okl_40, okl_41, okl_42, okl_43, okl_44, okl_45, okl_46, okl_47, okl_48, okl_49, okl_50, okl_51, okl_52, okl_53, okl_54, okl_55, okl_56, okl_57, okl_58, okl_59, okl_60, okl_61, okl_62, okl_63, okl_64, okl_65, okl_66, okl_67, okl_68, okl_69, okl_70, okl_71, okl_72, okl_73, okl_74, okl_75, okl_76, okl_77, okl_78, okl_79, okl_80, okl_81, okl_82, hxok]⟩
      simp only [kindD, hnx, withinD, hk0, Bool.and_true, decide_true, Bool.true_and]
      rw [decide_eq_true (show k0 ≤ 95 by omega)]
      simp
    · refine ⟨?_, by simp only [ok, gd_str, gd_int, gd_bl, gd_non, gd_tup, gd_lst, gds_nil, gds_cons, Bool.and_true, Bool.true_and, okl_0, okl_1, okl_2, okl_3, okl_4, okl_5, okl_6, okl_7, okl_8, okl_9, okl_10, okl_11, okl_12, okl_13, okl_14, okl_15, okl_16, okl_17, okl_18, okl_19, okl_20, okl_21, okl_22, okl_23, okl_24, okl_25, okl_26, okl_27, okl_28, okl_29, okl_30, okl_31, okl_32, okl_33, okl_34, okl_35, okl_36, okl_37, okl_38, okl_39, okl_40, okl_41, okl_42, okl_43, okl_44, okl_45, okl_46, okl_47, okl_48, okl_49, okl_50, okl_51, okl_52, okl_53, okl_54, okl_55, okl_56, okl_57, okl_58, okl_59, okl_60, okl_61, okl_62, okl_63, okl_64, okl_65, okl_66, okl_67, okl_68, okl_69, okl_70, okl_71, okl_72, okl_73, okl_74, okl_75, okl_76, okl_77, okl_78, okl_79, okl_80, okl_81, okl_82, hxok]⟩
      simp only [kindD, hnx, withinD]
      simp
  refine ⟨by decide, trivial, dr_pick fun dr hdr s11 => ⟨trivial, dr_take (by decide) fun sz s12 hz0 hz1 => ⟨trivial, dr_take (by decide) fun nw s13 hnw0 hnw1 => ?_⟩⟩⟩
  have hrt : rightsD dr = true ∧ gd 19 dr = true := by
    simp only [List.mem_cons, List.not_mem_nil, or_false] at hdr
    rcases hdr with rfl | rfl
    · exact ⟨by decide +kernel, by decide +kernel⟩
    · exact ⟨by decide +kernel, by decide +kernel⟩
  simp only [OQ_some, rngD]
  rw [if_pos ⟨by omega, by omega⟩]
  simp only [OQ_some]
  refine ⟨by rw [List.length_map, List.length_range]; show _ ≤ 16777216; omega, lc_draw (C := isWordI) _ _ _ (fun d hd => ⟨_, rfl, fun xs Q hq => ?_⟩) fun ws s14 hlen hws => ?_⟩
  · simp only [wipeD, List.map_cons, List.map_nil, List.cons_append, List.nil_append, List.append_nil, List.length_cons, List.length_nil, Nat.zero_add, Nat.reduceAdd, Nat.reduceSub, List.replicate_succ, List.replicate_zero, List.getD_cons_zero, List.getD_cons_succ, List.set_cons_zero, List.set_cons_succ, OQ_some]
    exact ⟨trivial, dr_word fun i xs' h0 h1 => hq _ (word_of h0 h1) _⟩
  rw [List.length_map, List.length_range] at hlen
  simp only [toTupD, OQ_some]
  refine ⟨by decide, by decide, by decide, trivial, dr_pick fun dm hdm s15 => ?_⟩
  have hmm : (pageD dm || isNon dm) = true ∧ gd 19 dm = true := by
    simp only [List.mem_cons, List.not_mem_nil, or_false] at hdm
    rcases hdm with rfl | rfl
    · exact ⟨rfl, rfl⟩
    · refine ⟨?_, rfl⟩
      rw [show pageD (.int vp) = true from wi_int hp0 hp1]; rfl
  repeat (refine And.intro (by decide) ?_)
  rw [if_pos (by decide)]
  simp only [OQ_some]
  have hva : wordD (.int va) = true := wi_int ha0 ha1
  have hvw : wordD (.int vw) = true := wi_int hw0 hw1
  have hvp : pageD (.int vp) = true := wi_int hp0 hp1
  have hvn : withinD 1 4096 (.int vn) = true := wi_int hn0 hn1
  have hcn : countD (.int vn) = true := decide_eq_true (by omega)
  have hnx : nameD (.str x) = true := hx0
  have hny : nameD (.str y) = true := hy0
  have hsz : withinD 0 65535 (.int sz) = true := wi_int (by omega) (by omega)
  have hsp : withinD 0 1536 (.int sz) = true := wi_int (by omega) (by omega)
  have hs9 : withinD 0 1536 (.int 1536) = true := rfl
  have hv9 : lengthD 0 1536 (.tup []) = true := rfl
  have hwv : lengthD 0 1536 (.tup ws) = true := words_len hws (by omega) (by omega)
  have hwd : lengthD 1 16 (.tup ws) = true := words_len hws (by omega) (by omega)
  have hgw := (words_ok hws).1
  have hgk : gd 19 kind = true := hkd.2
  have hgr : gd 19 dr = true := hrt.2
  have hgm : gd 19 dm = true := hmm.2
  refine h _ ⟨?_, rfl, va, _, _, _, _, _, _, rfl, hkd.1, hkd.2⟩ _
  intro d hd
  simp only [List.mem_cons, List.not_mem_nil, or_false] at hd
  rcases hd with rfl | rfl | rfl | rfl | rfl | rfl | rfl | rfl | rfl | rfl | rfl | rfl | rfl | rfl | rfl | rfl | rfl
  · exact ⟨by simp only [ok, gd_str, gd_int, gd_bl, gd_non, gd_tup, gd_lst, gds_nil, gds_cons, Bool.and_true, Bool.true_and, okl_0, okl_1, okl_2, okl_3, okl_4, okl_5, okl_6, okl_7, okl_8, okl_9, okl_10, okl_11, okl_12, okl_13, okl_14, okl_15, okl_16, okl_17, okl_18, okl_19, okl_20, okl_21, okl_22, okl_23, okl_24, okl_25, okl_26, okl_27, okl_28, okl_29, okl_30, okl_31, okl_32, okl_33, okl_34, okl_35, okl_36, okl_37, okl_38, okl_39, okl_40, okl_41, okl_42, okl_43, okl_44, okl_45, okl_46, okl_47, okl_48, okl_49, okl_50, okl_51, okl_52, okl_53, okl_54, okl_55, okl_56, okl_57, okl_58, okl_59, okl_60, okl_61, okl_62, okl_63, okl_64, okl_65, okl_66, okl_67, okl_68, okl_69, okl_70, okl_71, okl_72, okl_73, okl_74, okl_75, okl_76, okl_77, okl_78, okl_79, okl_80, okl_81, okl_82, hxok, hyok, hgw, hgk, hgr, hgm], by rw [cd_read]; simp only [hva, hvw, hvp, hvn, hcn, hnx, hny, hsz, hsp, hs9, hv9, hwv, hwd, hmm.1, hrt.1, hkd.1, Bool.and_true]⟩
  · exact ⟨by simp only [ok, gd_str, gd_int, gd_bl, gd_non, gd_tup, gd_lst, gds_nil, gds_cons, Bool.and_true, Bool.true_and, okl_0, okl_1, okl_2, okl_3, okl_4, okl_5, okl_6, okl_7, okl_8, okl_9, okl_10, okl_11, okl_12, okl_13, okl_14, okl_15, okl_16, okl_17, okl_18, okl_19, okl_20, okl_21, okl_22, okl_23, okl_24, okl_25, okl_26, okl_27, okl_28, okl_29, okl_30, okl_31, okl_32, okl_33, okl_34, okl_35, okl_36, okl_37, okl_38, okl_39, okl_40, okl_41, okl_42, okl_43, okl_44, okl_45, okl_46, okl_47, okl_48, okl_49, okl_50, okl_51, okl_52, okl_53, okl_54, okl_55, okl_56, okl_57, okl_58, okl_59, okl_60, okl_61, okl_62, okl_63, okl_64, okl_65, okl_66, okl_67, okl_68, okl_69, okl_70, okl_71, okl_72, okl_73, okl_74, okl_75, okl_76, okl_77, okl_78, okl_79, okl_80, okl_81, okl_82, hxok, hyok, hgw, hgk, hgr, hgm], by rw [cd_write]; simp only [hva, hvw, hvp, hvn, hcn, hnx, hny, hsz, hsp, hs9, hv9, hwv, hwd, hmm.1, hrt.1, hkd.1, Bool.and_true]⟩
  · exact ⟨by simp only [ok, gd_str, gd_int, gd_bl, gd_non, gd_tup, gd_lst, gds_nil, gds_cons, Bool.and_true, Bool.true_and, okl_0, okl_1, okl_2, okl_3, okl_4, okl_5, okl_6, okl_7, okl_8, okl_9, okl_10, okl_11, okl_12, okl_13, okl_14, okl_15, okl_16, okl_17, okl_18, okl_19, okl_20, okl_21, okl_22, okl_23, okl_24, okl_25, okl_26, okl_27, okl_28, okl_29, okl_30, okl_31, okl_32, okl_33, okl_34, okl_35, okl_36, okl_37, okl_38, okl_39, okl_40, okl_41, okl_42, okl_43, okl_44, okl_45, okl_46, okl_47, okl_48, okl_49, okl_50, okl_51, okl_52, okl_53, okl_54, okl_55, okl_56, okl_57, okl_58, okl_59, okl_60, okl_61, okl_62, okl_63, okl_64, okl_65, okl_66, okl_67, okl_68, okl_69, okl_70, okl_71, okl_72, okl_73, okl_74, okl_75, okl_76, okl_77, okl_78, okl_79, okl_80, okl_81, okl_82, hxok, hyok, hgw, hgk, hgr, hgm], by rw [cd_map]; simp only [hva, hvw, hvp, hvn, hcn, hnx, hny, hsz, hsp, hs9, hv9, hwv, hwd, hmm.1, hrt.1, hkd.1, Bool.and_true]⟩
  · exact ⟨by simp only [ok, gd_str, gd_int, gd_bl, gd_non, gd_tup, gd_lst, gds_nil, gds_cons, Bool.and_true, Bool.true_and, okl_0, okl_1, okl_2, okl_3, okl_4, okl_5, okl_6, okl_7, okl_8, okl_9, okl_10, okl_11, okl_12, okl_13, okl_14, okl_15, okl_16, okl_17, okl_18, okl_19, okl_20, okl_21, okl_22, okl_23, okl_24, okl_25, okl_26, okl_27, okl_28, okl_29, okl_30, okl_31, okl_32, okl_33, okl_34, okl_35, okl_36, okl_37, okl_38, okl_39, okl_40, okl_41, okl_42, okl_43, okl_44, okl_45, okl_46, okl_47, okl_48, okl_49, okl_50, okl_51, okl_52, okl_53, okl_54, okl_55, okl_56, okl_57, okl_58, okl_59, okl_60, okl_61, okl_62, okl_63, okl_64, okl_65, okl_66, okl_67, okl_68, okl_69, okl_70, okl_71, okl_72, okl_73, okl_74, okl_75, okl_76, okl_77, okl_78, okl_79, okl_80, okl_81, okl_82, hxok, hyok, hgw, hgk, hgr, hgm], by rw [cd_unmap]; simp only [hva, hvw, hvp, hvn, hcn, hnx, hny, hsz, hsp, hs9, hv9, hwv, hwd, hmm.1, hrt.1, hkd.1, Bool.and_true]⟩
  · exact ⟨by simp only [ok, gd_str, gd_int, gd_bl, gd_non, gd_tup, gd_lst, gds_nil, gds_cons, Bool.and_true, Bool.true_and, okl_0, okl_1, okl_2, okl_3, okl_4, okl_5, okl_6, okl_7, okl_8, okl_9, okl_10, okl_11, okl_12, okl_13, okl_14, okl_15, okl_16, okl_17, okl_18, okl_19, okl_20, okl_21, okl_22, okl_23, okl_24, okl_25, okl_26, okl_27, okl_28, okl_29, okl_30, okl_31, okl_32, okl_33, okl_34, okl_35, okl_36, okl_37, okl_38, okl_39, okl_40, okl_41, okl_42, okl_43, okl_44, okl_45, okl_46, okl_47, okl_48, okl_49, okl_50, okl_51, okl_52, okl_53, okl_54, okl_55, okl_56, okl_57, okl_58, okl_59, okl_60, okl_61, okl_62, okl_63, okl_64, okl_65, okl_66, okl_67, okl_68, okl_69, okl_70, okl_71, okl_72, okl_73, okl_74, okl_75, okl_76, okl_77, okl_78, okl_79, okl_80, okl_81, okl_82, hxok, hyok, hgw, hgk, hgr, hgm], by rw [cd_rights]; simp only [hva, hvw, hvp, hvn, hcn, hnx, hny, hsz, hsp, hs9, hv9, hwv, hwd, hmm.1, hrt.1, hkd.1, Bool.and_true]⟩
  · exact ⟨by simp only [ok, gd_str, gd_int, gd_bl, gd_non, gd_tup, gd_lst, gds_nil, gds_cons, Bool.and_true, Bool.true_and, okl_0, okl_1, okl_2, okl_3, okl_4, okl_5, okl_6, okl_7, okl_8, okl_9, okl_10, okl_11, okl_12, okl_13, okl_14, okl_15, okl_16, okl_17, okl_18, okl_19, okl_20, okl_21, okl_22, okl_23, okl_24, okl_25, okl_26, okl_27, okl_28, okl_29, okl_30, okl_31, okl_32, okl_33, okl_34, okl_35, okl_36, okl_37, okl_38, okl_39, okl_40, okl_41, okl_42, okl_43, okl_44, okl_45, okl_46, okl_47, okl_48, okl_49, okl_50, okl_51, okl_52, okl_53, okl_54, okl_55, okl_56, okl_57, okl_58, okl_59, okl_60, okl_61, okl_62, okl_63, okl_64, okl_65, okl_66, okl_67, okl_68, okl_69, okl_70, okl_71, okl_72, okl_73, okl_74, okl_75, okl_76, okl_77, okl_78, okl_79, okl_80, okl_81, okl_82, hxok, hyok, hgw, hgk, hgr, hgm], by rw [cd_fork]; simp only [hva, hvw, hvp, hvn, hcn, hnx, hny, hsz, hsp, hs9, hv9, hwv, hwd, hmm.1, hrt.1, hkd.1, Bool.and_true]⟩
  · exact ⟨by simp only [ok, gd_str, gd_int, gd_bl, gd_non, gd_tup, gd_lst, gds_nil, gds_cons, Bool.and_true, Bool.true_and, okl_0, okl_1, okl_2, okl_3, okl_4, okl_5, okl_6, okl_7, okl_8, okl_9, okl_10, okl_11, okl_12, okl_13, okl_14, okl_15, okl_16, okl_17, okl_18, okl_19, okl_20, okl_21, okl_22, okl_23, okl_24, okl_25, okl_26, okl_27, okl_28, okl_29, okl_30, okl_31, okl_32, okl_33, okl_34, okl_35, okl_36, okl_37, okl_38, okl_39, okl_40, okl_41, okl_42, okl_43, okl_44, okl_45, okl_46, okl_47, okl_48, okl_49, okl_50, okl_51, okl_52, okl_53, okl_54, okl_55, okl_56, okl_57, okl_58, okl_59, okl_60, okl_61, okl_62, okl_63, okl_64, okl_65, okl_66, okl_67, okl_68, okl_69, okl_70, okl_71, okl_72, okl_73, okl_74, okl_75, okl_76, okl_77, okl_78, okl_79, okl_80, okl_81, okl_82, hxok, hyok, hgw, hgk, hgr, hgm], by rw [cd_exit]⟩
  · exact ⟨by simp only [ok, gd_str, gd_int, gd_bl, gd_non, gd_tup, gd_lst, gds_nil, gds_cons, Bool.and_true, Bool.true_and, okl_0, okl_1, okl_2, okl_3, okl_4, okl_5, okl_6, okl_7, okl_8, okl_9, okl_10, okl_11, okl_12, okl_13, okl_14, okl_15, okl_16, okl_17, okl_18, okl_19, okl_20, okl_21, okl_22, okl_23, okl_24, okl_25, okl_26, okl_27, okl_28, okl_29, okl_30, okl_31, okl_32, okl_33, okl_34, okl_35, okl_36, okl_37, okl_38, okl_39, okl_40, okl_41, okl_42, okl_43, okl_44, okl_45, okl_46, okl_47, okl_48, okl_49, okl_50, okl_51, okl_52, okl_53, okl_54, okl_55, okl_56, okl_57, okl_58, okl_59, okl_60, okl_61, okl_62, okl_63, okl_64, okl_65, okl_66, okl_67, okl_68, okl_69, okl_70, okl_71, okl_72, okl_73, okl_74, okl_75, okl_76, okl_77, okl_78, okl_79, okl_80, okl_81, okl_82, hxok, hyok, hgw, hgk, hgr, hgm], by rw [cd_make]; simp only [hva, hvw, hvp, hvn, hcn, hnx, hny, hsz, hsp, hs9, hv9, hwv, hwd, hmm.1, hrt.1, hkd.1, Bool.and_true]⟩
  · exact ⟨by simp only [ok, gd_str, gd_int, gd_bl, gd_non, gd_tup, gd_lst, gds_nil, gds_cons, Bool.and_true, Bool.true_and, okl_0, okl_1, okl_2, okl_3, okl_4, okl_5, okl_6, okl_7, okl_8, okl_9, okl_10, okl_11, okl_12, okl_13, okl_14, okl_15, okl_16, okl_17, okl_18, okl_19, okl_20, okl_21, okl_22, okl_23, okl_24, okl_25, okl_26, okl_27, okl_28, okl_29, okl_30, okl_31, okl_32, okl_33, okl_34, okl_35, okl_36, okl_37, okl_38, okl_39, okl_40, okl_41, okl_42, okl_43, okl_44, okl_45, okl_46, okl_47, okl_48, okl_49, okl_50, okl_51, okl_52, okl_53, okl_54, okl_55, okl_56, okl_57, okl_58, okl_59, okl_60, okl_61, okl_62, okl_63, okl_64, okl_65, okl_66, okl_67, okl_68, okl_69, okl_70, okl_71, okl_72, okl_73, okl_74, okl_75, okl_76, okl_77, okl_78, okl_79, okl_80, okl_81, okl_82, hxok, hyok, hgw, hgk, hgr, hgm], by rw [cd_cut]; simp only [hva, hvw, hvp, hvn, hcn, hnx, hny, hsz, hsp, hs9, hv9, hwv, hwd, hmm.1, hrt.1, hkd.1, Bool.and_true]⟩
  · exact ⟨by simp only [ok, gd_str, gd_int, gd_bl, gd_non, gd_tup, gd_lst, gds_nil, gds_cons, Bool.and_true, Bool.true_and, okl_0, okl_1, okl_2, okl_3, okl_4, okl_5, okl_6, okl_7, okl_8, okl_9, okl_10, okl_11, okl_12, okl_13, okl_14, okl_15, okl_16, okl_17, okl_18, okl_19, okl_20, okl_21, okl_22, okl_23, okl_24, okl_25, okl_26, okl_27, okl_28, okl_29, okl_30, okl_31, okl_32, okl_33, okl_34, okl_35, okl_36, okl_37, okl_38, okl_39, okl_40, okl_41, okl_42, okl_43, okl_44, okl_45, okl_46, okl_47, okl_48, okl_49, okl_50, okl_51, okl_52, okl_53, okl_54, okl_55, okl_56, okl_57, okl_58, okl_59, okl_60, okl_61, okl_62, okl_63, okl_64, okl_65, okl_66, okl_67, okl_68, okl_69, okl_70, okl_71, okl_72, okl_73, okl_74, okl_75, okl_76, okl_77, okl_78, okl_79, okl_80, okl_81, okl_82, hxok, hyok, hgw, hgk, hgr, hgm], by rw [cd_drop]; simp only [hva, hvw, hvp, hvn, hcn, hnx, hny, hsz, hsp, hs9, hv9, hwv, hwd, hmm.1, hrt.1, hkd.1, Bool.and_true]⟩
  · exact ⟨by simp only [ok, gd_str, gd_int, gd_bl, gd_non, gd_tup, gd_lst, gds_nil, gds_cons, Bool.and_true, Bool.true_and, okl_0, okl_1, okl_2, okl_3, okl_4, okl_5, okl_6, okl_7, okl_8, okl_9, okl_10, okl_11, okl_12, okl_13, okl_14, okl_15, okl_16, okl_17, okl_18, okl_19, okl_20, okl_21, okl_22, okl_23, okl_24, okl_25, okl_26, okl_27, okl_28, okl_29, okl_30, okl_31, okl_32, okl_33, okl_34, okl_35, okl_36, okl_37, okl_38, okl_39, okl_40, okl_41, okl_42, okl_43, okl_44, okl_45, okl_46, okl_47, okl_48, okl_49, okl_50, okl_51, okl_52, okl_53, okl_54, okl_55, okl_56, okl_57, okl_58, okl_59, okl_60, okl_61, okl_62, okl_63, okl_64, okl_65, okl_66, okl_67, okl_68, okl_69, okl_70, okl_71, okl_72, okl_73, okl_74, okl_75, okl_76, okl_77, okl_78, okl_79, okl_80, okl_81, okl_82, hxok, hyok, hgw, hgk, hgr, hgm], by rw [cd_get]; simp only [hva, hvw, hvp, hvn, hcn, hnx, hny, hsz, hsp, hs9, hv9, hwv, hwd, hmm.1, hrt.1, hkd.1, Bool.and_true]⟩
  · exact ⟨by simp only [ok, gd_str, gd_int, gd_bl, gd_non, gd_tup, gd_lst, gds_nil, gds_cons, Bool.and_true, Bool.true_and, okl_0, okl_1, okl_2, okl_3, okl_4, okl_5, okl_6, okl_7, okl_8, okl_9, okl_10, okl_11, okl_12, okl_13, okl_14, okl_15, okl_16, okl_17, okl_18, okl_19, okl_20, okl_21, okl_22, okl_23, okl_24, okl_25, okl_26, okl_27, okl_28, okl_29, okl_30, okl_31, okl_32, okl_33, okl_34, okl_35, okl_36, okl_37, okl_38, okl_39, okl_40, okl_41, okl_42, okl_43, okl_44, okl_45, okl_46, okl_47, okl_48, okl_49, okl_50, okl_51, okl_52, okl_53, okl_54, okl_55, okl_56, okl_57, okl_58, okl_59, okl_60, okl_61, okl_62, okl_63, okl_64, okl_65, okl_66, okl_67, okl_68, okl_69, okl_70, okl_71, okl_72, okl_73, okl_74, okl_75, okl_76, okl_77, okl_78, okl_79, okl_80, okl_81, okl_82, hxok, hyok, hgw, hgk, hgr, hgm], by rw [cd_put]; simp only [hva, hvw, hvp, hvn, hcn, hnx, hny, hsz, hsp, hs9, hv9, hwv, hwd, hmm.1, hrt.1, hkd.1, Bool.and_true]⟩
  · exact ⟨by simp only [ok, gd_str, gd_int, gd_bl, gd_non, gd_tup, gd_lst, gds_nil, gds_cons, Bool.and_true, Bool.true_and, okl_0, okl_1, okl_2, okl_3, okl_4, okl_5, okl_6, okl_7, okl_8, okl_9, okl_10, okl_11, okl_12, okl_13, okl_14, okl_15, okl_16, okl_17, okl_18, okl_19, okl_20, okl_21, okl_22, okl_23, okl_24, okl_25, okl_26, okl_27, okl_28, okl_29, okl_30, okl_31, okl_32, okl_33, okl_34, okl_35, okl_36, okl_37, okl_38, okl_39, okl_40, okl_41, okl_42, okl_43, okl_44, okl_45, okl_46, okl_47, okl_48, okl_49, okl_50, okl_51, okl_52, okl_53, okl_54, okl_55, okl_56, okl_57, okl_58, okl_59, okl_60, okl_61, okl_62, okl_63, okl_64, okl_65, okl_66, okl_67, okl_68, okl_69, okl_70, okl_71, okl_72, okl_73, okl_74, okl_75, okl_76, okl_77, okl_78, okl_79, okl_80, okl_81, okl_82, hxok, hyok, hgw, hgk, hgr, hgm], by rw [cd_put]; simp only [hva, hvw, hvp, hvn, hcn, hnx, hny, hsz, hsp, hs9, hv9, hwv, hwd, hmm.1, hrt.1, hkd.1, Bool.and_true]⟩
  · exact ⟨by simp only [ok, gd_str, gd_int, gd_bl, gd_non, gd_tup, gd_lst, gds_nil, gds_cons, Bool.and_true, Bool.true_and, okl_0, okl_1, okl_2, okl_3, okl_4, okl_5, okl_6, okl_7, okl_8, okl_9, okl_10, okl_11, okl_12, okl_13, okl_14, okl_15, okl_16, okl_17, okl_18, okl_19, okl_20, okl_21, okl_22, okl_23, okl_24, okl_25, okl_26, okl_27, okl_28, okl_29, okl_30, okl_31, okl_32, okl_33, okl_34, okl_35, okl_36, okl_37, okl_38, okl_39, okl_40, okl_41, okl_42, okl_43, okl_44, okl_45, okl_46, okl_47, okl_48, okl_49, okl_50, okl_51, okl_52, okl_53, okl_54, okl_55, okl_56, okl_57, okl_58, okl_59, okl_60, okl_61, okl_62, okl_63, okl_64, okl_65, okl_66, okl_67, okl_68, okl_69, okl_70, okl_71, okl_72, okl_73, okl_74, okl_75, okl_76, okl_77, okl_78, okl_79, okl_80, okl_81, okl_82, hxok, hyok, hgw, hgk, hgr, hgm], by rw [cd_sync]⟩
  · exact ⟨by simp only [ok, gd_str, gd_int, gd_bl, gd_non, gd_tup, gd_lst, gds_nil, gds_cons, Bool.and_true, Bool.true_and, okl_0, okl_1, okl_2, okl_3, okl_4, okl_5, okl_6, okl_7, okl_8, okl_9, okl_10, okl_11, okl_12, okl_13, okl_14, okl_15, okl_16, okl_17, okl_18, okl_19, okl_20, okl_21, okl_22, okl_23, okl_24, okl_25, okl_26, okl_27, okl_28, okl_29, okl_30, okl_31, okl_32, okl_33, okl_34, okl_35, okl_36, okl_37, okl_38, okl_39, okl_40, okl_41, okl_42, okl_43, okl_44, okl_45, okl_46, okl_47, okl_48, okl_49, okl_50, okl_51, okl_52, okl_53, okl_54, okl_55, okl_56, okl_57, okl_58, okl_59, okl_60, okl_61, okl_62, okl_63, okl_64, okl_65, okl_66, okl_67, okl_68, okl_69, okl_70, okl_71, okl_72, okl_73, okl_74, okl_75, okl_76, okl_77, okl_78, okl_79, okl_80, okl_81, okl_82, hxok, hyok, hgw, hgk, hgr, hgm], by rw [cd_kept]; simp only [hva, hvw, hvp, hvn, hcn, hnx, hny, hsz, hsp, hs9, hv9, hwv, hwd, hmm.1, hrt.1, hkd.1, Bool.and_true]⟩
  · exact ⟨by simp only [ok, gd_str, gd_int, gd_bl, gd_non, gd_tup, gd_lst, gds_nil, gds_cons, Bool.and_true, Bool.true_and, okl_0, okl_1, okl_2, okl_3, okl_4, okl_5, okl_6, okl_7, okl_8, okl_9, okl_10, okl_11, okl_12, okl_13, okl_14, okl_15, okl_16, okl_17, okl_18, okl_19, okl_20, okl_21, okl_22, okl_23, okl_24, okl_25, okl_26, okl_27, okl_28, okl_29, okl_30, okl_31, okl_32, okl_33, okl_34, okl_35, okl_36, okl_37, okl_38, okl_39, okl_40, okl_41, okl_42, okl_43, okl_44, okl_45, okl_46, okl_47, okl_48, okl_49, okl_50, okl_51, okl_52, okl_53, okl_54, okl_55, okl_56, okl_57, okl_58, okl_59, okl_60, okl_61, okl_62, okl_63, okl_64, okl_65, okl_66, okl_67, okl_68, okl_69, okl_70, okl_71, okl_72, okl_73, okl_74, okl_75, okl_76, okl_77, okl_78, okl_79, okl_80, okl_81, okl_82, hxok, hyok, hgw, hgk, hgr, hgm], by rw [cd_post]; simp only [hva, hvw, hvp, hvn, hcn, hnx, hny, hsz, hsp, hs9, hv9, hwv, hwd, hmm.1, hrt.1, hkd.1, Bool.and_true]⟩
  · exact ⟨by simp only [ok, gd_str, gd_int, gd_bl, gd_non, gd_tup, gd_lst, gds_nil, gds_cons, Bool.and_true, Bool.true_and, okl_0, okl_1, okl_2, okl_3, okl_4, okl_5, okl_6, okl_7, okl_8, okl_9, okl_10, okl_11, okl_12, okl_13, okl_14, okl_15, okl_16, okl_17, okl_18, okl_19, okl_20, okl_21, okl_22, okl_23, okl_24, okl_25, okl_26, okl_27, okl_28, okl_29, okl_30, okl_31, okl_32, okl_33, okl_34, okl_35, okl_36, okl_37, okl_38, okl_39, okl_40, okl_41, okl_42, okl_43, okl_44, okl_45, okl_46, okl_47, okl_48, okl_49, okl_50, okl_51, okl_52, okl_53, okl_54, okl_55, okl_56, okl_57, okl_58, okl_59, okl_60, okl_61, okl_62, okl_63, okl_64, okl_65, okl_66, okl_67, okl_68, okl_69, okl_70, okl_71, okl_72, okl_73, okl_74, okl_75, okl_76, okl_77, okl_78, okl_79, okl_80, okl_81, okl_82, hxok, hyok, hgw, hgk, hgr, hgm], by rw [cd_look]; simp only [hva, hvw, hvp, hvn, hcn, hnx, hny, hsz, hsp, hs9, hv9, hwv, hwd, hmm.1, hrt.1, hkd.1, Bool.and_true]⟩
end
end G

set_option Elab.async false
set_option linter.all false
set_option maxRecDepth 100000
set_option maxHeartbeats 4000000
namespace G
open PySem PySem.Spec PyProof.Rows L2
theorem fmc {α : Type} {P : α → Prop} {a : α} {l : List α} (h : P a) (h' : ∀ d ∈ l, P d) : ∀ d ∈ a :: l, P d := fun d hd => (List.mem_cons.mp hd).elim (fun e => e ▸ h) fun hd => h' d hd
theorem fmn {α : Type} {P : α → Prop} : ∀ d ∈ ([] : List α), P d := fun d hd => by cases hd
theorem fma {α : Type} {P : α → Prop} {a b : List α} (h : ∀ d ∈ a, P d) (h' : ∀ d ∈ b, P d) : ∀ d ∈ a ++ b, P d := fun d hd => (List.mem_append.mp hd).elim (h d) (h' d)
abbrev isTrueD (d : D) : Prop := d = .bl true
theorem seq_run {S : Type} {u v : MS S} {δ : En} {s : S} {E : GEnds S} (P : En → S → Prop) (hu : ∀ E' : GEnds S, (∀ δ' s', P δ' s' → E'.nx δ' s') → u.run δ s E') (hv : ∀ δ' s', P δ' s' → v.run δ' s' E) : (MS.seq u v).run δ s E := hu _ hv
/-- what is not one: good data, small -/
def Bad (p : D → Bool) (n : Nat) (ds : List D) : Prop := (∀ d ∈ ds, gd 30 d = true ∧ p d = false) ∧ ds.length ≤ n
def Good (p : D → Bool) (n : Nat) (ds : List D) : Prop := (∀ d ∈ ds, gd 30 d = true ∧ p d = true) ∧ ds.length ≤ n
theorem Bad.app {p : D → Bool} {n m : Nat} {a b : List D} (h : Bad p n a) (h' : Bad p m b) : Bad p (n + m) (a ++ b) := ⟨fma h.1 h'.1, by rw [List.length_append]; have := h.2; have := h'.2; omega⟩
theorem Good.app {p : D → Bool} {n m : Nat} {a b : List D} (h : Good p n a) (h' : Good p m b) : Good p (n + m) (a ++ b) := ⟨fma h.1 h'.1, by rw [List.length_append]; have := h.2; have := h'.2; omega⟩
theorem ok20 {d : D} (h : gd 20 d = true) : ok d := gd_mono 20 40 d (by omega) h
theorem ok30 {d : D} (h : gd 30 d = true) : ok d := gd_mono 30 40 d (by omega) h
theorem Bad.oks {p : D → Bool} {n : Nat} {ds : List D} (h : Bad p n ds) : ∀ d ∈ ds, ok d ∧ p d = false := fun d hd => ⟨ok30 (h.1 d hd).1, (h.1 d hd).2⟩
theorem Good.oks {p : D → Bool} {n : Nat} {ds : List D} (h : Good p n ds) : ∀ d ∈ ds, ok d ∧ p d = true := fun d hd => ⟨ok30 (h.1 d hd).1, (h.1 d hd).2⟩
theorem tells_run {S : Type} {f0 : Addr} {pre : D → Prop} {p : D → Bool} {r wr : List D} {s : S} {Q : D → S → Prop} (h1 : ∀ d ∈ r, pre d ∧ p d = true) (h2 : ∀ d ∈ wr, pre d ∧ p d = false) (h : Q (.bl true) s) : (tellsF f0 pre p : MF S).run [.ref f0, .lst r, .lst wr] s Q := ⟨r, wr, rfl, h1, h2, h⟩
theorem dr_calls {a : Addr} {xs : List Int} {Q : D → Dr → Prop} (h : ∀ cs xs', CallsOk cs → Q (.lst cs) (some (a, xs'))) : callsF.run [.ref a] (some (a, xs)) Q := ⟨a, xs, rfl, rfl, fun cs hc xs' => h cs xs' hc⟩
theorem add_lst {a b : List D} (h : a.length + b.length ≤ 16777216) : addD (.lst a) (.lst b) = some (.lst (a ++ b)) := by
  show (if a.length + b.length ≤ big then some (D.lst (a ++ b)) else none) = _
  rw [if_pos h]
theorem add_tup {a b : List D} (h : a.length + b.length ≤ 16777216) : addD (.tup a) (.tup b) = some (.tup (a ++ b)) := by
  show (if a.length + b.length ≤ big then some (D.tup (a ++ b)) else none) = _
  rw [if_pos h]
theorem flat_rep {α : Type} (d : α) : ∀ n : Nat, (List.replicate n [d]).flatten = List.replicate n d
  | 0 => rfl
  | n + 1 => by rw [List.replicate_succ, List.flatten_cons, flat_rep d n, List.replicate_succ]; rfl
theorem mul_one {d : D} {k : Nat} (h2 : 2 ≤ k) (hk : k ≤ 100000) : mulD' (.tup [d]) (.int k) = some (.tup (List.replicate k d)) := by
  show (if [d] ≠ [] ∧ (2 : Int) ≤ k ∧ [d].length * ((k : Int)).toNat ≤ 1000000 then some (D.tup (List.replicate ((k : Int)).toNat [d]).flatten) else none) = _
  rw [Int.toNat_natCast, if_pos ⟨by simp, by omega, by simp; omega⟩, flat_rep]
theorem gds_rep {n : Nat} {d : D} (h : gd n d = true) : ∀ k : Nat, gds n (List.replicate k d) = true := fun k => gds_all.mpr fun e he => by rw [List.eq_of_mem_replicate he]; exact h
theorem all_rep {p : D → Bool} {d : D} (h : p d = true) : ∀ k : Nat, (List.replicate k d).all p = true := fun k => List.all_eq_true.mpr fun e he => by rw [List.eq_of_mem_replicate he]; exact h
theorem mul_x8 : mulD' (.str (Str.ofString "x")) (.int 8) = some (.str (Str.ofString "xxxxxxxx")) := by kernel_rfl
theorem mul_x9 : mulD' (.str (Str.ofString "x")) (.int 9) = some (.str (Str.ofString "xxxxxxxxx")) := by kernel_rfl
theorem sd_start (b : D) : stepD (.tup [.str "start", b]) = (nameD b && true) := by kernel_rfl
theorem sd_do (a b c : D) : stepD (.tup [.str "do", a, b, c]) = (countD a && (nameD b && (callD c && true))) := by kernel_rfl
theorem sd_take (b : D) : stepD (.tup [.str "take", b]) = (countD b && true) := by kernel_rfl
theorem sd_press (b : D) : stepD (.tup [.str "press", b]) = (countD b && true) := by kernel_rfl
theorem sd_move (b : D) : stepD (.tup [.str "move", b]) = (countD b && true) := by kernel_rfl
theorem sd_merge (b : D) : stepD (.tup [.str "merge", b]) = (countD b && true) := by kernel_rfl
theorem sd_join (b : D) : stepD (.tup [.str "join", b]) = (countD b && true) := by kernel_rfl
theorem sd_split (b : D) : stepD (.tup [.str "split", b]) = (countD b && true) := by kernel_rfl
theorem sd_write (b : D) : stepD (.tup [.str "write", b]) = (countD b && true) := by kernel_rfl
theorem sd_device (b : D) : stepD (.tup [.str "device", b]) = (countD b && true) := by kernel_rfl
theorem sd_crash (b : D) : stepD (.tup [.str "crash", b]) = (indexesD b && true) := by kernel_rfl
theorem take3 {α : Type} (a b c : α) (ds : List α) : cutL (a :: b :: c :: ds) none (some 3) = [a, b, c] := by
  unfold cutL
  have h1 : HT.sIx (a :: b :: c :: ds).length (a :: b :: c :: ds).length (some 3) = 3 := by simp [HT.sIx]
  rw [h1, HT.sIx_none]; rfl
theorem ix_lst {es : List D} {i : Int} (h0 : 0 ≤ i) (h1 : i < es.length) : ∃ d ∈ es, ixD (.lst es) (.int i) = some d := by
  refine ⟨es[i.toNat]'(by omega), List.getElem_mem _, ?_⟩
  show atI es i = _
  unfold atI L2.ixN
  rw [if_pos h0, if_pos h1]
  show es[i.toNat]? = _
  rw [List.getElem?_eq_getElem (by omega)]
section
variable {S : Type} {P : Program} {w : World} {K : PySem.W.Frag} {mg : Str → Option Value} {base : Heap} {W : Wd S}
theorem c__law_are_calls_due (T : Txt K w mg) : Cal P w K mg base WD 39 "_law_are_calls_due" 1 (drawF isTrueD) := by
  obtain ⟨f_is_name, m_is_name, h_is_name⟩ := (c_is_name T : Cal P w K mg base WD _ "is_name" 1 _).held
  obtain ⟨f_is_word, m_is_word, h_is_word⟩ := (c_is_word T : Cal P w K mg base WD _ "is_word" 1 _).held
  obtain ⟨f_are_words, m_are_words, h_are_words⟩ := (c_are_words T : Cal P w K mg base WD _ "are_words" 1 _).held
  obtain ⟨f_is_call_world, m_is_call_world, h_is_call_world⟩ := (c_is_call_world T : Cal P w K mg base WD _ "is_call_world" 1 _).held
  obtain ⟨f_is_course, m_is_course, h_is_course⟩ := (c_is_course T : Cal P w K mg base WD _ "is_course" 1 _).held
  obtain ⟨fa, fd, F, hg, b⟩ := T.d__law_are_calls_due.ex
  refine cal_mk F hg b sc__law_are_calls_due rfl (fun cdv A outer s H E hr => (b_cons (s_ite (t_not (t_of (g_call (c__law_tells T h_is_name) hr (by decide) (a_cons (g_ref m_is_name) (a_cons (g_lst (a_cons g_str (a_cons g_str (a_cons g_str (a_cons (g_mul g_str g_int) a_nil))))) (a_cons (g_lst (a_cons g_str (a_cons g_str (a_cons g_str (a_cons g_str (a_cons g_str (a_cons (g_mul g_str g_int) (a_cons g_str (a_cons g_int (a_cons g_non (a_cons (g_tup (a_cons g_str a_nil)) a_nil))))))))))) a_nil)))))) (b_one (s_ret g_bl)) b_nil) (b_cons (s_ite (t_not (t_of (g_call (c__law_tells T h_is_word) hr (by decide) (a_cons (g_ref m_is_word) (a_cons (g_lst (a_cons g_int (a_cons g_int (a_cons (g_call (c__law_word T) hr (by decide) (a_cons (g_var 0) a_nil)) a_nil)))) (a_cons (g_lst (a_cons (g_neg g_int) (a_cons g_int (a_cons g_bl (a_cons g_str (a_cons g_non (a_cons (g_tup (a_cons g_int a_nil)) a_nil))))))) a_nil)))))) (b_one (s_ret g_bl)) b_nil) (b_cons (s_ite (t_not (t_of (g_call (c__law_tells T h_are_words) hr (by decide) (a_cons (g_ref m_are_words) (a_cons (g_lst (a_cons (g_tup a_nil) (a_cons (g_tup (a_cons g_int (a_cons g_int a_nil))) (a_cons (g_mul (g_tup (a_cons (g_call (c__law_word T) hr (by decide) (a_cons (g_var 0) a_nil)) a_nil)) g_int) a_nil)))) (a_cons (g_lst (a_cons (g_lst (a_cons g_int a_nil)) (a_cons (g_tup (a_cons g_int (a_cons g_int a_nil))) (a_cons (g_tup (a_cons g_bl a_nil)) (a_cons (g_tup (a_cons g_int (a_cons (g_neg g_int) a_nil))) (a_cons g_int (a_cons g_non (a_cons (g_tup (a_cons (g_tup (a_cons g_int a_nil)) a_nil)) a_nil)))))))) a_nil)))))) (b_one (s_ret g_bl)) b_nil) (b_cons (s_set (i := 1) sc__law_are_calls_due.nd (g_call (c__law_calls T) hr (by decide) (a_cons (g_var 0) a_nil))) (b_cons (s_par (i := 5) (j := 6) rfl sc__law_are_calls_due.nd (a_cons (g_ix (hu1 hr) (g_ix (hu1 hr) (g_var 1) g_int) g_int) (a_cons (g_tup (a_cons g_str a_nil)) a_nil))) (b_cons (s_set (i := 2) sc__law_are_calls_due.nd (g_lst (a_cons (g_tup (a_cons g_str (a_cons g_int a_nil))) (a_cons (g_tup (a_cons g_str (a_cons (g_neg g_int) a_nil))) (a_cons (g_tup (a_cons g_str (a_cons g_bl a_nil))) (a_cons (g_tup (a_cons g_str a_nil)) (a_cons (g_tup (a_cons g_str (a_cons g_int (a_cons g_int a_nil)))) (a_cons (g_tup (a_cons g_str (a_cons g_int (a_cons g_int a_nil)))) a_nil)))))))) (b_cons (s_set (i := 2) sc__law_are_calls_due.nd (g_add (g_var 2) (g_lst (a_cons (g_tup (a_cons g_str (a_cons g_int a_nil))) (a_cons (g_tup (a_cons g_str (a_cons g_int (a_cons g_int (a_cons (g_var 6) (a_cons g_str a_nil)))))) (a_cons (g_tup (a_cons g_str (a_cons g_int (a_cons g_int (a_cons (g_var 6) (a_cons g_str a_nil)))))) (a_cons (g_tup (a_cons g_str (a_cons g_int (a_cons g_int (a_cons (g_var 6) (a_cons g_str a_nil)))))) (a_cons (g_tup (a_cons g_str (a_cons g_int (a_cons g_int (a_cons (g_var 6) (a_cons g_str a_nil)))))) a_nil)))))))) (b_cons (s_set (i := 2) sc__law_are_calls_due.nd (g_add (g_var 2) (g_lst (a_cons (g_tup (a_cons g_str (a_cons g_int (a_cons g_int (a_cons (g_tup (a_cons g_str (a_cons g_int (a_cons g_int a_nil)))) (a_cons g_str a_nil)))))) (a_cons (g_tup (a_cons g_str (a_cons g_int (a_cons g_int (a_cons (g_tup (a_cons g_str (a_cons g_int a_nil))) (a_cons g_str a_nil)))))) (a_cons (g_tup (a_cons g_str (a_cons g_int (a_cons g_int (a_cons (g_tup (a_cons g_str (a_cons g_str a_nil))) (a_cons g_str a_nil)))))) (a_cons (g_tup (a_cons g_str (a_cons g_int (a_cons g_int (a_cons (g_tup (a_cons g_str (a_cons g_str (a_cons g_int a_nil)))) (a_cons g_str a_nil)))))) a_nil))))))) (b_cons (s_set (i := 2) sc__law_are_calls_due.nd (g_add (g_var 2) (g_lst (a_cons (g_tup (a_cons g_str (a_cons g_int (a_cons g_int (a_cons g_str (a_cons g_str a_nil)))))) (a_cons (g_tup (a_cons g_str (a_cons g_int (a_cons g_int (a_cons (g_var 5) a_nil))))) (a_cons (g_tup (a_cons g_str (a_cons g_non (a_cons g_int a_nil)))) (a_cons (g_tup (a_cons g_str (a_cons g_int (a_cons g_int a_nil)))) a_nil))))))) (b_cons (s_set (i := 2) sc__law_are_calls_due.nd (g_add (g_var 2) (g_lst (a_cons (g_tup (a_cons g_str (a_cons g_int (a_cons g_int (a_cons g_str a_nil))))) (a_cons (g_tup (a_cons g_str (a_cons g_int (a_cons g_int a_nil)))) (a_cons (g_tup (a_cons g_str (a_cons g_str a_nil))) (a_cons (g_tup (a_cons g_str (a_cons g_int a_nil))) (a_cons (g_tup (a_cons g_str (a_cons g_int a_nil))) (a_cons (g_tup (a_cons g_str (a_cons (g_mul g_str g_int) a_nil))) (a_cons (g_tup (a_cons g_str (a_cons g_str (a_cons (g_neg g_int) a_nil)))) a_nil)))))))))) (b_cons (s_set (i := 2) sc__law_are_calls_due.nd (g_add (g_var 2) (g_lst (a_cons (g_tup (a_cons g_str (a_cons g_str (a_cons g_int a_nil)))) (a_cons (g_tup (a_cons g_str (a_cons (g_neg g_int) a_nil))) (a_cons (g_tup (a_cons g_str (a_cons (g_neg g_int) a_nil))) (a_cons (g_tup (a_cons g_str (a_cons g_int (a_cons g_int (a_cons (g_tup (a_cons g_str (a_cons g_str (a_cons g_int a_nil)))) (a_cons g_str a_nil)))))) (a_cons (g_tup (a_cons g_str (a_cons g_str (a_cons g_int (a_cons g_int a_nil))))) a_nil)))))))) (b_cons (s_set (i := 2) sc__law_are_calls_due.nd (g_add (g_var 2) (g_lst (a_cons (g_tup (a_cons g_str a_nil)) (a_cons (g_tup (a_cons g_str (a_cons g_str (a_cons g_int a_nil)))) (a_cons (g_tup (a_cons g_str (a_cons g_str (a_cons g_int (a_cons g_int a_nil))))) (a_cons (g_tup (a_cons g_str (a_cons g_str (a_cons g_int (a_cons (g_lst (a_cons g_int a_nil)) a_nil))))) (a_cons (g_tup (a_cons g_str (a_cons g_str (a_cons g_int (a_cons (g_tup (a_cons g_int a_nil)) a_nil))))) (a_cons (g_tup (a_cons g_str (a_cons g_str (a_cons g_int (a_cons (g_mul (g_tup (a_cons g_int a_nil)) g_int) a_nil))))) a_nil))))))))) (b_cons (s_set (i := 2) sc__law_are_calls_due.nd (g_add (g_var 2) (g_lst (a_cons (g_tup (a_cons g_str (a_cons g_int a_nil))) (a_cons (g_tup (a_cons g_str (a_cons g_str a_nil))) (a_cons (g_tup (a_cons g_str (a_cons g_int (a_cons (g_tup a_nil) a_nil)))) (a_cons (g_tup (a_cons g_str (a_cons g_int (a_cons (g_mul (g_tup (a_cons g_int a_nil)) g_int) a_nil)))) (a_cons (g_tup (a_cons g_str (a_cons g_int (a_cons (g_tup (a_cons g_int a_nil)) a_nil)))) (a_cons (g_tup (a_cons g_str (a_cons g_non a_nil))) (a_cons (g_tup (a_cons g_str (a_cons g_int a_nil))) (a_cons (g_tup a_nil) (a_cons g_str (a_cons (g_lst (a_cons g_str a_nil)) (a_cons g_non (a_cons (g_tup (a_cons g_int (a_cons g_int a_nil))) (a_cons (g_toLst rfl T.b.list bb_list (a_cons (g_ix (hu1 hr) (g_var 1) g_int) a_nil)) a_nil)))))))))))))))) (b_cons (s_ite (t_not (t_of (g_call (c__law_tells T h_is_call_world) hr (by decide) (a_cons (g_ref m_is_call_world) (a_cons (g_var 1) (a_cons (g_var 2) a_nil)))))) (b_one (s_ret g_bl)) b_nil) (b_cons (s_asg (g_tup (a_cons (g_call (c__law_take T) hr (by decide) (a_cons (g_var 0) (a_cons g_int a_nil))) (a_cons (g_call (c__law_name T) hr (by decide) (a_cons (g_var 0) a_nil)) a_nil))) (gt_tp rfl (gts_cons (gt_nm (i := 7) sc__law_are_calls_due.nd) (gts_cons (gt_nm (i := 8) sc__law_are_calls_due.nd) gts_nil)))) (b_cons (s_set (i := 3) sc__law_are_calls_due.nd (g_lst (a_cons (g_tup (a_cons g_str (a_cons (g_var 8) a_nil))) (a_cons (g_tup (a_cons g_str (a_cons (g_var 7) a_nil))) (a_cons (g_tup (a_cons g_str a_nil)) (a_cons (g_tup (a_cons g_str a_nil)) (a_cons (g_tup (a_cons g_str (a_cons (g_var 7) a_nil))) (a_cons (g_tup (a_cons g_str (a_cons (g_tup a_nil) a_nil))) (a_cons (g_tup (a_cons g_str (a_cons (g_tup (a_cons g_int (a_cons (g_add g_int (g_var 7)) a_nil))) a_nil))) a_nil))))))))) (b_cons (s_set (i := 3) sc__law_are_calls_due.nd (g_add (g_add (g_var 3) (g_lc [("call", 11)] rfl sc__law_are_calls_due.nd (i_seq (g_var 1)) (blkOk_by (by kernel_rfl)) (fun _ _ _ _ _ => (gt_nm (i := 11) sc__law_are_calls_due.nd)) (fun _ _ _ _ _ => pts0) (fun _ _ _ _ _ => (g_tup (a_cons g_str (a_cons (g_var 7) (a_cons (g_var 8) (a_cons (g_var 11) a_nil)))))))) (g_lc [("word", 9)] rfl sc__law_are_calls_due.nd (i_seq (g_lst (a_cons g_str (a_cons g_str (a_cons g_str (a_cons g_str (a_cons g_str (a_cons g_str a_nil)))))))) (blkOk_by (by kernel_rfl)) (fun _ _ _ _ _ => (gt_nm (i := 9) sc__law_are_calls_due.nd)) (fun _ _ _ _ _ => pts0) (fun _ _ _ _ _ => (g_tup (a_cons (g_var 9) (a_cons (g_var 7) a_nil))))))) (b_cons (s_set (i := 4) sc__law_are_calls_due.nd (g_lst (a_cons (g_tup (a_cons g_str (a_cons g_str a_nil))) (a_cons (g_tup (a_cons g_str a_nil)) (a_cons (g_tup (a_cons g_str (a_cons (g_neg g_int) (a_cons (g_var 8) (a_cons (g_ix (hu1 hr) (g_var 1) g_int) a_nil))))) (a_cons (g_tup (a_cons g_str (a_cons g_int (a_cons (g_var 8) (a_cons (g_tup (a_cons g_str a_nil)) a_nil))))) (a_cons (g_tup (a_cons g_str (a_cons g_int (a_cons (g_ix (hu1 hr) (g_var 1) g_int) a_nil)))) (a_cons (g_tup (a_cons g_str a_nil)) (a_cons (g_tup (a_cons g_str (a_cons (g_neg g_int) a_nil))) (a_cons (g_tup (a_cons g_str (a_cons g_bl a_nil))) (a_cons (g_tup (a_cons g_str (a_cons g_int a_nil))) a_nil))))))))))) (b_cons (s_set (i := 4) sc__law_are_calls_due.nd (g_add (g_var 4) (g_lst (a_cons (g_tup (a_cons g_str (a_cons g_int a_nil))) (a_cons (g_tup (a_cons g_str a_nil)) (a_cons (g_tup (a_cons g_str (a_cons g_int a_nil))) (a_cons (g_tup (a_cons g_str (a_cons g_str a_nil))) (a_cons (g_tup (a_cons g_str (a_cons (g_neg g_int) a_nil))) (a_cons (g_tup (a_cons g_str (a_cons g_int a_nil))) (a_cons (g_tup a_nil) (a_cons g_int a_nil))))))))))) (b_cons (s_ite (t_not (t_of (g_call (c__law_tells T h_is_course) hr (by decide) (a_cons (g_ref m_is_course) (a_cons (g_lst (a_cons (g_tup a_nil) (a_cons (g_toTup T.b.tuple bb_tuple (a_cons (g_var 3) a_nil)) (a_cons (g_mul (g_tup (a_cons (g_ix (hu1 hr) (g_var 3) (g_call (c__law_take T) hr (by decide) (a_cons (g_var 0) (a_cons (g_len T.b.len (a_cons (g_var 3) a_nil)) a_nil)))) a_nil)) g_int) a_nil)))) (a_cons (g_lst (a_cons (g_toLst rfl T.b.list bb_list (a_cons (g_var 3) a_nil)) (a_cons (g_ix (hu1 hr) (g_var 3) g_int) (a_cons g_non (a_cons g_str a_nil))))) a_nil)))))) (b_one (s_ret g_bl)) b_nil) (b_one (s_ret (g_eq hr.units (g_lc [("step", 10)] rfl sc__law_are_calls_due.nd (i_seq (g_var 4)) (blkOk_by (by kernel_rfl)) (fun _ _ _ _ _ => (gt_nm (i := 10) sc__law_are_calls_due.nd)) (fun _ _ _ _ _ => (pts1 (t_isNot (g_call (c_is_course T) hr (by decide) (a_cons (g_add (g_toTup T.b.tuple bb_tuple (a_cons (g_sl (g_var 3) o_none (o_some g_int)) a_nil)) (g_tup (a_cons (g_var 10) a_nil))) a_nil)) g_bl))) (fun _ _ _ _ _ => (g_var 10))) (g_lst a_nil))))))))))))))))))))))))) ?_
  intro ds s Q hl h
  obtain ⟨a, xs, rfl, rfl, h⟩ := h
  simp only [List.map_cons, List.map_nil, List.cons_append, List.nil_append, List.append_nil, List.length_cons, List.length_nil, Nat.zero_add, Nat.reduceAdd, Nat.reduceSub, List.replicate_succ, List.replicate_zero, List.getD_cons_zero, List.getD_cons_succ, List.set_cons_zero, List.set_cons_succ, OQ_some]
  refine seq_run (fun δ' s' => ∃ (xs' : List Int) , δ' = [some (.ref a), none, none, none, none, none, none, none, none, none, none, none] ∧ s' = some (a, xs')) (fun E' hn => ?_) (fun δ' s' hP => ?_)
  · simp only [MS.ret, MS.retN, MS.ite, MS.seq, MS.nil, MS.drop, MS.set, MS.asg, MS.par, MS.par3, MS.no, MS.for, MS.aug, ME.var, ME.c, ME.op1, ME.op2, ME.of, ME.ite, ME.chain, MT.op2, MT.op1, MT.of, MT.and, MT.or, MT.not, MT.chain, MA.nil, MA.cons, ME.tup, ME.lst, ME.fn, ME.call, ME.lc, ME.sl, MO.no, MO.yes, MI.seq, MI.of, MI.ofA, ME.disp, ME.callA, ME.callR, ME.dc, ME.lc2, ME.sorted, List.map_cons, List.map_nil, List.cons_append, List.nil_append, List.append_nil, List.length_cons, List.length_nil, Nat.zero_add, Nat.reduceAdd, Nat.reduceSub, List.replicate_succ, List.replicate_zero, List.getD_cons_zero, List.getD_cons_succ, List.set_cons_zero, List.set_cons_succ, OQ_some, negD]
    simp only [mul_x8, mul_x9, OQ_some]
    repeat (refine And.intro (by decide) ?_)
    refine tells_run (by repeat (first | exact fmn | refine fmc (by first | decide +kernel) ?_)) (by repeat (first | exact fmn | refine fmc (by first | decide +kernel) ?_)) ?_
    simp only [OQ_some, blD_bl, Bool.not_true, if_false, Bool.false_eq_true]
    exact hn _ _ ⟨_, rfl, rfl⟩
  obtain ⟨xs, rfl, rfl⟩ := hP
  refine seq_run (fun δ' s' => ∃ (xs' : List Int) , δ' = [some (.ref a), none, none, none, none, none, none, none, none, none, none, none] ∧ s' = some (a, xs')) (fun E' hn => ?_) (fun δ' s' hP => ?_)
  · simp only [MS.ret, MS.retN, MS.ite, MS.seq, MS.nil, MS.drop, MS.set, MS.asg, MS.par, MS.par3, MS.no, MS.for, MS.aug, ME.var, ME.c, ME.op1, ME.op2, ME.of, ME.ite, ME.chain, MT.op2, MT.op1, MT.of, MT.and, MT.or, MT.not, MT.chain, MA.nil, MA.cons, ME.tup, ME.lst, ME.fn, ME.call, ME.lc, ME.sl, MO.no, MO.yes, MI.seq, MI.of, MI.ofA, ME.disp, ME.callA, ME.callR, ME.dc, ME.lc2, ME.sorted, List.map_cons, List.map_nil, List.cons_append, List.nil_append, List.append_nil, List.length_cons, List.length_nil, Nat.zero_add, Nat.reduceAdd, Nat.reduceSub, List.replicate_succ, List.replicate_zero, List.getD_cons_zero, List.getD_cons_succ, List.set_cons_zero, List.set_cons_succ, OQ_some, negD]
    refine ⟨trivial, dr_word fun v xs1 h0 h1 => ?_⟩
    repeat (refine And.intro (by decide) ?_)
    refine tells_run (fmc (by decide +kernel) (fmc (by decide +kernel) (fmc ⟨gd_int _ _, wi_int h0 h1⟩ fmn))) (by repeat (first | exact fmn | refine fmc (by first | decide +kernel) ?_)) ?_
    simp only [OQ_some, blD_bl, Bool.not_true, if_false, Bool.false_eq_true]
    exact hn _ _ ⟨_, rfl, rfl⟩
  obtain ⟨xs, rfl, rfl⟩ := hP
  refine seq_run (fun δ' s' => ∃ (xs' : List Int) , δ' = [some (.ref a), none, none, none, none, none, none, none, none, none, none, none] ∧ s' = some (a, xs')) (fun E' hn => ?_) (fun δ' s' hP => ?_)
  · simp only [MS.ret, MS.retN, MS.ite, MS.seq, MS.nil, MS.drop, MS.set, MS.asg, MS.par, MS.par3, MS.no, MS.for, MS.aug, ME.var, ME.c, ME.op1, ME.op2, ME.of, ME.ite, ME.chain, MT.op2, MT.op1, MT.of, MT.and, MT.or, MT.not, MT.chain, MA.nil, MA.cons, ME.tup, ME.lst, ME.fn, ME.call, ME.lc, ME.sl, MO.no, MO.yes, MI.seq, MI.of, MI.ofA, ME.disp, ME.callA, ME.callR, ME.dc, ME.lc2, ME.sorted, List.map_cons, List.map_nil, List.cons_append, List.nil_append, List.append_nil, List.length_cons, List.length_nil, Nat.zero_add, Nat.reduceAdd, Nat.reduceSub, List.replicate_succ, List.replicate_zero, List.getD_cons_zero, List.getD_cons_succ, List.set_cons_zero, List.set_cons_succ, OQ_some, negD]
    repeat (refine And.intro (by decide) ?_)
    refine dr_word fun v xs1 h0 h1 => ?_
    rw [show (D.int 40) = D.int ((40 : Nat) : Int) from rfl, mul_one (by decide) (by decide)]
    simp only [OQ_some]
    repeat (refine And.intro (by decide) ?_)
    refine tells_run (fmc (by decide +kernel) (fmc (by decide +kernel) (fmc ⟨(show gds 39 (List.replicate 40 (D.int v)) = true from gds_rep (gd_int _ _) 40), (show (List.replicate 40 (D.int v)).all (withinD 0 65535) = true from all_rep (wi_int h0 h1) 40)⟩ fmn))) (by repeat (first | exact fmn | refine fmc (by first | decide +kernel) ?_)) ?_
    simp only [OQ_some, blD_bl, Bool.not_true, if_false, Bool.false_eq_true]
    exact hn _ _ ⟨_, rfl, rfl⟩
  obtain ⟨xs, rfl, rfl⟩ := hP
  refine seq_run (fun δ' s' => ∃ (xs' : List Int) (cs : List D), CallsOk cs ∧ δ' = [some (.ref a), some (.lst cs), none, none, none, none, none, none, none, none, none, none] ∧ s' = some (a, xs')) (fun E' hn => ?_) (fun δ' s' hP => ?_)
  · simp only [MS.ret, MS.retN, MS.ite, MS.seq, MS.nil, MS.drop, MS.set, MS.asg, MS.par, MS.par3, MS.no, MS.for, MS.aug, ME.var, ME.c, ME.op1, ME.op2, ME.of, ME.ite, ME.chain, MT.op2, MT.op1, MT.of, MT.and, MT.or, MT.not, MT.chain, MA.nil, MA.cons, ME.tup, ME.lst, ME.fn, ME.call, ME.lc, ME.sl, MO.no, MO.yes, MI.seq, MI.of, MI.ofA, ME.disp, ME.callA, ME.callR, ME.dc, ME.lc2, ME.sorted, List.map_cons, List.map_nil, List.cons_append, List.nil_append, List.append_nil, List.length_cons, List.length_nil, Nat.zero_add, Nat.reduceAdd, Nat.reduceSub, List.replicate_succ, List.replicate_zero, List.getD_cons_zero, List.getD_cons_succ, List.set_cons_zero, List.set_cons_succ, OQ_some, negD]
    exact ⟨trivial, dr_calls fun cs xs1 hc => hn _ _ ⟨_, cs, hc, rfl, rfl⟩⟩
  obtain ⟨xs, cs, hc, rfl, rfl⟩ := hP
  refine seq_run (fun δ' s' => ∃ (xs' : List Int) (cs : List D) (kind : D), CallsOk cs ∧ gd 19 kind = true ∧ δ' = [some (.ref a), some (.lst cs), none, none, none, some kind, some (.tup [.str "own"]), none, none, none, none, none] ∧ s' = some (a, xs')) (fun E' hn => ?_) (fun δ' s' hP => ?_)
  · simp only [MS.ret, MS.retN, MS.ite, MS.seq, MS.nil, MS.drop, MS.set, MS.asg, MS.par, MS.par3, MS.no, MS.for, MS.aug, ME.var, ME.c, ME.op1, ME.op2, ME.of, ME.ite, ME.chain, MT.op2, MT.op1, MT.of, MT.and, MT.or, MT.not, MT.chain, MA.nil, MA.cons, ME.tup, ME.lst, ME.fn, ME.call, ME.lc, ME.sl, MO.no, MO.yes, MI.seq, MI.of, MI.ofA, ME.disp, ME.callA, ME.callR, ME.dc, ME.lc2, ME.sorted, List.map_cons, List.map_nil, List.cons_append, List.nil_append, List.append_nil, List.length_cons, List.length_nil, Nat.zero_add, Nat.reduceAdd, Nat.reduceSub, List.replicate_succ, List.replicate_zero, List.getD_cons_zero, List.getD_cons_succ, List.set_cons_zero, List.set_cons_succ, OQ_some, negD]
    obtain ⟨hc1, hc2, i, c1, m, n, kind, r, rest, rfl, hk1, hk2⟩ := hc
    have e1 : ixD (.lst (.tup [.str "read", .int i] :: c1 :: .tup [.str "map", m, n, kind, r] :: rest)) (.int 2) = some (.tup [.str "map", m, n, kind, r]) := at2 _ _ _ _
    have e2 : ixD (.tup [.str "map", m, n, kind, r]) (.int 3) = some kind := rfl
    simp only [e1, e2, OQ_some]
    refine ⟨by decide, hn _ _ ⟨_, _, kind, ⟨hc1, hc2, i, c1, m, n, kind, r, rest, rfl, hk1, hk2⟩, hk2, rfl, rfl⟩⟩
  obtain ⟨xs, cs, kind, hc, hk, rfl, rfl⟩ := hP
  refine seq_run (fun δ' s' => ∃ (xs' : List Int) (cs : List D) (kind : D) (bent : List D), CallsOk cs ∧ gd 19 kind = true ∧ Bad callD 20 bent ∧ δ' = [some (.ref a), some (.lst cs), some (.lst bent), none, none, some kind, some (.tup [.str "own"]), none, none, none, none, none] ∧ s' = some (a, xs')) (fun E' hn => ?_) (fun δ' s' hP => ?_)
  · simp only [MS.ret, MS.retN, MS.ite, MS.seq, MS.nil, MS.drop, MS.set, MS.asg, MS.par, MS.par3, MS.no, MS.for, MS.aug, ME.var, ME.c, ME.op1, ME.op2, ME.of, ME.ite, ME.chain, MT.op2, MT.op1, MT.of, MT.and, MT.or, MT.not, MT.chain, MA.nil, MA.cons, ME.tup, ME.lst, ME.fn, ME.call, ME.lc, ME.sl, MO.no, MO.yes, MI.seq, MI.of, MI.ofA, ME.disp, ME.callA, ME.callR, ME.dc, ME.lc2, ME.sorted, List.map_cons, List.map_nil, List.cons_append, List.nil_append, List.append_nil, List.length_cons, List.length_nil, Nat.zero_add, Nat.reduceAdd, Nat.reduceSub, List.replicate_succ, List.replicate_zero, List.getD_cons_zero, List.getD_cons_succ, List.set_cons_zero, List.set_cons_succ, OQ_some, negD]
    repeat (refine And.intro (by decide) ?_)
    exact hn _ _ ⟨_, cs, kind, _, hc, hk, ⟨(by repeat (first | exact fmn | refine fmc (by first | decide +kernel) ?_)), by simp⟩, rfl, rfl⟩
  obtain ⟨xs, cs, kind, bent, hc, hk, hb, rfl, rfl⟩ := hP
  refine seq_run (fun δ' s' => ∃ (xs' : List Int) (cs : List D) (kind : D) (bent : List D), CallsOk cs ∧ gd 19 kind = true ∧ Bad callD 40 bent ∧ δ' = [some (.ref a), some (.lst cs), some (.lst bent), none, none, some kind, some (.tup [.str "own"]), none, none, none, none, none] ∧ s' = some (a, xs')) (fun E' hn => ?_) (fun δ' s' hP => ?_)
  · simp only [MS.ret, MS.retN, MS.ite, MS.seq, MS.nil, MS.drop, MS.set, MS.asg, MS.par, MS.par3, MS.no, MS.for, MS.aug, ME.var, ME.c, ME.op1, ME.op2, ME.of, ME.ite, ME.chain, MT.op2, MT.op1, MT.of, MT.and, MT.or, MT.not, MT.chain, MA.nil, MA.cons, ME.tup, ME.lst, ME.fn, ME.call, ME.lc, ME.sl, MO.no, MO.yes, MI.seq, MI.of, MI.ofA, ME.disp, ME.callA, ME.callR, ME.dc, ME.lc2, ME.sorted, List.map_cons, List.map_nil, List.cons_append, List.nil_append, List.append_nil, List.length_cons, List.length_nil, Nat.zero_add, Nat.reduceAdd, Nat.reduceSub, List.replicate_succ, List.replicate_zero, List.getD_cons_zero, List.getD_cons_succ, List.set_cons_zero, List.set_cons_succ, OQ_some, negD]
    repeat (refine And.intro (by decide) ?_)
    rw [add_lst (by have := hb.2; simp only [List.length_cons, List.length_nil]; omega)]
    simp only [OQ_some]
    exact hn _ _ ⟨_, cs, kind, _, hc, hk, (hb.app (m := 20) ⟨(by repeat (first | exact fmn | refine fmc (by first | decide +kernel | exact ⟨by simp only [ok, gd_str, gd_int, gd_bl, gd_non, gd_tup, gd_lst, gds_nil, gds_cons, Bool.and_true, Bool.true_and, okl_0, okl_1, okl_2, okl_3, okl_4, okl_5, okl_6, okl_7, okl_8, okl_9, okl_10, okl_11, okl_12, okl_13, okl_14, okl_15, okl_16, okl_17, okl_18, okl_19, okl_20, okl_21, okl_22, okl_23, okl_24, okl_25, okl_26, okl_27, okl_28, okl_29, okl_30, okl_31, okl_32, okl_33, okl_34, okl_35, okl_36, okl_37, okl_38, okl_39, okl_40, okl_41, okl_42, okl_43, okl_44, okl_45, okl_46, okl_47, okl_48, okl_49, okl_50, okl_51, okl_52, okl_53, okl_54, okl_55, okl_56, okl_57, okl_58, okl_59, okl_60, okl_61, okl_62, okl_63, okl_64, okl_65, okl_66, okl_67, okl_68, okl_69, okl_70, okl_71, okl_72, okl_73, okl_74, okl_75, okl_76, okl_77, okl_78, okl_79, okl_80, okl_81, okl_82, gd_mono 19 29 kind (by omega) hk], by kernel_rfl⟩) ?_)), by simp⟩), rfl, rfl⟩
  obtain ⟨xs, cs, kind, bent, hc, hk, hb, rfl, rfl⟩ := hP
  refine seq_run (fun δ' s' => ∃ (xs' : List Int) (cs : List D) (kind : D) (bent : List D), CallsOk cs ∧ gd 19 kind = true ∧ Bad callD 60 bent ∧ δ' = [some (.ref a), some (.lst cs), some (.lst bent), none, none, some kind, some (.tup [.str "own"]), none, none, none, none, none] ∧ s' = some (a, xs')) (fun E' hn => ?_) (fun δ' s' hP => ?_)
  · simp only [MS.ret, MS.retN, MS.ite, MS.seq, MS.nil, MS.drop, MS.set, MS.asg, MS.par, MS.par3, MS.no, MS.for, MS.aug, ME.var, ME.c, ME.op1, ME.op2, ME.of, ME.ite, ME.chain, MT.op2, MT.op1, MT.of, MT.and, MT.or, MT.not, MT.chain, MA.nil, MA.cons, ME.tup, ME.lst, ME.fn, ME.call, ME.lc, ME.sl, MO.no, MO.yes, MI.seq, MI.of, MI.ofA, ME.disp, ME.callA, ME.callR, ME.dc, ME.lc2, ME.sorted, List.map_cons, List.map_nil, List.cons_append, List.nil_append, List.append_nil, List.length_cons, List.length_nil, Nat.zero_add, Nat.reduceAdd, Nat.reduceSub, List.replicate_succ, List.replicate_zero, List.getD_cons_zero, List.getD_cons_succ, List.set_cons_zero, List.set_cons_succ, OQ_some, negD]
    repeat (refine And.intro (by decide) ?_)
    rw [add_lst (by have := hb.2; simp only [List.length_cons, List.length_nil]; omega)]
    simp only [OQ_some]
    exact hn _ _ ⟨_, cs, kind, _, hc, hk, (hb.app (m := 20) ⟨(by repeat (first | exact fmn | refine fmc (by first | decide +kernel | exact ⟨by simp only [ok, gd_str, gd_int, gd_bl, gd_non, gd_tup, gd_lst, gds_nil, gds_cons, Bool.and_true, Bool.true_and, okl_0, okl_1, okl_2, okl_3, okl_4, okl_5, okl_6, okl_7, okl_8, okl_9, okl_10, okl_11, okl_12, okl_13, okl_14, okl_15, okl_16, okl_17, okl_18, okl_19, okl_20, okl_21, okl_22, okl_23, okl_24, okl_25, okl_26, okl_27, okl_28, okl_29, okl_30, okl_31, okl_32, okl_33, okl_34, okl_35, okl_36, okl_37, okl_38, okl_39, okl_40, okl_41, okl_42, okl_43, okl_44, okl_45, okl_46, okl_47, okl_48, okl_49, okl_50, okl_51, okl_52, okl_53, okl_54, okl_55, okl_56, okl_57, okl_58, okl_59, okl_60, okl_61, okl_62, okl_63, okl_64, okl_65, okl_66, okl_67, okl_68, okl_69, okl_70, okl_71, okl_72, okl_73, okl_74, okl_75, okl_76, okl_77, okl_78, okl_79, okl_80, okl_81, okl_82, gd_mono 19 29 kind (by omega) hk], by kernel_rfl⟩) ?_)), by simp⟩), rfl, rfl⟩
  obtain ⟨xs, cs, kind, bent, hc, hk, hb, rfl, rfl⟩ := hP
  refine seq_run (fun δ' s' => ∃ (xs' : List Int) (cs : List D) (kind : D) (bent : List D), CallsOk cs ∧ gd 19 kind = true ∧ Bad callD 80 bent ∧ δ' = [some (.ref a), some (.lst cs), some (.lst bent), none, none, some kind, some (.tup [.str "own"]), none, none, none, none, none] ∧ s' = some (a, xs')) (fun E' hn => ?_) (fun δ' s' hP => ?_)
  · simp only [MS.ret, MS.retN, MS.ite, MS.seq, MS.nil, MS.drop, MS.set, MS.asg, MS.par, MS.par3, MS.no, MS.for, MS.aug, ME.var, ME.c, ME.op1, ME.op2, ME.of, ME.ite, ME.chain, MT.op2, MT.op1, MT.of, MT.and, MT.or, MT.not, MT.chain, MA.nil, MA.cons, ME.tup, ME.lst, ME.fn, ME.call, ME.lc, ME.sl, MO.no, MO.yes, MI.seq, MI.of, MI.ofA, ME.disp, ME.callA, ME.callR, ME.dc, ME.lc2, ME.sorted, List.map_cons, List.map_nil, List.cons_append, List.nil_append, List.append_nil, List.length_cons, List.length_nil, Nat.zero_add, Nat.reduceAdd, Nat.reduceSub, List.replicate_succ, List.replicate_zero, List.getD_cons_zero, List.getD_cons_succ, List.set_cons_zero, List.set_cons_succ, OQ_some, negD]
    repeat (refine And.intro (by decide) ?_)
    rw [add_lst (by have := hb.2; simp only [List.length_cons, List.length_nil]; omega)]
    simp only [OQ_some]
    exact hn _ _ ⟨_, cs, kind, _, hc, hk, (hb.app (m := 20) ⟨(by repeat (first | exact fmn | refine fmc (by first | decide +kernel | exact ⟨by simp only [ok, gd_str, gd_int, gd_bl, gd_non, gd_tup, gd_lst, gds_nil, gds_cons, Bool.and_true, Bool.true_and, okl_0, okl_1, okl_2, okl_3, okl_4, okl_5, okl_6, okl_7, okl_8, okl_9, okl_10, okl_11, okl_12, okl_13, okl_14, okl_15, okl_16, okl_17, okl_18, okl_19, okl_20, okl_21, okl_22, okl_23, okl_24, okl_25, okl_26, okl_27, okl_28, okl_29, okl_30, okl_31, okl_32, okl_33, okl_34, okl_35, okl_36, okl_37, okl_38, okl_39, okl_40, okl_41, okl_42, okl_43, okl_44, okl_45, okl_46, okl_47, okl_48, okl_49, okl_50, okl_51, okl_52, okl_53, okl_54, okl_55, okl_56, okl_57, okl_58, okl_59, okl_60, okl_61, okl_62, okl_63, okl_64, okl_65, okl_66, okl_67, okl_68, okl_69, okl_70, okl_71, okl_72, okl_73, okl_74, okl_75, okl_76, okl_77, okl_78, okl_79, okl_80, okl_81, okl_82, gd_mono 19 29 kind (by omega) hk], by kernel_rfl⟩) ?_)), by simp⟩), rfl, rfl⟩
  obtain ⟨xs, cs, kind, bent, hc, hk, hb, rfl, rfl⟩ := hP
  refine seq_run (fun δ' s' => ∃ (xs' : List Int) (cs : List D) (kind : D) (bent : List D), CallsOk cs ∧ gd 19 kind = true ∧ Bad callD 100 bent ∧ δ' = [some (.ref a), some (.lst cs), some (.lst bent), none, none, some kind, some (.tup [.str "own"]), none, none, none, none, none] ∧ s' = some (a, xs')) (fun E' hn => ?_) (fun δ' s' hP => ?_)
  · simp only [MS.ret, MS.retN, MS.ite, MS.seq, MS.nil, MS.drop, MS.set, MS.asg, MS.par, MS.par3, MS.no, MS.for, MS.aug, ME.var, ME.c, ME.op1, ME.op2, ME.of, ME.ite, ME.chain, MT.op2, MT.op1, MT.of, MT.and, MT.or, MT.not, MT.chain, MA.nil, MA.cons, ME.tup, ME.lst, ME.fn, ME.call, ME.lc, ME.sl, MO.no, MO.yes, MI.seq, MI.of, MI.ofA, ME.disp, ME.callA, ME.callR, ME.dc, ME.lc2, ME.sorted, List.map_cons, List.map_nil, List.cons_append, List.nil_append, List.append_nil, List.length_cons, List.length_nil, Nat.zero_add, Nat.reduceAdd, Nat.reduceSub, List.replicate_succ, List.replicate_zero, List.getD_cons_zero, List.getD_cons_succ, List.set_cons_zero, List.set_cons_succ, OQ_some, negD]
    simp only [mul_x9, OQ_some]
    repeat (refine And.intro (by decide) ?_)
    rw [add_lst (by have := hb.2; simp only [List.length_cons, List.length_nil]; omega)]
    simp only [OQ_some]
    exact hn _ _ ⟨_, cs, kind, _, hc, hk, (hb.app (m := 20) ⟨(by repeat (first | exact fmn | refine fmc (by first | decide +kernel | exact ⟨by simp only [ok, gd_str, gd_int, gd_bl, gd_non, gd_tup, gd_lst, gds_nil, gds_cons, Bool.and_true, Bool.true_and, okl_0, okl_1, okl_2, okl_3, okl_4, okl_5, okl_6, okl_7, okl_8, okl_9, okl_10, okl_11, okl_12, okl_13, okl_14, okl_15, okl_16, okl_17, okl_18, okl_19, okl_20, okl_21, okl_22, okl_23, okl_24, okl_25, okl_26, okl_27, okl_28, okl_29, okl_30, okl_31, okl_32, okl_33, okl_34, okl_35, okl_36, okl_37, okl_38, okl_39, okl_40, okl_41, okl_42, okl_43, okl_44, okl_45, okl_46, okl_47, okl_48, okl_49, okl_50, okl_51, okl_52, okl_53, okl_54, okl_55, okl_56, okl_57, okl_58, okl_59, okl_60, okl_61, okl_62, okl_63, okl_64, okl_65, okl_66, okl_67, okl_68, okl_69, okl_70, okl_71, okl_72, okl_73, okl_74, okl_75, okl_76, okl_77, okl_78, okl_79, okl_80, okl_81, okl_82, gd_mono 19 29 kind (by omega) hk], by kernel_rfl⟩) ?_)), by simp⟩), rfl, rfl⟩
  obtain ⟨xs, cs, kind, bent, hc, hk, hb, rfl, rfl⟩ := hP
  refine seq_run (fun δ' s' => ∃ (xs' : List Int) (cs : List D) (kind : D) (bent : List D), CallsOk cs ∧ gd 19 kind = true ∧ Bad callD 120 bent ∧ δ' = [some (.ref a), some (.lst cs), some (.lst bent), none, none, some kind, some (.tup [.str "own"]), none, none, none, none, none] ∧ s' = some (a, xs')) (fun E' hn => ?_) (fun δ' s' hP => ?_)
  · simp only [MS.ret, MS.retN, MS.ite, MS.seq, MS.nil, MS.drop, MS.set, MS.asg, MS.par, MS.par3, MS.no, MS.for, MS.aug, ME.var, ME.c, ME.op1, ME.op2, ME.of, ME.ite, ME.chain, MT.op2, MT.op1, MT.of, MT.and, MT.or, MT.not, MT.chain, MA.nil, MA.cons, ME.tup, ME.lst, ME.fn, ME.call, ME.lc, ME.sl, MO.no, MO.yes, MI.seq, MI.of, MI.ofA, ME.disp, ME.callA, ME.callR, ME.dc, ME.lc2, ME.sorted, List.map_cons, List.map_nil, List.cons_append, List.nil_append, List.append_nil, List.length_cons, List.length_nil, Nat.zero_add, Nat.reduceAdd, Nat.reduceSub, List.replicate_succ, List.replicate_zero, List.getD_cons_zero, List.getD_cons_succ, List.set_cons_zero, List.set_cons_succ, OQ_some, negD]
    repeat (refine And.intro (by decide) ?_)
    rw [add_lst (by have := hb.2; simp only [List.length_cons, List.length_nil]; omega)]
    simp only [OQ_some]
    exact hn _ _ ⟨_, cs, kind, _, hc, hk, (hb.app (m := 20) ⟨(by repeat (first | exact fmn | refine fmc (by first | decide +kernel | exact ⟨by simp only [ok, gd_str, gd_int, gd_bl, gd_non, gd_tup, gd_lst, gds_nil, gds_cons, Bool.and_true, Bool.true_and, okl_0, okl_1, okl_2, okl_3, okl_4, okl_5, okl_6, okl_7, okl_8, okl_9, okl_10, okl_11, okl_12, okl_13, okl_14, okl_15, okl_16, okl_17, okl_18, okl_19, okl_20, okl_21, okl_22, okl_23, okl_24, okl_25, okl_26, okl_27, okl_28, okl_29, okl_30, okl_31, okl_32, okl_33, okl_34, okl_35, okl_36, okl_37, okl_38, okl_39, okl_40, okl_41, okl_42, okl_43, okl_44, okl_45, okl_46, okl_47, okl_48, okl_49, okl_50, okl_51, okl_52, okl_53, okl_54, okl_55, okl_56, okl_57, okl_58, okl_59, okl_60, okl_61, okl_62, okl_63, okl_64, okl_65, okl_66, okl_67, okl_68, okl_69, okl_70, okl_71, okl_72, okl_73, okl_74, okl_75, okl_76, okl_77, okl_78, okl_79, okl_80, okl_81, okl_82, gd_mono 19 29 kind (by omega) hk], by kernel_rfl⟩) ?_)), by simp⟩), rfl, rfl⟩
  obtain ⟨xs, cs, kind, bent, hc, hk, hb, rfl, rfl⟩ := hP
  refine seq_run (fun δ' s' => ∃ (xs' : List Int) (cs : List D) (kind : D) (bent : List D), CallsOk cs ∧ gd 19 kind = true ∧ Bad callD 140 bent ∧ δ' = [some (.ref a), some (.lst cs), some (.lst bent), none, none, some kind, some (.tup [.str "own"]), none, none, none, none, none] ∧ s' = some (a, xs')) (fun E' hn => ?_) (fun δ' s' hP => ?_)
  · simp only [MS.ret, MS.retN, MS.ite, MS.seq, MS.nil, MS.drop, MS.set, MS.asg, MS.par, MS.par3, MS.no, MS.for, MS.aug, ME.var, ME.c, ME.op1, ME.op2, ME.of, ME.ite, ME.chain, MT.op2, MT.op1, MT.of, MT.and, MT.or, MT.not, MT.chain, MA.nil, MA.cons, ME.tup, ME.lst, ME.fn, ME.call, ME.lc, ME.sl, MO.no, MO.yes, MI.seq, MI.of, MI.ofA, ME.disp, ME.callA, ME.callR, ME.dc, ME.lc2, ME.sorted, List.map_cons, List.map_nil, List.cons_append, List.nil_append, List.append_nil, List.length_cons, List.length_nil, Nat.zero_add, Nat.reduceAdd, Nat.reduceSub, List.replicate_succ, List.replicate_zero, List.getD_cons_zero, List.getD_cons_succ, List.set_cons_zero, List.set_cons_succ, OQ_some, negD]
    rw [show (D.int 1537) = D.int ((1537 : Nat) : Int) from rfl, mul_one (by decide) (by decide)]
    simp only [OQ_some]
    repeat (refine And.intro (by decide) ?_)
    rw [add_lst (by have := hb.2; simp only [List.length_cons, List.length_nil]; omega)]
    simp only [OQ_some]
    exact hn _ _ ⟨_, cs, kind, _, hc, hk, (hb.app (m := 20) ⟨(by repeat (first | exact fmn | refine fmc (by first | decide +kernel | exact ⟨by simp only [ok, gd_str, gd_int, gd_bl, gd_non, gd_tup, gd_lst, gds_nil, gds_cons, Bool.and_true, Bool.true_and, okl_0, okl_1, okl_2, okl_3, okl_4, okl_5, okl_6, okl_7, okl_8, okl_9, okl_10, okl_11, okl_12, okl_13, okl_14, okl_15, okl_16, okl_17, okl_18, okl_19, okl_20, okl_21, okl_22, okl_23, okl_24, okl_25, okl_26, okl_27, okl_28, okl_29, okl_30, okl_31, okl_32, okl_33, okl_34, okl_35, okl_36, okl_37, okl_38, okl_39, okl_40, okl_41, okl_42, okl_43, okl_44, okl_45, okl_46, okl_47, okl_48, okl_49, okl_50, okl_51, okl_52, okl_53, okl_54, okl_55, okl_56, okl_57, okl_58, okl_59, okl_60, okl_61, okl_62, okl_63, okl_64, okl_65, okl_66, okl_67, okl_68, okl_69, okl_70, okl_71, okl_72, okl_73, okl_74, okl_75, okl_76, okl_77, okl_78, okl_79, okl_80, okl_81, okl_82, gd_mono 19 29 kind (by omega) hk], by kernel_rfl⟩) ?_)), by simp⟩), rfl, rfl⟩
  obtain ⟨xs, cs, kind, bent, hc, hk, hb, rfl, rfl⟩ := hP
  refine seq_run (fun δ' s' => ∃ (xs' : List Int) (cs : List D) (kind : D) (bent : List D), CallsOk cs ∧ gd 19 kind = true ∧ Bad callD 160 bent ∧ δ' = [some (.ref a), some (.lst cs), some (.lst bent), none, none, some kind, some (.tup [.str "own"]), none, none, none, none, none] ∧ s' = some (a, xs')) (fun E' hn => ?_) (fun δ' s' hP => ?_)
  · simp only [MS.ret, MS.retN, MS.ite, MS.seq, MS.nil, MS.drop, MS.set, MS.asg, MS.par, MS.par3, MS.no, MS.for, MS.aug, ME.var, ME.c, ME.op1, ME.op2, ME.of, ME.ite, ME.chain, MT.op2, MT.op1, MT.of, MT.and, MT.or, MT.not, MT.chain, MA.nil, MA.cons, ME.tup, ME.lst, ME.fn, ME.call, ME.lc, ME.sl, MO.no, MO.yes, MI.seq, MI.of, MI.ofA, ME.disp, ME.callA, ME.callR, ME.dc, ME.lc2, ME.sorted, List.map_cons, List.map_nil, List.cons_append, List.nil_append, List.append_nil, List.length_cons, List.length_nil, Nat.zero_add, Nat.reduceAdd, Nat.reduceSub, List.replicate_succ, List.replicate_zero, List.getD_cons_zero, List.getD_cons_succ, List.set_cons_zero, List.set_cons_succ, OQ_some, negD]
    obtain ⟨hc1, hc2, i, c1, m, nn, kd, r, rest, rfl, hk1, hk2⟩ := hc
    have e0 : ixD (.lst (.tup [.str "read", .int i] :: c1 :: .tup [.str "map", m, nn, kd, r] :: rest)) (.int 0) = some (.tup [.str "read", .int i]) := at0 _ _
    rw [show (D.int 17) = D.int ((17 : Nat) : Int) from rfl, mul_one (by decide) (by decide)]
    simp only [e0, OQ_some, toLstD]
    repeat (refine And.intro (by decide) ?_)
    rw [add_lst (by have := hb.2; simp only [List.length_cons, List.length_nil]; omega)]
    simp only [OQ_some]
    exact hn _ _ ⟨_, _, kind, _, ⟨hc1, hc2, i, c1, m, nn, kd, r, rest, rfl, hk1, hk2⟩, hk, (hb.app (m := 20) ⟨(by repeat (first | exact fmn | refine fmc (by first | decide +kernel | exact ⟨by simp only [ok, gd_str, gd_int, gd_bl, gd_non, gd_tup, gd_lst, gds_nil, gds_cons, Bool.and_true, Bool.true_and, okl_0, okl_1, okl_2, okl_3, okl_4, okl_5, okl_6, okl_7, okl_8, okl_9, okl_10, okl_11, okl_12, okl_13, okl_14, okl_15, okl_16, okl_17, okl_18, okl_19, okl_20, okl_21, okl_22, okl_23, okl_24, okl_25, okl_26, okl_27, okl_28, okl_29, okl_30, okl_31, okl_32, okl_33, okl_34, okl_35, okl_36, okl_37, okl_38, okl_39, okl_40, okl_41, okl_42, okl_43, okl_44, okl_45, okl_46, okl_47, okl_48, okl_49, okl_50, okl_51, okl_52, okl_53, okl_54, okl_55, okl_56, okl_57, okl_58, okl_59, okl_60, okl_61, okl_62, okl_63, okl_64, okl_65, okl_66, okl_67, okl_68, okl_69, okl_70, okl_71, okl_72, okl_73, okl_74, okl_75, okl_76, okl_77, okl_78, okl_79, okl_80, okl_81, okl_82, gd_mono 19 29 kind (by omega) hk], by kernel_rfl⟩) ?_)), by simp⟩), rfl, rfl⟩
  obtain ⟨xs, cs, kind, bent, hc, hk, hb, rfl, rfl⟩ := hP
  refine seq_run (fun δ' s' => ∃ (xs' : List Int) (cs : List D) (o2 : Option D) (o5 : Option D) (o6 : Option D), CallsOk cs ∧ δ' = [some (.ref a), some (.lst cs), o2, none, none, o5, o6, none, none, none, none, none] ∧ s' = some (a, xs')) (fun E' hn => ?_) (fun δ' s' hP => ?_)
  · simp only [MS.ret, MS.retN, MS.ite, MS.seq, MS.nil, MS.drop, MS.set, MS.asg, MS.par, MS.par3, MS.no, MS.for, MS.aug, ME.var, ME.c, ME.op1, ME.op2, ME.of, ME.ite, ME.chain, MT.op2, MT.op1, MT.of, MT.and, MT.or, MT.not, MT.chain, MA.nil, MA.cons, ME.tup, ME.lst, ME.fn, ME.call, ME.lc, ME.sl, MO.no, MO.yes, MI.seq, MI.of, MI.ofA, ME.disp, ME.callA, ME.callR, ME.dc, ME.lc2, ME.sorted, List.map_cons, List.map_nil, List.cons_append, List.nil_append, List.append_nil, List.length_cons, List.length_nil, Nat.zero_add, Nat.reduceAdd, Nat.reduceSub, List.replicate_succ, List.replicate_zero, List.getD_cons_zero, List.getD_cons_succ, List.set_cons_zero, List.set_cons_succ, OQ_some, negD]
    refine ⟨trivial, tells_run (fun d hd => ⟨ok20 (hc.1 d hd).1, (hc.1 d hd).2⟩) hb.oks ?_⟩
    simp only [OQ_some, blD_bl, Bool.not_true, if_false, Bool.false_eq_true]
    exact hn _ _ ⟨_, cs, _, _, _, hc, rfl, rfl⟩
  obtain ⟨xs, cs, o2, o5, o6, hc, rfl, rfl⟩ := hP
  refine seq_run (fun δ' s' => ∃ (xs' : List Int) (cs : List D) (o2 : Option D) (o5 : Option D) (o6 : Option D) (k : Int) (x : Str), CallsOk cs ∧ 0 ≤ k ∧ k < 99 ∧ nameD (.str x) = true ∧ okS x = true ∧ δ' = [some (.ref a), some (.lst cs), o2, none, none, o5, o6, some (.int k), some (.str x), none, none, none] ∧ s' = some (a, xs')) (fun E' hn => ?_) (fun δ' s' hP => ?_)
  · simp only [MS.ret, MS.retN, MS.ite, MS.seq, MS.nil, MS.drop, MS.set, MS.asg, MS.par, MS.par3, MS.no, MS.for, MS.aug, ME.var, ME.c, ME.op1, ME.op2, ME.of, ME.ite, ME.chain, MT.op2, MT.op1, MT.of, MT.and, MT.or, MT.not, MT.chain, MA.nil, MA.cons, ME.tup, ME.lst, ME.fn, ME.call, ME.lc, ME.sl, MO.no, MO.yes, MI.seq, MI.of, MI.ofA, ME.disp, ME.callA, ME.callR, ME.dc, ME.lc2, ME.sorted, List.map_cons, List.map_nil, List.cons_append, List.nil_append, List.append_nil, List.length_cons, List.length_nil, Nat.zero_add, Nat.reduceAdd, Nat.reduceSub, List.replicate_succ, List.replicate_zero, List.getD_cons_zero, List.getD_cons_succ, List.set_cons_zero, List.set_cons_succ, OQ_some, negD]
    refine ⟨trivial, dr_take (by decide) fun k xs1 hk0 hk1 => ⟨trivial, dr_name fun x xs2 hx0 hx1 => ⟨by decide, ?_⟩⟩⟩
    simp only [setT, setTs, Option.bind_some, List.map_cons, List.map_nil, List.cons_append, List.nil_append, List.append_nil, List.length_cons, List.length_nil, Nat.zero_add, Nat.reduceAdd, Nat.reduceSub, List.replicate_succ, List.replicate_zero, List.getD_cons_zero, List.getD_cons_succ, List.set_cons_zero, List.set_cons_succ, OQ_some]
    exact hn _ _ ⟨_, cs, _, _, _, k, x, hc, hk0, hk1, hx0, ok_okS hx1, rfl, rfl⟩
  obtain ⟨xs, cs, o2, o5, o6, k, x, hc, hk0, hk1, hx0, hx1, rfl, rfl⟩ := hP
  refine seq_run (fun δ' s' => ∃ (xs' : List Int) (cs : List D) (o2 : Option D) (o5 : Option D) (o6 : Option D) (k : Int) (x : Str) (st : List D), CallsOk cs ∧ 0 ≤ k ∧ k < 99 ∧ nameD (.str x) = true ∧ okS x = true ∧ Good stepD 10 st ∧ δ' = [some (.ref a), some (.lst cs), o2, some (.lst (.tup [.str "start", .str x] :: .tup [.str "take", .int k] :: .tup [.str "settle"] :: st)), none, o5, o6, some (.int k), some (.str x), none, none, none] ∧ s' = some (a, xs')) (fun E' hn => ?_) (fun δ' s' hP => ?_)
  · simp only [MS.ret, MS.retN, MS.ite, MS.seq, MS.nil, MS.drop, MS.set, MS.asg, MS.par, MS.par3, MS.no, MS.for, MS.aug, ME.var, ME.c, ME.op1, ME.op2, ME.of, ME.ite, ME.chain, MT.op2, MT.op1, MT.of, MT.and, MT.or, MT.not, MT.chain, MA.nil, MA.cons, ME.tup, ME.lst, ME.fn, ME.call, ME.lc, ME.sl, MO.no, MO.yes, MI.seq, MI.of, MI.ofA, ME.disp, ME.callA, ME.callR, ME.dc, ME.lc2, ME.sorted, List.map_cons, List.map_nil, List.cons_append, List.nil_append, List.append_nil, List.length_cons, List.length_nil, Nat.zero_add, Nat.reduceAdd, Nat.reduceSub, List.replicate_succ, List.replicate_zero, List.getD_cons_zero, List.getD_cons_succ, List.set_cons_zero, List.set_cons_succ, OQ_some, negD]
    have ct : ∀ i : Int, 0 ≤ i → countD (.int i) = true := fun i h => decide_eq_true h
    repeat (refine And.intro (by decide) ?_)
    exact hn _ _ ⟨_, cs, _, _, _, k, x, _, hc, hk0, hk1, hx0, hx1, ⟨fmc (by decide +kernel) (fmc ⟨by simp only [ok, gd_str, gd_int, gd_bl, gd_non, gd_tup, gd_lst, gds_nil, gds_cons, Bool.and_true, Bool.true_and, okl_0, okl_1, okl_2, okl_3, okl_4, okl_5, okl_6, okl_7, okl_8, okl_9, okl_10, okl_11, okl_12, okl_13, okl_14, okl_15, okl_16, okl_17, okl_18, okl_19, okl_20, okl_21, okl_22, okl_23, okl_24, okl_25, okl_26, okl_27, okl_28, okl_29, okl_30, okl_31, okl_32, okl_33, okl_34, okl_35, okl_36, okl_37, okl_38, okl_39, okl_40, okl_41, okl_42, okl_43, okl_44, okl_45, okl_46, okl_47, okl_48, okl_49, okl_50, okl_51, okl_52, okl_53, okl_54, okl_55, okl_56, okl_57, okl_58, okl_59, okl_60, okl_61, okl_62, okl_63, okl_64, okl_65, okl_66, okl_67, okl_68, okl_69, okl_70, okl_71, okl_72, okl_73, okl_74, okl_75, okl_76, okl_77, okl_78, okl_79, okl_80, okl_81, okl_82], by rw [sd_device, ct k hk0]; rfl⟩ (fmc (by decide +kernel) (fmc ⟨by simp only [ok, gd_str, gd_int, gd_bl, gd_non, gd_tup, gd_lst, gds_nil, gds_cons, Bool.and_true, Bool.true_and, okl_0, okl_1, okl_2, okl_3, okl_4, okl_5, okl_6, okl_7, okl_8, okl_9, okl_10, okl_11, okl_12, okl_13, okl_14, okl_15, okl_16, okl_17, okl_18, okl_19, okl_20, okl_21, okl_22, okl_23, okl_24, okl_25, okl_26, okl_27, okl_28, okl_29, okl_30, okl_31, okl_32, okl_33, okl_34, okl_35, okl_36, okl_37, okl_38, okl_39, okl_40, okl_41, okl_42, okl_43, okl_44, okl_45, okl_46, okl_47, okl_48, okl_49, okl_50, okl_51, okl_52, okl_53, okl_54, okl_55, okl_56, okl_57, okl_58, okl_59, okl_60, okl_61, okl_62, okl_63, okl_64, okl_65, okl_66, okl_67, okl_68, okl_69, okl_70, okl_71, okl_72, okl_73, okl_74, okl_75, okl_76, okl_77, okl_78, okl_79, okl_80, okl_81, okl_82], by rw [sd_crash]; simp only [indexesD, ascD, List.all_cons, List.all_nil, List.tail_cons, List.zip_cons_cons, List.zip_nil_right, List.map_cons, List.map_nil, pairD, ltP, countD, Bool.and_true]; simp; omega⟩ fmn))), by simp⟩, rfl, rfl⟩
  obtain ⟨xs, cs, o2, o5, o6, k, x, st, hc, hk0, hk1, hx0, hx1, hs, rfl, rfl⟩ := hP
  refine seq_run (fun δ' s' => ∃ (xs' : List Int) (cs : List D) (o2 : Option D) (o5 : Option D) (o6 : Option D) (k : Int) (x : Str) (st : List D), CallsOk cs ∧ 0 ≤ k ∧ k < 99 ∧ nameD (.str x) = true ∧ okS x = true ∧ Good stepD 40 st ∧ δ' = [some (.ref a), some (.lst cs), o2, some (.lst (.tup [.str "start", .str x] :: .tup [.str "take", .int k] :: .tup [.str "settle"] :: st)), none, o5, o6, some (.int k), some (.str x), none, none, none] ∧ s' = some (a, xs')) (fun E' hn => ?_) (fun δ' s' hP => ?_)
  · simp only [MS.ret, MS.retN, MS.ite, MS.seq, MS.nil, MS.drop, MS.set, MS.asg, MS.par, MS.par3, MS.no, MS.for, MS.aug, ME.var, ME.c, ME.op1, ME.op2, ME.of, ME.ite, ME.chain, MT.op2, MT.op1, MT.of, MT.and, MT.or, MT.not, MT.chain, MA.nil, MA.cons, ME.tup, ME.lst, ME.fn, ME.call, ME.lc, ME.sl, MO.no, MO.yes, MI.seq, MI.of, MI.ofA, ME.disp, ME.callA, ME.callR, ME.dc, ME.lc2, ME.sorted, List.map_cons, List.map_nil, List.cons_append, List.nil_append, List.append_nil, List.length_cons, List.length_nil, Nat.zero_add, Nat.reduceAdd, Nat.reduceSub, List.replicate_succ, List.replicate_zero, List.getD_cons_zero, List.getD_cons_succ, List.set_cons_zero, List.set_cons_succ, OQ_some, negD]
    have ct : ∀ i : Int, 0 ≤ i → countD (.int i) = true := fun i h => decide_eq_true h
    intro hz
    refine ⟨hz, lc_map (f := fun c => .tup [.str "do", .int k, .str x, c]) cs (fun c hm => ⟨_, rfl, fun Q hq => ?_⟩) ?_⟩
    · simp only [wipeD, List.map_cons, List.map_nil, List.cons_append, List.nil_append, List.append_nil, List.length_cons, List.length_nil, Nat.zero_add, Nat.reduceAdd, Nat.reduceSub, List.replicate_succ, List.replicate_zero, List.getD_cons_zero, List.getD_cons_succ, List.set_cons_zero, List.set_cons_succ, OQ_some]
      exact ⟨by decide, hq⟩
    have hl1 := hc.2.1
    rw [add_lst (by have := hs.2; simp only [List.length_cons, List.length_map]; omega)]
    simp only [OQ_some]
    refine ⟨by decide, fun hz2 => ⟨by decide, lc_map (f := fun c => .tup [c, .int k]) _ (fun c hm => ⟨_, rfl, fun Q hq => ?_⟩) ?_⟩⟩
    · simp only [wipeD, List.map_cons, List.map_nil, List.cons_append, List.nil_append, List.append_nil, List.length_cons, List.length_nil, Nat.zero_add, Nat.reduceAdd, Nat.reduceSub, List.replicate_succ, List.replicate_zero, List.getD_cons_zero, List.getD_cons_succ, List.set_cons_zero, List.set_cons_succ, OQ_some]
      exact ⟨by decide, hq⟩
    rw [add_lst (by have := hs.2; simp only [List.length_cons, List.length_map, List.length_append, List.length_nil]; omega)]
    simp only [OQ_some]
    refine hn _ _ ⟨_, cs, _, _, _, k, x, _, hc, hk0, hk1, hx0, hx1, ((hs.app (m := 17) (b := cs.map fun c => .tup [.str "do", .int k, .str x, c]) ⟨fun d hd => ?_, by rw [List.length_map]; omega⟩).app (m := 13) (b := [.str "press", .str "move", .str "merge", .str "join", .str "split", .str "write"].map fun c => .tup [c, .int k]) ⟨?_, by simp⟩), rfl, rfl⟩
    · obtain ⟨c, hcm, rfl⟩ := List.mem_map.mp hd
      have h19 : gd 29 c = true := gd_mono 20 29 c (by omega) (hc.1 c hcm).1
      exact ⟨by simp only [ok, gd_str, gd_int, gd_bl, gd_non, gd_tup, gd_lst, gds_nil, gds_cons, Bool.and_true, Bool.true_and, okl_0, okl_1, okl_2, okl_3, okl_4, okl_5, okl_6, okl_7, okl_8, okl_9, okl_10, okl_11, okl_12, okl_13, okl_14, okl_15, okl_16, okl_17, okl_18, okl_19, okl_20, okl_21, okl_22, okl_23, okl_24, okl_25, okl_26, okl_27, okl_28, okl_29, okl_30, okl_31, okl_32, okl_33, okl_34, okl_35, okl_36, okl_37, okl_38, okl_39, okl_40, okl_41, okl_42, okl_43, okl_44, okl_45, okl_46, okl_47, okl_48, okl_49, okl_50, okl_51, okl_52, okl_53, okl_54, okl_55, okl_56, okl_57, okl_58, okl_59, okl_60, okl_61, okl_62, okl_63, okl_64, okl_65, okl_66, okl_67, okl_68, okl_69, okl_70, okl_71, okl_72, okl_73, okl_74, okl_75, okl_76, okl_77, okl_78, okl_79, okl_80, okl_81, okl_82, hx1, h19], by rw [sd_do, ct k hk0, hx0, (hc.1 c hcm).2]; rfl⟩
    · simp only [List.map_cons, List.map_nil]
      exact fmc ⟨by simp only [ok, gd_str, gd_int, gd_bl, gd_non, gd_tup, gd_lst, gds_nil, gds_cons, Bool.and_true, Bool.true_and, okl_0, okl_1, okl_2, okl_3, okl_4, okl_5, okl_6, okl_7, okl_8, okl_9, okl_10, okl_11, okl_12, okl_13, okl_14, okl_15, okl_16, okl_17, okl_18, okl_19, okl_20, okl_21, okl_22, okl_23, okl_24, okl_25, okl_26, okl_27, okl_28, okl_29, okl_30, okl_31, okl_32, okl_33, okl_34, okl_35, okl_36, okl_37, okl_38, okl_39, okl_40, okl_41, okl_42, okl_43, okl_44, okl_45, okl_46, okl_47, okl_48, okl_49, okl_50, okl_51, okl_52, okl_53, okl_54, okl_55, okl_56, okl_57, okl_58, okl_59, okl_60, okl_61, okl_62, okl_63, okl_64, okl_65, okl_66, okl_67, okl_68, okl_69, okl_70, okl_71, okl_72, okl_73, okl_74, okl_75, okl_76, okl_77, okl_78, okl_79, okl_80, okl_81, okl_82], by rw [sd_press, ct k hk0]; rfl⟩ (fmc ⟨by simp only [ok, gd_str, gd_int, gd_bl, gd_non, gd_tup, gd_lst, gds_nil, gds_cons, Bool.and_true, Bool.true_and, okl_0, okl_1, okl_2, okl_3, okl_4, okl_5, okl_6, okl_7, okl_8, okl_9, okl_10, okl_11, okl_12, okl_13, okl_14, okl_15, okl_16, okl_17, okl_18, okl_19, okl_20, okl_21, okl_22, okl_23, okl_24, okl_25, okl_26, okl_27, okl_28, okl_29, okl_30, okl_31, okl_32, okl_33, okl_34, okl_35, okl_36, okl_37, okl_38, okl_39, okl_40, okl_41, okl_42, okl_43, okl_44, okl_45, okl_46, okl_47, okl_48, okl_49, okl_50, okl_51, okl_52, okl_53, okl_54, okl_55, okl_56, okl_57, okl_58, okl_59, okl_60, okl_61, okl_62, okl_63, okl_64, okl_65, okl_66, okl_67, okl_68, okl_69, okl_70, okl_71, okl_72, okl_73, okl_74, okl_75, okl_76, okl_77, okl_78, okl_79, okl_80, okl_81, okl_82], by rw [sd_move, ct k hk0]; rfl⟩ (fmc ⟨by simp only [ok, gd_str, gd_int, gd_bl, gd_non, gd_tup, gd_lst, gds_nil, gds_cons, Bool.and_true, Bool.true_and, okl_0, okl_1, okl_2, okl_3, okl_4, okl_5, okl_6, okl_7, okl_8, okl_9, okl_10, okl_11, okl_12, okl_13, okl_14, okl_15, okl_16, okl_17, okl_18, okl_19, okl_20, okl_21, okl_22, okl_23, okl_24, okl_25, okl_26, okl_27, okl_28, okl_29, okl_30, okl_31, okl_32, okl_33, okl_34, okl_35, okl_36, okl_37, okl_38, okl_39, okl_40, okl_41, okl_42, okl_43, okl_44, okl_45, okl_46, okl_47, okl_48, okl_49, okl_50, okl_51, okl_52, okl_53, okl_54, okl_55, okl_56, okl_57, okl_58, okl_59, okl_60, okl_61, okl_62, okl_63, okl_64, okl_65, okl_66, okl_67, okl_68, okl_69, okl_70, okl_71, okl_72, okl_73, okl_74, okl_75, okl_76, okl_77, okl_78, okl_79, okl_80, okl_81, okl_82], by rw [sd_merge, ct k hk0]; rfl⟩ (fmc ⟨by simp only [ok, gd_str, gd_int, gd_bl, gd_non, gd_tup, gd_lst, gds_nil, gds_cons, Bool.and_true, Bool.true_and, okl_0, okl_1, okl_2, okl_3, okl_4, okl_5, okl_6, okl_7, okl_8, okl_9, okl_10, okl_11, okl_12, okl_13, okl_14, okl_15, okl_16, okl_17, okl_18, okl_19, okl_20, okl_21, okl_22, okl_23, okl_24, okl_25, okl_26, okl_27, okl_28, okl_29, okl_30, okl_31, okl_32, okl_33, okl_34, okl_35, okl_36, okl_37, okl_38, okl_39, okl_40, okl_41, okl_42, okl_43, okl_44, okl_45, okl_46, okl_47, okl_48, okl_49, okl_50, okl_51, okl_52, okl_53, okl_54, okl_55, okl_56, okl_57, okl_58, okl_59, okl_60, okl_61, okl_62, okl_63, okl_64, okl_65, okl_66, okl_67, okl_68, okl_69, okl_70, okl_71, okl_72, okl_73, okl_74, okl_75, okl_76, okl_77, okl_78, okl_79, okl_80, okl_81, okl_82], by rw [sd_join, ct k hk0]; rfl⟩ (fmc ⟨by simp only [ok, gd_str, gd_int, gd_bl, gd_non, gd_tup, gd_lst, gds_nil, gds_cons, Bool.and_true, Bool.true_and, okl_0, okl_1, okl_2, okl_3, okl_4, okl_5, okl_6, okl_7, okl_8, okl_9, okl_10, okl_11, okl_12, okl_13, okl_14, okl_15, okl_16, okl_17, okl_18, okl_19, okl_20, okl_21, okl_22, okl_23, okl_24, okl_25, okl_26, okl_27, okl_28, okl_29, okl_30, okl_31, okl_32, okl_33, okl_34, okl_35, okl_36, okl_37, okl_38, okl_39, okl_40, okl_41, okl_42, okl_43, okl_44, okl_45, okl_46, okl_47, okl_48, okl_49, okl_50, okl_51, okl_52, okl_53, okl_54, okl_55, okl_56, okl_57, okl_58, okl_59, okl_60, okl_61, okl_62, okl_63, okl_64, okl_65, okl_66, okl_67, okl_68, okl_69, okl_70, okl_71, okl_72, okl_73, okl_74, okl_75, okl_76, okl_77, okl_78, okl_79, okl_80, okl_81, okl_82], by rw [sd_split, ct k hk0]; rfl⟩ (fmc ⟨by simp only [ok, gd_str, gd_int, gd_bl, gd_non, gd_tup, gd_lst, gds_nil, gds_cons, Bool.and_true, Bool.true_and, okl_0, okl_1, okl_2, okl_3, okl_4, okl_5, okl_6, okl_7, okl_8, okl_9, okl_10, okl_11, okl_12, okl_13, okl_14, okl_15, okl_16, okl_17, okl_18, okl_19, okl_20, okl_21, okl_22, okl_23, okl_24, okl_25, okl_26, okl_27, okl_28, okl_29, okl_30, okl_31, okl_32, okl_33, okl_34, okl_35, okl_36, okl_37, okl_38, okl_39, okl_40, okl_41, okl_42, okl_43, okl_44, okl_45, okl_46, okl_47, okl_48, okl_49, okl_50, okl_51, okl_52, okl_53, okl_54, okl_55, okl_56, okl_57, okl_58, okl_59, okl_60, okl_61, okl_62, okl_63, okl_64, okl_65, okl_66, okl_67, okl_68, okl_69, okl_70, okl_71, okl_72, okl_73, okl_74, okl_75, okl_76, okl_77, okl_78, okl_79, okl_80, okl_81, okl_82], by rw [sd_write, ct k hk0]; rfl⟩ fmn)))))
  obtain ⟨xs, cs, o2, o5, o6, k, x, st, hc, hk0, hk1, hx0, hx1, hs, rfl, rfl⟩ := hP
  refine seq_run (fun δ' s' => ∃ (xs' : List Int) (cs : List D) (o2 : Option D) (o5 : Option D) (o6 : Option D) (k : Int) (x : Str) (st : List D) (wr : List D), CallsOk cs ∧ 0 ≤ k ∧ k < 99 ∧ nameD (.str x) = true ∧ okS x = true ∧ Good stepD 40 st ∧ Bad stepD 20 wr ∧ δ' = [some (.ref a), some (.lst cs), o2, some (.lst (.tup [.str "start", .str x] :: .tup [.str "take", .int k] :: .tup [.str "settle"] :: st)), some (.lst wr), o5, o6, some (.int k), some (.str x), none, none, none] ∧ s' = some (a, xs')) (fun E' hn => ?_) (fun δ' s' hP => ?_)
  · simp only [MS.ret, MS.retN, MS.ite, MS.seq, MS.nil, MS.drop, MS.set, MS.asg, MS.par, MS.par3, MS.no, MS.for, MS.aug, ME.var, ME.c, ME.op1, ME.op2, ME.of, ME.ite, ME.chain, MT.op2, MT.op1, MT.of, MT.and, MT.or, MT.not, MT.chain, MA.nil, MA.cons, ME.tup, ME.lst, ME.fn, ME.call, ME.lc, ME.sl, MO.no, MO.yes, MI.seq, MI.of, MI.ofA, ME.disp, ME.callA, ME.callR, ME.dc, ME.lc2, ME.sorted, List.map_cons, List.map_nil, List.cons_append, List.nil_append, List.append_nil, List.length_cons, List.length_nil, Nat.zero_add, Nat.reduceAdd, Nat.reduceSub, List.replicate_succ, List.replicate_zero, List.getD_cons_zero, List.getD_cons_succ, List.set_cons_zero, List.set_cons_succ, OQ_some, negD]
    obtain ⟨hc1, hc2, i, c1, m, nn, kd, r, rest, rfl, hk1', hk2'⟩ := hc
    have e0 : ixD (.lst (.tup [.str "read", .int i] :: c1 :: .tup [.str "map", m, nn, kd, r] :: rest)) (.int 0) = some (.tup [.str "read", .int i]) := at0 _ _
    simp only [e0, OQ_some]
    repeat (refine And.intro (by decide) ?_)
    exact hn _ _ ⟨_, _, _, _, _, k, x, _, _, ⟨hc1, hc2, i, c1, m, nn, kd, r, rest, rfl, hk1', hk2'⟩, hk0, hk1, hx0, hx1, hs, ⟨(by repeat (first | exact fmn | refine fmc (by first | decide +kernel | exact ⟨by simp only [ok, gd_str, gd_int, gd_bl, gd_non, gd_tup, gd_lst, gds_nil, gds_cons, Bool.and_true, Bool.true_and, okl_0, okl_1, okl_2, okl_3, okl_4, okl_5, okl_6, okl_7, okl_8, okl_9, okl_10, okl_11, okl_12, okl_13, okl_14, okl_15, okl_16, okl_17, okl_18, okl_19, okl_20, okl_21, okl_22, okl_23, okl_24, okl_25, okl_26, okl_27, okl_28, okl_29, okl_30, okl_31, okl_32, okl_33, okl_34, okl_35, okl_36, okl_37, okl_38, okl_39, okl_40, okl_41, okl_42, okl_43, okl_44, okl_45, okl_46, okl_47, okl_48, okl_49, okl_50, okl_51, okl_52, okl_53, okl_54, okl_55, okl_56, okl_57, okl_58, okl_59, okl_60, okl_61, okl_62, okl_63, okl_64, okl_65, okl_66, okl_67, okl_68, okl_69, okl_70, okl_71, okl_72, okl_73, okl_74, okl_75, okl_76, okl_77, okl_78, okl_79, okl_80, okl_81, okl_82, hx1], by first | (rw [sd_do, hx0] <;> rfl) | (rw [sd_do] <;> rfl) | (rw [sd_take] <;> rfl) | kernel_rfl⟩) ?_)), by simp⟩, rfl, rfl⟩
  obtain ⟨xs, cs, o2, o5, o6, k, x, st, wr, hc, hk0, hk1, hx0, hx1, hs, hw, rfl, rfl⟩ := hP
  refine seq_run (fun δ' s' => ∃ (xs' : List Int) (cs : List D) (o2 : Option D) (o5 : Option D) (o6 : Option D) (k : Int) (x : Str) (st : List D) (wr : List D), CallsOk cs ∧ 0 ≤ k ∧ k < 99 ∧ nameD (.str x) = true ∧ okS x = true ∧ Good stepD 40 st ∧ Bad stepD 40 wr ∧ δ' = [some (.ref a), some (.lst cs), o2, some (.lst (.tup [.str "start", .str x] :: .tup [.str "take", .int k] :: .tup [.str "settle"] :: st)), some (.lst wr), o5, o6, some (.int k), some (.str x), none, none, none] ∧ s' = some (a, xs')) (fun E' hn => ?_) (fun δ' s' hP => ?_)
  · simp only [MS.ret, MS.retN, MS.ite, MS.seq, MS.nil, MS.drop, MS.set, MS.asg, MS.par, MS.par3, MS.no, MS.for, MS.aug, ME.var, ME.c, ME.op1, ME.op2, ME.of, ME.ite, ME.chain, MT.op2, MT.op1, MT.of, MT.and, MT.or, MT.not, MT.chain, MA.nil, MA.cons, ME.tup, ME.lst, ME.fn, ME.call, ME.lc, ME.sl, MO.no, MO.yes, MI.seq, MI.of, MI.ofA, ME.disp, ME.callA, ME.callR, ME.dc, ME.lc2, ME.sorted, List.map_cons, List.map_nil, List.cons_append, List.nil_append, List.append_nil, List.length_cons, List.length_nil, Nat.zero_add, Nat.reduceAdd, Nat.reduceSub, List.replicate_succ, List.replicate_zero, List.getD_cons_zero, List.getD_cons_succ, List.set_cons_zero, List.set_cons_succ, OQ_some, negD]
    repeat (refine And.intro (by decide) ?_)
    rw [add_lst (by have := hw.2; simp only [List.length_cons, List.length_nil]; omega)]
    simp only [OQ_some]
    exact hn _ _ ⟨_, cs, _, _, _, k, x, _, _, hc, hk0, hk1, hx0, hx1, hs, (hw.app (m := 20) ⟨(by repeat (first | exact fmn | refine fmc (by first | decide +kernel | exact ⟨by simp only [ok, gd_str, gd_int, gd_bl, gd_non, gd_tup, gd_lst, gds_nil, gds_cons, Bool.and_true, Bool.true_and, okl_0, okl_1, okl_2, okl_3, okl_4, okl_5, okl_6, okl_7, okl_8, okl_9, okl_10, okl_11, okl_12, okl_13, okl_14, okl_15, okl_16, okl_17, okl_18, okl_19, okl_20, okl_21, okl_22, okl_23, okl_24, okl_25, okl_26, okl_27, okl_28, okl_29, okl_30, okl_31, okl_32, okl_33, okl_34, okl_35, okl_36, okl_37, okl_38, okl_39, okl_40, okl_41, okl_42, okl_43, okl_44, okl_45, okl_46, okl_47, okl_48, okl_49, okl_50, okl_51, okl_52, okl_53, okl_54, okl_55, okl_56, okl_57, okl_58, okl_59, okl_60, okl_61, okl_62, okl_63, okl_64, okl_65, okl_66, okl_67, okl_68, okl_69, okl_70, okl_71, okl_72, okl_73, okl_74, okl_75, okl_76, okl_77, okl_78, okl_79, okl_80, okl_81, okl_82, hx1], by first | (rw [sd_do, hx0] <;> rfl) | (rw [sd_do] <;> rfl) | (rw [sd_take] <;> rfl) | kernel_rfl⟩) ?_)), by simp⟩), rfl, rfl⟩
  obtain ⟨xs, cs, o2, o5, o6, k, x, st, wr, hc, hk0, hk1, hx0, hx1, hs, hw, rfl, rfl⟩ := hP
  refine seq_run (fun δ' s' => ∃ (xs' : List Int) (cs : List D) (o2 : Option D) (o5 : Option D) (o6 : Option D) (k : Int) (x : Str) (st : List D) (wr : List D), CallsOk cs ∧ 0 ≤ k ∧ k < 99 ∧ nameD (.str x) = true ∧ okS x = true ∧ Good stepD 40 st ∧ Bad stepD 40 wr ∧ δ' = [some (.ref a), some (.lst cs), o2, some (.lst (.tup [.str "start", .str x] :: .tup [.str "take", .int k] :: .tup [.str "settle"] :: st)), some (.lst wr), o5, o6, some (.int k), some (.str x), none, none, none] ∧ s' = some (a, xs')) (fun E' hn => ?_) (fun δ' s' hP => ?_)
  · simp only [MS.ret, MS.retN, MS.ite, MS.seq, MS.nil, MS.drop, MS.set, MS.asg, MS.par, MS.par3, MS.no, MS.for, MS.aug, ME.var, ME.c, ME.op1, ME.op2, ME.of, ME.ite, ME.chain, MT.op2, MT.op1, MT.of, MT.and, MT.or, MT.not, MT.chain, MA.nil, MA.cons, ME.tup, ME.lst, ME.fn, ME.call, ME.lc, ME.sl, MO.no, MO.yes, MI.seq, MI.of, MI.ofA, ME.disp, ME.callA, ME.callR, ME.dc, ME.lc2, ME.sorted, List.map_cons, List.map_nil, List.cons_append, List.nil_append, List.append_nil, List.length_cons, List.length_nil, Nat.zero_add, Nat.reduceAdd, Nat.reduceSub, List.replicate_succ, List.replicate_zero, List.getD_cons_zero, List.getD_cons_succ, List.set_cons_zero, List.set_cons_succ, OQ_some, negD]
    have hgood : ∀ d ∈ (.tup [.str "start", .str x] :: .tup [.str "take", .int k] :: .tup [.str "settle"] :: st : List D), gd 30 d = true ∧ stepD d = true :=
      fmc ⟨by simp only [ok, gd_str, gd_int, gd_bl, gd_non, gd_tup, gd_lst, gds_nil, gds_cons, Bool.and_true, Bool.true_and, okl_0, okl_1, okl_2, okl_3, okl_4, okl_5, okl_6, okl_7, okl_8, okl_9, okl_10, okl_11, okl_12, okl_13, okl_14, okl_15, okl_16, okl_17, okl_18, okl_19, okl_20, okl_21, okl_22, okl_23, okl_24, okl_25, okl_26, okl_27, okl_28, okl_29, okl_30, okl_31, okl_32, okl_33, okl_34, okl_35, okl_36, okl_37, okl_38, okl_39, okl_40, okl_41, okl_42, okl_43, okl_44, okl_45, okl_46, okl_47, okl_48, okl_49, okl_50, okl_51, okl_52, okl_53, okl_54, okl_55, okl_56, okl_57, okl_58, okl_59, okl_60, okl_61, okl_62, okl_63, okl_64, okl_65, okl_66, okl_67, okl_68, okl_69, okl_70, okl_71, okl_72, okl_73, okl_74, okl_75, okl_76, okl_77, okl_78, okl_79, okl_80, okl_81, okl_82, hx1], by rw [sd_start, hx0]; rfl⟩ (fmc ⟨by simp only [ok, gd_str, gd_int, gd_bl, gd_non, gd_tup, gd_lst, gds_nil, gds_cons, Bool.and_true, Bool.true_and, okl_0, okl_1, okl_2, okl_3, okl_4, okl_5, okl_6, okl_7, okl_8, okl_9, okl_10, okl_11, okl_12, okl_13, okl_14, okl_15, okl_16, okl_17, okl_18, okl_19, okl_20, okl_21, okl_22, okl_23, okl_24, okl_25, okl_26, okl_27, okl_28, okl_29, okl_30, okl_31, okl_32, okl_33, okl_34, okl_35, okl_36, okl_37, okl_38, okl_39, okl_40, okl_41, okl_42, okl_43, okl_44, okl_45, okl_46, okl_47, okl_48, okl_49, okl_50, okl_51, okl_52, okl_53, okl_54, okl_55, okl_56, okl_57, okl_58, okl_59, okl_60, okl_61, okl_62, okl_63, okl_64, okl_65, okl_66, okl_67, okl_68, okl_69, okl_70, okl_71, okl_72, okl_73, okl_74, okl_75, okl_76, okl_77, okl_78, okl_79, okl_80, okl_81, okl_82], by rw [sd_take, show countD (.int k) = true from decide_eq_true hk0]; rfl⟩ (fmc (by decide +kernel) hs.1))
    simp only [toTupD, lenD, OQ_some]
    repeat (refine And.intro (by decide) ?_)
    refine dr_take (by simp only [List.length_cons]; omega) fun i xs1 hi0 hi1 => ?_
    obtain ⟨si, hsi, ei⟩ := ix_lst hi0 hi1
    have e0 : ixD (.lst (.tup [.str "start", .str x] :: .tup [.str "take", .int k] :: .tup [.str "settle"] :: st)) (.int 0) = some (.tup [.str "start", .str x]) := at0 _ _
    rw [ei]
    simp only [OQ_some]
    rw [show (D.int 3) = D.int ((3 : Nat) : Int) from rfl, mul_one (by decide) (by decide)]
    simp only [OQ_some, e0]
    repeat (refine And.intro (by decide) ?_)
    have hall := List.all_eq_true.mpr fun d hd => (hgood d hd).2
    have hgs : gds 30 (.tup [.str "start", .str x] :: .tup [.str "take", .int k] :: .tup [.str "settle"] :: st) = true := gds_all.mpr fun d hd => (hgood d hd).1
    refine tells_run (fmc (by decide +kernel) (fmc ⟨gds_mono 30 39 _ (by omega) hgs, hall⟩ (fmc ⟨(show gds 39 (List.replicate 3 si) = true from gds_rep (gd_mono 30 39 _ (by omega) (hgood si hsi).1) 3), (show (List.replicate 3 si).all stepD = true from all_rep (hgood si hsi).2 3)⟩ fmn))) (fmc ⟨gds_mono 30 39 _ (by omega) hgs, rfl⟩ (fmc ⟨by simp only [ok, gd_str, gd_int, gd_bl, gd_non, gd_tup, gd_lst, gds_nil, gds_cons, Bool.and_true, Bool.true_and, okl_0, okl_1, okl_2, okl_3, okl_4, okl_5, okl_6, okl_7, okl_8, okl_9, okl_10, okl_11, okl_12, okl_13, okl_14, okl_15, okl_16, okl_17, okl_18, okl_19, okl_20, okl_21, okl_22, okl_23, okl_24, okl_25, okl_26, okl_27, okl_28, okl_29, okl_30, okl_31, okl_32, okl_33, okl_34, okl_35, okl_36, okl_37, okl_38, okl_39, okl_40, okl_41, okl_42, okl_43, okl_44, okl_45, okl_46, okl_47, okl_48, okl_49, okl_50, okl_51, okl_52, okl_53, okl_54, okl_55, okl_56, okl_57, okl_58, okl_59, okl_60, okl_61, okl_62, okl_63, okl_64, okl_65, okl_66, okl_67, okl_68, okl_69, okl_70, okl_71, okl_72, okl_73, okl_74, okl_75, okl_76, okl_77, okl_78, okl_79, okl_80, okl_81, okl_82, hx1], rfl⟩ (fmc (by decide +kernel) (fmc (by decide +kernel) fmn)))) ?_
    simp only [OQ_some, blD_bl, Bool.not_true, if_false, Bool.false_eq_true]
    exact hn _ _ ⟨_, cs, _, _, _, k, x, _, _, hc, hk0, hk1, hx0, hx1, hs, hw, rfl, rfl⟩
  obtain ⟨xs, cs, o2, o5, o6, k, x, st, wr, hc, hk0, hk1, hx0, hx1, hs, hw, rfl, rfl⟩ := hP
  simp only [MS.ret, MS.retN, MS.ite, MS.seq, MS.nil, MS.drop, MS.set, MS.asg, MS.par, MS.par3, MS.no, MS.for, MS.aug, ME.var, ME.c, ME.op1, ME.op2, ME.of, ME.ite, ME.chain, MT.op2, MT.op1, MT.of, MT.and, MT.or, MT.not, MT.chain, MA.nil, MA.cons, ME.tup, ME.lst, ME.fn, ME.call, ME.lc, ME.sl, MO.no, MO.yes, MI.seq, MI.of, MI.ofA, ME.disp, ME.callA, ME.callR, ME.dc, ME.lc2, ME.sorted, List.map_cons, List.map_nil, List.cons_append, List.nil_append, List.append_nil, List.length_cons, List.length_nil, Nat.zero_add, Nat.reduceAdd, Nat.reduceSub, List.replicate_succ, List.replicate_zero, List.getD_cons_zero, List.getD_cons_succ, List.set_cons_zero, List.set_cons_succ, OQ_some, seqD, szD]
  have hgood : ∀ d ∈ (.tup [.str "start", .str x] :: .tup [.str "take", .int k] :: .tup [.str "settle"] :: st : List D), gd 30 d = true ∧ stepD d = true :=
    fmc ⟨by simp only [ok, gd_str, gd_int, gd_bl, gd_non, gd_tup, gd_lst, gds_nil, gds_cons, Bool.and_true, Bool.true_and, okl_0, okl_1, okl_2, okl_3, okl_4, okl_5, okl_6, okl_7, okl_8, okl_9, okl_10, okl_11, okl_12, okl_13, okl_14, okl_15, okl_16, okl_17, okl_18, okl_19, okl_20, okl_21, okl_22, okl_23, okl_24, okl_25, okl_26, okl_27, okl_28, okl_29, okl_30, okl_31, okl_32, okl_33, okl_34, okl_35, okl_36, okl_37, okl_38, okl_39, okl_40, okl_41, okl_42, okl_43, okl_44, okl_45, okl_46, okl_47, okl_48, okl_49, okl_50, okl_51, okl_52, okl_53, okl_54, okl_55, okl_56, okl_57, okl_58, okl_59, okl_60, okl_61, okl_62, okl_63, okl_64, okl_65, okl_66, okl_67, okl_68, okl_69, okl_70, okl_71, okl_72, okl_73, okl_74, okl_75, okl_76, okl_77, okl_78, okl_79, okl_80, okl_81, okl_82, hx1], by rw [sd_start, hx0]; rfl⟩ (fmc ⟨by simp only [ok, gd_str, gd_int, gd_bl, gd_non, gd_tup, gd_lst, gds_nil, gds_cons, Bool.and_true, Bool.true_and, okl_0, okl_1, okl_2, okl_3, okl_4, okl_5, okl_6, okl_7, okl_8, okl_9, okl_10, okl_11, okl_12, okl_13, okl_14, okl_15, okl_16, okl_17, okl_18, okl_19, okl_20, okl_21, okl_22, okl_23, okl_24, okl_25, okl_26, okl_27, okl_28, okl_29, okl_30, okl_31, okl_32, okl_33, okl_34, okl_35, okl_36, okl_37, okl_38, okl_39, okl_40, okl_41, okl_42, okl_43, okl_44, okl_45, okl_46, okl_47, okl_48, okl_49, okl_50, okl_51, okl_52, okl_53, okl_54, okl_55, okl_56, okl_57, okl_58, okl_59, okl_60, okl_61, okl_62, okl_63, okl_64, okl_65, okl_66, okl_67, okl_68, okl_69, okl_70, okl_71, okl_72, okl_73, okl_74, okl_75, okl_76, okl_77, okl_78, okl_79, okl_80, okl_81, okl_82], by rw [sd_take, show countD (.int k) = true from decide_eq_true hk0]; rfl⟩ (fmc (by decide +kernel) hs.1))
  intro hz
  have hno : ∀ d ∈ wr, courseD (.tup [.tup [.str "start", .str x], .tup [.str "take", .int k], .tup [.str "settle"], d]) = false := fun d hd => by
    simp only [courseD, List.all_cons, (hw.1 d hd).2, Bool.false_and, Bool.and_false]
  have e0 : eqD (.lst []) (.lst []) = some true := by decide +kernel
  refine ⟨hz, lc_filter (p := fun d => !(courseD (.tup [.tup [.str "start", .str x], .tup [.str "take", .int k], .tup [.str "settle"], d]) == false)) (f := fun d => d) wr (fun d hm => ⟨_, rfl, fun Q hq => ?_, fun hn Q hq => ?_⟩) ?_⟩
  · simp only [setT, List.map_cons, List.map_nil, List.cons_append, List.nil_append, List.append_nil, List.length_cons, List.length_nil, Nat.zero_add, Nat.reduceAdd, Nat.reduceSub, List.replicate_succ, List.replicate_zero, List.getD_cons_zero, List.getD_cons_succ, List.set_cons_zero, List.set_cons_succ, OQ_some, wipeD, intD, slD, take3, toTupD]
    refine ⟨by decide, ?_⟩
    rw [add_tup (by simp)]
    simp only [OQ_some, List.cons_append, List.nil_append]
    refine ⟨trivial, ?_, hq⟩
    have h3 := fun d hd => (hgood d hd).1
    refine gd_mono 31 40 _ (by omega) (show gds 30 _ = true from gds_all.mpr (fmc (h3 _ (by simp)) (fmc (h3 _ (by simp)) (fmc (h3 _ (by simp)) (fmc (hw.1 d hm).1 fmn)))))
  · rw [hno d hm] at hn; cases hn
  · rw [filter_nil fun d hm => by rw [hno d hm]; rfl]
    simp only [List.map_nil, e0, OQ_some]
    exact ⟨Nat.zero_le _, h _ rfl _⟩
end
end G

set_option Elab.async false
set_option linter.all false
set_option maxRecDepth 100000
set_option maxHeartbeats 4000000
namespace G
open PySem PySem.Spec PyProof.Rows L2
theorem mul_dup {d : D} {k : Nat} (h2 : 2 ≤ k) (hk : k ≤ 100000) : mulD' (.tup [d]) (.int k) = some (.tup (List.replicate k d)) := mul_one h2 hk
def isAsk (d : D) : Prop := gd 30 d = true ∧ askD d = true
section
variable {S : Type} {P : Program} {w : World} {K : PySem.W.Frag} {mg : Str → Option Value} {base : Heap} {W : Wd S}
theorem c__law_are_threads_due (T : Txt K w mg) : Cal P w K mg base WD 39 "_law_are_threads_due" 1 (drawF isTrueD) := by
  obtain ⟨f_are_threads, m_are_threads, h_are_threads⟩ := (c_are_threads T : Cal P w K mg base WD _ "are_threads" 1 _).held
  obtain ⟨f_are_askings, m_are_askings, h_are_askings⟩ := (c_are_askings T : Cal P w K mg base WD _ "are_askings" 1 _).held
  obtain ⟨fa, fd, F, hg, b⟩ := T.d__law_are_threads_due.ex
  refine cal_mk F hg b sc__law_are_threads_due rfl (fun cdv A outer s H E hr => (b_cons (s_par (i := 5) (j := 6) rfl sc__law_are_threads_due.nd (a_cons (g_call (c__law_take T) hr (by decide) (a_cons (g_var 0) (a_cons g_int a_nil))) (a_cons (g_call (c__law_word T) hr (by decide) (a_cons (g_var 0) a_nil)) a_nil))) (b_cons (s_par (i := 7) (j := 8) rfl sc__law_are_threads_due.nd (a_cons (g_tup (a_cons g_str (a_cons (g_var 5) (a_cons (g_var 6) a_nil)))) (a_cons (g_tup (a_cons g_str a_nil)) a_nil))) (b_cons (s_set (i := 1) sc__law_are_threads_due.nd (g_lst (a_cons (g_tup (a_cons (g_tup (a_cons (g_var 7) a_nil)) a_nil)) (a_cons (g_tup (a_cons (g_tup a_nil) (a_cons (g_tup (a_cons (g_var 7) (a_cons (g_var 8) a_nil))) a_nil))) (a_cons (g_tup (a_cons (g_tup (a_cons (g_tup (a_cons g_str (a_cons (g_var 5) (a_cons g_str a_nil)))) (a_cons (g_tup (a_cons g_str (a_cons (g_var 5) (a_cons (g_var 6) (a_cons g_int (a_cons g_str a_nil)))))) a_nil))) (a_cons (g_tup (a_cons (g_tup (a_cons g_str (a_cons g_int (a_cons g_str a_nil)))) a_nil)) a_nil))) (a_cons (g_tup (a_cons (g_add (g_mul (g_tup (a_cons (g_var 7) a_nil)) g_int) (g_mul (g_tup (a_cons (g_var 8) a_nil)) g_int)) a_nil)) (a_cons (g_mul (g_tup (a_cons (g_tup (a_cons (g_var 7) a_nil)) a_nil)) g_int) (a_cons (g_tup (a_cons (g_mul (g_tup (a_cons (g_var 8) a_nil)) g_int) a_nil)) (a_cons (g_tup (a_cons (g_tup a_nil) a_nil)) a_nil))))))))) (b_cons (s_set (i := 2) sc__law_are_threads_due.nd (g_lst (a_cons (g_tup a_nil) (a_cons (g_mul (g_tup (a_cons (g_tup (a_cons (g_var 7) a_nil)) a_nil)) g_int) (a_cons (g_tup (a_cons (g_mul (g_tup (a_cons (g_var 7) a_nil)) g_int) a_nil)) (a_cons (g_tup (a_cons (g_mul (g_tup (a_cons (g_var 8) a_nil)) g_int) a_nil)) (a_cons (g_tup (a_cons (g_tup (a_cons (g_tup (a_cons g_str (a_cons (g_var 5) (a_cons g_str a_nil)))) (a_cons (g_tup (a_cons g_str (a_cons (g_var 5) (a_cons g_str a_nil)))) a_nil))) a_nil)) a_nil))))))) (b_cons (s_set (i := 2) sc__law_are_threads_due.nd (g_add (g_var 2) (g_lst (a_cons (g_tup (a_cons (g_tup (a_cons (g_tup (a_cons g_str (a_cons (g_var 5) (a_cons g_str a_nil)))) a_nil)) (a_cons (g_tup (a_cons (g_tup (a_cons g_str (a_cons (g_var 5) (a_cons g_int (a_cons g_int (a_cons g_str a_nil)))))) a_nil)) a_nil))) (a_cons (g_tup (a_cons (g_tup (a_cons (g_tup (a_cons g_str (a_cons (g_var 5) a_nil))) a_nil)) a_nil)) (a_cons (g_tup (a_cons (g_tup (a_cons (g_tup (a_cons g_str (a_cons (g_neg g_int) (a_cons (g_var 6) a_nil)))) a_nil)) a_nil)) (a_cons (g_tup (a_cons (g_tup (a_cons (g_tup (a_cons g_str (a_cons (g_var 5) (a_cons g_str a_nil)))) a_nil)) a_nil)) (a_cons (g_tup (a_cons (g_tup (a_cons (g_tup (a_cons g_str (a_cons (g_var 5) a_nil))) a_nil)) a_nil)) a_nil)))))))) (b_cons (s_set (i := 2) sc__law_are_threads_due.nd (g_add (g_var 2) (g_lst (a_cons (g_tup (a_cons (g_tup (a_cons (g_tup (a_cons g_str (a_cons g_int a_nil))) a_nil)) a_nil)) (a_cons (g_tup (a_cons (g_tup (a_cons (g_tup (a_cons g_str (a_cons (g_var 5) (a_cons (g_var 6) (a_cons g_str a_nil))))) a_nil)) a_nil)) (a_cons (g_tup (a_cons (g_tup (a_cons (g_tup (a_cons g_str (a_cons (g_var 5) (a_cons g_str a_nil)))) a_nil)) a_nil)) (a_cons (g_lst (a_cons (g_tup (a_cons (g_var 7) a_nil)) a_nil)) (a_cons (g_tup (a_cons (g_lst (a_cons (g_var 7) a_nil)) a_nil)) (a_cons (g_tup (a_cons (g_var 7) a_nil)) (a_cons g_non (a_cons (g_tup (a_cons (g_tup (a_cons (g_tup (a_cons g_str (a_cons g_bl (a_cons (g_var 6) a_nil)))) a_nil)) a_nil)) (a_cons (g_tup (a_cons (g_tup (a_cons (g_tup a_nil) a_nil)) a_nil)) a_nil)))))))))))) (b_cons (s_ite (t_not (t_of (g_call (c__law_tells T h_are_threads) hr (by decide) (a_cons (g_ref m_are_threads) (a_cons (g_var 1) (a_cons (g_var 2) a_nil)))))) (b_one (s_ret g_bl)) b_nil) (b_cons (s_set (i := 3) sc__law_are_threads_due.nd (g_toTup T.b.tuple bb_tuple (a_cons (g_lc [("k", 9)] rfl sc__law_are_threads_due.nd (i_rng T.b.range (a_cons (g_call (c__law_take T) hr (by decide) (a_cons (g_var 0) (a_cons g_int a_nil))) a_nil)) (blkOk_by (by kernel_rfl)) (fun _ _ _ _ _ => (gt_nm (i := 9) sc__law_are_threads_due.nd)) (fun _ _ _ _ _ => pts0) (fun _ _ _ _ _ => (g_tup (a_cons (g_call (c__law_take T) hr (by decide) (a_cons (g_var 0) (a_cons g_int a_nil))) (a_cons (g_eq hr.units (g_call (c__law_take T) hr (by decide) (a_cons (g_var 0) (a_cons g_int a_nil))) g_int) a_nil))))) a_nil))) (b_cons (s_set (i := 4) sc__law_are_threads_due.nd (g_lst (a_cons (g_mul (g_tup (a_cons (g_tup (a_cons g_int (a_cons g_bl a_nil))) a_nil)) g_int) (a_cons (g_tup (a_cons (g_tup (a_cons g_int (a_cons g_bl a_nil))) a_nil)) (a_cons (g_tup (a_cons (g_tup (a_cons (g_neg g_int) (a_cons g_bl a_nil))) a_nil)) (a_cons (g_tup (a_cons (g_tup (a_cons g_int a_nil)) a_nil)) (a_cons (g_tup (a_cons (g_tup (a_cons g_int (a_cons g_bl (a_cons g_int a_nil)))) a_nil)) (a_cons (g_lst (a_cons (g_tup (a_cons g_int (a_cons g_bl a_nil))) a_nil)) (a_cons (g_tup (a_cons g_int (a_cons g_bl a_nil))) (a_cons (g_tup (a_cons (g_tup (a_cons g_bl (a_cons g_bl a_nil))) a_nil)) (a_cons g_non a_nil))))))))))) (b_one (s_ret (g_call (c__law_tells T h_are_askings) hr (by decide) (a_cons (g_ref m_are_askings) (a_cons (g_lst (a_cons (g_var 3) (a_cons (g_tup a_nil) (a_cons (g_mul (g_tup (a_cons (g_tup (a_cons g_int (a_cons g_bl a_nil))) a_nil)) g_int) a_nil)))) (a_cons (g_var 4) a_nil)))))))))))))))) ?_
  intro ds s Q hl h
  obtain ⟨a, xs, rfl, rfl, h⟩ := h
  simp only [List.map_cons, List.map_nil, List.cons_append, List.nil_append, List.append_nil, List.length_cons, List.length_nil, Nat.zero_add, Nat.reduceAdd, Nat.reduceSub, List.replicate_succ, List.replicate_zero, List.getD_cons_zero, List.getD_cons_succ, List.set_cons_zero, List.set_cons_succ, OQ_some]
  refine seq_run (fun δ' s' => ∃ (xs' : List Int) (n : Nat) (m : Nat), δ' = [some (.ref a), none, none, none, none, some (.int n), some (.int m), none, none, none] ∧ s' = some (a, xs')) (fun E' hn => ?_) (fun δ' s' hP => ?_)
  · simp only [MS.ret, MS.retN, MS.ite, MS.seq, MS.nil, MS.drop, MS.set, MS.asg, MS.par, MS.par3, MS.no, MS.for, MS.aug, ME.var, ME.c, ME.op1, ME.op2, ME.of, ME.ite, ME.chain, MT.op2, MT.op1, MT.of, MT.and, MT.or, MT.not, MT.chain, MA.nil, MA.cons, ME.tup, ME.lst, ME.fn, ME.call, ME.lc, ME.sl, MO.no, MO.yes, MI.seq, MI.of, MI.ofA, ME.disp, ME.callA, ME.callR, ME.dc, ME.lc2, ME.sorted, List.map_cons, List.map_nil, List.cons_append, List.nil_append, List.append_nil, List.length_cons, List.length_nil, Nat.zero_add, Nat.reduceAdd, Nat.reduceSub, List.replicate_succ, List.replicate_zero, List.getD_cons_zero, List.getD_cons_succ, List.set_cons_zero, List.set_cons_succ, OQ_some, negD]
    refine ⟨trivial, dr_take (by decide) fun i xs1 h0 h1 => ⟨trivial, dr_word fun j xs2 h2 h3 => ?_⟩⟩
    obtain ⟨n, rfl⟩ := Int.eq_ofNat_of_zero_le h0
    obtain ⟨m, rfl⟩ := Int.eq_ofNat_of_zero_le h2
    exact hn _ _ ⟨_, n, m, rfl, rfl⟩
  obtain ⟨xs, n, m, rfl, rfl⟩ := hP
  refine seq_run (fun δ' s' => ∃ (xs' : List Int) (n : Nat) (m : Nat), δ' = [some (.ref a), none, none, none, none, some (.int n), some (.int m), some (.tup [.str "put", .int n, .int m]), some (.tup [.str "fence"]), none] ∧ s' = some (a, xs')) (fun E' hn => ?_) (fun δ' s' hP => ?_)
  · simp only [MS.ret, MS.retN, MS.ite, MS.seq, MS.nil, MS.drop, MS.set, MS.asg, MS.par, MS.par3, MS.no, MS.for, MS.aug, ME.var, ME.c, ME.op1, ME.op2, ME.of, ME.ite, ME.chain, MT.op2, MT.op1, MT.of, MT.and, MT.or, MT.not, MT.chain, MA.nil, MA.cons, ME.tup, ME.lst, ME.fn, ME.call, ME.lc, ME.sl, MO.no, MO.yes, MI.seq, MI.of, MI.ofA, ME.disp, ME.callA, ME.callR, ME.dc, ME.lc2, ME.sorted, List.map_cons, List.map_nil, List.cons_append, List.nil_append, List.append_nil, List.length_cons, List.length_nil, Nat.zero_add, Nat.reduceAdd, Nat.reduceSub, List.replicate_succ, List.replicate_zero, List.getD_cons_zero, List.getD_cons_succ, List.set_cons_zero, List.set_cons_succ, OQ_some, negD]
    repeat (refine And.intro (by decide) ?_)
    exact hn _ _ ⟨_, n, m, rfl, rfl⟩
  obtain ⟨xs, n, m, rfl, rfl⟩ := hP
  refine seq_run (fun δ' s' => ∃ (xs' : List Int) (n : Nat) (m : Nat) (good : List D), (Good threadsD 20 good) ∧ δ' = [some (.ref a), some (.lst good), none, none, none, some (.int n), some (.int m), some (.tup [.str "put", .int n, .int m]), some (.tup [.str "fence"]), none] ∧ s' = some (a, xs')) (fun E' hn => ?_) (fun δ' s' hP => ?_)
  · simp only [MS.ret, MS.retN, MS.ite, MS.seq, MS.nil, MS.drop, MS.set, MS.asg, MS.par, MS.par3, MS.no, MS.for, MS.aug, ME.var, ME.c, ME.op1, ME.op2, ME.of, ME.ite, ME.chain, MT.op2, MT.op1, MT.of, MT.and, MT.or, MT.not, MT.chain, MA.nil, MA.cons, ME.tup, ME.lst, ME.fn, ME.call, ME.lc, ME.sl, MO.no, MO.yes, MI.seq, MI.of, MI.ofA, ME.disp, ME.callA, ME.callR, ME.dc, ME.lc2, ME.sorted, List.map_cons, List.map_nil, List.cons_append, List.nil_append, List.append_nil, List.length_cons, List.length_nil, Nat.zero_add, Nat.reduceAdd, Nat.reduceSub, List.replicate_succ, List.replicate_zero, List.getD_cons_zero, List.getD_cons_succ, List.set_cons_zero, List.set_cons_succ, OQ_some, negD]
    have q6 : ∀ d : D, mulD' (.tup [d]) (.int 6) = some (.tup (List.replicate 6 d)) := fun d => mul_one (k := 6) (by decide) (by decide)
    have q4 : ∀ d : D, mulD' (.tup [d]) (.int 4) = some (.tup (List.replicate 4 d)) := fun d => mul_one (k := 4) (by decide) (by decide)
    have q12 : ∀ d : D, mulD' (.tup [d]) (.int 12) = some (.tup (List.replicate 12 d)) := fun d => mul_one (k := 12) (by decide) (by decide)
    simp only [q6, q4, q12, OQ_some]
    repeat (refine And.intro (by decide) ?_)
    exact hn _ _ ⟨_, n, m, _, ⟨(by repeat (first | exact fmn | refine fmc (by first | decide +kernel | exact ⟨by kernel_rfl, by kernel_rfl⟩) ?_)), by simp⟩, rfl, rfl⟩
  obtain ⟨xs, n, m, good, hgd, rfl, rfl⟩ := hP
  refine seq_run (fun δ' s' => ∃ (xs' : List Int) (n : Nat) (m : Nat) (good : List D) (bent : List D), (Good threadsD 20 good) ∧ (Bad threadsD 20 bent) ∧ δ' = [some (.ref a), some (.lst good), some (.lst bent), none, none, some (.int n), some (.int m), some (.tup [.str "put", .int n, .int m]), some (.tup [.str "fence"]), none] ∧ s' = some (a, xs')) (fun E' hn => ?_) (fun δ' s' hP => ?_)
  · simp only [MS.ret, MS.retN, MS.ite, MS.seq, MS.nil, MS.drop, MS.set, MS.asg, MS.par, MS.par3, MS.no, MS.for, MS.aug, ME.var, ME.c, ME.op1, ME.op2, ME.of, ME.ite, ME.chain, MT.op2, MT.op1, MT.of, MT.and, MT.or, MT.not, MT.chain, MA.nil, MA.cons, ME.tup, ME.lst, ME.fn, ME.call, ME.lc, ME.sl, MO.no, MO.yes, MI.seq, MI.of, MI.ofA, ME.disp, ME.callA, ME.callR, ME.dc, ME.lc2, ME.sorted, List.map_cons, List.map_nil, List.cons_append, List.nil_append, List.append_nil, List.length_cons, List.length_nil, Nat.zero_add, Nat.reduceAdd, Nat.reduceSub, List.replicate_succ, List.replicate_zero, List.getD_cons_zero, List.getD_cons_succ, List.set_cons_zero, List.set_cons_succ, OQ_some, negD]
    have q5 : ∀ d : D, mulD' (.tup [d]) (.int 5) = some (.tup (List.replicate 5 d)) := fun d => mul_one (k := 5) (by decide) (by decide)
    have q7 : ∀ d : D, mulD' (.tup [d]) (.int 7) = some (.tup (List.replicate 7 d)) := fun d => mul_one (k := 7) (by decide) (by decide)
    have q13 : ∀ d : D, mulD' (.tup [d]) (.int 13) = some (.tup (List.replicate 13 d)) := fun d => mul_one (k := 13) (by decide) (by decide)
    simp only [q5, q7, q13, OQ_some]
    repeat (refine And.intro (by decide) ?_)
    exact hn _ _ ⟨_, n, m, good, _, hgd, ⟨(by repeat (first | exact fmn | refine fmc (by first | decide +kernel | exact ⟨by kernel_rfl, by kernel_rfl⟩) ?_)), by simp⟩, rfl, rfl⟩
  obtain ⟨xs, n, m, good, bent, hgd, hb, rfl, rfl⟩ := hP
  refine seq_run (fun δ' s' => ∃ (xs' : List Int) (n : Nat) (m : Nat) (good : List D) (bent : List D), (Good threadsD 20 good) ∧ (Bad threadsD 40 bent) ∧ δ' = [some (.ref a), some (.lst good), some (.lst bent), none, none, some (.int n), some (.int m), some (.tup [.str "put", .int n, .int m]), some (.tup [.str "fence"]), none] ∧ s' = some (a, xs')) (fun E' hn => ?_) (fun δ' s' hP => ?_)
  · simp only [MS.ret, MS.retN, MS.ite, MS.seq, MS.nil, MS.drop, MS.set, MS.asg, MS.par, MS.par3, MS.no, MS.for, MS.aug, ME.var, ME.c, ME.op1, ME.op2, ME.of, ME.ite, ME.chain, MT.op2, MT.op1, MT.of, MT.and, MT.or, MT.not, MT.chain, MA.nil, MA.cons, ME.tup, ME.lst, ME.fn, ME.call, ME.lc, ME.sl, MO.no, MO.yes, MI.seq, MI.of, MI.ofA, ME.disp, ME.callA, ME.callR, ME.dc, ME.lc2, ME.sorted, List.map_cons, List.map_nil, List.cons_append, List.nil_append, List.append_nil, List.length_cons, List.length_nil, Nat.zero_add, Nat.reduceAdd, Nat.reduceSub, List.replicate_succ, List.replicate_zero, List.getD_cons_zero, List.getD_cons_succ, List.set_cons_zero, List.set_cons_succ, OQ_some, negD]
    repeat (refine And.intro (by decide) ?_)
    rw [add_lst (by have := hb.2; simp only [List.length_cons, List.length_nil]; omega)]
    simp only [OQ_some]
    exact hn _ _ ⟨_, n, m, good, _, hgd, hb.app (m := 20) ⟨(by repeat (first | exact fmn | refine fmc (by first | decide +kernel | exact ⟨by kernel_rfl, by kernel_rfl⟩) ?_)), by simp⟩, rfl, rfl⟩
  obtain ⟨xs, n, m, good, bent, hgd, hb, rfl, rfl⟩ := hP
  refine seq_run (fun δ' s' => ∃ (xs' : List Int) (n : Nat) (m : Nat) (good : List D) (bent : List D), (Good threadsD 20 good) ∧ (Bad threadsD 60 bent) ∧ δ' = [some (.ref a), some (.lst good), some (.lst bent), none, none, some (.int n), some (.int m), some (.tup [.str "put", .int n, .int m]), some (.tup [.str "fence"]), none] ∧ s' = some (a, xs')) (fun E' hn => ?_) (fun δ' s' hP => ?_)
  · simp only [MS.ret, MS.retN, MS.ite, MS.seq, MS.nil, MS.drop, MS.set, MS.asg, MS.par, MS.par3, MS.no, MS.for, MS.aug, ME.var, ME.c, ME.op1, ME.op2, ME.of, ME.ite, ME.chain, MT.op2, MT.op1, MT.of, MT.and, MT.or, MT.not, MT.chain, MA.nil, MA.cons, ME.tup, ME.lst, ME.fn, ME.call, ME.lc, ME.sl, MO.no, MO.yes, MI.seq, MI.of, MI.ofA, ME.disp, ME.callA, ME.callR, ME.dc, ME.lc2, ME.sorted, List.map_cons, List.map_nil, List.cons_append, List.nil_append, List.append_nil, List.length_cons, List.length_nil, Nat.zero_add, Nat.reduceAdd, Nat.reduceSub, List.replicate_succ, List.replicate_zero, List.getD_cons_zero, List.getD_cons_succ, List.set_cons_zero, List.set_cons_succ, OQ_some, negD]
    repeat (refine And.intro (by decide) ?_)
    rw [add_lst (by have := hb.2; simp only [List.length_cons, List.length_nil]; omega)]
    simp only [OQ_some]
    exact hn _ _ ⟨_, n, m, good, _, hgd, hb.app (m := 20) ⟨(by repeat (first | exact fmn | refine fmc (by first | decide +kernel | exact ⟨by kernel_rfl, by kernel_rfl⟩) ?_)), by simp⟩, rfl, rfl⟩
  obtain ⟨xs, n, m, good, bent, hgd, hb, rfl, rfl⟩ := hP
  refine seq_run (fun δ' s' => ∃ (xs' : List Int) (o1 : Option D) (o2 : Option D) (o3 : Option D) (o4 : Option D) (o5 : Option D) (o6 : Option D), δ' = [some (.ref a), o5, o6, none, none, o1, o2, o3, o4, none] ∧ s' = some (a, xs')) (fun E' hn => ?_) (fun δ' s' hP => ?_)
  · simp only [MS.ret, MS.retN, MS.ite, MS.seq, MS.nil, MS.drop, MS.set, MS.asg, MS.par, MS.par3, MS.no, MS.for, MS.aug, ME.var, ME.c, ME.op1, ME.op2, ME.of, ME.ite, ME.chain, MT.op2, MT.op1, MT.of, MT.and, MT.or, MT.not, MT.chain, MA.nil, MA.cons, ME.tup, ME.lst, ME.fn, ME.call, ME.lc, ME.sl, MO.no, MO.yes, MI.seq, MI.of, MI.ofA, ME.disp, ME.callA, ME.callR, ME.dc, ME.lc2, ME.sorted, List.map_cons, List.map_nil, List.cons_append, List.nil_append, List.append_nil, List.length_cons, List.length_nil, Nat.zero_add, Nat.reduceAdd, Nat.reduceSub, List.replicate_succ, List.replicate_zero, List.getD_cons_zero, List.getD_cons_succ, List.set_cons_zero, List.set_cons_succ, OQ_some, negD]
    refine ⟨trivial, tells_run hgd.oks hb.oks ?_⟩
    simp only [OQ_some, blD_bl, Bool.not_true, if_false, Bool.false_eq_true]
    exact hn _ _ ⟨_, _, _, _, _, _, _, rfl, rfl⟩
  obtain ⟨xs, o1, o2, o3, o4, o5, o6, rfl, rfl⟩ := hP
  refine seq_run (fun δ' s' => ∃ (xs' : List Int) (o1 : Option D) (o2 : Option D) (o3 : Option D) (o4 : Option D) (o5 : Option D) (o6 : Option D) (pairs : List D), (∀ d ∈ pairs, isAsk d) ∧ (pairs.length ≤ 16) ∧ δ' = [some (.ref a), o5, o6, some (.tup pairs), none, o1, o2, o3, o4, none] ∧ s' = some (a, xs')) (fun E' hn => ?_) (fun δ' s' hP => ?_)
  · simp only [MS.ret, MS.retN, MS.ite, MS.seq, MS.nil, MS.drop, MS.set, MS.asg, MS.par, MS.par3, MS.no, MS.for, MS.aug, ME.var, ME.c, ME.op1, ME.op2, ME.of, ME.ite, ME.chain, MT.op2, MT.op1, MT.of, MT.and, MT.or, MT.not, MT.chain, MA.nil, MA.cons, ME.tup, ME.lst, ME.fn, ME.call, ME.lc, ME.sl, MO.no, MO.yes, MI.seq, MI.of, MI.ofA, ME.disp, ME.callA, ME.callR, ME.dc, ME.lc2, ME.sorted, List.map_cons, List.map_nil, List.cons_append, List.nil_append, List.append_nil, List.length_cons, List.length_nil, Nat.zero_add, Nat.reduceAdd, Nat.reduceSub, List.replicate_succ, List.replicate_zero, List.getD_cons_zero, List.getD_cons_succ, List.set_cons_zero, List.set_cons_succ, OQ_some, negD]
    refine ⟨trivial, dr_take (by decide) fun i xs1 h0 h1 => ?_⟩
    simp only [rngD]
    rw [if_pos ⟨by omega, by omega⟩]
    simp only [OQ_some]
    refine ⟨by rw [List.length_map, List.length_range]; show _ ≤ 16777216; omega, lc_draw (C := isAsk) _ _ _ (fun d hd => ⟨_, rfl, fun xs Q hq => ?_⟩) fun ws s14 hlen hws => ?_⟩
    · simp only [wipeD, List.map_cons, List.map_nil, List.cons_append, List.nil_append, List.append_nil, List.length_cons, List.length_nil, Nat.zero_add, Nat.reduceAdd, Nat.reduceSub, List.replicate_succ, List.replicate_zero, List.getD_cons_zero, List.getD_cons_succ, List.set_cons_zero, List.set_cons_succ, OQ_some]
      refine ⟨trivial, dr_take (by decide) fun j xs2 h2 h3 => ⟨trivial, dr_take (by decide) fun b xs3 h4 h5 => ?_⟩⟩
      simp only [eqD_int, OQ_some]
      exact ⟨by decide, hq _ ⟨by kernel_rfl, by simp only [askD, isBlD, Bool.and_true]; exact wi_int h2 (by omega)⟩ _⟩
    rw [List.length_map, List.length_range] at hlen
    simp only [toTupD, OQ_some]
    exact hn _ _ ⟨_, _, _, _, _, _, _, ws, hws, by omega, rfl, rfl⟩
  obtain ⟨xs, o1, o2, o3, o4, o5, o6, pairs, hp, hpl, rfl, rfl⟩ := hP
  refine seq_run (fun δ' s' => ∃ (xs' : List Int) (o1 : Option D) (o2 : Option D) (o3 : Option D) (o4 : Option D) (o5 : Option D) (o6 : Option D) (pairs : List D) (wr : List D), (∀ d ∈ pairs, isAsk d) ∧ (pairs.length ≤ 16) ∧ (Bad asksD 20 wr) ∧ δ' = [some (.ref a), o5, o6, some (.tup pairs), some (.lst wr), o1, o2, o3, o4, none] ∧ s' = some (a, xs')) (fun E' hn => ?_) (fun δ' s' hP => ?_)
  · simp only [MS.ret, MS.retN, MS.ite, MS.seq, MS.nil, MS.drop, MS.set, MS.asg, MS.par, MS.par3, MS.no, MS.for, MS.aug, ME.var, ME.c, ME.op1, ME.op2, ME.of, ME.ite, ME.chain, MT.op2, MT.op1, MT.of, MT.and, MT.or, MT.not, MT.chain, MA.nil, MA.cons, ME.tup, ME.lst, ME.fn, ME.call, ME.lc, ME.sl, MO.no, MO.yes, MI.seq, MI.of, MI.ofA, ME.disp, ME.callA, ME.callR, ME.dc, ME.lc2, ME.sorted, List.map_cons, List.map_nil, List.cons_append, List.nil_append, List.append_nil, List.length_cons, List.length_nil, Nat.zero_add, Nat.reduceAdd, Nat.reduceSub, List.replicate_succ, List.replicate_zero, List.getD_cons_zero, List.getD_cons_succ, List.set_cons_zero, List.set_cons_succ, OQ_some, negD]
    have q17 : ∀ d : D, mulD' (.tup [d]) (.int 17) = some (.tup (List.replicate 17 d)) := fun d => mul_one (k := 17) (by decide) (by decide)
    simp only [q17, OQ_some]
    repeat (refine And.intro (by decide) ?_)
    exact hn _ _ ⟨_, _, _, _, _, _, _, pairs, _, hp, hpl, ⟨(by repeat (first | exact fmn | refine fmc (by first | decide +kernel) ?_)), by simp⟩, rfl, rfl⟩
  obtain ⟨xs, o1, o2, o3, o4, o5, o6, pairs, wr, hp, hpl, hw, rfl, rfl⟩ := hP
  simp only [MS.ret, MS.retN, MS.ite, MS.seq, MS.nil, MS.drop, MS.set, MS.asg, MS.par, MS.par3, MS.no, MS.for, MS.aug, ME.var, ME.c, ME.op1, ME.op2, ME.of, ME.ite, ME.chain, MT.op2, MT.op1, MT.of, MT.and, MT.or, MT.not, MT.chain, MA.nil, MA.cons, ME.tup, ME.lst, ME.fn, ME.call, ME.lc, ME.sl, MO.no, MO.yes, MI.seq, MI.of, MI.ofA, ME.disp, ME.callA, ME.callR, ME.dc, ME.lc2, ME.sorted, List.map_cons, List.map_nil, List.cons_append, List.nil_append, List.append_nil, List.length_cons, List.length_nil, Nat.zero_add, Nat.reduceAdd, Nat.reduceSub, List.replicate_succ, List.replicate_zero, List.getD_cons_zero, List.getD_cons_succ, List.set_cons_zero, List.set_cons_succ, OQ_some]
  have q16 : ∀ d : D, mulD' (.tup [d]) (.int 16) = some (.tup (List.replicate 16 d)) := fun d => mul_one (k := 16) (by decide) (by decide)
  simp only [q16, OQ_some]
  repeat (refine And.intro (by decide) ?_)
  have hpg : gds 39 pairs = true := gds_all.mpr fun d hd => gd_mono 30 39 _ (by omega) (hp d hd).1
  have hpa : asksD (.tup pairs) = true := by
    simp only [asksD, show ((pairs.length : Nat) : Int) ≤ 16 by omega, decide_true, Bool.true_and]
    exact List.all_eq_true.mpr fun d hd => (hp d hd).2
  refine tells_run (fmc ⟨hpg, hpa⟩ (fmc (by decide +kernel) (fmc (by decide +kernel) fmn))) hw.oks ?_
  exact h _ rfl _
end
end G

set_option Elab.async false
set_option linter.all false
set_option maxRecDepth 100000
set_option maxHeartbeats 4000000
namespace G
open PySem PySem.Spec PyProof.Rows L2
def WorthOk (k : Nat) (d : D) : Prop := gd k d = true ∧ worthD k d = true
def worthL (n : Nat) : MF Dr := ⟨fun ds s Q => ∃ a xs m, ds = [.ref a, .int m] ∧ s = some (a, xs) ∧ 0 ≤ m ∧ m ≤ n ∧ ∀ d, WorthOk (m.toNat + 1) d → ∀ xs', Q d (some (a, xs')), fun h ⟨a, xs, m, e1, e2, e3, e4, q⟩ => ⟨a, xs, m, e1, e2, e3, e4, fun d hd xs' => h _ _ (q d hd xs')⟩⟩
theorem w_lit (k : Nat) (p : D) : worthD (k + 1) (.tup [.str (Str.ofString "lit"), p]) = wordD p := by kernel_rfl
theorem w_get (k : Nat) (p : D) : worthD (k + 1) (.tup [.str (Str.ofString "get"), p]) = nameD p := by kernel_rfl
theorem w_half (k : Nat) (p : D) : worthD (k + 1) (.tup [.str (Str.ofString "half"), p]) = worthD k p := by kernel_rfl
theorem w_at (k : Nat) (p : D) : worthD (k + 1) (.tup [.str (Str.ofString "at"), p]) = worthD k p := by kernel_rfl
theorem w_sum (k : Nat) (p q : D) : worthD (k + 1) (.tup [.str (Str.ofString "sum"), p, q]) = (worthD k p && (worthD k q && true)) := by kernel_rfl
theorem w_less (k : Nat) (p q : D) : worthD (k + 1) (.tup [.str (Str.ofString "less"), p, q]) = (worthD k p && (worthD k q && true)) := by kernel_rfl
theorem w_times (k : Nat) (p q : D) : worthD (k + 1) (.tup [.str (Str.ofString "times"), p, q]) = (worthD k p && (worthD k q && true)) := by kernel_rfl
theorem worth_mono : ∀ (k : Nat) (d : D), worthD k d = true → worthD (k + 1) d = true
  | 0, _, h => by cases h
  | k + 1, d, h => by
    cases d with
    | tup ds =>
      cases ds with
      | nil => cases h
      | cons a ds =>
        cases a with
        | str x =>
          simp only [worthD] at h
          rw [worthD]
          split at h
          · rename_i e
            rw [if_pos e]
            simp only [all2, Bool.and_eq_true, List.all_eq_true] at h ⊢
            exact ⟨h.1, fun d hd => worth_mono k d (h.2 d hd)⟩
          · rename_i e
            rw [if_neg e]
            split at h
            · rename_i e2
              rw [if_pos e2]
              unfold one1 at h ⊢
              split at h
              · exact worth_mono k _ h
              · cases h
            · rename_i e2
              rw [if_neg e2]
              exact h
        | _ => cases h
    | _ => cases h
theorem worth_le {k m : Nat} {d : D} (h : worthD k d = true) (hm : k ≤ m) : worthD m d = true := by
  induction hm with
  | refl => exact h
  | step _ ih => exact worth_mono _ _ ih
theorem worth_word {k : Nat} {d : D} (h : worthD k d = true) : ∃ x ds, d = .tup (.str x :: ds) ∧ (isTwo x = true ∨ isHalf x = true ∨ isLit x = true) := by
  cases k with
  | zero => cases h
  | succ k =>
    cases d with
    | tup ds =>
      cases ds with
      | nil => cases h
      | cons a ds =>
        cases a with
        | str x =>
          refine ⟨x, ds, rfl, ?_⟩
          simp only [worthD] at h
          cases e1 : isTwo x with
          | true => exact .inl rfl
          | false =>
            cases e2 : isHalf x with
            | true => exact .inr (.inl rfl)
            | false =>
              rw [e1, e2] at h
              simp only [Bool.false_eq_true, if_false] at h
              unfold one1 at h
              split at h
              · cases e3 : isLit x with
                | true => exact .inr (.inr rfl)
                | false => rw [e3] at h; cases h
              · cases h
        | _ => cases h
    | _ => cases h
theorem words7 {x : Str} (h : isTwo x = true ∨ isHalf x = true ∨ isLit x = true) : x = "sum" ∨ x = "less" ∨ x = "times" ∨ x = "half" ∨ x = "at" ∨ x = "lit" ∨ x = "get" := by
  simp only [isTwo, isHalf, isLit, Bool.or_eq_true, beq_iff_eq] at h
  rcases h with (h | h | h) | (h | h) | (h | h) <;> subst h <;> simp
theorem worth_not_cond {k j : Nat} {d : D} (h : worthD k d = true) : condD j d = false := by
  obtain ⟨x, ds, rfl, hx⟩ := worth_word h
  cases j with
  | zero => rfl
  | succ j =>
    rcases words7 hx with rfl | rfl | rfl | rfl | rfl | rfl | rfl <;> rfl
theorem cond_not_worth {k j : Nat} {d : D} (h : condD k d = true) : worthD j d = false := by
  cases e : worthD j d with
  | false => rfl
  | true => rw [worth_not_cond e] at h; cases h
theorem dr_worth {a : Addr} {xs : List Int} {n : Nat} {m : Nat} {Q : D → Dr → Prop} (hm : m ≤ n) (h : ∀ d xs', WorthOk (m + 1) d → Q d (some (a, xs'))) : (worthL n).run [.ref a, .int m] (some (a, xs)) Q :=
  ⟨a, xs, m, rfl, rfl, by omega, by omega, fun d hd xs' => h d xs' (by rw [Int.toNat_natCast] at hd; exact hd)⟩
section
variable {S : Type} {P : Program} {w : World} {K : PySem.W.Frag} {mg : Str → Option Value} {base : Heap} {W : Wd S}
theorem c__law_worth {n k : Nat} {g : MF Dr} (T : Txt K w mg) (ih : Cal P w K mg base WD k "_law_worth" 2 g) (hk : 3 ≤ k) (hgn : ∀ a xs (j : Nat) Q, j < n → (∀ d xs', WorthOk (j + 1) d → Q d (some (a, xs'))) → g.run [.ref a, .int j] (some (a, xs)) Q) : Cal P w K mg base WD (k + 1) "_law_worth" 2 (worthL n) := by
  obtain ⟨fa, fd, F, hg, b⟩ := T.d__law_worth.ex
  refine cal_mk F hg b sc__law_worth rfl (fun cdv A outer s H E hr => (b_cons (s_set (i := 2) sc__law_worth.nd (g_call (c__law_take T) hr (by omega) (a_cons (g_var 0) (a_cons g_int a_nil)))) (b_cons (s_ite (PW.pt (w_or (t_eq hr.units (g_var 1) g_int) (w_or1 (t_lt (g_var 2) g_int)))) (b_one (s_ret (g_call (c__law_pick T) hr (by omega) (a_cons (g_var 0) (a_cons (g_lst (a_cons (g_tup (a_cons g_str (a_cons (g_call (c__law_word T) hr hk (a_cons (g_var 0) a_nil)) a_nil))) (a_cons (g_tup (a_cons g_str (a_cons (g_call (c__law_name T) hr hk (a_cons (g_var 0) a_nil)) a_nil))) a_nil))) a_nil))))) b_nil) (b_cons (s_set (i := 3) sc__law_worth.nd (g_call ih hr (Nat.le_refl _) (a_cons (g_var 0) (a_cons (g_sub (g_var 1) g_int) a_nil)))) (b_cons (s_ite (t_lt (g_var 2) g_int) (b_one (s_ret (g_tup (a_cons (g_call (c__law_pick T) hr (by omega) (a_cons (g_var 0) (a_cons (g_lst (a_cons g_str (a_cons g_str a_nil))) a_nil))) (a_cons (g_var 3) a_nil))))) b_nil) (b_one (s_ret (g_tup (a_cons (g_call (c__law_pick T) hr (by omega) (a_cons (g_var 0) (a_cons (g_lst (a_cons g_str (a_cons g_str (a_cons g_str a_nil)))) a_nil))) (a_cons (g_var 3) (a_cons (g_call ih hr (Nat.le_refl _) (a_cons (g_var 0) (a_cons (g_sub (g_var 1) g_int) a_nil))) a_nil))))))))))) ?_
  intro ds s Q hl h
  obtain ⟨a, xs, m, rfl, rfl, h0, hm, h⟩ := h
  simp only [MS.ret, MS.retN, MS.ite, MS.seq, MS.nil, MS.drop, MS.set, MS.asg, MS.par, MS.par3, MS.no, MS.for, MS.aug, ME.var, ME.c, ME.op1, ME.op2, ME.of, ME.ite, ME.chain, MT.op2, MT.op1, MT.of, MT.and, MT.or, MT.not, MT.chain, MA.nil, MA.cons, ME.tup, ME.lst, ME.fn, ME.call, ME.lc, ME.sl, MO.no, MO.yes, MI.seq, MI.of, MI.ofA, ME.disp, ME.callA, ME.callR, ME.dc, ME.lc2, ME.sorted, List.map_cons, List.map_nil, List.cons_append, List.nil_append, List.append_nil, List.length_cons, List.length_nil, Nat.zero_add, Nat.reduceAdd, Nat.reduceSub, List.replicate_succ, List.replicate_zero, List.getD_cons_zero, List.getD_cons_succ, List.set_cons_zero, List.set_cons_succ, OQ_some]
  refine ⟨trivial, dr_take (by decide) fun kind xs1 hk0 hk1 => ?_⟩
  simp only [eqD_zero, ltD, ordD, OQ_some, if_true]
  by_cases hz : m = 0 ∨ kind < 3
  · have hc : ∀ (X Y : Prop), (if decide (m = 0) = true then X else if decide (kind < 3) = true then X else Y) = X := fun X Y => by
      rcases hz with hz | hz
      · rw [if_pos (decide_eq_true hz)]
      · by_cases h1 : m = 0
        · rw [if_pos (decide_eq_true h1)]
        · rw [if_neg (by simpa using h1), if_pos (decide_eq_true hz)]
    rw [hc]
    refine ⟨trivial, dr_word fun v xs2 hv0 hv1 => ⟨by decide, trivial, dr_name fun x xs3 hx0 hx1 => ⟨by decide, by decide, trivial, dr_pick (fmc ?_ (fmc ?_ fmn))⟩⟩⟩
    · intro xs4
      exact h _ ⟨by simp only [ok, gd_str, gd_int, gd_bl, gd_non, gd_tup, gd_lst, gds_nil, gds_cons, Bool.and_true, Bool.true_and, okl_0, okl_1, okl_2, okl_3, okl_4, okl_5, okl_6, okl_7, okl_8, okl_9, okl_10, okl_11, okl_12, okl_13, okl_14, okl_15, okl_16, okl_17, okl_18, okl_19, okl_20, okl_21, okl_22, okl_23, okl_24, okl_25, okl_26, okl_27, okl_28, okl_29, okl_30, okl_31, okl_32, okl_33, okl_34, okl_35, okl_36, okl_37, okl_38, okl_39, okl_40, okl_41, okl_42, okl_43, okl_44, okl_45, okl_46, okl_47, okl_48, okl_49, okl_50, okl_51, okl_52, okl_53, okl_54, okl_55, okl_56, okl_57, okl_58, okl_59, okl_60, okl_61, okl_62, okl_63, okl_64, okl_65, okl_66, okl_67, okl_68, okl_69, okl_70, okl_71, okl_72, okl_73, okl_74, okl_75, okl_76, okl_77, okl_78, okl_79, okl_80, okl_81, okl_82], by rw [w_lit]; exact wi_int hv0 hv1⟩ _
    · intro xs4
      exact h _ ⟨by simp only [ok, gd_str, gd_int, gd_bl, gd_non, gd_tup, gd_lst, gds_nil, gds_cons, Bool.and_true, Bool.true_and, okl_0, okl_1, okl_2, okl_3, okl_4, okl_5, okl_6, okl_7, okl_8, okl_9, okl_10, okl_11, okl_12, okl_13, okl_14, okl_15, okl_16, okl_17, okl_18, okl_19, okl_20, okl_21, okl_22, okl_23, okl_24, okl_25, okl_26, okl_27, okl_28, okl_29, okl_30, okl_31, okl_32, okl_33, okl_34, okl_35, okl_36, okl_37, okl_38, okl_39, okl_40, okl_41, okl_42, okl_43, okl_44, okl_45, okl_46, okl_47, okl_48, okl_49, okl_50, okl_51, okl_52, okl_53, okl_54, okl_55, okl_56, okl_57, okl_58, okl_59, okl_60, okl_61, okl_62, okl_63, okl_64, okl_65, okl_66, okl_67, okl_68, okl_69, okl_70, okl_71, okl_72, okl_73, okl_74, okl_75, okl_76, okl_77, okl_78, okl_79, okl_80, okl_81, okl_82, ok_okS hx1], by rw [w_get]; exact hx0⟩ _
  · have h1 : ¬ m = 0 := fun e => hz (.inl e)
    have h2 : ¬ kind < 3 := fun e => hz (.inr e)
    obtain ⟨j, rfl⟩ : ∃ j : Nat, m = ((j + 1 : Nat) : Int) := ⟨m.toNat - 1, by omega⟩
    have em : ((j + 1 : Nat) : Int) - 1 = (j : Int) := by omega
    have ej : (((j + 1 : Nat) : Int)).toNat = j + 1 := Int.toNat_natCast _
    rw [ej] at h
    simp only [h1, h2, decide_false, if_false, Bool.false_eq_true, iiD, Option.map_some, OQ_some, em]
    refine ⟨trivial, hgn a xs1 j _ (by omega) fun p xs2 hp => ?_⟩
    by_cases h3 : kind < 5
    · simp only [h3, decide_true, if_true]
      refine ⟨by decide, trivial, dr_pick (fmc ?_ (fmc ?_ fmn))⟩
      · intro xs4
        exact ⟨by decide, h _ ⟨by simp only [ok, gd_str, gd_int, gd_bl, gd_non, gd_tup, gd_lst, gds_nil, gds_cons, Bool.and_true, Bool.true_and, okl_0, okl_1, okl_2, okl_3, okl_4, okl_5, okl_6, okl_7, okl_8, okl_9, okl_10, okl_11, okl_12, okl_13, okl_14, okl_15, okl_16, okl_17, okl_18, okl_19, okl_20, okl_21, okl_22, okl_23, okl_24, okl_25, okl_26, okl_27, okl_28, okl_29, okl_30, okl_31, okl_32, okl_33, okl_34, okl_35, okl_36, okl_37, okl_38, okl_39, okl_40, okl_41, okl_42, okl_43, okl_44, okl_45, okl_46, okl_47, okl_48, okl_49, okl_50, okl_51, okl_52, okl_53, okl_54, okl_55, okl_56, okl_57, okl_58, okl_59, okl_60, okl_61, okl_62, okl_63, okl_64, okl_65, okl_66, okl_67, okl_68, okl_69, okl_70, okl_71, okl_72, okl_73, okl_74, okl_75, okl_76, okl_77, okl_78, okl_79, okl_80, okl_81, okl_82, hp.1], by rw [w_half]; exact hp.2⟩ _⟩
      · intro xs4
        exact ⟨by decide, h _ ⟨by simp only [ok, gd_str, gd_int, gd_bl, gd_non, gd_tup, gd_lst, gds_nil, gds_cons, Bool.and_true, Bool.true_and, okl_0, okl_1, okl_2, okl_3, okl_4, okl_5, okl_6, okl_7, okl_8, okl_9, okl_10, okl_11, okl_12, okl_13, okl_14, okl_15, okl_16, okl_17, okl_18, okl_19, okl_20, okl_21, okl_22, okl_23, okl_24, okl_25, okl_26, okl_27, okl_28, okl_29, okl_30, okl_31, okl_32, okl_33, okl_34, okl_35, okl_36, okl_37, okl_38, okl_39, okl_40, okl_41, okl_42, okl_43, okl_44, okl_45, okl_46, okl_47, okl_48, okl_49, okl_50, okl_51, okl_52, okl_53, okl_54, okl_55, okl_56, okl_57, okl_58, okl_59, okl_60, okl_61, okl_62, okl_63, okl_64, okl_65, okl_66, okl_67, okl_68, okl_69, okl_70, okl_71, okl_72, okl_73, okl_74, okl_75, okl_76, okl_77, okl_78, okl_79, okl_80, okl_81, okl_82, hp.1], by rw [w_at]; exact hp.2⟩ _⟩
    · simp only [h3, decide_false, if_false, Bool.false_eq_true]
      refine ⟨by decide, trivial, dr_pick (fmc ?_ (fmc ?_ (fmc ?_ fmn)))⟩
      · intro xs4
        exact ⟨trivial, hgn a xs4 j _ (by omega) fun q xs5 hq => ⟨by decide, h _ ⟨by simp only [ok, gd_str, gd_int, gd_bl, gd_non, gd_tup, gd_lst, gds_nil, gds_cons, Bool.and_true, Bool.true_and, okl_0, okl_1, okl_2, okl_3, okl_4, okl_5, okl_6, okl_7, okl_8, okl_9, okl_10, okl_11, okl_12, okl_13, okl_14, okl_15, okl_16, okl_17, okl_18, okl_19, okl_20, okl_21, okl_22, okl_23, okl_24, okl_25, okl_26, okl_27, okl_28, okl_29, okl_30, okl_31, okl_32, okl_33, okl_34, okl_35, okl_36, okl_37, okl_38, okl_39, okl_40, okl_41, okl_42, okl_43, okl_44, okl_45, okl_46, okl_47, okl_48, okl_49, okl_50, okl_51, okl_52, okl_53, okl_54, okl_55, okl_56, okl_57, okl_58, okl_59, okl_60, okl_61, okl_62, okl_63, okl_64, okl_65, okl_66, okl_67, okl_68, okl_69, okl_70, okl_71, okl_72, okl_73, okl_74, okl_75, okl_76, okl_77, okl_78, okl_79, okl_80, okl_81, okl_82, hp.1, hq.1], by rw [w_sum, hp.2, hq.2]; rfl⟩ _⟩⟩
      · intro xs4
        exact ⟨trivial, hgn a xs4 j _ (by omega) fun q xs5 hq => ⟨by decide, h _ ⟨by simp only [ok, gd_str, gd_int, gd_bl, gd_non, gd_tup, gd_lst, gds_nil, gds_cons, Bool.and_true, Bool.true_and, okl_0, okl_1, okl_2, okl_3, okl_4, okl_5, okl_6, okl_7, okl_8, okl_9, okl_10, okl_11, okl_12, okl_13, okl_14, okl_15, okl_16, okl_17, okl_18, okl_19, okl_20, okl_21, okl_22, okl_23, okl_24, okl_25, okl_26, okl_27, okl_28, okl_29, okl_30, okl_31, okl_32, okl_33, okl_34, okl_35, okl_36, okl_37, okl_38, okl_39, okl_40, okl_41, okl_42, okl_43, okl_44, okl_45, okl_46, okl_47, okl_48, okl_49, okl_50, okl_51, okl_52, okl_53, okl_54, okl_55, okl_56, okl_57, okl_58, okl_59, okl_60, okl_61, okl_62, okl_63, okl_64, okl_65, okl_66, okl_67, okl_68, okl_69, okl_70, okl_71, okl_72, okl_73, okl_74, okl_75, okl_76, okl_77, okl_78, okl_79, okl_80, okl_81, okl_82, hp.1, hq.1], by rw [w_less, hp.2, hq.2]; rfl⟩ _⟩⟩
      · intro xs4
        exact ⟨trivial, hgn a xs4 j _ (by omega) fun q xs5 hq => ⟨by decide, h _ ⟨by simp only [ok, gd_str, gd_int, gd_bl, gd_non, gd_tup, gd_lst, gds_nil, gds_cons, Bool.and_true, Bool.true_and, okl_0, okl_1, okl_2, okl_3, okl_4, okl_5, okl_6, okl_7, okl_8, okl_9, okl_10, okl_11, okl_12, okl_13, okl_14, okl_15, okl_16, okl_17, okl_18, okl_19, okl_20, okl_21, okl_22, okl_23, okl_24, okl_25, okl_26, okl_27, okl_28, okl_29, okl_30, okl_31, okl_32, okl_33, okl_34, okl_35, okl_36, okl_37, okl_38, okl_39, okl_40, okl_41, okl_42, okl_43, okl_44, okl_45, okl_46, okl_47, okl_48, okl_49, okl_50, okl_51, okl_52, okl_53, okl_54, okl_55, okl_56, okl_57, okl_58, okl_59, okl_60, okl_61, okl_62, okl_63, okl_64, okl_65, okl_66, okl_67, okl_68, okl_69, okl_70, okl_71, okl_72, okl_73, okl_74, okl_75, okl_76, okl_77, okl_78, okl_79, okl_80, okl_81, okl_82, hp.1, hq.1], by rw [w_times, hp.2, hq.2]; rfl⟩ _⟩⟩
theorem d__law_worth (T : Txt K w mg) : ∀ n : Nat, Cal P w K mg base WD (4 + n) "_law_worth" 2 (worthL n)
  | 0 => c__law_worth T (cal_never T.d__law_worth 3 2) (by omega) fun a xs j Q h => by omega
  | n + 1 => c__law_worth T (d__law_worth T n) (show 3 ≤ 4 + n by omega) fun a xs j Q h q => dr_worth (by omega) q
end
end G

set_option Elab.async false
set_option linter.all false
set_option maxRecDepth 100000
set_option maxHeartbeats 4000000
namespace G
open PySem PySem.Spec PyProof.Rows L2
theorem ln_set (a b : D) : lineD (.tup [.str (Str.ofString "set"), a, b]) = (nameD a && (worthD 8 b && true)) := by kernel_rfl
theorem ln_write (a b : D) : lineD (.tup [.str (Str.ofString "write"), a, b]) = (worthD 8 a && (worthD 8 b && true)) := by kernel_rfl
theorem ln_map (a b c d : D) : lineD (.tup [.str (Str.ofString "map"), a, b, c, d]) = (nameD a && (withinD 1 4096 b && (kindD c && (rightsD d && true)))) := by kernel_rfl
theorem ln_unmap (a b : D) : lineD (.tup [.str (Str.ofString "unmap"), a, b]) = (worthD 8 a && (withinD 1 4096 b && true)) := by kernel_rfl
theorem ln_if (a b c : D) : lineD (.tup [.str (Str.ofString "if"), a, b, c]) = (condD 8 a && (isTupD b && (isTupD c && true))) := by kernel_rfl
theorem ln_while (a b c : D) : lineD (.tup [.str (Str.ofString "while"), a, b, c]) = (condD 8 a && (withinD 1 1000 b && (isTupD c && true))) := by kernel_rfl
theorem ln_call (a b : D) : lineD (.tup [.str (Str.ofString "call"), a, b]) = (nameD a && (callD b && true)) := by kernel_rfl
theorem in_set (a b : D) : innerD (.tup [.str (Str.ofString "set"), a, b]) = [] := by kernel_rfl
theorem in_write (a b : D) : innerD (.tup [.str (Str.ofString "write"), a, b]) = [] := by kernel_rfl
theorem in_map (a b c d : D) : innerD (.tup [.str (Str.ofString "map"), a, b, c, d]) = [] := by kernel_rfl
theorem in_unmap (a b : D) : innerD (.tup [.str (Str.ofString "unmap"), a, b]) = [] := by kernel_rfl
theorem in_if (a b c : D) : innerD (.tup [.str (Str.ofString "if"), a, b, c]) = [b, c] := by kernel_rfl
theorem in_while (a b c : D) : innerD (.tup [.str (Str.ofString "while"), a, b, c]) = [c] := by kernel_rfl
theorem in_call (a b : D) : innerD (.tup [.str (Str.ofString "call"), a, b]) = [] := by kernel_rfl
theorem in_stop : innerD (.tup [.str (Str.ofString "stop")]) = [] := by kernel_rfl
theorem ln_stop : lineD (.tup [.str (Str.ofString "stop")]) = true := by kernel_rfl
/-- the block of lines ds, c lines in all, d deep at most -/
def Blk (k : Nat) (c : Int) (ds : List D) : Prop := 0 ≤ c ∧ ∀ left : Int, c ≤ left → leftD k ds left = some (left - c)
/-- the line d, c lines within it -/
def Ln (k : Nat) (c : Int) (d : D) : Prop := 0 ≤ c ∧ lineD d = true ∧ ∀ left : Int, c ≤ left → inners (leftD k) (innerD d) left = some (left - c)
theorem Blk.nil (k : Nat) : Blk k 0 [] := ⟨by omega, fun left h => by
  cases k with
  | zero => simp only [leftD, List.length_nil]; rw [if_neg (by omega), if_neg (by omega)]; simp
  | succ k => simp only [leftD, List.length_nil]; rw [if_neg (by omega)]; simp [stepLines]⟩
theorem Ln.plain (k : Nat) {d : D} (h : lineD d = true) (hi : innerD d = []) : Ln k 0 d := ⟨by omega, h, fun left _ => by rw [hi]; simp [inners]⟩
theorem Ln.if' {k : Nat} {c d : Int} {e : D} {xs ys : List D} (hc : condD 8 e = true) (h1 : Blk k c xs) (h2 : Blk k d ys) : Ln k (c + d) (.tup [.str (Str.ofString "if"), e, .tup xs, .tup ys]) := by
  refine ⟨by have := h1.1; have := h2.1; omega, by rw [ln_if, hc]; rfl, fun left hl => ?_⟩
  rw [in_if]
  have := h1.1
  have := h2.1
  simp only [inners]
  rw [h1.2 left (by omega)]
  simp only [Option.bind_some]
  rw [h2.2 _ (by omega)]
  simp only [Option.bind_some]
  congr 1; omega
theorem Ln.while' {k : Nat} {c : Int} {e i : D} {xs : List D} (hc : condD 8 e = true) (hi : withinD 1 1000 i = true) (h1 : Blk k c xs) : Ln k c (.tup [.str (Str.ofString "while"), e, i, .tup xs]) := by
  refine ⟨h1.1, by rw [ln_while, hc, hi]; rfl, fun left hl => ?_⟩
  rw [in_while]
  simp only [inners]
  rw [h1.2 left (by omega)]
  simp only [Option.bind_some]
/-- lines in a row, c within them in all -/
def Row (k : Nat) (c : Int) (ds : List D) : Prop := 0 ≤ c ∧ ∀ (es : List D) (left : Int), c ≤ left → stepLines (leftD k) (ds ++ es) left = stepLines (leftD k) es (left - c)
theorem Row.nil (k : Nat) : Row k 0 [] := ⟨by omega, fun es left _ => by simp⟩
theorem Row.cons {k : Nat} {c d : Int} {e : D} {ds : List D} (h : Ln k c e) (h' : Row k d ds) : Row k (c + d) (e :: ds) := by
  refine ⟨by have := h.1; have := h'.1; omega, fun es left hl => ?_⟩
  have := h.1
  have := h'.1
  rw [List.cons_append]
  simp only [stepLines, h.2.1, if_true]
  rw [h.2.2 left (by omega)]
  simp only [Option.bind_some]
  rw [h'.2 es _ (by omega)]
  congr 1; omega
theorem Row.app {k : Nat} {c d : Int} {as bs : List D} (h : Row k c as) (h' : Row k d bs) : Row k (c + d) (as ++ bs) := by
  refine ⟨by have := h.1; have := h'.1; omega, fun es left hl => ?_⟩
  have := h.1
  have := h'.1
  rw [List.append_assoc, h.2 _ left (by omega), h'.2 es _ (by omega)]
  congr 1; omega
theorem Row.blk {k : Nat} {c : Int} {ds : List D} (h : Row k c ds) : Blk (k + 1) (ds.length + c) ds := by
  have := h.1
  refine ⟨by omega, fun left hl => ?_⟩
  simp only [leftD]
  rw [if_neg (by omega)]
  have := h.2 [] (left - ds.length) (by omega)
  rw [List.append_nil] at this
  rw [this]
  simp only [stepLines]
  congr 1; omega
theorem Blk.prog {c : Int} {ds : List D} (h : Blk 12 c ds) (hc : c ≤ 200) : progD (.tup ds) = true := by
  simp only [progD]
  rw [h.2 200 hc]; rfl
theorem row_plain (k : Nat) : ∀ {ds : List D}, (∀ d ∈ ds, lineD d = true ∧ innerD d = []) → Row k 0 ds
  | [], _ => Row.nil k
  | d :: ds, h => by
    have := Row.cons (Ln.plain k (h d List.mem_cons_self).1 (h d List.mem_cons_self).2) (row_plain k (ds := ds) fun e he => h e (List.mem_cons_of_mem _ he))
    simpa using this
theorem leftD_succ (n : Nat) (ds : List D) (left : Int) : leftD (n + 1) ds left = if left < ds.length then none else stepLines (leftD n) ds (left - ds.length) := rfl
theorem prog_one (d : D) : progD (.tup [d]) = (lineD d && (inners (leftD 11) (innerD d) 199).isSome) := by
  simp only [progD]
  rw [leftD_succ 11, if_neg (by simp only [List.length_cons, List.length_nil]; omega)]
  simp only [stepLines, List.length_cons, List.length_nil]
  cases e : lineD d with
  | false => rfl
  | true =>
    simp only [if_true, Bool.true_and]
    show ((inners (leftD 11) (innerD d) (200 - ((0 + 1 : Nat) : Int))).bind _).isSome = _
    rw [show (200 : Int) - ((0 + 1 : Nat) : Int) = 199 by omega]
    cases inners (leftD 11) (innerD d) 199 <;> rfl
theorem prog_bad {d : D} (h : lineD d = false) : progD (.tup [d]) = false := by rw [prog_one, h]; rfl
/-- a block that ends with what is no line -/
theorem prog_end {c : Int} {ds : List D} {d : D} (h : Row 11 c ds) (hc : (ds.length : Int) + 1 + c ≤ 200) (hd : lineD d = false) : progD (.tup (ds ++ [d])) = false := by
  have := h.1
  simp only [progD]
  rw [leftD_succ 11, if_neg (by simp only [List.length_append, List.length_cons, List.length_nil]; omega), h.2 [d] _ (by simp only [List.length_append, List.length_cons, List.length_nil]; omega)]
  simp only [stepLines, hd, Bool.false_eq_true, if_false]
  rfl
theorem leftD_bad {k : Nat} {d : D} {ds : List D} {left : Int} (hd : lineD d = false) : leftD k (d :: ds) left = none := by
  cases k with
  | zero =>
    simp only [leftD]
    split
    · rfl
    · rw [if_pos (by simp only [List.length_cons]; omega)]
  | succ k =>
    simp only [leftD]
    split
    · rfl
    · simp only [stepLines, hd, Bool.false_eq_true, if_false]
theorem prog_if_bad {e d : D} {ds : List D} {t : D} (hd : lineD d = false) : progD (.tup [.tup [.str (Str.ofString "if"), e, .tup (d :: ds), t]]) = false := by
  rw [prog_one, in_if]
  simp only [inners]
  rw [leftD_bad hd]
  simp
theorem dr_worthC {a : Addr} {xs : List Int} {n : Nat} (m : Nat) {Q : D → Dr → Prop} (hm : m ≤ n) (h : ∀ d xs', WorthOk (m + 1) d → Q d (some (a, xs'))) : (worthL n).run [.ref a, .int m] (some (a, xs)) Q := dr_worth hm h
theorem c_same (k : Nat) (p q : D) : condD (k + 1) (.tup [.str (Str.ofString "same"), p, q]) = (worthD 8 p && (worthD 8 q && true)) := by kernel_rfl
theorem c_below (k : Nat) (p q : D) : condD (k + 1) (.tup [.str (Str.ofString "below"), p, q]) = (worthD 8 p && (worthD 8 q && true)) := by kernel_rfl
theorem c_not (k : Nat) (p : D) : condD (k + 1) (.tup [.str (Str.ofString "not"), p]) = (condD k p && true) := by kernel_rfl
theorem c_both (k : Nat) (p q : D) : condD (k + 1) (.tup [.str (Str.ofString "both"), p, q]) = (condD k p && (condD k q && true)) := by kernel_rfl
section
variable {S : Type} {P : Program} {w : World} {K : PySem.W.Frag} {mg : Str → Option Value} {base : Heap} {W : Wd S}
end
end G

set_option Elab.async false
set_option linter.all false
set_option maxRecDepth 100000
set_option maxHeartbeats 4000000
namespace G
open PySem PySem.Spec PyProof.Rows L2
def CondOk (d : D) : Prop := gd 10 d = true ∧ condD 8 d = true
def GoodP (n : Nat) (c : Int) (ds : List D) : Prop := (∀ d ∈ ds, gd 30 d = true ∧ progD (.tup [d]) = true) ∧ ds.length = n ∧ c ≤ 100 ∧ ∀ k, Row (k + 1) c ds
theorem GoodP.nil : GoodP 0 0 [] := ⟨fmn, rfl, by omega, fun k => Row.nil _⟩
theorem GoodP.cons {n : Nat} {c c' : Int} {d : D} {ds : List D} (hg : gd 30 d = true) (h : ∀ k, Ln (k + 1) c d) (h' : GoodP n c' ds) (hc : c + c' ≤ 100) : GoodP (n + 1) (c + c') (d :: ds) := by
  have h0 : 0 ≤ c' := (h'.2.2.2 0).1
  refine ⟨fmc ⟨hg, ?_⟩ h'.1, by simp [h'.2.1], hc, fun k => Row.cons (h k) (h'.2.2.2 k)⟩
  have := (Row.cons (h 10) (Row.nil 11)).blk
  exact Blk.prog this (by simp only [List.length_cons, List.length_nil]; omega)
theorem GoodP.app {n m : Nat} {c c' : Int} {as bs : List D} (h : GoodP n c as) (h' : GoodP m c' bs) (hc : c + c' ≤ 100) : GoodP (n + m) (c + c') (as ++ bs) :=
  ⟨fma h.1 h'.1, by rw [List.length_append, h.2.1, h'.2.1], hc, fun k => (h.2.2.2 k).app (h'.2.2.2 k)⟩
theorem GoodP.plain : ∀ {ds : List D}, (∀ d ∈ ds, gd 30 d = true ∧ lineD d = true ∧ innerD d = []) → GoodP ds.length 0 ds
  | [], _ => GoodP.nil
  | d :: ds, h => by
    have := GoodP.cons (h d List.mem_cons_self).1 (fun k => Ln.plain (k + 1) (h d List.mem_cons_self).2.1 (h d List.mem_cons_self).2.2) (GoodP.plain (ds := ds) fun e he => h e (List.mem_cons_of_mem _ he)) (by omega)
    simpa using this
theorem stop_blk (k : Nat) : Blk (k + 1) 1 [.tup [.str (Str.ofString "stop")]] := by
  have := (row_plain k (ds := [.tup [.str (Str.ofString "stop")]]) (fmc ⟨ln_stop, in_stop⟩ fmn)).blk
  simpa using this
theorem Blk.two {k : Nat} {d e : D} (h1 : lineD d = true) (h2 : innerD d = []) (h3 : lineD e = true) (h4 : innerD e = []) : Blk (k + 1) 2 [d, e] := by
  have := (row_plain k (ds := [d, e]) (fmc ⟨h1, h2⟩ (fmc ⟨h3, h4⟩ fmn))).blk
  simpa using this
theorem wz1 (p : D) : worthD 8 (.tup [.str (Str.ofString "sum"), p]) = false := by kernel_rfl
theorem wz2 (p q : D) : worthD 8 (.tup [.str (Str.ofString "half"), p, q]) = false := by kernel_rfl
theorem wz3 (p q : D) : worthD 8 (.tup [.str (Str.ofString "over"), p, q]) = false := by kernel_rfl
theorem wz4 (p : D) : condD 8 (.tup [.str (Str.ofString "same"), p]) = false := by kernel_rfl
theorem wz5 (p q : D) : condD 8 (.tup [.str (Str.ofString "above"), p, q]) = false := by kernel_rfl
section
variable {S : Type} {P : Program} {w : World} {K : PySem.W.Frag} {mg : Str → Option Value} {base : Heap} {W : Wd S}
theorem c__law_are_programs_due (T : Txt K w mg) : Cal P w K mg base WD 39 "_law_are_programs_due" 1 (drawF isTrueD) := by
  obtain ⟨f_is_program, m_is_program, h_is_program⟩ := (c_is_program T : Cal P w K mg base WD _ "is_program" 1 _).held
  obtain ⟨fa, fd, F, hg, b⟩ := T.d__law_are_programs_due.ex
  refine cal_mk F hg b sc__law_are_programs_due rfl (fun cdv A outer s H E hr => (b_cons (s_asg (g_tup (a_cons (g_call (d__law_worth T 3) hr (by decide) (a_cons (g_var 0) (a_cons g_int a_nil))) (a_cons (g_call (d__law_worth T 3) hr (by decide) (a_cons (g_var 0) (a_cons g_int a_nil))) (a_cons (g_call (c__law_name T) hr (by decide) (a_cons (g_var 0) a_nil)) (a_cons (g_call (c__law_take T) hr (by decide) (a_cons (g_var 0) (a_cons g_int a_nil))) a_nil))))) (gt_tp rfl (gts_cons (gt_nm (i := 6) sc__law_are_programs_due.nd) (gts_cons (gt_nm (i := 7) sc__law_are_programs_due.nd) (gts_cons (gt_nm (i := 8) sc__law_are_programs_due.nd) (gts_cons (gt_nm (i := 9) sc__law_are_programs_due.nd) gts_nil)))))) (b_cons (s_set (i := 1) sc__law_are_programs_due.nd (g_call (c__law_pick T) hr (by decide) (a_cons (g_var 0) (a_cons (g_lst (a_cons (g_tup (a_cons g_str (a_cons (g_var 6) (a_cons (g_var 7) a_nil)))) (a_cons (g_tup (a_cons g_str (a_cons (g_var 6) (a_cons (g_var 7) a_nil)))) (a_cons (g_tup (a_cons g_str (a_cons (g_tup (a_cons g_str (a_cons (g_var 7) (a_cons (g_var 6) a_nil)))) a_nil))) (a_cons (g_tup (a_cons g_str (a_cons (g_tup (a_cons g_str (a_cons (g_var 6) (a_cons (g_var 7) a_nil)))) (a_cons (g_tup (a_cons g_str (a_cons (g_tup (a_cons g_str (a_cons (g_var 6) (a_cons (g_var 6) a_nil)))) a_nil))) a_nil)))) a_nil))))) a_nil)))) (b_cons (s_set (i := 2) sc__law_are_programs_due.nd (g_call (c__law_calls T) hr (by decide) (a_cons (g_var 0) a_nil))) (b_cons (s_set (i := 3) sc__law_are_programs_due.nd (g_lst (a_cons (g_tup (a_cons g_str (a_cons (g_var 8) (a_cons (g_var 6) a_nil)))) (a_cons (g_tup (a_cons g_str (a_cons (g_var 6) (a_cons (g_var 7) a_nil)))) (a_cons (g_tup (a_cons g_str (a_cons (g_var 8) (a_cons (g_add g_int (g_var 9)) (a_cons (g_tup (a_cons g_str a_nil)) (a_cons g_str a_nil)))))) (a_cons (g_tup (a_cons g_str (a_cons (g_var 6) (a_cons (g_add g_int (g_var 9)) a_nil)))) (a_cons (g_tup (a_cons g_str (a_cons (g_var 1) (a_cons (g_tup (a_cons (g_tup (a_cons g_str a_nil)) a_nil)) (a_cons (g_tup a_nil) a_nil))))) (a_cons (g_tup (a_cons g_str a_nil)) a_nil)))))))) (b_cons (s_set (i := 3) sc__law_are_programs_due.nd (g_add (g_add (g_var 3) (g_lst (a_cons (g_tup (a_cons g_str (a_cons (g_var 1) (a_cons (g_add g_int (g_var 9)) (a_cons (g_tup (a_cons (g_tup (a_cons g_str (a_cons (g_var 8) (a_cons (g_var 7) a_nil)))) (a_cons (g_tup (a_cons g_str a_nil)) a_nil))) a_nil))))) a_nil))) (g_lc [("call", 10)] rfl sc__law_are_programs_due.nd (i_seq (g_var 2)) (blkOk_by (by kernel_rfl)) (fun _ _ _ _ _ => (gt_nm (i := 10) sc__law_are_programs_due.nd)) (fun _ _ _ _ _ => pts0) (fun _ _ _ _ _ => (g_tup (a_cons g_str (a_cons (g_var 8) (a_cons (g_var 10) a_nil)))))))) (b_cons (s_set (i := 4) sc__law_are_programs_due.nd (g_lst (a_cons (g_tup (a_cons g_str (a_cons g_str (a_cons (g_var 6) a_nil)))) (a_cons (g_tup (a_cons g_str (a_cons (g_var 8) a_nil))) (a_cons (g_tup (a_cons g_str (a_cons (g_var 8) (a_cons g_int a_nil)))) (a_cons (g_tup (a_cons g_str (a_cons (g_var 8) (a_cons (g_var 1) a_nil)))) (a_cons (g_tup (a_cons g_str (a_cons (g_var 8) (a_cons (g_var 6) (a_cons (g_var 7) a_nil))))) (a_cons (g_tup (a_cons g_str (a_cons (g_var 6) a_nil))) a_nil)))))))) (b_cons (s_set (i := 4) sc__law_are_programs_due.nd (g_add (g_var 4) (g_lst (a_cons (g_tup (a_cons g_str (a_cons (g_var 6) (a_cons (g_var 8) a_nil)))) (a_cons (g_tup (a_cons g_str (a_cons (g_var 8) (a_cons g_int (a_cons (g_tup (a_cons g_str a_nil)) (a_cons g_str a_nil)))))) (a_cons (g_tup (a_cons g_str (a_cons (g_var 8) (a_cons g_int (a_cons (g_tup (a_cons g_str a_nil)) (a_cons g_str a_nil)))))) (a_cons (g_tup (a_cons g_str (a_cons (g_mul g_str g_int) (a_cons g_int (a_cons (g_tup (a_cons g_str a_nil)) (a_cons g_str a_nil)))))) (a_cons (g_tup (a_cons g_str (a_cons g_int (a_cons g_int a_nil)))) (a_cons (g_tup (a_cons g_str (a_cons (g_var 6) (a_cons g_int a_nil)))) a_nil))))))))) (b_cons (s_set (i := 4) sc__law_are_programs_due.nd (g_add (g_var 4) (g_lst (a_cons (g_tup (a_cons g_str (a_cons (g_var 6) (a_cons (g_tup a_nil) (a_cons (g_tup a_nil) a_nil))))) (a_cons (g_tup (a_cons g_str (a_cons (g_var 1) (a_cons (g_tup a_nil) a_nil)))) (a_cons (g_tup (a_cons g_str (a_cons (g_var 1) (a_cons (g_lst a_nil) (a_cons (g_tup a_nil) a_nil))))) (a_cons (g_tup (a_cons g_str (a_cons (g_var 1) (a_cons (g_tup (a_cons g_str a_nil)) (a_cons (g_tup a_nil) a_nil))))) (a_cons (g_tup (a_cons g_str (a_cons (g_var 1) (a_cons g_int (a_cons (g_tup a_nil) a_nil))))) (a_cons (g_tup (a_cons g_str (a_cons (g_var 1) (a_cons g_int (a_cons (g_tup a_nil) a_nil))))) (a_cons (g_tup (a_cons g_str (a_cons (g_var 1) (a_cons (g_tup a_nil) a_nil)))) (a_cons (g_tup (a_cons g_str (a_cons (g_var 6) (a_cons g_int (a_cons (g_tup a_nil) a_nil))))) a_nil))))))))))) (b_cons (s_set (i := 4) sc__law_are_programs_due.nd (g_add (g_var 4) (g_lst (a_cons (g_tup (a_cons g_str (a_cons (g_var 8) (a_cons (g_tup (a_cons g_str a_nil)) a_nil)))) (a_cons (g_tup (a_cons g_str (a_cons (g_var 8) a_nil))) (a_cons (g_tup (a_cons g_str (a_cons (g_ix (hu1 hr) (g_var 2) g_int) a_nil))) (a_cons (g_tup (a_cons g_str (a_cons g_int a_nil))) (a_cons (g_tup (a_cons g_str a_nil)) (a_cons (g_tup a_nil) (a_cons g_int (a_cons (g_lst (a_cons g_str a_nil)) a_nil))))))))))) (b_cons (s_set (i := 4) sc__law_are_programs_due.nd (g_add (g_var 4) (g_lst (a_cons (g_tup (a_cons g_str (a_cons (g_var 8) (a_cons (g_tup (a_cons g_str (a_cons g_int a_nil))) a_nil)))) (a_cons (g_tup (a_cons g_str (a_cons (g_var 8) (a_cons (g_tup (a_cons g_str (a_cons (g_neg g_int) a_nil))) a_nil)))) (a_cons (g_tup (a_cons g_str (a_cons (g_var 8) (a_cons (g_tup (a_cons g_str (a_cons g_bl a_nil))) a_nil)))) (a_cons (g_tup (a_cons g_str (a_cons (g_var 8) (a_cons (g_tup (a_cons g_str (a_cons g_str a_nil))) a_nil)))) (a_cons (g_tup (a_cons g_str (a_cons (g_var 8) (a_cons (g_tup (a_cons g_str (a_cons (g_var 6) a_nil))) a_nil)))) a_nil)))))))) (b_cons (s_set (i := 4) sc__law_are_programs_due.nd (g_add (g_var 4) (g_lst (a_cons (g_tup (a_cons g_str (a_cons (g_var 8) (a_cons (g_tup (a_cons g_str (a_cons (g_var 6) (a_cons (g_var 7) a_nil)))) a_nil)))) (a_cons (g_tup (a_cons g_str (a_cons (g_var 8) (a_cons (g_tup (a_cons g_str (a_cons (g_var 6) (a_cons (g_var 7) a_nil)))) a_nil)))) (a_cons (g_tup (a_cons g_str (a_cons (g_var 8) (a_cons (g_tup (a_cons g_str a_nil)) a_nil)))) (a_cons (g_tup (a_cons g_str (a_cons (g_var 8) (a_cons (g_lst (a_cons g_str (a_cons g_int a_nil))) a_nil)))) (a_cons (g_tup (a_cons g_str (a_cons (g_tup (a_cons g_str (a_cons (g_var 6) a_nil))) (a_cons (g_tup a_nil) (a_cons (g_tup a_nil) a_nil))))) a_nil)))))))) (b_cons (s_set (i := 4) sc__law_are_programs_due.nd (g_add (g_var 4) (g_lst (a_cons (g_tup (a_cons g_str (a_cons (g_tup (a_cons g_str (a_cons (g_var 6) a_nil))) (a_cons (g_tup a_nil) (a_cons (g_tup a_nil) a_nil))))) (a_cons (g_tup (a_cons g_str (a_cons (g_tup (a_cons g_str (a_cons (g_var 1) (a_cons (g_var 6) a_nil)))) (a_cons (g_tup a_nil) (a_cons (g_tup a_nil) a_nil))))) (a_cons (g_tup (a_cons g_str (a_cons (g_tup (a_cons g_str (a_cons (g_var 6) (a_cons (g_var 7) a_nil)))) (a_cons (g_tup a_nil) (a_cons (g_tup a_nil) a_nil))))) (a_cons (g_tup (a_cons g_str (a_cons (g_tup (a_cons g_str (a_cons (g_var 6) (a_cons (g_var 1) a_nil)))) (a_cons (g_tup a_nil) (a_cons (g_tup a_nil) a_nil))))) a_nil))))))) (b_cons (s_ite (PW.pt (w_or (t_ne hr.units (g_lc [("line", 11)] rfl sc__law_are_programs_due.nd (i_seq (g_var 3)) (blkOk_by (by kernel_rfl)) (fun _ _ _ _ _ => (gt_nm (i := 11) sc__law_are_programs_due.nd)) (fun _ _ _ _ _ => (pts1 (t_isNot (g_call (c_is_program T) hr (by decide) (a_cons (g_tup (a_cons (g_var 11) a_nil)) a_nil)) g_bl))) (fun _ _ _ _ _ => (g_var 11))) (g_lst a_nil)) (w_or1 (t_ne hr.units (g_lc [("line", 11)] rfl sc__law_are_programs_due.nd (i_seq (g_var 4)) (blkOk_by (by kernel_rfl)) (fun _ _ _ _ _ => (gt_nm (i := 11) sc__law_are_programs_due.nd)) (fun _ _ _ _ _ => (pts1 (t_isNot (g_call (c_is_program T) hr (by decide) (a_cons (g_tup (a_cons (g_var 11) a_nil)) a_nil)) g_bl))) (fun _ _ _ _ _ => (g_var 11))) (g_lst a_nil))))) (b_one (s_ret g_bl)) b_nil) (b_cons (s_set (i := 5) sc__law_are_programs_due.nd (g_lst (a_cons (g_tup a_nil) (a_cons (g_toTup T.b.tuple bb_tuple (a_cons (g_var 3) a_nil)) (a_cons (g_tup (a_cons (g_tup (a_cons g_str (a_cons (g_var 1) (a_cons (g_toTup T.b.tuple bb_tuple (a_cons (g_var 3) a_nil)) (a_cons (g_tup (a_cons (g_tup (a_cons g_str (a_cons (g_var 1) (a_cons g_int (a_cons (g_toTup T.b.tuple bb_tuple (a_cons (g_var 3) a_nil)) a_nil))))) a_nil)) a_nil))))) a_nil)) a_nil))))) (b_one (s_ret (g_call (c__law_tells T h_is_program) hr (by decide) (a_cons (g_ref m_is_program) (a_cons (g_var 5) (a_cons (g_lst (a_cons (g_toLst rfl T.b.list bb_list (a_cons (g_var 3) a_nil)) (a_cons (g_ix (hu1 hr) (g_var 3) g_int) (a_cons g_non (a_cons (g_add (g_toTup T.b.tuple bb_tuple (a_cons (g_var 3) a_nil)) (g_tup (a_cons (g_tup (a_cons g_str (a_cons g_int a_nil))) a_nil))) (a_cons (g_tup (a_cons (g_tup (a_cons g_str (a_cons (g_var 1) (a_cons (g_tup (a_cons (g_ix (hu1 hr) (g_var 4) g_int) a_nil)) (a_cons (g_tup a_nil) a_nil))))) a_nil)) a_nil)))))) a_nil))))))))))))))))))))) ?_
  intro ds s Q hl h
  obtain ⟨a, xs, rfl, rfl, h⟩ := h
  simp only [List.map_cons, List.map_nil, List.cons_append, List.nil_append, List.append_nil, List.length_cons, List.length_nil, Nat.zero_add, Nat.reduceAdd, Nat.reduceSub, List.replicate_succ, List.replicate_zero, List.getD_cons_zero, List.getD_cons_succ, List.set_cons_zero, List.set_cons_succ, OQ_some]
  refine seq_run (fun δ' s' => ∃ (xs' : List Int) (wa : D) (wb : D) (x : Str) (n : Int), (WorthOk 4 wa) ∧ (WorthOk 3 wb) ∧ (nameD (.str x) = true) ∧ (okS x = true) ∧ (0 ≤ n) ∧ (n < 1000) ∧ δ' = [some (.ref a), none, none, none, none, none, some wa, some wb, some (.str x), some (.int n), none, none] ∧ s' = some (a, xs')) (fun E' hn => ?_) (fun δ' s' hP => ?_)
  · simp only [MS.ret, MS.retN, MS.ite, MS.seq, MS.nil, MS.drop, MS.set, MS.asg, MS.par, MS.par3, MS.no, MS.for, MS.aug, ME.var, ME.c, ME.op1, ME.op2, ME.of, ME.ite, ME.chain, MT.op2, MT.op1, MT.of, MT.and, MT.or, MT.not, MT.chain, MA.nil, MA.cons, ME.tup, ME.lst, ME.fn, ME.call, ME.lc, ME.sl, MO.no, MO.yes, MI.seq, MI.of, MI.ofA, ME.disp, ME.callA, ME.callR, ME.dc, ME.lc2, ME.sorted, List.map_cons, List.map_nil, List.cons_append, List.nil_append, List.append_nil, List.length_cons, List.length_nil, Nat.zero_add, Nat.reduceAdd, Nat.reduceSub, List.replicate_succ, List.replicate_zero, List.getD_cons_zero, List.getD_cons_succ, List.set_cons_zero, List.set_cons_succ, OQ_some, negD]
    refine ⟨trivial, dr_worthC 3 (by decide) fun wa xs1 hwa => ⟨trivial, dr_worthC 2 (by decide) fun wb xs2 hwb => ⟨trivial, dr_name fun x xs3 hx0 hx1 => ⟨trivial, dr_take (by decide) fun n xs4 h0 h1 => ⟨by decide, ?_⟩⟩⟩⟩⟩
    simp only [setT, setTs, Option.bind_some, List.map_cons, List.map_nil, List.cons_append, List.nil_append, List.append_nil, List.length_cons, List.length_nil, Nat.zero_add, Nat.reduceAdd, Nat.reduceSub, List.replicate_succ, List.replicate_zero, List.getD_cons_zero, List.getD_cons_succ, List.set_cons_zero, List.set_cons_succ, OQ_some]
    exact hn _ _ ⟨_, wa, wb, x, n, hwa, hwb, hx0, ok_okS hx1, h0, h1, rfl, rfl⟩
  obtain ⟨xs, wa, wb, x, n, hwa, hwb, hx0, hx1, hn0, hn1, rfl, rfl⟩ := hP
  have ga : ∀ k, gd (k + 4) wa = true := fun k => gd_mono 4 _ _ (by omega) hwa.1
  have gb : ∀ k, gd (k + 3) wb = true := fun k => gd_mono 3 _ _ (by omega) hwb.1
  have wa8 : worthD 8 wa = true := worth_le hwa.2 (by omega)
  have wb8 : worthD 8 wb = true := worth_le hwb.2 (by omega)
  have wac : ∀ k, condD k wa = false := fun k => worth_not_cond hwa.2
  refine seq_run (fun δ' s' => ∃ (xs' : List Int) (cc : D), (CondOk cc) ∧ δ' = [some (.ref a), some cc, none, none, none, none, some wa, some wb, some (.str x), some (.int n), none, none] ∧ s' = some (a, xs')) (fun E' hn => ?_) (fun δ' s' hP => ?_)
  · simp only [MS.ret, MS.retN, MS.ite, MS.seq, MS.nil, MS.drop, MS.set, MS.asg, MS.par, MS.par3, MS.no, MS.for, MS.aug, ME.var, ME.c, ME.op1, ME.op2, ME.of, ME.ite, ME.chain, MT.op2, MT.op1, MT.of, MT.and, MT.or, MT.not, MT.chain, MA.nil, MA.cons, ME.tup, ME.lst, ME.fn, ME.call, ME.lc, ME.sl, MO.no, MO.yes, MI.seq, MI.of, MI.ofA, ME.disp, ME.callA, ME.callR, ME.dc, ME.lc2, ME.sorted, List.map_cons, List.map_nil, List.cons_append, List.nil_append, List.append_nil, List.length_cons, List.length_nil, Nat.zero_add, Nat.reduceAdd, Nat.reduceSub, List.replicate_succ, List.replicate_zero, List.getD_cons_zero, List.getD_cons_succ, List.set_cons_zero, List.set_cons_succ, OQ_some, negD]
    repeat (refine And.intro (by decide) ?_)
    refine dr_pick (fmc (fun xs1 => ?_) (fmc (fun xs1 => ?_) (fmc (fun xs1 => ?_) (fmc (fun xs1 => ?_) fmn))))
    · exact hn _ _ ⟨_, _, ⟨by simp only [ok, gd_str, gd_int, gd_bl, gd_non, gd_tup, gd_lst, gds_nil, gds_cons, Bool.and_true, Bool.true_and, okl_0, okl_1, okl_2, okl_3, okl_4, okl_5, okl_6, okl_7, okl_8, okl_9, okl_10, okl_11, okl_12, okl_13, okl_14, okl_15, okl_16, okl_17, okl_18, okl_19, okl_20, okl_21, okl_22, okl_23, okl_24, okl_25, okl_26, okl_27, okl_28, okl_29, okl_30, okl_31, okl_32, okl_33, okl_34, okl_35, okl_36, okl_37, okl_38, okl_39, okl_40, okl_41, okl_42, okl_43, okl_44, okl_45, okl_46, okl_47, okl_48, okl_49, okl_50, okl_51, okl_52, okl_53, okl_54, okl_55, okl_56, okl_57, okl_58, okl_59, okl_60, okl_61, okl_62, okl_63, okl_64, okl_65, okl_66, okl_67, okl_68, okl_69, okl_70, okl_71, okl_72, okl_73, okl_74, okl_75, okl_76, okl_77, okl_78, okl_79, okl_80, okl_81, okl_82, ga, gb], by rw [c_same, wa8, wb8]; rfl⟩, rfl, rfl⟩
    · exact hn _ _ ⟨_, _, ⟨by simp only [ok, gd_str, gd_int, gd_bl, gd_non, gd_tup, gd_lst, gds_nil, gds_cons, Bool.and_true, Bool.true_and, okl_0, okl_1, okl_2, okl_3, okl_4, okl_5, okl_6, okl_7, okl_8, okl_9, okl_10, okl_11, okl_12, okl_13, okl_14, okl_15, okl_16, okl_17, okl_18, okl_19, okl_20, okl_21, okl_22, okl_23, okl_24, okl_25, okl_26, okl_27, okl_28, okl_29, okl_30, okl_31, okl_32, okl_33, okl_34, okl_35, okl_36, okl_37, okl_38, okl_39, okl_40, okl_41, okl_42, okl_43, okl_44, okl_45, okl_46, okl_47, okl_48, okl_49, okl_50, okl_51, okl_52, okl_53, okl_54, okl_55, okl_56, okl_57, okl_58, okl_59, okl_60, okl_61, okl_62, okl_63, okl_64, okl_65, okl_66, okl_67, okl_68, okl_69, okl_70, okl_71, okl_72, okl_73, okl_74, okl_75, okl_76, okl_77, okl_78, okl_79, okl_80, okl_81, okl_82, ga, gb], by rw [c_below, wa8, wb8]; rfl⟩, rfl, rfl⟩
    · exact hn _ _ ⟨_, _, ⟨by simp only [ok, gd_str, gd_int, gd_bl, gd_non, gd_tup, gd_lst, gds_nil, gds_cons, Bool.and_true, Bool.true_and, okl_0, okl_1, okl_2, okl_3, okl_4, okl_5, okl_6, okl_7, okl_8, okl_9, okl_10, okl_11, okl_12, okl_13, okl_14, okl_15, okl_16, okl_17, okl_18, okl_19, okl_20, okl_21, okl_22, okl_23, okl_24, okl_25, okl_26, okl_27, okl_28, okl_29, okl_30, okl_31, okl_32, okl_33, okl_34, okl_35, okl_36, okl_37, okl_38, okl_39, okl_40, okl_41, okl_42, okl_43, okl_44, okl_45, okl_46, okl_47, okl_48, okl_49, okl_50, okl_51, okl_52, okl_53, okl_54, okl_55, okl_56, okl_57, okl_58, okl_59, okl_60, okl_61, okl_62, okl_63, okl_64, okl_65, okl_66, okl_67, okl_68, okl_69, okl_70, okl_71, okl_72, okl_73, okl_74, okl_75, okl_76, okl_77, okl_78, okl_79, okl_80, okl_81, okl_82, ga, gb], by rw [c_not, c_same, wa8, wb8]; rfl⟩, rfl, rfl⟩
    · exact hn _ _ ⟨_, _, ⟨by simp only [ok, gd_str, gd_int, gd_bl, gd_non, gd_tup, gd_lst, gds_nil, gds_cons, Bool.and_true, Bool.true_and, okl_0, okl_1, okl_2, okl_3, okl_4, okl_5, okl_6, okl_7, okl_8, okl_9, okl_10, okl_11, okl_12, okl_13, okl_14, okl_15, okl_16, okl_17, okl_18, okl_19, okl_20, okl_21, okl_22, okl_23, okl_24, okl_25, okl_26, okl_27, okl_28, okl_29, okl_30, okl_31, okl_32, okl_33, okl_34, okl_35, okl_36, okl_37, okl_38, okl_39, okl_40, okl_41, okl_42, okl_43, okl_44, okl_45, okl_46, okl_47, okl_48, okl_49, okl_50, okl_51, okl_52, okl_53, okl_54, okl_55, okl_56, okl_57, okl_58, okl_59, okl_60, okl_61, okl_62, okl_63, okl_64, okl_65, okl_66, okl_67, okl_68, okl_69, okl_70, okl_71, okl_72, okl_73, okl_74, okl_75, okl_76, okl_77, okl_78, okl_79, okl_80, okl_81, okl_82, ga, gb], by rw [c_both, c_below, c_not, c_same, wa8, wb8]; rfl⟩, rfl, rfl⟩
  obtain ⟨xs, cc, hc, rfl, rfl⟩ := hP
  have gc : ∀ k, gd (k + 10) cc = true := fun k => gd_mono 10 _ _ (by omega) hc.1
  have hc8 : condD 8 cc = true := hc.2
  have hcw : ∀ k, worthD k cc = false := fun k => cond_not_worth hc8
  refine seq_run (fun δ' s' => ∃ (xs' : List Int) (cs : List D), (CallsOk cs) ∧ δ' = [some (.ref a), some cc, some (.lst cs), none, none, none, some wa, some wb, some (.str x), some (.int n), none, none] ∧ s' = some (a, xs')) (fun E' hn => ?_) (fun δ' s' hP => ?_)
  · simp only [MS.ret, MS.retN, MS.ite, MS.seq, MS.nil, MS.drop, MS.set, MS.asg, MS.par, MS.par3, MS.no, MS.for, MS.aug, ME.var, ME.c, ME.op1, ME.op2, ME.of, ME.ite, ME.chain, MT.op2, MT.op1, MT.of, MT.and, MT.or, MT.not, MT.chain, MA.nil, MA.cons, ME.tup, ME.lst, ME.fn, ME.call, ME.lc, ME.sl, MO.no, MO.yes, MI.seq, MI.of, MI.ofA, ME.disp, ME.callA, ME.callR, ME.dc, ME.lc2, ME.sorted, List.map_cons, List.map_nil, List.cons_append, List.nil_append, List.append_nil, List.length_cons, List.length_nil, Nat.zero_add, Nat.reduceAdd, Nat.reduceSub, List.replicate_succ, List.replicate_zero, List.getD_cons_zero, List.getD_cons_succ, List.set_cons_zero, List.set_cons_succ, OQ_some, negD]
    exact ⟨trivial, dr_calls fun cs xs1 hcs => hn _ _ ⟨_, cs, hcs, rfl, rfl⟩⟩
  obtain ⟨xs, cs, hcs, rfl, rfl⟩ := hP
  have k1 : withinD 1 4096 (.int (1 + n)) = true := wi_int (by omega) (by omega)
  have k2 : withinD 1 1000 (.int (1 + n)) = true := wi_int (by omega) (by omega)
  have ks : lineD (.tup [.str "set", .str x, wa]) = true := by rw [ln_set, hx0, wa8]; rfl
  have kb : lineD (.tup [.str "set", .str x, wb]) = true := by rw [ln_set, hx0, wb8]; rfl
  have hx30 : okS x = true := hx1
  refine seq_run (fun δ' s' => ∃ (xs' : List Int) (gr : List D), (GoodP 6 1 ((.tup [.str "set", .str x, wa]) :: gr)) ∧ δ' = [some (.ref a), some cc, some (.lst cs), some (.lst ((.tup [.str "set", .str x, wa]) :: gr)), none, none, some wa, some wb, some (.str x), some (.int n), none, none] ∧ s' = some (a, xs')) (fun E' hn => ?_) (fun δ' s' hP => ?_)
  · simp only [MS.ret, MS.retN, MS.ite, MS.seq, MS.nil, MS.drop, MS.set, MS.asg, MS.par, MS.par3, MS.no, MS.for, MS.aug, ME.var, ME.c, ME.op1, ME.op2, ME.of, ME.ite, ME.chain, MT.op2, MT.op1, MT.of, MT.and, MT.or, MT.not, MT.chain, MA.nil, MA.cons, ME.tup, ME.lst, ME.fn, ME.call, ME.lc, ME.sl, MO.no, MO.yes, MI.seq, MI.of, MI.ofA, ME.disp, ME.callA, ME.callR, ME.dc, ME.lc2, ME.sorted, List.map_cons, List.map_nil, List.cons_append, List.nil_append, List.append_nil, List.length_cons, List.length_nil, Nat.zero_add, Nat.reduceAdd, Nat.reduceSub, List.replicate_succ, List.replicate_zero, List.getD_cons_zero, List.getD_cons_succ, List.set_cons_zero, List.set_cons_succ, OQ_some, negD]
    simp only [addD, OQ_some]
    repeat (refine And.intro (by decide) ?_)
    refine hn _ _ ⟨_, _, ?_, rfl, rfl⟩
    exact GoodP.cons (c := 0) (c' := 1) (by simp only [ok, gd_str, gd_int, gd_bl, gd_non, gd_tup, gd_lst, gds_nil, gds_cons, Bool.and_true, Bool.true_and, okl_0, okl_1, okl_2, okl_3, okl_4, okl_5, okl_6, okl_7, okl_8, okl_9, okl_10, okl_11, okl_12, okl_13, okl_14, okl_15, okl_16, okl_17, okl_18, okl_19, okl_20, okl_21, okl_22, okl_23, okl_24, okl_25, okl_26, okl_27, okl_28, okl_29, okl_30, okl_31, okl_32, okl_33, okl_34, okl_35, okl_36, okl_37, okl_38, okl_39, okl_40, okl_41, okl_42, okl_43, okl_44, okl_45, okl_46, okl_47, okl_48, okl_49, okl_50, okl_51, okl_52, okl_53, okl_54, okl_55, okl_56, okl_57, okl_58, okl_59, okl_60, okl_61, okl_62, okl_63, okl_64, okl_65, okl_66, okl_67, okl_68, okl_69, okl_70, okl_71, okl_72, okl_73, okl_74, okl_75, okl_76, okl_77, okl_78, okl_79, okl_80, okl_81, okl_82, ga, gb, gc, hx1]) (fun k => Ln.plain _ ks (in_set _ _)) (GoodP.cons (c := 0) (c' := 1) (by simp only [ok, gd_str, gd_int, gd_bl, gd_non, gd_tup, gd_lst, gds_nil, gds_cons, Bool.and_true, Bool.true_and, okl_0, okl_1, okl_2, okl_3, okl_4, okl_5, okl_6, okl_7, okl_8, okl_9, okl_10, okl_11, okl_12, okl_13, okl_14, okl_15, okl_16, okl_17, okl_18, okl_19, okl_20, okl_21, okl_22, okl_23, okl_24, okl_25, okl_26, okl_27, okl_28, okl_29, okl_30, okl_31, okl_32, okl_33, okl_34, okl_35, okl_36, okl_37, okl_38, okl_39, okl_40, okl_41, okl_42, okl_43, okl_44, okl_45, okl_46, okl_47, okl_48, okl_49, okl_50, okl_51, okl_52, okl_53, okl_54, okl_55, okl_56, okl_57, okl_58, okl_59, okl_60, okl_61, okl_62, okl_63, okl_64, okl_65, okl_66, okl_67, okl_68, okl_69, okl_70, okl_71, okl_72, okl_73, okl_74, okl_75, okl_76, okl_77, okl_78, okl_79, okl_80, okl_81, okl_82, ga, gb, gc, hx1]) (fun k => Ln.plain _ (by rw [ln_write, wa8, wb8]; rfl) (in_write _ _)) (GoodP.cons (c := 0) (c' := 1) (by simp only [ok, gd_str, gd_int, gd_bl, gd_non, gd_tup, gd_lst, gds_nil, gds_cons, Bool.and_true, Bool.true_and, okl_0, okl_1, okl_2, okl_3, okl_4, okl_5, okl_6, okl_7, okl_8, okl_9, okl_10, okl_11, okl_12, okl_13, okl_14, okl_15, okl_16, okl_17, okl_18, okl_19, okl_20, okl_21, okl_22, okl_23, okl_24, okl_25, okl_26, okl_27, okl_28, okl_29, okl_30, okl_31, okl_32, okl_33, okl_34, okl_35, okl_36, okl_37, okl_38, okl_39, okl_40, okl_41, okl_42, okl_43, okl_44, okl_45, okl_46, okl_47, okl_48, okl_49, okl_50, okl_51, okl_52, okl_53, okl_54, okl_55, okl_56, okl_57, okl_58, okl_59, okl_60, okl_61, okl_62, okl_63, okl_64, okl_65, okl_66, okl_67, okl_68, okl_69, okl_70, okl_71, okl_72, okl_73, okl_74, okl_75, okl_76, okl_77, okl_78, okl_79, okl_80, okl_81, okl_82, ga, gb, gc, hx1]) (fun k => Ln.plain _ (by rw [ln_map, hx0, k1]; decide +kernel) (in_map _ _ _ _)) (GoodP.cons (c := 0) (c' := 1) (by simp only [ok, gd_str, gd_int, gd_bl, gd_non, gd_tup, gd_lst, gds_nil, gds_cons, Bool.and_true, Bool.true_and, okl_0, okl_1, okl_2, okl_3, okl_4, okl_5, okl_6, okl_7, okl_8, okl_9, okl_10, okl_11, okl_12, okl_13, okl_14, okl_15, okl_16, okl_17, okl_18, okl_19, okl_20, okl_21, okl_22, okl_23, okl_24, okl_25, okl_26, okl_27, okl_28, okl_29, okl_30, okl_31, okl_32, okl_33, okl_34, okl_35, okl_36, okl_37, okl_38, okl_39, okl_40, okl_41, okl_42, okl_43, okl_44, okl_45, okl_46, okl_47, okl_48, okl_49, okl_50, okl_51, okl_52, okl_53, okl_54, okl_55, okl_56, okl_57, okl_58, okl_59, okl_60, okl_61, okl_62, okl_63, okl_64, okl_65, okl_66, okl_67, okl_68, okl_69, okl_70, okl_71, okl_72, okl_73, okl_74, okl_75, okl_76, okl_77, okl_78, okl_79, okl_80, okl_81, okl_82, ga, gb, gc, hx1]) (fun k => Ln.plain _ (by rw [ln_unmap, wa8, k1]; rfl) (in_unmap _ _)) (GoodP.cons (c := 1 + 0) (c' := 0) (by simp only [ok, gd_str, gd_int, gd_bl, gd_non, gd_tup, gd_lst, gds_nil, gds_cons, Bool.and_true, Bool.true_and, okl_0, okl_1, okl_2, okl_3, okl_4, okl_5, okl_6, okl_7, okl_8, okl_9, okl_10, okl_11, okl_12, okl_13, okl_14, okl_15, okl_16, okl_17, okl_18, okl_19, okl_20, okl_21, okl_22, okl_23, okl_24, okl_25, okl_26, okl_27, okl_28, okl_29, okl_30, okl_31, okl_32, okl_33, okl_34, okl_35, okl_36, okl_37, okl_38, okl_39, okl_40, okl_41, okl_42, okl_43, okl_44, okl_45, okl_46, okl_47, okl_48, okl_49, okl_50, okl_51, okl_52, okl_53, okl_54, okl_55, okl_56, okl_57, okl_58, okl_59, okl_60, okl_61, okl_62, okl_63, okl_64, okl_65, okl_66, okl_67, okl_68, okl_69, okl_70, okl_71, okl_72, okl_73, okl_74, okl_75, okl_76, okl_77, okl_78, okl_79, okl_80, okl_81, okl_82, ga, gb, gc, hx1]) (fun k => Ln.if' hc8 (stop_blk k) (Blk.nil _)) (GoodP.cons (c := 0) (c' := 0) (by decide +kernel) (fun k => Ln.plain _ ln_stop in_stop) GoodP.nil (by omega)) (by omega)) (by omega)) (by omega)) (by omega)) (by omega)
  obtain ⟨xs, gr, hg, rfl, rfl⟩ := hP
  refine seq_run (fun δ' s' => ∃ (xs' : List Int) (gr : List D), (GoodP 24 3 ((.tup [.str "set", .str x, wa]) :: gr)) ∧ δ' = [some (.ref a), some cc, some (.lst cs), some (.lst ((.tup [.str "set", .str x, wa]) :: gr)), none, none, some wa, some wb, some (.str x), some (.int n), none, none] ∧ s' = some (a, xs')) (fun E' hn => ?_) (fun δ' s' hP => ?_)
  · simp only [MS.ret, MS.retN, MS.ite, MS.seq, MS.nil, MS.drop, MS.set, MS.asg, MS.par, MS.par3, MS.no, MS.for, MS.aug, ME.var, ME.c, ME.op1, ME.op2, ME.of, ME.ite, ME.chain, MT.op2, MT.op1, MT.of, MT.and, MT.or, MT.not, MT.chain, MA.nil, MA.cons, ME.tup, ME.lst, ME.fn, ME.call, ME.lc, ME.sl, MO.no, MO.yes, MI.seq, MI.of, MI.ofA, ME.disp, ME.callA, ME.callR, ME.dc, ME.lc2, ME.sorted, List.map_cons, List.map_nil, List.cons_append, List.nil_append, List.append_nil, List.length_cons, List.length_nil, Nat.zero_add, Nat.reduceAdd, Nat.reduceSub, List.replicate_succ, List.replicate_zero, List.getD_cons_zero, List.getD_cons_succ, List.set_cons_zero, List.set_cons_succ, OQ_some, negD]
    simp only [addD, OQ_some]
    repeat (refine And.intro (by decide) ?_)
    have hl1 := hcs.2.1
    have hgl := hg.2.1
    rw [if_pos (show _ ≤ 16777216 by rw [hgl]; simp only [List.length_cons, List.length_nil]; omega)]
    simp only [seqD, szD, OQ_some]
    refine fun hz => ⟨hz, lc_map (f := fun c => .tup [.str "call", .str x, c]) cs (fun c hm => ⟨_, rfl, fun Q hq => ?_⟩) ?_⟩
    · simp only [wipeD, List.map_cons, List.map_nil, List.cons_append, List.nil_append, List.append_nil, List.length_cons, List.length_nil, Nat.zero_add, Nat.reduceAdd, Nat.reduceSub, List.replicate_succ, List.replicate_zero, List.getD_cons_zero, List.getD_cons_succ, List.set_cons_zero, List.set_cons_succ, OQ_some]
      exact ⟨by decide, hq⟩
    rw [if_pos (show _ ≤ 16777216 by rw [List.length_append, hgl, List.length_map, hl1]; simp only [List.length_cons, List.length_nil]; omega)]
    simp only [OQ_some, List.cons_append]
    refine hn _ _ ⟨_, _, ?_, rfl, rfl⟩
    have hcl := GoodP.plain (ds := cs.map fun c => .tup [.str "call", .str x, c]) (fun e he => by
      obtain ⟨c, hcm, rfl⟩ := List.mem_map.mp he
      have h19 : gd 29 c = true := gd_mono 20 29 c (by omega) (hcs.1 c hcm).1
      exact ⟨by simp only [ok, gd_str, gd_int, gd_bl, gd_non, gd_tup, gd_lst, gds_nil, gds_cons, Bool.and_true, Bool.true_and, okl_0, okl_1, okl_2, okl_3, okl_4, okl_5, okl_6, okl_7, okl_8, okl_9, okl_10, okl_11, okl_12, okl_13, okl_14, okl_15, okl_16, okl_17, okl_18, okl_19, okl_20, okl_21, okl_22, okl_23, okl_24, okl_25, okl_26, okl_27, okl_28, okl_29, okl_30, okl_31, okl_32, okl_33, okl_34, okl_35, okl_36, okl_37, okl_38, okl_39, okl_40, okl_41, okl_42, okl_43, okl_44, okl_45, okl_46, okl_47, okl_48, okl_49, okl_50, okl_51, okl_52, okl_53, okl_54, okl_55, okl_56, okl_57, okl_58, okl_59, okl_60, okl_61, okl_62, okl_63, okl_64, okl_65, okl_66, okl_67, okl_68, okl_69, okl_70, okl_71, okl_72, okl_73, okl_74, okl_75, okl_76, okl_77, okl_78, okl_79, okl_80, okl_81, okl_82, hx1, h19], by rw [ln_call, hx0, (hcs.1 c hcm).2]; rfl, in_call _ _⟩)
    rw [List.length_map, hl1] at hcl
    exact GoodP.app (n := 7) (m := 17) (c := 3) (c' := 0) (GoodP.app (n := 6) (m := 1) (c := 1) (c' := 2) hg (GoodP.cons (c := 2) (c' := 0) (by simp only [ok, gd_str, gd_int, gd_bl, gd_non, gd_tup, gd_lst, gds_nil, gds_cons, Bool.and_true, Bool.true_and, okl_0, okl_1, okl_2, okl_3, okl_4, okl_5, okl_6, okl_7, okl_8, okl_9, okl_10, okl_11, okl_12, okl_13, okl_14, okl_15, okl_16, okl_17, okl_18, okl_19, okl_20, okl_21, okl_22, okl_23, okl_24, okl_25, okl_26, okl_27, okl_28, okl_29, okl_30, okl_31, okl_32, okl_33, okl_34, okl_35, okl_36, okl_37, okl_38, okl_39, okl_40, okl_41, okl_42, okl_43, okl_44, okl_45, okl_46, okl_47, okl_48, okl_49, okl_50, okl_51, okl_52, okl_53, okl_54, okl_55, okl_56, okl_57, okl_58, okl_59, okl_60, okl_61, okl_62, okl_63, okl_64, okl_65, okl_66, okl_67, okl_68, okl_69, okl_70, okl_71, okl_72, okl_73, okl_74, okl_75, okl_76, okl_77, okl_78, okl_79, okl_80, okl_81, okl_82, gb, gc, hx1]) (fun k => Ln.while' hc8 k2 (Blk.two kb (in_set _ _) ln_stop in_stop)) GoodP.nil (by omega)) (by omega)) hcl (by omega)
  obtain ⟨xs, gr, hg, rfl, rfl⟩ := hP
  have hcs0 : ∃ (i : Int) (cr : List D), cs = .tup [.str "read", .int i] :: cr := by
    obtain ⟨_, _, i, c1, m, nn, kd, r, rest, e, _, _⟩ := hcs
    exact ⟨i, _, e⟩
  obtain ⟨ci, cr, rfl⟩ := hcs0
  have hws : ∀ x, worthD 8 (.str x) = false := fun _ => rfl
  have stopBad : ∀ e : D, progD (.tup [.tup [.str "if", e, .tup [.str "stop"], .tup []]]) = false := fun e => prog_if_bad (by kernel_rfl)
  refine seq_run (fun δ' s' => ∃ (xs' : List Int) (br : List D), (Bad (fun d => progD (.tup [d])) 20 ((.tup [.str "set", .str "X", wa]) :: br)) ∧ δ' = [some (.ref a), some cc, some (.lst (.tup [.str "read", .int ci] :: cr)), some (.lst ((.tup [.str "set", .str x, wa]) :: gr)), some (.lst ((.tup [.str "set", .str "X", wa]) :: br)), none, some wa, some wb, some (.str x), some (.int n), none, none] ∧ s' = some (a, xs')) (fun E' hn => ?_) (fun δ' s' hP => ?_)
  · simp only [MS.ret, MS.retN, MS.ite, MS.seq, MS.nil, MS.drop, MS.set, MS.asg, MS.par, MS.par3, MS.no, MS.for, MS.aug, ME.var, ME.c, ME.op1, ME.op2, ME.of, ME.ite, ME.chain, MT.op2, MT.op1, MT.of, MT.and, MT.or, MT.not, MT.chain, MA.nil, MA.cons, ME.tup, ME.lst, ME.fn, ME.call, ME.lc, ME.sl, MO.no, MO.yes, MI.seq, MI.of, MI.ofA, ME.disp, ME.callA, ME.callR, ME.dc, ME.lc2, ME.sorted, List.map_cons, List.map_nil, List.cons_append, List.nil_append, List.append_nil, List.length_cons, List.length_nil, Nat.zero_add, Nat.reduceAdd, Nat.reduceSub, List.replicate_succ, List.replicate_zero, List.getD_cons_zero, List.getD_cons_succ, List.set_cons_zero, List.set_cons_succ, OQ_some, negD]
    repeat (refine And.intro (by decide) ?_)
    refine hn _ _ ⟨_, _, ⟨?_, by simp⟩, rfl, rfl⟩
    exact (by repeat (first | exact fmn | refine fmc (by first | decide +kernel | exact ⟨by simp only [ok, gd_str, gd_int, gd_bl, gd_non, gd_tup, gd_lst, gds_nil, gds_cons, Bool.and_true, Bool.true_and, okl_0, okl_1, okl_2, okl_3, okl_4, okl_5, okl_6, okl_7, okl_8, okl_9, okl_10, okl_11, okl_12, okl_13, okl_14, okl_15, okl_16, okl_17, okl_18, okl_19, okl_20, okl_21, okl_22, okl_23, okl_24, okl_25, okl_26, okl_27, okl_28, okl_29, okl_30, okl_31, okl_32, okl_33, okl_34, okl_35, okl_36, okl_37, okl_38, okl_39, okl_40, okl_41, okl_42, okl_43, okl_44, okl_45, okl_46, okl_47, okl_48, okl_49, okl_50, okl_51, okl_52, okl_53, okl_54, okl_55, okl_56, okl_57, okl_58, okl_59, okl_60, okl_61, okl_62, okl_63, okl_64, okl_65, okl_66, okl_67, okl_68, okl_69, okl_70, okl_71, okl_72, okl_73, okl_74, okl_75, okl_76, okl_77, okl_78, okl_79, okl_80, okl_81, okl_82, ga, gb, gc, hx1], prog_bad (by first | (simp only [ln_set, ln_write, ln_map, ln_unmap, ln_if, ln_while, ln_call, hx0, wa8, wb8, hc8, hcw, wac, hws, wz1, wz2, wz3, wz4, wz5, c_not, c_both, c_same, c_below, Bool.false_and, Bool.true_and, Bool.and_true, Bool.and_false]; done) | (simp only [ln_set, ln_write, ln_map, ln_unmap, ln_if, ln_while, ln_call, hx0, wa8, wb8, hc8, hcw, wac, hws, wz1, wz2, wz3, wz4, wz5, c_not, c_both, c_same, c_below, Bool.false_and, Bool.true_and, Bool.and_true, Bool.and_false]; decide +kernel))⟩ | exact ⟨by simp only [ok, gd_str, gd_int, gd_bl, gd_non, gd_tup, gd_lst, gds_nil, gds_cons, Bool.and_true, Bool.true_and, okl_0, okl_1, okl_2, okl_3, okl_4, okl_5, okl_6, okl_7, okl_8, okl_9, okl_10, okl_11, okl_12, okl_13, okl_14, okl_15, okl_16, okl_17, okl_18, okl_19, okl_20, okl_21, okl_22, okl_23, okl_24, okl_25, okl_26, okl_27, okl_28, okl_29, okl_30, okl_31, okl_32, okl_33, okl_34, okl_35, okl_36, okl_37, okl_38, okl_39, okl_40, okl_41, okl_42, okl_43, okl_44, okl_45, okl_46, okl_47, okl_48, okl_49, okl_50, okl_51, okl_52, okl_53, okl_54, okl_55, okl_56, okl_57, okl_58, okl_59, okl_60, okl_61, okl_62, okl_63, okl_64, okl_65, okl_66, okl_67, okl_68, okl_69, okl_70, okl_71, okl_72, okl_73, okl_74, okl_75, okl_76, okl_77, okl_78, okl_79, okl_80, okl_81, okl_82, ga, gb, gc, hx1], stopBad cc⟩ | exact ⟨by simp only [ok, gd_str, gd_int, gd_bl, gd_non, gd_tup, gd_lst, gds_nil, gds_cons, Bool.and_true, Bool.true_and, okl_0, okl_1, okl_2, okl_3, okl_4, okl_5, okl_6, okl_7, okl_8, okl_9, okl_10, okl_11, okl_12, okl_13, okl_14, okl_15, okl_16, okl_17, okl_18, okl_19, okl_20, okl_21, okl_22, okl_23, okl_24, okl_25, okl_26, okl_27, okl_28, okl_29, okl_30, okl_31, okl_32, okl_33, okl_34, okl_35, okl_36, okl_37, okl_38, okl_39, okl_40, okl_41, okl_42, okl_43, okl_44, okl_45, okl_46, okl_47, okl_48, okl_49, okl_50, okl_51, okl_52, okl_53, okl_54, okl_55, okl_56, okl_57, okl_58, okl_59, okl_60, okl_61, okl_62, okl_63, okl_64, okl_65, okl_66, okl_67, okl_68, okl_69, okl_70, okl_71, okl_72, okl_73, okl_74, okl_75, okl_76, okl_77, okl_78, okl_79, okl_80, okl_81, okl_82, ga, gb, gc, hx1], prog_bad (by kernel_rfl)⟩) ?_))
  obtain ⟨xs, br, hb, rfl, rfl⟩ := hP
  refine seq_run (fun δ' s' => ∃ (xs' : List Int) (br : List D), (Bad (fun d => progD (.tup [d])) 40 ((.tup [.str "set", .str "X", wa]) :: br)) ∧ δ' = [some (.ref a), some cc, some (.lst (.tup [.str "read", .int ci] :: cr)), some (.lst ((.tup [.str "set", .str x, wa]) :: gr)), some (.lst ((.tup [.str "set", .str "X", wa]) :: br)), none, some wa, some wb, some (.str x), some (.int n), none, none] ∧ s' = some (a, xs')) (fun E' hn => ?_) (fun δ' s' hP => ?_)
  · simp only [MS.ret, MS.retN, MS.ite, MS.seq, MS.nil, MS.drop, MS.set, MS.asg, MS.par, MS.par3, MS.no, MS.for, MS.aug, ME.var, ME.c, ME.op1, ME.op2, ME.of, ME.ite, ME.chain, MT.op2, MT.op1, MT.of, MT.and, MT.or, MT.not, MT.chain, MA.nil, MA.cons, ME.tup, ME.lst, ME.fn, ME.call, ME.lc, ME.sl, MO.no, MO.yes, MI.seq, MI.of, MI.ofA, ME.disp, ME.callA, ME.callR, ME.dc, ME.lc2, ME.sorted, List.map_cons, List.map_nil, List.cons_append, List.nil_append, List.append_nil, List.length_cons, List.length_nil, Nat.zero_add, Nat.reduceAdd, Nat.reduceSub, List.replicate_succ, List.replicate_zero, List.getD_cons_zero, List.getD_cons_succ, List.set_cons_zero, List.set_cons_succ, OQ_some, negD]
    simp only [mul_x9, OQ_some]
    repeat (refine And.intro (by decide) ?_)
    rw [add_lst (by have := hb.2; simp only [List.length_cons, List.length_nil] at this ⊢; omega)]
    simp only [OQ_some, List.cons_append]
    refine hn _ _ ⟨_, _, hb.app (m := 20) ⟨?_, by simp⟩, rfl, rfl⟩
    exact (by repeat (first | exact fmn | refine fmc (by first | decide +kernel | exact ⟨by simp only [ok, gd_str, gd_int, gd_bl, gd_non, gd_tup, gd_lst, gds_nil, gds_cons, Bool.and_true, Bool.true_and, okl_0, okl_1, okl_2, okl_3, okl_4, okl_5, okl_6, okl_7, okl_8, okl_9, okl_10, okl_11, okl_12, okl_13, okl_14, okl_15, okl_16, okl_17, okl_18, okl_19, okl_20, okl_21, okl_22, okl_23, okl_24, okl_25, okl_26, okl_27, okl_28, okl_29, okl_30, okl_31, okl_32, okl_33, okl_34, okl_35, okl_36, okl_37, okl_38, okl_39, okl_40, okl_41, okl_42, okl_43, okl_44, okl_45, okl_46, okl_47, okl_48, okl_49, okl_50, okl_51, okl_52, okl_53, okl_54, okl_55, okl_56, okl_57, okl_58, okl_59, okl_60, okl_61, okl_62, okl_63, okl_64, okl_65, okl_66, okl_67, okl_68, okl_69, okl_70, okl_71, okl_72, okl_73, okl_74, okl_75, okl_76, okl_77, okl_78, okl_79, okl_80, okl_81, okl_82, ga, gb, gc, hx1], prog_bad (by first | (simp only [ln_set, ln_write, ln_map, ln_unmap, ln_if, ln_while, ln_call, hx0, wa8, wb8, hc8, hcw, wac, hws, wz1, wz2, wz3, wz4, wz5, c_not, c_both, c_same, c_below, Bool.false_and, Bool.true_and, Bool.and_true, Bool.and_false]; done) | (simp only [ln_set, ln_write, ln_map, ln_unmap, ln_if, ln_while, ln_call, hx0, wa8, wb8, hc8, hcw, wac, hws, wz1, wz2, wz3, wz4, wz5, c_not, c_both, c_same, c_below, Bool.false_and, Bool.true_and, Bool.and_true, Bool.and_false]; decide +kernel))⟩ | exact ⟨by simp only [ok, gd_str, gd_int, gd_bl, gd_non, gd_tup, gd_lst, gds_nil, gds_cons, Bool.and_true, Bool.true_and, okl_0, okl_1, okl_2, okl_3, okl_4, okl_5, okl_6, okl_7, okl_8, okl_9, okl_10, okl_11, okl_12, okl_13, okl_14, okl_15, okl_16, okl_17, okl_18, okl_19, okl_20, okl_21, okl_22, okl_23, okl_24, okl_25, okl_26, okl_27, okl_28, okl_29, okl_30, okl_31, okl_32, okl_33, okl_34, okl_35, okl_36, okl_37, okl_38, okl_39, okl_40, okl_41, okl_42, okl_43, okl_44, okl_45, okl_46, okl_47, okl_48, okl_49, okl_50, okl_51, okl_52, okl_53, okl_54, okl_55, okl_56, okl_57, okl_58, okl_59, okl_60, okl_61, okl_62, okl_63, okl_64, okl_65, okl_66, okl_67, okl_68, okl_69, okl_70, okl_71, okl_72, okl_73, okl_74, okl_75, okl_76, okl_77, okl_78, okl_79, okl_80, okl_81, okl_82, ga, gb, gc, hx1], stopBad cc⟩ | exact ⟨by simp only [ok, gd_str, gd_int, gd_bl, gd_non, gd_tup, gd_lst, gds_nil, gds_cons, Bool.and_true, Bool.true_and, okl_0, okl_1, okl_2, okl_3, okl_4, okl_5, okl_6, okl_7, okl_8, okl_9, okl_10, okl_11, okl_12, okl_13, okl_14, okl_15, okl_16, okl_17, okl_18, okl_19, okl_20, okl_21, okl_22, okl_23, okl_24, okl_25, okl_26, okl_27, okl_28, okl_29, okl_30, okl_31, okl_32, okl_33, okl_34, okl_35, okl_36, okl_37, okl_38, okl_39, okl_40, okl_41, okl_42, okl_43, okl_44, okl_45, okl_46, okl_47, okl_48, okl_49, okl_50, okl_51, okl_52, okl_53, okl_54, okl_55, okl_56, okl_57, okl_58, okl_59, okl_60, okl_61, okl_62, okl_63, okl_64, okl_65, okl_66, okl_67, okl_68, okl_69, okl_70, okl_71, okl_72, okl_73, okl_74, okl_75, okl_76, okl_77, okl_78, okl_79, okl_80, okl_81, okl_82, ga, gb, gc, hx1], prog_bad (by kernel_rfl)⟩) ?_))
  obtain ⟨xs, br, hb, rfl, rfl⟩ := hP
  refine seq_run (fun δ' s' => ∃ (xs' : List Int) (br : List D), (Bad (fun d => progD (.tup [d])) 60 ((.tup [.str "set", .str "X", wa]) :: br)) ∧ δ' = [some (.ref a), some cc, some (.lst (.tup [.str "read", .int ci] :: cr)), some (.lst ((.tup [.str "set", .str x, wa]) :: gr)), some (.lst ((.tup [.str "set", .str "X", wa]) :: br)), none, some wa, some wb, some (.str x), some (.int n), none, none] ∧ s' = some (a, xs')) (fun E' hn => ?_) (fun δ' s' hP => ?_)
  · simp only [MS.ret, MS.retN, MS.ite, MS.seq, MS.nil, MS.drop, MS.set, MS.asg, MS.par, MS.par3, MS.no, MS.for, MS.aug, ME.var, ME.c, ME.op1, ME.op2, ME.of, ME.ite, ME.chain, MT.op2, MT.op1, MT.of, MT.and, MT.or, MT.not, MT.chain, MA.nil, MA.cons, ME.tup, ME.lst, ME.fn, ME.call, ME.lc, ME.sl, MO.no, MO.yes, MI.seq, MI.of, MI.ofA, ME.disp, ME.callA, ME.callR, ME.dc, ME.lc2, ME.sorted, List.map_cons, List.map_nil, List.cons_append, List.nil_append, List.append_nil, List.length_cons, List.length_nil, Nat.zero_add, Nat.reduceAdd, Nat.reduceSub, List.replicate_succ, List.replicate_zero, List.getD_cons_zero, List.getD_cons_succ, List.set_cons_zero, List.set_cons_succ, OQ_some, negD]
    repeat (refine And.intro (by decide) ?_)
    rw [add_lst (by have := hb.2; simp only [List.length_cons, List.length_nil] at this ⊢; omega)]
    simp only [OQ_some, List.cons_append]
    refine hn _ _ ⟨_, _, hb.app (m := 20) ⟨?_, by simp⟩, rfl, rfl⟩
    exact (by repeat (first | exact fmn | refine fmc (by first | decide +kernel | exact ⟨by simp only [ok, gd_str, gd_int, gd_bl, gd_non, gd_tup, gd_lst, gds_nil, gds_cons, Bool.and_true, Bool.true_and, okl_0, okl_1, okl_2, okl_3, okl_4, okl_5, okl_6, okl_7, okl_8, okl_9, okl_10, okl_11, okl_12, okl_13, okl_14, okl_15, okl_16, okl_17, okl_18, okl_19, okl_20, okl_21, okl_22, okl_23, okl_24, okl_25, okl_26, okl_27, okl_28, okl_29, okl_30, okl_31, okl_32, okl_33, okl_34, okl_35, okl_36, okl_37, okl_38, okl_39, okl_40, okl_41, okl_42, okl_43, okl_44, okl_45, okl_46, okl_47, okl_48, okl_49, okl_50, okl_51, okl_52, okl_53, okl_54, okl_55, okl_56, okl_57, okl_58, okl_59, okl_60, okl_61, okl_62, okl_63, okl_64, okl_65, okl_66, okl_67, okl_68, okl_69, okl_70, okl_71, okl_72, okl_73, okl_74, okl_75, okl_76, okl_77, okl_78, okl_79, okl_80, okl_81, okl_82, ga, gb, gc, hx1], prog_bad (by first | (simp only [ln_set, ln_write, ln_map, ln_unmap, ln_if, ln_while, ln_call, hx0, wa8, wb8, hc8, hcw, wac, hws, wz1, wz2, wz3, wz4, wz5, c_not, c_both, c_same, c_below, Bool.false_and, Bool.true_and, Bool.and_true, Bool.and_false]; done) | (simp only [ln_set, ln_write, ln_map, ln_unmap, ln_if, ln_while, ln_call, hx0, wa8, wb8, hc8, hcw, wac, hws, wz1, wz2, wz3, wz4, wz5, c_not, c_both, c_same, c_below, Bool.false_and, Bool.true_and, Bool.and_true, Bool.and_false]; decide +kernel))⟩ | exact ⟨by simp only [ok, gd_str, gd_int, gd_bl, gd_non, gd_tup, gd_lst, gds_nil, gds_cons, Bool.and_true, Bool.true_and, okl_0, okl_1, okl_2, okl_3, okl_4, okl_5, okl_6, okl_7, okl_8, okl_9, okl_10, okl_11, okl_12, okl_13, okl_14, okl_15, okl_16, okl_17, okl_18, okl_19, okl_20, okl_21, okl_22, okl_23, okl_24, okl_25, okl_26, okl_27, okl_28, okl_29, okl_30, okl_31, okl_32, okl_33, okl_34, okl_35, okl_36, okl_37, okl_38, okl_39, okl_40, okl_41, okl_42, okl_43, okl_44, okl_45, okl_46, okl_47, okl_48, okl_49, okl_50, okl_51, okl_52, okl_53, okl_54, okl_55, okl_56, okl_57, okl_58, okl_59, okl_60, okl_61, okl_62, okl_63, okl_64, okl_65, okl_66, okl_67, okl_68, okl_69, okl_70, okl_71, okl_72, okl_73, okl_74, okl_75, okl_76, okl_77, okl_78, okl_79, okl_80, okl_81, okl_82, ga, gb, gc, hx1], stopBad cc⟩ | exact ⟨by simp only [ok, gd_str, gd_int, gd_bl, gd_non, gd_tup, gd_lst, gds_nil, gds_cons, Bool.and_true, Bool.true_and, okl_0, okl_1, okl_2, okl_3, okl_4, okl_5, okl_6, okl_7, okl_8, okl_9, okl_10, okl_11, okl_12, okl_13, okl_14, okl_15, okl_16, okl_17, okl_18, okl_19, okl_20, okl_21, okl_22, okl_23, okl_24, okl_25, okl_26, okl_27, okl_28, okl_29, okl_30, okl_31, okl_32, okl_33, okl_34, okl_35, okl_36, okl_37, okl_38, okl_39, okl_40, okl_41, okl_42, okl_43, okl_44, okl_45, okl_46, okl_47, okl_48, okl_49, okl_50, okl_51, okl_52, okl_53, okl_54, okl_55, okl_56, okl_57, okl_58, okl_59, okl_60, okl_61, okl_62, okl_63, okl_64, okl_65, okl_66, okl_67, okl_68, okl_69, okl_70, okl_71, okl_72, okl_73, okl_74, okl_75, okl_76, okl_77, okl_78, okl_79, okl_80, okl_81, okl_82, ga, gb, gc, hx1], prog_bad (by kernel_rfl)⟩) ?_))
  obtain ⟨xs, br, hb, rfl, rfl⟩ := hP
  refine seq_run (fun δ' s' => ∃ (xs' : List Int) (br : List D), (Bad (fun d => progD (.tup [d])) 80 ((.tup [.str "set", .str "X", wa]) :: br)) ∧ δ' = [some (.ref a), some cc, some (.lst (.tup [.str "read", .int ci] :: cr)), some (.lst ((.tup [.str "set", .str x, wa]) :: gr)), some (.lst ((.tup [.str "set", .str "X", wa]) :: br)), none, some wa, some wb, some (.str x), some (.int n), none, none] ∧ s' = some (a, xs')) (fun E' hn => ?_) (fun δ' s' hP => ?_)
  · simp only [MS.ret, MS.retN, MS.ite, MS.seq, MS.nil, MS.drop, MS.set, MS.asg, MS.par, MS.par3, MS.no, MS.for, MS.aug, ME.var, ME.c, ME.op1, ME.op2, ME.of, ME.ite, ME.chain, MT.op2, MT.op1, MT.of, MT.and, MT.or, MT.not, MT.chain, MA.nil, MA.cons, ME.tup, ME.lst, ME.fn, ME.call, ME.lc, ME.sl, MO.no, MO.yes, MI.seq, MI.of, MI.ofA, ME.disp, ME.callA, ME.callR, ME.dc, ME.lc2, ME.sorted, List.map_cons, List.map_nil, List.cons_append, List.nil_append, List.append_nil, List.length_cons, List.length_nil, Nat.zero_add, Nat.reduceAdd, Nat.reduceSub, List.replicate_succ, List.replicate_zero, List.getD_cons_zero, List.getD_cons_succ, List.set_cons_zero, List.set_cons_succ, OQ_some, negD]
    have e0 : ixD (.lst (.tup [.str "read", .int ci] :: cr)) (.int 0) = some (.tup [.str "read", .int ci]) := at0 _ _
    simp only [e0, OQ_some]
    repeat (refine And.intro (by decide) ?_)
    rw [add_lst (by have := hb.2; simp only [List.length_cons, List.length_nil] at this ⊢; omega)]
    simp only [OQ_some, List.cons_append]
    refine hn _ _ ⟨_, _, hb.app (m := 20) ⟨?_, by simp⟩, rfl, rfl⟩
    exact (by repeat (first | exact fmn | refine fmc (by first | decide +kernel | exact ⟨by simp only [ok, gd_str, gd_int, gd_bl, gd_non, gd_tup, gd_lst, gds_nil, gds_cons, Bool.and_true, Bool.true_and, okl_0, okl_1, okl_2, okl_3, okl_4, okl_5, okl_6, okl_7, okl_8, okl_9, okl_10, okl_11, okl_12, okl_13, okl_14, okl_15, okl_16, okl_17, okl_18, okl_19, okl_20, okl_21, okl_22, okl_23, okl_24, okl_25, okl_26, okl_27, okl_28, okl_29, okl_30, okl_31, okl_32, okl_33, okl_34, okl_35, okl_36, okl_37, okl_38, okl_39, okl_40, okl_41, okl_42, okl_43, okl_44, okl_45, okl_46, okl_47, okl_48, okl_49, okl_50, okl_51, okl_52, okl_53, okl_54, okl_55, okl_56, okl_57, okl_58, okl_59, okl_60, okl_61, okl_62, okl_63, okl_64, okl_65, okl_66, okl_67, okl_68, okl_69, okl_70, okl_71, okl_72, okl_73, okl_74, okl_75, okl_76, okl_77, okl_78, okl_79, okl_80, okl_81, okl_82, ga, gb, gc, hx1], prog_bad (by first | (simp only [ln_set, ln_write, ln_map, ln_unmap, ln_if, ln_while, ln_call, hx0, wa8, wb8, hc8, hcw, wac, hws, wz1, wz2, wz3, wz4, wz5, c_not, c_both, c_same, c_below, Bool.false_and, Bool.true_and, Bool.and_true, Bool.and_false]; done) | (simp only [ln_set, ln_write, ln_map, ln_unmap, ln_if, ln_while, ln_call, hx0, wa8, wb8, hc8, hcw, wac, hws, wz1, wz2, wz3, wz4, wz5, c_not, c_both, c_same, c_below, Bool.false_and, Bool.true_and, Bool.and_true, Bool.and_false]; decide +kernel))⟩ | exact ⟨by simp only [ok, gd_str, gd_int, gd_bl, gd_non, gd_tup, gd_lst, gds_nil, gds_cons, Bool.and_true, Bool.true_and, okl_0, okl_1, okl_2, okl_3, okl_4, okl_5, okl_6, okl_7, okl_8, okl_9, okl_10, okl_11, okl_12, okl_13, okl_14, okl_15, okl_16, okl_17, okl_18, okl_19, okl_20, okl_21, okl_22, okl_23, okl_24, okl_25, okl_26, okl_27, okl_28, okl_29, okl_30, okl_31, okl_32, okl_33, okl_34, okl_35, okl_36, okl_37, okl_38, okl_39, okl_40, okl_41, okl_42, okl_43, okl_44, okl_45, okl_46, okl_47, okl_48, okl_49, okl_50, okl_51, okl_52, okl_53, okl_54, okl_55, okl_56, okl_57, okl_58, okl_59, okl_60, okl_61, okl_62, okl_63, okl_64, okl_65, okl_66, okl_67, okl_68, okl_69, okl_70, okl_71, okl_72, okl_73, okl_74, okl_75, okl_76, okl_77, okl_78, okl_79, okl_80, okl_81, okl_82, ga, gb, gc, hx1], stopBad cc⟩ | exact ⟨by simp only [ok, gd_str, gd_int, gd_bl, gd_non, gd_tup, gd_lst, gds_nil, gds_cons, Bool.and_true, Bool.true_and, okl_0, okl_1, okl_2, okl_3, okl_4, okl_5, okl_6, okl_7, okl_8, okl_9, okl_10, okl_11, okl_12, okl_13, okl_14, okl_15, okl_16, okl_17, okl_18, okl_19, okl_20, okl_21, okl_22, okl_23, okl_24, okl_25, okl_26, okl_27, okl_28, okl_29, okl_30, okl_31, okl_32, okl_33, okl_34, okl_35, okl_36, okl_37, okl_38, okl_39, okl_40, okl_41, okl_42, okl_43, okl_44, okl_45, okl_46, okl_47, okl_48, okl_49, okl_50, okl_51, okl_52, okl_53, okl_54, okl_55, okl_56, okl_57, okl_58, okl_59, okl_60, okl_61, okl_62, okl_63, okl_64, okl_65, okl_66, okl_67, okl_68, okl_69, okl_70, okl_71, okl_72, okl_73, okl_74, okl_75, okl_76, okl_77, okl_78, okl_79, okl_80, okl_81, okl_82, ga, gb, gc, hx1], prog_bad (by kernel_rfl)⟩) ?_))
  obtain ⟨xs, br, hb, rfl, rfl⟩ := hP
  refine seq_run (fun δ' s' => ∃ (xs' : List Int) (br : List D), (Bad (fun d => progD (.tup [d])) 100 ((.tup [.str "set", .str "X", wa]) :: br)) ∧ δ' = [some (.ref a), some cc, some (.lst (.tup [.str "read", .int ci] :: cr)), some (.lst ((.tup [.str "set", .str x, wa]) :: gr)), some (.lst ((.tup [.str "set", .str "X", wa]) :: br)), none, some wa, some wb, some (.str x), some (.int n), none, none] ∧ s' = some (a, xs')) (fun E' hn => ?_) (fun δ' s' hP => ?_)
  · simp only [MS.ret, MS.retN, MS.ite, MS.seq, MS.nil, MS.drop, MS.set, MS.asg, MS.par, MS.par3, MS.no, MS.for, MS.aug, ME.var, ME.c, ME.op1, ME.op2, ME.of, ME.ite, ME.chain, MT.op2, MT.op1, MT.of, MT.and, MT.or, MT.not, MT.chain, MA.nil, MA.cons, ME.tup, ME.lst, ME.fn, ME.call, ME.lc, ME.sl, MO.no, MO.yes, MI.seq, MI.of, MI.ofA, ME.disp, ME.callA, ME.callR, ME.dc, ME.lc2, ME.sorted, List.map_cons, List.map_nil, List.cons_append, List.nil_append, List.append_nil, List.length_cons, List.length_nil, Nat.zero_add, Nat.reduceAdd, Nat.reduceSub, List.replicate_succ, List.replicate_zero, List.getD_cons_zero, List.getD_cons_succ, List.set_cons_zero, List.set_cons_succ, OQ_some, negD]
    repeat (refine And.intro (by decide) ?_)
    rw [add_lst (by have := hb.2; simp only [List.length_cons, List.length_nil] at this ⊢; omega)]
    simp only [OQ_some, List.cons_append]
    refine hn _ _ ⟨_, _, hb.app (m := 20) ⟨?_, by simp⟩, rfl, rfl⟩
    exact (by repeat (first | exact fmn | refine fmc (by first | decide +kernel | exact ⟨by simp only [ok, gd_str, gd_int, gd_bl, gd_non, gd_tup, gd_lst, gds_nil, gds_cons, Bool.and_true, Bool.true_and, okl_0, okl_1, okl_2, okl_3, okl_4, okl_5, okl_6, okl_7, okl_8, okl_9, okl_10, okl_11, okl_12, okl_13, okl_14, okl_15, okl_16, okl_17, okl_18, okl_19, okl_20, okl_21, okl_22, okl_23, okl_24, okl_25, okl_26, okl_27, okl_28, okl_29, okl_30, okl_31, okl_32, okl_33, okl_34, okl_35, okl_36, okl_37, okl_38, okl_39, okl_40, okl_41, okl_42, okl_43, okl_44, okl_45, okl_46, okl_47, okl_48, okl_49, okl_50, okl_51, okl_52, okl_53, okl_54, okl_55, okl_56, okl_57, okl_58, okl_59, okl_60, okl_61, okl_62, okl_63, okl_64, okl_65, okl_66, okl_67, okl_68, okl_69, okl_70, okl_71, okl_72, okl_73, okl_74, okl_75, okl_76, okl_77, okl_78, okl_79, okl_80, okl_81, okl_82, ga, gb, gc, hx1], prog_bad (by first | (simp only [ln_set, ln_write, ln_map, ln_unmap, ln_if, ln_while, ln_call, hx0, wa8, wb8, hc8, hcw, wac, hws, wz1, wz2, wz3, wz4, wz5, c_not, c_both, c_same, c_below, Bool.false_and, Bool.true_and, Bool.and_true, Bool.and_false]; done) | (simp only [ln_set, ln_write, ln_map, ln_unmap, ln_if, ln_while, ln_call, hx0, wa8, wb8, hc8, hcw, wac, hws, wz1, wz2, wz3, wz4, wz5, c_not, c_both, c_same, c_below, Bool.false_and, Bool.true_and, Bool.and_true, Bool.and_false]; decide +kernel))⟩ | exact ⟨by simp only [ok, gd_str, gd_int, gd_bl, gd_non, gd_tup, gd_lst, gds_nil, gds_cons, Bool.and_true, Bool.true_and, okl_0, okl_1, okl_2, okl_3, okl_4, okl_5, okl_6, okl_7, okl_8, okl_9, okl_10, okl_11, okl_12, okl_13, okl_14, okl_15, okl_16, okl_17, okl_18, okl_19, okl_20, okl_21, okl_22, okl_23, okl_24, okl_25, okl_26, okl_27, okl_28, okl_29, okl_30, okl_31, okl_32, okl_33, okl_34, okl_35, okl_36, okl_37, okl_38, okl_39, okl_40, okl_41, okl_42, okl_43, okl_44, okl_45, okl_46, okl_47, okl_48, okl_49, okl_50, okl_51, okl_52, okl_53, okl_54, okl_55, okl_56, okl_57, okl_58, okl_59, okl_60, okl_61, okl_62, okl_63, okl_64, okl_65, okl_66, okl_67, okl_68, okl_69, okl_70, okl_71, okl_72, okl_73, okl_74, okl_75, okl_76, okl_77, okl_78, okl_79, okl_80, okl_81, okl_82, ga, gb, gc, hx1], stopBad cc⟩ | exact ⟨by simp only [ok, gd_str, gd_int, gd_bl, gd_non, gd_tup, gd_lst, gds_nil, gds_cons, Bool.and_true, Bool.true_and, okl_0, okl_1, okl_2, okl_3, okl_4, okl_5, okl_6, okl_7, okl_8, okl_9, okl_10, okl_11, okl_12, okl_13, okl_14, okl_15, okl_16, okl_17, okl_18, okl_19, okl_20, okl_21, okl_22, okl_23, okl_24, okl_25, okl_26, okl_27, okl_28, okl_29, okl_30, okl_31, okl_32, okl_33, okl_34, okl_35, okl_36, okl_37, okl_38, okl_39, okl_40, okl_41, okl_42, okl_43, okl_44, okl_45, okl_46, okl_47, okl_48, okl_49, okl_50, okl_51, okl_52, okl_53, okl_54, okl_55, okl_56, okl_57, okl_58, okl_59, okl_60, okl_61, okl_62, okl_63, okl_64, okl_65, okl_66, okl_67, okl_68, okl_69, okl_70, okl_71, okl_72, okl_73, okl_74, okl_75, okl_76, okl_77, okl_78, okl_79, okl_80, okl_81, okl_82, ga, gb, gc, hx1], prog_bad (by kernel_rfl)⟩) ?_))
  obtain ⟨xs, br, hb, rfl, rfl⟩ := hP
  refine seq_run (fun δ' s' => ∃ (xs' : List Int) (br : List D), (Bad (fun d => progD (.tup [d])) 120 ((.tup [.str "set", .str "X", wa]) :: br)) ∧ δ' = [some (.ref a), some cc, some (.lst (.tup [.str "read", .int ci] :: cr)), some (.lst ((.tup [.str "set", .str x, wa]) :: gr)), some (.lst ((.tup [.str "set", .str "X", wa]) :: br)), none, some wa, some wb, some (.str x), some (.int n), none, none] ∧ s' = some (a, xs')) (fun E' hn => ?_) (fun δ' s' hP => ?_)
  · simp only [MS.ret, MS.retN, MS.ite, MS.seq, MS.nil, MS.drop, MS.set, MS.asg, MS.par, MS.par3, MS.no, MS.for, MS.aug, ME.var, ME.c, ME.op1, ME.op2, ME.of, ME.ite, ME.chain, MT.op2, MT.op1, MT.of, MT.and, MT.or, MT.not, MT.chain, MA.nil, MA.cons, ME.tup, ME.lst, ME.fn, ME.call, ME.lc, ME.sl, MO.no, MO.yes, MI.seq, MI.of, MI.ofA, ME.disp, ME.callA, ME.callR, ME.dc, ME.lc2, ME.sorted, List.map_cons, List.map_nil, List.cons_append, List.nil_append, List.append_nil, List.length_cons, List.length_nil, Nat.zero_add, Nat.reduceAdd, Nat.reduceSub, List.replicate_succ, List.replicate_zero, List.getD_cons_zero, List.getD_cons_succ, List.set_cons_zero, List.set_cons_succ, OQ_some, negD]
    repeat (refine And.intro (by decide) ?_)
    rw [add_lst (by have := hb.2; simp only [List.length_cons, List.length_nil] at this ⊢; omega)]
    simp only [OQ_some, List.cons_append]
    refine hn _ _ ⟨_, _, hb.app (m := 20) ⟨?_, by simp⟩, rfl, rfl⟩
    exact (by repeat (first | exact fmn | refine fmc (by first | decide +kernel | exact ⟨by simp only [ok, gd_str, gd_int, gd_bl, gd_non, gd_tup, gd_lst, gds_nil, gds_cons, Bool.and_true, Bool.true_and, okl_0, okl_1, okl_2, okl_3, okl_4, okl_5, okl_6, okl_7, okl_8, okl_9, okl_10, okl_11, okl_12, okl_13, okl_14, okl_15, okl_16, okl_17, okl_18, okl_19, okl_20, okl_21, okl_22, okl_23, okl_24, okl_25, okl_26, okl_27, okl_28, okl_29, okl_30, okl_31, okl_32, okl_33, okl_34, okl_35, okl_36, okl_37, okl_38, okl_39, okl_40, okl_41, okl_42, okl_43, okl_44, okl_45, okl_46, okl_47, okl_48, okl_49, okl_50, okl_51, okl_52, okl_53, okl_54, okl_55, okl_56, okl_57, okl_58, okl_59, okl_60, okl_61, okl_62, okl_63, okl_64, okl_65, okl_66, okl_67, okl_68, okl_69, okl_70, okl_71, okl_72, okl_73, okl_74, okl_75, okl_76, okl_77, okl_78, okl_79, okl_80, okl_81, okl_82, ga, gb, gc, hx1], prog_bad (by first | (simp only [ln_set, ln_write, ln_map, ln_unmap, ln_if, ln_while, ln_call, hx0, wa8, wb8, hc8, hcw, wac, hws, wz1, wz2, wz3, wz4, wz5, c_not, c_both, c_same, c_below, Bool.false_and, Bool.true_and, Bool.and_true, Bool.and_false]; done) | (simp only [ln_set, ln_write, ln_map, ln_unmap, ln_if, ln_while, ln_call, hx0, wa8, wb8, hc8, hcw, wac, hws, wz1, wz2, wz3, wz4, wz5, c_not, c_both, c_same, c_below, Bool.false_and, Bool.true_and, Bool.and_true, Bool.and_false]; decide +kernel))⟩ | exact ⟨by simp only [ok, gd_str, gd_int, gd_bl, gd_non, gd_tup, gd_lst, gds_nil, gds_cons, Bool.and_true, Bool.true_and, okl_0, okl_1, okl_2, okl_3, okl_4, okl_5, okl_6, okl_7, okl_8, okl_9, okl_10, okl_11, okl_12, okl_13, okl_14, okl_15, okl_16, okl_17, okl_18, okl_19, okl_20, okl_21, okl_22, okl_23, okl_24, okl_25, okl_26, okl_27, okl_28, okl_29, okl_30, okl_31, okl_32, okl_33, okl_34, okl_35, okl_36, okl_37, okl_38, okl_39, okl_40, okl_41, okl_42, okl_43, okl_44, okl_45, okl_46, okl_47, okl_48, okl_49, okl_50, okl_51, okl_52, okl_53, okl_54, okl_55, okl_56, okl_57, okl_58, okl_59, okl_60, okl_61, okl_62, okl_63, okl_64, okl_65, okl_66, okl_67, okl_68, okl_69, okl_70, okl_71, okl_72, okl_73, okl_74, okl_75, okl_76, okl_77, okl_78, okl_79, okl_80, okl_81, okl_82, ga, gb, gc, hx1], stopBad cc⟩ | exact ⟨by simp only [ok, gd_str, gd_int, gd_bl, gd_non, gd_tup, gd_lst, gds_nil, gds_cons, Bool.and_true, Bool.true_and, okl_0, okl_1, okl_2, okl_3, okl_4, okl_5, okl_6, okl_7, okl_8, okl_9, okl_10, okl_11, okl_12, okl_13, okl_14, okl_15, okl_16, okl_17, okl_18, okl_19, okl_20, okl_21, okl_22, okl_23, okl_24, okl_25, okl_26, okl_27, okl_28, okl_29, okl_30, okl_31, okl_32, okl_33, okl_34, okl_35, okl_36, okl_37, okl_38, okl_39, okl_40, okl_41, okl_42, okl_43, okl_44, okl_45, okl_46, okl_47, okl_48, okl_49, okl_50, okl_51, okl_52, okl_53, okl_54, okl_55, okl_56, okl_57, okl_58, okl_59, okl_60, okl_61, okl_62, okl_63, okl_64, okl_65, okl_66, okl_67, okl_68, okl_69, okl_70, okl_71, okl_72, okl_73, okl_74, okl_75, okl_76, okl_77, okl_78, okl_79, okl_80, okl_81, okl_82, ga, gb, gc, hx1], prog_bad (by kernel_rfl)⟩) ?_))
  obtain ⟨xs, br, hb, rfl, rfl⟩ := hP
  refine seq_run (fun δ' s' => ∃ (xs' : List Int) (br : List D), (Bad (fun d => progD (.tup [d])) 140 ((.tup [.str "set", .str "X", wa]) :: br)) ∧ δ' = [some (.ref a), some cc, some (.lst (.tup [.str "read", .int ci] :: cr)), some (.lst ((.tup [.str "set", .str x, wa]) :: gr)), some (.lst ((.tup [.str "set", .str "X", wa]) :: br)), none, some wa, some wb, some (.str x), some (.int n), none, none] ∧ s' = some (a, xs')) (fun E' hn => ?_) (fun δ' s' hP => ?_)
  · simp only [MS.ret, MS.retN, MS.ite, MS.seq, MS.nil, MS.drop, MS.set, MS.asg, MS.par, MS.par3, MS.no, MS.for, MS.aug, ME.var, ME.c, ME.op1, ME.op2, ME.of, ME.ite, ME.chain, MT.op2, MT.op1, MT.of, MT.and, MT.or, MT.not, MT.chain, MA.nil, MA.cons, ME.tup, ME.lst, ME.fn, ME.call, ME.lc, ME.sl, MO.no, MO.yes, MI.seq, MI.of, MI.ofA, ME.disp, ME.callA, ME.callR, ME.dc, ME.lc2, ME.sorted, List.map_cons, List.map_nil, List.cons_append, List.nil_append, List.append_nil, List.length_cons, List.length_nil, Nat.zero_add, Nat.reduceAdd, Nat.reduceSub, List.replicate_succ, List.replicate_zero, List.getD_cons_zero, List.getD_cons_succ, List.set_cons_zero, List.set_cons_succ, OQ_some, negD]
    repeat (refine And.intro (by decide) ?_)
    rw [add_lst (by have := hb.2; simp only [List.length_cons, List.length_nil] at this ⊢; omega)]
    simp only [OQ_some, List.cons_append]
    refine hn _ _ ⟨_, _, hb.app (m := 20) ⟨?_, by simp⟩, rfl, rfl⟩
    exact (by repeat (first | exact fmn | refine fmc (by first | decide +kernel | exact ⟨by simp only [ok, gd_str, gd_int, gd_bl, gd_non, gd_tup, gd_lst, gds_nil, gds_cons, Bool.and_true, Bool.true_and, okl_0, okl_1, okl_2, okl_3, okl_4, okl_5, okl_6, okl_7, okl_8, okl_9, okl_10, okl_11, okl_12, okl_13, okl_14, okl_15, okl_16, okl_17, okl_18, okl_19, okl_20, okl_21, okl_22, okl_23, okl_24, okl_25, okl_26, okl_27, okl_28, okl_29, okl_30, okl_31, okl_32, okl_33, okl_34, okl_35, okl_36, okl_37, okl_38, okl_39, okl_40, okl_41, okl_42, okl_43, okl_44, okl_45, okl_46, okl_47, okl_48, okl_49, okl_50, okl_51, okl_52, okl_53, okl_54, okl_55, okl_56, okl_57, okl_58, okl_59, okl_60, okl_61, okl_62, okl_63, okl_64, okl_65, okl_66, okl_67, okl_68, okl_69, okl_70, okl_71, okl_72, okl_73, okl_74, okl_75, okl_76, okl_77, okl_78, okl_79, okl_80, okl_81, okl_82, ga, gb, gc, hx1], prog_bad (by first | (simp only [ln_set, ln_write, ln_map, ln_unmap, ln_if, ln_while, ln_call, hx0, wa8, wb8, hc8, hcw, wac, hws, wz1, wz2, wz3, wz4, wz5, c_not, c_both, c_same, c_below, Bool.false_and, Bool.true_and, Bool.and_true, Bool.and_false]; done) | (simp only [ln_set, ln_write, ln_map, ln_unmap, ln_if, ln_while, ln_call, hx0, wa8, wb8, hc8, hcw, wac, hws, wz1, wz2, wz3, wz4, wz5, c_not, c_both, c_same, c_below, Bool.false_and, Bool.true_and, Bool.and_true, Bool.and_false]; decide +kernel))⟩ | exact ⟨by simp only [ok, gd_str, gd_int, gd_bl, gd_non, gd_tup, gd_lst, gds_nil, gds_cons, Bool.and_true, Bool.true_and, okl_0, okl_1, okl_2, okl_3, okl_4, okl_5, okl_6, okl_7, okl_8, okl_9, okl_10, okl_11, okl_12, okl_13, okl_14, okl_15, okl_16, okl_17, okl_18, okl_19, okl_20, okl_21, okl_22, okl_23, okl_24, okl_25, okl_26, okl_27, okl_28, okl_29, okl_30, okl_31, okl_32, okl_33, okl_34, okl_35, okl_36, okl_37, okl_38, okl_39, okl_40, okl_41, okl_42, okl_43, okl_44, okl_45, okl_46, okl_47, okl_48, okl_49, okl_50, okl_51, okl_52, okl_53, okl_54, okl_55, okl_56, okl_57, okl_58, okl_59, okl_60, okl_61, okl_62, okl_63, okl_64, okl_65, okl_66, okl_67, okl_68, okl_69, okl_70, okl_71, okl_72, okl_73, okl_74, okl_75, okl_76, okl_77, okl_78, okl_79, okl_80, okl_81, okl_82, ga, gb, gc, hx1], stopBad cc⟩ | exact ⟨by simp only [ok, gd_str, gd_int, gd_bl, gd_non, gd_tup, gd_lst, gds_nil, gds_cons, Bool.and_true, Bool.true_and, okl_0, okl_1, okl_2, okl_3, okl_4, okl_5, okl_6, okl_7, okl_8, okl_9, okl_10, okl_11, okl_12, okl_13, okl_14, okl_15, okl_16, okl_17, okl_18, okl_19, okl_20, okl_21, okl_22, okl_23, okl_24, okl_25, okl_26, okl_27, okl_28, okl_29, okl_30, okl_31, okl_32, okl_33, okl_34, okl_35, okl_36, okl_37, okl_38, okl_39, okl_40, okl_41, okl_42, okl_43, okl_44, okl_45, okl_46, okl_47, okl_48, okl_49, okl_50, okl_51, okl_52, okl_53, okl_54, okl_55, okl_56, okl_57, okl_58, okl_59, okl_60, okl_61, okl_62, okl_63, okl_64, okl_65, okl_66, okl_67, okl_68, okl_69, okl_70, okl_71, okl_72, okl_73, okl_74, okl_75, okl_76, okl_77, okl_78, okl_79, okl_80, okl_81, okl_82, ga, gb, gc, hx1], prog_bad (by kernel_rfl)⟩) ?_))
  obtain ⟨xs, br, hb, rfl, rfl⟩ := hP
  refine seq_run (fun δ' s' => ∃ (xs' : List Int) , δ' = [some (.ref a), some cc, some (.lst (.tup [.str "read", .int ci] :: cr)), some (.lst ((.tup [.str "set", .str x, wa]) :: gr)), some (.lst ((.tup [.str "set", .str "X", wa]) :: br)), none, some wa, some wb, some (.str x), some (.int n), none, none] ∧ s' = some (a, xs')) (fun E' hn => ?_) (fun δ' s' hP => ?_)
  · simp only [MS.ret, MS.retN, MS.ite, MS.seq, MS.nil, MS.drop, MS.set, MS.asg, MS.par, MS.par3, MS.no, MS.for, MS.aug, ME.var, ME.c, ME.op1, ME.op2, ME.of, ME.ite, ME.chain, MT.op2, MT.op1, MT.of, MT.and, MT.or, MT.not, MT.chain, MA.nil, MA.cons, ME.tup, ME.lst, ME.fn, ME.call, ME.lc, ME.sl, MO.no, MO.yes, MI.seq, MI.of, MI.ofA, ME.disp, ME.callA, ME.callR, ME.dc, ME.lc2, ME.sorted, List.map_cons, List.map_nil, List.cons_append, List.nil_append, List.append_nil, List.length_cons, List.length_nil, Nat.zero_add, Nat.reduceAdd, Nat.reduceSub, List.replicate_succ, List.replicate_zero, List.getD_cons_zero, List.getD_cons_succ, List.set_cons_zero, List.set_cons_succ, OQ_some, negD]
    simp only [seqD, szD, OQ_some]
    have en : neD (.lst []) (.lst []) = some false := by decide +kernel
    intro hz
    refine ⟨hz, lc_filter (p := fun d => !(progD (.tup [d]) == true)) (f := fun d => d) _ (fun d hm => ⟨_, rfl, fun Q hq => ?_, fun hn' Q hq => ?_⟩) ?_⟩
    · simp only [setT, List.map_cons, List.map_nil, List.cons_append, List.nil_append, List.append_nil, List.length_cons, List.length_nil, Nat.zero_add, Nat.reduceAdd, Nat.reduceSub, List.replicate_succ, List.replicate_zero, List.getD_cons_zero, List.getD_cons_succ, List.set_cons_zero, List.set_cons_succ, OQ_some, wipeD]
      refine ⟨by decide, trivial, ?_, hq⟩
      show gds 39 [d] = true
      rw [gds_cons, gds_nil, gd_mono 30 39 _ (by omega) (hg.1 d hm).1]; rfl
    · rw [(hg.1 d hm).2] at hn'; cases hn'
    rw [filter_nil fun d hm => by rw [(hg.1 d hm).2]; rfl]
    simp only [List.map_nil, en, OQ_some, if_false, Bool.false_eq_true]
    refine ⟨Nat.zero_le _, fun hz2 => ⟨hz2, ?_⟩⟩
    refine lc_filter (p := fun d => !(progD (.tup [d]) == false)) (f := fun d => d) _ (fun d hm => ⟨_, rfl, fun Q hq => ?_, fun hn' Q hq => ?_⟩) ?_
    · simp only [setT, List.map_cons, List.map_nil, List.cons_append, List.nil_append, List.append_nil, List.length_cons, List.length_nil, Nat.zero_add, Nat.reduceAdd, Nat.reduceSub, List.replicate_succ, List.replicate_zero, List.getD_cons_zero, List.getD_cons_succ, List.set_cons_zero, List.set_cons_succ, OQ_some, wipeD]
      refine ⟨by decide, trivial, ?_, hq⟩
      show gds 39 [d] = true
      rw [gds_cons, gds_nil, gd_mono 30 39 _ (by omega) (hb.1 d hm).1]; rfl
    · rw [show progD (.tup [d]) = false from (hb.1 d hm).2] at hn'; cases hn'
    rw [filter_nil fun d hm => by rw [show progD (.tup [d]) = false from (hb.1 d hm).2]; rfl]
    simp only [List.map_nil, en, OQ_some, if_false, Bool.false_eq_true]
    exact ⟨Nat.zero_le _, hn _ _ ⟨_, rfl, rfl⟩⟩
  obtain ⟨xs, rfl, rfl⟩ := hP
  refine seq_run (fun δ' s' => ∃ (xs' : List Int) , δ' = [some (.ref a), some cc, some (.lst (.tup [.str "read", .int ci] :: cr)), some (.lst ((.tup [.str "set", .str x, wa]) :: gr)), some (.lst ((.tup [.str "set", .str "X", wa]) :: br)), some (.lst [.tup [], .tup (.tup [.str "set", .str x, wa] :: gr), .tup [.tup [.str "if", cc, .tup (.tup [.str "set", .str x, wa] :: gr), .tup [.tup [.str "while", cc, .int 3, .tup (.tup [.str "set", .str x, wa] :: gr)]]]]]), some wa, some wb, some (.str x), some (.int n), none, none] ∧ s' = some (a, xs')) (fun E' hn => ?_) (fun δ' s' hP => ?_)
  · simp only [MS.ret, MS.retN, MS.ite, MS.seq, MS.nil, MS.drop, MS.set, MS.asg, MS.par, MS.par3, MS.no, MS.for, MS.aug, ME.var, ME.c, ME.op1, ME.op2, ME.of, ME.ite, ME.chain, MT.op2, MT.op1, MT.of, MT.and, MT.or, MT.not, MT.chain, MA.nil, MA.cons, ME.tup, ME.lst, ME.fn, ME.call, ME.lc, ME.sl, MO.no, MO.yes, MI.seq, MI.of, MI.ofA, ME.disp, ME.callA, ME.callR, ME.dc, ME.lc2, ME.sorted, List.map_cons, List.map_nil, List.cons_append, List.nil_append, List.append_nil, List.length_cons, List.length_nil, Nat.zero_add, Nat.reduceAdd, Nat.reduceSub, List.replicate_succ, List.replicate_zero, List.getD_cons_zero, List.getD_cons_succ, List.set_cons_zero, List.set_cons_succ, OQ_some, negD]
    simp only [toTupD, OQ_some]
    repeat (refine And.intro (by decide) ?_)
    exact hn _ _ ⟨_, rfl, rfl⟩
  obtain ⟨xs, rfl, rfl⟩ := hP
  simp only [MS.ret, MS.retN, MS.ite, MS.seq, MS.nil, MS.drop, MS.set, MS.asg, MS.par, MS.par3, MS.no, MS.for, MS.aug, ME.var, ME.c, ME.op1, ME.op2, ME.of, ME.ite, ME.chain, MT.op2, MT.op1, MT.of, MT.and, MT.or, MT.not, MT.chain, MA.nil, MA.cons, ME.tup, ME.lst, ME.fn, ME.call, ME.lc, ME.sl, MO.no, MO.yes, MI.seq, MI.of, MI.ofA, ME.disp, ME.callA, ME.callR, ME.dc, ME.lc2, ME.sorted, List.map_cons, List.map_nil, List.cons_append, List.nil_append, List.append_nil, List.length_cons, List.length_nil, Nat.zero_add, Nat.reduceAdd, Nat.reduceSub, List.replicate_succ, List.replicate_zero, List.getD_cons_zero, List.getD_cons_succ, List.set_cons_zero, List.set_cons_succ, OQ_some, toLstD]
  have e0 : ixD (.lst (.tup [.str "set", .str x, wa] :: gr)) (.int 0) = some (.tup [.str "set", .str x, wa]) := at0 _ _
  have e1 : ixD (.lst (.tup [.str "set", .str "X", wa] :: br)) (.int 0) = some (.tup [.str "set", .str "X", wa]) := at0 _ _
  simp only [e0, e1, OQ_some, toTupD]
  repeat (refine And.intro (by decide) ?_)
  have hgl := hg.2.1
  rw [add_tup (by rw [hgl]; simp)]
  simp only [OQ_some]
  repeat (refine And.intro (by decide) ?_)
  have hgg : ∀ k, gds (k + 30) (.tup [.str "set", .str x, wa] :: gr) = true := fun k => gds_all.mpr fun d hd => gd_mono 30 _ _ (by omega) (hg.1 d hd).1
  have hga : ∀ k, gds (k + 30) ((.tup [.str "set", .str x, wa] :: gr) ++ [.tup [.str "stop", .int 0]]) = true := fun k => gds_all.mpr (fma (fun d hd => gd_mono 30 _ _ (by omega) (hg.1 d hd).1) (fmc (gd_mono 30 _ _ (by omega) (by decide +kernel)) fmn))
  have r2 : progD (.tup (.tup [.str "set", .str x, wa] :: gr)) = true := Blk.prog (hg.2.2.2 10).blk (by rw [hgl]; omega)
  have b11 := (hg.2.2.2 9).blk
  have b10 := (hg.2.2.2 8).blk
  rw [hgl] at b11 b10
  have bw := (Row.cons (Ln.while' (i := .int 3) hc8 (by decide) b10) (Row.nil 10)).blk
  have r3 := (Row.cons (Ln.if' hc8 b11 bw) (Row.nil 11)).blk
  have r3' := Blk.prog r3 (by simp only [List.length_cons, List.length_nil]; omega)
  have w5 : lineD (.tup [.str "set", .str "X", wa]) = false := by rw [ln_set, wa8]; decide +kernel
  refine tells_run (fmc (by decide +kernel) (fmc ⟨hgg 9, r2⟩ (fmc ⟨?_, r3'⟩ fmn))) (fmc ⟨hgg 9, rfl⟩ (fmc ⟨by simp only [ok, gd_str, gd_int, gd_bl, gd_non, gd_tup, gd_lst, gds_nil, gds_cons, Bool.and_true, Bool.true_and, okl_0, okl_1, okl_2, okl_3, okl_4, okl_5, okl_6, okl_7, okl_8, okl_9, okl_10, okl_11, okl_12, okl_13, okl_14, okl_15, okl_16, okl_17, okl_18, okl_19, okl_20, okl_21, okl_22, okl_23, okl_24, okl_25, okl_26, okl_27, okl_28, okl_29, okl_30, okl_31, okl_32, okl_33, okl_34, okl_35, okl_36, okl_37, okl_38, okl_39, okl_40, okl_41, okl_42, okl_43, okl_44, okl_45, okl_46, okl_47, okl_48, okl_49, okl_50, okl_51, okl_52, okl_53, okl_54, okl_55, okl_56, okl_57, okl_58, okl_59, okl_60, okl_61, okl_62, okl_63, okl_64, okl_65, okl_66, okl_67, okl_68, okl_69, okl_70, okl_71, okl_72, okl_73, okl_74, okl_75, okl_76, okl_77, okl_78, okl_79, okl_80, okl_81, okl_82, ga, hx1], by kernel_rfl⟩ (fmc (by decide +kernel) (fmc ⟨hga 9, prog_end (hg.2.2.2 10) (by rw [hgl]; omega) (by kernel_rfl)⟩ (fmc ⟨by simp only [ok, gd_str, gd_int, gd_bl, gd_non, gd_tup, gd_lst, gds_nil, gds_cons, Bool.and_true, Bool.true_and, okl_0, okl_1, okl_2, okl_3, okl_4, okl_5, okl_6, okl_7, okl_8, okl_9, okl_10, okl_11, okl_12, okl_13, okl_14, okl_15, okl_16, okl_17, okl_18, okl_19, okl_20, okl_21, okl_22, okl_23, okl_24, okl_25, okl_26, okl_27, okl_28, okl_29, okl_30, okl_31, okl_32, okl_33, okl_34, okl_35, okl_36, okl_37, okl_38, okl_39, okl_40, okl_41, okl_42, okl_43, okl_44, okl_45, okl_46, okl_47, okl_48, okl_49, okl_50, okl_51, okl_52, okl_53, okl_54, okl_55, okl_56, okl_57, okl_58, okl_59, okl_60, okl_61, okl_62, okl_63, okl_64, okl_65, okl_66, okl_67, okl_68, okl_69, okl_70, okl_71, okl_72, okl_73, okl_74, okl_75, okl_76, okl_77, okl_78, okl_79, okl_80, okl_81, okl_82, ga, gc], prog_if_bad w5⟩ fmn))))) ?_
  · simp only [ok, gd_str, gd_int, gd_bl, gd_non, gd_tup, gd_lst, gds_nil, gds_cons, Bool.and_true, Bool.true_and, okl_0, okl_1, okl_2, okl_3, okl_4, okl_5, okl_6, okl_7, okl_8, okl_9, okl_10, okl_11, okl_12, okl_13, okl_14, okl_15, okl_16, okl_17, okl_18, okl_19, okl_20, okl_21, okl_22, okl_23, okl_24, okl_25, okl_26, okl_27, okl_28, okl_29, okl_30, okl_31, okl_32, okl_33, okl_34, okl_35, okl_36, okl_37, okl_38, okl_39, okl_40, okl_41, okl_42, okl_43, okl_44, okl_45, okl_46, okl_47, okl_48, okl_49, okl_50, okl_51, okl_52, okl_53, okl_54, okl_55, okl_56, okl_57, okl_58, okl_59, okl_60, okl_61, okl_62, okl_63, okl_64, okl_65, okl_66, okl_67, okl_68, okl_69, okl_70, okl_71, okl_72, okl_73, okl_74, okl_75, okl_76, okl_77, okl_78, okl_79, okl_80, okl_81, okl_82, gc, hgg]
  · exact h _ rfl _
end
end G

set_option Elab.async false
set_option linter.all false
set_option maxRecDepth 100000
set_option maxHeartbeats 4000000
namespace G
open PySem PySem.Spec PyProof.Rows L2
theorem for_inv {S : Type} {t : Tgt} {body : MS S} {E : GEnds S} (I : Nat → En → S → Prop) (N : Nat) : ∀ (items : List D) (n : Nat) (δ : En) (s : S), n + items.length = N → I n δ s → (∀ (i : Nat) (d : D) (δ : En) (s : S) (E' : GEnds S), i < N → d ∈ items → I i δ s → (∀ δ' s', I (i + 1) δ' s' → E'.nx δ' s') → OQ (setT t d δ) fun δ1 => body.run δ1 s E') → (∀ δ s, I N δ s → E.nx δ s) → forRun t body E items δ s
  | [], n, δ, s, hN, h, _, he => he δ s (by have : n = N := by simpa using hN
                                            rw [← this]; exact h)
  | d :: ds, n, δ, s, hN, h, hb, he => by
    unfold forRun
    simp only [List.length_cons] at hN
    refine hb n d δ s _ (by omega) List.mem_cons_self h fun δ' s' h' => ?_
    exact for_inv I N ds (n + 1) δ' s' (by omega) h' (fun i d' δ s E' hi hd' => hb i d' δ s E' hi (List.mem_cons_of_mem _ hd')) he
theorem for_var {S : Type} {j : Nat} {t : Tgt} {body : MS S} {δ : En} {s : S} {E : GEnds S} {ds : List D} (hj : δ.getD j none = some (.lst ds)) (h : forRun t body E ds δ s) : (MS.for (MI.seq (ME.var j)) t body).run δ s E := by
  show OQ (δ.getD j none) _
  rw [hj]
  exact fun _ => h
theorem rng_n (n : Nat) (hn : n ≤ 100000) : rngD [.int n] = some ((List.range n).map fun i : Nat => D.int (0 + i)) := by
  have h : -4611686018427387904 ≤ (n : Int) ∧ (n : Int) < 4611686018427387904 := ⟨by omega, by omega⟩
  generalize hj : (n : Int) = j at h
  have e : rngD [.int j] = some ((List.range j.toNat).map fun i : Nat => D.int (0 + i)) := by
    simp only [rngD]
    rw [if_pos h]
  rw [e, ← hj, Int.toNat_natCast]
theorem for_rng {S : Type} (n : Nat) (I : Nat → En → S → Prop) {t : Tgt} {body : MS S} {δ : En} {s : S} {E : GEnds S} {r : MA S} (hr : ∀ k, r.run δ s k = k [.int n] s) (hn : n ≤ 100000) (h0 : I 0 δ s) (hb : ∀ (i : Nat) (d : Int) (δ : En) (s : S) (E' : GEnds S), i < n → I i δ s → (∀ δ' s', I (i + 1) δ' s' → E'.nx δ' s') → OQ (setT t (.int d) δ) fun δ1 => body.run δ1 s E') (he : ∀ δ s, I n δ s → E.nx δ s) : (MS.for (MI.ofA rngD r) t body).run δ s E := by
  show r.run δ s _
  rw [hr, rng_n n hn]
  refine for_inv I n _ 0 δ s (by rw [List.length_map, List.length_range, Nat.zero_add]) h0 (fun i d δ s E' hi hd hI hn => ?_) he
  obtain ⟨k, _, rfl⟩ := List.mem_map.mp hd
  exact hb i _ δ s E' hi hI hn
def drawsF : MF Dr := ⟨fun ds s Q => ∃ ns : List Int, ds = [.lst (ns.map D.int)] ∧ ns.length ≤ 100 ∧ s = none ∧ ∀ p xs, Q (.ref p) (some (p, xs)), fun h ⟨ns, e1, e2, e3, q⟩ => ⟨ns, e1, e2, e3, fun p xs => h _ _ (q p xs)⟩⟩
theorem mul_l (i : Int) {j : Int} (h : j < 2 ^ 64 := by decide) (h' : -(2 ^ 64) < j := by decide) : mulD' (.int i) (.int j) = some (.int (i * j)) := by
  show (if _ then some (D.int (i * j)) else none) = _
  rw [if_pos (.inr ⟨h', h⟩)]
theorem mod_l (i : Int) {j : Int} (h : 0 < j := by decide) : modD (.int i) (.int j) = some (.int (i % j)) := by
  show ((if 0 < j then some (i % j) else none).map D.int) = _
  rw [if_pos h]; rfl
theorem div_l (i : Int) {j : Int} (h : 0 < j ∧ j < 1073741824 := by decide) : divD (.int i) (.int j) = some (.int (i / j)) := by
  show ((if 0 < j ∧ j < 1073741824 then some (i / j) else none).map D.int) = _
  rw [if_pos h]; rfl
theorem pow18 : powD (.int 10) (.int 18) = some (.int 1000000000000000000) := by kernel_rfl
theorem add_ii (i j : Int) : addD (.int i) (.int j) = some (.int (i + j)) := rfl
theorem toInt_i (i : Int) : toIntD [.int i] = some (.int i) := rfl
theorem abs_i (i : Int) : absD [.int i] = some (.int (if i < 0 then -i else i)) := rfl
theorem dapp_run {i : Nat} {m : ME Dr} {δ : En} {p : Addr} {xs : List Int} {Q : D → Dr → Prop} (v : Int) (hd : δ.getD i none = some (.ref p)) (hl : xs.length < 16777216) (h1 : m.run δ (some (p, xs)) (fun y s1 => y = .int v ∧ s1 = some (p, xs))) (h2 : Q .non (some (p, xs ++ [v]))) : (ME.dapp i m).run δ (some (p, xs)) Q := by
  show OQ (δ.getD i none) _
  rw [hd]
  show OQ (drD (some (p, xs)) (.ref p)) _
  rw [drD_some]
  refine m.mono (fun y s1 ⟨e1, e2⟩ => ?_) h1
  subst e1 e2
  rw [drD_some]
  exact ⟨hl, h2⟩
theorem OQ_set {i : Nat} {d : D} {δ : En} {Q : En → Prop} (h : Q (δ.set i (some d))) : OQ (setT (.nm i) d δ) Q := h
/-! evaluation by terms (no simp near big numbers) -/
section
variable {S : Type} {δ : En} {s : S} {a b m : ME S} {x y z : D} {E : GEnds S}
def Ev (m : ME S) (δ : En) (s : S) (v : D) : Prop := m.run δ s fun d s' => d = v ∧ s' = s
theorem Ev.use {v : D} {Q : D → S → Prop} (h : Ev m δ s v) (q : Q v s) : m.run δ s Q := m.mono (fun d s' ⟨e1, e2⟩ => by subst e1 e2; exact q) h
theorem ev_var {i : Nat} {v : D} (h : δ.getD i none = some v) : Ev (ME.var i : ME S) δ s v := by
  show OQ (δ.getD i none) _
  rw [h]
  exact ⟨rfl, rfl⟩
theorem ev_c {v : D} : Ev (ME.c v : ME S) δ s v := ⟨rfl, rfl⟩
theorem ev_op2 {f : D → D → Option D} (ha : Ev a δ s x) (hb : Ev b δ s y) (hf : f x y = some z) : Ev (ME.op2 f a b) δ s z := by
  refine a.mono (fun d s' ⟨e1, e2⟩ => ?_) ha
  subst e1 e2
  refine b.mono (fun d s' ⟨e1, e2⟩ => ?_) hb
  subst e1 e2
  rw [hf]
  exact ⟨rfl, rfl⟩
theorem ev_fn {f : List D → Option D} (ha : Ev a δ s x) (hf : f [x] = some z) : Ev (ME.fn f (MA.cons a MA.nil)) δ s z := by
  refine a.mono (fun d s' ⟨e1, e2⟩ => ?_) ha
  subst e1 e2
  show OQ (f [d]) _
  rw [hf]
  exact ⟨rfl, rfl⟩
theorem ite_op {f : D → D → Option Bool} {u v : MS S} {c : Bool} (ha : Ev a δ s x) (hb : Ev b δ s y) (hf : f x y = some c) (hu : c = true → u.run δ s E) (hv : c = false → v.run δ s E) : (MS.ite (MT.op2 f a b) u v).run δ s E := by
  refine a.mono (fun d s' ⟨e1, e2⟩ => ?_) ha
  subst e1 e2
  refine b.mono (fun d s' ⟨e1, e2⟩ => ?_) hb
  subst e1 e2
  rw [hf]
  show (if c = true then _ else _)
  cases c with
  | true => rw [if_pos rfl]; exact hu rfl
  | false => rw [if_neg (by decide)]; exact hv rfl
theorem set_ev {i : Nat} {v : D} (h : Ev m δ s v) (q : E.nx (δ.set i (some v)) s) : (MS.set i m).run δ s E := h.use q
end
theorem drop_dapp {i : Nat} {m : ME Dr} {δ : En} {p : Addr} {xs : List Int} {E : GEnds Dr} (v : Int) (hd : δ.getD i none = some (.ref p)) (hl : xs.length < 16777216) (h1 : Ev m δ (some (p, xs)) (.int v)) (h2 : E.nx δ (some (p, xs ++ [v]))) : (MS.drop (ME.dapp i m)).run δ (some (p, xs)) E :=
  dapp_run (Q := fun _ s1 => E.nx δ s1) v hd hl h1 h2
theorem seq_to {S : Type} {u v : MS S} {δ : En} {s : S} {E : GEnds S} (hu : ∀ E' : GEnds S, (∀ δ' s', v.run δ' s' E → E'.nx δ' s') → u.run δ s E') : (MS.seq u v).run δ s E := hu _ fun _ _ h => h
theorem lt_ii (i j : Int) : ltD (.int i) (.int j) = some (decide (i < j)) := rfl
theorem gt_ii (i j : Int) : gtD (.int i) (.int j) = some (decide (j < i)) := rfl
section
variable {S : Type} {P : Program} {w : World} {K : PySem.W.Frag} {mg : Str → Option Value} {base : Heap} {W : Wd S}
end
end G

set_option Elab.async false
set_option linter.all false
set_option maxRecDepth 100000
set_option maxHeartbeats 4000000
namespace G
open PySem PySem.Spec PyProof.Rows L2
section
variable {S : Type} {P : Program} {w : World} {K : PySem.W.Frag} {mg : Str → Option Value} {base : Heap} {W : Wd S}
theorem c__law_draws (T : Txt K w mg) : Cal P w K mg base WD 1 "_law_draws" 1 (drawsF) := by
  obtain ⟨fa, fd, F, hg, b⟩ := T.d__law_draws.ex
  refine cal_mk F hg b sc__law_draws rfl (fun cdv A outer s H E hr => (b_cons (s_set (i := 1) sc__law_draws.nd g_drNew) (b_cons (s_for .never rfl (i_seq (g_var 0)) (gt_nm (i := 2) sc__law_draws.nd) (b_cons (s_set (i := 5) sc__law_draws.nd (g_abs T.b.abs bb_abs (a_cons (g_var 2) a_nil))) (b_cons (s_ite (t_lt (g_var 5) (g_pow g_int g_int)) (b_cons (s_set (i := 6) sc__law_draws.nd (g_mod (g_toInt T.b.int bb_int (a_cons (g_add (g_mul (g_var 5) g_int) g_int) a_nil)) g_int)) (b_cons (s_drop (g_drApp 1 (g_mod (g_toInt T.b.int bb_int (a_cons (g_add (g_mul (g_var 6) g_int) (g_var 5)) a_nil)) g_int))) (b_cons (s_drop (g_drApp 1 (g_mod (g_toInt T.b.int bb_int (a_cons (g_add (g_var 6) (g_div (g_var 5) g_int)) a_nil)) g_int))) (b_one (s_set (i := 5) sc__law_draws.nd g_int))))) b_nil) (b_one (s_for .never rfl (i_rng T.b.range (a_cons g_int a_nil)) (gt_nm (i := 4) sc__law_draws.nd) (b_one (s_ite (t_gt (g_var 5) g_int) (b_cons (s_drop (g_drApp 1 (g_mod (g_toInt T.b.int bb_int (a_cons (g_var 5) a_nil)) g_int))) (b_one (s_set (i := 5) sc__law_draws.nd (g_div (g_var 5) g_int)))) b_nil))))))) (b_cons (s_set (i := 3) sc__law_draws.nd g_int) (b_cons (s_ite (t_gt (g_len T.b.len (a_cons (g_var 0) a_nil)) g_int) (b_one (s_set (i := 3) sc__law_draws.nd (g_add g_int (g_abs T.b.abs bb_abs (a_cons (g_ix (hu1 hr) (g_var 0) g_int) a_nil))))) b_nil) (b_cons (s_for .never rfl (i_rng T.b.range (a_cons g_int a_nil)) (gt_nm (i := 4) sc__law_draws.nd) (b_cons (s_set (i := 3) sc__law_draws.nd (g_mod (g_toInt T.b.int bb_int (a_cons (g_add (g_mul (g_var 3) g_int) g_int) a_nil)) g_int)) (b_one (s_drop (g_drApp 1 (g_div (g_var 3) g_int)))))) (b_one (s_ret (g_drRev 1 rfl T.b.list bb_list T.b.reversed))))))))) ?_
  intro ds s Q hl h
  obtain ⟨ns, rfl, hlen, rfl, h⟩ := h
  simp only [List.map_cons, List.map_nil, List.cons_append, List.nil_append, List.append_nil, List.length_cons, List.length_nil, Nat.zero_add, Nat.reduceAdd, Nat.reduceSub, List.replicate_succ, List.replicate_zero, List.getD_cons_zero, List.getD_cons_succ, List.set_cons_zero, List.set_cons_succ, OQ_some]
  refine seq_run (fun δ' s' => ∃ p, δ' = [some (.lst (ns.map D.int)), some (.ref p), none, none, none, none, none] ∧ s' = some (p, [])) (fun E' hn => ?_) (fun δ' s' hP => ?_)
  · simp only [MS.ret, MS.retN, MS.ite, MS.seq, MS.nil, MS.drop, MS.set, MS.asg, MS.par, MS.par3, MS.no, MS.for, MS.aug, ME.var, ME.c, ME.op1, ME.op2, ME.of, ME.ite, ME.chain, MT.op2, MT.op1, MT.of, MT.and, MT.or, MT.not, MT.chain, MA.nil, MA.cons, ME.tup, ME.lst, ME.fn, ME.call, ME.lc, ME.sl, MO.no, MO.yes, MI.seq, MI.of, MI.ofA, ME.disp, ME.callA, ME.callR, ME.dc, ME.lc2, ME.sorted, List.map_cons, List.map_nil, List.cons_append, List.nil_append, List.append_nil, List.length_cons, List.length_nil, Nat.zero_add, Nat.reduceAdd, Nat.reduceSub, List.replicate_succ, List.replicate_zero, List.getD_cons_zero, List.getD_cons_succ, List.set_cons_zero, List.set_cons_succ, OQ_some, ME.dnew]
    exact ⟨trivial, fun p => hn _ _ ⟨p, rfl, rfl⟩⟩
  obtain ⟨p, rfl, rfl⟩ := hP
  refine seq_run (fun δ' s' => ∃ (xs : List Int) (o2 o4 o5 o6 : Option D), xs.length ≤ 6200 ∧ δ' = [some (.lst (ns.map D.int)), some (.ref p), o2, none, o4, o5, o6] ∧ s' = some (p, xs)) (fun E' hn => ?_) (fun δ' s' hP => ?_)
  · refine for_var rfl (for_inv (fun i δ s => ∃ (xs : List Int) (o2 o4 o5 o6 : Option D), xs.length ≤ 62 * i ∧ δ = [some (.lst (ns.map D.int)), some (.ref p), o2, none, o4, o5, o6] ∧ s = some (p, xs)) ns.length _ 0 _ _ (by simp) ⟨[], none, none, none, none, by simp, rfl, rfl⟩ (fun i d δ s E2 hi hd hI hn2 => ?_) (fun δ s ⟨xs, o2, o4, o5, o6, h1, h3, h4⟩ => hn _ _ ⟨xs, o2, o4, o5, o6, by omega, h3, h4⟩))
    obtain ⟨xs, o2, o4, o5, o6, h1, rfl, rfl⟩ := hI
    obtain ⟨k, _, rfl⟩ := List.mem_map.mp hd
    refine OQ_set (seq_run (fun δ' s' => ∃ num : Int, δ' = [some (.lst (ns.map D.int)), some (.ref p), some (.int k), none, o4, some (.int num), o6] ∧ s' = some (p, xs)) (fun E3 hn3 => ?_) (fun δ' s' hP => ?_))
    · simp only [MS.ret, MS.retN, MS.ite, MS.seq, MS.nil, MS.drop, MS.set, MS.asg, MS.par, MS.par3, MS.no, MS.for, MS.aug, ME.var, ME.c, ME.op1, ME.op2, ME.of, ME.ite, ME.chain, MT.op2, MT.op1, MT.of, MT.and, MT.or, MT.not, MT.chain, MA.nil, MA.cons, ME.tup, ME.lst, ME.fn, ME.call, ME.lc, ME.sl, MO.no, MO.yes, MI.seq, MI.of, MI.ofA, ME.disp, ME.callA, ME.callR, ME.dc, ME.lc2, ME.sorted, List.map_cons, List.map_nil, List.cons_append, List.nil_append, List.append_nil, List.length_cons, List.length_nil, Nat.zero_add, Nat.reduceAdd, Nat.reduceSub, List.replicate_succ, List.replicate_zero, List.getD_cons_zero, List.getD_cons_succ, List.set_cons_zero, List.set_cons_succ, OQ_some, abs_i]
      exact hn3 _ _ ⟨_, rfl, rfl⟩
    obtain ⟨num, rfl, rfl⟩ := hP
    refine seq_run (fun δ' s' => ∃ (num : Int) (xs2 : List Int) (o6 : Option D), xs2.length ≤ 62 * i + 2 ∧ δ' = [some (.lst (ns.map D.int)), some (.ref p), some (.int k), none, o4, some (.int num), o6] ∧ s' = some (p, xs2)) (fun E3 hn3 => ?_) (fun δ' s' hP => ?_)
    · refine ite_op (ev_var rfl) (ev_op2 ev_c ev_c pow18) (lt_ii _ _) (fun _ => ?_) (fun _ => hn3 _ _ ⟨_, _, _, by omega, rfl, rfl⟩)
      refine seq_to fun E4 h4 => set_ev (ev_op2 (ev_fn (ev_op2 (ev_op2 (ev_var rfl) ev_c (mul_l _)) ev_c (add_ii _ _)) (toInt_i _)) ev_c (mod_l _)) (h4 _ _ ?_)
      refine seq_to fun E5 h5 => drop_dapp _ rfl (by omega) (ev_op2 (ev_fn (ev_op2 (ev_op2 (ev_var rfl) ev_c (mul_l _)) (ev_var rfl) (add_ii _ _)) (toInt_i _)) ev_c (mod_l _)) (h5 _ _ ?_)
      refine seq_to fun E6 h6 => drop_dapp _ rfl (by rw [List.length_append]; simp only [List.length_cons, List.length_nil]; omega) (ev_op2 (ev_fn (ev_op2 (ev_var rfl) (ev_op2 (ev_var rfl) ev_c (div_l _)) (add_ii _ _)) (toInt_i _)) ev_c (mod_l _)) (h6 _ _ ?_)
      exact set_ev ev_c (hn3 _ _ ⟨_, _, _, by rw [List.length_append, List.length_append]; simp only [List.length_cons, List.length_nil]; omega, rfl, rfl⟩)
    obtain ⟨num, xs2, o6, h2, rfl, rfl⟩ := hP
    refine for_rng 60 (fun j δ s => ∃ (xs : List Int) (o4 : Option D) (num : Int), xs.length ≤ 62 * i + 2 + j ∧ δ = [some (.lst (ns.map D.int)), some (.ref p), some (.int k), none, o4, some (.int num), o6] ∧ s = some (p, xs)) (fun _ => rfl) (by decide) ⟨xs2, _, _, by omega, rfl, rfl⟩ (fun j kk δ s E4 hj hI hn4 => ?_) (fun δ s ⟨xs, o4, num, h1, h3, h4⟩ => hn2 _ _ ⟨xs, _, _, _, _, by omega, h3, h4⟩)
    obtain ⟨xs, o4, num, h1, rfl, rfl⟩ := hI
    refine OQ_set (ite_op (ev_var rfl) ev_c (gt_ii _ _) (fun _ => ?_) (fun _ => hn4 _ _ ⟨_, _, _, by omega, rfl, rfl⟩))
    refine seq_to fun E5 h5 => drop_dapp _ rfl (by omega) (ev_op2 (ev_fn (ev_var rfl) (toInt_i _)) ev_c (mod_l _)) (h5 _ _ ?_)
    exact set_ev (ev_op2 (ev_var rfl) ev_c (div_l _)) (hn4 _ _ ⟨_, _, _, by rw [List.length_append]; simp only [List.length_cons, List.length_nil]; omega, rfl, rfl⟩)
  obtain ⟨xs, o2, o4, o5, o6, h1, rfl, rfl⟩ := hP
  refine seq_run (fun δ' s' => δ' = [some (.lst (ns.map D.int)), some (.ref p), o2, some (.int 1), o4, o5, o6] ∧ s' = some (p, xs)) (fun E' hn => ?_) (fun δ' s' hP => ?_)
  · simp only [MS.ret, MS.retN, MS.ite, MS.seq, MS.nil, MS.drop, MS.set, MS.asg, MS.par, MS.par3, MS.no, MS.for, MS.aug, ME.var, ME.c, ME.op1, ME.op2, ME.of, ME.ite, ME.chain, MT.op2, MT.op1, MT.of, MT.and, MT.or, MT.not, MT.chain, MA.nil, MA.cons, ME.tup, ME.lst, ME.fn, ME.call, ME.lc, ME.sl, MO.no, MO.yes, MI.seq, MI.of, MI.ofA, ME.disp, ME.callA, ME.callR, ME.dc, ME.lc2, ME.sorted, List.map_cons, List.map_nil, List.cons_append, List.nil_append, List.append_nil, List.length_cons, List.length_nil, Nat.zero_add, Nat.reduceAdd, Nat.reduceSub, List.replicate_succ, List.replicate_zero, List.getD_cons_zero, List.getD_cons_succ, List.set_cons_zero, List.set_cons_succ, OQ_some]
    exact hn _ _ ⟨rfl, rfl⟩
  obtain ⟨rfl, rfl⟩ := hP
  refine seq_run (fun δ' s' => ∃ sd : Int, δ' = [some (.lst (ns.map D.int)), some (.ref p), o2, some (.int sd), o4, o5, o6] ∧ s' = some (p, xs)) (fun E' hn => ?_) (fun δ' s' hP => ?_)
  · simp only [MS.ret, MS.retN, MS.ite, MS.seq, MS.nil, MS.drop, MS.set, MS.asg, MS.par, MS.par3, MS.no, MS.for, MS.aug, ME.var, ME.c, ME.op1, ME.op2, ME.of, ME.ite, ME.chain, MT.op2, MT.op1, MT.of, MT.and, MT.or, MT.not, MT.chain, MA.nil, MA.cons, ME.tup, ME.lst, ME.fn, ME.call, ME.lc, ME.sl, MO.no, MO.yes, MI.seq, MI.of, MI.ofA, ME.disp, ME.callA, ME.callR, ME.dc, ME.lc2, ME.sorted, List.map_cons, List.map_nil, List.cons_append, List.nil_append, List.append_nil, List.length_cons, List.length_nil, Nat.zero_add, Nat.reduceAdd, Nat.reduceSub, List.replicate_succ, List.replicate_zero, List.getD_cons_zero, List.getD_cons_succ, List.set_cons_zero, List.set_cons_succ, OQ_some, len_lst, gtD, ordD]
    cases ns with
    | nil => exact hn _ _ ⟨_, rfl, rfl⟩
    | cons z zs =>
      have e0 : ixD (.lst ((z :: zs).map D.int)) (.int 0) = some (.int z) := at0 _ _
      have e1 : (0 : Int) < ((((z :: zs).map D.int).length : Nat) : Int) := by simp only [List.length_map, List.length_cons]; omega
      simp only [e0, e1, decide_true, if_true, OQ_some, abs_i, add_ii]
      exact hn _ _ ⟨_, rfl, rfl⟩
  obtain ⟨sd, rfl, rfl⟩ := hP
  refine seq_run (fun δ' s' => ∃ (xs : List Int) (o3 o4 : Option D), δ' = [some (.lst (ns.map D.int)), some (.ref p), o2, o3, o4, o5, o6] ∧ s' = some (p, xs)) (fun E' hn => ?_) (fun δ' s' hP => ?_)
  · refine for_rng 3000 (fun j δ s => ∃ (xs : List Int) (o4 : Option D) (sd : Int), xs.length ≤ 6200 + j ∧ δ = [some (.lst (ns.map D.int)), some (.ref p), o2, some (.int sd), o4, o5, o6] ∧ s = some (p, xs)) (fun _ => rfl) (by decide) ⟨xs, _, _, by omega, rfl, rfl⟩ (fun j kk δ s E4 hj hI hn4 => ?_) (fun δ s ⟨xs, o4, num, h1, h3, h4⟩ => hn _ _ ⟨xs, _, _, h3, h4⟩)
    obtain ⟨xs, o4, sd, h1, rfl, rfl⟩ := hI
    refine OQ_set (seq_to fun E5 h5 => set_ev (ev_op2 (ev_fn (ev_op2 (ev_op2 (ev_var rfl) ev_c (mul_l _)) ev_c (add_ii _ _)) (toInt_i _)) ev_c (mod_l _)) (h5 _ _ ?_))
    exact drop_dapp _ rfl (by omega) (ev_op2 (ev_var rfl) ev_c (div_l _)) (hn4 _ _ ⟨_, _, _, by rw [List.length_append]; simp only [List.length_cons, List.length_nil]; omega, rfl, rfl⟩)
  obtain ⟨xs, o3, o4, rfl, rfl⟩ := hP
  simp only [MS.ret, ME.drev, List.map_cons, List.map_nil, List.cons_append, List.nil_append, List.append_nil, List.length_cons, List.length_nil, Nat.zero_add, Nat.reduceAdd, Nat.reduceSub, List.replicate_succ, List.replicate_zero, List.getD_cons_zero, List.getD_cons_succ, List.set_cons_zero, List.set_cons_succ, OQ_some, drD_some]
  exact fun p => h p _
end
end G

set_option Elab.async false
set_option linter.all false
set_option maxRecDepth 100000
set_option maxHeartbeats 4000000
namespace G
open PySem PySem.Spec PyProof.Rows L2
theorem dr_true {a : Addr} {xs : List Int} {Q : D → Dr → Prop} (h : ∀ xs', Q (.bl true) (some (a, xs'))) : (drawF isTrueD).run [.ref a] (some (a, xs)) Q := ⟨a, xs, rfl, rfl, fun d hd xs' => by rw [hd]; exact h xs'⟩
def lawF : MF Dr := ⟨fun ds s Q => ∃ ns : List Int, ds = [.lst (ns.map D.int)] ∧ ns.length ≤ 100 ∧ s = none ∧ ∀ s', Q (.bl true) s', fun h ⟨ns, e1, e2, e3, q⟩ => ⟨ns, e1, e2, e3, fun s' => h _ _ (q s')⟩⟩
section
variable {S : Type} {P : Program} {w : World} {K : PySem.W.Frag} {mg : Str → Option Value} {base : Heap} {W : Wd S}
theorem c_law (T : Txt K w mg) (R : Cal P w K mg base WD 39 "_law_are_rows_due" 1 (drawF isTrueD)) : Cal P w K mg base WD 40 "law" 1 (lawF) := by
  obtain ⟨fa, fd, F, hg, b⟩ := T.d_law.ex
  refine cal_mk F hg b sc_law rfl (fun cdv A outer s H E hr => (b_cons (s_set (i := 1) sc_law.nd (g_call (c__law_draws T) hr (by decide) (a_cons (g_var 0) a_nil))) (b_cons (s_for .never rfl (i_rng T.b.range (a_cons g_int a_nil)) (gt_nm (i := 2) sc_law.nd) (b_one (s_ite (PW.pt (w_or (t_not (t_of (g_call (c__law_are_calls_due T) hr (by decide) (a_cons (g_var 1) a_nil)))) (w_or (t_not (t_of (g_call (c__law_are_threads_due T) hr (by decide) (a_cons (g_var 1) a_nil)))) (w_or (t_not (t_of (g_call R hr (by decide) (a_cons (g_var 1) a_nil)))) (w_or1 (t_not (t_of (g_call (c__law_are_programs_due T) hr (by decide) (a_cons (g_var 1) a_nil))))))))) (b_one (s_ret g_bl)) b_nil))) (b_one (s_ret g_bl))))) ?_
  intro ds s Q hl h
  obtain ⟨ns, rfl, hlen, rfl, h⟩ := h
  simp only [List.map_cons, List.map_nil, List.cons_append, List.nil_append, List.append_nil, List.length_cons, List.length_nil, Nat.zero_add, Nat.reduceAdd, Nat.reduceSub, List.replicate_succ, List.replicate_zero, List.getD_cons_zero, List.getD_cons_succ, List.set_cons_zero, List.set_cons_succ, OQ_some]
  refine seq_run (fun δ' s' => ∃ p xs, δ' = [some (.lst (ns.map D.int)), some (.ref p), none] ∧ s' = some (p, xs)) (fun E' hn => ?_) (fun δ' s' hP => ?_)
  · simp only [MS.ret, MS.retN, MS.ite, MS.seq, MS.nil, MS.drop, MS.set, MS.asg, MS.par, MS.par3, MS.no, MS.for, MS.aug, ME.var, ME.c, ME.op1, ME.op2, ME.of, ME.ite, ME.chain, MT.op2, MT.op1, MT.of, MT.and, MT.or, MT.not, MT.chain, MA.nil, MA.cons, ME.tup, ME.lst, ME.fn, ME.call, ME.lc, ME.sl, MO.no, MO.yes, MI.seq, MI.of, MI.ofA, ME.disp, ME.callA, ME.callR, ME.dc, ME.lc2, ME.sorted, List.map_cons, List.map_nil, List.cons_append, List.nil_append, List.append_nil, List.length_cons, List.length_nil, Nat.zero_add, Nat.reduceAdd, Nat.reduceSub, List.replicate_succ, List.replicate_zero, List.getD_cons_zero, List.getD_cons_succ, List.set_cons_zero, List.set_cons_succ, OQ_some]
    exact ⟨trivial, ns, rfl, hlen, rfl, fun p xs => hn _ _ ⟨p, xs, rfl, rfl⟩⟩
  obtain ⟨p, xs, rfl, rfl⟩ := hP
  refine seq_run (fun δ' s' => True) (fun E' hn => ?_) (fun δ' s' _ => ?_)
  · refine for_rng 4 (fun j δ s => ∃ xs o2, δ = [some (.lst (ns.map D.int)), some (.ref p), o2] ∧ s = some (p, xs)) (fun _ => rfl) (by decide) ⟨xs, _, rfl, rfl⟩ (fun j kk δ s E4 hj hI hn4 => ?_) (fun δ s _ => hn _ _ trivial)
    obtain ⟨xs, o2, rfl, rfl⟩ := hI
    refine OQ_set ?_
    simp only [MS.ret, MS.retN, MS.ite, MS.seq, MS.nil, MS.drop, MS.set, MS.asg, MS.par, MS.par3, MS.no, MS.for, MS.aug, ME.var, ME.c, ME.op1, ME.op2, ME.of, ME.ite, ME.chain, MT.op2, MT.op1, MT.of, MT.and, MT.or, MT.not, MT.chain, MA.nil, MA.cons, ME.tup, ME.lst, ME.fn, ME.call, ME.lc, ME.sl, MO.no, MO.yes, MI.seq, MI.of, MI.ofA, ME.disp, ME.callA, ME.callR, ME.dc, ME.lc2, ME.sorted, List.map_cons, List.map_nil, List.cons_append, List.nil_append, List.append_nil, List.length_cons, List.length_nil, Nat.zero_add, Nat.reduceAdd, Nat.reduceSub, List.replicate_succ, List.replicate_zero, List.getD_cons_zero, List.getD_cons_succ, List.set_cons_zero, List.set_cons_succ, OQ_some]
    refine ⟨trivial, dr_true fun xs1 => ?_⟩
    simp only [blD_bl, OQ_some, Bool.not_true, if_false, Bool.false_eq_true]
    refine ⟨trivial, dr_true fun xs2 => ?_⟩
    simp only [blD_bl, OQ_some, Bool.not_true, if_false, Bool.false_eq_true]
    refine ⟨trivial, dr_true fun xs3 => ?_⟩
    simp only [blD_bl, OQ_some, Bool.not_true, if_false, Bool.false_eq_true]
    refine ⟨trivial, dr_true fun xs4 => ?_⟩
    simp only [blD_bl, OQ_some, Bool.not_true, if_false, Bool.false_eq_true]
    exact hn4 _ _ ⟨_, _, rfl, rfl⟩
  · exact h _
end
end G

set_option Elab.async false
set_option linter.all false
set_option maxRecDepth 100000
set_option maxHeartbeats 4000000
namespace G
open PySem PySem.Spec PyProof.Rows L2
/-! dicts in hand -/
theorem keys_ne {i j : Int} (h : i ≠ j) : ¬ ((Sum.inl i : Key) = Sum.inl j) := fun e => h (Sum.inl.inj e)
theorem disp1 (i : Int) (d : D) : dispD [.int i, d] = some (.dct [.inl i] [d]) := rfl
theorem put2 {i j : Int} {d e : D} (h : i ≠ j) : putD [(Sum.inl i, d)] (Sum.inl j) e = [(Sum.inl i, d), (Sum.inl j, e)] := by
  unfold putD
  rw [if_neg (by simp [h])]
  rfl
theorem disp2 {i j : Int} {d e : D} (h : i ≠ j) : dispD [.int i, d, .int j, e] = some (.dct [.inl i, .inl j] [d, e]) := by
  have e1 : mergeD [] [(Sum.inl i, d), (Sum.inl j, e)] = [(Sum.inl i, d), (Sum.inl j, e)] := by
    show putD [(Sum.inl i, d)] (Sum.inl j) e = _
    exact put2 h
  show (if (2 : Nat) ≤ 15 then some (D.dct ((mergeD [] [(Sum.inl i, d), (Sum.inl j, e)]).map (·.1)) ((mergeD [] [(Sum.inl i, d), (Sum.inl j, e)]).map (·.2))) else none) = _
  rw [e1, if_pos (by decide)]; rfl
theorem disp3 {i j k : Int} {d e f : D} (h : i ≠ j) (h1 : i ≠ k) (h2 : j ≠ k) : dispD [.int i, d, .int j, e, .int k, f] = some (.dct [.inl i, .inl j, .inl k] [d, e, f]) := by
  have e1 : mergeD [] [(Sum.inl i, d), (Sum.inl j, e), (Sum.inl k, f)] = [(Sum.inl i, d), (Sum.inl j, e), (Sum.inl k, f)] := by
    show putD (putD [(Sum.inl i, d)] (Sum.inl j) e) (Sum.inl k) f = _
    rw [put2 h]
    unfold putD
    rw [if_neg (by simp [h1, h2])]
    rfl
  show (if (3 : Nat) ≤ 15 then some (D.dct ((mergeD [] [(Sum.inl i, d), (Sum.inl j, e), (Sum.inl k, f)]).map (·.1)) ((mergeD [] [(Sum.inl i, d), (Sum.inl j, e), (Sum.inl k, f)]).map (·.2))) else none) = _
  rw [e1, if_pos (by decide)]; rfl
def BadM (p : D → Bool) (n : Nat) (ds : List D) : Prop := (∀ d ∈ ds, okm d ∧ p d = false) ∧ ds.length ≤ n
theorem BadM.app {p : D → Bool} {n m : Nat} {a b : List D} (h : BadM p n a) (h' : BadM p m b) : BadM p (n + m) (a ++ b) := ⟨fma h.1 h'.1, by rw [List.length_append]; have := h.2; have := h'.2; omega⟩
theorem okm1 {i : Int} {d : D} (h : ok d) : okm (.dct [.inl i] [d]) := ⟨by simp, rfl, fmc rfl fmn, fmc h fmn⟩
theorem okm2 {i j : Int} {d e : D} (h : ok d) (h' : ok e) : okm (.dct [.inl i, .inl j] [d, e]) := ⟨by simp, rfl, fmc rfl (fmc rfl fmn), fmc h (fmc h' fmn)⟩
theorem okm3 {i j k : Int} {d e f : D} (h : ok d) (h' : ok e) (h'' : ok f) : okm (.dct [.inl i, .inl j, .inl k] [d, e, f]) := ⟨by simp, rfl, fmc rfl (fmc rfl (fmc rfl fmn)), fmc h (fmc h' (fmc h'' fmn))⟩
theorem map1 (i : Int) (d : D) : mappingD (.dct [.inl i] [d]) = (withinD 0 4095 (.int i) && toldD d) := by
  simp [mappingD, sortK, keyIs, keyI, keyD]
theorem map2 (i j : Int) (d e : D) : mappingD (.dct [.inl i, .inl j] [d, e]) = ((withinD 0 4095 (.int i) && withinD 0 4095 (.int j)) && (decide (i ≤ j) && (toldD d && toldD e))) := by
  simp [mappingD, sortK, keyIs, keyI, keyD]
theorem map3 (i j k : Int) (d e f : D) : mappingD (.dct [.inl i, .inl j, .inl k] [d, e, f]) = ((withinD 0 4095 (.int i) && (withinD 0 4095 (.int j) && withinD 0 4095 (.int k))) && (decide ((i ≤ j ∧ i ≤ k) ∧ j ≤ k) && (toldD d && (toldD e && toldD f)))) := by
  simp [mappingD, sortK, keyIs, keyI, keyD]
theorem told_k {a : D} {i : Int} (h : ((1 : Int) == i || (3 : Int) == i) = false) : toldD (.tup [a, .int i]) = false := by simp only [toldD, h, Bool.and_false]
theorem told_t {a i : Int} (h0 : 0 ≤ a) (h1 : a ≤ 1023) (h : ((1 : Int) == i || (3 : Int) == i) = true) : toldD (.tup [.int a, .int i]) = true := by
  simp only [toldD, h, Bool.and_true]
  exact wi_int h0 h1
theorem map_bad {i : Int} {d : D} (h : toldD d = false) : mappingD (.dct [.inl i] [d]) = false := by rw [map1, h, Bool.and_false]
theorem disp1s (x : Str) (d : D) : dispD [.str x, d] = some (.dct [.inr x] [d]) := rfl
theorem add_iiQ (i j : Int) : addD (.int i) (.int j) = some (.int (i + j)) := rfl
theorem okm_lst {ds : List D} (h : ok (.lst ds)) : okm (.lst ds) := h
theorem okm_non : okm .non := rfl
theorem okm1s {x : Str} {d : D} (hx : ok (.str x)) (h : ok d) : okm (.dct [.inr x] [d]) := ⟨by simp, rfl, fmc hx fmn, fmc h fmn⟩
theorem okm0 : okm (.dct [] []) := ⟨by simp, rfl, fmn, fmn⟩
theorem rul1 (es : List D) : rulesD (.dct [.inl 0] [.tup es]) = (decide ((es.length : Int) ≤ 2000) && es.all (signR 0 [.inl 0])) := by
  simp [rulesD, sortK, keyIs, keyI, keyD, zeroK, isTupD, isIntD, sumLen, rowLen, rowsR]
theorem rul2 (i : Int) (es fs : List D) : rulesD (.dct [.inl 0, .inl i] [.tup es, .tup fs]) = (decide (0 ≤ i) && (decide ((es.length : Int) + fs.length ≤ 2000) && (es.all (signR 0 [.inl 0, .inl i]) && fs.all (signR i [.inl 0, .inl i])))) := by
  simp [rulesD, sortK, keyIs, keyI, keyD, zeroK, isTupD, isIntD, sumLen, rowLen, rowsR]
theorem rul3 (es fs gs : List D) : rulesD (.dct [.inl 0, .inl 3, .inl 7] [.tup es, .tup fs, .tup gs]) = (decide ((es.length : Int) + (fs.length + gs.length) ≤ 2000) && (es.all (signR 0 [.inl 0, .inl 3, .inl 7]) && (fs.all (signR 3 [.inl 0, .inl 3, .inl 7]) && gs.all (signR 7 [.inl 0, .inl 3, .inl 7])))) := by
  simp [rulesD, sortK, keyIs, keyI, keyD, zeroK, isTupD, isIntD, sumLen, rowLen, rowsR]
theorem ok_rep {d : D} (h : gd 39 d = true) (k : Nat) : ok (.tup (List.replicate k d)) := show gds 39 (List.replicate k d) = true from gds_rep h k
theorem okm_rep {d : D} {i : Int} (h : gd 39 d = true) (k : Nat) : okm (.dct [.inl i] [.tup (List.replicate k d)]) := okm1 (ok_rep h k)
theorem pc_keep (n i j : Int) : pieceD n (.tup [.str (Str.ofString "keep"), .int i, .int j]) = (decide (0 ≤ i) && (decide (0 < j) && decide (i + j ≤ n))) := by kernel_rfl
theorem keep_t {n i j : Int} (h0 : 0 ≤ i) (h1 : 0 < j) (h2 : i + j ≤ n) : pieceD n (.tup [.str (Str.ofString "keep"), .int i, .int j]) = true := by rw [pc_keep, decide_eq_true h0, decide_eq_true h1, decide_eq_true h2]; rfl
theorem keep_f {n i j : Int} (h : ¬ (0 ≤ i ∧ 0 < j ∧ i + j ≤ n)) : pieceD n (.tup [.str (Str.ofString "keep"), .int i, .int j]) = false := by
  rw [pc_keep]
  cases e1 : decide (0 ≤ i) with
  | false => rfl
  | true =>
    cases e2 : decide (0 < j) with
    | false => rfl
    | true =>
      have h1 := of_decide_eq_true e1
      have h2 := of_decide_eq_true e2
      rw [decide_eq_false (fun h3 => h ⟨h1, h2, h3⟩)]; rfl
theorem pow9 : powD (.int 10) (.int 9) = some (.int 1000000000) := by kernel_rfl
section
variable {S : Type} {P : Program} {w : World} {K : PySem.W.Frag} {mg : Str → Option Value} {base : Heap} {W : Wd S}
end
end G

set_option Elab.async false
set_option linter.all false
set_option maxRecDepth 100000
set_option maxHeartbeats 4000000
/-! a thing of the real heap that is told through the abstract one -/
namespace G
open PySem PySem.Spec PyProof.Rows L2
/-- exactly the object o lies at c -/
def pinO (c : Addr) (o : Obj) : HO := .ext fun h => h.get? c = some o
theorem hok_track {P : Program} {w : World} {H : Hp} {h : Heap} {c : Addr} {o : Obj} (x : HOk P w H h) (n : H c = none) (e : h.get? c = some o) : HOk P w (upd H c (pinO c o)) h := fun b u eb => by
  by_cases z : b = c
  · subst z
    rw [upd_same] at eb
    cases eb
    exact ⟨e, ⟨o, e⟩, fun h1 h2 p q => q _ p⟩
  · rw [upd_ne z] at eb
    exact (x b u eb).stay (fun b u _ q => q) (fun b q => by rw [upd_ne (fun k => by rw [k, n] at q; cases q)]; exact q) (fun b xs q => by rw [upd_ne (fun k => by rw [k, n] at q; cases q)]; exact q)
theorem hok_tracked {P : Program} {w : World} {H : Hp} {h : Heap} {c : Addr} {o : Obj} (x : HOk P w H h) (n : H c = some (pinO c o)) : h.get? c = some o := (x c _ n).1
/-- the cell of a name is no frame -/
theorem cell_notin {X : Cx} {pins : List (Addr × Obj)} {σ : List (Option V)} {H : Hp} {s : Shared} {x : Str} {c : Addr} (I : Inv X pins σ H s) (hf : X.fn x = true) (hc : X.env.cells.lookup x = some c) : c ∉ frs X.stack := fun z => by
  rcases List.mem_cons.mp (I.stkSub _ z) with e | e
  · exact I.cne x c hc e
  · obtain ⟨_, o, ho, _⟩ := I.ok.funs.mem e
    exact absurd (Nat.lt_of_lt_of_le (Heap.lt_size ho) (I.ok.cab x c hf hc)) (Nat.lt_irrefl _)
/-- H without c -/
def rmH (H : Hp) (c : Addr) : Hp := fun b => if b = c then none else H b
theorem rmH_same {H : Hp} {c : Addr} : rmH H c c = none := by simp [rmH]
theorem rmH_ne {H : Hp} {c b : Addr} (h : b ≠ c) : rmH H c b = H b := by simp [rmH, h]
theorem hok_untrack {P : Program} {w : World} {H : Hp} {h : Heap} {c : Addr} {o : Obj} (x : HOk P w H h) (n : H c = some (pinO c o)) : HOk P w (rmH H c) h := fun b u eb => by
  by_cases z : b = c
  · subst z
    rw [rmH_same] at eb
    cases eb
  · rw [rmH_ne z] at eb
    exact (x b u eb).stay (fun b u _ q => q) (fun b q => by rw [rmH_ne (fun k => by rw [k, n] at q; cases q)]; exact q) (fun b xs q => by rw [rmH_ne (fun k => by rw [k, n] at q; cases q)]; exact q)
theorem un_untrack {P : Program} {w : World} {fs : List Addr} {H H' : Hp} {h h' : Heap} {c : Addr} {o : Obj} (u : Un fs [] (upd H c (pinO c o)) H' h h') (x : HOk P w H' h') (n : H c = none) (e : h.get? c = some o) (hc : c ∉ fs) (n' : H' c = some (pinO c o)) : Un fs [] H (rmH H' c) h h' where
  keep b ob q k nf nx := by
    by_cases z : b = c
    · subst z
      rw [e] at q
      cases q
      exact hok_tracked x n'
    · exact u.keep b ob q (by rw [upd_ne z]; exact k) nf nx
  slot b ob q k nf nx := by
    have z : b ≠ c := fun z => by
      subst z
      exact hc nf
    exact u.slot b ob q (by rw [upd_ne z]; exact k) nf nx
  free b ob q k nx := by
    by_cases z : b = c
    · subst z; exact rmH_same
    · rw [rmH_ne z]; exact u.free b ob q (by rw [upd_ne z]; exact k) nx
  there b ob q nx := u.there b ob q nx
  tups b xs q := by
    have z : b ≠ c := fun z => by rw [z, n] at q; cases q
    rw [rmH_ne z]; exact u.tups b xs (by rw [upd_ne z]; exact q)
  frzs b ob v q := by
    have z : b ≠ c := fun z => by rw [z, n] at q; cases q
    rw [rmH_ne z]; exact u.frzs b ob v (by rw [upd_ne z]; exact q)
  tbls b ps q := by
    have z : b ≠ c := fun z => by rw [z, n] at q; cases q
    rw [rmH_ne z]; exact u.tbls b ps (by rw [upd_ne z]; exact q)
/-- the cell of a name is no thing of the module -/
theorem cell_base {X : Cx} {pins : List (Addr × Obj)} {σ : List (Option V)} {H : Hp} {s : Shared} {x : Str} {c : Addr} (I : Inv X pins σ H s) (hf : X.fn x = true) (hc : X.env.cells.lookup x = some c) : X.base.get? c = none := by
  cases e : X.base.get? c with
  | none => rfl
  | some o => exact absurd (Nat.lt_of_lt_of_le (Heap.lt_size e) (Nat.le_trans I.ok.bsz (I.ok.cab x c hf hc))) (Nat.lt_irrefl _)
theorem env0_track {P : Program} {w : World} {K : PySem.W.Frag} {mg : Str → Option Value} {base : Heap} {A : Around} {outer : List Env} {s : Shared} {H : Hp} {c : Addr} {o : Obj} (e0 : Env0 P w K mg base A outer s H) (n : H c = none) (e : s.heap.get? c = some o) (hc : c ∉ frs outer) (hb : base.get? c = none) : Env0 P w K mg base A outer s (upd H c (pinO c o)) where
  frames := e0.frames
  mod := e0.mod
  bs b ob q := ⟨(e0.bs b ob q).1, by rw [upd_ne (fun z => by rw [z, hb] at q; cases q)]; exact (e0.bs b ob q).2⟩
  bsz := e0.bsz
  funs := e0.funs
  frf b q := by
    have z : b ≠ c := fun z => by
      subst z
      exact hc q
    rw [upd_ne z]
    exact e0.frf b q
  hok := hok_track e0.hok n e
  bare := e0.bare
theorem ce_untrack {P : Program} {w : World} {outer : List Env} {s s' : Shared} {H : Hp} {c : Addr} {o : Obj} {Q Q' : VK} {u : Value} (n : H c = none) (e : s.heap.get? c = some o) (hc : c ∉ frs outer) (hq : ∀ v H', Q v H' → H' c = some (pinO c o) ∧ Q' v (rmH H' c)) (h : CE outer P w (upd H c (pinO c o)) s Q u s') : CE outer P w H s Q' u s' := by
  obtain ⟨v, H', h1, h2, h3, h4, h5, h6⟩ := h
  obtain ⟨q1, q2⟩ := hq v H' h6
  exact ⟨v, rmH H' c, h1, h2, un_untrack h3 h4 n e hc q1, hok_untrack h4 q1, h5, q2⟩
end G

set_option Elab.async false
set_option linter.all false
set_option maxRecDepth 100000
set_option maxHeartbeats 4000000
/-! a call of a local name that holds a function object told through the abstract heap -/
namespace G
open PySem PySem.Spec PyProof.Rows L2
section
variable {X : Cx} {k i : Nat} {f : Addr} {o : Obj} {fd : FuncData} {ps : List Str} {sp : Sp} {x : Str} {p pos : Pos} {e : Expr} {es : List Expr} {t : TA}
def tCallT (i : Nat) (f : Addr) (o : Obj) (sp : Sp) (t : TA) : TE := fun σ H Q => σ[i]? = some (some (.ref f)) ∧ H f = some (pinO f o) ∧ t σ H fun vs H1 => H1 f = some (pinO f o) ∧ sp vs H1 Q (fun _ _ _ => False)
theorem pe_callT (F : FnOk X.prog X.w X.K X.mg X.base (fun _ _ _ _ _ _ => False) k f fd ps sp) (hr : Room k X.A) (hN : X.N[i]? = some x) (hv : Vis X.env.scope x) (ha : PA X (e :: es) t)
    (hfa : ∀ h : Heap, h.get? f = some o → PySem.W.FnAt f h) (hb : ∀ (s : Shared) (us : List Value), s.heap.get? f = some o → us.length = ps.length → BindsTo s fd ⟨us, []⟩ (ps.zip us))
    (hdb : (x == ("__debug__" : Str)) = false := by decide) (hcd : (x == ("__classdict__" : Str)) = false := by decide)
    (he : starEach (e :: es) X.env = (false, eval e X.env) :: starEach es X.env := by rfl) (hpl : (backTo pos (starEach es X.env)).any (·.1) = false := by rfl) : PE X (.Call (.Name x p) (e :: es) [] pos) (tCallT i f o sp t) := by
  refine ⟨fun pins s σ H Q I h => ?_⟩
  obtain ⟨hs, hf, ht⟩ := h
  refine wpAny_Call_Name_kw (thn ((pe_var (pos := p) hN hv hdb hcd).run pins s σ H (fun v H1 => v = .ref f ∧ H1 = H) I ⟨.ref f, hs, rfl, rfl⟩) fun u s1 ⟨v, H1, I1, r1, q1⟩ => ?_)
  obtain ⟨rfl, rfl⟩ := q1
  cases r1
  refine PySem.W.callWith_F (hfa _ (hok_tracked I1.hok hf)) (thn (ha.run pos pins s1 σ _ _ I1 ht) fun us s2 ⟨vs, H2, I2, r, q⟩ => ?_) he hpl
  have o2 : s2.heap.get? f = some o := hok_tracked I2.hok q.1
  refine ⟨hfa _ o2, ?_⟩
  have hl : us.length = ps.length := by rw [← r.length]; exact F.len _ _ _ _ q.2
  refine wpAny_call (codeAny_mono (F.run X.A X.stack s2 H2 ⟨us, []⟩ us vs Q (fun _ _ _ => False) hr I2.env0 (hb s2 us o2 hl) r q.2) fun r s' hq => ?_)
  cases r with
  | error e => exact False.elim hq
  | ok fl =>
    cases fl with
    | ret u => exact I2.after hq
    | next => exact False.elim hq
    | brk => exact False.elim hq
    | cont => exact False.elim hq
end
end G

set_option Elab.async false
set_option linter.all false
set_option maxRecDepth 100000
set_option maxHeartbeats 4000000
/-! a lambda with parameters and captured cells -/
namespace G
open PySem PySem.Spec PyProof.Rows L2 NdefX LamX
section
variable {P : Program} {w : World} {K : PySem.W.Frag} {mg : Str → Option Value} {base : Heap} {N ps fr : List Str} {F : NF} {f : Addr} {k : Nat} {CX : CXT}
/-- THE RULE: a lambda by its body (F's own body is not read) -/
theorem lam_run {body : Expr} {pm ctv : Value} {A : Around} {outer : List Env} {s : Shared} {H : Hp} {us : List Value} {vs : List V} {ws : List (Option V)} {Q : VK} {E : XK} {t : TE} (S : NScope N ps fr F.scope)
    {args : Args} (hb : BindsTo s (PySem.W.kla_fn F.name F.qual F.params body F.scope F.cl pm (.ref F.c) ctv) args (ps.zip us)) (hl : vs.length = ps.length) (hr : Room (k + 1) A) (e0 : Env0 P w K mg base A outer s H)
    (ho : s.heap.get? f = some (PySem.W.kla_obj F.name F.qual F.params body F.scope F.cl pm F.c ctv)) (hc : H F.c = some (CodeO F.c F.qual)) (C : CellsAt F.cl fr ws s.heap H) (r : Vals vs us)
    (hbody : PE (ncx CX P w K mg base N F f A outer s H E) body t) (hq : t (startF N vs ws) H Q) :
    codeAny (model P w) A (.call (.ref f) args) (CR CX outer P w H s Q E) s := by
  have lim : s.heap.NoLimit := e0.mod.nolimit.keeps fun b o e => (e0.bs b o e).1
  refine PySem.W.kla_callFunE hr.depth ho rfl S.co S.gen rfl (codeO_at e0.hok hc) ?_
  refine hb _ _ _ _ (wpAny_newFunctionEnv S.nocell (fun ⟨n, _⟩ hy => S.par n (List.of_mem_zip hy).1) (fun h₁ hns hsb => ⟨lim.fresh _ hsb, ?_⟩) S.kind)
  show codeAny _ _ (.expr body (envF F f s.heap.objs.size)) _ _
  have kp : ∀ b o, s.heap.get? b = some o → h₁.get? b = some o := fun b o e => hsb.extBut b o (Nat.ne_of_lt (Heap.lt_size e)) (Heap.get?_push_of_some _ e)
  have I : Inv (ncx CX P w K mg base N F f A outer s H E) [] (startF N vs ws) H { s with heap := h₁, toks := s.toks + (ps.zip us).length } := inv_startN S hr.hd e0 hl r C hns kp
  refine PySem.W.kla_codeExpr (wpAny_mono (hbody.run [] _ _ H Q I hq) (fun u s' hs => ?_) fun e s' hs => hs)
  obtain ⟨v, H', J, rv, q⟩ := hs
  exact ⟨v, H', J.os, J.bare, J.base, J.hok, rv, q⟩
end
end G

set_option Elab.async false
set_option linter.all false
set_option maxRecDepth 100000
set_option maxHeartbeats 4000000
/-! the promise of a lambda whose one captured cell is pinned -/
namespace G
open PySem PySem.Spec PyProof.Rows L2 NdefX LamX
theorem un_retrack {fs : List Addr} {H H' : Hp} {h h' : Heap} {c : Addr} {o : Obj} (u : Un fs [] (rmH H c) H' h h') (n : H c = some (pinO c o)) : Un fs [] H (upd H' c (pinO c o)) h h' := by
  have ne : ∀ {b : Addr} {y : HO}, H b = some y → (∀ φ, y ≠ .ext φ) → b ≠ c := fun {b y} q k z => by
    rw [z, n] at q
    cases q
    exact k _ rfl
  refine ⟨fun b ob q k nf nx => ?_, fun b ob q k nf nx => ?_, fun b ob q k nx => ?_, fun b ob q nx => u.there b ob q nx, fun b xs q => ?_, fun b ob v q => ?_, fun b ps q => ?_⟩
  · have z : b ≠ c := fun z => by rw [z, n] at k; cases k
    exact u.keep b ob q (by rw [rmH_ne z]; exact k) nf nx
  · have z : b ≠ c := fun z => by rw [z, n] at k; cases k
    exact u.slot b ob q (by rw [rmH_ne z]; exact k) nf nx
  · have z : b ≠ c := fun z => by rw [z, n] at k; cases k
    rw [upd_ne z]
    exact u.free b ob q (by rw [rmH_ne z]; exact k) nx
  · have z : b ≠ c := ne q (fun φ k => by cases k)
    rw [upd_ne z]; exact u.tups b xs (by rw [rmH_ne z]; exact q)
  · have z : b ≠ c := ne q (fun φ k => by cases k)
    rw [upd_ne z]; exact u.frzs b ob v (by rw [rmH_ne z]; exact q)
  · have z : b ≠ c := ne q (fun φ k => by cases k)
    rw [upd_ne z]; exact u.tbls b ps (by rw [rmH_ne z]; exact q)
theorem env0_untrack {P : Program} {w : World} {K : PySem.W.Frag} {mg : Str → Option Value} {base : Heap} {A : Around} {outer : List Env} {s : Shared} {H : Hp} {c : Addr} {o : Obj} (e0 : Env0 P w K mg base A outer s H) (n : H c = some (pinO c o)) : Env0 P w K mg base A outer s (rmH H c) := by
  have nn : ∀ {b : Addr}, H b = none → rmH H c b = none := fun {b} q => by
    by_cases z : b = c
    · subst z; exact rmH_same
    · rw [rmH_ne z]; exact q
  exact ⟨e0.frames, e0.mod, fun b ob q => ⟨(e0.bs b ob q).1, nn (e0.bs b ob q).2⟩, e0.bsz, e0.funs, fun b q => nn (e0.frf b q), hok_untrack e0.hok n, e0.bare⟩
section
variable {P : Program} {w : World} {K : PySem.W.Frag} {mg : Str → Option Value} {base : Heap} {N ps : List Str} {F : NF} {f c : Addr} {k : Nat} {oc : Obj} {y : Str} {u : Value} {v : V}
abbrev CXN : CXT := fun _ _ _ _ _ _ => False
theorem lam_fnok {body : Expr} {pm ctv : Value} (S : NScope N ps [y] F.scope) (hcl : F.cl = [(y, c)]) (hcc : F.c ≠ c) (hcell : ∀ h : Heap, h.get? c = some oc → h.IsCell c (some u)) (hrv : L2.RelV v u)
    {sp : Sp}
    (hsp : ∀ vs H Q E, sp vs H Q E → vs.length = ps.length ∧ H f = some (pinO f (PySem.W.kla_obj F.name F.qual F.params body F.scope F.cl pm F.c ctv)) ∧ H c = some (pinO c oc) ∧ H F.c = some (CodeO F.c F.qual) ∧
      ∃ t : TE, (∀ (A : Around) (outer : List Env) (s : Shared), Room k (A.deeper (envF F f s.heap.objs.size)) → PE (ncx CXN P w K mg base N F f A outer s (rmH H c) E) body t) ∧ t (startF N vs [some v]) (rmH H c) (fun v' H' => H' c = none → Q v' (upd H' c (pinO c oc)))) :
    FnOk P w K mg base CXN (k + 1) f (PySem.W.kla_fn F.name F.qual F.params body F.scope F.cl pm (.ref F.c) ctv) ps sp := by
  refine ⟨fun vs H Q E h => (hsp vs H Q E h).1, fun A outer s H args us vs Q E hr e0 hbt r h => ?_⟩
  obtain ⟨hl, hf, hc, hcd, t, ht, hq⟩ := hsp vs H Q E h
  have oc1 : s.heap.get? c = some oc := hok_tracked e0.hok hc
  have hcode : rmH H c F.c = some (CodeO F.c F.qual) := by rw [rmH_ne hcc]; exact hcd
  have C : CellsAt F.cl [y] [some v] s.heap (rmH H c) := by
    refine ⟨rfl, fun y1 c1 e1 => ?_, fun x1 y1 c1 e1 e2 => ?_, fun i y1 e1 => ?_⟩
    · rw [hcl] at e1
      have z : c1 = c := by
        by_cases k : y1 = y
        · subst k; simp [List.lookup] at e1; exact e1.symm
        · have k2 : (y1 == y) = false := by simpa using k
          simp [List.lookup, k2] at e1
      subst z
      exact ⟨rmH_same, _, hcell _ oc1⟩
    · rw [hcl] at e1 e2
      have one : ∀ z1, ([(y, c)] : List (Str × Addr)).lookup z1 = some c1 → z1 = y := fun z1 e => by
        by_cases k : z1 = y
        · exact k
        · have k2 : (z1 == y) = false := by simpa using k
          simp [List.lookup, k2] at e
      rw [one _ e1, one _ e2]
    · cases i with
      | zero =>
        cases e1
        refine ⟨c, by rw [hcl]; simp [List.lookup], fun v1 e2 => ?_⟩
        cases e2
        exact ⟨u, hrv, hcell _ oc1⟩
      | succ i => cases e1
  refine codeAny_mono (lam_run (CX := CXN) (Q := fun v' H' => H' c = none → Q v' (upd H' c (pinO c oc))) S hbt hl hr (env0_untrack e0 hc) (hok_tracked e0.hok hf) hcode C r (ht A outer s (hr.deeper _)) hq) fun res s' hz => ?_
  cases res with
  | error e => exact False.elim hz
  | ok fl =>
    cases fl with
    | ret u1 =>
      obtain ⟨v1, H1, h1, h2, h3, h4, h5, h6⟩ := hz
      have nc : c ∉ frs outer := fun z => by
        have := e0.frf c z
        rw [this] at hc
        cases hc
      have g1 : s'.heap.get? c = some oc := h3.keep c oc oc1 rmH_same nc (by simp)
      have g2 : H1 c = none := h3.free c oc oc1 rmH_same (by simp)
      exact ⟨v1, upd H1 c (pinO c oc), h1, h2, un_retrack h3 hc, hok_track h4 g2 g1, h5, h6 g2⟩
    | next => exact False.elim hz
    | brk => exact False.elim hz
    | cont => exact False.elim hz
end
end G

set_option Elab.async false
set_option linter.all false
set_option maxRecDepth 100000
set_option maxHeartbeats 4000000
/-! a world that owns some pinned things -/
namespace G
open PySem PySem.Spec PyProof.Rows L2 NdefX LamX
/-- W, and the things of l lie in the heap, owned by the world -/
def pinW {S : Type} (W : Wd S) (l : List (Addr × (Heap → Prop))) : Wd S where
  fp s a := W.fp s a ∨ ∃ p ∈ l, p.1 = a
  P s F H := W.P s F H ∧ ∀ p ∈ l, H p.1 = some (.ext p.2) ∧ ¬ W.fp s p.1
  loc s F H H' h e := ⟨W.loc s F H H' h.1 fun a q => e a (.inl q), fun p hp => ⟨by rw [e p.1 (.inr ⟨p, hp, rfl⟩)]; exact (h.2 p hp).1, (h.2 p hp).2⟩⟩
  mono s F F' H h e := ⟨W.mono s F F' H h.1 e, h.2⟩
  here s F H a h e := by
    rcases e with e | ⟨p, hp, rfl⟩
    · exact W.here s F H a h.1 e
    · rw [(h.2 p hp).1]; simp
theorem rel_pin {S : Type} {W : Wd S} {l : List (Addr × (Heap → Prop))} {s : S} {F H : Hp} (R : Rel (pinW W l) s F H) {a : Addr} {φ : Heap → Prop} (h : (a, φ) ∈ l) : H a = some (.ext φ) := (R.ok.2 _ h).1
end G

set_option Elab.async false
set_option linter.all false
set_option maxRecDepth 100000
set_option maxHeartbeats 4000000
/-! a call of what a name holds: a pinned function -/
namespace G
open PySem PySem.Spec PyProof.Rows L2 NdefX LamX
theorem g_callT {S : Type} {X : Cx} {W : Wd S} {k n i : Nat} {f0 : Addr} {o : Obj} {fd : FuncData} {ps : List Str} {m : MF S} {r : MA S} {l : List (Addr × (Heap → Prop))} {x : Str} {p pos : Pos} {e : Expr} {es : List Expr}
    (hl : (f0, fun h : Heap => h.get? f0 = some o) ∈ l) (F : FnOk X.prog X.w X.K X.mg X.base (fun _ _ _ _ _ _ => False) k f0 fd ps (spG X.K (pinW W l) n m))
    (hfa : ∀ h : Heap, h.get? f0 = some o → PySem.W.FnAt f0 h) (hb : ∀ (s : Shared) (us : List Value), s.heap.get? f0 = some o → us.length = ps.length → BindsTo s fd ⟨us, []⟩ (ps.zip us))
    (hr : Room k X.A) (ha : PA X (e :: es) (tGA X.K (pinW W l) r)) (hN : X.N[i]? = some x := by rfl)
    (hv : Vis X.env.scope x := by first | exact Or.inl rfl | exact Or.inr (Or.inl rfl) | exact Or.inr (Or.inr rfl)) (hdb : (x == ("__debug__" : Str)) = false := by decide) (hcd : (x == ("__classdict__" : Str)) = false := by decide)
    (he : starEach (e :: es) X.env = (false, eval e X.env) :: starEach es X.env := by rfl) (hpl : (backTo pos (starEach es X.env)).any (·.1) = false := by rfl) : PE X (.Call (.Name x p) (e :: es) [] pos) (tG X.K (pinW W l) (ME.callA i n (tblOf f0 m) r)) := by
  refine PE.imp (pe_callT (i := i) (o := o) F hr hN hv ha hfa hb hdb hcd he hpl) fun σ H Q ⟨Fz, δ, s, R, E, h⟩ => ?_
  obtain ⟨d, e1, h0⟩ := OQ.ex h
  obtain ⟨ad, e2, h00⟩ := OQ.ex h0
  obtain ⟨f, e3, h3⟩ := OQ.ex h00
  have ed : d = .ref ad := by
    unfold refD at e2
    split at e2
    · cases e2; rfl
    · cases e2
  subst ed
  have ef : ad = f0 ∧ f = m := by
    unfold tblOf at e3
    split at e3
    · rename_i z
      cases e3
      exact ⟨z, rfl⟩
    · cases e3
  obtain ⟨rfl, rfl⟩ := ef
  obtain ⟨v, h1, h2⟩ := slot_get E e1
  rw [isD_ref] at h2; subst h2
  refine ⟨h1, rel_pin R hl, Fz, δ, s, R, E, r.mono (fun ds s1 q => ?_) h3⟩
  intro F1 H1 vs R1 E1 d1
  exact ⟨rel_pin R1 hl, F1, s1, ds, R1, d1, q.1, f.mono (fun d s2 z => aft.ext E1 z) q.2⟩
end G

set_option Elab.async false
set_option linter.all false
set_option maxRecDepth 100000
set_option maxHeartbeats 4000000
/-! _law_tells for a pinned lambda (from KF's c__law_tells) -/
namespace G
open PySem PySem.Spec PyProof.Rows L2
section
variable {S : Type} {P : Program} {w : World} {K : PySem.W.Frag} {mg : Str → Option Value} {base : Heap} {W : Wd S}
theorem c__law_tellsT {k : Nat} {o : Obj} {fdl : FuncData} {l : List (Addr × (Heap → Prop))} {f0 : Addr} {pre : D → Prop} {p : D → Bool} (T : Txt K w mg) (hl : (f0, fun h : Heap => h.get? f0 = some o) ∈ l) (hfa : ∀ h : Heap, h.get? f0 = some o → PySem.W.FnAt f0 h) (hbl : ∀ (s : Shared) (us : List Value), s.heap.get? f0 = some o → us.length = 1 → BindsTo s fdl ⟨us, []⟩ ((["value"] : List Str).zip us)) (hf : FnOk P w K mg base (fun _ _ _ _ _ _ => False) k f0 fdl ["value"] (spG K (pinW W l) 1 (pf1 pre p : MF S))) : Cal P w K mg base (pinW W l) (k + 1) "_law_tells" 3 (tellsF f0 pre p : MF S) := by
  obtain ⟨fa, fd, F, hg, b⟩ := T.d__law_tells.ex
  refine cal_mk F hg b sc__law_tells rfl (fun cdv A outer s H E hr => (b_one (s_ret (g_and (g_eq hr.units (g_lc [("value", 3)] rfl sc__law_tells.nd (i_seq (g_var 1)) (blkOk_by (by kernel_rfl)) (fun _ _ _ _ _ => (gt_nm (i := 3) sc__law_tells.nd)) (fun _ _ _ _ _ => (pts1 (t_isNot (g_callT (i := 0) hl hf hfa hbl hr (a_cons (g_var 3) a_nil)) g_bl))) (fun _ _ _ _ _ => (g_var 3))) (g_lst a_nil)) (g_one (g_eq hr.units (g_lc [("value", 3)] rfl sc__law_tells.nd (i_seq (g_var 2)) (blkOk_by (by kernel_rfl)) (fun _ _ _ _ _ => (gt_nm (i := 3) sc__law_tells.nd)) (fun _ _ _ _ _ => (pts1 (t_isNot (g_callT (i := 0) hl hf hfa hbl hr (a_cons (g_var 3) a_nil)) g_bl))) (fun _ _ _ _ _ => (g_var 3))) (g_lst a_nil))))))) ?_
  intro ds s Q hl h
  obtain ⟨r, wr, rfl, h1, h2, h⟩ := h
  simp only [MS.ret, MS.retN, MS.ite, MS.seq, MS.nil, MS.drop, MS.set, MS.asg, MS.par, MS.par3, MS.no, MS.for, MS.aug, ME.var, ME.c, ME.op1, ME.op2, ME.of, ME.ite, ME.chain, MT.op2, MT.op1, MT.of, MT.and, MT.or, MT.not, MT.chain, MA.nil, MA.cons, ME.tup, ME.lst, ME.fn, ME.call, ME.lc, ME.sl, MO.no, MO.yes, MI.seq, MI.of, MI.ofA, ME.disp, ME.callA, ME.callR, ME.dc, ME.lc2, ME.sorted, List.map_cons, List.map_nil, List.cons_append, List.nil_append, List.append_nil, List.length_cons, List.length_nil, Nat.zero_add, Nat.reduceAdd, Nat.reduceSub, List.replicate_succ, List.replicate_zero, List.getD_cons_zero, List.getD_cons_succ, List.set_cons_zero, List.set_cons_succ, OQ_some, seqD, szD, refD, tblOf_self]
  intro hz
  have hr : ∀ b, eqD (.lst []) (.lst []) = some b → b = true := fun b e => by
    have : eqD (.lst []) (.lst []) = some true := by decide +kernel
    rw [this] at e; cases e; rfl
  have e0 : eqD (.lst []) (.lst []) = some true := by decide +kernel
  refine ⟨hz, lc_filter (p := fun d => !(p d == true)) (f := fun d => d) r (fun d hm => ⟨_, rfl, fun Q hq => ?_, fun hn Q hq => ?_⟩) ?_⟩
  · simp only [setT, List.map_cons, List.map_nil, List.cons_append, List.nil_append, List.append_nil, List.length_cons, List.length_nil, Nat.zero_add, Nat.reduceAdd, Nat.reduceSub, List.replicate_succ, List.replicate_zero, List.getD_cons_zero, List.getD_cons_succ, List.set_cons_zero, List.set_cons_succ, OQ_some, wipeD, refD, tblOf_self]
    exact ⟨trivial, (h1 d hm).1, hq⟩
  · rw [(h1 d hm).2] at hn; cases hn
  · rw [filter_nil fun d hm => by rw [(h1 d hm).2]; rfl]
    simp only [List.map_nil, e0, OQ_some, blD_bl, if_true]
    refine ⟨Nat.zero_le _, fun hz2 => ⟨hz2, ?_⟩⟩
    refine lc_filter (p := fun d => !(p d == false)) (f := fun d => d) wr (fun d hm => ⟨_, rfl, fun Q hq => ?_, fun hn Q hq => ?_⟩) ?_
    · simp only [setT, List.map_cons, List.map_nil, List.cons_append, List.nil_append, List.append_nil, List.length_cons, List.length_nil, Nat.zero_add, Nat.reduceAdd, Nat.reduceSub, List.replicate_succ, List.replicate_zero, List.getD_cons_zero, List.getD_cons_succ, List.set_cons_zero, List.set_cons_succ, OQ_some, wipeD, refD, tblOf_self]
      exact ⟨trivial, (h2 d hm).1, hq⟩
    · rw [(h2 d hm).2] at hn; cases hn
    · rw [filter_nil fun d hm => by rw [(h2 d hm).2]; rfl]
      simp only [List.map_nil, e0, OQ_some]
      exact ⟨Nat.zero_le _, h⟩
end
end G

set_option Elab.async false
set_option linter.all false
set_option maxRecDepth 100000
set_option maxHeartbeats 4000000
/-! into the pinned world -/
namespace G
open PySem PySem.Spec PyProof.Rows L2
section
variable {S : Type} {W : Wd S} {l : List (Addr × (Heap → Prop))} {s : S} {F H : Hp} {a : Addr} {φ : Heap → Prop}
theorem rel_pin0 (R : Rel W s F H) : Rel (pinW W []) s F H where
  sub := R.sub
  ap b h := by
    rcases h with h | ⟨p, hp, _⟩
    · exact R.ap b h
    · cases hp
  ok := ⟨R.ok, fun p hp => by cases hp⟩
theorem rel_pin1 (R : Rel (pinW W l) s F H) (n : H a = none) : Rel (pinW W ((a, φ) :: l)) s F (upd H a (.ext φ)) := by
  have ne : ∀ {b : Addr}, H b ≠ none → b ≠ a := fun {b} h z => by rw [z] at h; exact h n
  have fa : F a = none := by
    cases e : F a with
    | none => rfl
    | some u =>
      rcases R.sub a u e with q | ⟨_, o, q⟩ <;> rw [n] at q <;> cases q
  refine ⟨fun b u e => ?_, fun b h => ?_, ⟨W.loc s F H _ R.ok.1 fun b q => upd_ne (ne (W.here s F H b R.ok.1 q)), fun p hp => ?_⟩⟩
  · have z : b ≠ a := fun z => by rw [z, fa] at e; cases e
    rw [upd_ne z]
    exact R.sub b u e
  · rcases h with h | ⟨p, hp, rfl⟩
    · exact R.ap b (.inl h)
    · rcases List.mem_cons.mp hp with rfl | hp
      · exact fa
      · exact R.ap _ (.inr ⟨p, hp, rfl⟩)
  · rcases List.mem_cons.mp hp with rfl | hp
    · exact ⟨upd_same, fun z => W.here s F H _ R.ok.1 z n⟩
    · have q := R.ok.2 p hp
      rw [upd_ne (ne (by rw [q.1]; simp))]
      exact q
end
end G

set_option Elab.async false
set_option linter.all false
set_option maxRecDepth 100000
set_option maxHeartbeats 4000000
/-! out of the pinned world -/
namespace G
open PySem PySem.Spec PyProof.Rows L2
section
variable {S : Type} {W : Wd S} {l : List (Addr × (Heap → Prop))} {s s' : S} {F H F' H' : Hp} {a : Addr} {φ : Heap → Prop}
theorem rel_unpin0 (R : Rel (pinW W []) s F H) : Rel W s F H := ⟨R.sub, fun b h => R.ap b (.inl h), R.ok.1⟩
theorem rel_unpin1 (R : Rel (pinW W ((a, φ) :: l)) s F H) (nw : ∀ p ∈ l, p.1 ≠ a) : Rel (pinW W l) s F (rmH H a) := by
  have fa : F a = none := R.ap a (.inr ⟨_, List.mem_cons_self, rfl⟩)
  refine ⟨fun b u e => ?_, fun b h => ?_, ⟨W.loc s F H _ R.ok.1 fun b q => rmH_ne fun z => (R.ok.2 _ List.mem_cons_self).2 (z ▸ q), fun p hp => ?_⟩⟩
  · have z : b ≠ a := fun z => by rw [z, fa] at e; cases e
    rw [rmH_ne z]
    exact R.sub b u e
  · rcases h with h | ⟨p, hp, e⟩
    · exact R.ap b (.inl h)
    · exact R.ap b (.inr ⟨p, List.mem_cons_of_mem _ hp, e⟩)
  · rw [rmH_ne (nw p hp)]
    exact R.ok.2 p (List.mem_cons_of_mem _ hp)
theorem ext_unpin1 (E : Ext (pinW W ((a, φ) :: l)) s s' F (upd H a (.ext φ)) F' H') (n : H a = none) : Ext (pinW W l) s s' F H F' (rmH H' a) := by
  have ne : ∀ {b : Addr}, H b ≠ none → b ≠ a := fun {b} h z => by rw [z] at h; exact h n
  refine ⟨E.same, fun b o e k => ?_, fun b h => E.fresh b (by rw [upd_ne (ne h)]; exact h), fun b h => ?_, fun b h => ?_⟩
  · have z := ne (b := b) (by rw [e]; simp)
    rw [rmH_ne z]
    refine E.kept b o (by rw [upd_ne z]; exact e) fun q => ?_
    rcases q with q | ⟨p, hp, e2⟩
    · exact k (.inl q)
    · rcases List.mem_cons.mp hp with rfl | hp
      · exact z e2.symm
      · exact k (.inr ⟨p, hp, e2⟩)
  · have h2 : (pinW W ((a, φ) :: l)).fp s' b := by
      rcases h with h | ⟨p, hp, e⟩
      · exact .inl h
      · exact .inr ⟨p, List.mem_cons_of_mem _ hp, e⟩
    by_cases z : b = a
    · subst z; exact .inr n
    · rcases E.grow b h2 with q | q
      · rcases q with q | ⟨p, hp, e⟩
        · exact .inl (.inl q)
        · rcases List.mem_cons.mp hp with rfl | hp
          · exact absurd e.symm z
          · exact .inl (.inr ⟨p, hp, e⟩)
      · rw [upd_ne z] at q
        exact .inr q
  · rw [rmH_ne (ne h)]
    exact E.alive b (by rw [upd_ne (ne h)]; exact h)
end
end G

set_option Elab.async false
set_option linter.all false
set_option maxRecDepth 100000
set_option maxHeartbeats 4000000
/-! a world with a table of code objects; the frame rule -/
namespace G
open PySem PySem.Spec PyProof.Rows L2 NdefX LamX
section
variable {S : Type}
def tabW (W : Wd S) (P : Addr) (q : Str) : Wd (S × List Addr) where
  fp s a := W.fp s.1 a ∨ a = P ∨ a ∈ s.2
  P s F H := W.P s.1 F H ∧ ¬ W.fp s.1 P ∧ (∀ c ∈ s.2, ¬ W.fp s.1 c ∧ H c = some (CodeO c q)) ∧ ∃ ps : Array Value, H P = some (.tbl ps) ∧ TriplesOk ps.toList ∧ ∀ (pos : Pos) (cv : Value), codeAmong pos ps.toList = some cv → ∃ c ∈ s.2, cv = .ref c
  loc s F H H' h e := by
    obtain ⟨h1, h2, h3, ps, h4, h5, h6⟩ := h
    exact ⟨W.loc _ F H H' h1 fun a k => e a (.inl k), h2, fun c hc => ⟨(h3 c hc).1, by rw [e c (.inr (.inr hc))]; exact (h3 c hc).2⟩, ps, by rw [e P (.inr (.inl rfl))]; exact h4, h5, h6⟩
  mono s F F' H h e := ⟨W.mono _ F F' H h.1 e, h.2⟩
  here s F H a h e := by
    obtain ⟨h1, h2, h3, ps, h4, h5, h6⟩ := h
    rcases e with e | rfl | e
    · exact W.here _ F H a h1 e
    · rw [h4]; simp
    · rw [(h3 a e).2]; simp
theorem tabW_tab {W : Wd S} {P : Addr} {q : Str} {s : S × List Addr} {F H : Hp} (R : Rel (tabW W P q) s F H) : TabS H P q := by
  obtain ⟨h1, h2, h3, ps, h4, h5, h6⟩ := R.ok
  refine ⟨ps, h4, h5, fun pos cv e => ?_⟩
  obtain ⟨c, hc, z⟩ := h6 pos cv e
  exact ⟨c, z, (h3 c hc).2⟩
def liftF (f : MF S) : MF (S × List Addr) := ⟨fun ds s Q => f.run ds s.1 fun d s' => Q d (s', s.2), fun {ds s Q Q'} h => f.mono fun d s' => h d (s', s.2)⟩
theorem rel_untab {W : Wd S} {P : Addr} {q : Str} {s : S × List Addr} {F H : Hp} (R : Rel (tabW W P q) s F H) : Rel W s.1 F H := ⟨R.sub, fun a h => R.ap a (.inl h), R.ok.1⟩
theorem tab_after {W : Wd S} {P : Addr} {q : Str} {s : S × List Addr} {s1 : S} {F H F' H' : Hp} (R : Rel (tabW W P q) s F H) (R' : Rel W s1 F' H') (E : Ext W s.1 s1 F H F' H') : Rel (tabW W P q) (s1, s.2) F' H' ∧ Ext (tabW W P q) s (s1, s.2) F H F' H' := by
  obtain ⟨h1, h2, h3, ps, h4, h5, h6⟩ := R.ok
  have out : ∀ a, H a ≠ none → ¬ W.fp s.1 a → ¬ W.fp s1 a := fun a n k z => (E.grow a z).elim k n
  have nP : H P ≠ none := by rw [h4]; simp
  have nC : ∀ c ∈ s.2, H c ≠ none := fun c hc => by rw [(h3 c hc).2]; simp
  refine ⟨⟨R'.sub, fun a h => ?_, R'.ok, out P nP h2, fun c hc => ⟨out c (nC c hc) (h3 c hc).1, E.kept c _ (h3 c hc).2 (h3 c hc).1⟩, ps, E.kept P _ h4 h2, h5, h6⟩, E.same, fun a o e k => E.kept a o e fun z => k (.inl z), E.fresh, fun a h => ?_, E.alive⟩
  · rcases h with h | rfl | h
    · exact R'.ap a h
    · exact E.fresh _ nP (R.ap _ (.inr (.inl rfl)))
    · exact E.fresh _ (nC a h) (R.ap _ (.inr (.inr h)))
  · rcases h with h | rfl | h
    · exact (E.grow a h).imp .inl id
    · exact .inl (.inr (.inl rfl))
    · exact .inl (.inr (.inr h))
/-- THE FRAME RULE -/
theorem cal_frame {P0 : Program} {w : World} {K : PySem.W.Frag} {mg : Str → Option Value} {base : Heap} {W : Wd S} {k n : Nat} {x : Str} {f : MF S} {P : Addr} {q : Str} (c : Cal P0 w K mg base W k x n f) : Cal P0 w K mg base (tabW W P q) k x n (liftF f) := by
  obtain ⟨fa, fd, ps, h1, h2, h3, h4⟩ := c.ex
  refine ⟨fa, fd, ps, h1.imp fun vs H Q E h => ?_, h2, h3, h4⟩
  obtain ⟨F, s, ds, R, hd, hl, hf⟩ := h
  refine ⟨F, s.1, ds, rel_untab R, hd, hl, f.mono (fun d s1 z => ?_) hf⟩
  intro F' H' v R' E' d'
  obtain ⟨a, b⟩ := tab_after R R' E'
  exact z F' H' v a b d'
end
end G

set_option Elab.async false
set_option linter.all false
set_option maxRecDepth 100000
set_option maxHeartbeats 4000000
namespace G
open PySem PySem.Spec PyProof.Rows L2
def drawT : MF (Dr × List Addr) := ⟨fun ds s Q => ∃ a xs L, ds = [.ref a] ∧ s = (some (a, xs), L) ∧ ∀ xs' L', Q (.bl true) (some (a, xs'), L'), fun h ⟨a, xs, L, e1, e2, q⟩ => ⟨a, xs, L, e1, e2, fun xs' L' => h _ _ (q xs' L')⟩⟩
def lawT : MF (Dr × List Addr) := ⟨fun ds s Q => ∃ (ns : List Int) (L : List Addr), ds = [.lst (ns.map D.int)] ∧ ns.length ≤ 100 ∧ s = (none, L) ∧ ∀ s', Q (.bl true) s', fun h ⟨ns, L, e1, e2, e3, q⟩ => ⟨ns, L, e1, e2, e3, fun s' => h _ _ (q s')⟩⟩
theorem drT_true {a : Addr} {xs : List Int} {L : List Addr} {Q : D → Dr × List Addr → Prop} (h : ∀ xs' L', Q (.bl true) (some (a, xs'), L')) : drawT.run [.ref a] (some (a, xs), L) Q := ⟨a, xs, L, rfl, rfl, h⟩
theorem drL_true {a : Addr} {xs : List Int} {L : List Addr} {Q : D → Dr × List Addr → Prop} (h : ∀ xs', Q (.bl true) (some (a, xs'), L)) : (liftF (drawF isTrueD)).run [.ref a] (some (a, xs), L) Q := dr_true (Q := fun d s' => Q d (s', L)) h
section
variable {S : Type} {P : Program} {w : World} {K : PySem.W.Frag} {mg : Str → Option Value} {base : Heap} {W : Wd S}
theorem c_lawT {PT : Addr} {qT : Str} (T : Txt K w mg) (R : Cal P w K mg base (tabW WD PT qT) 39 "_law_are_rows_due" 1 drawT) : Cal P w K mg base (tabW WD PT qT) 40 "law" 1 lawT := by
  obtain ⟨fa, fd, F, hg, b⟩ := T.d_law.ex
  refine cal_mk F hg b sc_law rfl (fun cdv A outer s H E hr => (b_cons (s_set (i := 1) sc_law.nd (g_call (cal_frame (c__law_draws T)) hr (by decide) (a_cons (g_var 0) a_nil))) (b_cons (s_for .never rfl (i_rng T.b.range (a_cons g_int a_nil)) (gt_nm (i := 2) sc_law.nd) (b_one (s_ite (PW.pt (w_or (t_not (t_of (g_call (cal_frame (c__law_are_calls_due T)) hr (by decide) (a_cons (g_var 1) a_nil)))) (w_or (t_not (t_of (g_call (cal_frame (c__law_are_threads_due T)) hr (by decide) (a_cons (g_var 1) a_nil)))) (w_or (t_not (t_of (g_call R hr (by decide) (a_cons (g_var 1) a_nil)))) (w_or1 (t_not (t_of (g_call (cal_frame (c__law_are_programs_due T)) hr (by decide) (a_cons (g_var 1) a_nil))))))))) (b_one (s_ret g_bl)) b_nil))) (b_one (s_ret g_bl))))) ?_
  intro ds s Q hl h
  obtain ⟨ns, L0, rfl, hlen, rfl, h⟩ := h
  simp only [List.map_cons, List.map_nil, List.cons_append, List.nil_append, List.append_nil, List.length_cons, List.length_nil, Nat.zero_add, Nat.reduceAdd, Nat.reduceSub, List.replicate_succ, List.replicate_zero, List.getD_cons_zero, List.getD_cons_succ, List.set_cons_zero, List.set_cons_succ, OQ_some]
  refine seq_run (fun δ' s' => ∃ (p : Addr) (xs : List Int) (L : List Addr), δ' = [some (.lst (ns.map D.int)), some (.ref p), none] ∧ s' = (some (p, xs), L)) (fun E' hn => ?_) (fun δ' s' hP => ?_)
  · simp only [MS.ret, MS.retN, MS.ite, MS.seq, MS.nil, MS.drop, MS.set, MS.asg, MS.par, MS.par3, MS.no, MS.for, MS.aug, ME.var, ME.c, ME.op1, ME.op2, ME.of, ME.ite, ME.chain, MT.op2, MT.op1, MT.of, MT.and, MT.or, MT.not, MT.chain, MA.nil, MA.cons, ME.tup, ME.lst, ME.fn, ME.call, ME.lc, ME.sl, MO.no, MO.yes, MI.seq, MI.of, MI.ofA, ME.disp, ME.callA, ME.callR, ME.dc, ME.lc2, ME.sorted, List.map_cons, List.map_nil, List.cons_append, List.nil_append, List.append_nil, List.length_cons, List.length_nil, Nat.zero_add, Nat.reduceAdd, Nat.reduceSub, List.replicate_succ, List.replicate_zero, List.getD_cons_zero, List.getD_cons_succ, List.set_cons_zero, List.set_cons_succ, OQ_some]
    exact ⟨trivial, ns, rfl, hlen, rfl, fun p xs => hn _ _ ⟨p, xs, _, rfl, rfl⟩⟩
  obtain ⟨p, xs, L1, rfl, rfl⟩ := hP
  refine seq_run (fun δ' s' => True) (fun E' hn => ?_) (fun δ' s' _ => ?_)
  · refine for_rng 4 (fun j δ s => ∃ (xs : List Int) (o2 : Option D) (L : List Addr), δ = [some (.lst (ns.map D.int)), some (.ref p), o2] ∧ s = (some (p, xs), L)) (fun _ => rfl) (by decide) ⟨xs, _, _, rfl, rfl⟩ (fun j kk δ s E4 hj hI hn4 => ?_) (fun δ s _ => hn _ _ trivial)
    obtain ⟨xs, o2, L2, rfl, rfl⟩ := hI
    refine OQ_set ?_
    simp only [MS.ret, MS.retN, MS.ite, MS.seq, MS.nil, MS.drop, MS.set, MS.asg, MS.par, MS.par3, MS.no, MS.for, MS.aug, ME.var, ME.c, ME.op1, ME.op2, ME.of, ME.ite, ME.chain, MT.op2, MT.op1, MT.of, MT.and, MT.or, MT.not, MT.chain, MA.nil, MA.cons, ME.tup, ME.lst, ME.fn, ME.call, ME.lc, ME.sl, MO.no, MO.yes, MI.seq, MI.of, MI.ofA, ME.disp, ME.callA, ME.callR, ME.dc, ME.lc2, ME.sorted, List.map_cons, List.map_nil, List.cons_append, List.nil_append, List.append_nil, List.length_cons, List.length_nil, Nat.zero_add, Nat.reduceAdd, Nat.reduceSub, List.replicate_succ, List.replicate_zero, List.getD_cons_zero, List.getD_cons_succ, List.set_cons_zero, List.set_cons_succ, OQ_some]
    refine ⟨trivial, drL_true fun xs1 => ?_⟩
    simp only [blD_bl, OQ_some, Bool.not_true, if_false, Bool.false_eq_true]
    refine ⟨trivial, drL_true fun xs2 => ?_⟩
    simp only [blD_bl, OQ_some, Bool.not_true, if_false, Bool.false_eq_true]
    refine ⟨trivial, drT_true fun xs3 L3 => ?_⟩
    simp only [blD_bl, OQ_some, Bool.not_true, if_false, Bool.false_eq_true]
    refine ⟨trivial, drL_true fun xs4 => ?_⟩
    simp only [blD_bl, OQ_some, Bool.not_true, if_false, Bool.false_eq_true]
    exact hn4 _ _ ⟨_, _, _, rfl, rfl⟩
  · exact h _
end
end G

set_option Elab.async false
set_option linter.all false
set_option maxRecDepth 100000
set_option maxHeartbeats 4000000
/-! a lambda is made at a world with its table; a world that knows a fact of what is frozen; things that lie there already are pinned -/
namespace G
open PySem PySem.Spec PyProof.Rows L2 NdefX LamX
section
variable {X : Cx} {pins : List (Addr × Obj)} {σ : L2.St} {H : Hp} {s : Shared}
/-- what the heap is behind the making: nothing new but the function, or a new code object c' and its table's entry -/
def LamH (P : Addr) (q : Str) (ps : Array Value) (L : List Addr) (pos : Pos) (H : Hp) (c' : Addr) (H1 : Hp) : Prop :=
  (H1 = H ∧ c' ∈ L) ∨ (H c' = none ∧ H1 = upd (upd H P (.tbl (ps ++ #[rawInt pos.line, rawInt pos.col, .ref c']))) c' (CodeO c' q))
theorem lam_new {c P : Addr} {L : List Addr} {ps : Array Value} {params : Arguments} {body : Expr} {scope : Scope} {pos : Pos} {E : Value → Shared → Prop} {Q : Value → Shared → Prop}
    (I : Inv X pins σ H s) (TB : TabB X.base X.mg c P) (hcode : X.env.code = .ref c) (hP : H P = some (.tbl ps)) (ht : TriplesOk ps.toList)
    (ha : ∀ (p : Pos) (cv : Value), codeAmong p ps.toList = some cv → ∃ c0 ∈ L, cv = .ref c0) (hdef : defaultsOf params X.env = ([], [])) (hfree : ∀ y ∈ scope.names, y.2 = .free → ∃ c, X.env.cells.lookup y.1 = some c)
    (k : ∀ (f c' : Addr) (pm ctv : Value) (H1 : Hp) (s1 : Shared), Inv X pins σ H1 s1 → LamH P (X.env.qual ++ "<lambda>") ps L pos H c' H1 →
      s1.heap.get? f = some (PySem.W.kla_obj "<lambda>" (X.env.qual ++ "<lambda>") params body scope (cloFrom X.env.cells scope.names []) pm c' ctv) → H1 f = none → s.heap.objs.size ≤ f → Q (.ref f) s1) :
    wpAny (model X.prog X.w) X.A (eval (.Lambda params body scope pos) X.env) Q E s := by
  have gk := I.mod.glob.keeps I.bk
  have ck := TB.code.keeps I.bk
  have bk2 := TB.bm.keeps I.bk
  have at_ : s.heap.get? P = some { cls := .none, data := .fields ps } := I.hok P _ hP
  apply PySem.W.kla_eval hdef
  rcases em : codeAmong pos ps.toList with _ | cv
  · apply PySem.W.kla_makeFunction (closure_ok hfree) I.ok.glob gk hcode ck at_ ht em TB.gP bk2
    intro c1 ct h1 t1 ex ge lt rec tb
    obtain ⟨c2, oc, vs, tq, z, r1, r2, r3⟩ := rec
    cases z
    have J := inv_table (q := X.env.qual ++ "<lambda>") (t' := t1) (more := #[rawInt pos.line, rawInt pos.col, .ref c1])
      (h' := h1.push (PySem.W.kla_obj "<lambda>" (X.env.qual ++ "<lambda>") params body scope (cloFrom X.env.cells scope.names []) ((X.mg "__name__").getD .none) c1 ct))
      I hP (fun b o nb e => Heap.get?_push_of_some _ (ex b o nb e)) (Heap.get?_push_of_some _ tb) ge ⟨oc, vs, tq, Heap.get?_push_of_some _ r1, r2, r3⟩
    have sz : s.heap.objs.size ≤ h1.objs.size := Nat.le_trans ge (Nat.le_of_lt lt)
    refine k h1.objs.size c1 _ ct _ _ J (.inr ⟨I.hok.fresh ge, rfl⟩) (Heap.get?_push_size _ rfl) ?_ sz
    have n1 : h1.objs.size ≠ c1 := fun z => Nat.lt_irrefl _ (z ▸ lt)
    have n2 : h1.objs.size ≠ P := fun z => Nat.lt_irrefl _ (Nat.lt_of_lt_of_le (Heap.lt_size at_) (z ▸ sz))
    rw [upd_ne n1, upd_ne n2]
    exact I.hok.fresh sz
  · obtain ⟨c1, m, rfl⟩ := ha pos cv em
    apply PySem.W.kla_makeFunctionHit (closure_ok hfree) I.ok.glob gk hcode ck at_ ht em bk2
    intro ct h1 t1 ex sz
    have J : Inv X pins σ H { s with heap := h1.push (PySem.W.kla_obj "<lambda>" (X.env.qual ++ "<lambda>") params body scope (cloFrom X.env.cells scope.names []) ((X.mg "__name__").getD .none) c1 ct), toks := t1 } :=
      I.kept fun b o e => Heap.get?_push_of_some _ (ex b o e)
    exact k h1.objs.size c1 _ ct H _ J (.inl ⟨rfl, m⟩) (Heap.get?_push_size _ rfl) (I.hok.fresh sz) sz
end
section
variable {S : Type} {W : Wd S} {P : Addr} {q : Str} {st : S × List Addr} {F H H1 : Hp}
theorem tabW_made {pos : Pos} {c' : Addr} {ps : Array Value} (R : Rel (tabW W P q) st F H) (hP : H P = some (.tbl ps)) (e : LamH P q ps st.2 pos H c' H1) :
    ∃ L, c' ∈ L ∧ Rel (tabW W P q) (st.1, L) F H1 ∧ Ext (tabW W P q) st (st.1, L) F H F H1 := by
  rcases e with ⟨rfl, m⟩ | ⟨n, rfl⟩
  · exact ⟨st.2, m, R, .refl⟩
  obtain ⟨h1, h2, h3, ps', h4, h5, h6⟩ := R.ok
  rw [hP] at h4
  cases h4
  have nP : P ≠ c' := ne_of_none hP n
  have old : ∀ {a : Addr}, a ≠ P → H a ≠ none → upd (upd H P (.tbl (ps ++ #[rawInt pos.line, rawInt pos.col, .ref c']))) c' (CodeO c' q) a = H a := fun {a} x y => by
    rw [upd_ne (show a ≠ c' from fun z => y (by rw [z]; exact n)), upd_ne x]
  have cP : ∀ c0 ∈ st.2, c0 ≠ P := fun c0 m z => by
    have := (h3 c0 m).2
    rw [z, hP] at this
    cases this
  have live : ∀ c0 ∈ st.2, H c0 ≠ none := fun c0 m z => by rw [(h3 c0 m).2] at z; cases z
  have fpo : ∀ a, W.fp st.1 a → a ≠ P ∧ H a ≠ none := fun a x => ⟨fun z => h2 (z ▸ x), W.here _ F H a h1 x⟩
  have snoc : (ps ++ #[rawInt pos.line, rawInt pos.col, .ref c']).toList = ps.toList ++ [rawInt pos.line, rawInt pos.col, .ref c'] := by simp
  refine ⟨c' :: st.2, List.mem_cons_self, ⟨fun a u e => ?_, fun a x => ?_, W.loc _ F H _ h1 fun a x => old (fpo a x).1 (fpo a x).2, h2, fun c0 m => ?_, _, by rw [upd_ne nP, upd_same], ?_, fun p cv e => ?_⟩, fun _ _ x => x, fun a o e x => ?_, fun _ _ x => x, fun a x => ?_, fun a x => ?_⟩
  · have zP : a ≠ P := fun z => by
      have := R.ap P (.inr (.inl rfl))
      rw [z, this] at e
      cases e
    have zL : H a ≠ none := by
      rcases R.sub a u e with x | ⟨_, o, x⟩ <;> rw [x] <;> simp
    rw [old zP zL]
    exact R.sub a u e
  · rcases x with x | x | x
    · exact R.ap a (.inl x)
    · exact R.ap a (.inr (.inl x))
    · rcases List.mem_cons.mp x with rfl | x
      · exact R.sub.none n
      · exact R.ap a (.inr (.inr x))
  · rcases List.mem_cons.mp m with rfl | m
    · exact ⟨R.nfp n ∘ .inl, upd_same⟩
    · rw [old (cP c0 m) (live c0 m)]
      exact h3 c0 m
  · rw [snoc]
    exact PySem.TriplesOk_snoc _ _ _ _ h5
  · rw [snoc] at e
    rcases among_app _ h5 e with x | x
    · obtain ⟨c0, m, z⟩ := h6 p cv x
      exact ⟨c0, List.mem_cons_of_mem _ m, z⟩
    · exact ⟨c', List.mem_cons_self, x⟩
  · rw [old (fun z => x (.inr (.inl z))) (by rw [e]; simp)]
    exact e
  · rcases x with x | x | x
    · exact .inl (.inl x)
    · exact .inl (.inr (.inl x))
    · rcases List.mem_cons.mp x with rfl | x
      · exact .inr n
      · exact .inl (.inr (.inr x))
  · by_cases z : a = c'
    · rw [z, upd_same]; simp
    · by_cases z2 : a = P
      · rw [z2, upd_ne nP, upd_same]; simp
      · rw [old z2 x]; exact x
/-- W, and a fact of what is frozen -/
def factW (W : Wd S) (φ : Hp → Prop) (m : ∀ F F', φ F → Same F F' → φ F') : Wd S where
  fp := W.fp
  P s F H := W.P s F H ∧ φ F
  loc s F H H' h e := ⟨W.loc s F H H' h.1 e, h.2⟩
  mono s F F' H h e := ⟨W.mono s F F' H h.1 e, m F F' h.2 e⟩
  here s F H a h e := W.here s F H a h.1 e
variable {φ : Hp → Prop} {m : ∀ F F', φ F → Same F F' → φ F'} {s s' : S} {F' H' : Hp}
theorem rel_fact (R : Rel W s F H) (h : φ F) : Rel (factW W φ m) s F H := ⟨R.sub, R.ap, R.ok, h⟩
theorem rel_unfact (R : Rel (factW W φ m) s F H) : Rel W s F H := ⟨R.sub, R.ap, R.ok.1⟩
theorem ext_unfact (E : Ext (factW W φ m) s s' F H F' H') : Ext W s s' F H F' H' := ⟨E.same, E.kept, E.fresh, E.grow, E.alive⟩
variable {l : List (Addr × (Heap → Prop))} {a : Addr} {ψ : Heap → Prop}
/-- a thing that lies there already is pinned -/
theorem rel_have (R : Rel (pinW W l) s F H) (h : H a = some (.ext ψ)) (n : ¬ W.fp s a) (f : F a = none) : Rel (pinW W ((a, ψ) :: l)) s F H where
  sub := R.sub
  ap b x := by
    rcases x with x | ⟨p, hp, rfl⟩
    · exact R.ap b (.inl x)
    · rcases List.mem_cons.mp hp with rfl | hp
      · exact f
      · exact R.ap _ (.inr ⟨p, hp, rfl⟩)
  ok := ⟨R.ok.1, fun p hp => by
    rcases List.mem_cons.mp hp with rfl | hp
    · exact ⟨h, n⟩
    · exact R.ok.2 p hp⟩
theorem rel_unhave (R : Rel (pinW W ((a, ψ) :: l)) s F H) : Rel (pinW W l) s F H where
  sub := R.sub
  ap b x := by
    rcases x with x | ⟨p, hp, e⟩
    · exact R.ap b (.inl x)
    · exact R.ap b (.inr ⟨p, List.mem_cons_of_mem _ hp, e⟩)
  ok := ⟨R.ok.1, fun p hp => R.ok.2 p (List.mem_cons_of_mem _ hp)⟩
theorem ext_unhave (E : Ext (pinW W ((a, ψ) :: l)) s s' F H F' H') (h : H a = some (.ext ψ)) (R' : Rel (pinW W ((a, ψ) :: l)) s' F' H') (nw : ∀ p ∈ l, p.1 ≠ a) : Ext (pinW W l) s s' F H F' H' where
  same := E.same
  kept b o e k := by
    by_cases z : b = a
    · subst z
      rw [h] at e
      cases e
      exact rel_pin R' List.mem_cons_self
    · refine E.kept b o e fun x => ?_
      rcases x with x | ⟨p, hp, e2⟩
      · exact k (.inl x)
      · rcases List.mem_cons.mp hp with rfl | hp
        · exact z e2.symm
        · exact k (.inr ⟨p, hp, e2⟩)
  fresh := E.fresh
  grow b x := by
    have up : (pinW W ((a, ψ) :: l)).fp s' b := by
      rcases x with x | ⟨p, hp, e⟩
      · exact .inl x
      · exact .inr ⟨p, List.mem_cons_of_mem _ hp, e⟩
    rcases E.grow b up with y | y
    · rcases y with y | ⟨p, hp, rfl⟩
      · exact .inl (.inl y)
      · rcases List.mem_cons.mp hp with rfl | hp
        · rcases x with x | ⟨p2, hp2, e⟩
          · exact absurd x (R'.ok.2 _ List.mem_cons_self).2
          · exact absurd e (nw p2 hp2)
        · exact .inl (.inr ⟨p, hp, rfl⟩)
    · exact .inr y
  alive := E.alive
end
end G

set_option Elab.async false
set_option linter.all false
set_option maxRecDepth 100000
set_option maxHeartbeats 4000000
/-! _law_tells(lambda value: .. row .., good, bent) -/
namespace G
open PySem PySem.Spec PyProof.Rows L2 NdefX LamX
section
variable {S : Type} {W : Wd S} {s s' : S} {F H F' H' : Hp}
theorem ext_unpin0 (E : Ext (pinW W []) s s' F H F' H') : Ext W s s' F H F' H' where
  same := E.same
  kept b o e k := E.kept b o e fun x => by
    rcases x with x | ⟨p, hp, _⟩
    · exact k x
    · cases hp
  fresh := E.fresh
  grow b x := by
    rcases E.grow b (.inl x) with y | y
    · rcases y with y | ⟨p, hp, _⟩
      · exact .inl y
      · cases hp
    · exact .inr y
  alive := E.alive
/-- behind the lambda's body: the cell is pinned again -/
theorem body_after {l : List (Addr × (Heap → Prop))} {c : Addr} {ψ : Heap → Prop} (R : Rel (pinW W ((c, ψ) :: l)) s F H) (R' : Rel W s' F' H') (E : Ext W s s' F (rmH H c) F' H') (n : H' c = none) (nw : ∀ p ∈ l, p.1 ≠ c) :
    Rel (pinW W ((c, ψ) :: l)) s' F' (upd H' c (.ext ψ)) ∧ Ext (pinW W ((c, ψ) :: l)) s s' F H F' (upd H' c (.ext ψ)) := by
  have hc : H c = some (.ext ψ) := rel_pin R List.mem_cons_self
  have wc : ¬ W.fp s c := (R.ok.2 _ List.mem_cons_self).2
  have out : ∀ a, H a ≠ none → ¬ W.fp s a → ¬ W.fp s' a := fun a x y z => by
    rcases E.grow a z with k | k
    · exact y k
    · by_cases q : a = c
      · rw [q] at z
        exact W.here _ _ _ _ R'.ok z n
      · rw [rmH_ne q] at k
        exact x k
  have at_ : ∀ p ∈ l, H' p.1 = some (.ext p.2) ∧ ¬ W.fp s' p.1 ∧ F' p.1 = none := fun p hp => by
    have h1 := R.ok.2 p (List.mem_cons_of_mem _ hp)
    have h2 : rmH H c p.1 = some (.ext p.2) := by rw [rmH_ne (nw p hp)]; exact h1.1
    refine ⟨E.kept _ _ h2 h1.2, out _ (by rw [h1.1]; simp) h1.2, E.fresh _ (by rw [h2]; simp) (R.ap _ (.inr ⟨p, List.mem_cons_of_mem _ hp, rfl⟩))⟩
  have R1 : Rel (pinW W l) s' F' H' := by
    refine ⟨R'.sub, fun a x => ?_, R'.ok, fun p hp => ⟨(at_ p hp).1, (at_ p hp).2.1⟩⟩
    rcases x with x | ⟨p, hp, rfl⟩
    · exact R'.ap a x
    · exact (at_ p hp).2.2
  refine ⟨rel_pin1 R1 n, E.same, fun a o e k => ?_, fun a x y => ?_, fun a x => ?_, fun a x => ?_⟩
  · have z : a ≠ c := fun z => k (.inr ⟨_, List.mem_cons_self, z.symm⟩)
    rw [upd_ne z]
    exact E.kept a o (by rw [rmH_ne z]; exact e) fun w => k (.inl w)
  · by_cases z : a = c
    · rw [z]
      exact R'.sub.none n
    · exact E.fresh a (by rw [rmH_ne z]; exact x) y
  · rcases x with x | x
    · rcases E.grow a x with k | k
      · exact .inl (.inl k)
      · by_cases z : a = c
        · exact .inl (.inr ⟨_, List.mem_cons_self, z.symm⟩)
        · rw [rmH_ne z] at k
          exact .inr k
    · exact .inl (.inr x)
  · by_cases z : a = c
    · rw [z, upd_same]; simp
    · rw [upd_ne z]
      exact E.alive a (by rw [rmH_ne z]; exact x)
end
def ME.lam {S : Type} (ir ig ib : Nat) (pre : D → D → Prop) (p : D → D → Bool) : ME (S × List Addr) :=
  ⟨fun δ s Q => ∃ dr r wr, δ.getD ir none = some dr ∧ δ.getD ig none = some (.lst r) ∧ δ.getD ib none = some (.lst wr) ∧ (∀ d ∈ r, pre dr d ∧ p dr d = true) ∧ (∀ d ∈ wr, pre dr d ∧ p dr d = false) ∧ ∀ L, Q (.bl true) (s.1, L),
   fun h ⟨dr, r, wr, a, b, c, d, e, q⟩ => ⟨dr, r, wr, a, b, c, d, e, fun L => h _ _ (q L)⟩⟩
section
variable {S : Type} {W : Wd S} {X : Cx} {c P : Addr} {q n1 n2 y : Str} {ir ig ib : Nat} {params : Arguments} {body : Expr} {scope : Scope} {lpos pn pos p1 p2 : Pos} {pre : D → D → Prop} {p : D → D → Bool} {mb : ME S}
theorem g_lam (T : Txt X.K X.w X.mg) (TB : TabB X.base X.mg c P) (hcode : X.env.code = .ref c) (hq : X.env.qual ++ "<lambda>" = q) (hr : Room 10 X.A)
    (hcell : X.env.scope.names.lookup y = some .cell) (hfn : X.fn y = true) (hN : X.N[ir]? = some y) (hdef : defaultsOf params X.env = ([], []))
    (Sc : NScope ["value", y] ["value"] [y] scope) (hfree : ∀ z ∈ scope.names, z.2 = .free → z.1 = y)
    (hclo : ∀ (cells : List (Str × Addr)) (c0 : Addr), cells.lookup y = some c0 → cloFrom cells scope.names [] = [(y, c0)])
    (hbind : ∀ (q : Str) (cl : List (Str × Addr)) (pm cv ctv : Value) (us : List Value), us.length = 1 → bindArgs (PySem.W.kla_fn "<lambda>" q params body scope cl pm cv ctv) ⟨us, []⟩ = pure ((["value"] : List Str).zip us))
    (hbody : ∀ (W' : Wd S) (N : NF) (f : Addr) (A : Around) (outer : List Env) (s : Shared) (H : Hp) (E : XK), N.scope = scope → Room 8 (A.deeper (envF N f s.heap.objs.size)) → PE (ncx CXN X.prog X.w X.K X.mg X.base ["value", y] N f A outer s H E) body (tG X.K W' mb))
    (hmb : ∀ dr d (s : S) (Q : D → S → Prop), pre dr d → Q (.bl (p dr d)) s → mb.run [some d, some dr] s Q)
    (ha : PA X [.Name n1 p1, .Name n2 p2] (tGA X.K (tabW W P q) (MA.cons (ME.var ig) (MA.cons (ME.var ib) MA.nil))))
    (hg : Gl X "_law_tells" := by rfl) (he : starEach [.Lambda params body scope lpos, .Name n1 p1, .Name n2 p2] X.env = (false, eval (.Lambda params body scope lpos) X.env) :: starEach [.Name n1 p1, .Name n2 p2] X.env := by rfl)
    (hpl : (backTo pos (starEach [.Name n1 p1, .Name n2 p2] X.env)).any (·.1) = false := by rfl) :
    PE X (.Call (.Name "_law_tells" pn) [.Lambda params body scope lpos, .Name n1 p1, .Name n2 p2] [] pos) (tG X.K (tabW W P q) (ME.lam ir ig ib pre p)) := by
  subst hq
  obtain ⟨fa, fd, Fn, hm, _⟩ := T.d__law_tells.ex
  refine ⟨fun pins s σ H Q I h => ?_⟩
  obtain ⟨F, δ, st, R, E, dr, r, wr, e1, e2, e3, hgd, hbd, hQ⟩ := h
  obtain ⟨ps, hP, ht, hall⟩ := R.ok.2.2.2
  obtain ⟨v, hσ, dv⟩ := slot_get E e1
  obtain ⟨cr, hcr⟩ := I.ok.has y (.inl hcell)
  have fr : ∀ z ∈ scope.names, z.2 = .free → ∃ c, X.env.cells.lookup z.1 = some c := fun z hz e => ⟨cr, by rw [hfree z hz e]; exact hcr⟩
  refine wpAny_Call_Name_kw (ld_glob I hg hm ?_ (by decide))
  refine PySem.W.callWith_K (h₀ := X.base) I.ok.mod.kin Fn.kp ?_ he hpl
  rw [he]
  show wpAny _ _ (spliced ((false, eval (.Lambda params body scope lpos) X.env) :: backTo pos (starEach [.Name n1 p1, .Name n2 p2] X.env))) _ _ s
  refine Calls.spliced_cons (lam_new I TB hcode hP ht hall hdef fr fun f c' pm ctv H1 s1 I1 eL of1 f1 szf => ?_)
  obtain ⟨L, mL, R1, E1⟩ := tabW_made R hP eL
  rw [hclo _ _ hcr] at of1
  have nfl : f ≠ X.env.locals := fun z => Nat.lt_irrefl _ (Nat.lt_of_lt_of_le I.lt (z ▸ szf))
  have nfs : f ∉ X.fs := I.nofs szf
  have Ip : Inv X ((f, PySem.W.kla_obj "<lambda>" (X.env.qual ++ "<lambda>") params body scope [(y, cr)] pm c' ctv) :: pins) σ H1 s1 := I1.pins_of fun z hz => by
    rcases List.mem_cons.mp hz with rfl | hz
    · exact ⟨of1, f1, nfl, nfs, fun v z => by cases z⟩
    · exact I1.pin z (List.mem_append_right _ hz)
  refine thn (ha.run pos _ s1 σ H1 (fun vs H2 => ∃ F2, Rel (tabW W P (X.env.qual ++ "<lambda>")) (st.1, L) F2 H2 ∧ Ext (tabW W P (X.env.qual ++ "<lambda>")) (st.1, L) (st.1, L) F H1 F2 H2 ∧ IsDs X.K F2 [.lst r, .lst wr] vs) Ip ⟨F, δ, (st.1, L), R1, E, ?_⟩) fun us s2 ⟨vs, H2, I2, rv, F2, R2, E2, d2⟩ => ?_
  · show OQ (δ.getD ig none) _
    rw [e2]
    show OQ (δ.getD ib none) _
    rw [e3]
    exact fun F2 H2 vs R2 E2 d2 => ⟨F2, R2, E2, d2⟩
  refine ⟨I2.kIn, ?_⟩
  obtain ⟨of2, f2, _⟩ := I2.pin (f, _) (List.mem_append_right _ List.mem_cons_self)
  dsimp only at of2 f2
  have I3 : Inv X pins σ H2 s2 := I2.pins_of fun z hz => I2.pin z (List.mem_append_right _ (List.mem_cons_of_mem _ hz))
  obtain ⟨m, hn, hl⟩ := I3.loc
  obtain ⟨u, ru, lk⟩ := hl ir y v hN hσ (.inr (.inl hcell))
  have isC : s2.heap.IsCell cr (some u) := by
    rcases lk with ⟨k, _⟩ | ⟨_, c3, e', z⟩
    · have k : X.env.scope.names.lookup y = some .local := k
      rw [hcell] at k; cases k
    · rw [hcr] at e'; cases e'; exact z
  obtain ⟨oc, oc2, ocd⟩ := isC
  have ncr : H2 cr = none := I3.freeC _ _ hcr
  have fcr : f ≠ cr := fun z => by
    obtain ⟨v0, o0, ho0, _⟩ := I.cell y cr hcr
    exact Nat.lt_irrefl _ (Nat.lt_of_lt_of_le (Heap.lt_size ho0) (z ▸ szf))
  have dv2 : IsD X.K F2 dr v := dv.same (E1.same.trans E2.same)
  have code2 := R2.ok.2.2.1 c' mL
  have Fc' : F2 c' = none := R2.ap c' (.inr (.inr mL))
  let φ : Hp → Prop := fun F => IsD X.K F dr v
  have mφ : ∀ F F', φ F → Same F F' → φ F' := fun F F' h e => h.same e
  let ψ : Heap → Prop := fun h => ∃ (oc : Obj) (vs : Array Value) (t : Tok), h.get? c' = some oc ∧ oc.data = .fields vs ∧ vs[1]? = some (.str (X.env.qual ++ "<lambda>") t)
  have hψ : H2 c' = some (.ext ψ) := code2.2
  have nc' : c' ≠ cr := fun z => by rw [z, ncr] at hψ; cases hψ
  have nf' : c' ≠ f := fun z => by rw [z, f2] at hψ; cases hψ
  let of : Obj := PySem.W.kla_obj "<lambda>" (X.env.qual ++ "<lambda>") params body scope [(y, cr)] pm c' ctv
  have R4 := rel_have (rel_pin0 (rel_fact (m := mφ) (rel_untab R2) dv2)) hψ code2.1 Fc'
  have R5 := rel_pin1 (φ := fun h => h.get? f = some of) R4 f2
  have ncr5 : upd H2 f (.ext fun h => h.get? f = some of) cr = none := by rw [upd_ne (Ne.symm fcr)]; exact ncr
  have R6 := rel_pin1 (φ := fun h => h.get? cr = some oc) R5 ncr5
  let l : List (Addr × (Heap → Prop)) := [(cr, fun h => h.get? cr = some oc), (f, fun h => h.get? f = some of), (c', ψ)]
  let N : NF := ⟨"<lambda>", X.env.qual ++ "<lambda>", params, [], scope, [(y, cr)], c'⟩
  have FL : FnOk X.prog X.w X.K X.mg X.base CXN 9 f (PySem.W.kla_fn "<lambda>" (X.env.qual ++ "<lambda>") params body scope [(y, cr)] pm (.ref c') ctv) ["value"] (spG X.K (pinW (factW W φ mφ) l) 1 (pf1 (pre dr) (p dr) : MF S)) := by
    refine lam_fnok (F := N) (f := f) (c := cr) (oc := oc) (y := y) (u := u) (v := v) (N := ["value", y]) Sc rfl nc' (fun h e => ⟨oc, e, ocd⟩) ru fun vs H Q E hs => ?_
    obtain ⟨F, s, ds, R, hd, hl, hf⟩ := hs
    have m1 : (cr, fun h : Heap => h.get? cr = some oc) ∈ l := List.mem_cons_self
    have m2 : (f, fun h : Heap => h.get? f = some of) ∈ l := List.mem_cons_of_mem _ List.mem_cons_self
    have m3 : (c', ψ) ∈ l := List.mem_cons_of_mem _ (List.mem_cons_of_mem _ List.mem_cons_self)
    refine ⟨by rw [hd.length, hl]; rfl, rel_pin R m2, rel_pin R m1, rel_pin R m3, ?_⟩
    obtain ⟨d, rfl, hpre, hqq⟩ := pf1_inv hf
    simp only [IsDs] at hd
    obtain ⟨vd, ws, rfl, hvd, rfl⟩ := hd
    have ap : ∀ z ∈ [(f, fun h : Heap => h.get? f = some of), (c', ψ)], z.1 ≠ cr := fun z hz => by
      rcases List.mem_cons.mp hz with rfl | hz
      · exact fcr
      · rcases List.mem_cons.mp hz with rfl | hz
        · exact nc'
        · cases hz
    have Rr : Rel (factW W φ mφ) s F (rmH H cr) := by
      have R8 : Rel (pinW (factW W φ mφ) [(f, fun h : Heap => h.get? f = some of), (c', ψ)]) s F (rmH H cr) := rel_unpin1 R ap
      exact rel_unpin0 (rel_unhave (rel_unhave R8))
    refine ⟨tG X.K (factW W φ mφ) mb, fun A outer s0 hr0 => hbody (factW W φ mφ) N f A outer s0 (rmH H cr) E rfl hr0, F, [some d, some dr], s, Rr, ⟨rfl, fun i x hx => ?_⟩, hmb dr d _ _ hpre ?_⟩
    · match i, hx with
      | 0, hx => cases hx; exact ⟨vd, rfl, hvd⟩
      | 1, hx => cases hx; exact ⟨v, rfl, R.ok.1.2⟩
      | i + 2, hx => simp at hx
    · intro F' H' w' R' E' d' nH
      obtain ⟨b1, b2⟩ := body_after R R' E' nH ap
      exact hqq F' (upd H' cr (.ext fun h => h.get? cr = some oc)) w' b1 b2 d'
  have CT := c__law_tellsT (W := factW W φ mφ) (l := l) (o := of) (f0 := f) (pre := pre dr) (p := p dr) T (List.mem_cons_of_mem _ List.mem_cons_self) (fun h e => ⟨_, _, _, _, e⟩) (fun s us _ hl => .of_eq (hbind _ _ _ _ _ us hl)) FL
  obtain ⟨fa', fd', ps', F1, g1, k1, b1⟩ := CT.ex
  have ef : fa' = fa := by
    have := g1.symm.trans hm
    cases this; rfl
  subst ef
  let H3 : Hp := upd (upd H2 f (.ext fun h => h.get? f = some of)) cr (.ext fun h => h.get? cr = some oc)
  have hff : f ∉ frs X.stack := fun z => by
    rcases List.mem_cons.mp (I.stkSub _ z) with e | e
    · exact nfl e
    · exact nfs e
  have hfb : X.base.get? f = none := Heap.get?_none_of_le (Nat.le_trans I.ok.bsz (Nat.le_trans I.sz szf))
  have cfr : cr ∉ frs X.stack := cell_notin I3 hfn hcr
  have e0 : Env0 X.prog X.w X.K X.mg X.base X.A X.stack s2 H3 := env0_track (env0_track I3.env0 f2 of2 hff hfb) ncr5 oc2 cfr (cell_base I3 hfn hcr)
  let Q3 : VK := fun v H' => ∃ F', Rel (pinW (factW W φ mφ) l) st.1 F' H' ∧ Ext (pinW (factW W φ mφ) l) st.1 st.1 F2 H3 F' H' ∧ IsD X.K F' (.bl true) v
  have sp3 : spG X.K (pinW (factW W φ mφ) l) 3 (tellsF f (pre dr) (p dr) : MF S) (.ref f :: vs) H3 Q3 (fun _ _ _ => False) :=
    ⟨F2, st.1, [.ref f, .lst r, .lst wr], R6, .cons (isD_ref.mpr rfl) d2, rfl, tells_run hgd hbd fun F' H' v R' E' d' => ⟨F', R', E', d'⟩⟩
  have len3 : (Value.ref f :: us).length = ps'.length := by
    have rv3 : Vals (V.ref f :: vs) (Value.ref f :: us) := .cons rfl rv
    rw [← rv3.length]; exact F1.len _ _ _ _ sp3
  have bnd : BindsTo s2 fd' ⟨.ref f :: us, []⟩ (ps'.zip (.ref f :: us)) := by
    have z := b1 s2 (.ref f :: us) I2.kIn (by rw [List.append_nil]; exact len3)
    rw [List.append_nil] at z
    exact z
  refine wpAny_call (codeAny_mono (F1.run X.A X.stack s2 H3 ⟨.ref f :: us, []⟩ (.ref f :: us) (.ref f :: vs) Q3 (fun _ _ _ => False) (hr.mono (by decide)) e0 bnd (.cons rfl rv) sp3) fun res s' hz => ?_)
  cases res with
  | error e => exact False.elim hz
  | ok fl =>
    cases fl with
    | next => exact False.elim hz
    | brk => exact False.elim hz
    | cont => exact False.elim hz
    | ret u1 =>
      have hz : CE X.stack X.prog X.w H3 s2 Q3 u1 s' := hz
      have ap2 : ∀ z ∈ [(c', ψ)], z.1 ≠ f := fun z hz => by
        rcases List.mem_cons.mp hz with rfl | hz
        · exact nf'
        · cases hz
      have ap1 : ∀ z ∈ [(f, fun h : Heap => h.get? f = some of), (c', ψ)], z.1 ≠ cr := fun z hz => by
        rcases List.mem_cons.mp hz with rfl | hz
        · exact fcr
        · rcases List.mem_cons.mp hz with rfl | hz
          · exact nc'
          · cases hz
      let Q4 : VK := fun v H' => ∃ F', Rel (pinW (factW W φ mφ) [(f, fun h : Heap => h.get? f = some of), (c', ψ)]) st.1 F' H' ∧ Ext (pinW (factW W φ mφ) [(f, fun h : Heap => h.get? f = some of), (c', ψ)]) st.1 st.1 F2 (upd H2 f (.ext fun h => h.get? f = some of)) F' H' ∧ IsD X.K F' (.bl true) v
      have hz1 : CE X.stack X.prog X.w (upd H2 f (.ext fun h => h.get? f = some of)) s2 Q4 u1 s' := ce_untrack ncr5 oc2 cfr (fun v H' ⟨F', R', E', d'⟩ => ⟨rel_pin R' List.mem_cons_self, F', rel_unpin1 R' ap1, ext_unpin1 E' ncr5, d'⟩) hz
      refine I3.after (ce_untrack f2 of2 hff (fun v H' hq4 => ?_) hz1)
      obtain ⟨F', R', E', d'⟩ := hq4
      refine ⟨rel_pin R' List.mem_cons_self, ?_⟩
      have R7 := rel_unpin1 R' ap2
      have E7 := ext_unpin1 E' f2
      have E8 := ext_unhave E7 hψ R7 (fun z hz => by cases hz)
      obtain ⟨R9, E9⟩ := tab_after R2 (rel_unfact (rel_unpin0 (rel_unhave R7))) (ext_unfact (ext_unpin0 E8))
      exact hQ L F' _ v R9 (E1.trans (E2.trans E9)) d'
end
end G

set_option Elab.async false
set_option linter.all false
set_option maxRecDepth 100000
set_option maxHeartbeats 4000000
/-! _law_are_rows_due at the world with the table of its code objects -/
namespace G
open PySem PySem.Spec PyProof.Rows L2 NdefX LamX
section
variable {S : Type}
def liftS (m : MS S) : MS (S × List Addr) := ⟨fun δ s E => m.run δ s.1 { nx := fun δ' s' => E.nx δ' (s', s.2), rt := fun d s' => E.rt d (s', s.2), bk := fun δ' s' => E.bk δ' (s', s.2), ct := fun δ' s' => E.ct δ' (s', s.2) },
  fun h => m.mono ⟨fun _ _ => h.nx _ _, fun _ _ => h.rt _ _, fun _ _ => h.bk _ _, fun _ _ => h.ct _ _⟩⟩
/-- a statement that does not know the table -/
theorem s_frame {W : Wd S} {X : Cx} {st : Stmt} {m : MS S} {P : Addr} {q : Str} (h : PS X st (tGS X.K W m)) : PS X st (tGS X.K (tabW W P q) (liftS m)) := by
  refine PS.imp h fun Dn σ H ⟨F, δ, s, R, E, z⟩ => ⟨F, δ, s.1, rel_untab R, E, m.mono ⟨?_, ?_, ?_, ?_⟩ z⟩
  all_goals
    intro x s1 k F' H' v R' E' d'
    obtain ⟨a, b⟩ := tab_after R R' E'
    exact k F' H' v a b d'
/-- a def whose code object is told -/
structure FunC (K : PySem.W.Frag) (q : Str) (st : Stmt) (fa c : Addr) : Prop where
  ex : ∃ (oc : Value) (od : Option Addr) (kV doc pm : Value) (an : Option Addr) (ct : Value) (osl : Array (Option Value)),
    K.lookup fa = some ⟨oc, od, .func (PySem.W.fnOf q q (defArgs st) (defBody st) (defScope st) .none kV doc pm an (.ref c) ct), osl⟩
  cd : PySem.W.codeIn K (.ref c) q = true
  kp : PySem.W.keepIn K (.ref fa) = true
theorem cal_mkC {P : Program} {w : World} {K : PySem.W.Frag} {mg : Str → Option Value} {base : Heap} {W : Wd S} {k n : Nat} {x q : Str} {st : Stmt} {fa c : Addr} {N ps : List Str} {f : MF S} {u : MS S} (F : FunC K q st fa c) (hg : mg x = some (.ref fa)) (Sc : FnScope N ps (defScope st)) (hn : ps.length = n)
    (hbd : ∀ (kV doc pm : Value) (an : Option Addr) (cdv ct : Value) (us : List Value), us.length = ps.length → bindArgs (PySem.W.fnOf q q (defArgs st) (defBody st) (defScope st) .none kV doc pm an cdv ct) ⟨us, []⟩ = pure (ps.zip us))
    (hb : ∀ (A : Around) (outer : List Env) (s : Shared) (H : Hp) (E : XK), Room k (A.deeper (envOfC q (defScope st) s.heap.objs.size fa (.ref c))) → PSs (cxOf CX0 P w K mg base N q (defScope st) fa (.ref c) A outer s H E).nox (defBody st) (tGS K W u))
    (h : ∀ ds s Q, ds.length = n → f.run ds s Q → u.run (ds.map some ++ List.replicate (N.length - n) none) s { nx := fun _ s' => Q .non s', rt := Q }) : Cal P w K mg base W (k + 1) x n f := by
  obtain ⟨oc, od, kV, doc, pm, an, ct, osl, lk⟩ := F.ex
  refine ⟨fa, _, ps, fn_of lk F.cd Sc (fun vs H Q E hs => by rw [hn]; exact spG.len hs) (fun A outer s H vs Q E hr hs => ⟨_, (hb A outer s H E hr).nox, ?_⟩), hg, F.kp, Binds.all fun us hl => hbd kV doc pm an (.ref c) ct us hl⟩
  obtain ⟨F1, s1, ds, R, hd, hl, hf⟩ := hs
  refine ⟨F1, ds.map some ++ List.replicate (N.length - n) none, s1, R, ⟨?_, ?_⟩, u.mono ⟨?_, ?_, ?_, ?_⟩ (h ds s1 _ hl hf)⟩
  · unfold L2.start
    rw [List.length_append, List.length_append, List.length_map, List.length_map, List.length_replicate, List.length_replicate, hd.length, hl]
  · intro i d e
    by_cases hi : i < ds.length
    · rw [List.getElem?_append_left (by simpa using hi), List.getElem?_map] at e
      cases ed : ds[i]? with
      | none => rw [ed] at e; cases e
      | some d' =>
        rw [ed] at e
        cases e
        obtain ⟨v, h1, h2⟩ := hd.get ed
        refine ⟨v, ?_, h2⟩
        unfold L2.start
        rw [List.getElem?_append_left (by rw [List.length_map, hd.length]; exact hi), List.getElem?_map, h1]; rfl
    · rw [List.getElem?_append_right (by simpa using hi), List.getElem?_replicate] at e
      split at e <;> cases e
  · intro δ' s' q F2 H2 σ R2 E2 e2
    exact q F2 H2 .non R2 E2 (isD_non.mpr rfl)
  · intro d s' q F2 H2 v R2 E2 d2
    exact q F2 H2 v R2 E2 d2
  · intro δ s q
    exact q.elim
  · intro δ s q
    exact q.elim
end
/-! ### a lambda with one captured name -/
theorem clo_app (cells : List (Str × Addr)) : ∀ (names : List (Str × NameKind)) (acc : List (Str × Addr)), cloFrom cells names acc = ((names.filter fun z => z.2 == .free).map fun z => (z.1, (cells.lookup z.1).getD 0)).reverse ++ acc
  | [], acc => rfl
  | (n, k) :: r, acc => by
    unfold cloFrom
    by_cases e : (k == NameKind.free) = true
    · rw [if_pos e, clo_app cells r, List.filter_cons_of_pos (by exact e), List.map_cons, List.reverse_cons, List.append_assoc]; rfl
    · rw [if_neg e, clo_app cells r, List.filter_cons_of_neg (by exact e)]
theorem lam_clo {names : List (Str × NameKind)} {y : Str} (h : (names.filter fun z => z.2 == .free).map (·.1) = [y]) (cells : List (Str × Addr)) (c0 : Addr) (e : cells.lookup y = some c0) : cloFrom cells names [] = [(y, c0)] := by
  rw [clo_app, List.append_nil]
  generalize names.filter (fun z => z.2 == .free) = l at h
  match l, h with
  | [], h => cases h
  | [(a, b)], h =>
    have : a = y := by simpa using h
    subst this
    simp [e]
  | _ :: _ :: _, h => simp at h
theorem lam_free {names : List (Str × NameKind)} {y : Str} (h : (names.filter fun z => z.2 == .free).map (·.1) = [y]) : ∀ z ∈ names, z.2 = .free → z.1 = y := fun z hz e => by
  have m : z.1 ∈ (names.filter fun z => z.2 == .free).map (·.1) := List.mem_map.mpr ⟨z, List.mem_filter.mpr ⟨hz, by rw [e]; rfl⟩, rfl⟩
  rw [h] at m
  simpa using m
theorem row_ok {row : List D} (h : ∀ d ∈ row, isWordI d) : ok (.tup row) ∧ rowD (.tup row) = true := by
  have one : ∀ d ∈ row, gd 39 d = true ∧ countD d = true := fun d hd => by
    have := h d hd
    unfold isWordI at this
    split at this
    · rename_i i
      exact ⟨by simp [gd], by simp [countD]; exact this.1⟩
    · exact this.elim
  refine ⟨?_, List.all_eq_true.mpr fun d hd => (one d hd).2⟩
  have z : gds 39 row = true := gds_all.mpr fun d hd => (one d hd).1
  unfold ok gd
  exact z
section
variable {P : Program} {w : World} {K : PySem.W.Frag} {mg : Str → Option Value} {base : Heap}
theorem c__law_are_rows_dueT {fa c PT : Addr} (T : Txt K w mg) (TB : TabB base mg c PT) (FC : FunC K "_law_are_rows_due" s__law_are_rows_due fa c) (hg : mg "_law_are_rows_due" = some (.ref fa)) : Cal P w K mg base (tabW WD PT "_law_are_rows_due.<locals>.<lambda>") 39 "_law_are_rows_due" 1 drawT := by
  obtain ⟨f_is_mapping, m_is_mapping, h_is_mapping⟩ := (c_is_mapping T : Cal P w K mg base WD _ "is_mapping" 1 _).held
  obtain ⟨f_are_rules, m_are_rules, h_are_rules⟩ := (c_are_rules T : Cal P w K mg base WD _ "are_rules" 1 _).held
  refine cal_mkC FC hg sc__law_are_rows_due rfl (fun _ _ _ _ _ _ us hl => match us, hl with | [_], _ => rfl) (fun A outer s H E hr => (b_cons (s_frame (s_par (i := 5) (j := 6) rfl sc__law_are_rows_due.nd (a_cons (g_call (c__law_take T) hr (by decide) (a_cons (g_var 0) (a_cons g_int a_nil))) (a_cons (g_call (c__law_take T) hr (by decide) (a_cons (g_var 0) (a_cons g_int a_nil))) a_nil))))
      (b_cons (s_frame (s_set (i := 1) sc__law_are_rows_due.nd (g_lst (a_cons (g_disp (pd_cons (g_add (g_var 5) g_int) (g_tup (a_cons (g_var 6) (a_cons g_int a_nil))) (pd_cons (g_var 5) (g_tup (a_cons (g_var 6) (a_cons g_int a_nil))) pd_nil))) (a_cons (g_disp (pd_cons g_int (g_tup (a_cons g_int (a_cons g_int a_nil))) pd_nil)) (a_cons (g_disp (pd_cons (g_neg g_int) (g_tup (a_cons g_int (a_cons g_int a_nil))) pd_nil)) (a_cons (g_disp (pd_cons (g_var 5) (g_tup (a_cons g_int (a_cons g_int a_nil))) pd_nil)) (a_cons (g_disp (pd_cons (g_var 5) (g_tup (a_cons (g_var 6) a_nil)) pd_nil)) (a_cons (g_disp (pd_cons (g_var 5) (g_tup (a_cons (g_var 6) (a_cons g_int (a_cons g_int a_nil)))) pd_nil)) a_nil)))))))))
      (b_cons (s_frame (s_set (i := 1) sc__law_are_rows_due.nd (g_add (g_var 1) (g_lst (a_cons (g_disp (pd_cons (g_var 5) (g_lst (a_cons (g_var 6) (a_cons g_int a_nil))) pd_nil)) (a_cons (g_disp (pd_cons (g_var 5) (g_var 6) pd_nil)) (a_cons (g_disp (pd_cons (g_var 5) (g_tup (a_cons (g_var 6) (a_cons g_int a_nil))) pd_nil)) (a_cons (g_disp (pd_cons (g_var 5) (g_tup (a_cons (g_var 6) (a_cons g_int a_nil))) pd_nil)) (a_cons (g_lst (a_cons (g_tup (a_cons (g_var 5) (a_cons (g_tup (a_cons (g_var 6) (a_cons g_int a_nil))) a_nil))) a_nil)) (a_cons g_non (a_cons (g_disp (pd_cons g_str (g_tup (a_cons g_int (a_cons g_int a_nil))) pd_nil)) a_nil)))))))))))
      (b_cons (s_frame (s_ite (t_not (t_of (g_call (c__law_tells T h_is_mapping) hr (by decide) (a_cons (g_ref m_is_mapping) (a_cons (g_lst (a_cons g_dnew (a_cons (g_disp (pd_cons (g_var 5) (g_tup (a_cons (g_var 6) (a_cons g_int a_nil))) pd_nil)) (a_cons (g_disp (pd_cons (g_var 5) (g_tup (a_cons (g_var 6) (a_cons g_int a_nil))) (pd_cons (g_add (g_var 5) g_int) (g_tup (a_cons (g_var 6) (a_cons g_int a_nil))) (pd_cons g_int (g_tup (a_cons g_int (a_cons g_int a_nil))) pd_nil)))) a_nil)))) (a_cons (g_var 1) a_nil)))))) (b_one s_no) b_nil))
      (b_cons (s_frame (s_par (i := 7) (j := 8) rfl sc__law_are_rows_due.nd (a_cons (g_tup (a_cons g_str (a_cons (g_call (c__law_take T) hr (by decide) (a_cons (g_var 0) (a_cons g_int a_nil))) a_nil))) (a_cons (g_add g_int (g_call (c__law_take T) hr (by decide) (a_cons (g_var 0) (a_cons g_int a_nil)))) a_nil))))
      (b_cons (s_frame (s_set (i := 2) sc__law_are_rows_due.nd (g_lst (a_cons (g_disp (pd_cons g_int (g_tup a_nil) pd_nil)) (a_cons (g_disp (pd_cons g_int (g_tup (a_cons (g_var 7) (a_cons (g_var 7) a_nil))) pd_nil)) (a_cons (g_disp (pd_cons g_int (g_tup (a_cons (g_tup (a_cons g_str (a_cons g_int (a_cons (g_var 8) a_nil)))) (a_cons (g_var 7) a_nil))) (pd_cons g_int (g_tup (a_cons (g_tup (a_cons g_str (a_cons g_int (a_cons g_int a_nil)))) (a_cons (g_tup (a_cons g_str (a_cons g_int (a_cons g_int a_nil)))) a_nil))) (pd_cons g_int (g_tup (a_cons (g_var 7) a_nil)) pd_nil)))) (a_cons (g_disp (pd_cons g_int (g_mul (g_tup (a_cons (g_var 7) a_nil)) g_int) pd_nil)) (a_cons (g_disp (pd_cons g_int (g_tup a_nil) (pd_cons g_int (g_tup (a_cons (g_var 7) a_nil)) pd_nil))) a_nil))))))))
      (b_cons (s_frame (s_set (i := 1) sc__law_are_rows_due.nd (g_lst (a_cons g_dnew (a_cons (g_disp (pd_cons g_int (g_tup a_nil) pd_nil)) (a_cons (g_disp (pd_cons g_int (g_tup (a_cons (g_var 7) a_nil)) (pd_cons g_int (g_tup a_nil) (pd_cons g_int (g_tup a_nil) pd_nil)))) (a_cons (g_disp (pd_cons g_int (g_tup (a_cons (g_tup (a_cons g_str (a_cons g_int (a_cons g_int a_nil)))) a_nil)) pd_nil)) (a_cons (g_disp (pd_cons g_int (g_tup (a_cons (g_tup (a_cons g_str (a_cons g_int (a_cons g_int a_nil)))) a_nil)) pd_nil)) a_nil))))))))
      (b_cons (s_frame (s_set (i := 1) sc__law_are_rows_due.nd (g_add (g_var 1) (g_lst (a_cons (g_disp (pd_cons g_int (g_tup (a_cons (g_tup (a_cons g_str (a_cons g_int (a_cons g_int a_nil)))) a_nil)) (pd_cons g_int (g_tup a_nil) pd_nil))) (a_cons (g_disp (pd_cons g_int (g_tup (a_cons (g_tup (a_cons g_str (a_cons g_int (a_cons g_int a_nil)))) a_nil)) (pd_cons g_int (g_tup a_nil) pd_nil))) (a_cons (g_disp (pd_cons g_int (g_tup (a_cons (g_tup (a_cons g_str (a_cons g_int a_nil))) a_nil)) pd_nil)) (a_cons (g_disp (pd_cons g_int (g_tup (a_cons (g_tup (a_cons g_str (a_cons (g_neg g_int) a_nil))) a_nil)) pd_nil)) (a_cons (g_disp (pd_cons g_int (g_mul (g_tup (a_cons (g_var 7) a_nil)) g_int) pd_nil)) a_nil)))))))))
      (b_cons (s_frame (s_set (i := 1) sc__law_are_rows_due.nd (g_add (g_var 1) (g_lst (a_cons (g_disp (pd_cons g_int (g_tup (a_cons (g_tup (a_cons g_str (a_cons g_int a_nil))) a_nil)) (pd_cons g_int (g_tup a_nil) pd_nil))) (a_cons (g_disp (pd_cons g_int (g_lst (a_cons (g_var 7) a_nil)) pd_nil)) (a_cons (g_disp (pd_cons g_int (g_var 7) pd_nil)) (a_cons (g_disp (pd_cons g_int (g_tup a_nil) (pd_cons g_int (g_tup (a_cons (g_tup (a_cons g_str (a_cons g_int (a_cons g_int a_nil)))) a_nil)) pd_nil))) (a_cons (g_disp (pd_cons g_int (g_tup (a_cons (g_tup (a_cons g_str (a_cons g_int (a_cons g_int a_nil)))) a_nil)) pd_nil)) (a_cons (g_disp (pd_cons g_int (g_tup (a_cons (g_tup (a_cons g_str (a_cons g_int a_nil))) a_nil)) pd_nil)) (a_cons (g_lst (a_cons (g_tup a_nil) a_nil)) (a_cons g_non (a_cons (g_disp (pd_cons g_int (g_tup (a_cons (g_tup (a_cons g_str (a_cons g_bl a_nil))) a_nil)) pd_nil)) a_nil)))))))))))))
      (b_cons (s_frame (s_ite (t_not (t_of (g_call (c__law_tells T h_are_rules) hr (by decide) (a_cons (g_ref m_are_rules) (a_cons (g_var 2) (a_cons (g_var 1) a_nil)))))) (b_one s_no) b_nil))
      (b_cons (s_frame (s_set (i := 3) sc__law_are_rows_due.nd (g_toTup T.b.tuple bb_tuple (a_cons (g_lc [("k", 9)] rfl sc__law_are_rows_due.nd (i_rng T.b.range (a_cons (g_add g_int (g_call (c__law_take T) hr (by decide) (a_cons (g_var 0) (a_cons g_int a_nil)))) a_nil)) (blkOk_by (by kernel_rfl)) (fun _ _ _ _ _ => (gt_nm (i := 9) sc__law_are_rows_due.nd)) (fun _ _ _ _ _ => pts0) (fun _ _ _ _ _ => (g_call (c__law_take T) hr (by decide) (a_cons (g_var 0) (a_cons g_int a_nil))))) a_nil))))
      (b_cons (s_frame (s_set (i := 4) sc__law_are_rows_due.nd (g_len T.b.len (a_cons (g_var 3) a_nil))))
      (b_cons (s_frame (s_set (i := 2) sc__law_are_rows_due.nd (g_lst (a_cons (g_tup a_nil) (a_cons (g_tup (a_cons (g_tup (a_cons g_str (a_cons g_int (a_cons (g_var 4) a_nil)))) a_nil)) (a_cons (g_tup (a_cons (g_tup (a_cons g_str (a_cons (g_sub (g_var 4) g_int) (a_cons g_int a_nil)))) (a_cons (g_tup (a_cons g_str (a_cons (g_tup (a_cons g_int (a_cons (g_pow g_int g_int) a_nil))) a_nil))) a_nil))) (a_cons (g_tup (a_cons (g_tup (a_cons g_str (a_cons (g_tup (a_cons g_int a_nil)) a_nil))) (a_cons (g_tup (a_cons g_str (a_cons g_int (a_cons g_int a_nil)))) (a_cons (g_tup (a_cons g_str (a_cons g_int (a_cons g_int a_nil)))) a_nil)))) a_nil)))))))
      (b_cons (s_frame (s_set (i := 1) sc__law_are_rows_due.nd (g_lst (a_cons (g_tup (a_cons (g_tup (a_cons g_str (a_cons g_int (a_cons (g_add (g_var 4) g_int) a_nil)))) a_nil)) (a_cons (g_tup (a_cons (g_tup (a_cons g_str (a_cons (g_var 4) (a_cons g_int a_nil)))) a_nil)) (a_cons (g_tup (a_cons (g_tup (a_cons g_str (a_cons (g_neg g_int) (a_cons g_int a_nil)))) a_nil)) (a_cons (g_tup (a_cons (g_tup (a_cons g_str (a_cons g_int (a_cons g_int a_nil)))) a_nil)) (a_cons (g_tup (a_cons (g_tup (a_cons g_str (a_cons (g_tup a_nil) a_nil))) a_nil)) (a_cons (g_tup (a_cons (g_tup (a_cons g_str (a_cons (g_tup (a_cons (g_neg g_int) a_nil)) a_nil))) a_nil)) (a_cons (g_tup (a_cons (g_tup (a_cons g_str (a_cons (g_lst (a_cons g_int a_nil)) a_nil))) a_nil)) a_nil))))))))))
      (b_cons (s_frame (s_set (i := 1) sc__law_are_rows_due.nd (g_add (g_var 1) (g_lst (a_cons (g_tup (a_cons (g_tup (a_cons g_str (a_cons g_int a_nil))) a_nil)) (a_cons (g_tup (a_cons (g_tup (a_cons g_str (a_cons g_int (a_cons g_int a_nil)))) a_nil)) (a_cons (g_tup (a_cons (g_tup (a_cons g_str (a_cons g_int a_nil))) a_nil)) (a_cons (g_lst (a_cons (g_tup (a_cons g_str (a_cons g_int (a_cons g_int a_nil)))) a_nil)) (a_cons (g_tup (a_cons g_str (a_cons g_int (a_cons g_int a_nil)))) (a_cons g_non (a_cons (g_tup (a_cons (g_tup (a_cons g_str (a_cons (g_tup (a_cons g_bl a_nil)) a_nil))) a_nil)) a_nil)))))))))))
      (b_one (s_ret (g_lam (ir := 3) (ig := 2) (ib := 1) (pre := fun a b => ok a ∧ rowD a = true ∧ ok b) (p := fun a b => piecesD (rowLen a) b) (mb := ME.call 2 (pf2 (fun a b => ok a ∧ rowD a = true ∧ ok b) (fun a b => piecesD (rowLen a) b) : MF Dr) (MA.cons (ME.var 1) (MA.cons (ME.var 0) MA.nil))) (y := "row") T TB rfl rfl (hr.mono (by decide)) (by kernel_rfl) rfl rfl rfl (nscope_by (by kernel_rfl)) (lam_free (by kernel_rfl)) (lam_clo (by kernel_rfl)) (fun _ _ _ _ _ us hl => match us, hl with | [_], _ => rfl)
      (fun W' N f A outer s H E hN hr => by
        obtain ⟨nm, ql, pr, bd, sc, cl, cc⟩ := N
        dsimp only at hN
        subst hN
        exact g_call (c_is_patch T) hr (by decide) (a_cons (g_var 1) (a_cons (g_var 0) a_nil)))
      (fun dr d s Q hp hq => ⟨rfl, hp, hq⟩) (a_cons (g_var 2) (a_cons (g_var 1) a_nil))))))))))))))))))))) ?_
  intro ds s Q hl h
  obtain ⟨a, xs, L0, rfl, rfl, h⟩ := h
  simp only [List.map_cons, List.map_nil, List.cons_append, List.nil_append, List.append_nil, List.length_cons, List.length_nil, Nat.zero_add, Nat.reduceAdd, Nat.reduceSub, List.replicate_succ, List.replicate_zero, List.getD_cons_zero, List.getD_cons_succ, List.set_cons_zero, List.set_cons_succ, OQ_some]
  refine seq_run (fun δ' s' => ∃ (xs' : List Int) (page : Int) (frame : Int), (0 ≤ page) ∧ (page < 4000) ∧ (0 ≤ frame) ∧ (frame < 1024) ∧ δ' = [some (.ref a), none, none, none, none, some (.int page), some (.int frame), none, none, none] ∧ s' = (some (a, xs'), L0)) (fun E' hn => ?_) (fun δ' s' hP => ?_)
  · simp only [liftS, MS.ret, MS.retN, MS.ite, MS.seq, MS.nil, MS.drop, MS.set, MS.asg, MS.par, MS.par3, MS.no, MS.for, MS.aug, ME.var, ME.c, ME.op1, ME.op2, ME.of, ME.ite, ME.chain, MT.op2, MT.op1, MT.of, MT.and, MT.or, MT.not, MT.chain, MA.nil, MA.cons, ME.tup, ME.lst, ME.fn, ME.call, ME.lc, ME.sl, MO.no, MO.yes, MI.seq, MI.of, MI.ofA, ME.disp, ME.callA, ME.callR, ME.dc, ME.lc2, ME.sorted, List.map_cons, List.map_nil, List.cons_append, List.nil_append, List.append_nil, List.length_cons, List.length_nil, Nat.zero_add, Nat.reduceAdd, Nat.reduceSub, List.replicate_succ, List.replicate_zero, List.getD_cons_zero, List.getD_cons_succ, List.set_cons_zero, List.set_cons_succ, OQ_some, negD]
    exact ⟨trivial, dr_take (by decide) fun page xs1 h0 h1 => ⟨trivial, dr_take (by decide) fun frame xs2 h2 h3 => hn _ _ ⟨_, page, frame, h0, h1, h2, h3, rfl, rfl⟩⟩⟩
  obtain ⟨xs, page, frame, hp0, hp1, hf0, hf1, rfl, rfl⟩ := hP
  have hne : page + 1 ≠ page := by omega
  have hne2 : page ≠ page + 1 := by omega
  have hne3 : page ≠ 4095 := by omega
  have hne4 : page + 1 ≠ 4095 := by omega
  refine seq_run (fun δ' s' => ∃ (xs' : List Int) (bent : List D), (BadM mappingD 20 bent) ∧ δ' = [some (.ref a), some (.lst bent), none, none, none, some (.int page), some (.int frame), none, none, none] ∧ s' = (some (a, xs'), L0)) (fun E' hn => ?_) (fun δ' s' hP => ?_)
  · simp only [liftS, MS.ret, MS.retN, MS.ite, MS.seq, MS.nil, MS.drop, MS.set, MS.asg, MS.par, MS.par3, MS.no, MS.for, MS.aug, ME.var, ME.c, ME.op1, ME.op2, ME.of, ME.ite, ME.chain, MT.op2, MT.op1, MT.of, MT.and, MT.or, MT.not, MT.chain, MA.nil, MA.cons, ME.tup, ME.lst, ME.fn, ME.call, ME.lc, ME.sl, MO.no, MO.yes, MI.seq, MI.of, MI.ofA, ME.disp, ME.callA, ME.callR, ME.dc, ME.lc2, ME.sorted, List.map_cons, List.map_nil, List.cons_append, List.nil_append, List.append_nil, List.length_cons, List.length_nil, Nat.zero_add, Nat.reduceAdd, Nat.reduceSub, List.replicate_succ, List.replicate_zero, List.getD_cons_zero, List.getD_cons_succ, List.set_cons_zero, List.set_cons_succ, OQ_some, negD]
    simp only [add_iiQ, disp1, disp2 hne, OQ_some]
    repeat (refine And.intro (by decide) ?_)
    refine hn _ _ ⟨_, _, ⟨fmc ⟨okm2 (by kernel_rfl) (by kernel_rfl), ?_⟩ (fmc ⟨okm1 (by kernel_rfl), by kernel_rfl⟩ (fmc ⟨okm1 (by kernel_rfl), by kernel_rfl⟩ (fmc ⟨okm1 (by kernel_rfl), map_bad (by kernel_rfl)⟩ (fmc ⟨okm1 (by kernel_rfl), map_bad (by kernel_rfl)⟩ (fmc ⟨okm1 (by kernel_rfl), map_bad (by kernel_rfl)⟩ fmn))))), by simp⟩, rfl, rfl⟩
    rw [map2, decide_eq_false (by omega), Bool.false_and, Bool.and_false]
  obtain ⟨xs, bent, hb, rfl, rfl⟩ := hP
  refine seq_run (fun δ' s' => ∃ (xs' : List Int) (bent : List D), (BadM mappingD 40 bent) ∧ δ' = [some (.ref a), some (.lst bent), none, none, none, some (.int page), some (.int frame), none, none, none] ∧ s' = (some (a, xs'), L0)) (fun E' hn => ?_) (fun δ' s' hP => ?_)
  · simp only [liftS, MS.ret, MS.retN, MS.ite, MS.seq, MS.nil, MS.drop, MS.set, MS.asg, MS.par, MS.par3, MS.no, MS.for, MS.aug, ME.var, ME.c, ME.op1, ME.op2, ME.of, ME.ite, ME.chain, MT.op2, MT.op1, MT.of, MT.and, MT.or, MT.not, MT.chain, MA.nil, MA.cons, ME.tup, ME.lst, ME.fn, ME.call, ME.lc, ME.sl, MO.no, MO.yes, MI.seq, MI.of, MI.ofA, ME.disp, ME.callA, ME.callR, ME.dc, ME.lc2, ME.sorted, List.map_cons, List.map_nil, List.cons_append, List.nil_append, List.append_nil, List.length_cons, List.length_nil, Nat.zero_add, Nat.reduceAdd, Nat.reduceSub, List.replicate_succ, List.replicate_zero, List.getD_cons_zero, List.getD_cons_succ, List.set_cons_zero, List.set_cons_succ, OQ_some, negD]
    simp only [disp1, disp1s, OQ_some]
    repeat (refine And.intro (by decide) ?_)
    rw [add_lst (by have := hb.2; simp only [List.length_cons, List.length_nil]; omega)]
    simp only [OQ_some]
    exact hn _ _ ⟨_, _, hb.app (m := 20) ⟨fmc ⟨okm1 (by kernel_rfl), map_bad (by kernel_rfl)⟩ (fmc ⟨okm1 (by kernel_rfl), map_bad (by kernel_rfl)⟩ (fmc ⟨okm1 (by kernel_rfl), map_bad (told_k (by decide))⟩ (fmc ⟨okm1 (by kernel_rfl), map_bad (told_k (by decide))⟩ (fmc ⟨okm_lst (by kernel_rfl), rfl⟩ (fmc ⟨okm_non, rfl⟩ (fmc ⟨okm1s (by decide +kernel) (by kernel_rfl), by kernel_rfl⟩ fmn)))))), by simp⟩, rfl, rfl⟩
  obtain ⟨xs, bent, hb, rfl, rfl⟩ := hP
  refine seq_run (fun δ' s' => ∃ (xs' : List Int) (o1 : Option D) (o2 : Option D) (o3 : Option D), δ' = [some (.ref a), o3, none, none, none, o1, o2, none, none, none] ∧ s' = (some (a, xs'), L0)) (fun E' hn => ?_) (fun δ' s' hP => ?_)
  · simp only [liftS, MS.ret, MS.retN, MS.ite, MS.seq, MS.nil, MS.drop, MS.set, MS.asg, MS.par, MS.par3, MS.no, MS.for, MS.aug, ME.var, ME.c, ME.op1, ME.op2, ME.of, ME.ite, ME.chain, MT.op2, MT.op1, MT.of, MT.and, MT.or, MT.not, MT.chain, MA.nil, MA.cons, ME.tup, ME.lst, ME.fn, ME.call, ME.lc, ME.sl, MO.no, MO.yes, MI.seq, MI.of, MI.ofA, ME.disp, ME.callA, ME.callR, ME.dc, ME.lc2, ME.sorted, List.map_cons, List.map_nil, List.cons_append, List.nil_append, List.append_nil, List.length_cons, List.length_nil, Nat.zero_add, Nat.reduceAdd, Nat.reduceSub, List.replicate_succ, List.replicate_zero, List.getD_cons_zero, List.getD_cons_succ, List.set_cons_zero, List.set_cons_succ, OQ_some, negD]
    simp only [add_iiQ, disp1, disp3 hne2 hne3 hne4, OQ_some]
    repeat (refine And.intro (by decide) ?_)
    refine tells_run (fmc ⟨okm0, rfl⟩ (fmc ⟨okm1 (by kernel_rfl), ?_⟩ (fmc ⟨okm3 (by kernel_rfl) (by kernel_rfl) (by kernel_rfl), ?_⟩ fmn))) hb.1 ?_
    · rw [map1, wi_int hp0 (by omega), told_t hf0 (by omega) (by decide)]; rfl
    · rw [map3, wi_int hp0 (by omega), wi_int (by omega) (by omega), told_t hf0 (by omega) (by decide), told_t hf0 (by omega) (by decide), decide_eq_true (by omega)]; rfl
    simp only [OQ_some, blD_bl, Bool.not_true, if_false, Bool.false_eq_true]
    exact hn _ _ ⟨_, _, _, _, rfl, rfl⟩
  obtain ⟨xs, o1, o2, o3, rfl, rfl⟩ := hP
  refine seq_run (fun δ' s' => ∃ (xs' : List Int) (pg : Int) (tm : Int), (0 ≤ pg) ∧ (pg ≤ 30) ∧ (1 ≤ tm) ∧ (tm ≤ 1000000) ∧ δ' = [some (.ref a), o3, none, none, none, o1, o2, some (.tup [.str "page", .int pg]), some (.int tm), none] ∧ s' = (some (a, xs'), L0)) (fun E' hn => ?_) (fun δ' s' hP => ?_)
  · simp only [liftS, MS.ret, MS.retN, MS.ite, MS.seq, MS.nil, MS.drop, MS.set, MS.asg, MS.par, MS.par3, MS.no, MS.for, MS.aug, ME.var, ME.c, ME.op1, ME.op2, ME.of, ME.ite, ME.chain, MT.op2, MT.op1, MT.of, MT.and, MT.or, MT.not, MT.chain, MA.nil, MA.cons, ME.tup, ME.lst, ME.fn, ME.call, ME.lc, ME.sl, MO.no, MO.yes, MI.seq, MI.of, MI.ofA, ME.disp, ME.callA, ME.callR, ME.dc, ME.lc2, ME.sorted, List.map_cons, List.map_nil, List.cons_append, List.nil_append, List.append_nil, List.length_cons, List.length_nil, Nat.zero_add, Nat.reduceAdd, Nat.reduceSub, List.replicate_succ, List.replicate_zero, List.getD_cons_zero, List.getD_cons_succ, List.set_cons_zero, List.set_cons_succ, OQ_some, negD]
    refine ⟨trivial, dr_take (by decide) fun pg xs1 h0 h1 => ⟨by decide, trivial, dr_take (by decide) fun tm xs2 h2 h3 => ?_⟩⟩
    simp only [add_iiQ, OQ_some]
    exact hn _ _ ⟨_, pg, 1 + tm, by omega, by omega, by omega, by omega, rfl, rfl⟩
  obtain ⟨xs, pg, tm, hg0, hg1, ht0, ht1, rfl, rfl⟩ := hP
  have hsg : ∀ own ks, signR own ks (.tup [.str "page", .int pg]) = true := fun own ks => (show withinD 0 30 (.int pg) = true from wi_int hg0 hg1)
  have q2000 : ∀ d : D, mulD' (.tup [d]) (.int 2000) = some (.tup (List.replicate 2000 d)) := fun d => mul_one (k := 2000) (by decide) (by decide)
  have q2001 : ∀ d : D, mulD' (.tup [d]) (.int 2001) = some (.tup (List.replicate 2001 d)) := fun d => mul_one (k := 2001) (by decide) (by decide)
  have d3 := fun d e f => disp3 (i := 0) (j := 3) (k := 7) (d := d) (e := e) (f := f) (by decide) (by decide) (by decide)
  have d05 := fun d e => disp2 (i := 0) (j := 5) (d := d) (e := e) (by decide)
  refine seq_run (fun δ' s' => ∃ (xs' : List Int) (good : List D), (∀ d ∈ good, okm d ∧ rulesD d = true) ∧ δ' = [some (.ref a), o3, some (.lst good), none, none, o1, o2, some (.tup [.str "page", .int pg]), some (.int tm), none] ∧ s' = (some (a, xs'), L0)) (fun E' hn => ?_) (fun δ' s' hP => ?_)
  · simp only [liftS, MS.ret, MS.retN, MS.ite, MS.seq, MS.nil, MS.drop, MS.set, MS.asg, MS.par, MS.par3, MS.no, MS.for, MS.aug, ME.var, ME.c, ME.op1, ME.op2, ME.of, ME.ite, ME.chain, MT.op2, MT.op1, MT.of, MT.and, MT.or, MT.not, MT.chain, MA.nil, MA.cons, ME.tup, ME.lst, ME.fn, ME.call, ME.lc, ME.sl, MO.no, MO.yes, MI.seq, MI.of, MI.ofA, ME.disp, ME.callA, ME.callR, ME.dc, ME.lc2, ME.sorted, List.map_cons, List.map_nil, List.cons_append, List.nil_append, List.append_nil, List.length_cons, List.length_nil, Nat.zero_add, Nat.reduceAdd, Nat.reduceSub, List.replicate_succ, List.replicate_zero, List.getD_cons_zero, List.getD_cons_succ, List.set_cons_zero, List.set_cons_succ, OQ_some, negD]
    simp only [disp1, d3, d05, q2000, OQ_some]
    repeat (refine And.intro (by decide) ?_)
    have hok : ∀ k, gd (k + 1) (.tup [.str "page", .int pg]) = true := fun k => by rw [gd_tup, gds_cons, gds_cons, gds_nil, gd_str, gd_int]; decide +kernel
    have hrt : signR 0 [.inl 0, .inl 3, .inl 7] (.tup [.str "rule", .int 3, .int tm]) = true := by
      show (withinD 1 1000000 (.int tm) && _) = true
      rw [wi_int ht0 ht1]; rfl
    refine hn _ _ ⟨_, _, fmc ⟨okm1 (by kernel_rfl), by kernel_rfl⟩ (fmc ⟨okm1 (by kernel_rfl), ?_⟩ (fmc ⟨okm3 (by kernel_rfl) (by kernel_rfl) (by kernel_rfl), ?_⟩ (fmc ⟨okm_rep (hok 38) 2000, ?_⟩ (fmc ⟨okm2 (by kernel_rfl) (by kernel_rfl), ?_⟩ fmn)))), rfl, rfl⟩
    · rw [rul1]; simp only [List.all_cons, List.all_nil, hsg, Bool.and_true]; rfl
    · rw [rul3]; simp only [List.all_cons, List.all_nil, hsg, hrt, Bool.and_true, Bool.true_and]; kernel_rfl
    · rw [rul1, List.length_replicate, all_rep (hsg _ _)]; rfl
    · rw [rul2]; simp only [List.all_cons, List.all_nil, hsg, Bool.and_true]; rfl
  obtain ⟨xs, good, hgd, rfl, rfl⟩ := hP
  have d021 := fun d e f => disp3 (i := 0) (j := 2) (k := 1) (d := d) (e := e) (f := f) (by decide) (by decide) (by decide)
  have d01 := fun d e => disp2 (i := 0) (j := 1) (d := d) (e := e) (by decide)
  have hok : ∀ k, gd (k + 1) (.tup [.str "page", .int pg]) = true := fun k => by rw [gd_tup, gds_cons, gds_cons, gds_nil, gd_str, gd_int]; decide +kernel
  refine seq_run (fun δ' s' => ∃ (xs' : List Int) (bent : List D), (BadM rulesD 20 bent) ∧ δ' = [some (.ref a), some (.lst bent), some (.lst good), none, none, o1, o2, some (.tup [.str "page", .int pg]), some (.int tm), none] ∧ s' = (some (a, xs'), L0)) (fun E' hn => ?_) (fun δ' s' hP => ?_)
  · simp only [liftS, MS.ret, MS.retN, MS.ite, MS.seq, MS.nil, MS.drop, MS.set, MS.asg, MS.par, MS.par3, MS.no, MS.for, MS.aug, ME.var, ME.c, ME.op1, ME.op2, ME.of, ME.ite, ME.chain, MT.op2, MT.op1, MT.of, MT.and, MT.or, MT.not, MT.chain, MA.nil, MA.cons, ME.tup, ME.lst, ME.fn, ME.call, ME.lc, ME.sl, MO.no, MO.yes, MI.seq, MI.of, MI.ofA, ME.disp, ME.callA, ME.callR, ME.dc, ME.lc2, ME.sorted, List.map_cons, List.map_nil, List.cons_append, List.nil_append, List.append_nil, List.length_cons, List.length_nil, Nat.zero_add, Nat.reduceAdd, Nat.reduceSub, List.replicate_succ, List.replicate_zero, List.getD_cons_zero, List.getD_cons_succ, List.set_cons_zero, List.set_cons_succ, OQ_some, negD]
    simp only [disp1, d021, OQ_some]
    repeat (refine And.intro (by decide) ?_)
    exact hn _ _ ⟨_, _, ⟨(fmc ⟨okm0, rfl⟩ (fmc ⟨okm1 (by kernel_rfl), by kernel_rfl⟩ (fmc ⟨okm3 (by kernel_rfl) (by kernel_rfl) (by kernel_rfl), by kernel_rfl⟩ (fmc ⟨okm1 (by kernel_rfl), by kernel_rfl⟩ (fmc ⟨okm1 (by kernel_rfl), by kernel_rfl⟩ fmn))))), by simp⟩, rfl, rfl⟩
  obtain ⟨xs, bent, hb, rfl, rfl⟩ := hP
  refine seq_run (fun δ' s' => ∃ (xs' : List Int) (bent : List D), (BadM rulesD 40 bent) ∧ δ' = [some (.ref a), some (.lst bent), some (.lst good), none, none, o1, o2, some (.tup [.str "page", .int pg]), some (.int tm), none] ∧ s' = (some (a, xs'), L0)) (fun E' hn => ?_) (fun δ' s' hP => ?_)
  · simp only [liftS, MS.ret, MS.retN, MS.ite, MS.seq, MS.nil, MS.drop, MS.set, MS.asg, MS.par, MS.par3, MS.no, MS.for, MS.aug, ME.var, ME.c, ME.op1, ME.op2, ME.of, ME.ite, ME.chain, MT.op2, MT.op1, MT.of, MT.and, MT.or, MT.not, MT.chain, MA.nil, MA.cons, ME.tup, ME.lst, ME.fn, ME.call, ME.lc, ME.sl, MO.no, MO.yes, MI.seq, MI.of, MI.ofA, ME.disp, ME.callA, ME.callR, ME.dc, ME.lc2, ME.sorted, List.map_cons, List.map_nil, List.cons_append, List.nil_append, List.append_nil, List.length_cons, List.length_nil, Nat.zero_add, Nat.reduceAdd, Nat.reduceSub, List.replicate_succ, List.replicate_zero, List.getD_cons_zero, List.getD_cons_succ, List.set_cons_zero, List.set_cons_succ, OQ_some, negD]
    simp only [disp1, d01, q2001, OQ_some]
    repeat (refine And.intro (by decide) ?_)
    rw [add_lst (by have := hb.2; simp only [List.length_cons, List.length_nil]; omega)]
    simp only [OQ_some]
    exact hn _ _ ⟨_, _, hb.app (m := 20) ⟨(fmc ⟨okm2 (by kernel_rfl) (by kernel_rfl), by kernel_rfl⟩ (fmc ⟨okm2 (by kernel_rfl) (by kernel_rfl), by kernel_rfl⟩ (fmc ⟨okm1 (by kernel_rfl), by kernel_rfl⟩ (fmc ⟨okm1 (by kernel_rfl), by kernel_rfl⟩ (fmc ⟨okm_rep (hok 38) 2001, by rw [rul1, List.length_replicate]; rfl⟩ fmn))))), by simp⟩, rfl, rfl⟩
  obtain ⟨xs, bent, hb, rfl, rfl⟩ := hP
  refine seq_run (fun δ' s' => ∃ (xs' : List Int) (bent : List D), (BadM rulesD 60 bent) ∧ δ' = [some (.ref a), some (.lst bent), some (.lst good), none, none, o1, o2, some (.tup [.str "page", .int pg]), some (.int tm), none] ∧ s' = (some (a, xs'), L0)) (fun E' hn => ?_) (fun δ' s' hP => ?_)
  · simp only [liftS, MS.ret, MS.retN, MS.ite, MS.seq, MS.nil, MS.drop, MS.set, MS.asg, MS.par, MS.par3, MS.no, MS.for, MS.aug, ME.var, ME.c, ME.op1, ME.op2, ME.of, ME.ite, ME.chain, MT.op2, MT.op1, MT.of, MT.and, MT.or, MT.not, MT.chain, MA.nil, MA.cons, ME.tup, ME.lst, ME.fn, ME.call, ME.lc, ME.sl, MO.no, MO.yes, MI.seq, MI.of, MI.ofA, ME.disp, ME.callA, ME.callR, ME.dc, ME.lc2, ME.sorted, List.map_cons, List.map_nil, List.cons_append, List.nil_append, List.append_nil, List.length_cons, List.length_nil, Nat.zero_add, Nat.reduceAdd, Nat.reduceSub, List.replicate_succ, List.replicate_zero, List.getD_cons_zero, List.getD_cons_succ, List.set_cons_zero, List.set_cons_succ, OQ_some, negD]
    simp only [disp1, d01, OQ_some]
    repeat (refine And.intro (by decide) ?_)
    rw [add_lst (by have := hb.2; simp only [List.length_cons, List.length_nil]; omega)]
    simp only [OQ_some]
    exact hn _ _ ⟨_, _, hb.app (m := 20) ⟨(fmc ⟨okm2 (by kernel_rfl) (by kernel_rfl), by kernel_rfl⟩ (fmc ⟨okm1 (by kernel_rfl), by kernel_rfl⟩ (fmc ⟨okm1 (by kernel_rfl), by kernel_rfl⟩ (fmc ⟨okm2 (by kernel_rfl) (by kernel_rfl), by kernel_rfl⟩ (fmc ⟨okm1 (by kernel_rfl), by kernel_rfl⟩ (fmc ⟨okm1 (by kernel_rfl), by kernel_rfl⟩ (fmc ⟨okm_lst (by kernel_rfl), rfl⟩ (fmc ⟨okm_non, rfl⟩ (fmc ⟨okm1 (by kernel_rfl), by kernel_rfl⟩ fmn))))))))), by simp⟩, rfl, rfl⟩
  obtain ⟨xs, bent, hb, rfl, rfl⟩ := hP
  refine seq_run (fun δ' s' => ∃ (xs' : List Int) (o1 : Option D) (o2 : Option D) (o3 : Option D) (o4 : Option D) (o5 : Option D) (o6 : Option D), δ' = [some (.ref a), o3, o6, none, none, o1, o2, o4, o5, none] ∧ s' = (some (a, xs'), L0)) (fun E' hn => ?_) (fun δ' s' hP => ?_)
  · simp only [liftS, MS.ret, MS.retN, MS.ite, MS.seq, MS.nil, MS.drop, MS.set, MS.asg, MS.par, MS.par3, MS.no, MS.for, MS.aug, ME.var, ME.c, ME.op1, ME.op2, ME.of, ME.ite, ME.chain, MT.op2, MT.op1, MT.of, MT.and, MT.or, MT.not, MT.chain, MA.nil, MA.cons, ME.tup, ME.lst, ME.fn, ME.call, ME.lc, ME.sl, MO.no, MO.yes, MI.seq, MI.of, MI.ofA, ME.disp, ME.callA, ME.callR, ME.dc, ME.lc2, ME.sorted, List.map_cons, List.map_nil, List.cons_append, List.nil_append, List.append_nil, List.length_cons, List.length_nil, Nat.zero_add, Nat.reduceAdd, Nat.reduceSub, List.replicate_succ, List.replicate_zero, List.getD_cons_zero, List.getD_cons_succ, List.set_cons_zero, List.set_cons_succ, OQ_some, negD]
    refine ⟨trivial, tells_run hgd hb.1 ?_⟩
    simp only [OQ_some, blD_bl, Bool.not_true, if_false, Bool.false_eq_true]
    exact hn _ _ ⟨_, _, _, _, _, _, _, rfl, rfl⟩
  obtain ⟨xs, o1, o2, o3, o4, o5, o6, rfl, rfl⟩ := hP
  refine seq_run (fun δ' s' => ∃ (xs' : List Int) (row : List D), (∀ d ∈ row, isWordI d) ∧ (1 ≤ row.length) ∧ (row.length ≤ 9) ∧ δ' = [some (.ref a), o3, o6, some (.tup row), none, o1, o2, o4, o5, none] ∧ s' = (some (a, xs'), L0)) (fun E' hn => ?_) (fun δ' s' hP => ?_)
  · simp only [liftS, MS.ret, MS.retN, MS.ite, MS.seq, MS.nil, MS.drop, MS.set, MS.asg, MS.par, MS.par3, MS.no, MS.for, MS.aug, ME.var, ME.c, ME.op1, ME.op2, ME.of, ME.ite, ME.chain, MT.op2, MT.op1, MT.of, MT.and, MT.or, MT.not, MT.chain, MA.nil, MA.cons, ME.tup, ME.lst, ME.fn, ME.call, ME.lc, ME.sl, MO.no, MO.yes, MI.seq, MI.of, MI.ofA, ME.disp, ME.callA, ME.callR, ME.dc, ME.lc2, ME.sorted, List.map_cons, List.map_nil, List.cons_append, List.nil_append, List.append_nil, List.length_cons, List.length_nil, Nat.zero_add, Nat.reduceAdd, Nat.reduceSub, List.replicate_succ, List.replicate_zero, List.getD_cons_zero, List.getD_cons_succ, List.set_cons_zero, List.set_cons_succ, OQ_some, negD]
    refine ⟨trivial, dr_take (by decide) fun i xs1 h0 h1 => ?_⟩
    simp only [add_iiQ, OQ_some, rngD]
    rw [if_pos ⟨by omega, by omega⟩]
    simp only [OQ_some]
    refine ⟨by rw [List.length_map, List.length_range]; show _ ≤ 16777216; omega, lc_draw (C := isWordI) _ _ _ (fun d hd => ⟨_, rfl, fun xs Q hq => ?_⟩) fun ws s14 hlen hws => ?_⟩
    · simp only [wipeD, List.map_cons, List.map_nil, List.cons_append, List.nil_append, List.append_nil, List.length_cons, List.length_nil, Nat.zero_add, Nat.reduceAdd, Nat.reduceSub, List.replicate_succ, List.replicate_zero, List.getD_cons_zero, List.getD_cons_succ, List.set_cons_zero, List.set_cons_succ, OQ_some]
      exact ⟨trivial, dr_take (by decide) fun j xs2 h2 h3 => hq _ (word_of h2 (by omega)) _⟩
    rw [List.length_map, List.length_range] at hlen
    simp only [toTupD, OQ_some]
    exact hn _ _ ⟨_, ws, hws, by omega, by omega, rfl, rfl⟩
  obtain ⟨xs, row, hr0, hr1, hr2, rfl, rfl⟩ := hP
  refine seq_run (fun δ' s' => ∃ (xs' : List Int) , δ' = [some (.ref a), o3, o6, some (.tup row), some (.int row.length), o1, o2, o4, o5, none] ∧ s' = (some (a, xs'), L0)) (fun E' hn => ?_) (fun δ' s' hP => ?_)
  · simp only [liftS, MS.ret, MS.retN, MS.ite, MS.seq, MS.nil, MS.drop, MS.set, MS.asg, MS.par, MS.par3, MS.no, MS.for, MS.aug, ME.var, ME.c, ME.op1, ME.op2, ME.of, ME.ite, ME.chain, MT.op2, MT.op1, MT.of, MT.and, MT.or, MT.not, MT.chain, MA.nil, MA.cons, ME.tup, ME.lst, ME.fn, ME.call, ME.lc, ME.sl, MO.no, MO.yes, MI.seq, MI.of, MI.ofA, ME.disp, ME.callA, ME.callR, ME.dc, ME.lc2, ME.sorted, List.map_cons, List.map_nil, List.cons_append, List.nil_append, List.append_nil, List.length_cons, List.length_nil, Nat.zero_add, Nat.reduceAdd, Nat.reduceSub, List.replicate_succ, List.replicate_zero, List.getD_cons_zero, List.getD_cons_succ, List.set_cons_zero, List.set_cons_succ, OQ_some, negD]
    simp only [len_tup, OQ_some]
    exact hn _ _ ⟨_, rfl, rfl⟩
  obtain ⟨xs, rfl, rfl⟩ := hP
  refine seq_run (fun δ' s' => ∃ (xs' : List Int) (good : List D), (∀ d ∈ good, ok d ∧ piecesD row.length d = true) ∧ δ' = [some (.ref a), o3, some (.lst good), some (.tup row), some (.int row.length), o1, o2, o4, o5, none] ∧ s' = (some (a, xs'), L0)) (fun E' hn => ?_) (fun δ' s' hP => ?_)
  · simp only [liftS, MS.ret, MS.retN, MS.ite, MS.seq, MS.nil, MS.drop, MS.set, MS.asg, MS.par, MS.par3, MS.no, MS.for, MS.aug, ME.var, ME.c, ME.op1, ME.op2, ME.of, ME.ite, ME.chain, MT.op2, MT.op1, MT.of, MT.and, MT.or, MT.not, MT.chain, MA.nil, MA.cons, ME.tup, ME.lst, ME.fn, ME.call, ME.lc, ME.sl, MO.no, MO.yes, MI.seq, MI.of, MI.ofA, ME.disp, ME.callA, ME.callR, ME.dc, ME.lc2, ME.sorted, List.map_cons, List.map_nil, List.cons_append, List.nil_append, List.append_nil, List.length_cons, List.length_nil, Nat.zero_add, Nat.reduceAdd, Nat.reduceSub, List.replicate_succ, List.replicate_zero, List.getD_cons_zero, List.getD_cons_succ, List.set_cons_zero, List.set_cons_succ, OQ_some, negD]
    simp only [pow9, iiD, Option.map_some, OQ_some]
    repeat (refine And.intro (by decide) ?_)
    refine hn _ _ ⟨_, _, fmc ⟨by kernel_rfl, rfl⟩ (fmc ⟨by kernel_rfl, ?_⟩ (fmc ⟨by kernel_rfl, ?_⟩ (fmc ⟨by kernel_rfl, ?_⟩ fmn))), rfl, rfl⟩
    · simp only [piecesD, List.all_cons, List.all_nil, Bool.and_true]
      exact keep_t (by omega) (by omega) (by omega)
    · simp only [piecesD, List.all_cons, List.all_nil, Bool.and_true]
      rw [keep_t (by omega) (by omega) (by omega)]; kernel_rfl
    · simp only [piecesD, List.all_cons, List.all_nil, Bool.and_true]
      rw [keep_t (by omega) (by omega) (by omega)]; kernel_rfl
  obtain ⟨xs, good, hgd, rfl, rfl⟩ := hP
  refine seq_run (fun δ' s' => ∃ (xs' : List Int) (bent : List D), ((∀ d ∈ bent, ok d ∧ piecesD row.length d = false) ∧ bent.length ≤ 20) ∧ δ' = [some (.ref a), some (.lst bent), some (.lst good), some (.tup row), some (.int row.length), o1, o2, o4, o5, none] ∧ s' = (some (a, xs'), L0)) (fun E' hn => ?_) (fun δ' s' hP => ?_)
  · simp only [liftS, MS.ret, MS.retN, MS.ite, MS.seq, MS.nil, MS.drop, MS.set, MS.asg, MS.par, MS.par3, MS.no, MS.for, MS.aug, ME.var, ME.c, ME.op1, ME.op2, ME.of, ME.ite, ME.chain, MT.op2, MT.op1, MT.of, MT.and, MT.or, MT.not, MT.chain, MA.nil, MA.cons, ME.tup, ME.lst, ME.fn, ME.call, ME.lc, ME.sl, MO.no, MO.yes, MI.seq, MI.of, MI.ofA, ME.disp, ME.callA, ME.callR, ME.dc, ME.lc2, ME.sorted, List.map_cons, List.map_nil, List.cons_append, List.nil_append, List.append_nil, List.length_cons, List.length_nil, Nat.zero_add, Nat.reduceAdd, Nat.reduceSub, List.replicate_succ, List.replicate_zero, List.getD_cons_zero, List.getD_cons_succ, List.set_cons_zero, List.set_cons_succ, OQ_some, negD]
    simp only [add_iiQ, OQ_some]
    repeat (refine And.intro (by decide) ?_)
    exact hn _ _ ⟨_, _, ⟨(fmc ⟨by kernel_rfl, by simp only [piecesD, List.all_cons, List.all_nil, Bool.and_true]; exact keep_f (by omega)⟩ (fmc ⟨by kernel_rfl, by simp only [piecesD, List.all_cons, List.all_nil, Bool.and_true]; exact keep_f (by omega)⟩ (fmc ⟨by kernel_rfl, by simp only [piecesD, List.all_cons, List.all_nil, Bool.and_true]; exact keep_f (by omega)⟩ (fmc ⟨by kernel_rfl, by simp only [piecesD, List.all_cons, List.all_nil, Bool.and_true]; exact keep_f (by omega)⟩ (fmc ⟨by kernel_rfl, by kernel_rfl⟩ (fmc ⟨by kernel_rfl, by kernel_rfl⟩ (fmc ⟨by kernel_rfl, by kernel_rfl⟩ fmn))))))), by simp⟩, rfl, rfl⟩
  obtain ⟨xs, bent, hb, rfl, rfl⟩ := hP
  refine seq_run (fun δ' s' => ∃ (xs' : List Int) (bent : List D), ((∀ d ∈ bent, ok d ∧ piecesD row.length d = false) ∧ bent.length ≤ 40) ∧ δ' = [some (.ref a), some (.lst bent), some (.lst good), some (.tup row), some (.int row.length), o1, o2, o4, o5, none] ∧ s' = (some (a, xs'), L0)) (fun E' hn => ?_) (fun δ' s' hP => ?_)
  · simp only [liftS, MS.ret, MS.retN, MS.ite, MS.seq, MS.nil, MS.drop, MS.set, MS.asg, MS.par, MS.par3, MS.no, MS.for, MS.aug, ME.var, ME.c, ME.op1, ME.op2, ME.of, ME.ite, ME.chain, MT.op2, MT.op1, MT.of, MT.and, MT.or, MT.not, MT.chain, MA.nil, MA.cons, ME.tup, ME.lst, ME.fn, ME.call, ME.lc, ME.sl, MO.no, MO.yes, MI.seq, MI.of, MI.ofA, ME.disp, ME.callA, ME.callR, ME.dc, ME.lc2, ME.sorted, List.map_cons, List.map_nil, List.cons_append, List.nil_append, List.append_nil, List.length_cons, List.length_nil, Nat.zero_add, Nat.reduceAdd, Nat.reduceSub, List.replicate_succ, List.replicate_zero, List.getD_cons_zero, List.getD_cons_succ, List.set_cons_zero, List.set_cons_succ, OQ_some, negD]
    repeat (refine And.intro (by decide) ?_)
    rw [add_lst (by have := hb.2; simp only [List.length_cons, List.length_nil]; omega)]
    simp only [OQ_some]
    exact hn _ _ ⟨_, _, ⟨fma hb.1 (fmc ⟨by kernel_rfl, by kernel_rfl⟩ (fmc ⟨by kernel_rfl, by kernel_rfl⟩ (fmc ⟨by kernel_rfl, by kernel_rfl⟩ (fmc ⟨by kernel_rfl, by kernel_rfl⟩ (fmc ⟨by kernel_rfl, by kernel_rfl⟩ (fmc ⟨by kernel_rfl, by kernel_rfl⟩ (fmc ⟨by kernel_rfl, by kernel_rfl⟩ fmn))))))), by rw [List.length_append]; have := hb.2; simp only [List.length_cons, List.length_nil]; omega⟩, rfl, rfl⟩
  obtain ⟨xs, bent, hb, rfl, rfl⟩ := hP
  obtain ⟨ho, hrd⟩ := row_ok hr0
  exact ⟨.tup row, good, bent, rfl, rfl, rfl, fun d hd => ⟨⟨ho, hrd, (hgd d hd).1⟩, (hgd d hd).2⟩, fun d hd => ⟨⟨ho, hrd, (hb.1 d hd).1⟩, (hb.1 d hd).2⟩, fun L => h _ L⟩
end
end G


set_option Elab.async false
set_option linter.all false
set_option maxRecDepth 100000
set_option maxHeartbeats 4000000
/-! what the head has written, by looks -/
namespace G
open PySem PySem.Spec PyProof.Rows L2 NdefX LamX
def scD : Value → D → Bool
  | .int i _, .int j => decide (i = j)
  | .str x _, .str y => decide (x = y)
  | _, _ => false
theorem scD_ok {u : Value} {d : D} (h : scD u d = true) : ∃ v, L2.RelV v u ∧ ∀ (K : PySem.W.Frag) (F : Hp), IsD K F d v := by
  unfold scD at h
  split at h
  · rename_i i t j
    have e : i = j := of_decide_eq_true h
    subst e
    exact ⟨.int i, ⟨t, rfl⟩, fun K F => isD_int.mpr rfl⟩
  · rename_i x t y
    have e : x = y := of_decide_eq_true h
    subst e
    exact ⟨.str x, ⟨t, rfl⟩, fun K F => isD_str.mpr rfl⟩
  · cases h
def scDs : List Value → List D → Bool
  | [], [] => true
  | u :: us, d :: ds => scD u d && scDs us ds
  | _, _ => false
theorem scDs_ok : ∀ {us : List Value} {ds : List D}, scDs us ds = true → ∃ vs, Vals vs us ∧ ∀ (K : PySem.W.Frag) (F : Hp), IsDs K F ds vs
  | [], [], _ => ⟨[], .nil, fun _ _ => .nil⟩
  | u :: us, d :: ds, h => by
    unfold scDs at h
    have h := Bool.and_eq_true_iff.mp h
    obtain ⟨v, h1, h2⟩ := scD_ok h.1
    obtain ⟨vs, h3, h4⟩ := scDs_ok h.2
    exact ⟨v :: vs, .cons h1 h3, fun K F => .cons (h2 K F) (h4 K F)⟩
  | [], _ :: _, h => by cases h
  | _ :: _, [], h => by cases h
def tupB (K : PySem.W.Frag) (a : Addr) (ds : List D) : Bool := match K.lookup a with
  | some ⟨.type n, _, .seq its _, _⟩ => n == "tuple" && decide (its.size ≤ 1000) && scDs its.toList ds
  | _ => false
def gloB (K : PySem.W.Frag) (x : Str) : D → Bool
  | .tup ds => match PySem.W.nsIn K mainGlobals x with
    | some (some (.ref a)) => tupB K a ds
    | _ => false
  | d => match PySem.W.nsIn K mainGlobals x with
    | some (some u) => scD u d
    | _ => false
section
variable {K : PySem.W.Frag} {h : Heap} {mg : Str → Option Value} {x : Str}
theorem glob_by {d : D} (X : K.In h) (G : h.Ns mainGlobals mg) (b : gloB K x d = true) : GlobD K mg x d := by
  unfold gloB at b
  split at b
  · rename_i ds
    split at b
    · rename_i a en
      unfold tupB at b
      split at b
      · rename_i n dd its m sl el
        simp only [Bool.and_eq_true, beq_iff_eq, decide_eq_true_eq] at b
        obtain ⟨⟨rfl, b2⟩, b3⟩ := b
        obtain ⟨vs, h1, h2⟩ := scDs_ok b3
        have sz : (1000 : Nat) ≤ sizeLine := by decide
        have hl : vs.length = its.size := by rw [h1.length]; simp
        refine ⟨.ref a, .ref a, PySem.W.mg_of X G en, rfl, fun F => isD_tup.mpr ⟨?_, a, vs, rfl, .inr ⟨_, its, m, el, rfl, rfl, Nat.le_trans b2 sz, h1⟩, h2 K F⟩⟩
        rw [← (h2 K F).length, hl]
        exact Nat.le_trans b2 sz
      · cases b
    · cases b
  · split at b
    · rename_i u en
      obtain ⟨v, h1, h2⟩ := scD_ok b
      exact ⟨u, v, PySem.W.mg_of X G en, h1, h2 K⟩
    · cases b
def freeB (K : PySem.W.Frag) (x : Str) : Bool := match PySem.W.nsIn K mainGlobals x with
  | some none => true
  | _ => false
theorem free_by (X : K.In h) (G : h.Ns mainGlobals mg) (b : freeB K x = true) : mg x = none := by
  unfold freeB at b
  split at b
  · rename_i e
    exact PySem.W.mg_none_of X G e
  · cases b
def bls : List Str := ["isinstance", "len", "all", "any", "sum", "list", "tuple", "int", "abs", "min", "sorted", "range", "zip", "reversed", "bool", "str", "dict"]
theorem bls_by (X : K.In h) (G : h.Ns mainGlobals mg) (b : (bls.all fun x => freeB K x) = true) : Bls mg := by
  have f : ∀ x ∈ bls, mg x = none := fun x hx => free_by X G (List.all_eq_true.mp b x hx)
  unfold bls at f
  constructor <;> (apply f; simp)
/-! defs -/
def gA (K : PySem.W.Frag) (x : Str) : Addr := match PySem.W.nsIn K mainGlobals x with
  | some (some (.ref a)) => a
  | _ => 0
def obA (K : PySem.W.Frag) (a : Addr) : Obj := (K.lookup a).getD { cls := .none }
def fdA (K : PySem.W.Frag) (a : Addr) : FuncData := match (obA K a).data with
  | .func fd => fd
  | _ => default
def defO (K : PySem.W.Frag) (a : Addr) (q : Str) (st : Stmt) : Obj := ⟨(obA K a).cls, (obA K a).dict, .func (PySem.W.fnOf q q (defArgs st) (defBody st) (defScope st) .none (fdA K a).kwdefaults (fdA K a).doc (fdA K a).pyModule (fdA K a).annotations (fdA K a).code (fdA K a).closureTuple), (obA K a).slots⟩
theorem df_by {a : Addr} {q : Str} {st : Stmt} {ps : List Str} (X : K.In h) (G : h.Ns mainGlobals mg) (n : PySem.W.nsIn K mainGlobals x = some (some (.ref a))) (l : K.lookup a = some (defO K a q st)) (c : (PySem.W.codeIn K (fdA K a).code q && PySem.W.keepIn K (.ref a)) = true)
    (hb : ∀ (kV doc pm : Value) (an : Option Addr) (cdv ct : Value) (us : List Value), us.length = ps.length → bindArgs (PySem.W.fnOf q q (defArgs st) (defBody st) (defScope st) .none kV doc pm an cdv ct) ⟨us, []⟩ = pure (ps.zip us)) : Df K mg x q st ps := by
  have c := Bool.and_eq_true_iff.mp c
  have F := fun_mk (st := st) l c.1 c.2
  exact ⟨a, _, F, PySem.W.mg_of X G n, F.binds hb⟩
theorem fun_by {a : Addr} {q : Str} {st : Stmt} (X : K.In h) (G : h.Ns mainGlobals mg) (n : PySem.W.nsIn K mainGlobals x = some (some (.ref a))) (l : K.lookup a = some (defO K a q st)) (c : (PySem.W.codeIn K (fdA K a).code q && PySem.W.keepIn K (.ref a)) = true) : ∃ fa fd, Fun K q q st fa fd ∧ mg x = some (.ref fa) := by
  have c := Bool.and_eq_true_iff.mp c
  exact ⟨a, _, fun_mk (st := st) l c.1 c.2, PySem.W.mg_of X G n⟩
theorem funC_by {a cc : Addr} {q : Str} {st : Stmt} (l : K.lookup a = some (defO K a q st)) (c : (PySem.W.codeIn K (fdA K a).code q && PySem.W.keepIn K (.ref a)) = true) (e : (fdA K a).code = .ref cc) : FunC K q st a cc := by
  have c := Bool.and_eq_true_iff.mp c
  unfold defO at l
  rw [e] at l c
  exact ⟨⟨_, _, _, _, _, _, _, _, l⟩, c.1, c.2⟩
/-! dicts -/
def entB : List DictEntry → List (Str × D) → Bool
  | [], [] => true
  | e :: es, p :: ps => (match e.key with
    | .str x _ => decide (x = p.1)
    | _ => false) && scD e.val p.2 && entB es ps
  | _, _ => false
theorem ent_find (z : Str) : ∀ {es : List DictEntry} {ps : List (Str × D)}, entB es ps = true → (es.any (·.refKey) = false) ∧ match ps.lookup z with
    | none => es.find? (·.key.isStr z) = none
    | some d => ∃ e, es.find? (·.key.isStr z) = some e ∧ scD e.val d = true
  | [], [], _ => ⟨rfl, rfl⟩
  | [], _ :: _, h => by cases h
  | _ :: _, [], h => by cases h
  | e :: es, (k, d) :: ps, h => by
    unfold entB at h
    have h := Bool.and_eq_true_iff.mp h
    have h1 := Bool.and_eq_true_iff.mp h.1
    obtain ⟨ih1, ih2⟩ := ent_find z h.2
    obtain ⟨hk, hv⟩ := h1
    split at hk
    · rename_i x t ek
      have e1 : x = k := of_decide_eq_true hk
      subst e1
      refine ⟨?_, ?_⟩
      · rw [List.any_cons, ih1, Bool.or_false]
        unfold DictEntry.refKey
        rw [ek]
      · have is_ : e.key.isStr z = (x == z) := by rw [ek]; rfl
        by_cases q : x = z
        · subst q
          rw [List.lookup_cons_self]
          exact ⟨e, List.find?_cons_of_pos (by rw [is_]; simp), hv⟩
        · have q2 : (z == x) = false := by
            simp only [beq_eq_false_iff_ne, ne_eq]
            exact fun w => q w.symm
          have fn : (e :: es).find? (·.key.isStr z) = es.find? (·.key.isStr z) := List.find?_cons_of_neg (by rw [is_]; simpa using q)
          rw [List.lookup_cons, q2, fn]
          exact ih2
    · cases hk
def tblB (K : PySem.W.Frag) (a : Addr) (tbl : List (Str × D)) : Bool := match K.lookup a with
  | some ⟨.type n, none, .dict es _, sl⟩ => n == "dict" && decide (sl = #[]) && entB es.toList tbl && !(a == sysModules)
  | _ => false
def esA (K : PySem.W.Frag) (a : Addr) : List DictEntry := match (obA K a).data with
  | .dict es _ => es.toList
  | _ => []
theorem keysLit_by {P : Params} : ∀ {es : List DictEntry} {tbl : List (Str × D)}, entB es tbl = true → es.map (·.hash) = tbl.map (fun p => PyData.keyHash P p.1) → PySem.W.KeysLit P es
  | [], _, _, _ => trivial
  | _ :: _, [], h, _ => by cases h
  | e :: es, (k, d) :: ps, h, q => by
    unfold entB at h
    have h := Bool.and_eq_true_iff.mp h
    have h1 := Bool.and_eq_true_iff.mp h.1
    rw [List.map_cons, List.map_cons] at q
    have q1 := (List.cons.inj q)
    obtain ⟨hk, _⟩ := h1
    split at hk
    · rename_i x t ek
      have e1 : x = k := of_decide_eq_true hk
      subst e1
      exact ⟨⟨_, t, ek, q1.1⟩, keysLit_by h.2 q1.2⟩
    · cases hk
theorem tbl_by {w : World} {a : Addr} {tbl : List (Str × D)} (X : K.In h) (G : h.Ns mainGlobals mg) (n : PySem.W.nsIn K mainGlobals x = some (some (.ref a))) (b : tblB K a tbl = true) (q : (esA K a).map (·.hash) = tbl.map (fun p => PyData.keyHash w.params p.1)) : GlobT K w mg x tbl := by
  unfold tblB at b
  split at b
  · rename_i nn es m sl el
    simp only [Bool.and_eq_true, beq_iff_eq, decide_eq_true_eq, Bool.not_eq_true'] at b
    obtain ⟨⟨⟨rfl, rfl⟩, b3⟩, b4⟩ := b
    have ee : esA K a = es.toList := by unfold esA obA; rw [el]; rfl
    rw [ee] at q
    refine ⟨a, es, m, PySem.W.mg_of X G n, ⟨el, keysLit_by b3 q, b4⟩, fun z => ?_⟩
    obtain ⟨f1, f2⟩ := ent_find z b3
    cases lz : tbl.lookup z with
    | none =>
      rw [lz] at f2
      show PySem.W.nsIn K a z = some none
      unfold PySem.W.nsIn
      rw [el]
      show (match es.toList.find? (·.key.isStr z) with
        | some e => some (some e.val)
        | none => if es.toList.any (·.refKey) then none else some none) = some none
      rw [show es.toList.find? (·.key.isStr z) = none from f2]
      show (if es.toList.any (·.refKey) = true then none else some none) = some none
      rw [f1]; rfl
    | some dd =>
      rw [lz] at f2
      obtain ⟨e, f3, f4⟩ := f2
      obtain ⟨v, r1, r2⟩ := scD_ok f4
      refine ⟨e.val, v, ?_, r1, r2 K⟩
      unfold PySem.W.nsIn
      rw [el]
      show (match es.toList.find? (·.key.isStr z) with
        | some e => some (some e.val)
        | none => if es.toList.any (·.refKey) then none else some none) = some (some e.val)
      rw [show es.toList.find? (·.key.isStr z) = some e from f3]
  · cases b
end
end G

set_option Elab.async false
set_option linter.all false
set_option maxRecDepth 100000
set_option maxHeartbeats 4000000
/-! the facts of the head; the law's promise there -/
namespace G
open PySem PySem.Spec PyProof.Rows L2 NdefX LamX
def cA (K : PySem.W.Frag) : Addr := match (fdA K (gA K "_law_are_rows_due")).code with
  | .ref c => c
  | _ => 0
def isLst (o : Obj) : Bool := match o.cls with
  | .type n => n == "list"
  | _ => false
structure Fx (K : PySem.W.Frag) (w : World) (PT : Addr) : Prop where
  b : (bls.all fun x => freeB K x) = true
  k_MOST_SIGNS_errors : gloB K "MOST_SIGNS_errors" (.int 8) = true
  k_MOST_WORD : gloB K "MOST_WORD" (.int 65535) = true
  k_MOST_PAGE_calls : gloB K "MOST_PAGE_calls" (.int 4095) = true
  k_MOST_MANY : gloB K "MOST_MANY" (.int 4096) = true
  k_MOST_FROM : gloB K "MOST_FROM" (.int 95) = true
  k_MOST_FILE : gloB K "MOST_FILE" (.int 1536) = true
  k_MOST_SIZE : gloB K "MOST_SIZE" (.int 65535) = true
  k_MOST_POSTED : gloB K "MOST_POSTED" (.int 16) = true
  k_RIGHTS_calls : gloB K "RIGHTS_calls" (.tup [(.str "r"), (.str "rw")]) = true
  t_FORMS_calls_n : PySem.W.nsIn K mainGlobals "FORMS_calls" = some (some (.ref (gA K "FORMS_calls")))
  t_FORMS_calls_b : tblB K (gA K "FORMS_calls") tb_FORMS_calls = true
  t_FORMS_calls_h : (esA K (gA K "FORMS_calls")).map (·.hash) = tb_FORMS_calls.map (fun p => PyData.keyHash w.params p.1)
  k_MOST_ASKINGS : gloB K "MOST_ASKINGS" (.int 16) = true
  k_MOST_PAGE_costs : gloB K "MOST_PAGE_costs" (.int 7) = true
  t_FORMS_courses_n : PySem.W.nsIn K mainGlobals "FORMS_courses" = some (some (.ref (gA K "FORMS_courses")))
  t_FORMS_courses_b : tblB K (gA K "FORMS_courses") tb_FORMS_courses = true
  t_FORMS_courses_h : (esA K (gA K "FORMS_courses")).map (·.hash) = tb_FORMS_courses.map (fun p => PyData.keyHash w.params p.1)
  k_MOST_THREADS : gloB K "MOST_THREADS" (.int 4) = true
  k_MOST_DOINGS : gloB K "MOST_DOINGS" (.int 6) = true
  k_MOST_ROWS : gloB K "MOST_ROWS" (.int 12) = true
  k_PUT_orders : gloB K "PUT_orders" (.str "put") = true
  k_FENCE : gloB K "FENCE" (.tup [(.str "fence")]) = true
  t_NAMED_n : PySem.W.nsIn K mainGlobals "NAMED" = some (some (.ref (gA K "NAMED")))
  t_NAMED_b : tblB K (gA K "NAMED") tb_NAMED = true
  t_NAMED_h : (esA K (gA K "NAMED")).map (·.hash) = tb_NAMED.map (fun p => PyData.keyHash w.params p.1)
  k_KEEP : gloB K "KEEP" (.str "keep") = true
  k_PUT_patches : gloB K "PUT_patches" (.str "put") = true
  k_MOST_LINES : gloB K "MOST_LINES" (.int 200) = true
  k_MOST_DEEP : gloB K "MOST_DEEP" (.int 12) = true
  k_MOST_WORTH : gloB K "MOST_WORTH" (.int 8) = true
  k_MOST_ROUNDS : gloB K "MOST_ROUNDS" (.int 1000) = true
  k_TWO : gloB K "TWO" (.tup [(.str "sum"), (.str "less"), (.str "times")]) = true
  k_COMPARED : gloB K "COMPARED" (.tup [(.str "same"), (.str "below")]) = true
  t_FORMS_programs_n : PySem.W.nsIn K mainGlobals "FORMS_programs" = some (some (.ref (gA K "FORMS_programs")))
  t_FORMS_programs_b : tblB K (gA K "FORMS_programs") tb_FORMS_programs = true
  t_FORMS_programs_h : (esA K (gA K "FORMS_programs")).map (·.hash) = tb_FORMS_programs.map (fun p => PyData.keyHash w.params p.1)
  k_MOST_FRAMES : gloB K "MOST_FRAMES" (.int 1024) = true
  k_PAGES : gloB K "PAGES" (.int 4096) = true
  k_RIGHTS_sharing : gloB K "RIGHTS_sharing" (.tup [(.int 1), (.int 3)]) = true
  k_MOST_PAGE_shortrows : gloB K "MOST_PAGE_shortrows" (.int 30) = true
  k_MOST_SIGNS_shortrows : gloB K "MOST_SIGNS_shortrows" (.int 2000) = true
  k_MOST_TIMES : gloB K "MOST_TIMES" (.int 1000000) = true
  k_PAGE_SIGN : gloB K "PAGE_SIGN" (.str "page") = true
  k_RULE : gloB K "RULE" (.str "rule") = true
  d_is_integer_n : PySem.W.nsIn K mainGlobals "is_integer" = some (some (.ref (gA K "is_integer")))
  d_is_integer_l : K.lookup (gA K "is_integer") = some (defO K (gA K "is_integer") "is_integer" s_is_integer)
  d_is_integer_c : (PySem.W.codeIn K (fdA K (gA K "is_integer")).code "is_integer" && PySem.W.keepIn K (.ref (gA K "is_integer"))) = true
  d_is_within_n : PySem.W.nsIn K mainGlobals "is_within" = some (some (.ref (gA K "is_within")))
  d_is_within_l : K.lookup (gA K "is_within") = some (defO K (gA K "is_within") "is_within" s_is_within)
  d_is_within_c : (PySem.W.codeIn K (fdA K (gA K "is_within")).code "is_within" && PySem.W.keepIn K (.ref (gA K "is_within"))) = true
  d_is_small_n : PySem.W.nsIn K mainGlobals "is_small" = some (some (.ref (gA K "is_small")))
  d_is_small_l : K.lookup (gA K "is_small") = some (defO K (gA K "is_small") "is_small" s_is_small)
  d_is_small_c : (PySem.W.codeIn K (fdA K (gA K "is_small")).code "is_small" && PySem.W.keepIn K (.ref (gA K "is_small"))) = true
  d_is_name_n : PySem.W.nsIn K mainGlobals "is_name" = some (some (.ref (gA K "is_name")))
  d_is_name_l : K.lookup (gA K "is_name") = some (defO K (gA K "is_name") "is_name" s_is_name)
  d_is_name_c : (PySem.W.codeIn K (fdA K (gA K "is_name")).code "is_name" && PySem.W.keepIn K (.ref (gA K "is_name"))) = true
  d_is_word_n : PySem.W.nsIn K mainGlobals "is_word" = some (some (.ref (gA K "is_word")))
  d_is_word_l : K.lookup (gA K "is_word") = some (defO K (gA K "is_word") "is_word" s_is_word)
  d_is_word_c : (PySem.W.codeIn K (fdA K (gA K "is_word")).code "is_word" && PySem.W.keepIn K (.ref (gA K "is_word"))) = true
  d_are_words_n : PySem.W.nsIn K mainGlobals "are_words" = some (some (.ref (gA K "are_words")))
  d_are_words_l : K.lookup (gA K "are_words") = some (defO K (gA K "are_words") "are_words" s_are_words)
  d_are_words_c : (PySem.W.codeIn K (fdA K (gA K "are_words")).code "are_words" && PySem.W.keepIn K (.ref (gA K "are_words"))) = true
  d_check_n : PySem.W.nsIn K mainGlobals "check" = some (some (.ref (gA K "check")))
  d_check_l : K.lookup (gA K "check") = some (defO K (gA K "check") "check" s_check)
  d_check_c : (PySem.W.codeIn K (fdA K (gA K "check")).code "check" && PySem.W.keepIn K (.ref (gA K "check"))) = true
  d_is_page_n : PySem.W.nsIn K mainGlobals "is_page" = some (some (.ref (gA K "is_page")))
  d_is_page_l : K.lookup (gA K "is_page") = some (defO K (gA K "is_page") "is_page" s_is_page)
  d_is_page_c : (PySem.W.codeIn K (fdA K (gA K "is_page")).code "is_page" && PySem.W.keepIn K (.ref (gA K "is_page"))) = true
  d_are_rights_n : PySem.W.nsIn K mainGlobals "are_rights" = some (some (.ref (gA K "are_rights")))
  d_are_rights_l : K.lookup (gA K "are_rights") = some (defO K (gA K "are_rights") "are_rights" s_are_rights)
  d_are_rights_c : (PySem.W.codeIn K (fdA K (gA K "are_rights")).code "are_rights" && PySem.W.keepIn K (.ref (gA K "are_rights"))) = true
  d_is_asked_kind_n : PySem.W.nsIn K mainGlobals "is_asked_kind" = some (some (.ref (gA K "is_asked_kind")))
  d_is_asked_kind_l : K.lookup (gA K "is_asked_kind") = some (defO K (gA K "is_asked_kind") "is_asked_kind" s_is_asked_kind)
  d_is_asked_kind_c : (PySem.W.codeIn K (fdA K (gA K "is_asked_kind")).code "is_asked_kind" && PySem.W.keepIn K (.ref (gA K "is_asked_kind"))) = true
  d_is_length_n : PySem.W.nsIn K mainGlobals "is_length" = some (some (.ref (gA K "is_length")))
  d_is_length_l : K.lookup (gA K "is_length") = some (defO K (gA K "is_length") "is_length" s_is_length)
  d_is_length_c : (PySem.W.codeIn K (fdA K (gA K "is_length")).code "is_length" && PySem.W.keepIn K (.ref (gA K "is_length"))) = true
  d_is_part_calls_n : PySem.W.nsIn K mainGlobals "is_part_calls" = some (some (.ref (gA K "is_part_calls")))
  d_is_part_calls_l : K.lookup (gA K "is_part_calls") = some (defO K (gA K "is_part_calls") "is_part" s_is_part_calls)
  d_is_part_calls_c : (PySem.W.codeIn K (fdA K (gA K "is_part_calls")).code "is_part" && PySem.W.keepIn K (.ref (gA K "is_part_calls"))) = true
  d_has_form_n : PySem.W.nsIn K mainGlobals "has_form" = some (some (.ref (gA K "has_form")))
  d_has_form_l : K.lookup (gA K "has_form") = some (defO K (gA K "has_form") "has_form" s_has_form)
  d_has_form_c : (PySem.W.codeIn K (fdA K (gA K "has_form")).code "has_form" && PySem.W.keepIn K (.ref (gA K "has_form"))) = true
  d_is_call_calls_n : PySem.W.nsIn K mainGlobals "is_call_calls" = some (some (.ref (gA K "is_call_calls")))
  d_is_call_calls_l : K.lookup (gA K "is_call_calls") = some (defO K (gA K "is_call_calls") "is_call" s_is_call_calls)
  d_is_call_calls_c : (PySem.W.codeIn K (fdA K (gA K "is_call_calls")).code "is_call" && PySem.W.keepIn K (.ref (gA K "is_call_calls"))) = true
  d_is_call_world_n : PySem.W.nsIn K mainGlobals "is_call_world" = some (some (.ref (gA K "is_call_world")))
  d_is_call_world_l : K.lookup (gA K "is_call_world") = some (defO K (gA K "is_call_world") "is_call" s_is_call_world)
  d_is_call_world_c : (PySem.W.codeIn K (fdA K (gA K "is_call_world")).code "is_call" && PySem.W.keepIn K (.ref (gA K "is_call_world"))) = true
  d_is_asking_n : PySem.W.nsIn K mainGlobals "is_asking" = some (some (.ref (gA K "is_asking")))
  d_is_asking_l : K.lookup (gA K "is_asking") = some (defO K (gA K "is_asking") "is_asking" s_is_asking)
  d_is_asking_c : (PySem.W.codeIn K (fdA K (gA K "is_asking")).code "is_asking" && PySem.W.keepIn K (.ref (gA K "is_asking"))) = true
  d_are_askings_n : PySem.W.nsIn K mainGlobals "are_askings" = some (some (.ref (gA K "are_askings")))
  d_are_askings_l : K.lookup (gA K "are_askings") = some (defO K (gA K "are_askings") "are_askings" s_are_askings)
  d_are_askings_c : (PySem.W.codeIn K (fdA K (gA K "are_askings")).code "are_askings" && PySem.W.keepIn K (.ref (gA K "are_askings"))) = true
  d_is_count_courses_n : PySem.W.nsIn K mainGlobals "is_count_courses" = some (some (.ref (gA K "is_count_courses")))
  d_is_count_courses_l : K.lookup (gA K "is_count_courses") = some (defO K (gA K "is_count_courses") "is_count" s_is_count_courses)
  d_is_count_courses_c : (PySem.W.codeIn K (fdA K (gA K "is_count_courses")).code "is_count" && PySem.W.keepIn K (.ref (gA K "is_count_courses"))) = true
  d_are_indexes_n : PySem.W.nsIn K mainGlobals "are_indexes" = some (some (.ref (gA K "are_indexes")))
  d_are_indexes_l : K.lookup (gA K "are_indexes") = some (defO K (gA K "are_indexes") "are_indexes" s_are_indexes)
  d_are_indexes_c : (PySem.W.codeIn K (fdA K (gA K "are_indexes")).code "are_indexes" && PySem.W.keepIn K (.ref (gA K "are_indexes"))) = true
  d_is_part_courses_n : PySem.W.nsIn K mainGlobals "is_part_courses" = some (some (.ref (gA K "is_part_courses")))
  d_is_part_courses_l : K.lookup (gA K "is_part_courses") = some (defO K (gA K "is_part_courses") "is_part" s_is_part_courses)
  d_is_part_courses_c : (PySem.W.codeIn K (fdA K (gA K "is_part_courses")).code "is_part" && PySem.W.keepIn K (.ref (gA K "is_part_courses"))) = true
  d_is_step_n : PySem.W.nsIn K mainGlobals "is_step" = some (some (.ref (gA K "is_step")))
  d_is_step_l : K.lookup (gA K "is_step") = some (defO K (gA K "is_step") "is_step" s_is_step)
  d_is_step_c : (PySem.W.codeIn K (fdA K (gA K "is_step")).code "is_step" && PySem.W.keepIn K (.ref (gA K "is_step"))) = true
  d_is_course_n : PySem.W.nsIn K mainGlobals "is_course" = some (some (.ref (gA K "is_course")))
  d_is_course_l : K.lookup (gA K "is_course") = some (defO K (gA K "is_course") "is_course" s_is_course)
  d_is_course_c : (PySem.W.codeIn K (fdA K (gA K "is_course")).code "is_course" && PySem.W.keepIn K (.ref (gA K "is_course"))) = true
  d_is_count_buffers_n : PySem.W.nsIn K mainGlobals "is_count_buffers" = some (some (.ref (gA K "is_count_buffers")))
  d_is_count_buffers_l : K.lookup (gA K "is_count_buffers") = some (defO K (gA K "is_count_buffers") "is_count" s_is_count_buffers)
  d_is_count_buffers_c : (PySem.W.codeIn K (fdA K (gA K "is_count_buffers")).code "is_count" && PySem.W.keepIn K (.ref (gA K "is_count_buffers"))) = true
  d_is_doing_n : PySem.W.nsIn K mainGlobals "is_doing" = some (some (.ref (gA K "is_doing")))
  d_is_doing_l : K.lookup (gA K "is_doing") = some (defO K (gA K "is_doing") "is_doing" s_is_doing)
  d_is_doing_c : (PySem.W.codeIn K (fdA K (gA K "is_doing")).code "is_doing" && PySem.W.keepIn K (.ref (gA K "is_doing"))) = true
  d_names_of_n : PySem.W.nsIn K mainGlobals "names_of" = some (some (.ref (gA K "names_of")))
  d_names_of_l : K.lookup (gA K "names_of") = some (defO K (gA K "names_of") "names_of" s_names_of)
  d_names_of_c : (PySem.W.codeIn K (fdA K (gA K "names_of")).code "names_of" && PySem.W.keepIn K (.ref (gA K "names_of"))) = true
  d_is_thread_n : PySem.W.nsIn K mainGlobals "is_thread" = some (some (.ref (gA K "is_thread")))
  d_is_thread_l : K.lookup (gA K "is_thread") = some (defO K (gA K "is_thread") "is_thread" s_is_thread)
  d_is_thread_c : (PySem.W.codeIn K (fdA K (gA K "is_thread")).code "is_thread" && PySem.W.keepIn K (.ref (gA K "is_thread"))) = true
  d_are_threads_n : PySem.W.nsIn K mainGlobals "are_threads" = some (some (.ref (gA K "are_threads")))
  d_are_threads_l : K.lookup (gA K "are_threads") = some (defO K (gA K "are_threads") "are_threads" s_are_threads)
  d_are_threads_c : (PySem.W.codeIn K (fdA K (gA K "are_threads")).code "are_threads" && PySem.W.keepIn K (.ref (gA K "are_threads"))) = true
  d_is_row_n : PySem.W.nsIn K mainGlobals "is_row" = some (some (.ref (gA K "is_row")))
  d_is_row_l : K.lookup (gA K "is_row") = some (defO K (gA K "is_row") "is_row" s_is_row)
  d_is_row_c : (PySem.W.codeIn K (fdA K (gA K "is_row")).code "is_row" && PySem.W.keepIn K (.ref (gA K "is_row"))) = true
  r_check_rows_n : PySem.W.nsIn K mainGlobals "check_rows" = some (some (.ref (gA K "check_rows")))
  r_check_rows_l : K.lookup (gA K "check_rows") = some (defO K (gA K "check_rows") "check_rows" s_check_rows)
  r_check_rows_c : (PySem.W.codeIn K (fdA K (gA K "check_rows")).code "check_rows" && PySem.W.keepIn K (.ref (gA K "check_rows"))) = true
  d_is_piece_n : PySem.W.nsIn K mainGlobals "is_piece" = some (some (.ref (gA K "is_piece")))
  d_is_piece_l : K.lookup (gA K "is_piece") = some (defO K (gA K "is_piece") "is_piece" s_is_piece)
  d_is_piece_c : (PySem.W.codeIn K (fdA K (gA K "is_piece")).code "is_piece" && PySem.W.keepIn K (.ref (gA K "is_piece"))) = true
  d_is_patch_n : PySem.W.nsIn K mainGlobals "is_patch" = some (some (.ref (gA K "is_patch")))
  d_is_patch_l : K.lookup (gA K "is_patch") = some (defO K (gA K "is_patch") "is_patch" s_is_patch)
  d_is_patch_c : (PySem.W.codeIn K (fdA K (gA K "is_patch")).code "is_patch" && PySem.W.keepIn K (.ref (gA K "is_patch"))) = true
  d_are_pieces_n : PySem.W.nsIn K mainGlobals "are_pieces" = some (some (.ref (gA K "are_pieces")))
  d_are_pieces_l : K.lookup (gA K "are_pieces") = some (defO K (gA K "are_pieces") "are_pieces" s_are_pieces)
  d_are_pieces_c : (PySem.W.codeIn K (fdA K (gA K "are_pieces")).code "are_pieces" && PySem.W.keepIn K (.ref (gA K "are_pieces"))) = true
  d_is_worth_n : PySem.W.nsIn K mainGlobals "is_worth" = some (some (.ref (gA K "is_worth")))
  d_is_worth_l : K.lookup (gA K "is_worth") = some (defO K (gA K "is_worth") "is_worth" s_is_worth)
  d_is_worth_c : (PySem.W.codeIn K (fdA K (gA K "is_worth")).code "is_worth" && PySem.W.keepIn K (.ref (gA K "is_worth"))) = true
  d_is_condition_n : PySem.W.nsIn K mainGlobals "is_condition" = some (some (.ref (gA K "is_condition")))
  d_is_condition_l : K.lookup (gA K "is_condition") = some (defO K (gA K "is_condition") "is_condition" s_is_condition)
  d_is_condition_c : (PySem.W.codeIn K (fdA K (gA K "is_condition")).code "is_condition" && PySem.W.keepIn K (.ref (gA K "is_condition"))) = true
  d_is_part_programs_n : PySem.W.nsIn K mainGlobals "is_part_programs" = some (some (.ref (gA K "is_part_programs")))
  d_is_part_programs_l : K.lookup (gA K "is_part_programs") = some (defO K (gA K "is_part_programs") "is_part" s_is_part_programs)
  d_is_part_programs_c : (PySem.W.codeIn K (fdA K (gA K "is_part_programs")).code "is_part" && PySem.W.keepIn K (.ref (gA K "is_part_programs"))) = true
  d_is_line_n : PySem.W.nsIn K mainGlobals "is_line" = some (some (.ref (gA K "is_line")))
  d_is_line_l : K.lookup (gA K "is_line") = some (defO K (gA K "is_line") "is_line" s_is_line)
  d_is_line_c : (PySem.W.codeIn K (fdA K (gA K "is_line")).code "is_line" && PySem.W.keepIn K (.ref (gA K "is_line"))) = true
  d_inner_lines_n : PySem.W.nsIn K mainGlobals "inner_lines" = some (some (.ref (gA K "inner_lines")))
  d_inner_lines_l : K.lookup (gA K "inner_lines") = some (defO K (gA K "inner_lines") "inner_lines" s_inner_lines)
  d_inner_lines_c : (PySem.W.codeIn K (fdA K (gA K "inner_lines")).code "inner_lines" && PySem.W.keepIn K (.ref (gA K "inner_lines"))) = true
  d_lines_left_n : PySem.W.nsIn K mainGlobals "lines_left" = some (some (.ref (gA K "lines_left")))
  d_lines_left_l : K.lookup (gA K "lines_left") = some (defO K (gA K "lines_left") "lines_left" s_lines_left)
  d_lines_left_c : (PySem.W.codeIn K (fdA K (gA K "lines_left")).code "lines_left" && PySem.W.keepIn K (.ref (gA K "lines_left"))) = true
  d_is_program_n : PySem.W.nsIn K mainGlobals "is_program" = some (some (.ref (gA K "is_program")))
  d_is_program_l : K.lookup (gA K "is_program") = some (defO K (gA K "is_program") "is_program" s_is_program)
  d_is_program_c : (PySem.W.codeIn K (fdA K (gA K "is_program")).code "is_program" && PySem.W.keepIn K (.ref (gA K "is_program"))) = true
  d_is_frame_n : PySem.W.nsIn K mainGlobals "is_frame" = some (some (.ref (gA K "is_frame")))
  d_is_frame_l : K.lookup (gA K "is_frame") = some (defO K (gA K "is_frame") "is_frame" s_is_frame)
  d_is_frame_c : (PySem.W.codeIn K (fdA K (gA K "is_frame")).code "is_frame" && PySem.W.keepIn K (.ref (gA K "is_frame"))) = true
  d_is_told_n : PySem.W.nsIn K mainGlobals "is_told" = some (some (.ref (gA K "is_told")))
  d_is_told_l : K.lookup (gA K "is_told") = some (defO K (gA K "is_told") "is_told" s_is_told)
  d_is_told_c : (PySem.W.codeIn K (fdA K (gA K "is_told")).code "is_told" && PySem.W.keepIn K (.ref (gA K "is_told"))) = true
  d_is_mapping_n : PySem.W.nsIn K mainGlobals "is_mapping" = some (some (.ref (gA K "is_mapping")))
  d_is_mapping_l : K.lookup (gA K "is_mapping") = some (defO K (gA K "is_mapping") "is_mapping" s_is_mapping)
  d_is_mapping_c : (PySem.W.codeIn K (fdA K (gA K "is_mapping")).code "is_mapping" && PySem.W.keepIn K (.ref (gA K "is_mapping"))) = true
  d_is_sign_n : PySem.W.nsIn K mainGlobals "is_sign" = some (some (.ref (gA K "is_sign")))
  d_is_sign_l : K.lookup (gA K "is_sign") = some (defO K (gA K "is_sign") "is_sign" s_is_sign)
  d_is_sign_c : (PySem.W.codeIn K (fdA K (gA K "is_sign")).code "is_sign" && PySem.W.keepIn K (.ref (gA K "is_sign"))) = true
  d_are_rules_n : PySem.W.nsIn K mainGlobals "are_rules" = some (some (.ref (gA K "are_rules")))
  d_are_rules_l : K.lookup (gA K "are_rules") = some (defO K (gA K "are_rules") "are_rules" s_are_rules)
  d_are_rules_c : (PySem.W.codeIn K (fdA K (gA K "are_rules")).code "are_rules" && PySem.W.keepIn K (.ref (gA K "are_rules"))) = true
  d__law_draws_n : PySem.W.nsIn K mainGlobals "_law_draws" = some (some (.ref (gA K "_law_draws")))
  d__law_draws_l : K.lookup (gA K "_law_draws") = some (defO K (gA K "_law_draws") "_law_draws" s__law_draws)
  d__law_draws_c : (PySem.W.codeIn K (fdA K (gA K "_law_draws")).code "_law_draws" && PySem.W.keepIn K (.ref (gA K "_law_draws"))) = true
  d__law_take_n : PySem.W.nsIn K mainGlobals "_law_take" = some (some (.ref (gA K "_law_take")))
  d__law_take_l : K.lookup (gA K "_law_take") = some (defO K (gA K "_law_take") "_law_take" s__law_take)
  d__law_take_c : (PySem.W.codeIn K (fdA K (gA K "_law_take")).code "_law_take" && PySem.W.keepIn K (.ref (gA K "_law_take"))) = true
  d__law_pick_n : PySem.W.nsIn K mainGlobals "_law_pick" = some (some (.ref (gA K "_law_pick")))
  d__law_pick_l : K.lookup (gA K "_law_pick") = some (defO K (gA K "_law_pick") "_law_pick" s__law_pick)
  d__law_pick_c : (PySem.W.codeIn K (fdA K (gA K "_law_pick")).code "_law_pick" && PySem.W.keepIn K (.ref (gA K "_law_pick"))) = true
  d__law_tells_n : PySem.W.nsIn K mainGlobals "_law_tells" = some (some (.ref (gA K "_law_tells")))
  d__law_tells_l : K.lookup (gA K "_law_tells") = some (defO K (gA K "_law_tells") "_law_tells" s__law_tells)
  d__law_tells_c : (PySem.W.codeIn K (fdA K (gA K "_law_tells")).code "_law_tells" && PySem.W.keepIn K (.ref (gA K "_law_tells"))) = true
  d__law_word_n : PySem.W.nsIn K mainGlobals "_law_word" = some (some (.ref (gA K "_law_word")))
  d__law_word_l : K.lookup (gA K "_law_word") = some (defO K (gA K "_law_word") "_law_word" s__law_word)
  d__law_word_c : (PySem.W.codeIn K (fdA K (gA K "_law_word")).code "_law_word" && PySem.W.keepIn K (.ref (gA K "_law_word"))) = true
  d__law_name_n : PySem.W.nsIn K mainGlobals "_law_name" = some (some (.ref (gA K "_law_name")))
  d__law_name_l : K.lookup (gA K "_law_name") = some (defO K (gA K "_law_name") "_law_name" s__law_name)
  d__law_name_c : (PySem.W.codeIn K (fdA K (gA K "_law_name")).code "_law_name" && PySem.W.keepIn K (.ref (gA K "_law_name"))) = true
  d__law_calls_n : PySem.W.nsIn K mainGlobals "_law_calls" = some (some (.ref (gA K "_law_calls")))
  d__law_calls_l : K.lookup (gA K "_law_calls") = some (defO K (gA K "_law_calls") "_law_calls" s__law_calls)
  d__law_calls_c : (PySem.W.codeIn K (fdA K (gA K "_law_calls")).code "_law_calls" && PySem.W.keepIn K (.ref (gA K "_law_calls"))) = true
  d__law_are_calls_due_n : PySem.W.nsIn K mainGlobals "_law_are_calls_due" = some (some (.ref (gA K "_law_are_calls_due")))
  d__law_are_calls_due_l : K.lookup (gA K "_law_are_calls_due") = some (defO K (gA K "_law_are_calls_due") "_law_are_calls_due" s__law_are_calls_due)
  d__law_are_calls_due_c : (PySem.W.codeIn K (fdA K (gA K "_law_are_calls_due")).code "_law_are_calls_due" && PySem.W.keepIn K (.ref (gA K "_law_are_calls_due"))) = true
  d__law_are_threads_due_n : PySem.W.nsIn K mainGlobals "_law_are_threads_due" = some (some (.ref (gA K "_law_are_threads_due")))
  d__law_are_threads_due_l : K.lookup (gA K "_law_are_threads_due") = some (defO K (gA K "_law_are_threads_due") "_law_are_threads_due" s__law_are_threads_due)
  d__law_are_threads_due_c : (PySem.W.codeIn K (fdA K (gA K "_law_are_threads_due")).code "_law_are_threads_due" && PySem.W.keepIn K (.ref (gA K "_law_are_threads_due"))) = true
  d__law_are_rows_due_n : PySem.W.nsIn K mainGlobals "_law_are_rows_due" = some (some (.ref (gA K "_law_are_rows_due")))
  d__law_are_rows_due_l : K.lookup (gA K "_law_are_rows_due") = some (defO K (gA K "_law_are_rows_due") "_law_are_rows_due" s__law_are_rows_due)
  d__law_are_rows_due_c : (PySem.W.codeIn K (fdA K (gA K "_law_are_rows_due")).code "_law_are_rows_due" && PySem.W.keepIn K (.ref (gA K "_law_are_rows_due"))) = true
  d__law_worth_n : PySem.W.nsIn K mainGlobals "_law_worth" = some (some (.ref (gA K "_law_worth")))
  d__law_worth_l : K.lookup (gA K "_law_worth") = some (defO K (gA K "_law_worth") "_law_worth" s__law_worth)
  d__law_worth_c : (PySem.W.codeIn K (fdA K (gA K "_law_worth")).code "_law_worth" && PySem.W.keepIn K (.ref (gA K "_law_worth"))) = true
  d__law_are_programs_due_n : PySem.W.nsIn K mainGlobals "_law_are_programs_due" = some (some (.ref (gA K "_law_are_programs_due")))
  d__law_are_programs_due_l : K.lookup (gA K "_law_are_programs_due") = some (defO K (gA K "_law_are_programs_due") "_law_are_programs_due" s__law_are_programs_due)
  d__law_are_programs_due_c : (PySem.W.codeIn K (fdA K (gA K "_law_are_programs_due")).code "_law_are_programs_due" && PySem.W.keepIn K (.ref (gA K "_law_are_programs_due"))) = true
  d_law_n : PySem.W.nsIn K mainGlobals "law" = some (some (.ref (gA K "law")))
  d_law_l : K.lookup (gA K "law") = some (defO K (gA K "law") "law" s_law)
  d_law_c : (PySem.W.codeIn K (fdA K (gA K "law")).code "law" && PySem.W.keepIn K (.ref (gA K "law"))) = true
  rowsC : (fdA K (gA K "_law_are_rows_due")).code = .ref (cA K)
  rowsH : PySem.W.codeHdIn K (cA K) PT = true
  noTab : (K.lookup PT).isNone = true
  noLst : (K.all fun p => !isLst p.2) = true
theorem txt_of {K : PySem.W.Frag} {w : World} {PT : Addr} {h : Heap} {mg : Str → Option Value} (X : K.In h) (G : h.Ns mainGlobals mg) (f : Fx K w PT) : Txt K w mg where
  b := bls_by X G f.b
  k_MOST_SIGNS_errors := glob_by X G f.k_MOST_SIGNS_errors
  k_MOST_WORD := glob_by X G f.k_MOST_WORD
  k_MOST_PAGE_calls := glob_by X G f.k_MOST_PAGE_calls
  k_MOST_MANY := glob_by X G f.k_MOST_MANY
  k_MOST_FROM := glob_by X G f.k_MOST_FROM
  k_MOST_FILE := glob_by X G f.k_MOST_FILE
  k_MOST_SIZE := glob_by X G f.k_MOST_SIZE
  k_MOST_POSTED := glob_by X G f.k_MOST_POSTED
  k_RIGHTS_calls := glob_by X G f.k_RIGHTS_calls
  t_FORMS_calls := tbl_by X G f.t_FORMS_calls_n f.t_FORMS_calls_b f.t_FORMS_calls_h
  k_MOST_ASKINGS := glob_by X G f.k_MOST_ASKINGS
  k_MOST_PAGE_costs := glob_by X G f.k_MOST_PAGE_costs
  t_FORMS_courses := tbl_by X G f.t_FORMS_courses_n f.t_FORMS_courses_b f.t_FORMS_courses_h
  k_MOST_THREADS := glob_by X G f.k_MOST_THREADS
  k_MOST_DOINGS := glob_by X G f.k_MOST_DOINGS
  k_MOST_ROWS := glob_by X G f.k_MOST_ROWS
  k_PUT_orders := glob_by X G f.k_PUT_orders
  k_FENCE := glob_by X G f.k_FENCE
  t_NAMED := tbl_by X G f.t_NAMED_n f.t_NAMED_b f.t_NAMED_h
  k_KEEP := glob_by X G f.k_KEEP
  k_PUT_patches := glob_by X G f.k_PUT_patches
  k_MOST_LINES := glob_by X G f.k_MOST_LINES
  k_MOST_DEEP := glob_by X G f.k_MOST_DEEP
  k_MOST_WORTH := glob_by X G f.k_MOST_WORTH
  k_MOST_ROUNDS := glob_by X G f.k_MOST_ROUNDS
  k_TWO := glob_by X G f.k_TWO
  k_COMPARED := glob_by X G f.k_COMPARED
  t_FORMS_programs := tbl_by X G f.t_FORMS_programs_n f.t_FORMS_programs_b f.t_FORMS_programs_h
  k_MOST_FRAMES := glob_by X G f.k_MOST_FRAMES
  k_PAGES := glob_by X G f.k_PAGES
  k_RIGHTS_sharing := glob_by X G f.k_RIGHTS_sharing
  k_MOST_PAGE_shortrows := glob_by X G f.k_MOST_PAGE_shortrows
  k_MOST_SIGNS_shortrows := glob_by X G f.k_MOST_SIGNS_shortrows
  k_MOST_TIMES := glob_by X G f.k_MOST_TIMES
  k_PAGE_SIGN := glob_by X G f.k_PAGE_SIGN
  k_RULE := glob_by X G f.k_RULE
  d_is_integer := df_by X G f.d_is_integer_n f.d_is_integer_l f.d_is_integer_c (fun _ _ _ _ _ _ us hl => match us, hl with | [_], _ => rfl)
  d_is_within := df_by X G f.d_is_within_n f.d_is_within_l f.d_is_within_c (fun _ _ _ _ _ _ us hl => match us, hl with | [_, _, _], _ => rfl)
  d_is_small := df_by X G f.d_is_small_n f.d_is_small_l f.d_is_small_c (fun _ _ _ _ _ _ us hl => match us, hl with | [_], _ => rfl)
  d_is_name := df_by X G f.d_is_name_n f.d_is_name_l f.d_is_name_c (fun _ _ _ _ _ _ us hl => match us, hl with | [_], _ => rfl)
  d_is_word := df_by X G f.d_is_word_n f.d_is_word_l f.d_is_word_c (fun _ _ _ _ _ _ us hl => match us, hl with | [_], _ => rfl)
  d_are_words := df_by X G f.d_are_words_n f.d_are_words_l f.d_are_words_c (fun _ _ _ _ _ _ us hl => match us, hl with | [_], _ => rfl)
  d_check := df_by X G f.d_check_n f.d_check_l f.d_check_c (fun _ _ _ _ _ _ us hl => match us, hl with | [_], _ => rfl)
  d_is_page := df_by X G f.d_is_page_n f.d_is_page_l f.d_is_page_c (fun _ _ _ _ _ _ us hl => match us, hl with | [_], _ => rfl)
  d_are_rights := df_by X G f.d_are_rights_n f.d_are_rights_l f.d_are_rights_c (fun _ _ _ _ _ _ us hl => match us, hl with | [_], _ => rfl)
  d_is_asked_kind := df_by X G f.d_is_asked_kind_n f.d_is_asked_kind_l f.d_is_asked_kind_c (fun _ _ _ _ _ _ us hl => match us, hl with | [_], _ => rfl)
  d_is_length := df_by X G f.d_is_length_n f.d_is_length_l f.d_is_length_c (fun _ _ _ _ _ _ us hl => match us, hl with | [_, _, _], _ => rfl)
  d_is_part_calls := df_by X G f.d_is_part_calls_n f.d_is_part_calls_l f.d_is_part_calls_c (fun _ _ _ _ _ _ us hl => match us, hl with | [_, _], _ => rfl)
  d_has_form := df_by X G f.d_has_form_n f.d_has_form_l f.d_has_form_c (fun _ _ _ _ _ _ us hl => match us, hl with | [_], _ => rfl)
  d_is_call_calls := df_by X G f.d_is_call_calls_n f.d_is_call_calls_l f.d_is_call_calls_c (fun _ _ _ _ _ _ us hl => match us, hl with | [_], _ => rfl)
  d_is_call_world := df_by X G f.d_is_call_world_n f.d_is_call_world_l f.d_is_call_world_c (fun _ _ _ _ _ _ us hl => match us, hl with | [_], _ => rfl)
  d_is_asking := df_by X G f.d_is_asking_n f.d_is_asking_l f.d_is_asking_c (fun _ _ _ _ _ _ us hl => match us, hl with | [_], _ => rfl)
  d_are_askings := df_by X G f.d_are_askings_n f.d_are_askings_l f.d_are_askings_c (fun _ _ _ _ _ _ us hl => match us, hl with | [_], _ => rfl)
  d_is_count_courses := df_by X G f.d_is_count_courses_n f.d_is_count_courses_l f.d_is_count_courses_c (fun _ _ _ _ _ _ us hl => match us, hl with | [_], _ => rfl)
  d_are_indexes := df_by X G f.d_are_indexes_n f.d_are_indexes_l f.d_are_indexes_c (fun _ _ _ _ _ _ us hl => match us, hl with | [_], _ => rfl)
  d_is_part_courses := df_by X G f.d_is_part_courses_n f.d_is_part_courses_l f.d_is_part_courses_c (fun _ _ _ _ _ _ us hl => match us, hl with | [_, _], _ => rfl)
  d_is_step := df_by X G f.d_is_step_n f.d_is_step_l f.d_is_step_c (fun _ _ _ _ _ _ us hl => match us, hl with | [_], _ => rfl)
  d_is_course := df_by X G f.d_is_course_n f.d_is_course_l f.d_is_course_c (fun _ _ _ _ _ _ us hl => match us, hl with | [_], _ => rfl)
  d_is_count_buffers := df_by X G f.d_is_count_buffers_n f.d_is_count_buffers_l f.d_is_count_buffers_c (fun _ _ _ _ _ _ us hl => match us, hl with | [_], _ => rfl)
  d_is_doing := df_by X G f.d_is_doing_n f.d_is_doing_l f.d_is_doing_c (fun _ _ _ _ _ _ us hl => match us, hl with | [_], _ => rfl)
  d_names_of := df_by X G f.d_names_of_n f.d_names_of_l f.d_names_of_c (fun _ _ _ _ _ _ us hl => match us, hl with | [_], _ => rfl)
  d_is_thread := df_by X G f.d_is_thread_n f.d_is_thread_l f.d_is_thread_c (fun _ _ _ _ _ _ us hl => match us, hl with | [_], _ => rfl)
  d_are_threads := df_by X G f.d_are_threads_n f.d_are_threads_l f.d_are_threads_c (fun _ _ _ _ _ _ us hl => match us, hl with | [_], _ => rfl)
  d_is_row := df_by X G f.d_is_row_n f.d_is_row_l f.d_is_row_c (fun _ _ _ _ _ _ us hl => match us, hl with | [_], _ => rfl)
  r_check_rows := fun_by X G f.r_check_rows_n f.r_check_rows_l f.r_check_rows_c
  d_is_piece := df_by X G f.d_is_piece_n f.d_is_piece_l f.d_is_piece_c (fun _ _ _ _ _ _ us hl => match us, hl with | [_, _], _ => rfl)
  d_is_patch := df_by X G f.d_is_patch_n f.d_is_patch_l f.d_is_patch_c (fun _ _ _ _ _ _ us hl => match us, hl with | [_, _], _ => rfl)
  d_are_pieces := df_by X G f.d_are_pieces_n f.d_are_pieces_l f.d_are_pieces_c (fun _ _ _ _ _ _ us hl => match us, hl with | [_, _], _ => rfl)
  d_is_worth := df_by X G f.d_is_worth_n f.d_is_worth_l f.d_is_worth_c (fun _ _ _ _ _ _ us hl => match us, hl with | [_, _], _ => rfl)
  d_is_condition := df_by X G f.d_is_condition_n f.d_is_condition_l f.d_is_condition_c (fun _ _ _ _ _ _ us hl => match us, hl with | [_, _], _ => rfl)
  d_is_part_programs := df_by X G f.d_is_part_programs_n f.d_is_part_programs_l f.d_is_part_programs_c (fun _ _ _ _ _ _ us hl => match us, hl with | [_, _], _ => rfl)
  d_is_line := df_by X G f.d_is_line_n f.d_is_line_l f.d_is_line_c (fun _ _ _ _ _ _ us hl => match us, hl with | [_], _ => rfl)
  d_inner_lines := df_by X G f.d_inner_lines_n f.d_inner_lines_l f.d_inner_lines_c (fun _ _ _ _ _ _ us hl => match us, hl with | [_], _ => rfl)
  d_lines_left := df_by X G f.d_lines_left_n f.d_lines_left_l f.d_lines_left_c (fun _ _ _ _ _ _ us hl => match us, hl with | [_, _, _], _ => rfl)
  d_is_program := df_by X G f.d_is_program_n f.d_is_program_l f.d_is_program_c (fun _ _ _ _ _ _ us hl => match us, hl with | [_], _ => rfl)
  d_is_frame := df_by X G f.d_is_frame_n f.d_is_frame_l f.d_is_frame_c (fun _ _ _ _ _ _ us hl => match us, hl with | [_], _ => rfl)
  d_is_told := df_by X G f.d_is_told_n f.d_is_told_l f.d_is_told_c (fun _ _ _ _ _ _ us hl => match us, hl with | [_], _ => rfl)
  d_is_mapping := df_by X G f.d_is_mapping_n f.d_is_mapping_l f.d_is_mapping_c (fun _ _ _ _ _ _ us hl => match us, hl with | [_], _ => rfl)
  d_is_sign := df_by X G f.d_is_sign_n f.d_is_sign_l f.d_is_sign_c (fun _ _ _ _ _ _ us hl => match us, hl with | [_, _, _], _ => rfl)
  d_are_rules := df_by X G f.d_are_rules_n f.d_are_rules_l f.d_are_rules_c (fun _ _ _ _ _ _ us hl => match us, hl with | [_], _ => rfl)
  d__law_draws := df_by X G f.d__law_draws_n f.d__law_draws_l f.d__law_draws_c (fun _ _ _ _ _ _ us hl => match us, hl with | [_], _ => rfl)
  d__law_take := df_by X G f.d__law_take_n f.d__law_take_l f.d__law_take_c (fun _ _ _ _ _ _ us hl => match us, hl with | [_, _], _ => rfl)
  d__law_pick := df_by X G f.d__law_pick_n f.d__law_pick_l f.d__law_pick_c (fun _ _ _ _ _ _ us hl => match us, hl with | [_, _], _ => rfl)
  d__law_tells := df_by X G f.d__law_tells_n f.d__law_tells_l f.d__law_tells_c (fun _ _ _ _ _ _ us hl => match us, hl with | [_, _, _], _ => rfl)
  d__law_word := df_by X G f.d__law_word_n f.d__law_word_l f.d__law_word_c (fun _ _ _ _ _ _ us hl => match us, hl with | [_], _ => rfl)
  d__law_name := df_by X G f.d__law_name_n f.d__law_name_l f.d__law_name_c (fun _ _ _ _ _ _ us hl => match us, hl with | [_], _ => rfl)
  d__law_calls := df_by X G f.d__law_calls_n f.d__law_calls_l f.d__law_calls_c (fun _ _ _ _ _ _ us hl => match us, hl with | [_], _ => rfl)
  d__law_are_calls_due := df_by X G f.d__law_are_calls_due_n f.d__law_are_calls_due_l f.d__law_are_calls_due_c (fun _ _ _ _ _ _ us hl => match us, hl with | [_], _ => rfl)
  d__law_are_threads_due := df_by X G f.d__law_are_threads_due_n f.d__law_are_threads_due_l f.d__law_are_threads_due_c (fun _ _ _ _ _ _ us hl => match us, hl with | [_], _ => rfl)
  d__law_are_rows_due := df_by X G f.d__law_are_rows_due_n f.d__law_are_rows_due_l f.d__law_are_rows_due_c (fun _ _ _ _ _ _ us hl => match us, hl with | [_], _ => rfl)
  d__law_worth := df_by X G f.d__law_worth_n f.d__law_worth_l f.d__law_worth_c (fun _ _ _ _ _ _ us hl => match us, hl with | [_, _], _ => rfl)
  d__law_are_programs_due := df_by X G f.d__law_are_programs_due_n f.d__law_are_programs_due_l f.d__law_are_programs_due_c (fun _ _ _ _ _ _ us hl => match us, hl with | [_], _ => rfl)
  d_law := df_by X G f.d_law_n f.d_law_l f.d_law_c (fun _ _ _ _ _ _ us hl => match us, hl with | [_], _ => rfl)
theorem fn_mk {S : Type} {P : Program} {w : World} {K : PySem.W.Frag} {mg : Str → Option Value} {base : Heap} {W : Wd S} {k : Nat} {q qual : Str} {st : Stmt} {fa : Addr} {fd : FuncData} {N ps : List Str} {n : Nat} {f : MF S} {u : MS S}
    (F : Fun K q qual st fa fd) (Sc : FnScope N ps (defScope st)) (hn : ps.length = n)
    (hb : ∀ (cdv : Value) (A : Around) (outer : List Env) (s : Shared) (H : Hp) (E : XK), Room k (A.deeper (envOfC qual (defScope st) s.heap.objs.size fa cdv)) → PSs (cxOf CX0 P w K mg base N qual (defScope st) fa cdv A outer s H E).nox (defBody st) (tGS K W u))
    (h : ∀ ds s Q, ds.length = n → f.run ds s Q → u.run (ds.map some ++ List.replicate (N.length - n) none) s { nx := fun _ s' => Q .non s', rt := Q }) : FnOk P w K mg base CX0 (k + 1) fa fd ps (spG K W n f) := by
  refine F.ok Sc (fun vs H Q E hs => by rw [hn]; exact spG.len hs) (fun cdv A outer s H vs Q E hr hs => ⟨_, hb cdv A outer s H E hr, ?_⟩)
  obtain ⟨F1, s1, ds, R, hd, hl, hf⟩ := hs
  refine ⟨F1, ds.map some ++ List.replicate (N.length - n) none, s1, R, ⟨?_, ?_⟩, u.mono ⟨?_, ?_, ?_, ?_⟩ (h ds s1 _ hl hf)⟩
  · unfold L2.start
    rw [List.length_append, List.length_append, List.length_map, List.length_map, List.length_replicate, List.length_replicate, hd.length, hl]
  · intro i d e
    by_cases hi : i < ds.length
    · rw [List.getElem?_append_left (by simpa using hi), List.getElem?_map] at e
      cases ed : ds[i]? with
      | none => rw [ed] at e; cases e
      | some d' =>
        rw [ed] at e
        cases e
        obtain ⟨v, h1, h2⟩ := hd.get ed
        refine ⟨v, ?_, h2⟩
        unfold L2.start
        rw [List.getElem?_append_left (by rw [List.length_map, hd.length]; exact hi), List.getElem?_map, h1]; rfl
    · rw [List.getElem?_append_right (by simpa using hi), List.getElem?_replicate] at e
      split at e <;> cases e
  · intro δ' s' q F2 H2 σ R2 E2 e2
    exact q F2 H2 .non R2 E2 (isD_non.mpr rfl)
  · intro d s' q F2 H2 v R2 E2 d2
    exact q F2 H2 v R2 E2 d2
  · intro δ s q
    exact q.elim
  · intro δ s q
    exact q.elim

section
variable {S : Type} {P : Program} {w : World} {K : PySem.W.Frag} {mg : Str → Option Value} {base : Heap} {W : Wd S}
theorem fn_lawT {PT fa : Addr} {qT : Str} {fd : FuncData} (F : Fun K "law" "law" s_law fa fd) (T : Txt K w mg) (R : Cal P w K mg base (tabW WD PT qT) 39 "_law_are_rows_due" 1 drawT) : FnOk P w K mg base CX0 40 fa fd ["script"] (spG K (tabW WD PT qT) 1 lawT) := by
  refine fn_mk F sc_law rfl (fun cdv A outer s H E hr => (b_cons (s_set (i := 1) sc_law.nd (g_call (cal_frame (c__law_draws T)) hr (by decide) (a_cons (g_var 0) a_nil))) (b_cons (s_for .never rfl (i_rng T.b.range (a_cons g_int a_nil)) (gt_nm (i := 2) sc_law.nd) (b_one (s_ite (PW.pt (w_or (t_not (t_of (g_call (cal_frame (c__law_are_calls_due T)) hr (by decide) (a_cons (g_var 1) a_nil)))) (w_or (t_not (t_of (g_call (cal_frame (c__law_are_threads_due T)) hr (by decide) (a_cons (g_var 1) a_nil)))) (w_or (t_not (t_of (g_call R hr (by decide) (a_cons (g_var 1) a_nil)))) (w_or1 (t_not (t_of (g_call (cal_frame (c__law_are_programs_due T)) hr (by decide) (a_cons (g_var 1) a_nil))))))))) (b_one (s_ret g_bl)) b_nil))) (b_one (s_ret g_bl))))) ?_
  intro ds s Q hl h
  obtain ⟨ns, L0, rfl, hlen, rfl, h⟩ := h
  simp only [List.map_cons, List.map_nil, List.cons_append, List.nil_append, List.append_nil, List.length_cons, List.length_nil, Nat.zero_add, Nat.reduceAdd, Nat.reduceSub, List.replicate_succ, List.replicate_zero, List.getD_cons_zero, List.getD_cons_succ, List.set_cons_zero, List.set_cons_succ, OQ_some]
  refine seq_run (fun δ' s' => ∃ (p : Addr) (xs : List Int) (L : List Addr), δ' = [some (.lst (ns.map D.int)), some (.ref p), none] ∧ s' = (some (p, xs), L)) (fun E' hn => ?_) (fun δ' s' hP => ?_)
  · simp only [MS.ret, MS.retN, MS.ite, MS.seq, MS.nil, MS.drop, MS.set, MS.asg, MS.par, MS.par3, MS.no, MS.for, MS.aug, ME.var, ME.c, ME.op1, ME.op2, ME.of, ME.ite, ME.chain, MT.op2, MT.op1, MT.of, MT.and, MT.or, MT.not, MT.chain, MA.nil, MA.cons, ME.tup, ME.lst, ME.fn, ME.call, ME.lc, ME.sl, MO.no, MO.yes, MI.seq, MI.of, MI.ofA, ME.disp, ME.callA, ME.callR, ME.dc, ME.lc2, ME.sorted, List.map_cons, List.map_nil, List.cons_append, List.nil_append, List.append_nil, List.length_cons, List.length_nil, Nat.zero_add, Nat.reduceAdd, Nat.reduceSub, List.replicate_succ, List.replicate_zero, List.getD_cons_zero, List.getD_cons_succ, List.set_cons_zero, List.set_cons_succ, OQ_some]
    exact ⟨trivial, ns, rfl, hlen, rfl, fun p xs => hn _ _ ⟨p, xs, _, rfl, rfl⟩⟩
  obtain ⟨p, xs, L1, rfl, rfl⟩ := hP
  refine seq_run (fun δ' s' => True) (fun E' hn => ?_) (fun δ' s' _ => ?_)
  · refine for_rng 4 (fun j δ s => ∃ (xs : List Int) (o2 : Option D) (L : List Addr), δ = [some (.lst (ns.map D.int)), some (.ref p), o2] ∧ s = (some (p, xs), L)) (fun _ => rfl) (by decide) ⟨xs, _, _, rfl, rfl⟩ (fun j kk δ s E4 hj hI hn4 => ?_) (fun δ s _ => hn _ _ trivial)
    obtain ⟨xs, o2, L2, rfl, rfl⟩ := hI
    refine OQ_set ?_
    simp only [MS.ret, MS.retN, MS.ite, MS.seq, MS.nil, MS.drop, MS.set, MS.asg, MS.par, MS.par3, MS.no, MS.for, MS.aug, ME.var, ME.c, ME.op1, ME.op2, ME.of, ME.ite, ME.chain, MT.op2, MT.op1, MT.of, MT.and, MT.or, MT.not, MT.chain, MA.nil, MA.cons, ME.tup, ME.lst, ME.fn, ME.call, ME.lc, ME.sl, MO.no, MO.yes, MI.seq, MI.of, MI.ofA, ME.disp, ME.callA, ME.callR, ME.dc, ME.lc2, ME.sorted, List.map_cons, List.map_nil, List.cons_append, List.nil_append, List.append_nil, List.length_cons, List.length_nil, Nat.zero_add, Nat.reduceAdd, Nat.reduceSub, List.replicate_succ, List.replicate_zero, List.getD_cons_zero, List.getD_cons_succ, List.set_cons_zero, List.set_cons_succ, OQ_some]
    refine ⟨trivial, drL_true fun xs1 => ?_⟩
    simp only [blD_bl, OQ_some, Bool.not_true, if_false, Bool.false_eq_true]
    refine ⟨trivial, drL_true fun xs2 => ?_⟩
    simp only [blD_bl, OQ_some, Bool.not_true, if_false, Bool.false_eq_true]
    refine ⟨trivial, drT_true fun xs3 L3 => ?_⟩
    simp only [blD_bl, OQ_some, Bool.not_true, if_false, Bool.false_eq_true]
    refine ⟨trivial, drL_true fun xs4 => ?_⟩
    simp only [blD_bl, OQ_some, Bool.not_true, if_false, Bool.false_eq_true]
    exact hn4 _ _ ⟨_, _, _, rfl, rfl⟩
  · exact h _

end
theorem frag_mem {K : PySem.W.Frag} {a : Addr} {o : Obj} (h : K.lookup a = some o) : ∃ p ∈ K, p.2 = o := by
  induction K with
  | nil => cases h
  | cons p r ih =>
    rw [List.lookup_cons] at h
    split at h
    · cases h
      exact ⟨p, List.mem_cons_self, rfl⟩
    · obtain ⟨z, hz, e⟩ := ih h
      exact ⟨z, List.mem_cons_of_mem _ hz, e⟩
theorem law_at {l : PySem.W.OpenLaw} {w : World} {K : PySem.W.Frag} {h : Heap} {mg : Str → Option Value} {fa PT : Addr} (X : K.In h) (G : h.Ns mainGlobals mg) (hfa : mg "law" = some (.ref fa)) (hT : h.get? PT = some { cls := .none, data := .fields #[] }) (f : Fx K w PT) : LawAtS l w K CX0 40 63 "script" mg fa h := by
  have T := txt_of X G f
  obtain ⟨fa', fd, Fl, hg, _⟩ := T.d_law.ex
  have e := hfa.symm.trans hg
  cases e
  have FC := funC_by (cc := cA K) f.d__law_are_rows_due_l f.d__law_are_rows_due_c f.rowsC
  have hgr := PySem.W.mg_of X G f.d__law_are_rows_due_n
  have nl : ∀ (a : Addr) (o : Obj), K.lookup a = some o → o.cls ≠ .type "list" := fun a o e z => by
    obtain ⟨p, hp, rfl⟩ := frag_mem e
    have := List.all_eq_true.mp f.noLst p hp
    unfold isLst at this
    rw [z] at this
    simp at this
  refine ⟨fd, [(cA K, PT)], spG K (tabW WD PT "_law_are_rows_due.<locals>.<lambda>") 1 lawT, fun p hp => ?_, fun p hp => ?_, fun p hp => ?_, fun s u => ?_, fun H a ns hl _ hH hS => ?_, fun base KX GX TB => ?_⟩
  · obtain rfl := List.mem_singleton.mp hp
    exact hT
  · obtain rfl := List.mem_singleton.mp hp
    exact Option.isNone_iff_eq_none.mp f.noTab
  · obtain rfl := List.mem_singleton.mp hp
    exact PySem.W.codeHd_of_K X f.rowsH
  · obtain ⟨oc, od, kV, doc, pm, an, cdv, ct, osl, rfl, _, _⟩ := Fl.ex
    exact .of_eq rfl
  · have hP : H PT = some (.tbl #[]) := hH _ (List.mem_singleton.mpr rfl)
    rcases hS with hS | ⟨o, its, n, e1, e2, _⟩
    · have ne : PT ≠ a := fun z => by
        rw [← z] at hS
        rcases hS with k | ⟨o, k⟩ <;> rw [hP] at k <;> cases k
      refine ⟨fun b => if b = a then H a else none, (none, []), [.lst (ns.map D.int)], ⟨fun b u eb => ?_, fun b hb => ?_, trivial, fun ⟨_, z⟩ => (by cases z), fun c hc => (by cases hc), #[], hP, trivial, fun p cv z => (by simp [codeAmong] at z)⟩, .one (isD_lst.mpr ⟨?_, a, ns.map V.int, rfl, ?_, isDs_ints'⟩), rfl, ns, [], rfl, by omega, rfl, fun s' => ?_⟩
      · by_cases k : b = a
        · rw [if_pos k] at eb
          rw [k]; exact .inl eb
        · rw [if_neg k] at eb; cases eb
      · rcases hb with ⟨_, z⟩ | z | z
        · cases z
        · rw [z]; exact if_neg ne
        · cases z
      · rw [List.length_map]
        have : (63 : Nat) ≤ sizeLine := by decide
        omega
      · rcases hS with k | ⟨o, k⟩
        · exact .inl ((if_pos rfl).trans k)
        · exact .inr ⟨o, (if_pos rfl).trans k⟩
      · intro F' H' v _ _ d'
        exact isD_bl.mp d'
    · exact absurd e2 (nl a o e1)
  · exact fn_lawT Fl T (c__law_are_rows_dueT T (TB _ (List.mem_singleton.mpr rfl)) FC hgr)
end G

open PySem PySem.W PyProof.Rows
set_option Elab.async false
set_option maxRecDepth 100000 in
set_option maxHeartbeats 0 in
theorem PySem.Challenge.cw_airheld_k91_whole_what_is_one_by_its_for_holds : PySem.Challenge.rw_airheld_k91_whole_what_is_one_by_its_for.Holds := by
  w_on; o_law; k_head; (case hw => w_witness2)
  k_fill
  refine LamX.walk_ofTs (l := PySem.Challenge.rw_airheld_k91_whole_what_is_one_by_its_for) (n := 63) (k := 40) (x := "script") (CX := fun _ => L2.CX0)
    rfl (by decide) rfl ⟨rfl, by decide, by decide⟩ (fun w h Y => PySem.W.km_in_of Y) ?F ?z
  case z => exact fun _ _ _ _ _ z => z
  case F =>
    intro w mg fa h Y KX NG hmg
    refine G.law_at KX NG hmg (PySem.W.km_tabs_of Y 373 (List.mem_singleton.mpr rfl)) ⟨?_, ?_, ?_, ?_, ?_, ?_, ?_, ?_, ?_, ?_, ?_, ?_, ?_, ?_, ?_, ?_, ?_, ?_, ?_, ?_, ?_, ?_, ?_, ?_, ?_, ?_, ?_, ?_, ?_, ?_, ?_, ?_, ?_, ?_, ?_, ?_, ?_, ?_, ?_, ?_, ?_, ?_, ?_, ?_, ?_, ?_, ?_, ?_, ?_, ?_, ?_, ?_, ?_, ?_, ?_, ?_, ?_, ?_, ?_, ?_, ?_, ?_, ?_, ?_, ?_, ?_, ?_, ?_, ?_, ?_, ?_, ?_, ?_, ?_, ?_, ?_, ?_, ?_, ?_, ?_, ?_, ?_, ?_, ?_, ?_, ?_, ?_, ?_, ?_, ?_, ?_, ?_, ?_, ?_, ?_, ?_, ?_, ?_, ?_, ?_, ?_, ?_, ?_, ?_, ?_, ?_, ?_, ?_, ?_, ?_, ?_, ?_, ?_, ?_, ?_, ?_, ?_, ?_, ?_, ?_, ?_, ?_, ?_, ?_, ?_, ?_, ?_, ?_, ?_, ?_, ?_, ?_, ?_, ?_, ?_, ?_, ?_, ?_, ?_, ?_, ?_, ?_, ?_, ?_, ?_, ?_, ?_, ?_, ?_, ?_, ?_, ?_, ?_, ?_, ?_, ?_, ?_, ?_, ?_, ?_, ?_, ?_, ?_, ?_, ?_, ?_, ?_, ?_, ?_, ?_, ?_, ?_, ?_, ?_, ?_, ?_, ?_, ?_, ?_, ?_, ?_, ?_, ?_, ?_, ?_, ?_, ?_, ?_, ?_, ?_, ?_, ?_, ?_, ?_, ?_, ?_, ?_, ?_, ?_, ?_, ?_, ?_, ?_, ?_, ?_, ?_, ?_, ?_, ?_, ?_, ?_, ?_, ?_, ?_, ?_, ?_, ?_, ?_, ?_, ?_⟩
    all_goals kernel_rfl
