import PyProof.Rows.All
import Wide.All
import OpenK.AllK
import Wide.FinOn
import HandS.ForMost
import HandS.ForExc
import HandS.IsInst
import HandS.TupAny
import HandS.TupMul
import HandS.TupLe
import HandS.Style
import HandS.Conv
import HandS.Defaults
import HandS.Wide
import HandS.HeadHook1
import HandS.HeadHook2
import HandS.ExcCtx
import HandS.HotCalls
import HandS.ExcIs
import PyProof.Rows.IntBool
import KE.KRevSl
import HandS.SortInts
import HandS.RaiseMore
import HandS.SetFor
import HandS.StrMore
import HandS.CallSlots
import HandS.HeadWalk
import KE.GoesNew
import HandS.Dict
import HandS.Head0
import HandS.Head1
import HandS.Head2
import HandS.HeadEnd
import HandS.HeadHook3
import PySem.Challenge.RW_tendtree_k01_what_is_a_tree
set_option Elab.async false
set_option linter.all false
set_option maxRecDepth 100000
set_option maxHeartbeats 2000000
/-! TA: abstract values, the relation to the layer's heap, steps, lifts. -/
namespace TT
open PySem PySem.Spec PyProof.Rows L2

abbrev St := L2.St
inductive D where
  | non | bl (b : Bool) | int (i : Int) | str (x : Str)
  | tup (xs : List D) | lst (xs : List D) | scr (ns : List Int) | ref (a : Addr)
inductive MO where
  | lst (xs : List D) | dct (kvs : List (Key × D)) | ins (c : Str) (fs : List (Str × D))
abbrev Mp := Addr → Option MO
def mset (M : Mp) (a : Addr) (o : MO) : Mp := fun b => if b = a then some o else M b
def mdel (M : Mp) (a : Addr) : Mp := fun b => if b = a then none else M b
theorem mset_same {M : Mp} {a : Addr} {o : MO} : mset M a o a = some o := by unfold mset; rw [if_pos rfl]
theorem mset_ne {M : Mp} {a b : Addr} {o : MO} (h : b ≠ a) : mset M a o b = M b := by unfold mset; rw [if_neg h]
theorem mset_mset {M : Mp} {a : Addr} {o u : MO} : mset (mset M a o) a u = mset M a u := by
  funext b; unfold mset; split <;> rfl
theorem mdel_mset {M : Mp} {a : Addr} {o : MO} (h : M a = none) : mdel (mset M a o) a = M := by
  funext b; unfold mdel mset; split
  · rename_i e; rw [e, h]
  · rfl
theorem mset_comm {M : Mp} {a b : Addr} {o u : MO} (h : a ≠ b) : mset (mset M a o) b u = mset (mset M b u) a o := by
  funext c; unfold mset
  by_cases h1 : c = b
  · subst h1; rw [if_pos rfl, if_neg (fun e => h e.symm), if_pos rfl]
  · rw [if_neg h1, if_neg h1]
theorem mset_self {M : Mp} {a : Addr} {o : MO} (h : M a = some o) : mset M a o = M := by
  funext b; unfold mset; split
  · rename_i e; rw [e, h]
  · rfl

/-! ### a value stands for a datum -/
mutual
def Rep (K : PySem.W.Frag) (F : Hp) : D → V → Prop
  | .non, v => v = .non
  | .bl b, v => v = .bl b
  | .int i, v => v = .int i
  | .str x, v => v = .str x
  | .tup ds, v => ∃ a us, v = .ref a ∧ SqT K F a us ∧ Reps K F ds us
  | .lst ds, v => ∃ a us, v = .ref a ∧ F a = some (.lst us) ∧ Reps K F ds us
  | .scr ns, v => ∃ a, v = .ref a ∧ SqL K F a (ns.map V.int)
  | .ref a, v => v = .ref a
def Reps (K : PySem.W.Frag) (F : Hp) : List D → List V → Prop
  | [], us => us = []
  | d :: ds, us => ∃ u us', us = u :: us' ∧ Rep K F d u ∧ Reps K F ds us'
end
theorem same_seqT {K : PySem.W.Frag} {F F' : Hp} {a : Addr} {xs : List V} (e : Same F F') (h : SqT K F a xs) : SqT K F' a xs := by
  rcases h with (h | ⟨o, h⟩) | h
  · exact .inl (.inl (e _ _ h))
  · exact .inl (.inr ⟨o, e _ _ h⟩)
  · exact .inr h
mutual
theorem Rep.up {K : PySem.W.Frag} {F F' : Hp} (s : Same F F') : ∀ (d : D) {v : V}, Rep K F d v → Rep K F' d v
  | .non, _, h => h
  | .bl _, _, h => h
  | .int _, _, h => h
  | .str _, _, h => h
  | .tup ds, _, ⟨a, us, e, h, r⟩ => ⟨a, us, e, same_seqT s h, Reps.up s ds r⟩
  | .lst ds, _, ⟨a, us, e, h, r⟩ => ⟨a, us, e, s _ _ h, Reps.up s ds r⟩
  | .scr _, _, ⟨a, e, h⟩ => ⟨a, e, s.seq h⟩
  | .ref _, _, h => h
theorem Reps.up {K : PySem.W.Frag} {F F' : Hp} (s : Same F F') : ∀ (ds : List D) {us : List V}, Reps K F ds us → Reps K F' ds us
  | [], _, h => h
  | d :: ds, _, ⟨u, us', e, h, r⟩ => ⟨u, us', e, Rep.up s d h, Reps.up s ds r⟩
end
section
variable {K : PySem.W.Frag} {F : Hp}
theorem Reps.length : ∀ {ds : List D} {us : List V}, Reps K F ds us → ds.length = us.length
  | [], _, h => by cases (show _ = ([] : List V) from h); rfl
  | d :: ds, _, ⟨u, us', e, h, r⟩ => by subst e; simp [Reps.length r]
theorem Reps.nil : Reps K F [] [] := (rfl : ([] : List V) = [])
theorem Reps.cons {d : D} {u : V} {ds : List D} {us : List V} (h : Rep K F d u) (r : Reps K F ds us) : Reps K F (d :: ds) (u :: us) := ⟨u, us, rfl, h, r⟩
theorem Reps.append : ∀ {xs ys : List D} {us ws : List V}, Reps K F xs us → Reps K F ys ws → Reps K F (xs ++ ys) (us ++ ws)
  | [], _, _, _, h, r => by cases (show _ = ([] : List V) from h); exact r
  | d :: ds, _, _, _, ⟨u, us', e, h, q⟩, r => by subst e; exact Reps.cons h (Reps.append q r)
theorem Reps.get : ∀ {xs : List D} {us : List V} {i : Nat} {d : D}, Reps K F xs us → xs[i]? = some d → ∃ u, us[i]? = some u ∧ Rep K F d u
  | [], _, _, _, _, e => by simp at e
  | x :: xs, _, 0, d, ⟨u, us', e, h, q⟩, e2 => by subst e; simp at e2; subst e2; exact ⟨u, rfl, h⟩
  | x :: xs, _, i + 1, d, ⟨u, us', e, h, q⟩, e2 => by
    subst e
    obtain ⟨w, h1, h2⟩ := Reps.get (i := i) (d := d) q (by simpa using e2)
    exact ⟨w, by simpa using h1, h2⟩
theorem Reps.drop : ∀ {xs : List D} {us : List V} (n : Nat), Reps K F xs us → Reps K F (xs.drop n) (us.drop n)
  | _, _, 0, h => by simpa using h
  | [], _, n + 1, h => by cases (show _ = ([] : List V) from h); exact Reps.nil
  | x :: xs, _, n + 1, ⟨u, us', e, h, q⟩ => by subst e; simpa using Reps.drop n q
theorem Reps.take : ∀ {xs : List D} {us : List V} (n : Nat), Reps K F xs us → Reps K F (xs.take n) (us.take n)
  | _, _, 0, h => by simpa using Reps.nil
  | [], _, n + 1, h => by cases (show _ = ([] : List V) from h); exact Reps.nil
  | x :: xs, _, n + 1, ⟨u, us', e, h, q⟩ => by subst e; simpa using Reps.cons h (Reps.take n q)
theorem Reps.set {d : D} {u : V} (hd : Rep K F d u) : ∀ {xs : List D} {us : List V} (i : Nat), Reps K F xs us → Reps K F (xs.set i d) (us.set i u)
  | [], _, _, h => by cases (show _ = ([] : List V) from h); exact Reps.nil
  | x :: xs, _, 0, ⟨v, us', e, h, q⟩ => by subst e; exact Reps.cons hd q
  | x :: xs, _, n + 1, ⟨v, us', e, h, q⟩ => by subst e; exact Reps.cons h (Reps.set hd n q)
theorem Reps.reverse {xs : List D} {us : List V} (h : Reps K F xs us) : Reps K F xs.reverse us.reverse := by
  induction xs generalizing us with
  | nil => cases (show _ = ([] : List V) from h); exact Reps.nil
  | cons x xs ih =>
    obtain ⟨u, us', e, h, q⟩ := h
    subst e
    simpa using Reps.append (ih q) (Reps.cons h Reps.nil)
theorem Reps.dropLast {xs : List D} {us : List V} (h : Reps K F xs us) : Reps K F xs.dropLast us.dropLast := by
  have := h.length
  rw [List.dropLast_eq_take, List.dropLast_eq_take, this]
  exact h.take _
theorem Reps.eraseIdx : ∀ {xs : List D} {us : List V} (n : Nat), Reps K F xs us → Reps K F (xs.eraseIdx n) (us.eraseIdx n)
  | [], _, _, h => by cases (show _ = ([] : List V) from h); exact Reps.nil
  | x :: xs, _, 0, ⟨v, us', e, h, q⟩ => by subst e; exact q
  | x :: xs, _, n + 1, ⟨v, us', e, h, q⟩ => by subst e; exact Reps.cons h (Reps.eraseIdx n q)
theorem Reps.rep {xs : List D} {us : List V} (h : Reps K F xs us) : ∀ k : Nat, Reps K F (List.replicate k xs).flatten (List.replicate k us).flatten
  | 0 => Reps.nil
  | k + 1 => by simpa [List.replicate_succ] using Reps.append h (Reps.rep h k)
theorem reps_ints : ∀ {ns : List Int}, Reps K F (ns.map D.int) (ns.map V.int)
  | [] => Reps.nil
  | n :: ns => Reps.cons rfl reps_ints
theorem reps_ints_eq : ∀ {ns : List Int} {us : List V}, Reps K F (ns.map D.int) us → us = ns.map V.int
  | [], _, h => h
  | n :: ns, _, ⟨u, us', e, h, q⟩ => by subst e; cases (show u = _ from h); rw [reps_ints_eq q]; rfl
theorem reps_bls_eq : ∀ {ns : List Bool} {us : List V}, Reps K F (ns.map D.bl) us → us = ns.map V.bl
  | [], _, h => h
  | n :: ns, _, ⟨u, us', e, h, q⟩ => by subst e; cases (show u = _ from h); rw [reps_bls_eq q]; rfl
theorem reps_strs_eq : ∀ {ns : List Str} {us : List V}, Reps K F (ns.map D.str) us → us = ns.map V.str
  | [], _, h => h
  | n :: ns, _, ⟨u, us', e, h, q⟩ => by subst e; cases (show u = _ from h); rw [reps_strs_eq q]; rfl
end

/-! ### what is mutable -/
def RO (K : PySem.W.Frag) (H F : Hp) (a : Addr) : MO → Prop
  | .lst ds => ∃ us, H a = some (.lst us) ∧ Reps K F ds us
  | .dct kvs => ∃ kus, H a = some (.dK kus) ∧ kus.map (·.1) = kvs.map (·.1) ∧ Reps K F (kvs.map (·.2)) (kus.map (·.2))
  | .ins c fs => ∃ dx gs, H a = some (.ins (He.ga K c) dx gs) ∧ gs.map (·.1) = fs.map (·.1) ∧ Reps K F (fs.map (·.2)) (gs.map (·.2))
structure R (K : PySem.W.Frag) (H F : Hp) (M : Mp) : Prop where
  sub : Same F H
  dis : ∀ a o, M a = some o → F a = none
  rep : ∀ a o, M a = some o → RO K H F a o
def Keep (M : Mp) (H : Hp) (M' : Mp) (H' : Hp) : Prop := ∀ a o, H a = some o → M a = none → H' a = some o ∧ M' a = none
structure Step (K : PySem.W.Frag) (H F : Hp) (M : Mp) (H' F' : Hp) (M' : Mp) : Prop where
  sub : Same F F'
  r : R K H' F' M'
  keep : Keep M H M' H'
  free : ∀ a o, H a = some o → F a = none → M a = none → F' a = none
section
variable {K : PySem.W.Frag} {H F H' F' H2 F2 : Hp} {M M' M2 : Mp}
theorem Step.refl (r : R K H F M) : Step K H F M H F M := ⟨Same.refl _, r, fun _ _ h n => ⟨h, n⟩, fun _ _ _ h _ => h⟩
theorem Step.trans (a : Step K H F M H' F' M') (b : Step K H' F' M' H2 F2 M2) : Step K H F M H2 F2 M2 :=
  ⟨a.sub.trans b.sub, b.r, fun x o h n => let ⟨h1, n1⟩ := a.keep x o h n; b.keep x o h1 n1, fun x o h f n => let ⟨h1, n1⟩ := a.keep x o h n; b.free x o h1 (a.free x o h f n) n1⟩
theorem RO.isSome {a : Addr} {o : MO} (h : RO K H F a o) : ∃ u, H a = some u := by
  cases o with
  | lst ds => obtain ⟨us, e, _⟩ := h; exact ⟨_, e⟩
  | dct kvs => obtain ⟨us, e, _⟩ := h; exact ⟨_, e⟩
  | ins c fs => obtain ⟨dx, us, e, _⟩ := h; exact ⟨_, e⟩
theorem R.fresh (r : R K H F M) {p : Addr} (h : H p = none) : M p = none ∧ F p = none := by
  constructor
  · cases e : M p with
    | none => rfl
    | some o => obtain ⟨u, q⟩ := (r.rep p o e).isSome; rw [h] at q; cases q
  · cases e : F p with
    | none => rfl
    | some o => have q := r.sub p o e; rw [h] at q; cases q
theorem same_upd {H : Hp} {p : Addr} {o : HO} (h : H p = none) : Same H (upd H p o) := fun b u q => by rw [upd_ne (ne_of_none q h)]; exact q
theorem RO.up {a : Addr} {o : MO} (h : RO K H F a o) (s : Same F F') (e : ∀ u, H a = some u → H' a = some u) : RO K H' F' a o := by
  cases o with
  | lst ds => obtain ⟨us, q, r⟩ := h; exact ⟨us, e _ q, Reps.up s _ r⟩
  | dct kvs => obtain ⟨us, q, n, r⟩ := h; exact ⟨us, e _ q, n, Reps.up s _ r⟩
  | ins c fs => obtain ⟨dx, us, q, n, r⟩ := h; exact ⟨dx, us, e _ q, n, Reps.up s _ r⟩
/-- a new thing that stays as it is -/
theorem Step.froz (r : R K H F M) {p : Addr} (h : H p = none) (o : HO) : Step K H F M (upd H p o) (upd F p o) M := by
  obtain ⟨hm, hf⟩ := r.fresh h
  refine ⟨same_upd hf, ⟨fun a u q => ?_, fun a u q => ?_, fun a u q => ?_⟩, fun a u q n => ?_, fun a u q f n => by rw [upd_ne (ne_of_none q h)]; exact f⟩
  · by_cases e : a = p
    · subst e; rw [upd_same] at q ⊢; exact q
    · rw [upd_ne e] at q ⊢; exact r.sub a u q
  · have e : a ≠ p := fun e => by subst e; rw [hm] at q; cases q
    rw [upd_ne e]; exact r.dis a u q
  · have e : a ≠ p := fun e => by subst e; rw [hm] at q; cases q
    exact (r.rep a u q).up (same_upd hf) fun u h => by rw [upd_ne e]; exact h
  · have e : a ≠ p := fun e => by subst e; rw [h] at q; cases q
    exact ⟨by rw [upd_ne e]; exact q, n⟩
/-- a new mutable thing -/
theorem Step.mut (r : R K H F M) {p : Addr} (h : H p = none) {o : HO} {m : MO} (ro : RO K (upd H p o) F p m) : Step K H F M (upd H p o) F (mset M p m) := by
  obtain ⟨hm, hf⟩ := r.fresh h
  refine ⟨Same.refl _, ⟨fun a u q => ?_, fun a u q => ?_, fun a u q => ?_⟩, fun a u q n => ?_, fun a u q f n => f⟩
  · have e : a ≠ p := fun e => by subst e; rw [hf] at q; cases q
    rw [upd_ne e]; exact r.sub a u q
  · by_cases e : a = p
    · subst e; exact hf
    · rw [mset_ne e] at q; exact r.dis a u q
  · by_cases e : a = p
    · subst e; rw [mset_same] at q; cases q; exact ro
    · rw [mset_ne e] at q
      exact (r.rep a u q).up (Same.refl _) fun u h => by rw [upd_ne e]; exact h
  · have e : a ≠ p := fun e => by subst e; rw [h] at q; cases q
    exact ⟨by rw [upd_ne e]; exact q, by rw [mset_ne e]; exact n⟩
/-- a mutable thing changed -/
theorem Step.put (r : R K H F M) {p : Addr} {m0 : MO} (h : M p = some m0) {o : HO} {m : MO} (ro : RO K (upd H p o) F p m) : Step K H F M (upd H p o) F (mset M p m) := by
  have hf := r.dis p _ h
  refine ⟨Same.refl _, ⟨fun a u q => ?_, fun a u q => ?_, fun a u q => ?_⟩, fun a u q n => ?_, fun a u q f n => f⟩
  · have e : a ≠ p := fun e => by subst e; rw [hf] at q; cases q
    rw [upd_ne e]; exact r.sub a u q
  · by_cases e : a = p
    · subst e; exact hf
    · rw [mset_ne e] at q; exact r.dis a u q
  · by_cases e : a = p
    · subst e; rw [mset_same] at q; cases q; exact ro
    · rw [mset_ne e] at q
      exact (r.rep a u q).up (Same.refl _) fun u h => by rw [upd_ne e]; exact h
  · have e : a ≠ p := fun e => by subst e; rw [h] at n; cases n
    exact ⟨by rw [upd_ne e]; exact q, by rw [mset_ne e]; exact n⟩
/-- what is not used any more -/
theorem Step.drop (r : R K H F M) (p : Addr) : Step K H F M H F (mdel M p) := by
  refine ⟨Same.refl _, ⟨r.sub, fun a u q => ?_, fun a u q => ?_⟩, fun a u q n => ⟨q, ?_⟩, fun a u q f n => f⟩
  · unfold mdel at q; split at q
    · cases q
    · exact r.dis a u q
  · unfold mdel at q; split at q
    · cases q
    · exact r.rep a u q
  · unfold mdel; split
    · rfl
    · exact n
/-- a list that is not changed any more -/
theorem Step.freeze (r : R K H F M) {p : Addr} {ds : List D} (h : M p = some (.lst ds)) : ∃ us F', H p = some (.lst us) ∧ F' p = some (.lst us) ∧ Reps K F' ds us ∧ Step K H F M H F' (mdel M p) := by
  obtain ⟨us, e, q⟩ := (show ∃ us, H p = some (.lst us) ∧ Reps K F ds us from r.rep p _ h)
  have hf := r.dis p _ h
  refine ⟨us, upd F p (.lst us), e, upd_same, Reps.up (same_upd hf) _ q, same_upd hf, ⟨fun a u q => ?_, fun a u q => ?_, fun a u q => ?_⟩, fun a u q n => ⟨q, ?_⟩, fun a u q f n => by rw [upd_ne (fun z => by subst z; rw [h] at n; cases n)]; exact f⟩
  · by_cases z : a = p
    · subst z; rw [upd_same] at q; rw [e]; exact q
    · rw [upd_ne z] at q; exact r.sub a u q
  · unfold mdel at q; split at q
    · cases q
    · rename_i z; rw [upd_ne z]; exact r.dis a u q
  · unfold mdel at q; split at q
    · cases q
    · exact (r.rep a u q).up (same_upd hf) fun u h => h
  · unfold mdel; split
    · rfl
    · exact n
end

/-! ### the names' data -/
abbrev Env := List (Option D)
def EnvR (K : PySem.W.Frag) (F : Hp) (ρ : Env) (σ : St) : Prop := ρ.length = σ.length ∧ ∀ (i : Nat) (d : D), ρ[i]? = some (some d) → ∃ v, σ[i]? = some (some v) ∧ Rep K F d v
section
variable {K : PySem.W.Frag} {F F' : Hp} {ρ : Env} {σ : St}
theorem EnvR.up (e : EnvR K F ρ σ) (s : Same F F') : EnvR K F' ρ σ := ⟨e.1, fun i d h => let ⟨v, h1, h2⟩ := e.2 i d h; ⟨v, h1, h2.up s⟩⟩
theorem EnvR.set (e : EnvR K F ρ σ) {d : D} {v : V} (h : Rep K F d v) (i : Nat) : EnvR K F (ρ.set i (some d)) (σ.set i (some v)) := by
  refine ⟨by rw [List.length_set, List.length_set, e.1], fun j d' h' => ?_⟩
  by_cases hj : i = j
  · subst hj
    by_cases hl : i < ρ.length
    · rw [List.getElem?_set_self hl] at h'; cases h'
      exact ⟨v, by rw [List.getElem?_set_self (by rw [← e.1]; exact hl)], h⟩
    · rw [List.getElem?_eq_none (by simpa using hl)] at h'; cases h'
  · rw [List.getElem?_set_ne hj] at h' ⊢; exact e.2 j d' h'
theorem EnvR.clear (e : EnvR K F ρ σ) (i : Nat) : EnvR K F (ρ.set i none) (σ.set i none) := by
  refine ⟨by rw [List.length_set, List.length_set, e.1], fun j d' h' => ?_⟩
  by_cases hj : i = j
  · subst hj
    by_cases hl : i < ρ.length
    · rw [List.getElem?_set_self hl] at h'; cases h'
    · rw [List.getElem?_eq_none (by simpa using hl)] at h'; cases h'
  · rw [List.getElem?_set_ne hj] at h' ⊢; exact e.2 j d' h'
def wipeA (ρ : Env) : List Nat → Env
  | [] => ρ
  | v :: vs => (wipeA ρ vs).set v none
theorem EnvR.wipe (e : EnvR K F ρ σ) : ∀ vs, EnvR K F (wipeA ρ vs) (L2.wipe σ vs)
  | [] => e
  | v :: vs => (EnvR.wipe e vs).clear v
end

/-! ### readings of data, lifted -/
abbrev KQ := D → Mp → Prop
abbrev KX := Str → Mp → Prop
abbrev AE := Env → Mp → KQ → KX → Prop
def MonoE (t : AE) : Prop := ∀ ρ M (Q Q' : KQ) (X X' : KX), (∀ d M', Q d M' → Q' d M') → (∀ c M', X c M' → X' c M') → t ρ M Q X → t ρ M Q' X'
/-- what is wanted of a datum, from what is wanted of a value -/
def qOf (K : PySem.W.Frag) (H F : Hp) (M : Mp) (Q : VK) : KQ := fun d M' => ∀ H' F' v, Step K H F M H' F' M' → Rep K F' d v → Q v H'
def xOf (K : PySem.W.Frag) (H F : Hp) (M : Mp) (σ : St) (W : WX) : KX := fun c M' => ∀ H' F', Step K H F M H' F' M' → W (.ref (He.ga K c)) none σ H'
def liftE (K : PySem.W.Frag) (t : AE) (W : WX) : TE := fun σ H Q => ∃ F ρ M, R K H F M ∧ EnvR K F ρ σ ∧ t ρ M (qOf K H F M Q) (xOf K H F M σ W)
structure AEok (X : Cx) (W : WX) (e : Expr) (t : AE) : Prop where
  mono : MonoE t
  pe : PE X e (liftE X.K t W)
theorem pe_imp {X : Cx} {e : Expr} {t t' : TE} (h : PE X e t) (i : ∀ σ H Q, t' σ H Q → t σ H Q) : PE X e t' := ⟨fun pins s σ H Q I q => h.run pins s σ H Q I (i _ _ _ q)⟩
section
variable {K : PySem.W.Frag} {H F H1 F1 : Hp} {M M1 : Mp} {Q : VK} {σ : St} {W : WX}
theorem qOf.step (s : Step K H F M H1 F1 M1) {d : D} {M' : Mp} (h : qOf K H F M Q d M') : qOf K H1 F1 M1 Q d M' := fun H' F' v s' r => h H' F' v (s.trans s') r
theorem xOf.step (s : Step K H F M H1 F1 M1) {c : Str} {M' : Mp} (h : xOf K H F M σ W c M') : xOf K H1 F1 M1 σ W c M' := fun H' F' s' => h H' F' (s.trans s')
/-- an operation upon two data, by values -/
abbrev AO2 := D → D → Mp → KQ → Prop
def MonoO2 (o : AO2) : Prop := ∀ x y M (Q Q' : KQ), (∀ d M', Q d M' → Q' d M') → o x y M Q → o x y M Q'
def liftO2 (K : PySem.W.Frag) (o : AO2) : R2 := fun vx vy H Q => ∃ F M x y, R K H F M ∧ Rep K F x vx ∧ Rep K F y vy ∧ o x y M (qOf K H F M Q)
end
theorem opr_imp {X : Cx} {f : Value → Value → Sem Value} {r r' : R2} (h : OpR X f r) (i : ∀ x y H Q, r' x y H Q → r x y H Q) : OpR X f r' :=
  fun pins s σ H x y v u Q I rx ry q => h pins s σ H x y v u Q I rx ry (i _ _ _ _ q)
/-- the reading of two parts and an operation -/
def aBin (o : AO2) (ta tb : AE) : AE := fun ρ M Q X => ta ρ M (fun x M1 => tb ρ M1 (fun y M2 => o x y M2 Q) X) X
theorem aBin.mono {o : AO2} {ta tb : AE} (mo : MonoO2 o) (ma : MonoE ta) (mb : MonoE tb) : MonoE (aBin o ta tb) := fun ρ M Q Q' X X' hq hx h =>
  ma _ _ _ _ _ _ (fun x M1 h1 => mb _ _ _ _ _ _ (fun y M2 h2 => mo _ _ _ _ _ hq h2) hx h1) hx h
theorem lift_bin {K : PySem.W.Frag} {W : WX} {o : AO2} {ta tb : AE} (mo : MonoO2 o) (ma : MonoE ta) (mb : MonoE tb) : ∀ σ H Q, liftE K (aBin o ta tb) W σ H Q → tOp (liftO2 K o) (liftE K ta W) (liftE K tb W) σ H Q := by
  rintro σ H Q ⟨F, ρ, M, hr, he, h⟩
  refine ⟨F, ρ, M, hr, he, ma _ _ _ _ _ _ (fun x M1 h1 => ?_) (fun c M1 h1 => h1) h⟩
  intro H1 F1 v s1 r1
  refine ⟨F1, ρ, M1, s1.r, he.up s1.sub, mb _ _ _ _ _ _ (fun y M2 h2 => ?_) (fun c M2 h2 => h2.step s1) h1⟩
  intro H2 F2 u s2 r2
  exact ⟨F2, M2, x, y, s2.r, Rep.up s2.sub _ r1, r2, mo _ _ _ _ _ (fun d M' q => q.step (s1.trans s2)) h2⟩
section
variable {X : Cx} {W : WX} {a b : Expr} {ta tb : AE} {pos : Pos}
theorem ae_op {op : Operator} {o : AO2} (ho : OpR X (binaryOp op) (liftO2 X.K o)) (mo : MonoO2 o) (ha : AEok X W a ta) (hb : AEok X W b tb) : AEok X W (.BinOp a op b pos) (aBin o ta tb) :=
  ⟨aBin.mono mo ha.mono hb.mono, pe_imp (pe_op ho ha.pe hb.pe) (lift_bin mo ha.mono hb.mono)⟩
theorem ae_cmp {op : CmpOp} {o : AO2} (ho : OpR X (compareOp op) (liftO2 X.K o)) (mo : MonoO2 o) (ha : AEok X W a ta) (hb : AEok X W b tb) (hm : behindInMarks op b = false) : AEok X W (.Compare a [op] [b] pos) (aBin o ta tb) :=
  ⟨aBin.mono mo ha.mono hb.mono, pe_imp (pe_cmpR ho ha.pe hb.pe hm) (lift_bin mo ha.mono hb.mono)⟩
theorem ae_ix {o : AO2} (ho : IxR X (liftO2 X.K o)) (mo : MonoO2 o) (ha : AEok X W a ta) (hb : AEok X W b tb) (hs : PlainIx b) : AEok X W (.Subscript a b pos) (aBin o ta tb) :=
  ⟨aBin.mono mo ha.mono hb.mono, pe_imp (pe_ix ho ha.pe hb.pe hs) (lift_bin mo ha.mono hb.mono)⟩
end
end TT
set_option Elab.async false
set_option linter.all false
set_option maxRecDepth 100000
set_option maxHeartbeats 2000000
/-! TB: operations upon data. -/
namespace TT
open PySem PySem.Spec PyProof.Rows L2

/-! ### lists, laid -/
def lcon : D → Mp → Option (List D)
  | .lst ds, _ => some ds
  | .scr ns, _ => some (ns.map D.int)
  | .ref a, M => match M a with
    | some (.lst ds) => some ds
    | _ => none
  | _, _ => none
def lconT : D → Mp → Option (List D)
  | .lst ds, _ => some ds
  | .ref a, M => match M a with
    | some (.lst ds) => some ds
    | _ => none
  | _, _ => none
section
variable {K : PySem.W.Frag} {H F : Hp} {M : Mp}
theorem lconT_ok (hr : R K H F M) {x : D} {v : V} {ds : List D} (rx : Rep K F x v) (h : lconT x M = some ds) : ∃ a us, v = .ref a ∧ H a = some (.lst us) ∧ Reps K F ds us := by
  unfold lconT at h
  split at h
  · cases h; obtain ⟨a, us, e, h1, h2⟩ := rx; exact ⟨a, us, e, hr.sub _ _ h1, h2⟩
  · split at h
    · rename_i ds' e; cases h
      obtain ⟨us, h1, h2⟩ := hr.rep _ _ e
      exact ⟨_, us, rx, h1, h2⟩
    · cases h
  · cases h
theorem lcon_ok (hr : R K H F M) {x : D} {v : V} {ds : List D} (rx : Rep K F x v) (h : lcon x M = some ds) : ∃ a us, v = .ref a ∧ SqL K H a us ∧ Reps K F ds us := by
  unfold lcon at h
  split at h
  · cases h; obtain ⟨a, us, e, h1, h2⟩ := rx; exact ⟨a, us, e, SqL.of (hr.sub _ _ h1), h2⟩
  · cases h; obtain ⟨a, e, h1⟩ := rx; exact ⟨a, _, e, hr.sub.seq h1, reps_ints⟩
  · split at h
    · rename_i ds' e; cases h
      obtain ⟨us, h1, h2⟩ := hr.rep _ _ e
      exact ⟨_, us, rx, SqL.of h1, h2⟩
    · cases h
  · cases h
theorem tup_ok (hr : R K H F M) {ds : List D} {v : V} (rx : Rep K F (.tup ds) v) : ∃ a us, v = .ref a ∧ SqT K H a us ∧ Reps K F ds us := by
  obtain ⟨a, us, e, h, q⟩ := rx
  exact ⟨a, us, e, same_seqT hr.sub h, q⟩
def alloc (m : Bool) (ds : List D) (M : Mp) (Q : KQ) : Prop := match m with
  | true => ∀ a, M a = none → Q (.ref a) (mset M a (.lst ds))
  | false => Q (.lst ds) M
theorem alloc_mono {m : Bool} {ds : List D} {M : Mp} {Q Q' : KQ} (h : ∀ d M', Q d M' → Q' d M') (q : alloc m ds M Q) : alloc m ds M Q' := by
  cases m with
  | true => exact fun a n => h _ _ (q a n)
  | false => exact h _ _ q
theorem new_lst (hr : R K H F M) {ds : List D} {us : List V} (r : Reps K F ds us) {m : Bool} {Q : VK} (h : alloc m ds M (qOf K H F M Q)) : ∀ p, H p = none → Q (.ref p) (upd H p (.lst us)) := fun p hp => by
  cases m with
  | true =>
    have q := h p (hr.fresh hp).1
    exact q _ _ _ (Step.mut hr hp ⟨us, upd_same, r⟩) rfl
  | false =>
    have s := Step.froz hr hp (.lst us)
    exact h _ _ _ s ⟨p, us, rfl, upd_same, Reps.up s.sub _ r⟩
theorem new_tup (hr : R K H F M) {ds : List D} {us : List V} (r : Reps K F ds us) {Q : VK} (h : qOf K H F M Q (.tup ds) M) : ∀ p, H p = none → Q (.ref p) (upd H p (.tup us)) := fun p hp => by
  have s := Step.froz hr hp (.tup us)
  exact h _ _ _ s ⟨p, us, rfl, .inl (.inl upd_same), Reps.up s.sub _ r⟩
/-- the value as it is -/
theorem qOf.here (hr : R K H F M) {Q : VK} {d : D} {v : V} (h : qOf K H F M Q d M) (r : Rep K F d v) : Q v H := h _ _ _ (Step.refl hr) r
end

/-! ### arithmetic -/
def intO (C : Int → Int → Prop) (g : Int → Int → D) : AO2 := fun x y M Q => match x, y with
  | .int i, .int j => C i j ∧ Q (g i j) M
  | _, _ => False
def intO0 (g : Int → Int → D) : AO2 := fun x y M Q => match x, y with
  | .int i, .int j => Q (g i j) M
  | _, _ => False
theorem intO.mono {C : Int → Int → Prop} {g : Int → Int → D} : MonoO2 (intO C g) := fun x y M Q Q' h q => by
  unfold intO at *; split at q
  · exact ⟨q.1, h _ _ q.2⟩
  · exact q
theorem intO0.mono {g : Int → Int → D} : MonoO2 (intO0 g) := fun x y M Q Q' h q => by
  unfold intO0 at *; split at q
  · exact h _ _ q
  · exact q
theorem intO.ok {X : Cx} {f : Value → Value → Sem Value} {C C' : Int → Int → Prop} {g : Int → Int → D} {g' : Int → Int → V} (h : OpR X f (rI C' g')) (hC : ∀ i j, C i j → C' i j) (hg : ∀ F i j, C i j → Rep X.K F (g i j) (g' i j)) : OpR X f (liftO2 X.K (intO C g)) :=
  opr_imp h fun vx vy H Q ⟨F, M, x, y, hr, rx, ry, q⟩ => by
    unfold intO at q; split at q
    · exact ⟨_, _, rx, ry, hC _ _ q.1, q.2.here hr (hg _ _ _ q.1)⟩
    · exact q.elim
theorem intO0.ok {X : Cx} {f : Value → Value → Sem Value} {g : Int → Int → D} {g' : Int → Int → V} (h : OpR X f (rI0 g')) (hg : ∀ F i j, Rep X.K F (g i j) (g' i j)) : OpR X f (liftO2 X.K (intO0 g)) :=
  opr_imp h fun vx vy H Q ⟨F, M, x, y, hr, rx, ry, q⟩ => by
    unfold intO0 at q; split at q
    · exact ⟨_, _, rx, ry, q.here hr (hg _ _ _)⟩
    · exact q.elim
def bI (b : Bool) : Int := if b = true then 1 else 0
def subO : AO2 := fun x y M Q => match x, y with
  | .int i, .int j => Q (.int (i - j)) M
  | .int i, .bl b => Q (.int (i - bI b)) M
  | .bl b, .int j => Q (.int (bI b - j)) M
  | _, _ => False
theorem subO.mono : MonoO2 subO := fun x y M Q Q' h q => by
  unfold subO at *; split at q
  · exact h _ _ q
  · exact h _ _ q
  · exact h _ _ q
  · exact q
abbrev fdivO : AO2 := intO CDivW fun i j => .int (i / j)
abbrev modO : AO2 := intO (fun _ j => 0 < j) fun i j => .int (i % j)
abbrev powO : AO2 := intO CPow fun i j => .int (i ^ j.toNat)
abbrev ltO : AO2 := intO0 fun i j => .bl (decide (i < j))
abbrev leO : AO2 := intO0 fun i j => .bl (decide (i ≤ j))
abbrev gtO : AO2 := intO0 fun i j => .bl (decide (j < i))
abbrev geO : AO2 := intO0 fun i j => .bl (decide (j ≤ i))
section
variable {X : Cx}
theorem op_sub_ib : OpR X (binaryOp .Sub) (fun x y H Q => ∃ i k, x = .int i ∧ y = .bl k ∧ Q (.int (i - bI k)) H) := by
  intro pins s σ H x y v u Q I rx ry h
  obtain ⟨i, k, rfl, rfl, q⟩ := h
  obtain ⟨t, rfl⟩ := rx
  cases ry
  exact IntBool.sub_int_bool ⟨.int (i - bI k), H, I.tok _, ⟨_, rfl⟩, q⟩
theorem op_sub_bi : OpR X (binaryOp .Sub) (fun x y H Q => ∃ k i, x = .bl k ∧ y = .int i ∧ Q (.int (bI k - i)) H) := by
  intro pins s σ H x y v u Q I rx ry h
  obtain ⟨k, i, rfl, rfl, q⟩ := h
  obtain ⟨t, rfl⟩ := ry
  cases rx
  exact IntBool.sub_bool_int ⟨.int (bI k - i), H, I.tok _, ⟨_, rfl⟩, q⟩
theorem op_add_bi : OpR X (binaryOp .Add) (fun x y H Q => ∃ k i, x = .bl k ∧ y = .int i ∧ Q (.int (bI k + i)) H) := by
  intro pins s σ H x y v u Q I rx ry h
  obtain ⟨k, i, rfl, rfl, q⟩ := h
  obtain ⟨t, rfl⟩ := ry
  cases rx
  exact IntBool.add_bool_int ⟨.int (bI k + i), H, I.tok _, ⟨_, rfl⟩, q⟩
theorem op_mul_ib : OpR X (binaryOp .Mult) (fun x y H Q => ∃ i k, x = .int i ∧ y = .bl k ∧ Q (.int (i * bI k)) H) := by
  intro pins s σ H x y v u Q I rx ry h
  obtain ⟨i, k, rfl, rfl, q⟩ := h
  obtain ⟨t, rfl⟩ := rx
  cases ry
  exact IntBool.mul_int_bool ⟨.int (i * bI k), H, I.tok _, ⟨_, rfl⟩, q⟩
theorem ok_sub : OpR X (binaryOp .Sub) (liftO2 X.K subO) := opr_imp (op_sub.or (op_sub_ib.or op_sub_bi)) fun vx vy H Q ⟨F, M, x, y, hr, rx, ry, q⟩ => by
  unfold subO at q; split at q
  · exact .inl ⟨_, _, rx, ry, q.here hr rfl⟩
  · exact .inr (.inl ⟨_, _, rx, ry, q.here hr rfl⟩)
  · exact .inr (.inr ⟨_, _, rx, ry, q.here hr rfl⟩)
  · exact q.elim
theorem ok_fdiv : OpR X (binaryOp .FloorDiv) (liftO2 X.K fdivO) := intO.ok op_fdivW (fun _ _ h => h) fun _ _ _ _ => rfl
theorem ok_mod : OpR X (binaryOp .Mod) (liftO2 X.K modO) := intO.ok op_mod (fun _ _ h => h) fun _ _ _ _ => rfl
theorem ok_pow : OpR X (binaryOp .Pow) (liftO2 X.K powO) := intO.ok op_pow (fun _ _ h => h) fun _ _ _ _ => rfl
theorem ok_lt : OpR X (compareOp .Lt) (liftO2 X.K ltO) := intO0.ok op_lt fun _ _ _ => rfl
theorem ok_le : OpR X (compareOp .LtE) (liftO2 X.K leO) := intO0.ok op_le fun _ _ _ => rfl
theorem ok_gt : OpR X (compareOp .Gt) (liftO2 X.K gtO) := intO0.ok op_gt fun _ _ _ => rfl
theorem ok_ge : OpR X (compareOp .GtE) (liftO2 X.K geO) := intO0.ok op_ge fun _ _ _ => rfl
end

/-! ### + -/
def addO (m : Bool) : AO2 := fun x y M Q => match x, y with
  | .int i, .int j => Q (.int (i + j)) M
  | .bl b, .int j => Q (.int (bI b + j)) M
  | .str a, .str b => a.length + b.length ≤ sizeLine ∧ Q (.str (a ++ b)) M
  | .tup a, .tup b => a.length + b.length ≤ sizeLine ∧ Q (.tup (a ++ b)) M
  | x, y => ∃ a b, lconT x M = some a ∧ lconT y M = some b ∧ a.length + b.length ≤ sizeLine ∧ alloc m (a ++ b) M Q
theorem addO.mono {m : Bool} : MonoO2 (addO m) := fun x y M Q Q' h q => by
  unfold addO at *; split at q
  · exact h _ _ q
  · exact h _ _ q
  · exact ⟨q.1, h _ _ q.2⟩
  · exact ⟨q.1, h _ _ q.2⟩
  · obtain ⟨a, b, h1, h2, h3, q⟩ := q
    exact ⟨a, b, h1, h2, h3, alloc_mono h q⟩
theorem ok_add {X : Cx} {m : Bool} : OpR X (binaryOp .Add) (liftO2 X.K (addO m)) :=
  opr_imp (op_add.or (op_add_bi.or (op_add_str.or (op_catA.or op_cat)))) fun vx vy H Q ⟨F, M, x, y, hr, rx, ry, q⟩ => by
    unfold addO at q; split at q
    · exact .inl ⟨_, _, rx, ry, q.here hr rfl⟩
    · exact .inr (.inl ⟨_, _, rx, ry, q.here hr rfl⟩)
    · exact .inr (.inr (.inl ⟨_, _, rx, ry, q.1, q.2.here hr rfl⟩))
    · obtain ⟨a, us, e1, h1, r1⟩ := tup_ok hr rx
      obtain ⟨b, ws, e2, h2, r2⟩ := tup_ok hr ry
      obtain ⟨z, q⟩ := q
      refine .inr (.inr (.inr (.inl ⟨a, b, us, ws, e1, e2, h1, h2, by rw [← r1.length, ← r2.length]; exact z, fun n => ?_, fun _ n => ?_, fun _ _ p hp => ?_⟩)))
      · have : (_ : List D) = [] := List.eq_nil_of_length_eq_zero (r1.length.trans (by rw [n]; rfl))
        subst this
        rw [List.nil_append] at q
        exact q.here hr (by rw [e2] at ry; exact ry)
      · have : (_ : List D) = [] := List.eq_nil_of_length_eq_zero (r2.length.trans (by rw [n]; rfl))
        subst this
        rw [List.append_nil] at q
        exact q.here hr (by rw [e1] at rx; exact rx)
      · exact new_tup hr (r1.append r2) q p hp
    · obtain ⟨a, b, h1, h2, z, q⟩ := q
      obtain ⟨p, us, e1, g1, r1⟩ := lconT_ok hr rx h1
      obtain ⟨p', ws, e2, g2, r2⟩ := lconT_ok hr ry h2
      exact .inr (.inr (.inr (.inr ⟨p, p', us, ws, e1, e2, g1, g2, by rw [← r1.length, ← r2.length]; exact z, new_lst hr (r1.append r2) q⟩)))

/-! ### is, == -/
def isO (neg : Bool) : AO2 := fun x y M Q => match x, y with
  | .non, .non => Q (.bl (true ^^ neg)) M
  | .bl a, .bl b => Q (.bl (decide (a = b) ^^ neg)) M
  | _, .non => Q (.bl (false ^^ neg)) M
  | _, _ => False
theorem isO.mono {neg : Bool} : MonoO2 (isO neg) := fun x y M Q Q' h q => by
  unfold isO at *; split at q
  · exact h _ _ q
  · exact h _ _ q
  · exact h _ _ q
  · exact q
theorem rep_non {K : PySem.W.Frag} {F : Hp} {d : D} (h : Rep K F d .non) : d = .non := by
  cases d with
  | non => rfl
  | bl b => cases (show V.non = .bl b from h)
  | int b => cases (show V.non = .int b from h)
  | str b => cases (show V.non = .str b from h)
  | tup b => obtain ⟨a, us, e, _⟩ := h; cases e
  | lst b => obtain ⟨a, us, e, _⟩ := h; cases e
  | scr b => obtain ⟨a, e, _⟩ := h; cases e
  | ref b => cases (show V.non = .ref b from h)
theorem ok_is {X : Cx} : OpR X (compareOp .Is) (liftO2 X.K (isO false)) :=
  opr_imp (op_isN.or op_is_bl) fun vx vy H Q ⟨F, M, x, y, hr, rx, ry, q⟩ => by
    unfold isO at q; split at q
    · cases (show vx = .non from rx); exact .inl ⟨ry, q.here hr rfl⟩
    · exact .inr ⟨_, _, rx, ry, q.here hr (by rw [Bool.xor_false]; rfl)⟩
    · refine .inl ⟨ry, ?_⟩
      have e : decide (vx = .non) = false := decide_eq_false fun e => by subst e; have := rep_non rx; simp_all
      rw [e]; exact q.here hr rfl
    · exact q.elim
theorem ok_isnot {X : Cx} : OpR X (compareOp .IsNot) (liftO2 X.K (isO true)) :=
  opr_imp (op_notN.or op_isnot_bl) fun vx vy H Q ⟨F, M, x, y, hr, rx, ry, q⟩ => by
    unfold isO at q; split at q
    · cases (show vx = .non from rx); exact .inl ⟨ry, q.here hr rfl⟩
    · exact .inr ⟨_, _, rx, ry, q.here hr (by rw [Bool.xor_true]; rfl)⟩
    · refine .inl ⟨ry, ?_⟩
      have e : decide (vx = .non) = false := decide_eq_false fun e => by subst e; have := rep_non rx; simp_all
      rw [e]; exact q.here hr rfl
    · exact q.elim
mutual
inductive PyOf (M : Mp) : D → PyData → Prop
  | non : PyOf M .non .none
  | bl (b : Bool) : PyOf M (.bl b) (.bool b)
  | int (i : Int) : PyOf M (.int i) (.int i)
  | str (x : Str) : PyOf M (.str x) (.str x)
  | lst {ds : List D} {ps : List PyData} : PysOf M ds ps → PyOf M (.lst ds) (.list ps)
  | tup {ds : List D} {ps : List PyData} : PysOf M ds ps → PyOf M (.tup ds) (.tuple ps)
  | ref {a : Addr} {ds : List D} {ps : List PyData} : M a = some (.lst ds) → PysOf M ds ps → PyOf M (.ref a) (.list ps)
inductive PysOf (M : Mp) : List D → List PyData → Prop
  | nil : PysOf M [] []
  | cons {d : D} {ds : List D} {p : PyData} {ps : List PyData} : PyOf M d p → PysOf M ds ps → PysOf M (d :: ds) (p :: ps)
end
mutual
theorem dp_of {K : PySem.W.Frag} {H F : Hp} {M : Mp} (hr : R K H F M) : ∀ {p : PyData} {d : D} {v : V}, PyOf M d p → Rep K F d v → Dp K H v p
  | _, _, _, .non, r => by cases (show _ = V.non from r); exact .non
  | _, _, _, .bl b, r => by cases (show _ = V.bl b from r); exact .bl b
  | _, _, _, .int b, r => by cases (show _ = V.int b from r); exact .int b
  | _, _, _, .str b, r => by cases (show _ = V.str b from r); exact .str b
  | _, _, _, .lst h, r => by
    obtain ⟨a, us, e, h1, h2⟩ := r
    subst e
    exact .lst (SqL.of (hr.sub _ _ h1)) (dps_of hr h h2)
  | _, _, _, .tup h, r => by
    obtain ⟨a, us, e, h1, h2⟩ := r
    subst e
    exact .tup (same_seqT hr.sub h1) (dps_of hr h h2)
  | _, _, _, .ref e h, r => by
    cases (show _ = V.ref _ from r)
    obtain ⟨us, h1, h2⟩ := hr.rep _ _ e
    exact .lst (SqL.of h1) (dps_of hr h h2)
theorem dps_of {K : PySem.W.Frag} {H F : Hp} {M : Mp} (hr : R K H F M) : ∀ {ps : List PyData} {ds : List D} {vs : List V}, PysOf M ds ps → Reps K F ds vs → DpAll K H vs ps
  | _, _, _, .nil, r => by cases (show _ = ([] : List V) from r); exact .nil
  | _, _, _, .cons h q, r => by
    obtain ⟨u, us', e, h1, h2⟩ := r
    subst e
    exact .cons (dp_of hr h h1) (dps_of hr q h2)
end
def eqO (neg : Bool) : AO2 := fun x y M Q => match x, y with
  | .int i, .int j => Q (.bl (decide (i = j) ^^ neg)) M
  | .str i, .str j => Q (.bl (decide (i = j) ^^ neg)) M
  | .bl i, .bl j => Q (.bl (decide (i = j) ^^ neg)) M
  | x, y => ∃ p q, PyOf M x p ∧ PyOf M y q ∧ SeqAt.shaped p = true ∧ SeqAt.shaped q = true ∧ Q (.bl (PyData.eqv p q ^^ neg)) M
theorem eqO.mono {neg : Bool} : MonoO2 (eqO neg) := fun x y M Q Q' h q => by
  unfold eqO at *; split at q
  · exact h _ _ q
  · exact h _ _ q
  · exact h _ _ q
  · obtain ⟨p, r, h1, h2, h3, h4, q⟩ := q
    exact ⟨p, r, h1, h2, h3, h4, h _ _ q⟩
theorem ok_eq {X : Cx} (hu : X.A.units + 64 < cLine) : OpR X (compareOp .Eq) (liftO2 X.K (eqO false)) :=
  opr_imp (op_eq.or (op_eqD hu)) fun vx vy H Q ⟨F, M, x, y, hr, rx, ry, q⟩ => by
    unfold eqO at q; split at q
    · cases (show vx = _ from rx); cases (show vy = _ from ry)
      exact .inl ⟨rfl, q.here hr (by simp only [Bool.xor_false, V.int.injEq]; rfl)⟩
    · cases (show vx = _ from rx); cases (show vy = _ from ry)
      exact .inl ⟨rfl, q.here hr (by simp only [Bool.xor_false, V.str.injEq]; rfl)⟩
    · cases (show vx = _ from rx); cases (show vy = _ from ry)
      exact .inl ⟨rfl, q.here hr (by simp only [Bool.xor_false, V.bl.injEq]; rfl)⟩
    · obtain ⟨p, r, h1, h2, h3, h4, q⟩ := q
      exact .inr ⟨p, r, dp_of hr h1 rx, dp_of hr h2 ry, h3, h4, q.here hr (by rw [Bool.xor_false]; rfl)⟩
theorem ok_ne {X : Cx} (hu : X.A.units + 64 < cLine) : OpR X (compareOp .NotEq) (liftO2 X.K (eqO true)) :=
  opr_imp (op_ne.or (op_neD hu)) fun vx vy H Q ⟨F, M, x, y, hr, rx, ry, q⟩ => by
    unfold eqO at q; split at q
    · cases (show vx = _ from rx); cases (show vy = _ from ry)
      exact .inl ⟨rfl, q.here hr (by simp only [Bool.xor_true, V.int.injEq]; rfl)⟩
    · cases (show vx = _ from rx); cases (show vy = _ from ry)
      exact .inl ⟨rfl, q.here hr (by simp only [Bool.xor_true, V.str.injEq]; rfl)⟩
    · cases (show vx = _ from rx); cases (show vy = _ from ry)
      exact .inl ⟨rfl, q.here hr (by simp only [Bool.xor_true, V.bl.injEq]; rfl)⟩
    · obtain ⟨p, r, h1, h2, h3, h4, q⟩ := q
      exact .inr ⟨p, r, dp_of hr h1 rx, dp_of hr h2 ry, h3, h4, q.here hr (by rw [Bool.xor_true]; rfl)⟩
end TT
set_option Elab.async false
set_option linter.all false
set_option maxRecDepth 100000
set_option maxHeartbeats 4000000
/-! TC: further rules of the layer: tuple * k for any small k, t[::-1]. -/
namespace TT
open PySem PySem.Spec PyProof.Rows L2 HT

/-! ### tuple * 1, * 0 -/
theorem tuple_mul1 (l : Addr) (items : Array Value) (n : Nat) (dd : Option Addr) (sl : Array (Option Value)) (x : Int) (u : Tok) (c0 : (decide (x < -(2 ^ 63)) || decide (x ≥ 2 ^ 63)) = false) (c1 : (items.isEmpty || x == 1) = true) :
    Meets (Builtin.«tuple.__mul__» ⟨[.ref l, .int x u], []⟩) (fun _ R s => s.heap.get? l = some { cls := .type "tuple", dict := dd, data := .seq items n, slots := sl } ∧ R (.ok (.ret (Value.ref l))) s) :=
  .of_wp fun prog w A R s h => by
    obtain ⟨hp, g, d, tk, os⟩ := s
    obtain ⟨hl, h⟩ := h
    have f1 := AutoSeq1.idx_int
    wp_walk using wpAny_loadPart' hl
    repeat (first
      | (refine wpAny_ite_false (decide_eq_false (by rw [c0]; exact Bool.false_ne_true)) ?_; wp_walk using wpAny_loadPart' hl)
      | (refine wpAny_ite_true (decide_eq_true c1) ?_; wp_walk using wpAny_loadPart' hl))
    exact ⟨_, rfl, h⟩
theorem tuple_mul0 (l : Addr) (items : Array Value) (n : Nat) (dd : Option Addr) (sl : Array (Option Value)) (x : Int) (u : Tok) (c0 : (decide (x < -(2 ^ 63)) || decide (x ≥ 2 ^ 63)) = false) (c1 : (items.isEmpty || x == 1) = false) (c2 : (decide (x ≤ 0) || items.isEmpty) = true) :
    Meets (Builtin.«tuple.__mul__» ⟨[.ref l, .int x u], []⟩) (fun _ R s => s.heap.get? l = some { cls := .type "tuple", dict := dd, data := .seq items n, slots := sl } ∧
      R (.ok (.ret (Value.ref s.heap.objs.size))) { s with heap := s.heap.push { cls := Value.type "tuple", data := Data.seq #[] }, toks := s.toks }) :=
  .of_wp fun prog w A R s h => by
    obtain ⟨hp, g, d, tk, os⟩ := s
    obtain ⟨hl, h⟩ := h
    have f1 := AutoSeq1.idx_int
    wp_walk using wpAny_loadPart' hl
    repeat (first
      | (refine wpAny_ite_false (decide_eq_false (by rw [c0]; exact Bool.false_ne_true)) ?_; wp_walk using wpAny_loadPart' hl)
      | (refine wpAny_ite_false (decide_eq_false (by rw [c1]; exact Bool.false_ne_true)) ?_; wp_walk using wpAny_loadPart' hl)
      | (refine wpAny_ite_true (decide_eq_true c2) ?_; wp_walk using wpAny_loadPart' hl))
    exact ⟨_, rfl, h⟩

def rRepA (K : PySem.W.Frag) : R2 := fun x y H Q => ∃ l k xs, x = .ref l ∧ y = .int k ∧ SqT K H l xs ∧ -(2 ^ 63) ≤ k ∧ k ≤ 1000 ∧ xs.length ≤ 1000 ∧
  ((xs = [] ∨ k = 1) → Q (.ref l) H) ∧ (xs ≠ [] → k ≠ 1 → ∀ p, H p = none → Q (.ref p) (upd H p (.tup (List.replicate k.toNat xs).flatten)))
theorem op_repA {X : Cx} : OpR X (binaryOp .Mult) (rRepA X.K) := by
  intro pins s σ H x y v u Q I rx ry h
  obtain ⟨l, k, xs, rfl, rfl, hT, h1, h2, hz, q0, q⟩ := h
  by_cases hc : xs = [] ∨ k = 1
  · cases rx
    obtain ⟨t, rfl⟩ := ry
    obtain ⟨its, r, ⟨⟨cls, dd, data, sl⟩, ho, hc', n, hd⟩, hs⟩ := I.tuple hT
    simp only at hc' hd
    subst hc' hd
    have c0 : (decide (k < -(2 ^ 63)) || decide (k ≥ 2 ^ 63)) = false := by
      rw [decide_eq_false (by omega), decide_eq_false (by omega)] <;> rfl
    have c1 : (its.toArray.isEmpty || k == 1) = true := by
      rcases hc with e | e
      · subst e; cases r; rfl
      · rw [e]; simp
    refine wpAny_binaryOp_repeat_ref (T := "tuple") (U := "int") (by decide) ⟨_, ho, rfl⟩ (fun s' => typeIs_int s' k t) noFill_tuple_mul F.fills_int_mul F.slot_int_rmul repeat_tuple F.slot_int_index.lookup
      (call_meets F.slot_int_rmul (typeIs_int s k t) F.entry_int_rmul (F.args_int_rmul_2 _ _) (int_rmul_tuple k t l its.toArray n dd sl)
        ⟨ho, rfl, ⟨_, ho, rfl⟩, call_meets F.slot_tuple_mul ⟨_, ho, rfl⟩ F.entry_tuple_mul (F.args_tuple_mul_2 _ _) (tuple_mul1 l its.toArray n dd sl k t c0 c1) ⟨ho, ?_⟩⟩)
    exact ⟨.ref l, H, I, rfl, q0 hc⟩
  · have hx : xs ≠ [] := fun e => hc (.inl e)
    have hk : k ≠ 1 := fun e => hc (.inr e)
    by_cases h3 : 2 ≤ k
    · exact op_repT pins s σ H _ _ v u Q I rx ry ⟨l, k, xs, rfl, rfl, hT, hx, h3, h2, hz, q hx hk⟩
    · have hk0 : k ≤ 0 := by omega
      cases rx
      obtain ⟨t, rfl⟩ := ry
      obtain ⟨its, r, ⟨⟨cls, dd, data, sl⟩, ho, hc', n, hd⟩, hs⟩ := I.tuple hT
      simp only at hc' hd
      subst hc' hd
      have hi : its.toArray.isEmpty = false := by
        cases its with
        | nil => cases r; exact absurd rfl hx
        | cons a b => rfl
      have c0 : (decide (k < -(2 ^ 63)) || decide (k ≥ 2 ^ 63)) = false := by
        rw [decide_eq_false (by omega), decide_eq_false (by omega)] <;> rfl
      have c1 : (its.toArray.isEmpty || k == 1) = false := by
        rw [hi, Bool.false_or]
        exact beq_eq_false_iff_ne.mpr hk
      have c2 : (decide (k ≤ 0) || its.toArray.isEmpty) = true := by
        rw [decide_eq_true hk0] <;> rfl
      refine wpAny_binaryOp_repeat_ref (T := "tuple") (U := "int") (by decide) ⟨_, ho, rfl⟩ (fun s' => typeIs_int s' k t) noFill_tuple_mul F.fills_int_mul F.slot_int_rmul repeat_tuple F.slot_int_index.lookup
        (call_meets F.slot_int_rmul (typeIs_int s k t) F.entry_int_rmul (F.args_int_rmul_2 _ _) (int_rmul_tuple k t l its.toArray n dd sl)
          ⟨ho, rfl, ⟨_, ho, rfl⟩, call_meets F.slot_tuple_mul ⟨_, ho, rfl⟩ F.entry_tuple_mul (F.args_tuple_mul_2 _ _) (tuple_mul0 l its.toArray n dd sl k t c0 c1 c2) ⟨ho, ?_⟩⟩)
      have e0 : k.toNat = 0 := by omega
      have q' := q hx hk
      rw [e0] at q'
      refine ⟨.ref s.heap.objs.size, _, I.laid (t' := s.toks) (o := .tup []) (fun b ob q => Heap.get?_push_of_some _ q) (Nat.le_refl _) ?_, rfl, q' _ (I.hok.fresh (Nat.le_refl _))⟩
      exact ⟨Nat.zero_le _, [], .nil, IsTup.new _ _⟩

/-! ### t[::-1] -/
section
variable {prog : Program} {w : World} {A : Around} {E : Value → Shared → Prop} {s : Shared}
theorem adjust_rev (n : Nat) : Builtin.Slice.sliceAdjust none none (-1) (n : Int) = ((n : Int) - 1, -1) := by
  unfold Builtin.Slice.sliceAdjust
  simp
theorem places_rev (n : Nat) : Builtin.Slice.slicePlaces ((n : Int) - 1) (-1) (-1) = n := by
  unfold Builtin.Slice.slicePlaces
  have h1 : ¬ ((-1 : Int) > 0) := by omega
  simp only [h1, if_false]
  have e : (- -1 : Int) = 1 := by decide
  rw [e, Int.ediv_one]
  split <;> omega
theorem fmap_congr {α β : Type} {f g : α → Option β} : ∀ l : List α, (∀ x ∈ l, f x = g x) → l.filterMap f = l.filterMap g
  | [], _ => rfl
  | x :: r, h => by rw [List.filterMap_cons, List.filterMap_cons, h x List.mem_cons_self, fmap_congr r fun y hy => h y (List.mem_cons_of_mem _ hy)]
theorem pick_rev (xs : Array Value) : ((List.range xs.size).filterMap fun (m : Nat) => xs[(((xs.size : Int) - 1) + (m : Int) * (-1)).toNat]?).toArray = xs.toList.reverse.toArray := by
  have e : ∀ m ∈ List.range xs.size, xs[(((xs.size : Int) - 1) + (m : Int) * (-1)).toNat]? = xs[xs.size - 1 - m]? := fun m hm => by
    have := List.mem_range.mp hm
    have : (((xs.size : Int) - 1) + (m : Int) * (-1)).toNat = xs.size - 1 - m := by omega
    rw [this]
  have e2 : (List.range xs.size).filterMap (fun (m : Nat) => xs[(((xs.size : Int) - 1) + (m : Int) * (-1)).toNat]?) = ((List.range xs.size).map fun k => xs.size - 1 - k).filterMap (xs[·]?) := by
    rw [List.filterMap_map]
    exact fmap_congr _ fun m hm => e m hm
  rw [e2, PySem.W.krv_range, List.filterMap_reverse, PySem.W.krv_all]
theorem getItem_tuple_rev {t sl : Addr} {items : Array Value} {u : Tok} {Q : Value → Shared → Prop} (ht : IsTup s.heap t items) (hs : s.heap.IsSliceOf sl .none .none (.int (-1) u))
    (h : Q (.ref s.heap.objs.size) { s with heap := s.heap.push { cls := .type "tuple", data := .seq items.toList.reverse.toArray } })
    (hsz : items.size ≤ sizeLine) : wpAny (model prog w) A (getItem (.ref t) (.ref sl)) Q E s := by
  have htake : sizeOk (.seq items.toList.reverse.toArray) := by
    show items.toList.reverse.toArray.size ≤ sizeLine
    rw [List.size_toArray, List.length_reverse, Array.length_toList]
    exact hsz
  obtain ⟨os, hos, hcs, hds⟩ := id hs
  have hTs : s.TypeIs (.ref sl) "slice" := ⟨os, hos, hcs⟩
  unfold getItem
  try with_reducible refine wpAny_holding ?_
  first | refine wpAny_bind (wpAny_pure ?_) | skip
  refine wpAny_bind (wpAny_sequenceKey ht.typeIs (by decide) ?_)
  refine wpAny_bind (wpAny_callSpecial?_slot (name := Str.ofString "__getitem__") ht.typeIs PyProof.Rows.slot_tuple_getitem
    (wpAny_call_entry PyProof.Rows.slot_tuple_getitem ht.typeIs entry_tuple_getitem ?_ (args_tuple_getitem _ _)))
  show wpAny _ _ (Builtin.Tuple.tupleItemsOf (.ref t) >>= _) _ _ s
  refine wpAny_bind (tupleItemsOf_ ht ?_)
  refine wpAny_bind (wpAny_typeOf hTs ?_)
  rw [if_pos (by decide)]
  have key : ∀ {A' : Around} {E' : Value → Shared → Prop} {Q' : Int × Int × Nat → Shared → Prop}, Q' ((items.size : Int) - 1, -1, items.size) s → wpAny (model prog w) A' (Builtin.Slice.sliceApplied (.ref sl) (pure (items.size : Int))) Q' E' s := fun {A' E' Q'} hq => by
    unfold Builtin.Slice.sliceApplied Builtin.Slice.sliceFields
    refine wpAny_bind (wpAny_bind (wpAny_field hos hds (x := .none) rfl (wpAny_bind (wpAny_field hos hds (x := .none) rfl (wpAny_bind (wpAny_field hos hds (x := .int (-1) u) rfl (wpAny_pure ?_)))))))
    refine wpAny_bind (slicePart_int ?_)
    show wpAny _ _ (if ((-1 : Int) == 0) = true then _ else _) _ _ s
    rw [if_neg (by decide)]
    refine wpAny_bind (slicePart_none (wpAny_bind (slicePart_none (wpAny_bind (wpAny_pure ?_)))))
    show wpAny _ _ (match Builtin.Slice.sliceAdjust none none (-1) (items.size : Int) with | (lo, hi) => pure (lo, (-1 : Int), Builtin.Slice.slicePlaces lo hi (-1))) _ _ s
    rw [adjust_rev]
    show wpAny _ _ (pure ((items.size : Int) - 1, (-1 : Int), Builtin.Slice.slicePlaces ((items.size : Int) - 1) (-1) (-1))) _ _ s
    rw [places_rev]
    exact wpAny_pure hq
  refine wpAny_bind (key ?_)
  have hno : ¬ ((((items.size : Int) - 1) == 0 && (-1 : Int) == 1 && items.size == items.size) = true) := by
    rw [show ((-1 : Int) == 1) = false by decide, Bool.and_false, Bool.false_and]
    exact Bool.false_ne_true
  show wpAny _ _ (if (((items.size : Int) - 1) == 0 && (-1 : Int) == 1 && items.size == items.size) = true then _ else _) _ _ s
  rw [if_neg hno, pick_rev]
  first
    | exact wpAny_bind (m := Builtin.Tuple.tupleExact _) (wpAny_newObj_type (wpAny_pure ⟨_, rfl, wpAny_pure h⟩) htake)
    | exact wpAny_bind (m := Builtin.Tuple.tupleExact _) (wpAny_newObj_type (wpAny_bind (wpAny_pure (wpAny_pure ⟨_, rfl, wpAny_pure h⟩))) htake)
    | exact wpAny_bind (wpAny_bind (m := Builtin.Tuple.tupleExact _) (wpAny_newObj_type (wpAny_pure (wpAny_pure ⟨_, rfl, wpAny_pure h⟩)) htake))
    | exact wpAny_bind (wpAny_bind (m := Builtin.Tuple.tupleExact _) (wpAny_newObj_type (wpAny_pure ⟨_, rfl, wpAny_pure h⟩) htake))
end
def tRevA (K : PySem.W.Frag) (te : TE) : TE := fun σ H Q => te σ H fun x H1 => (∃ a xs, x = .ref a ∧ SqL K H1 a xs ∧ ∀ p, H1 p = none → Q (.ref p) (upd H1 p (.lst xs.reverse))) ∨ (∃ a xs, x = .ref a ∧ SqT K H1 a xs ∧ ∀ p, H1 p = none → Q (.ref p) (upd H1 p (.tup xs.reverse)))
theorem pe_revA {X : Cx} {e : Expr} {te : TE} {k : Nat} {p1 p2 p3 pos : Pos} (he : PE X e te) : PE X (.Subscript e (.Slice none none (some (.UnaryOp .USub (.Constant (.int 1) k p1) p2)) p3) pos) (tRevA X.K te) := by
  refine ⟨fun pins s σ H Q I h => ?_⟩
  refine Subscript_ (thn (he.run pins s σ H _ I h) fun v s1 ⟨x, H1, I1, r1, q1⟩ => ?_)
  have hst : PO X (some (.UnaryOp .USub (.Constant (.int 1) k p1) p2)) (tPart (tUn (rU fun i => .int (-i)) (tC (.int 1)))) := po_some (pe_un un_neg pe_int)
  refine wpAny_Slice (thn (po_none.run pins s1 σ H1 (fun o H2 => o = none ∧ H2 = H1) I1 ⟨rfl, rfl⟩) fun vl s2 ⟨l, H2, I2, pl, el, e2⟩ => ?_)
  subst el e2
  refine thn (po_none.run pins s2 σ H2 (fun o H3 => o = none ∧ H3 = H2) I2 ⟨rfl, rfl⟩) fun vu s3 ⟨u, H3, I3, pu, eu, e3⟩ => ?_
  subst eu e3
  refine thn (hst.run pins s3 σ H3 (fun o H4 => o = some (-1) ∧ H4 = H3) I3 ⟨1, rfl, -1, rfl, rfl, rfl⟩) fun vs s4 ⟨o, H4, I4, ps, eo, e4⟩ => ?_
  subst eo e4
  have I5 : Inv X pins σ H4 { s4 with heap := s4.heap.push { cls := .type "slice", data := .fields #[vl, vu, vs] } } := I4.kept (t' := s4.toks) fun b ob q => Heap.get?_push_of_some _ q
  rcases q1 with ⟨a, xs, ex, hx, q⟩ | ⟨a, xs, ex, hx, q⟩
  · subst ex
    cases r1
    obtain ⟨its, r, ht, hz⟩ := I5.list hx
    have hlen := r.length
    show wpAny (model X.prog X.w) X.A (subscriptTail e (.Slice none none (some (.UnaryOp .USub (.Constant (.int 1) k p1) p2)) p3) (.ref a) (.ref s4.heap.objs.size)) (EP X pins σ Q) X.xe { s4 with heap := s4.heap.push { cls := .type "slice", data := .fields #[vl, vu, vs] } }
    refine tail_any (ops := [.ref a, .ref s4.heap.objs.size]) ht.isList.typeIs (PySem.slot_list_getitem.lookup) ?_ (by with_unfolding_all rfl)
    refine wpAny_getItem_list_slice ht.isList (Heap.IsSliceOf.new _ vl vu vs) pl pu ps (by decide) ?_ (by rw [List.size_toArray]; omega)
    rw [PySem.W.krv_pick]
    refine ⟨.ref _, _, I5.laid (t' := s4.toks) (o := .lst xs.reverse) (fun b ob q => Heap.get?_push_of_some _ q) (Nat.le_refl _) ?_, rfl, q _ (I5.hok.fresh (Nat.le_refl _))⟩
    exact ⟨by rw [List.length_reverse]; exact hz, _, 0, r.reverse, Heap.get?_push_size _ rfl⟩
  · subst ex
    cases r1
    obtain ⟨its, r, ht, hz⟩ := I5.tuple hx
    have hlen := r.length
    show wpAny (model X.prog X.w) X.A (subscriptTail e (.Slice none none (some (.UnaryOp .USub (.Constant (.int 1) k p1) p2)) p3) (.ref a) (.ref s4.heap.objs.size)) (EP X pins σ Q) X.xe { s4 with heap := s4.heap.push { cls := .type "slice", data := .fields #[vl, vu, vs] } }
    refine tail_any (ops := [.ref a, .ref s4.heap.objs.size]) ht.typeIs PyProof.Rows.slot_tuple_getitem.lookup ?_ (by with_unfolding_all rfl)
    cases pl
    cases pu
    cases ps with
    | int _ tk =>
      refine getItem_tuple_rev ht (Heap.IsSliceOf.new _ _ _ _) ?_ (by rw [List.size_toArray]; omega)
      refine ⟨.ref _, _, I5.laid (t' := s4.toks) (o := .tup xs.reverse) (fun b ob q => Heap.get?_push_of_some _ q) (Nat.le_refl _) ?_, rfl, q _ (I5.hok.fresh (Nat.le_refl _))⟩
      refine ⟨by rw [List.length_reverse]; exact hz, its.reverse, r.reverse, ?_⟩
      exact IsTup.new _ _
end TT
set_option Elab.async false
set_option linter.all false
set_option maxRecDepth 100000
set_option maxHeartbeats 2000000
/-! TD: further operations upon data. -/
namespace TT
open PySem PySem.Spec PyProof.Rows L2

/-! ### * -/
def mulO (m : Bool) : AO2 := fun x y M Q => match x, y with
  | .int i, .int j => CMul i j ∧ Q (.int (i * j)) M
  | .int i, .bl b => Q (.int (i * bI b)) M
  | .tup a, .int k => (-(2 ^ 63) ≤ k ∧ k ≤ 1000 ∧ a.length ≤ 1000) ∧ Q (.tup (List.replicate k.toNat a).flatten) M
  | x, .int k => ∃ a, lconT x M = some a ∧ (-(2 ^ 63) ≤ k ∧ k < 2 ^ 63 ∧ a.length * k.toNat ≤ sizeLine) ∧ alloc m (List.replicate k.toNat a).flatten M Q
  | _, _ => False
theorem mulO.mono {m : Bool} : MonoO2 (mulO m) := fun x y M Q Q' h q => by
  unfold mulO at *; split at q
  · exact ⟨q.1, h _ _ q.2⟩
  · exact h _ _ q
  · exact ⟨q.1, h _ _ q.2⟩
  · obtain ⟨a, h1, h2, q⟩ := q
    exact ⟨a, h1, h2, alloc_mono h q⟩
  · exact q
theorem ok_mul {X : Cx} {m : Bool} : OpR X (binaryOp .Mult) (liftO2 X.K (mulO m)) :=
  opr_imp (op_mul.or (op_mul_ib.or (op_repA.or op_rep))) fun vx vy H Q ⟨F, M, x, y, hr, rx, ry, q⟩ => by
    unfold mulO at q; split at q
    · exact .inl ⟨_, _, rx, ry, q.1, q.2.here hr rfl⟩
    · exact .inr (.inl ⟨_, _, rx, ry, q.here hr rfl⟩)
    · obtain ⟨a, us, e1, h1, r1⟩ := tup_ok hr rx
      obtain ⟨⟨z1, z2, z3⟩, q⟩ := q
      refine .inr (.inr (.inl ⟨a, _, us, e1, ry, h1, z1, z2, by rw [← r1.length]; exact z3, fun n => ?_, fun _ _ p hp => ?_⟩))
      · rcases n with n | n
        · have e : (_ : List D) = [] := List.eq_nil_of_length_eq_zero (r1.length.trans (by rw [n]; rfl))
          subst e
          have e0 : ∀ n : Nat, (List.replicate n ([] : List D)).flatten = [] := fun n => by simp
          rw [e0] at q
          exact q.here hr (by rw [e1] at rx; exact rx)
        · subst n
          have e0 : ∀ l : List D, (List.replicate (1 : Int).toNat l).flatten = l := fun l => List.append_nil l
          rw [e0] at q
          exact q.here hr (by rw [e1] at rx; exact rx)
      · exact new_tup hr (r1.rep _) q p hp
    · obtain ⟨a, h1, ⟨z1, z2, z3⟩, q⟩ := q
      obtain ⟨p, us, e1, g1, r1⟩ := lconT_ok hr rx h1
      exact .inr (.inr (.inr ⟨p, _, us, e1, ry, g1, z1, z2, by rw [← r1.length]; exact z3, new_lst hr (r1.rep _) q⟩))
    · exact q.elim

/-! ### in -/
def flatD : D → Bool
  | .non => true
  | .bl _ => true
  | .int _ => true
  | .str _ => true
  | _ => false
/-- == of flat data -/
def eqF : D → D → Bool
  | .non, .non => true
  | .bl a, .bl b => a == b
  | .bl a, .int b => (if a then 1 else 0) == b
  | .int a, .bl b => a == (if b then 1 else 0)
  | .int a, .int b => a == b
  | .str a, .str b => a == b
  | _, _ => false
def inD (x : D) (ds : List D) : Bool := ds.any fun y => eqF y x
def kD : Key → D
  | .inl i => .int i
  | .inr x => .str x
def keyD : D → Option Key
  | .int i => some (.inl i)
  | .str x => some (.inr x)
  | _ => none
/-- a dict's datum at a key -/
def getK (kvs : List (Key × D)) (k : Key) : Option D := (kvs.find? fun kv => decide (kv.1 = k)).map (·.2)
def dcon : D → Mp → Option (List (Key × D))
  | .ref a, M => match M a with
    | some (.dct kvs) => some kvs
    | _ => none
  | _, _ => none
section
variable {K : PySem.W.Frag} {H F : Hp} {M : Mp}
theorem flat_ok {x : D} {v : V} (r : Rep K F x v) (h : flatD x = true) : flatV v = true := by
  cases x with
  | non => cases (show v = _ from r); rfl
  | bl b => cases (show v = _ from r); rfl
  | int b => cases (show v = _ from r); rfl
  | str b => cases (show v = _ from r); rfl
  | _ => cases h
theorem eqF_ok {x y : D} {v u : V} (r : Rep K F x v) (q : Rep K F y u) (h : flatD x = true) (h' : flatD y = true) : eqV v u = eqF x y := by
  cases x with
  | non => cases (show v = _ from r); cases y with
    | non => cases (show u = _ from q); rfl
    | bl b => cases (show u = _ from q); rfl
    | int b => cases (show u = _ from q); rfl
    | str b => cases (show u = _ from q); rfl
    | _ => cases h'
  | bl b => cases (show v = _ from r); cases y with
    | non => cases (show u = _ from q); rfl
    | bl b => cases (show u = _ from q); rfl
    | int b => cases (show u = _ from q); rfl
    | str b => cases (show u = _ from q); rfl
    | _ => cases h'
  | int b => cases (show v = _ from r); cases y with
    | non => cases (show u = _ from q); rfl
    | bl b => cases (show u = _ from q); rfl
    | int b => cases (show u = _ from q); rfl
    | str b => cases (show u = _ from q); rfl
    | _ => cases h'
  | str b => cases (show v = _ from r); cases y with
    | non => cases (show u = _ from q); rfl
    | bl b => cases (show u = _ from q); rfl
    | int b => cases (show u = _ from q); rfl
    | str b => cases (show u = _ from q); rfl
    | _ => cases h'
  | _ => cases h
theorem inD_ok {x : D} {v : V} (r : Rep K F x v) (h : flatD x = true) : ∀ {ds : List D} {us : List V}, Reps K F ds us → ds.all flatD = true → us.all flatV = true ∧ inV v us = inD x ds
  | [], _, q, _ => by cases (show _ = ([] : List V) from q); exact ⟨rfl, rfl⟩
  | d :: ds, _, ⟨u, us', e, h1, q⟩, hd => by
    subst e
    rw [List.all_cons, Bool.and_eq_true] at hd
    obtain ⟨i1, i2⟩ := inD_ok r h q hd.2
    refine ⟨by rw [List.all_cons, flat_ok h1 hd.1, i1]; rfl, ?_⟩
    show (eqV u v || inV v us') = (eqF d x || inD x ds)
    rw [i2, eqF_ok h1 r hd.1 h]
theorem keyD_ok {x : D} {v : V} {k : Key} (r : Rep K F x v) (h : keyD x = some k) : v = kV k := by
  cases x with
  | int i => cases h; exact r
  | str i => cases h; exact r
  | _ => cases h
theorem dcon_ok (hr : R K H F M) {x : D} {v : V} {kvs : List (Key × D)} (rx : Rep K F x v) (h : dcon x M = some kvs) : ∃ a kus, v = .ref a ∧ H a = some (.dK kus) ∧ kus.map (·.1) = kvs.map (·.1) ∧ Reps K F (kvs.map (·.2)) (kus.map (·.2)) := by
  unfold dcon at h
  split at h
  · split at h
    · rename_i ds' e; cases h
      obtain ⟨us, h1, h2, h3⟩ := hr.rep _ _ e
      exact ⟨_, us, rx, h1, h2, h3⟩
    · cases h
  · cases h
theorem getK_ok (k : Key) : ∀ {kvs : List (Key × D)} {kus : List (Key × V)}, kus.map (·.1) = kvs.map (·.1) → Reps K F (kvs.map (·.2)) (kus.map (·.2)) → match getK kvs k with
    | some d => ∃ v, valV kus k = some v ∧ Rep K F d v
    | none => valV kus k = none
  | [], [], _, _ => rfl
  | [], _ :: _, e, _ => by cases e
  | _ :: _, [], e, _ => by cases e
  | (k1, d) :: r, (k2, v) :: q, e, h => by
    simp only [List.map_cons, List.cons.injEq] at e
    obtain ⟨e1, e2⟩ := e
    subst e1
    obtain ⟨u, us', e3, h1, h2⟩ := h
    simp only [List.map_cons, List.cons.injEq] at e3
    obtain ⟨rfl, rfl⟩ := e3
    by_cases hk : k2 = k
    · subst hk
      have e4 : getK ((k2, d) :: r) k2 = some d := by simp [getK, List.find?_cons]
      rw [e4]
      exact ⟨_, valV_pos rfl, h1⟩
    · have e4 : getK ((k2, d) :: r) k = getK r k := by simp [getK, List.find?_cons, hk]
      rw [e4, valV_neg (p := (k2, v)) hk]
      exact getK_ok k e2 h2
end
def inO (neg : Bool) : AO2 := fun x y M Q => match y with
  | .str z => ∃ c, x = .str ⟨#[c]⟩ ∧ Q (.bl (decide (c ∈ z.cps.toList) ^^ neg)) M
  | .tup ds => (flatD x = true ∧ ds.all flatD = true) ∧ Q (.bl (inD x ds ^^ neg)) M
  | y => (∃ ds, lcon y M = some ds ∧ (flatD x = true ∧ ds.all flatD = true) ∧ Q (.bl (inD x ds ^^ neg)) M) ∨ (∃ kvs k, dcon y M = some kvs ∧ keyD x = some k ∧ Q (.bl ((getK kvs k).isSome ^^ neg)) M) ∨ (neg = false ∧ ∃ d ds, PyOf M x d ∧ PyOf M y (.list ds) ∧ SeqAt.shaped d = true ∧ SeqAt.shaped (.list ds) = true ∧ d.depth ≤ 60 ∧ Q (.bl (ds.any fun z => PyData.eqv z d)) M)
theorem inO.mono {neg : Bool} : MonoO2 (inO neg) := fun x y M Q Q' h q => by
  unfold inO at *; split at q
  · obtain ⟨c, e, q⟩ := q; exact ⟨c, e, h _ _ q⟩
  · exact ⟨q.1, h _ _ q.2⟩
  · rcases q with ⟨ds, e, f, q⟩ | ⟨kvs, k, e, f, q⟩ | ⟨e, d, ds, h1, h2, h3, h4, h5, q⟩
    · exact .inl ⟨ds, e, f, h _ _ q⟩
    · exact .inr (.inl ⟨kvs, k, e, f, h _ _ q⟩)
    · exact .inr (.inr ⟨e, d, ds, h1, h2, h3, h4, h5, h _ _ q⟩)
theorem isSome_ok {K : PySem.W.Frag} {F : Hp} {k : Key} {kvs : List (Key × D)} {kus : List (Key × V)} (e : kus.map (·.1) = kvs.map (·.1)) (r : Reps K F (kvs.map (·.2)) (kus.map (·.2))) : (valV kus k).isSome = (getK kvs k).isSome := by
  have g := getK_ok k e r
  cases h : getK kvs k with
  | none => rw [h] at g; rw [g] <;> rfl
  | some d => rw [h] at g; obtain ⟨v, g, _⟩ := g; rw [g] <;> rfl
/-- a dict's part, by values -/
theorem op_inK {X : Cx} (hu : X.A.units + 1 < cLine) : OpR X (compareOp .In) (fun x y H Q => ∃ a kus k, y = .ref a ∧ H a = some (.dK kus) ∧ x = kV k ∧ Q (.bl (valV kus k).isSome) H) := by
  intro pins s σ H x y v u Q I rx ry h
  obtain ⟨a, kus, k, rfl, hH, rfl, q⟩ := h
  cases ry
  exact d_in hu I (DGet.k hH) rx fun s3 I3 => ⟨.bl _, H, I3, rfl, q⟩
theorem op_notInK {X : Cx} (hu : X.A.units + 1 < cLine) : OpR X (compareOp .NotIn) (fun x y H Q => ∃ a kus k, y = .ref a ∧ H a = some (.dK kus) ∧ x = kV k ∧ Q (.bl (!(valV kus k).isSome)) H) := by
  intro pins s σ H x y v u Q I rx ry h
  obtain ⟨a, kus, k, rfl, hH, rfl, q⟩ := h
  cases ry
  exact d_notIn hu I (DGet.k hH) rx fun s3 I3 => ⟨.bl _, H, I3, rfl, q⟩
def rInD6 (K : PySem.W.Frag) : R2 := fun x y H Q => ∃ d ds, Dp K H x d ∧ Dp K H y (.list ds) ∧ SeqAt.shaped d = true ∧ SeqAt.shaped (.list ds) = true ∧ d.depth ≤ 60 ∧ Q (.bl (ds.any fun z => PyData.eqv z d)) H
theorem op_inD6 {X : Cx} (hu : X.A.units + 64 < cLine) : OpR X (compareOp .In) (rInD6 X.K) := by
  intro pins s σ H x y v u Q I rx ry h
  obtain ⟨d, ds, hd, he, sd, se, h6, q⟩ := h
  obtain ⟨as, r1⟩ := Dp.reads I d x v hd rx
  obtain ⟨bs, r2⟩ := Dp.reads I (.list ds) y u he ry
  have h2 : min (PyData.depthAll ds) d.depth ≤ d.depth := Nat.min_le_right _ _
  exact SeqAt.in_list_reads r2 r1 (SeqAt.canLay_of_shaped se) (SeqAt.canLay_of_shaped sd) (by omega) ⟨.bl _, H, I, rfl, q⟩
theorem ok_in {X : Cx} (hu : X.A.units + 64 < cLine) : OpR X (compareOp .In) (liftO2 X.K (inO false)) :=
  opr_imp (op_in_sign.or (op_in_seq.or ((op_inK (by omega)).or (op_inD6 hu)))) fun vx vy H Q ⟨F, M, x, y, hr, rx, ry, q⟩ => by
    unfold inO at q; split at q
    · obtain ⟨c, e, q⟩ := q
      subst e
      exact .inl ⟨c, _, rx, ry, q.here hr (by rw [Bool.xor_false]; rfl)⟩
    · obtain ⟨a, us, e1, h1, r1⟩ := tup_ok hr ry
      obtain ⟨⟨f1, f2⟩, q⟩ := q
      obtain ⟨i1, i2⟩ := inD_ok rx f1 r1 f2
      exact .inr (.inl ⟨a, us, e1, .inr h1, flat_ok rx f1, i1, by rw [if_neg Bool.false_ne_true, i2]; exact q.here hr (by rw [Bool.xor_false]; rfl)⟩)
    · rcases q with ⟨ds, e, ⟨f1, f2⟩, q⟩ | ⟨kvs, k, e, f, q⟩ | ⟨_, d, ds, h1, h2, h3, h4, h5, q⟩
      · obtain ⟨a, us, e1, h1, r1⟩ := lcon_ok hr ry e
        obtain ⟨i1, i2⟩ := inD_ok rx f1 r1 f2
        exact .inr (.inl ⟨a, us, e1, .inl h1, flat_ok rx f1, i1, by rw [if_neg Bool.false_ne_true, i2]; exact q.here hr (by rw [Bool.xor_false]; rfl)⟩)
      · obtain ⟨a, us, e1, h1, h2, r1⟩ := dcon_ok hr ry e
        exact .inr (.inr (.inl ⟨a, us, k, e1, h1, keyD_ok rx f, by rw [isSome_ok h2 r1]; exact q.here hr (by rw [Bool.xor_false]; rfl)⟩))
      · exact .inr (.inr (.inr ⟨d, ds, dp_of hr h1 rx, dp_of hr h2 ry, h3, h4, h5, q.here hr rfl⟩))
theorem ok_notin {X : Cx} (hu : X.A.units + 1 < cLine) : OpR X (compareOp .NotIn) (liftO2 X.K (inO true)) :=
  opr_imp (op_notIn_sign.or (op_notIn_seq.or (op_notInK hu))) fun vx vy H Q ⟨F, M, x, y, hr, rx, ry, q⟩ => by
    unfold inO at q; split at q
    · obtain ⟨c, e, q⟩ := q
      subst e
      exact .inl ⟨c, _, rx, ry, q.here hr (by rw [Bool.xor_true]; rfl)⟩
    · obtain ⟨a, us, e1, h1, r1⟩ := tup_ok hr ry
      obtain ⟨⟨f1, f2⟩, q⟩ := q
      obtain ⟨i1, i2⟩ := inD_ok rx f1 r1 f2
      exact .inr (.inl ⟨a, us, e1, .inr h1, flat_ok rx f1, i1, by rw [if_pos rfl, i2]; exact q.here hr (by rw [Bool.xor_true]; rfl)⟩)
    · rcases q with ⟨ds, e, ⟨f1, f2⟩, q⟩ | ⟨kvs, k, e, f, q⟩ | ⟨z, _⟩
      · obtain ⟨a, us, e1, h1, r1⟩ := lcon_ok hr ry e
        obtain ⟨i1, i2⟩ := inD_ok rx f1 r1 f2
        exact .inr (.inl ⟨a, us, e1, .inl h1, flat_ok rx f1, i1, by rw [if_pos rfl, i2]; exact q.here hr (by rw [Bool.xor_true]; rfl)⟩)
      · obtain ⟨a, us, e1, h1, h2, r1⟩ := dcon_ok hr ry e
        exact .inr (.inr ⟨a, us, k, e1, h1, keyD_ok rx f, by rw [isSome_ok h2 r1]; exact q.here hr (by rw [Bool.xor_true]; rfl)⟩)
      · cases z

/-! ### x[i] -/
def ixO : AO2 := fun x y M Q => match x, y with
  | .tup ds, .int i => ∃ d, atI ds i = some d ∧ Q d M
  | .str z, .int i => z.length ≤ sizeLine ∧ ∃ c, atI z.cps.toList i = some c ∧ Q (.str ⟨#[c]⟩) M
  | x, y => (∃ ds i d, lcon x M = some ds ∧ y = .int i ∧ atI ds i = some d ∧ Q d M) ∨ ∃ kvs k d, dcon x M = some kvs ∧ keyD y = some k ∧ getK kvs k = some d ∧ Q d M
theorem ixO.mono : MonoO2 ixO := fun x y M Q Q' h q => by
  unfold ixO at *; split at q
  · obtain ⟨d, e, q⟩ := q; exact ⟨d, e, h _ _ q⟩
  · obtain ⟨z, c, e, q⟩ := q; exact ⟨z, c, e, h _ _ q⟩
  · rcases q with ⟨ds, i, d, e, f, g, q⟩ | ⟨kvs, k, d, e, f, g, q⟩
    · exact .inl ⟨ds, i, d, e, f, g, h _ _ q⟩
    · exact .inr ⟨kvs, k, d, e, f, g, h _ _ q⟩
theorem atI_ok {K : PySem.W.Frag} {F : Hp} {ds : List D} {us : List V} {i : Int} {d : D} (r : Reps K F ds us) (h : atI ds i = some d) : ∃ v, atI us i = some v ∧ Rep K F d v := by
  unfold atI at h ⊢
  rw [← r.length]
  cases e : ixN ds.length i with
  | none => rw [e] at h; cases h
  | some j =>
    rw [e] at h
    obtain ⟨v, h1, h2⟩ := r.get (show ds[j]? = some d from h)
    exact ⟨v, h1, h2⟩
theorem ix_dK {X : Cx} (hu : X.A.units + 1 < cLine) : IxR X (fun x y H Q => ∃ a kus k v, x = .ref a ∧ H a = some (.dK kus) ∧ y = kV k ∧ valV kus k = some v ∧ Q v H) := by
  intro value slice pins s σ H x y v u Q I rx ry h hs
  obtain ⟨a, kus, k, w', rfl, hH, rfl, hv, q⟩ := h
  cases rx
  have g : DGet H a (kV k) (some w') := by rw [← hv]; exact DGet.k hH
  exact tail_any (dict_typeIs I g) PySem.F.slot_dict_getitem.lookup (d_getItem hu I g ry fun w2 s3 I3 rw' => ⟨w', H, I3, rw', q⟩) hs
theorem ixr_imp {X : Cx} {r r' : R2} (h : IxR X r) (i : ∀ x y H Q, r' x y H Q → r x y H Q) : IxR X r' := fun value slice pins s σ H x y v u Q I rx ry q hs => h value slice pins s σ H x y v u Q I rx ry (i _ _ _ _ q) hs
theorem ok_ix {X : Cx} (hu : X.A.units + 1 < cLine) : IxR X (liftO2 X.K ixO) :=
  ixr_imp (ix_seq.or (ix_dK hu)) fun vx vy H Q ⟨F, M, x, y, hr, rx, ry, q⟩ => by
    unfold ixO at q; split at q
    · obtain ⟨d, e, q⟩ := q
      obtain ⟨a, us, e1, h1, r1⟩ := tup_ok hr rx
      obtain ⟨v, h2, r2⟩ := atI_ok r1 e
      exact .inl (.inr (.inl ⟨a, us, _, v, e1, ry, h1, h2, q.here hr r2⟩))
    · obtain ⟨z, c, e, q⟩ := q
      exact .inl (.inr (.inr ⟨_, _, c, rx, ry, z, e, q.here hr rfl⟩))
    · rcases q with ⟨ds, i, d, e, f, g, q⟩ | ⟨kvs, k, d, e, f, g, q⟩
      · obtain ⟨a, us, e1, h1, r1⟩ := lcon_ok hr rx e
        obtain ⟨v, h2, r2⟩ := atI_ok r1 g
        subst f
        exact .inl (.inl ⟨a, us, i, v, e1, ry, h1, h2, q.here hr r2⟩)
      · obtain ⟨a, us, e1, h1, h2, r1⟩ := dcon_ok hr rx e
        have g' := getK_ok k h2 r1
        rw [g] at g'
        obtain ⟨v, g1, g2⟩ := g'
        exact .inr ⟨a, us, k, v, e1, h1, keyD_ok ry f, g1, q.here hr g2⟩

/-! ### x[lo:hi], x[::-1] -/
def cutD (xs : List D) (lo hi : Option Int) : List D := (xs.drop (HT.sIx xs.length 0 lo)).take (HT.sIx xs.length xs.length hi - HT.sIx xs.length 0 lo)
theorem cut_ok {K : PySem.W.Frag} {F : Hp} {ds : List D} {us : List V} (r : Reps K F ds us) (lo hi : Option Int) : Reps K F (cutD ds lo hi) (cutV us lo hi) := by
  unfold cutD cutV
  rw [r.length]
  exact (r.drop _).take _
def slO (m : Bool) (x : D) (lo hi : Option Int) (M : Mp) (Q : KQ) : Prop := match x with
  | .tup ds => Q (.tup (cutD ds lo hi)) M
  | .str z => z.length ≤ sizeLine ∧ Q (.str (cutS z lo hi)) M
  | x => ∃ ds, lcon x M = some ds ∧ alloc m (cutD ds lo hi) M Q
theorem slO.mono {m : Bool} {x : D} {lo hi : Option Int} {M : Mp} {Q Q' : KQ} (h : ∀ d M', Q d M' → Q' d M') (q : slO m x lo hi M Q) : slO m x lo hi M Q' := by
  unfold slO at *; split at q
  · exact h _ _ q
  · exact ⟨q.1, h _ _ q.2⟩
  · obtain ⟨ds, e, q⟩ := q; exact ⟨ds, e, alloc_mono h q⟩
def liftSl (K : PySem.W.Frag) (m : Bool) : V → Option Int → Option Int → Hp → VK → Prop := fun v lo hi H Q => ∃ F M x, R K H F M ∧ Rep K F x v ∧ slO m x lo hi M (qOf K H F M Q)
theorem slr_imp {X : Cx} {r r' : V → Option Int → Option Int → Hp → VK → Prop} (h : SlR X r) (i : ∀ x lo hi H Q, r' x lo hi H Q → r x lo hi H Q) : SlR X r' := fun pins s σ H x v vl vu lo hi sl Q I rx hs pl pu q => h pins s σ H x v vl vu lo hi sl Q I rx hs pl pu (i _ _ _ _ _ q)
theorem cutD_whole {ds : List D} {lo hi : Option Int} (h : HT.sIx ds.length 0 lo = 0 ∧ HT.sIx ds.length ds.length hi = ds.length) : cutD ds lo hi = ds := by
  unfold cutD; rw [h.1, h.2]; simp
theorem ok_sl {X : Cx} {m : Bool} : SlR X (liftSl X.K m) :=
  slr_imp (sl_tupA.or (sl_str.or sl_list)) fun v lo hi H Q ⟨F, M, x, hr, rx, q⟩ => by
    unfold slO at q; split at q
    · obtain ⟨a, us, e1, h1, r1⟩ := tup_ok hr rx
      refine .inl ⟨a, us, e1, h1, fun hw => ?_, fun hw => new_tup hr (cut_ok r1 lo hi) q⟩
      rw [← r1.length] at hw
      rw [cutD_whole hw] at q
      exact q.here hr (by rw [e1] at rx; exact rx)
    · exact .inr (.inl ⟨_, rx, q.1, q.2.here hr rfl⟩)
    · obtain ⟨ds, e, q⟩ := q
      obtain ⟨a, us, e1, h1, r1⟩ := lcon_ok hr rx e
      exact .inr (.inr ⟨a, us, e1, h1, new_lst hr (cut_ok r1 lo hi) q⟩)
def rvO (m : Bool) (x : D) (M : Mp) (Q : KQ) : Prop := match x with
  | .tup ds => Q (.tup ds.reverse) M
  | x => ∃ ds, lcon x M = some ds ∧ alloc m ds.reverse M Q
theorem rvO.mono {m : Bool} {x : D} {M : Mp} {Q Q' : KQ} (h : ∀ d M', Q d M' → Q' d M') (q : rvO m x M Q) : rvO m x M Q' := by
  unfold rvO at *; split at q
  · exact h _ _ q
  · obtain ⟨ds, e, q⟩ := q; exact ⟨ds, e, alloc_mono h q⟩
def aUn (o : D → Mp → KQ → Prop) (ta : AE) : AE := fun ρ M Q X => ta ρ M (fun x M1 => o x M1 Q) X
theorem aUn.mono {o : D → Mp → KQ → Prop} {ta : AE} (mo : ∀ x M (Q Q' : KQ), (∀ d M', Q d M' → Q' d M') → o x M Q → o x M Q') (ma : MonoE ta) : MonoE (aUn o ta) := fun ρ M Q Q' X X' hq hx h =>
  ma _ _ _ _ _ _ (fun x M1 h1 => mo _ _ _ _ hq h1) hx h
section
variable {X : Cx} {W : WX} {a : Expr} {ta : AE}
theorem ae_rv {m : Bool} {k : Nat} {p1 p2 p3 pos : Pos} (ha : AEok X W a ta) : AEok X W (.Subscript a (.Slice none none (some (.UnaryOp .USub (.Constant (.int 1) k p1) p2)) p3) pos) (aUn (rvO m) ta) := by
  refine ⟨aUn.mono (fun _ _ _ _ => rvO.mono) ha.mono, pe_imp (pe_revA ha.pe) ?_⟩
  rintro σ H Q ⟨F, ρ, M, hr, he, h⟩
  refine ⟨F, ρ, M, hr, he, ha.mono _ _ _ _ _ _ (fun x M1 h1 => ?_) (fun c M1 h1 => h1) h⟩
  intro H1 F1 v s1 r1
  have h2 := rvO.mono (fun d M' q => qOf.step s1 q) h1
  unfold rvO at h2; split at h2
  · obtain ⟨p, us, e1, g1, q1⟩ := tup_ok s1.r r1
    exact .inr ⟨p, us, e1, g1, new_tup s1.r q1.reverse h2⟩
  · obtain ⟨ds, e, q⟩ := h2
    obtain ⟨p, us, e1, g1, q1⟩ := lcon_ok s1.r r1 e
    exact .inl ⟨p, us, e1, g1, new_lst s1.r q1.reverse q⟩
/-- the bounds of a slice -/
abbrev AB := Env → Mp → (Option Int → Mp → Prop) → KX → Prop
def MonoB (t : AB) : Prop := ∀ ρ M (Q Q' : Option Int → Mp → Prop) (X X' : KX), (∀ d M', Q d M' → Q' d M') → (∀ c M', X c M' → X' c M') → t ρ M Q X → t ρ M Q' X'
def bNone : AB := fun _ M Q _ => Q none M
def bSome (ta : AE) : AB := fun ρ M Q X => ta ρ M (fun x M1 => ∃ i, x = .int i ∧ Q (some i) M1) X
theorem bNone.mono : MonoB bNone := fun _ _ _ _ _ _ h _ q => h _ _ q
theorem bSome.mono {ta : AE} (ma : MonoE ta) : MonoB (bSome ta) := fun _ _ _ _ _ _ h hx q => ma _ _ _ _ _ _ (fun x M1 ⟨i, e, q⟩ => ⟨i, e, h _ _ q⟩) hx q
def liftB (K : PySem.W.Frag) (t : AB) (W : WX) : TO := fun σ H Q => ∃ F ρ M, R K H F M ∧ EnvR K F ρ σ ∧ t ρ M (fun i M' => ∀ H' F', Step K H F M H' F' M' → Q i H') (xOf K H F M σ W)
structure ABok (X : Cx) (W : WX) (e : Option Expr) (t : AB) : Prop where
  mono : MonoB t
  po : PO X e (liftB X.K t W)
theorem po_imp {e : Option Expr} {t t' : TO} (h : PO X e t) (i : ∀ σ H Q, t' σ H Q → t σ H Q) : PO X e t' := ⟨fun pins s σ H Q I q => h.run pins s σ H Q I (i _ _ _ q)⟩
theorem ab_none : ABok X W none bNone := ⟨bNone.mono, po_imp po_none fun σ H Q ⟨F, ρ, M, hr, he, h⟩ => h _ _ (Step.refl hr)⟩
theorem ab_some (ha : AEok X W a ta) : ABok X W (some a) (bSome ta) := ⟨bSome.mono ha.mono, po_imp (po_some ha.pe) fun σ H Q ⟨F, ρ, M, hr, he, h⟩ =>
  ⟨F, ρ, M, hr, he, ha.mono _ _ _ _ _ _ (fun x M1 ⟨i, e, h1⟩ H1 F1 v s1 r1 => ⟨i, by subst e; exact r1, h1 _ _ s1⟩) (fun c M1 h1 => h1) h⟩⟩
def aSl (m : Bool) (ta : AE) (tl tu : AB) : AE := fun ρ M Q X => ta ρ M (fun x M1 => tl ρ M1 (fun lo M2 => tu ρ M2 (fun hi M3 => slO m x lo hi M3 Q) X) X) X
theorem ae_sl {m : Bool} {lo hi : Option Expr} {tl tu : AB} {p2 pos : Pos} (ha : AEok X W a ta) (hl : ABok X W lo tl) (hu : ABok X W hi tu) : AEok X W (.Subscript a (.Slice lo hi none p2) pos) (aSl m ta tl tu) := by
  refine ⟨fun ρ M Q Q' X X' hq hx h => ha.mono _ _ _ _ _ _ (fun x M1 h1 => hl.mono _ _ _ _ _ _ (fun i M2 h2 => hu.mono _ _ _ _ _ _ (fun j M3 h3 => slO.mono hq h3) hx h2) hx h1) hx h, pe_imp (pe_slice (ok_sl (m := m)) ha.pe hl.po hu.po) ?_⟩
  rintro σ H Q ⟨F, ρ, M, hr, he, h⟩
  refine ⟨F, ρ, M, hr, he, ha.mono _ _ _ _ _ _ (fun x M1 h1 => ?_) (fun c M1 h1 => h1) h⟩
  intro H1 F1 v s1 r1
  refine ⟨F1, ρ, M1, s1.r, he.up s1.sub, hl.mono _ _ _ _ _ _ (fun i M2 h2 => ?_) (fun c M2 h2 => h2.step s1) h1⟩
  intro H2 F2 s2
  refine ⟨F2, ρ, M2, s2.r, he.up (s1.sub.trans s2.sub), hu.mono _ _ _ _ _ _ (fun j M3 h3 => ?_) (fun c M3 h3 => h3.step (s1.trans s2)) h2⟩
  intro H3 F3 s3
  exact ⟨F3, M3, x, s3.r, Rep.up (s2.sub.trans s3.sub) _ r1, slO.mono (fun d M' q => qOf.step ((s1.trans s2).trans s3) q) h3⟩
end
end TT
set_option Elab.async false
set_option linter.all false
set_option maxRecDepth 100000
set_option maxHeartbeats 2000000
/-! TE: argument lists, displays, built-in functions. -/
namespace TT
open PySem PySem.Spec PyProof.Rows L2

def plainE : Expr → Bool
  | .Starred .. => false
  | _ => true
theorem star_plain {e : Expr} {es : List Expr} {env : PySem.Env} (h : plainE e = true) : starEach (e :: es) env = (false, eval e env) :: starEach es env := by
  cases e <;> first | rfl | cases h
theorem star_none {env : PySem.Env} {pos : Pos} : ∀ {es : List Expr}, es.all plainE = true → (backTo pos (starEach es env)).any (·.1) = false
  | [], _ => rfl
  | e :: es, h => by
    rw [List.all_cons, Bool.and_eq_true] at h
    rw [star_plain h.1]
    show (false || (backTo pos (starEach es env)).any (·.1)) = false
    rw [star_none h.2] <;> rfl

/-! ### argument lists -/
abbrev AA := Env → Mp → (List D → Mp → Prop) → KX → Prop
def MonoA (t : AA) : Prop := ∀ ρ M (Q Q' : List D → Mp → Prop) (X X' : KX), (∀ d M', Q d M' → Q' d M') → (∀ c M', X c M' → X' c M') → t ρ M Q X → t ρ M Q' X'
def aqOf (K : PySem.W.Frag) (H F : Hp) (M : Mp) (Q : List V → Hp → Prop) : List D → Mp → Prop := fun ds M' => ∀ H' F' vs, Step K H F M H' F' M' → Reps K F' ds vs → Q vs H'
def liftA (K : PySem.W.Frag) (t : AA) (W : WX) : TA := fun σ H Q => ∃ F ρ M, R K H F M ∧ EnvR K F ρ σ ∧ t ρ M (aqOf K H F M Q) (xOf K H F M σ W)
structure AAok (X : Cx) (W : WX) (es : List Expr) (t : AA) : Prop where
  mono : MonoA t
  pa : PA X es (liftA X.K t W)
  plain : es.all plainE = true
  len : ∀ ρ M Q E, t ρ M Q E → t ρ M (fun ds M' => ds.length = es.length ∧ Q ds M') E
theorem pa_imp {X : Cx} {e : List Expr} {t t' : TA} (h : PA X e t) (i : ∀ σ H Q, t' σ H Q → t σ H Q) : PA X e t' := ⟨fun pos pins s σ H Q I q => h.run pos pins s σ H Q I (i _ _ _ q)⟩
def aNil : AA := fun _ M Q _ => Q [] M
def aCons (ta : AE) (tr : AA) : AA := fun ρ M Q X => ta ρ M (fun x M1 => tr ρ M1 (fun xs M2 => Q (x :: xs) M2) X) X
section
variable {X : Cx} {W : WX} {e : Expr} {es : List Expr} {ta : AE} {t : AA} {pos p : Pos} {x : Str}
theorem aa_nil : AAok X W [] aNil := ⟨fun _ _ _ _ _ _ h _ q => h _ _ q, pa_imp pa_nil fun σ H Q ⟨F, ρ, M, hr, he, h⟩ => h _ _ _ (Step.refl hr) Reps.nil, rfl, fun _ _ _ _ h => ⟨rfl, h⟩⟩
theorem aa_cons (h : plainE e = true) (ha : AEok X W e ta) (hr : AAok X W es t) : AAok X W (e :: es) (aCons ta t) := by
  refine ⟨fun ρ M Q Q' X X' hq hx h => ha.mono _ _ _ _ _ _ (fun x M1 h1 => hr.mono _ _ _ _ _ _ (fun xs M2 h2 => hq _ _ h2) hx h1) hx h, pa_imp (pa_cons ha.pe hr.pa (star_plain h)) ?_, by rw [List.all_cons, h, hr.plain] <;> rfl, fun ρ M Q E q => ?_⟩
  · rintro σ H Q ⟨F, ρ, M, r, he, q⟩
    refine ⟨F, ρ, M, r, he, ha.mono _ _ _ _ _ _ (fun x M1 h1 => ?_) (fun c M1 h1 => h1) q⟩
    intro H1 F1 v s1 r1
    refine ⟨F1, ρ, M1, s1.r, he.up s1.sub, hr.mono _ _ _ _ _ _ (fun xs M2 h2 => ?_) (fun c M2 h2 => h2.step s1) h1⟩
    intro H2 F2 vs s2 r2
    exact h2 _ _ _ (s1.trans s2) (Reps.cons (Rep.up s2.sub _ r1) r2)
  · refine ha.mono _ _ _ _ _ _ (fun x M1 h1 => ?_) (fun c M1 h1 => h1) q
    refine hr.mono _ _ _ _ _ _ (fun xs M2 h2 => ?_) (fun c M2 h2 => h2) (hr.len _ _ _ _ h1)
    exact ⟨by rw [List.length_cons, List.length_cons, h2.1], h2.2⟩

/-! ### displays -/
def aTup (t : AA) : AE := fun ρ M Q X => t ρ M (fun ds M1 => Q (.tup ds) M1) X
def aLst (m : Bool) (t : AA) : AE := fun ρ M Q X => t ρ M (fun ds M1 => alloc m ds M1 Q) X
theorem len1000 {n : Nat} (h : n ≤ 1000) : n ≤ sizeLine := Nat.le_trans h (by decide)
theorem ae_tup {k : Nat} (hl : es.length ≤ 1000) (ha : AAok X W es t) : AEok X W (.Tuple es k pos) (aTup t) := by
  refine ⟨fun ρ M Q Q' X X' hq hx h => ha.mono _ _ _ _ _ _ (fun x M1 h1 => hq _ _ h1) hx h, pe_imp (pe_tup ha.pa) ?_⟩
  rintro σ H Q ⟨F, ρ, M, r, he, q⟩
  refine ⟨F, ρ, M, r, he, ha.mono _ _ _ _ _ _ (fun ds M1 h1 => ?_) (fun c M1 h1 => h1) (ha.len _ _ _ _ q)⟩
  intro H1 F1 vs s1 r1
  exact ⟨by rw [← r1.length, h1.1]; exact len1000 hl, new_tup s1.r r1 (h1.2.step s1)⟩
theorem ae_lst {m : Bool} (hl : es.length ≤ 1000) (ha : AAok X W es t) : AEok X W (.List es pos) (aLst m t) := by
  refine ⟨fun ρ M Q Q' X X' hq hx h => ha.mono _ _ _ _ _ _ (fun x M1 h1 => alloc_mono hq h1) hx h, pe_imp (pe_lst ha.pa) ?_⟩
  rintro σ H Q ⟨F, ρ, M, r, he, q⟩
  refine ⟨F, ρ, M, r, he, ha.mono _ _ _ _ _ _ (fun ds M1 h1 => ?_) (fun c M1 h1 => h1) (ha.len _ _ _ _ q)⟩
  intro H1 F1 vs s1 r1
  exact ⟨by rw [← r1.length, h1.1]; exact len1000 hl, new_lst s1.r r1 (alloc_mono (fun d M' z => qOf.step s1 z) h1.2)⟩

/-! ### built-in functions -/
abbrev AC := List D → Mp → KQ → Prop
def MonoC (o : AC) : Prop := ∀ ds M (Q Q' : KQ), (∀ d M', Q d M' → Q' d M') → o ds M Q → o ds M Q'
def liftC (K : PySem.W.Frag) (o : AC) : List V → Hp → VK → Prop := fun vs H Q => ∃ F M ds, R K H F M ∧ Reps K F ds vs ∧ o ds M (qOf K H F M Q)
def aCB (o : AC) (t : AA) : AE := fun ρ M Q X => t ρ M (fun ds M1 => o ds M1 Q) X
theorem lift_cb {K : PySem.W.Frag} {o : AC} (mo : MonoC o) (ma : MonoA t) : ∀ σ H Q, liftE K (aCB o t) W σ H Q → tCB (liftC K o) (liftA K t W) σ H Q := by
  rintro σ H Q ⟨F, ρ, M, r, he, q⟩
  refine ⟨F, ρ, M, r, he, ma _ _ _ _ _ _ (fun ds M1 h1 => ?_) (fun c M1 h1 => h1) q⟩
  intro H1 F1 vs s1 r1
  exact ⟨F1, M1, ds, s1.r, r1, mo _ _ _ _ (fun d M' z => qOf.step s1 z) h1⟩
theorem ae_callB {id : String} {o : AC} (hc : CallR X (.builtin id) (liftC X.K o)) (mo : MonoC o) (hg : Gl X x) (hm : X.mg x = none) (hv : bootBuiltins x = some (.builtin id)) (hn : x ≠ "__name__") (hdb : (x == ("__debug__" : Str)) = false) (ha : AAok X W (e :: es) t) :
    AEok X W (.Call (.Name x p) (e :: es) [] pos) (aCB o t) := by
  have hp := ha.plain
  rw [List.all_cons, Bool.and_eq_true] at hp
  exact ⟨fun ρ M Q Q' X X' hq hx h => ha.mono _ _ _ _ _ _ (fun x M1 h1 => mo _ _ _ _ hq h1) hx h, pe_imp (pe_callB hc hg hm hv ha.pa hn hdb (star_plain hp.1) (star_none hp.2)) (lift_cb mo ha.mono)⟩
theorem ae_callTy {id : String} {o : AC} (hc : CallR X (.type id) (liftC X.K o)) (mo : MonoC o) (hg : Gl X x) (hm : X.mg x = none) (hv : bootBuiltins x = some (.type id)) (hn : x ≠ "__name__") (hdb : (x == ("__debug__" : Str)) = false) (ha : AAok X W (e :: es) t) :
    AEok X W (.Call (.Name x p) (e :: es) [] pos) (aCB o t) := by
  have hp := ha.plain
  rw [List.all_cons, Bool.and_eq_true] at hp
  exact ⟨fun ρ M Q Q' X X' hq hx h => ha.mono _ _ _ _ _ _ (fun x M1 h1 => mo _ _ _ _ hq h1) hx h, pe_imp (pe_callTy hc hg hm hv ha.pa hn hdb (star_plain hp.1) (star_none hp.2)) (lift_cb mo ha.mono)⟩
end
theorem callr_imp {X : Cx} {f : Value} {r r' : List V → Hp → VK → Prop} (h : CallR X f r) (i : ∀ vs H Q, r' vs H Q → r vs H Q) : CallR X f r' := fun pins s σ H vs us Q I rv q => h pins s σ H vs us Q I rv (i _ _ _ q)
theorem reps1 {K : PySem.W.Frag} {F : Hp} {x : D} {vs : List V} (h : Reps K F [x] vs) : ∃ v, vs = [v] ∧ Rep K F x v := by
  obtain ⟨u, us', e, h1, h2⟩ := h
  cases (show us' = [] from h2)
  exact ⟨u, e, h1⟩
theorem reps2 {K : PySem.W.Frag} {F : Hp} {x y : D} {vs : List V} (h : Reps K F [x, y] vs) : ∃ v u, vs = [v, u] ∧ Rep K F x v ∧ Rep K F y u := by
  obtain ⟨u, us', e, h1, h2⟩ := h
  obtain ⟨v, e2, h3⟩ := reps1 h2
  exact ⟨u, v, by rw [e, e2], h1, h3⟩
/-- one argument -/
def one (o : D → Mp → KQ → Prop) : AC := fun ds M Q => match ds with
  | [x] => o x M Q
  | _ => False
def two (o : D → D → Mp → KQ → Prop) : AC := fun ds M Q => match ds with
  | [x, y] => o x y M Q
  | _ => False
theorem one.mono {o : D → Mp → KQ → Prop} (h : ∀ x M (Q Q' : KQ), (∀ d M', Q d M' → Q' d M') → o x M Q → o x M Q') : MonoC (one o) := fun ds M Q Q' hq q => by
  unfold one at *; split at q
  · exact h _ _ _ _ hq q
  · exact q
theorem two.mono {o : D → D → Mp → KQ → Prop} (h : ∀ x y M (Q Q' : KQ), (∀ d M', Q d M' → Q' d M') → o x y M Q → o x y M Q') : MonoC (two o) := fun ds M Q Q' hq q => by
  unfold two at *; split at q
  · exact h _ _ _ _ _ hq q
  · exact q
theorem one_ok {X : Cx} {f : Value} {o : D → Mp → KQ → Prop} {r : List V → Hp → VK → Prop} (h : CallR X f r) (i : ∀ H F M x v Q, R X.K H F M → Rep X.K F x v → o x M (qOf X.K H F M Q) → r [v] H Q) : CallR X f (liftC X.K (one o)) :=
  callr_imp h fun vs H Q ⟨F, M, ds, hr, rs, q⟩ => by
    unfold one at q; split at q
    · obtain ⟨v, e, rv⟩ := reps1 rs
      subst e
      exact i H F M _ v Q hr rv q
    · exact q.elim
theorem two_ok {X : Cx} {f : Value} {o : D → D → Mp → KQ → Prop} {r : List V → Hp → VK → Prop} (h : CallR X f r) (i : ∀ H F M x y v u Q, R X.K H F M → Rep X.K F x v → Rep X.K F y u → o x y M (qOf X.K H F M Q) → r [v, u] H Q) : CallR X f (liftC X.K (two o)) :=
  callr_imp h fun vs H Q ⟨F, M, ds, hr, rs, q⟩ => by
    unfold two at q; split at q
    · obtain ⟨v, u, e, rv, ru⟩ := reps2 rs
      subst e
      exact i H F M _ _ v u Q hr rv ru q
    · exact q.elim

def lenO (x : D) (M : Mp) (Q : KQ) : Prop := match x with
  | .tup ds => Q (.int ds.length) M
  | .str z => z.length ≤ sizeLine ∧ Q (.int z.length) M
  | x => (∃ ds, lcon x M = some ds ∧ Q (.int ds.length) M) ∨ ∃ kvs, dcon x M = some kvs ∧ Q (.int kvs.length) M
def sumO (x : D) (M : Mp) (Q : KQ) : Prop := ∃ ns : List Int, lcon x M = some (ns.map D.int) ∧ Q (.int ns.sum) M
def minO (x : D) (M : Mp) (Q : KQ) : Prop := ∃ ns : List Int, lcon x M = some (ns.map D.int) ∧ 0 < ns.length ∧ ∀ m, m ∈ ns → (∀ y, y ∈ ns → m ≤ y) → Q (.int m) M
def min2O (x y : D) (M : Mp) (Q : KQ) : Prop := match x, y with
  | .int i, .int j => Q (.int (if j < i then j else i)) M
  | _, _ => False
def max2O (x y : D) (M : Mp) (Q : KQ) : Prop := match x, y with
  | .int i, .int j => Q (.int (if j > i then j else i)) M
  | _, _ => False
def allO (x : D) (M : Mp) (Q : KQ) : Prop := ∃ bs : List Bool, lcon x M = some (bs.map D.bl) ∧ Q (.bl (bs.all id)) M
def anyO (x : D) (M : Mp) (Q : KQ) : Prop := ∃ bs : List Bool, lcon x M = some (bs.map D.bl) ∧ Q (.bl (bs.any id)) M
def intOf (x : D) (M : Mp) (Q : KQ) : Prop := match x with
  | .int i => Q (.int i) M
  | .bl k => Q (.int (if k then 1 else 0)) M
  | .str a => ∃ n, PySem.intText? a = some n ∧ a.length ≤ 640 ∧ Q (.int n) M
  | _ => False
def strOf (x : D) (M : Mp) (Q : KQ) : Prop := match x with
  | .int i => i.natAbs.log2 < 1920 ∧ Q (.str (toString i)) M
  | .str a => Q (.str a) M
  | _ => False
def tupOf (x : D) (M : Mp) (Q : KQ) : Prop := match x with
  | .tup ds => Q (.tup ds) M
  | x => ∃ ds, lcon x M = some ds ∧ Q (.tup ds) M
def lstOf (m : Bool) (x : D) (M : Mp) (Q : KQ) : Prop := match x with
  | .tup ds => alloc m ds M Q
  | x => ∃ ds, lcon x M = some ds ∧ alloc m ds M Q
def sortI (m : Bool) (x : D) (M : Mp) (Q : KQ) : Prop := ∃ ns : List Int, lcon x M = some (ns.map D.int) ∧ ∀ ns' : List Int, ns'.Perm ns → ns'.Pairwise (· ≤ ·) → alloc m (ns'.map D.int) M Q
section
variable {X : Cx}
theorem ok_len : CallR X (.builtin "len") (liftC X.K (one lenO)) := one_ok (call_len_seq.or (call_len_str.or call_lenD)) fun H F M x v Q hr rx q => by
  unfold lenO at q; split at q
  · obtain ⟨a, us, e1, h1, r1⟩ := tup_ok hr rx
    subst e1
    exact .inl ⟨a, us, rfl, .inr h1, by rw [← r1.length]; exact q.here hr rfl⟩
  · cases (show v = _ from rx)
    exact .inr (.inl ⟨_, rfl, q.1, q.2.here hr rfl⟩)
  · rcases q with ⟨ds, e, q⟩ | ⟨kvs, e, q⟩
    · obtain ⟨a, us, e1, h1, r1⟩ := lcon_ok hr rx e
      subst e1
      exact .inl ⟨a, us, rfl, .inl h1, by rw [← r1.length]; exact q.here hr rfl⟩
    · obtain ⟨a, us, e1, h1, h2, r1⟩ := dcon_ok hr rx e
      subst e1
      have hl : us.length = kvs.length := by have := congrArg List.length h2; rwa [List.length_map, List.length_map] at this
      exact .inr (.inr ⟨a, us, rfl, h1, by rw [hl]; exact q.here hr rfl⟩)
theorem lenO.mono {x : D} {M : Mp} {Q Q' : KQ} (h : ∀ d M', Q d M' → Q' d M') (q : lenO x M Q) : lenO x M Q' := by
  unfold lenO at *; split at q
  · exact h _ _ q
  · exact ⟨q.1, h _ _ q.2⟩
  · rcases q with ⟨ds, e, q⟩ | ⟨kvs, e, q⟩
    · exact .inl ⟨ds, e, h _ _ q⟩
    · exact .inr ⟨kvs, e, h _ _ q⟩
theorem lints_ok {K : PySem.W.Frag} {H F : Hp} {M : Mp} (hr : R K H F M) {x : D} {v : V} {ns : List Int} (rx : Rep K F x v) (e : lcon x M = some (ns.map D.int)) : ∃ a, v = .ref a ∧ SqL K H a (ns.map V.int) := by
  obtain ⟨a, us, e1, h1, r1⟩ := lcon_ok hr rx e
  rw [reps_ints_eq r1] at h1
  exact ⟨a, e1, h1⟩
theorem lbls_ok {K : PySem.W.Frag} {H F : Hp} {M : Mp} (hr : R K H F M) {x : D} {v : V} {ns : List Bool} (rx : Rep K F x v) (e : lcon x M = some (ns.map D.bl)) : ∃ a, v = .ref a ∧ SqL K H a (ns.map V.bl) := by
  obtain ⟨a, us, e1, h1, r1⟩ := lcon_ok hr rx e
  rw [reps_bls_eq r1] at h1
  exact ⟨a, e1, h1⟩
theorem ok_sum (hc : X.calm = true) : CallR X (.builtin "sum") (liftC X.K (one sumO)) := one_ok (cr_sum hc) fun H F M x v Q hr rx ⟨ns, e, q⟩ => by
  obtain ⟨a, e1, h1⟩ := lints_ok hr rx e
  subst e1
  exact ⟨a, ns, rfl, h1, q.here hr rfl⟩
theorem ok_min1 (hc : X.calm = true) : CallR X (.builtin "min") (liftC X.K (one minO)) := one_ok (cr_min hc) fun H F M x v Q hr rx ⟨ns, e, hl, q⟩ => by
  obtain ⟨a, e1, h1⟩ := lints_ok hr rx e
  subst e1
  exact ⟨a, ns, rfl, h1, hl, fun m hm hle => (q m hm hle).here hr rfl⟩
theorem ok_min2 (hc : X.calm = true) : CallR X (.builtin "min") (liftC X.K (two min2O)) := two_ok (call_min2 hc) fun H F M x y v u Q hr rx ry q => by
  unfold min2O at q; split at q
  · cases (show v = _ from rx); cases (show u = _ from ry)
    exact ⟨_, _, rfl, q.here hr rfl⟩
  · exact q.elim
theorem ok_max2 (hc : X.calm = true) : CallR X (.builtin "max") (liftC X.K (two max2O)) := two_ok (call_max2 hc) fun H F M x y v u Q hr rx ry q => by
  unfold max2O at q; split at q
  · cases (show v = _ from rx); cases (show u = _ from ry)
    exact ⟨_, _, rfl, q.here hr rfl⟩
  · exact q.elim
theorem ok_all (hc : X.calm = true) : CallR X (.builtin "all") (liftC X.K (one allO)) := one_ok (cr_all hc) fun H F M x v Q hr rx ⟨ns, e, q⟩ => by
  obtain ⟨a, e1, h1⟩ := lbls_ok hr rx e
  subst e1
  exact ⟨a, ns, rfl, h1, q.here hr rfl⟩
theorem ok_any (hc : X.calm = true) : CallR X (.builtin "any") (liftC X.K (one anyO)) := one_ok (cr_any hc) fun H F M x v Q hr rx ⟨ns, e, q⟩ => by
  obtain ⟨a, e1, h1⟩ := lbls_ok hr rx e
  subst e1
  exact ⟨a, ns, rfl, h1, q.here hr rfl⟩
theorem ok_int : CallR X (.type "int") (liftC X.K (one intOf)) := one_ok (call_int1.or call_int_str) fun H F M x v Q hr rx q => by
  unfold intOf at q; split at q
  · cases (show v = _ from rx)
    exact .inl (.inl ⟨_, rfl, q.here hr rfl⟩)
  · cases (show v = _ from rx)
    exact .inl (.inr ⟨_, rfl, q.here hr rfl⟩)
  · cases (show v = _ from rx)
    obtain ⟨n, h1, h2, q⟩ := q
    exact .inr ⟨_, n, rfl, h1, h2, q.here hr rfl⟩
  · exact q.elim
theorem ok_str : CallR X (.type "str") (liftC X.K (one strOf)) := one_ok (call_str_int.or SkE.call_str_str) fun H F M x v Q hr rx q => by
  unfold strOf at q; split at q
  · cases (show v = _ from rx)
    exact .inl ⟨_, rfl, q.1, q.2.here hr rfl⟩
  · cases (show v = _ from rx)
    exact .inr ⟨_, rfl, q.here hr rfl⟩
  · exact q.elim
theorem ok_tuple : CallR X (.type "tuple") (liftC X.K (one tupOf)) := one_ok call_tuple_of fun H F M x v Q hr rx q => by
  unfold tupOf at q; split at q
  · obtain ⟨a, us, e1, h1, r1⟩ := tup_ok hr rx
    subst e1
    exact ⟨a, us, rfl, .inr ⟨h1, q.here hr rx⟩⟩
  · obtain ⟨ds, e, q⟩ := q
    obtain ⟨a, us, e1, h1, r1⟩ := lcon_ok hr rx e
    subst e1
    exact ⟨a, us, rfl, .inl ⟨h1, new_tup hr r1 q⟩⟩
theorem ok_list {m : Bool} : CallR X (.type "list") (liftC X.K (one (lstOf m))) := one_ok call_list_of fun H F M x v Q hr rx q => by
  unfold lstOf at q; split at q
  · obtain ⟨a, us, e1, h1, r1⟩ := tup_ok hr rx
    subst e1
    exact ⟨a, us, rfl, .inr h1, new_lst hr r1 q⟩
  · obtain ⟨ds, e, q⟩ := q
    obtain ⟨a, us, e1, h1, r1⟩ := lcon_ok hr rx e
    subst e1
    exact ⟨a, us, rfl, .inl h1, new_lst hr r1 q⟩
theorem ok_sortI {m : Bool} : CallR X (.builtin "sorted") (liftC X.K (one (sortI m))) := one_ok cr_sortedI fun H F M x v Q hr rx ⟨ns, e, q⟩ => by
  obtain ⟨a, e1, h1⟩ := lints_ok hr rx e
  subst e1
  exact ⟨a, ns, rfl, h1, fun ns' p hp hw hn => new_lst hr reps_ints (q ns' hp hw) p hn⟩
end
/-! ### isinstance -/
def tyD : D → Mp → Option String
  | .non, _ => some "NoneType"
  | .bl _, _ => some "bool"
  | .int _, _ => some "int"
  | .str _, _ => some "str"
  | .tup _, _ => some "tuple"
  | .lst _, _ => some "list"
  | .scr _, _ => some "list"
  | .ref a, M => match M a with
    | some (.lst _) => some "list"
    | some (.dct _) => some "dict"
    | _ => none
def isiO (T : String) (x : D) (M : Mp) (Q : KQ) : Prop := ∃ t b, tyD x M = some t ∧ kitB t T = some b ∧ Q (.bl b) M
theorem isiO.mono {T : String} {x : D} {M : Mp} {Q Q' : KQ} (h : ∀ d M', Q d M' → Q' d M') (q : isiO T x M Q) : isiO T x M Q' := by
  obtain ⟨t, b, h1, h2, q⟩ := q; exact ⟨t, b, h1, h2, h _ _ q⟩
theorem seqT_ty {K : PySem.W.Frag} {H : Hp} {a : Addr} {us : List V} (h : SqT K H a us) : TyX K H (.ref a) (.type "tuple") := by
  rcases h with (h | ⟨o, h⟩) | ⟨o, its, n, hk, hc, _⟩
  · exact .base (.tup h)
  · exact .fTuple h
  · exact .kTuple hk hc
theorem seqL_ty {K : PySem.W.Frag} {H : Hp} {a : Addr} {us : List V} (h : SqL K H a us) : TyX K H (.ref a) (.type "list") := by
  rcases h with (h | ⟨o, h⟩) | ⟨o, its, n, hk, hc, _⟩
  · exact .base (.lst h)
  · exact .base (.frz h)
  · exact .kList hk hc
theorem tyD_ok {K : PySem.W.Frag} {H F : Hp} {M : Mp} (hr : R K H F M) {x : D} {v : V} {t : String} (rx : Rep K F x v) (h : tyD x M = some t) : TyX K H v (.type t) := by
  unfold tyD at h
  split at h
  · cases h; cases (show v = _ from rx); exact .base .non
  · cases h; cases (show v = _ from rx); exact .base (.bl _)
  · cases h; cases (show v = _ from rx); exact .base (.int _)
  · cases h; cases (show v = _ from rx); exact .base (.str _)
  · cases h; obtain ⟨a, us, e1, h1, r1⟩ := tup_ok hr rx; subst e1; exact seqT_ty h1
  · cases h; obtain ⟨a, us, e1, h1, r1⟩ := rx; subst e1; exact .base (.lst (hr.sub _ _ h1))
  · cases h; obtain ⟨a, e1, h1⟩ := rx; subst e1; exact seqL_ty (hr.sub.seq h1)
  · split at h
    · rename_i e; cases h; cases (show v = _ from rx); obtain ⟨us, h1, _⟩ := hr.rep _ _ e; exact .base (.lst h1)
    · rename_i e; cases h; cases (show v = _ from rx); obtain ⟨us, h1, _⟩ := hr.rep _ _ e; exact .base (.dK h1)
    · cases h
section
variable {X : Cx} {W : WX} {e : Expr} {ta : AE} {p p2 pos : Pos} {T : String} {y : Str}
theorem ae_isi (hg : Gl X "isinstance") (hm : X.mg "isinstance" = none) (hgT : Gl X y) (hmT : X.mg y = none) (hvT : bootBuiltins y = some (.type T)) (hn : y ≠ "__name__") (hdb : (y == ("__debug__" : Str)) = false) (hp : plainE e = true) (ha : AEok X W e ta) :
    AEok X W (.Call (.Name "isinstance" p) [e, .Name y p2] [] pos) (aUn (isiO T) ta) := by
  refine ⟨aUn.mono (fun _ _ _ _ => isiO.mono) ha.mono, pe_imp (pe_callB call_isi hg hm (by decide +kernel) (pa_cons ha.pe (pa_cons (pe_bltn hgT hmT hvT (show RelV (.ty T) (.type T) from rfl) hn hdb) pa_nil) (star_plain hp)) (by decide) (by decide) (star_plain hp) rfl) ?_⟩
  rintro σ H Q ⟨F, ρ, M, r, he, q⟩
  refine ⟨F, ρ, M, r, he, ha.mono _ _ _ _ _ _ (fun x M1 ⟨t, b, h1, h2, h3⟩ => ?_) (fun c M1 h1 => h1) q⟩
  intro H1 F1 v s1 r1
  exact ⟨v, .ty T, .type t, .type T, b, rfl, .ty T, tyD_ok s1.r r1 h1, kit_ty h2, (h3.step s1).here s1.r rfl⟩
end
end TT
set_option Elab.async false
set_option linter.all false
set_option maxRecDepth 100000
set_option maxHeartbeats 2000000
/-! TF: methods of built-in objects; instances; own calls. -/
namespace TT
open PySem PySem.Spec PyProof.Rows L2

def plainO : Expr → Bool
  | .Call .. => false
  | _ => true
theorem base_plain {o : Expr} {f : Str} {env : PySem.Env} {w : Sem Value} (h : plainO o = true) : attributeBase o f env w = w := by
  cases o <;> first | rfl | cases h
theorem few_plain {e : Expr} {es : List Expr} {env : PySem.Env} {pos : Pos} (h : (e :: es).all plainE = true) (hl : (e :: es).length < 29) :
    ((backTo pos (starEach (e :: es) env)).all (fun x => !x.1) && (backToKw pos (keywordEach [] env)).all (fun x => x.1.isSome) && decide ((e :: es).length + ([] : List Keyword).length + (if ([] : List Keyword).isEmpty then 0 else 1) < 30)) = true := by
  have h1 : ∀ l : List (Bool × Sem Value), l.any (·.1) = false → l.all (fun x => !x.1) = true := fun l => by
    induction l with
    | nil => intro _; rfl
    | cons x l ih => intro q; rw [List.any_cons, Bool.or_eq_false_iff] at q; rw [List.all_cons, q.1, ih q.2] <;> rfl
  rw [h1 _ (star_none h)]
  have : decide ((e :: es).length + ([] : List Keyword).length + (if ([] : List Keyword).isEmpty then 0 else 1) < 30) = true := decide_eq_true (by simp at hl ⊢; omega)
  rw [this] <;> rfl

abbrev AM := D → List D → Mp → KQ → Prop
def MonoM (o : AM) : Prop := ∀ x ds M (Q Q' : KQ), (∀ d M', Q d M' → Q' d M') → o x ds M Q → o x ds M Q'
def liftM (K : PySem.W.Frag) (o : AM) : V → List V → Hp → VK → Prop := fun v vs H Q => ∃ F M x ds, R K H F M ∧ Rep K F x v ∧ Reps K F ds vs ∧ o x ds M (qOf K H F M Q)
def aBM (T : String) (o : AM) (ta : AE) (t : AA) : AE := fun ρ M Q X => ta ρ M (fun x M1 => tyD x M1 = some T ∧ t ρ M1 (fun ds M2 => o x ds M2 Q) X) X
theorem tyV_ok {K : PySem.W.Frag} {H F : Hp} {M : Mp} (hr : R K H F M) {x : D} {v : V} {T : String} (rx : Rep K F x v) (h : tyD x M = some T) (hT : T = "str" ∨ T = "list" ∨ T = "dict") : tyV K T v H := by
  unfold tyD at h
  split at h
  · cases h; exact absurd hT (by decide)
  · cases h; exact absurd hT (by decide)
  · cases h; exact absurd hT (by decide)
  · cases h; cases (show v = _ from rx); exact rfl
  · cases h; exact absurd hT (by decide)
  · cases h; obtain ⟨a, us, e1, h1, r1⟩ := rx; subst e1; exact .inl ⟨rfl, _, SqL.of (hr.sub _ _ h1)⟩
  · cases h; obtain ⟨a, e1, h1⟩ := rx; subst e1; exact .inl ⟨rfl, _, hr.sub.seq h1⟩
  · split at h
    · rename_i e; cases h; cases (show v = _ from rx); obtain ⟨us, h1, _⟩ := hr.rep _ _ e; exact .inl ⟨rfl, _, SqL.of h1⟩
    · rename_i e; cases h; cases (show v = _ from rx); obtain ⟨us, h1, _⟩ := hr.rep _ _ e; exact .inr (.inr (.inl ⟨rfl, .inl ⟨_, h1⟩⟩))
    · cases h
theorem mtr_imp {X : Cx} {id : String} {r r' : V → List V → Hp → VK → Prop} (h : MtR X id r) (i : ∀ v vs H Q, r' v vs H Q → r v vs H Q) : MtR X id r' := fun pins s σ H x xs v us Q I rx rs q => h pins s σ H x xs v us Q I rx rs (i _ _ _ _ q)
section
variable {X : Cx} {W : WX} {e o : Expr} {es : List Expr} {ta : AE} {t : AA} {cpos apos p : Pos} {x name : Str} {T id : String} {op : AM}
theorem aBM.mono (mo : MonoM op) (ma : MonoE ta) (mt : MonoA t) : MonoE (aBM T op ta t) := fun ρ M Q Q' X X' hq hx h =>
  ma _ _ _ _ _ _ (fun x M1 ⟨h0, h1⟩ => ⟨h0, mt _ _ _ _ _ _ (fun ds M2 h2 => mo _ _ _ _ _ hq h2) hx h1⟩) hx h
theorem ae_bm (pa : PlainAttrs T) (slot : Slot T name id) (hty : typeOf (.builtin id) = pure (.type "method_descriptor")) (hT : T = "str" ∨ T = "list" ∨ T = "dict") (hm : MtR X id (liftM X.K op)) (mo : MonoM op)
    (ho : AEok X W o ta) (hp : plainO o = true) (ha : AAok X W (e :: es) t) (hl : (e :: es).length < 29) (hline : (apos.endLine == cpos.line) = true) : AEok X W (.Call (.Attribute o name apos) (e :: es) [] cpos) (aBM T op ta t) := by
  have hpl := ha.plain
  have hpl2 := hpl
  rw [List.all_cons, Bool.and_eq_true] at hpl
  refine ⟨aBM.mono mo ho.mono ha.mono, pe_imp (pe_bm pa slot hty hm ho.pe ha.pa (base_plain hp) (few_plain hpl2 hl) hline (star_plain hpl.1) (star_none hpl.2)) ?_⟩
  rintro σ H Q ⟨F, ρ, M, r, he, q⟩
  refine ⟨F, ρ, M, r, he, ho.mono _ _ _ _ _ _ (fun x M1 ⟨h0, h1⟩ => ?_) (fun c M1 h1 => h1) q⟩
  intro H1 F1 v s1 r1
  refine ⟨tyV_ok s1.r r1 h0 hT, F1, ρ, M1, s1.r, he.up s1.sub, ha.mono _ _ _ _ _ _ (fun ds M2 h2 => ?_) (fun c M2 h2 => h2.step s1) h1⟩
  intro H2 F2 vs s2 r2
  exact ⟨F2, M2, x, ds, s2.r, Rep.up s2.sub _ r1, r2, mo _ _ _ _ _ (fun d M' z => qOf.step (s1.trans s2) z) h2⟩
theorem ae_bm0 (pa : PlainAttrs T) (slot : Slot T name id) (hty : typeOf (.builtin id) = pure (.type "method_descriptor")) (hT : T = "str" ∨ T = "list" ∨ T = "dict") (hm : MtR X id (liftM X.K op)) (mo : MonoM op)
    (ho : AEok X W o ta) (hp : plainO o = true) (hline : (apos.endLine == cpos.line) = true) : AEok X W (.Call (.Attribute o name apos) [] [] cpos) (aBM T op ta aNil) := by
  refine ⟨aBM.mono mo ho.mono (fun _ _ _ _ _ _ h _ q => h _ _ q), pe_imp (pe_bm0 pa slot hty hm ho.pe (base_plain hp) hline) ?_⟩
  rintro σ H Q ⟨F, ρ, M, r, he, q⟩
  refine ⟨F, ρ, M, r, he, ho.mono _ _ _ _ _ _ (fun x M1 ⟨h0, h1⟩ => ?_) (fun c M1 h1 => h1) q⟩
  intro H1 F1 v s1 r1
  exact ⟨tyV_ok s1.r r1 h0 hT, F1, M1, x, [], s1.r, r1, Reps.nil, mo _ _ _ _ _ (fun d M' z => qOf.step s1 z) h1⟩
end
/-- a list that may be changed -/
def mlist : D → Mp → Option (Addr × List D)
  | .ref a, M => match M a with
    | some (.lst ds) => some (a, ds)
    | _ => none
  | _, _ => none
theorem mlist_eq {x : D} {M : Mp} {a : Addr} {ds : List D} (h : mlist x M = some (a, ds)) : x = .ref a ∧ M a = some (.lst ds) := by
  unfold mlist at h; split at h
  · split at h
    · rename_i e; cases h; exact ⟨rfl, e⟩
    · cases h
  · cases h
theorem put_lst {K : PySem.W.Frag} {H F : Hp} {M : Mp} (hr : R K H F M) {a : Addr} {ds0 ds : List D} {us : List V} (h : M a = some (.lst ds0)) (r : Reps K F ds us) : Step K H F M (upd H a (.lst us)) F (mset M a (.lst ds)) :=
  Step.put hr h ⟨us, upd_same, r⟩
def appendO : AM := fun x ds M Q => ∃ a xs y, mlist x M = some (a, xs) ∧ ds = [y] ∧ xs.length < sizeLine ∧ Q .non (mset M a (.lst (xs ++ [y])))
def extendO : AM := fun x ds M Q => ∃ a xs y ys, mlist x M = some (a, xs) ∧ ds = [y] ∧ lconT y M = some ys ∧ xs.length + ys.length ≤ sizeLine ∧ Q .non (mset M a (.lst (xs ++ ys)))
def popO : AM := fun x ds M Q => ∃ a xs y, mlist x M = some (a, xs) ∧ ds = [] ∧ xs[xs.length - 1]? = some y ∧ Q y (mset M a (.lst xs.dropLast))
def popAtO : AM := fun x ds M Q => ∃ a xs i k y, mlist x M = some (a, xs) ∧ ds = [.int i] ∧ (-(2 ^ 63) ≤ i ∧ i < 2 ^ 63) ∧ seqIndex? i xs.length = some k ∧ xs[k]? = some y ∧ Q y (mset M a (.lst (xs.eraseIdx k)))
def removeO : AM := fun x ds M Q => ∃ a, ∃ ns : List Int, ∃ k j, mlist x M = some (a, ns.map D.int) ∧ ds = [.int k] ∧ ns[j]? = some k ∧ (∀ m : Nat, m < j → ns[m]? ≠ some k) ∧ Q .non (mset M a (.lst ((ns.eraseIdx j).map D.int)))
def indexO : AM := fun x ds M Q => ∃ ys y, ∃ j : Nat, ∃ z, lcon x M = some ys ∧ ds = [y] ∧ flatD y = true ∧ ys.all flatD = true ∧ ys[j]? = some z ∧ eqF z y = true ∧ (∀ m : Nat, ∀ z', m < j → ys[m]? = some z' → eqF z' y = false) ∧ Q (.int j) M
def joinO : AM := fun x ds M Q => ∃ a y, ∃ ys : List Str, x = .str a ∧ ds = [y] ∧ ((lcon y M = some (ys.map D.str)) ∨ y = .tup (ys.map D.str)) ∧ (ys.map (·.length)).sum + ys.length * a.length ≤ 16777216 ∧ Q (.str (Txt.join a ys)) M
def splitO (m : Bool) : AM := fun x ds M Q => ∃ a b, x = .str a ∧ ds = [.str b] ∧ (b.length == 0) = false ∧ a.length + 2 ≤ sizeLine ∧ alloc m ((Txt.split a b).map D.str) M Q
def lstripO : AM := fun x ds M Q => ∃ a b, x = .str a ∧ ds = [.str b] ∧ a.length ≤ sizeLine ∧ Q (.str (Txt.lstripChars a b)) M
def get2O : AM := fun x ds M Q => ∃ kvs k y d, dcon x M = some kvs ∧ ds = [y, d] ∧ keyD y = some k ∧ Q ((getK kvs k).getD d) M
theorem appendO.mono : MonoM appendO := fun x ds M Q Q' h ⟨a, xs, y, h1, h2, h3, q⟩ => ⟨a, xs, y, h1, h2, h3, h _ _ q⟩
theorem extendO.mono : MonoM extendO := fun x ds M Q Q' h ⟨a, xs, y, ys, h1, h2, h3, h4, q⟩ => ⟨a, xs, y, ys, h1, h2, h3, h4, h _ _ q⟩
theorem popO.mono : MonoM popO := fun x ds M Q Q' h ⟨a, xs, y, h1, h2, h3, q⟩ => ⟨a, xs, y, h1, h2, h3, h _ _ q⟩
theorem popAtO.mono : MonoM popAtO := fun x ds M Q Q' h ⟨a, xs, y, i, k, h1, h2, h3, h4, h5, q⟩ => ⟨a, xs, y, i, k, h1, h2, h3, h4, h5, h _ _ q⟩
theorem removeO.mono : MonoM removeO := fun x ds M Q Q' h ⟨a, ns, k, j, h1, h2, h3, h4, q⟩ => ⟨a, ns, k, j, h1, h2, h3, h4, h _ _ q⟩
theorem indexO.mono : MonoM indexO := fun x ds M Q Q' h ⟨ys, y, j, z, h1, h2, h3, h4, h5, h6, h7, q⟩ => ⟨ys, y, j, z, h1, h2, h3, h4, h5, h6, h7, h _ _ q⟩
theorem joinO.mono : MonoM joinO := fun x ds M Q Q' h ⟨a, y, ys, h1, h2, h3, h4, q⟩ => ⟨a, y, ys, h1, h2, h3, h4, h _ _ q⟩
theorem splitO.mono {m : Bool} : MonoM (splitO m) := fun x ds M Q Q' h ⟨a, b, h1, h2, h3, h4, q⟩ => ⟨a, b, h1, h2, h3, h4, alloc_mono h q⟩
theorem lstripO.mono : MonoM lstripO := fun x ds M Q Q' h ⟨a, b, h1, h2, h3, q⟩ => ⟨a, b, h1, h2, h3, h _ _ q⟩
theorem get2O.mono : MonoM get2O := fun x ds M Q Q' h ⟨kvs, k, y, d, h1, h2, h3, q⟩ => ⟨kvs, k, y, d, h1, h2, h3, h _ _ q⟩
section
variable {X : Cx}
theorem mlist_ok {K : PySem.W.Frag} {H F : Hp} {M : Mp} (hr : R K H F M) {x : D} {v : V} {a : Addr} {ds : List D} (rx : Rep K F x v) (h : mlist x M = some (a, ds)) : v = .ref a ∧ M a = some (.lst ds) ∧ ∃ us, H a = some (.lst us) ∧ Reps K F ds us := by
  obtain ⟨e, h1⟩ := mlist_eq h
  subst e
  exact ⟨rx, h1, hr.rep _ _ h1⟩
theorem ok_append : MtR X "list.append" (liftM X.K appendO) := mtr_imp mt_append fun v vs H Q ⟨F, M, x, ds, hr, rx, rs, a, xs, y, h1, h2, h3, q⟩ => by
  obtain ⟨e, hM, us, hH, ru⟩ := mlist_ok hr rx h1
  subst h2
  obtain ⟨w', e2, rw'⟩ := reps1 rs
  exact ⟨a, us, w', e, e2, hH, by rw [← ru.length]; exact h3, q _ _ _ (put_lst hr hM (ru.append (Reps.cons rw' Reps.nil))) rfl⟩
theorem ok_extend : MtR X "list.extend" (liftM X.K extendO) := mtr_imp mt_extend fun v vs H Q ⟨F, M, x, ds, hr, rx, rs, a, xs, y, ys, h1, h2, h3, h4, q⟩ => by
  obtain ⟨e, hM, us, hH, ru⟩ := mlist_ok hr rx h1
  subst h2
  obtain ⟨w', e2, rw'⟩ := reps1 rs
  obtain ⟨b, ws, e3, hb, rb⟩ := lconT_ok hr rw' h3
  subst e3
  exact ⟨a, b, us, ws, e, e2, hH, hb, by rw [← ru.length, ← rb.length]; exact h4, q _ _ _ (put_lst hr hM (ru.append rb)) rfl⟩
theorem ok_pop : MtR X "list.pop" (liftM X.K popO) := mtr_imp mt_pop fun v vs H Q ⟨F, M, x, ds, hr, rx, rs, a, xs, y, h1, h2, h3, q⟩ => by
  obtain ⟨e, hM, us, hH, ru⟩ := mlist_ok hr rx h1
  subst h2
  obtain ⟨u, hu, r2⟩ := ru.get h3
  exact ⟨a, us, u, e, rs, hH, by rw [← ru.length]; exact hu, q _ _ _ (put_lst hr hM ru.dropLast) r2⟩
theorem ok_popAt : MtR X "list.pop" (liftM X.K popAtO) := mtr_imp mt_popAt fun v vs H Q ⟨F, M, x, ds, hr, rx, rs, a, xs, i, k, y, h1, h2, ⟨h3, h4⟩, h5, h6, q⟩ => by
  obtain ⟨e, hM, us, hH, ru⟩ := mlist_ok hr rx h1
  subst h2
  obtain ⟨w', e2, rw'⟩ := reps1 rs
  cases (show w' = _ from rw')
  obtain ⟨u, hu, r2⟩ := ru.get h6
  exact ⟨a, us, i, k, u, e, e2, hH, h3, h4, by rw [← ru.length]; exact h5, hu, q _ _ _ (put_lst hr hM (ru.eraseIdx k)) r2⟩
theorem ok_remove : MtR X "list.remove" (liftM X.K removeO) := mtr_imp mt_remove fun v vs H Q ⟨F, M, x, ds, hr, rx, rs, a, ns, k, j, h1, h2, h3, h4, q⟩ => by
  obtain ⟨e, hM, us, hH, ru⟩ := mlist_ok hr rx h1
  subst h2
  obtain ⟨w', e2, rw'⟩ := reps1 rs
  cases (show w' = _ from rw')
  rw [reps_ints_eq ru] at hH
  exact ⟨a, ns, k, j, e, e2, hH, h3, h4, q _ _ _ (put_lst hr hM reps_ints) rfl⟩
theorem ok_index : MtR X "list.index" (liftM X.K indexO) := mtr_imp mt_index fun v vs H Q ⟨F, M, x, ds, hr, rx, rs, ys, y, j, z, h1, h2, h3, h4, h5, h6, h7, q⟩ => by
  obtain ⟨a, us, e, hH, ru⟩ := lcon_ok hr rx h1
  subst h2
  obtain ⟨w', e2, rw'⟩ := reps1 rs
  obtain ⟨i1, _⟩ := inD_ok rw' h3 ru h4
  obtain ⟨u, hu, r2⟩ := ru.get h5
  have fl : ∀ {m : Nat} {z' : D}, ys[m]? = some z' → flatD z' = true := fun hm => List.all_eq_true.mp h4 _ (List.mem_of_getElem? hm)
  refine ⟨a, us, w', j, u, e, e2, hH, flat_ok rw' h3, i1, hu, by rw [eqF_ok r2 rw' (fl h5) h3]; exact h6, fun m z' hm hz => ?_, q.here hr rfl⟩
  have hlt : m < ys.length := by
    have := List.getElem?_eq_some_iff.mp hz
    obtain ⟨q1, _⟩ := this
    rw [ru.length]; exact q1
  obtain ⟨u', hu', r3⟩ := ru.get (List.getElem?_eq_getElem hlt)
  rw [hu'] at hz; cases hz
  rw [eqF_ok r3 rw' (fl (List.getElem?_eq_getElem hlt)) h3]
  exact h7 m _ hm (List.getElem?_eq_getElem hlt)
theorem ok_join : MtR X "str.join" (liftM X.K joinO) := mtr_imp mt_join fun v vs H Q ⟨F, M, x, ds, hr, rx, rs, a, y, ys, h1, h2, h3, h4, q⟩ => by
  subst h1 h2
  obtain ⟨w', e2, rw'⟩ := reps1 rs
  rcases h3 with h3 | h3
  · obtain ⟨b, us, e, hH, ru⟩ := lcon_ok hr rw' h3
    rw [reps_strs_eq ru] at hH
    subst e
    exact ⟨a, b, ys, rx, e2, .inl hH, h4, q.here hr rfl⟩
  · subst h3
    obtain ⟨b, us, e, hH, ru⟩ := tup_ok hr rw'
    rw [reps_strs_eq ru] at hH
    subst e
    exact ⟨a, b, ys, rx, e2, .inr hH, h4, q.here hr rfl⟩
theorem reps_strs {K : PySem.W.Frag} {F : Hp} : ∀ {ns : List Str}, Reps K F (ns.map D.str) (ns.map V.str)
  | [] => Reps.nil
  | n :: ns => Reps.cons rfl reps_strs
theorem ok_split {m : Bool} : MtR X "str.split" (liftM X.K (splitO m)) := mtr_imp mt_split fun v vs H Q ⟨F, M, x, ds, hr, rx, rs, a, b, h1, h2, h3, h4, q⟩ => by
  subst h1 h2
  obtain ⟨w', e2, rw'⟩ := reps1 rs
  cases (show w' = _ from rw')
  exact ⟨a, b, rx, e2, h3, h4, new_lst hr reps_strs q⟩
theorem ok_lstrip : MtR X "str.lstrip" (liftM X.K lstripO) := mtr_imp mt_lstripChars fun v vs H Q ⟨F, M, x, ds, hr, rx, rs, a, b, h1, h2, h3, q⟩ => by
  subst h1 h2
  obtain ⟨w', e2, rw'⟩ := reps1 rs
  cases (show w' = _ from rw')
  exact ⟨a, b, rx, e2, h3, q.here hr rfl⟩
theorem mt_get2 (hu : X.A.units + 1 < cLine) : MtR X "dict.get" (fun x xs H Q => ∃ a kus k d, x = .ref a ∧ xs = [kV k, d] ∧ H a = some (.dK kus) ∧ Q ((valV kus k).getD d) H) := by
  intro pins s σ H x xs v us Q I rx rxs h
  obtain ⟨a, kus, k, d, rfl, rfl, hH, q⟩ := h
  cases rx
  obtain ⟨u, w', rfl, ru, rw'⟩ := rxs.two
  exact d_get2 hu I (DGet.k hH) ru rw' fun w2 s3 I3 r3 => ⟨_, H, I3, r3, q⟩
theorem ok_get2 (hu : X.A.units + 1 < cLine) : MtR X "dict.get" (liftM X.K get2O) := mtr_imp (mt_get2 hu) fun v vs H Q ⟨F, M, x, ds, hr, rx, rs, kvs, k, y, d, h1, h2, h3, q⟩ => by
  obtain ⟨a, us, e1, g1, g2, r1⟩ := dcon_ok hr rx h1
  subst h2
  obtain ⟨w1, w2, e2, q1, q2⟩ := reps2 rs
  refine ⟨a, us, k, w2, e1, by rw [e2, keyD_ok q1 h3], g1, ?_⟩
  have g := getK_ok k g2 r1
  cases h : getK kvs k with
  | none => rw [h] at g q; rw [g]; exact q.here hr q2
  | some d' => rw [h] at g q; obtain ⟨v', g, rv⟩ := g; rw [g]; exact q.here hr rv
end
end TT
set_option Elab.async false
set_option linter.all false
set_option maxRecDepth 100000
set_option maxHeartbeats 2000000
/-! TG: instances, own calls. -/
namespace TT
open PySem PySem.Spec PyProof.Rows L2

/-! ### fields -/
def putA (f : Str) (d : D) : List (Str × D) → List (Str × D)
  | [] => [(f, d)]
  | (g, x) :: r => if g = f then (g, d) :: r else (g, x) :: putA f d r
section
variable {K : PySem.W.Frag} {F : Hp}
theorem look_ok (f : Str) : ∀ {fs : List (Str × D)} {gs : List (Str × V)}, gs.map (·.1) = fs.map (·.1) → Reps K F (fs.map (·.2)) (gs.map (·.2)) → match fs.lookup f with
    | some d => ∃ v, gs.lookup f = some v ∧ Rep K F d v
    | none => gs.lookup f = none
  | [], [], _, _ => rfl
  | [], _ :: _, e, _ => by cases e
  | _ :: _, [], e, _ => by cases e
  | (k1, d) :: r, (k2, v) :: q, e, h => by
    simp only [List.map_cons, List.cons.injEq] at e
    obtain ⟨e1, e2⟩ := e
    subst e1
    obtain ⟨u, us', e3, h1, h2⟩ := h
    simp only [List.map_cons, List.cons.injEq] at e3
    obtain ⟨rfl, rfl⟩ := e3
    rw [List.lookup_cons, List.lookup_cons]
    cases hk : f == k2 with
    | true => exact ⟨_, rfl, h1⟩
    | false => exact look_ok f e2 h2
theorem putA_ok (f : Str) {d : D} {v : V} (hd : Rep K F d v) : ∀ {fs : List (Str × D)} {gs : List (Str × V)}, gs.map (·.1) = fs.map (·.1) → Reps K F (fs.map (·.2)) (gs.map (·.2)) →
    (putF f v gs).map (·.1) = (putA f d fs).map (·.1) ∧ Reps K F ((putA f d fs).map (·.2)) ((putF f v gs).map (·.2))
  | [], [], _, _ => ⟨rfl, Reps.cons hd Reps.nil⟩
  | [], _ :: _, e, _ => by cases e
  | _ :: _, [], e, _ => by cases e
  | (k1, d1) :: r, (k2, v1) :: q, e, h => by
    simp only [List.map_cons, List.cons.injEq] at e
    obtain ⟨e1, e2⟩ := e
    subst e1
    obtain ⟨u, us', e3, h1, h2⟩ := h
    simp only [List.map_cons, List.cons.injEq] at e3
    obtain ⟨rfl, rfl⟩ := e3
    unfold putA putF
    by_cases hk : k2 = f
    · rw [if_pos hk, if_pos hk]
      exact ⟨by simp [e2], Reps.cons hd h2⟩
    · rw [if_neg hk, if_neg hk]
      obtain ⟨i1, i2⟩ := putA_ok f hd e2 h2
      exact ⟨by simp [i1], Reps.cons h1 i2⟩
end
def insOf (c : Str) : D → Mp → Option (Addr × List (Str × D))
  | .ref a, M => match M a with
    | some (.ins c' fs) => if c' = c then some (a, fs) else none
    | _ => none
  | _, _ => none
theorem insOf_eq {c : Str} {x : D} {M : Mp} {a : Addr} {fs : List (Str × D)} (h : insOf c x M = some (a, fs)) : x = .ref a ∧ M a = some (.ins c fs) := by
  unfold insOf at h; split at h
  · split at h
    · rename_i e
      split at h
      · rename_i e2; cases h; subst e2; exact ⟨rfl, e⟩
      · cases h
    · cases h
  · cases h
theorem insOf_ok {K : PySem.W.Frag} {H F : Hp} {M : Mp} (hr : R K H F M) {c : Str} {x : D} {v : V} {a : Addr} {fs : List (Str × D)} (rx : Rep K F x v) (h : insOf c x M = some (a, fs)) :
    v = .ref a ∧ M a = some (.ins c fs) ∧ ∃ dx gs, H a = some (.ins (He.ga K c) dx gs) ∧ gs.map (·.1) = fs.map (·.1) ∧ Reps K F (fs.map (·.2)) (gs.map (·.2)) := by
  obtain ⟨e, h1⟩ := insOf_eq h
  subst e
  exact ⟨rx, h1, hr.rep _ _ h1⟩
def fldO (c f : Str) (x : D) (M : Mp) (Q : KQ) : Prop := ∃ a fs d, insOf c x M = some (a, fs) ∧ fs.lookup f = some d ∧ Q d M
theorem fldO.mono {c f : Str} {x : D} {M : Mp} {Q Q' : KQ} (h : ∀ d M', Q d M' → Q' d M') (q : fldO c f x M Q) : fldO c f x M Q' := by
  obtain ⟨a, fs, d, h1, h2, q⟩ := q; exact ⟨a, fs, d, h1, h2, h _ _ q⟩
section
variable {X : Cx} {W : WX} {e o : Expr} {es : List Expr} {ta : AE} {t : AA} {pos apos p : Pos} {c f m x : Str}
theorem ae_fld (hc : Cls X.K (He.ga X.K c)) (hn : NoAttr X.K (He.ga X.K c) f) (hp : plainO e = true) (ha : AEok X W e ta) : AEok X W (.Attribute e f pos) (aUn (fldO c f) ta) := by
  refine ⟨aUn.mono (fun _ _ _ _ => fldO.mono) ha.mono, pe_imp (pe_fld ha.pe (base_plain hp)) ?_⟩
  rintro σ H Q ⟨F, ρ, M, r, he, q⟩
  refine ⟨F, ρ, M, r, he, ha.mono _ _ _ _ _ _ (fun x M1 ⟨a, fs, d, h1, h2, h3⟩ => ?_) (fun c M1 h1 => h1) q⟩
  intro H1 F1 v s1 r1
  obtain ⟨e1, hM, dx, gs, hH, g1, g2⟩ := insOf_ok s1.r r1 h1
  have lk := look_ok f g1 g2
  rw [h2] at lk
  obtain ⟨u, lu, ru⟩ := lk
  exact ⟨a, _, dx, gs, u, e1, hH, hc, hn, lu, (h3.step s1).here s1.r ru⟩

/-! ### own calls -/
abbrev AF := List D → Mp → KQ → KX → Prop
def MonoF (o : AF) : Prop := ∀ ds M (Q Q' : KQ) (X X' : KX), (∀ d M', Q d M' → Q' d M') → (∀ c M', X c M' → X' c M') → o ds M Q X → o ds M Q' X'
def xkOf (K : PySem.W.Frag) (H F : Hp) (M : Mp) (E : XK) : KX := fun c M' => ∀ H' F', Step K H F M H' F' M' → E (.ref (He.ga K c)) none H'
def liftF (K : PySem.W.Frag) (o : AF) : Sp := fun vs H Q E => ∃ F M ds, R K H F M ∧ Reps K F ds vs ∧ o ds M (qOf K H F M Q) (xkOf K H F M E)
def aCall (o : AF) (t : AA) : AE := fun ρ M Q X => t ρ M (fun ds M1 => o ds M1 Q X) X
theorem aCall.mono {op : AF} (mo : MonoF op) (mt : MonoA t) : MonoE (aCall op t) := fun ρ M Q Q' X X' hq hx h => mt _ _ _ _ _ _ (fun ds M1 h1 => mo _ _ _ _ _ _ hq hx h1) hx h
theorem xkOf.of {K : PySem.W.Frag} {H F H1 F1 : Hp} {M M1 : Mp} {σ : St} {W : WX} (s : Step K H F M H1 F1 M1) {c : Str} {M' : Mp} (h : xOf K H F M σ W c M') : xkOf K H1 F1 M1 (WE W σ) c M' := fun H' F' s' => h H' F' (s.trans s')
variable {k : Nat} {g : Addr} {fd : FuncData} {ps : List Str} {op : AF}
theorem ae_call (G : FnOk X.prog X.w X.K X.mg X.base (L2N.CX X.prog X.w) k g fd ps (liftF X.K op)) (mo : MonoF op) (hr : Room k X.A) (hg : Gl X x) (hm : X.mg x = some (.ref g)) (hk : PySem.W.keepIn X.K (.ref g) = true) (hb : L2.Binds X.K fd ps []) (tk : L2N.Takes X W)
    (hdb : (x == ("__debug__" : Str)) = false) (ha : AAok X W (e :: es) t) : AEok X W (.Call (.Name x p) (e :: es) [] pos) (aCall op t) := by
  have hpl := ha.plain
  rw [List.all_cons, Bool.and_eq_true] at hpl
  refine ⟨aCall.mono mo ha.mono, pe_imp (pe_callS G hr hg hm hk hb (fun σ => L2N.passAt tk σ) ha.pa hdb (star_plain hpl.1) (star_none hpl.2)) ?_⟩
  rintro σ H Q ⟨F, ρ, M, r, he, q⟩
  refine ⟨F, ρ, M, r, he, ha.mono _ _ _ _ _ _ (fun ds M1 h1 => ?_) (fun c M1 h1 => h1) q⟩
  intro H1 F1 vs s1 r1
  exact ⟨F1, M1, ds, s1.r, r1, mo _ _ _ _ _ _ (fun d M' z => qOf.step s1 z) (fun c M' z => xkOf.of s1 z) h1⟩

/-! ### methods -/
theorem meth_eval (hp : plainO o = true) (hf : methodCallForm (es.length + ([] : List Keyword).length) (backTo pos (starEach es X.env)) (backToKw pos (keywordEach [] X.env)) = true) (hl : (apos.endLine == pos.line) = true) :
    eval (.Call (.Attribute o m apos) es [] pos) X.env = (do
      let ov ← eval o X.env
      standAt apos.atName
      let (f, first) ← holding [ov] (getMethod ov m (plainOf o X.env))
      callWith pos f first (backTo pos (starEach es X.env)) (backToKw pos (keywordEach [] X.env))) := by
  have h : eval (.Call (.Attribute o m apos) es [] pos) X.env = (do
      let ov ← attributeBase o m X.env (eval o X.env)
      standAt apos.atName
      methodCall o m apos pos X.env ov (es.length + ([] : List Keyword).length) (backTo pos (starEach es X.env)) (backToKw pos (keywordEach [] X.env))) := by rfl
  rw [h, base_plain hp]
  simp only [mcall_line hf hl]
theorem form_plain (h : es.all plainE = true) (hl : es.length < 29) : methodCallForm (es.length + ([] : List Keyword).length) (backTo pos (starEach es X.env)) (backToKw pos (keywordEach [] X.env)) = true := by
  have h1 : ∀ l : List (Bool × Sem Value), l.any (·.1) = false → l.all (fun x => !x.1) = true := fun l => by
    induction l with
    | nil => intro _; rfl
    | cons x l ih => intro q; rw [List.any_cons, Bool.or_eq_false_iff] at q; rw [List.all_cons, q.1, ih q.2] <;> rfl
  unfold methodCallForm
  rw [h1 _ (star_none h)]
  have : decide (es.length + ([] : List Keyword).length + (if (backToKw pos (keywordEach [] X.env)).isEmpty then 0 else 1) < 30) = true := decide_eq_true (by
    show es.length + 0 + 0 < 30
    omega)
  rw [this] <;> rfl
variable {cl : Addr} {sp : Sp} {tv : TE} {tA : TA}
def tMethS (C : Addr) (m : Str) (sp : Sp) (E : St → XK) (ta : TE) (t : TA) : TE := fun σ H Q => ta σ H fun x H1 => ∃ a dx fs, x = .ref a ∧ H1 a = some (.ins C dx fs) ∧ fs.lookup m = none ∧ t σ H1 fun vs H2 => sp (x :: vs) H2 Q (E σ)
theorem pe_methS {CX : CXT} {E : St → XK} (he : PE X o tv) (c : Cls X.K cl) (hm : Meth X.K cl m g) (G : FnOk X.prog X.w X.K X.mg X.base CX k g fd ps sp) (hr : Room k X.A) (hb : L2.Binds X.K fd ps []) (hx : ∀ σ, PassesAt CX X σ (E σ)) (ha : PA X (e :: es) tA)
    (hes : (e :: es).all plainE = true) (hl : (e :: es).length < 29) (hp : plainO o = true) (hline : (apos.endLine == pos.line) = true) :
    PE X (.Call (.Attribute o m apos) (e :: es) [] pos) (tMethS cl m sp E tv tA) := by
  refine ⟨fun pins s σ H Q I h => ?_⟩
  refine PySem.W.methodCall_KW (pl := plainOf o X.env) (thn (he.run pins s σ H _ I h) fun u s1 ⟨x, H1, I1, rx, a, dx, fs, ex, ea, l, q⟩ => ?_) (meth_eval hp (form_plain hes hl) hline)
  subst ex
  obtain rfl : u = Value.ref a := rx
  refine getmeth_ok I1 ea c hm l ?_
  rw [List.all_cons, Bool.and_eq_true] at hes
  refine PySem.W.callWith_K (first := [.ref a]) (h₀ := X.base) I.ok.mod.kin hm.kp (thn (ha.run pos pins s1 σ H1 _ I1 q) fun us s2 ⟨vs, H2, I2, r, q2⟩ => ⟨I2.kIn, ?_⟩) (star_plain hes.1) (star_none hes.2)
  exact run_fnS (us := .ref a :: us) (vs := .ref a :: vs) G hr hb (hx σ) I2 (.cons rfl r) q2
theorem pe_meth0S {CX : CXT} {E : St → XK} (he : PE X o tv) (c : Cls X.K cl) (hm : Meth X.K cl m g) (G : FnOk X.prog X.w X.K X.mg X.base CX k g fd ps sp) (hr : Room k X.A) (hb : L2.Binds X.K fd ps []) (hx : ∀ σ, PassesAt CX X σ (E σ))
    (hp : plainO o = true) (hline : (apos.endLine == pos.line) = true) :
    PE X (.Call (.Attribute o m apos) [] [] pos) (tMethS cl m sp E tv tNil) := by
  refine ⟨fun pins s σ H Q I h => ?_⟩
  refine PySem.W.methodCall_KW (pl := plainOf o X.env) (thn (he.run pins s σ H _ I h) fun u s1 ⟨x, H1, I1, rx, a, dx, fs, ex, ea, l, q⟩ => ?_) (meth_eval hp (form_plain rfl (by decide)) hline)
  subst ex
  obtain rfl : u = Value.ref a := rx
  refine getmeth_ok I1 ea c hm l ?_
  exact PySem.W.callWith_K0 (first := [.ref a]) I1.kIn hm.kp (run_fnS (us := [.ref a]) (vs := [.ref a]) G hr hb (hx σ) I1 (.cons rfl .nil) q)
def aMeth (c m : Str) (op : AF) (ta : AE) (t : AA) : AE := fun ρ M Q X => ta ρ M (fun x M1 => ∃ a fs, insOf c x M1 = some (a, fs) ∧ fs.lookup m = none ∧ t ρ M1 (fun ds M2 => op (x :: ds) M2 Q X) X) X
theorem aMeth.mono (mo : MonoF op) (ma : MonoE ta) (mt : MonoA t) : MonoE (aMeth c m op ta t) := fun ρ M Q Q' X X' hq hx h =>
  ma _ _ _ _ _ _ (fun x M1 ⟨a, fs, h1, h2, h3⟩ => ⟨a, fs, h1, h2, mt _ _ _ _ _ _ (fun ds M2 h4 => mo _ _ _ _ _ _ hq hx h4) hx h3⟩) hx h
theorem ae_meth (hc : Cls X.K (He.ga X.K c)) (hm : Meth X.K (He.ga X.K c) m g) (G : FnOk X.prog X.w X.K X.mg X.base (L2N.CX X.prog X.w) k g fd ps (liftF X.K op)) (mo : MonoF op) (hr : Room k X.A) (hb : L2.Binds X.K fd ps []) (tk : L2N.Takes X W)
    (ho : AEok X W o ta) (ha : AAok X W (e :: es) t) (hl : (e :: es).length < 29) (hp : plainO o = true) (hline : (apos.endLine == pos.line) = true) : AEok X W (.Call (.Attribute o m apos) (e :: es) [] pos) (aMeth c m op ta t) := by
  refine ⟨aMeth.mono mo ho.mono ha.mono, pe_imp (pe_methS ho.pe hc hm G hr hb (fun σ => L2N.passAt tk σ) ha.pa ha.plain hl hp hline) ?_⟩
  rintro σ H Q ⟨F, ρ, M, r, he, q⟩
  refine ⟨F, ρ, M, r, he, ho.mono _ _ _ _ _ _ (fun x M1 ⟨a, fs, h1, h2, h3⟩ => ?_) (fun c M1 h1 => h1) q⟩
  intro H1 F1 v s1 r1
  obtain ⟨e1, hM, dx, gs, hH, g1, g2⟩ := insOf_ok s1.r r1 h1
  have lk := look_ok m g1 g2
  rw [h2] at lk
  refine ⟨a, dx, gs, e1, hH, lk, F1, ρ, M1, s1.r, he.up s1.sub, ha.mono _ _ _ _ _ _ (fun ds M2 h4 => ?_) (fun c M2 h4 => h4.step s1) h3⟩
  intro H2 F2 vs s2 r2
  exact ⟨F2, M2, x :: ds, s2.r, Reps.cons (Rep.up s2.sub _ r1) r2, mo _ _ _ _ _ _ (fun d M' z => qOf.step (s1.trans s2) z) (fun c M' z => xkOf.of (s1.trans s2) z) h4⟩

theorem ae_meth0 (hc : Cls X.K (He.ga X.K c)) (hm : Meth X.K (He.ga X.K c) m g) (G : FnOk X.prog X.w X.K X.mg X.base (L2N.CX X.prog X.w) k g fd ps (liftF X.K op)) (mo : MonoF op) (hr : Room k X.A) (hb : L2.Binds X.K fd ps []) (tk : L2N.Takes X W)
    (ho : AEok X W o ta) (hp : plainO o = true) (hline : (apos.endLine == pos.line) = true) : AEok X W (.Call (.Attribute o m apos) [] [] pos) (aMeth c m op ta aNil) := by
  refine ⟨aMeth.mono mo ho.mono (fun _ _ _ _ _ _ h _ q => h _ _ q), pe_imp (pe_meth0S ho.pe hc hm G hr hb (fun σ => L2N.passAt tk σ) hp hline) ?_⟩
  rintro σ H Q ⟨F, ρ, M, r, he, q⟩
  refine ⟨F, ρ, M, r, he, ho.mono _ _ _ _ _ _ (fun x M1 ⟨a, fs, h1, h2, h3⟩ => ?_) (fun c M1 h1 => h1) q⟩
  intro H1 F1 v s1 r1
  obtain ⟨e1, hM, dx, gs, hH, g1, g2⟩ := insOf_ok s1.r r1 h1
  have lk := look_ok m g1 g2
  rw [h2] at lk
  exact ⟨a, dx, gs, e1, hH, lk, F1, M1, [x], s1.r, Reps.cons r1 Reps.nil, mo _ _ _ _ _ _ (fun d M' z => qOf.step s1 z) (fun c M' z => xkOf.of s1 z) h3⟩

/-! ### a new instance -/
def tMakeS (C : Addr) (sp : Sp) (E : St → XK) (t : TA) : TE := fun σ H Q => t σ H fun vs H1 => ∀ x dx, H1 x = none → H1 dx = none → dx ≠ x →
  sp (.ref x :: vs) (upd (upd H1 dx (.own x)) x (.ins C dx [])) (fun v H2 => v = .non ∧ Q (.ref x) H2) (E σ)
theorem pe_makeS {CX : CXT} {E : St → XK} (Mk' : Mk X.K cl g) (G : FnOk X.prog X.w X.K X.mg X.base CX k g fd ps sp) (hr : Room (k + 1) X.A) (hg : Gl X x) (hm : X.mg x = some (.ref cl)) (hb : L2.Binds X.K fd ps []) (hx : ∀ (σ : St) (pins : List (Addr × Obj)) (H : Hp) (s : Shared) (e : Value) (s' : Shared), Inv X pins σ H s → CX X.stack H s (E σ) e s' → X.xe e s')
    (ha : PA X (e :: es) tA) (hdb : (x == ("__debug__" : Str)) = false) (he : starEach (e :: es) X.env = (false, eval e X.env) :: starEach es X.env) (hpl : (backTo pos (starEach es X.env)).any (·.1) = false) :
    PE X (.Call (.Name x p) (e :: es) [] pos) (tMakeS cl sp E tA) := by
  refine ⟨fun pins s σ H Q I h => ?_⟩
  refine wpAny_Call_Name_kw (ld_glob I hg hm ?_ hdb)
  refine PySem.W.callWith_K (h₀ := X.base) I.ok.mod.kin Mk'.kp (thn (ha.run pos pins s σ H _ I h) fun us s1 ⟨vs, H1, I1, r, q⟩ => ⟨I1.kIn, ?_⟩) he hpl
  have hq := q (s1.heap.objs.size + 1) s1.heap.objs.size (I1.hok.fresh (Nat.le_succ _)) (I1.hok.fresh (Nat.le_refl _)) (Nat.ne_of_lt (Nat.lt_succ_self _))
  have I2 := Inv.made (C := cl) I1
  have r2 : Vals (V.ref (s1.heap.objs.size + 1) :: vs) (Value.ref (s1.heap.objs.size + 1) :: us) := .cons rfl r
  have hl : (Value.ref (s1.heap.objs.size + 1) :: us).length = ps.length := by
    have e := r2.length
    rw [G.len _ _ _ _ hq] at e
    exact e.symm
  have b := hb _ (Value.ref (s1.heap.objs.size + 1) :: us) I2.kIn (by rw [List.append_nil]; exact hl)
  rw [List.append_nil] at b
  refine wpAny_call (make_map (f := g) I1.kIn Mk'.makes Mk'.init (beq_iff_eq.mp Mk'.fn) (codeAny_mono (G.run _ X.stack _ _ ⟨Value.ref (s1.heap.objs.size + 1) :: us, []⟩ (Value.ref (s1.heap.objs.size + 1) :: us) _ _ (E σ) (hr.make cl us [])
    (I2.env0.make cl us []) b r2 hq) fun r s' hq' => ?_))
  cases r with
  | error e => exact hx σ pins _ _ e s' I2 hq'
  | ok fl =>
    cases fl with
    | ret u =>
      obtain ⟨v, H', I3, rv, ev, q3⟩ := I2.after hq'
      subst ev
      exact ⟨rv, ⟨V.ref (s1.heap.objs.size + 1), H', I3, rfl, q3⟩⟩
    | next => exact False.elim hq'
    | brk => exact False.elim hq'
    | cont => exact False.elim hq'
def aNew (c : Str) (op : AF) (t : AA) : AE := fun ρ M Q X => t ρ M (fun ds M1 => ∀ a, M1 a = none → op (.ref a :: ds) (mset M1 a (.ins c [])) (fun d M2 => d = .non ∧ Q (.ref a) M2) X) X
theorem aNew.mono (mo : MonoF op) (mt : MonoA t) : MonoE (aNew c op t) := fun ρ M Q Q' X X' hq hx h =>
  mt _ _ _ _ _ _ (fun ds M1 h1 a ha => mo _ _ _ _ _ _ (fun d M' ⟨e, z⟩ => ⟨e, hq _ _ z⟩) hx (h1 a ha)) hx h
theorem rep_non_v {K : PySem.W.Frag} {F : Hp} {v : V} (h : Rep K F .non v) : v = .non := h
theorem ae_new (Mk' : Mk X.K (He.ga X.K c) g) (G : FnOk X.prog X.w X.K X.mg X.base (L2N.CX X.prog X.w) k g fd ps (liftF X.K op)) (mo : MonoF op) (hr : Room (k + 1) X.A) (hg : Gl X c) (hm : X.mg c = some (.ref (He.ga X.K c))) (hb : L2.Binds X.K fd ps []) (tk : L2N.Takes X W)
    (hdb : (c == ("__debug__" : Str)) = false) (ha : AAok X W (e :: es) t) : AEok X W (.Call (.Name c p) (e :: es) [] pos) (aNew c op t) := by
  have hpl := ha.plain
  rw [List.all_cons, Bool.and_eq_true] at hpl
  refine ⟨aNew.mono mo ha.mono, pe_imp (pe_makeS Mk' G hr hg hm hb (fun σ pins H s e s' I cc => L2N.passAt tk σ pins H s e s' I cc) ha.pa hdb (star_plain hpl.1) (star_none hpl.2)) ?_⟩
  rintro σ H Q ⟨F, ρ, M, r, he, q⟩
  refine ⟨F, ρ, M, r, he, ha.mono _ _ _ _ _ _ (fun ds M1 h1 => ?_) (fun c M1 h1 => h1) q⟩
  intro H1 F1 vs s1 r1 x dx hx hdx hne
  have h2 := h1 x (s1.r.fresh hx).1
  -- its own dict, then itself
  have sa : Step X.K H1 F1 M1 (upd H1 dx (.own x)) F1 M1 := by
    refine ⟨Same.refl _, ⟨fun a u z => ?_, s1.r.dis, fun a u z => (s1.r.rep a u z).up (Same.refl _) fun u h => by rw [upd_ne (ne_of_none h hdx)]; exact h⟩, fun a u z n => ⟨by rw [upd_ne (ne_of_none z hdx)]; exact z, n⟩, fun a u z f n => f⟩
    have z' := s1.r.sub a u z
    rw [upd_ne (ne_of_none z' hdx)]; exact z'
  have hx2 : upd H1 dx (.own x) x = none := by rw [upd_ne (Ne.symm hne)]; exact hx
  have sb : Step X.K (upd H1 dx (.own x)) F1 M1 (upd (upd H1 dx (.own x)) x (.ins (He.ga X.K c) dx [])) F1 (mset M1 x (.ins c [])) :=
    Step.mut sa.r hx2 ⟨dx, [], upd_same, rfl, Reps.nil⟩
  have st := sa.trans sb
  refine ⟨F1, mset M1 x (.ins c []), .ref x :: ds, sb.r, Reps.cons rfl r1, mo _ _ _ _ _ _ (fun d M' z => ?_) (fun c M' z => xkOf.of (s1.trans st) z) h2⟩
  intro H' F' v s' rv
  obtain ⟨e1, z⟩ := z
  subst e1
  exact ⟨rep_non_v rv, z _ _ _ ((s1.trans st).trans s') rfl⟩
end
end TT
set_option Elab.async false
set_option linter.all false
set_option maxRecDepth 100000
set_option maxHeartbeats 2000000
/-! TH: names, constants, tests. -/
namespace TT
open PySem PySem.Spec PyProof.Rows L2

def getV (ρ : Env) (i : Nat) : Option D := match ρ[i]? with
  | some (some d) => some d
  | _ => none
def aVar (i : Nat) : AE := fun ρ M Q _ => match getV ρ i with
  | some d => Q d M
  | none => False
def aCon (d : D) : AE := fun _ M Q _ => Q d M
theorem aVar.mono {i : Nat} : MonoE (aVar i) := fun ρ M Q Q' X X' hq _ h => by
  unfold aVar at *; split at h
  · exact hq _ _ h
  · exact h
theorem aCon.mono {d : D} : MonoE (aCon d) := fun ρ M Q Q' X X' hq _ h => hq _ _ h
section
variable {X : Cx} {W : WX} {x : Str} {pos : Pos} {i : Nat}
theorem ae_var (hN : X.N[i]? = some x) (hv : Vis X.env.scope x) (hd : (x == ("__debug__" : Str)) = false) (hcd : (x == ("__classdict__" : Str)) = false) : AEok X W (.Name x pos) (aVar i) := by
  refine ⟨aVar.mono, pe_imp (pe_var hN hv hd hcd) ?_⟩
  rintro σ H Q ⟨F, ρ, M, r, he, q⟩
  unfold aVar getV at q
  split at q
  · rename_i d e
    split at e
    · rename_i d' e'; cases e
      obtain ⟨v, h1, h2⟩ := he.2 i _ e'
      exact ⟨v, h1, q.here r h2⟩
    · cases e
  · exact q.elim
/-- a constant, as written, or of the module -/
theorem ae_con {e : Expr} {v : V} {d : D} (h : PE X e (tC v)) (hr : ∀ F, Rep X.K F d v) : AEok X W e (aCon d) := by
  refine ⟨aCon.mono, pe_imp h ?_⟩
  rintro σ H Q ⟨F, ρ, M, r, he, q⟩
  exact qOf.here r q (hr F)
end

/-! ### tests -/
abbrev AT := Env → Mp → (Bool → Mp → Prop) → KX → Prop
def bq (Q : Bool → Mp → Prop) : KQ := fun d M => match d with
  | .bl b => Q b M
  | _ => False
def tOf (ta : AE) : AT := fun ρ M Q X => ta ρ M (bq Q) X
theorem bq.mono {Q Q' : Bool → Mp → Prop} (h : ∀ b M, Q b M → Q' b M) {d : D} {M : Mp} (q : bq Q d M) : bq Q' d M := by
  unfold bq at *; split at q
  · exact h _ _ q
  · exact q
theorem tOf.mono {ta : AE} (ma : MonoE ta) {ρ : Env} {M : Mp} {Q Q' : Bool → Mp → Prop} {X X' : KX} (hq : ∀ b M', Q b M' → Q' b M') (hx : ∀ c M', X c M' → X' c M') (h : tOf ta ρ M Q X) : tOf ta ρ M Q' X' := ma _ _ _ _ _ _ (fun d M' z => bq.mono hq z) hx h
def tqOf (K : PySem.W.Frag) (H F : Hp) (M : Mp) (Q : Bool → Hp → Prop) : Bool → Mp → Prop := fun b M' => ∀ H' F', Step K H F M H' F' M' → Q b H'
def liftT (K : PySem.W.Frag) (t : AT) (W : WX) : TT := fun σ H Q => ∃ F ρ M, R K H F M ∧ EnvR K F ρ σ ∧ t ρ M (tqOf K H F M Q) (xOf K H F M σ W)
theorem tqOf.step {K : PySem.W.Frag} {H F H1 F1 : Hp} {M M1 : Mp} {Q : Bool → Hp → Prop} (s : Step K H F M H1 F1 M1) {b : Bool} {M' : Mp} (h : tqOf K H F M Q b M') : tqOf K H1 F1 M1 Q b M' := fun H' F' s' => h H' F' (s.trans s')
theorem pt_imp {X : Cx} {e : Expr} {t t' : TT} (h : PT X e t) (i : ∀ σ H Q, t' σ H Q → t σ H Q) : PT X e t' := ⟨fun pins s σ H Q I q => h.run pins s σ H Q I (i _ _ _ q)⟩
theorem pw_imp {X : Cx} {e : Expr} {t t' : TT} (h : PW X e t) (i : ∀ σ H Q, t' σ H Q → t σ H Q) : PW X e t' := ⟨fun wh pins s σ H Q I q => h.run wh pins s σ H Q I (i _ _ _ q)⟩
theorem bq_val {K : PySem.W.Frag} {H F H' F' : Hp} {M M' : Mp} {Q : Bool → Hp → Prop} {d : D} {v : V} (h : bq (tqOf K H F M Q) d M') (s : Step K H F M H' F' M') (r : Rep K F' d v) : ∃ k, v = .bl k ∧ Q k H' := by
  unfold bq at h; split at h
  · exact ⟨_, r, h _ _ s⟩
  · exact h.elim
structure Both (X : Cx) (W : WX) (e : Expr) (t : AE) : Prop where
  ae : AEok X W e t
  pt : PT X e (liftT X.K (tOf t) W)
def plainT : Expr → Bool
  | .UnaryOp .Not _ _ => false
  | .BoolOp .. => false
  | .IfExp .. => false
  | .Compare .. => false
  | _ => true
theorem isTrue_plainT {e : Expr} {env : PySem.Env} (h : plainT e = true) (whole : Sem Value) : isTrue e env whole = (do let v ← whole; standAt e.pos; holding [v] (truthy v)) := by
  cases e with
  | UnaryOp op x p => cases op <;> first | rfl | cases h
  | BoolOp => cases h
  | IfExp => cases h
  | Compare => cases h
  | _ => rfl
section
variable {X : Cx} {W : WX} {a b c e : Expr} {es : List Expr} {ta tb tc : AE} {pos : Pos}
theorem both_of (h : plainT e = true) (ha : AEok X W e ta) : Both X W e ta := by
  refine ⟨ha, pt_imp (pt_val ha.pe (isTrue_plainT h)) ?_⟩
  rintro σ H Q ⟨F, ρ, M, r, he, q⟩
  refine ⟨F, ρ, M, r, he, ha.mono _ _ _ _ _ _ (fun d M1 h1 => ?_) (fun c M1 h1 => h1) q⟩
  intro H1 F1 v s1 r1
  obtain ⟨k, e1, q1⟩ := bq_val h1 s1 r1
  exact ⟨k, e1, q1⟩
theorem both_cmp {op : CmpOp} {o : AO2} (ho : OpR X (compareOp op) (liftO2 X.K o)) (mo : MonoO2 o) (ha : AEok X W a ta) (hb : AEok X W b tb) (hm : behindInMarks op b = false) : Both X W (.Compare a [op] [b] pos) (aBin o ta tb) := by
  refine ⟨ae_cmp ho mo ha hb hm, pt_imp (pt_cmpR ho ha.pe hb.pe hm) ?_⟩
  rintro σ H Q ⟨F, ρ, M, r, he, q⟩
  refine lift_bin mo ha.mono hb.mono σ H _ ⟨F, ρ, M, r, he, (aBin.mono mo ha.mono hb.mono) _ _ _ _ _ _ (fun d M1 h1 => ?_) (fun c M1 h1 => h1) q⟩
  intro H1 F1 v s1 r1
  exact bq_val h1 s1 r1
/-! #### chains -/
def chQ (o : AO2) (y : D) (tc : AE) (ρ : Env) (Q : KQ) (X : KX) : KQ := fun z M3 => match z with
  | .bl true => tc ρ M3 (fun w' M4 => o y w' M4 Q) X
  | .bl false => Q (.bl false) M3
  | _ => False
def aChn (o o' : AO2) (ta tb tc : AE) : AE := fun ρ M Q X => ta ρ M (fun x M1 => tb ρ M1 (fun y M2 => o x y M2 (chQ o' y tc ρ Q X)) X) X
theorem chQ.mono {o : AO2} {y : D} {ρ : Env} {Q Q' : KQ} {X X' : KX} (mo : MonoO2 o) (mc : MonoE tc) (hq : ∀ d M', Q d M' → Q' d M') (hx : ∀ c M', X c M' → X' c M') {z : D} {M : Mp} (h : chQ o y tc ρ Q X z M) : chQ o y tc ρ Q' X' z M := by
  unfold chQ at *; split at h
  · exact mc _ _ _ _ _ _ (fun w' M4 h4 => mo _ _ _ _ _ hq h4) hx h
  · exact hq _ _ h
  · exact h
theorem lift_chn {o o' : AO2} (mo : MonoO2 o) (mo' : MonoO2 o') (ma : MonoE ta) (mb : MonoE tb) (mc : MonoE tc) : ∀ σ H Q, liftE X.K (aChn o o' ta tb tc) W σ H Q → tChain (liftO2 X.K o) (liftO2 X.K o') (liftE X.K ta W) (liftE X.K tb W) (liftE X.K tc W) σ H Q := by
  rintro σ H Q ⟨F, ρ, M, r, he, q⟩
  refine ⟨F, ρ, M, r, he, ma _ _ _ _ _ _ (fun x M1 h1 => ?_) (fun c M1 h1 => h1) q⟩
  intro H1 F1 v s1 r1
  refine ⟨F1, ρ, M1, s1.r, he.up s1.sub, mb _ _ _ _ _ _ (fun y M2 h2 => ?_) (fun c M2 h2 => h2.step s1) h1⟩
  intro H2 F2 u s2 r2
  refine ⟨F2, M2, x, y, s2.r, Rep.up s2.sub _ r1, r2, mo _ _ _ _ _ (fun z M3 h3 => ?_) h2⟩
  intro H3 F3 z' s3 r3
  have s13 := (s1.trans s2).trans s3
  unfold chQ at h3; split at h3
  · refine ⟨true, r3, ?_⟩
    rw [if_pos rfl]
    refine ⟨F3, ρ, M3, s3.r, he.up s13.sub, mc _ _ _ _ _ _ (fun w' M4 h4 => ?_) (fun c M4 h4 => h4.step s13) h3⟩
    intro H4 F4 w4 s4 r4
    exact ⟨F4, M4, y, w', s4.r, Rep.up (s3.sub.trans s4.sub) _ r2, r4, mo' _ _ _ _ _ (fun d M' z => qOf.step (s13.trans s4) z) h4⟩
  · refine ⟨false, r3, ?_⟩
    rw [if_neg Bool.false_ne_true]
    exact (h3.step s13).here s3.r rfl
  · exact h3.elim
theorem aChn.mono {o o' : AO2} (mo : MonoO2 o) (mo' : MonoO2 o') (ma : MonoE ta) (mb : MonoE tb) (mc : MonoE tc) : MonoE (aChn o o' ta tb tc) := fun ρ M Q Q' X X' hq hx h =>
  ma _ _ _ _ _ _ (fun x M1 h1 => mb _ _ _ _ _ _ (fun y M2 h2 => mo _ _ _ _ _ (fun d M' z => chQ.mono mo' mc hq hx z) h2) hx h1) hx h
theorem both_chn {op op' : CmpOp} {o o' : AO2} (ho : OpR X (compareOp op) (liftO2 X.K o)) (ho' : OpR X (compareOp op') (liftO2 X.K o')) (mo : MonoO2 o) (mo' : MonoO2 o') (ha : AEok X W a ta) (hb : AEok X W b tb) (hc : AEok X W c tc) (hm : lastMarks [op, op'] [b, c] = false) :
    Both X W (.Compare a [op, op'] [b, c] pos) (aChn o o' ta tb tc) := by
  refine ⟨⟨aChn.mono mo mo' ha.mono hb.mono hc.mono, pe_imp (pe_chain ho ho' ha.pe hb.pe hc.pe hm) (lift_chn mo mo' ha.mono hb.mono hc.mono)⟩, pt_imp (pt_chain ho ho' ha.pe hb.pe hc.pe hm) ?_⟩
  rintro σ H Q ⟨F, ρ, M, r, he, q⟩
  refine lift_chn mo mo' ha.mono hb.mono hc.mono σ H _ ⟨F, ρ, M, r, he, (aChn.mono mo mo' ha.mono hb.mono hc.mono) _ _ _ _ _ _ (fun d M1 h1 => ?_) (fun c M1 h1 => h1) q⟩
  intro H1 F1 v s1 r1
  exact bq_val h1 s1 r1
/-! #### and, or, not -/
def andQ (tb : AE) (ρ : Env) (Q : KQ) (X : KX) : KQ := fun x M1 => match x with
  | .bl true => tb ρ M1 Q X
  | .bl false => Q (.bl false) M1
  | _ => False
def orQ (tb : AE) (ρ : Env) (Q : KQ) (X : KX) : KQ := fun x M1 => match x with
  | .bl true => Q (.bl true) M1
  | .bl false => tb ρ M1 Q X
  | _ => False
def notQ (Q : KQ) : KQ := fun x M1 => match x with
  | .bl b => Q (.bl (!b)) M1
  | _ => False
def aAnd (ta tb : AE) : AE := fun ρ M Q X => ta ρ M (andQ tb ρ Q X) X
def aOr (ta tb : AE) : AE := fun ρ M Q X => ta ρ M (orQ tb ρ Q X) X
def aNot (ta : AE) : AE := fun ρ M Q X => ta ρ M (notQ Q) X
theorem andQ.mono {ρ : Env} {Q Q' : KQ} {X X' : KX} (mb : MonoE tb) (hq : ∀ d M', Q d M' → Q' d M') (hx : ∀ c M', X c M' → X' c M') {z : D} {M : Mp} (h : andQ tb ρ Q X z M) : andQ tb ρ Q' X' z M := by
  unfold andQ at *; split at h
  · exact mb _ _ _ _ _ _ hq hx h
  · exact hq _ _ h
  · exact h
theorem orQ.mono {ρ : Env} {Q Q' : KQ} {X X' : KX} (mb : MonoE tb) (hq : ∀ d M', Q d M' → Q' d M') (hx : ∀ c M', X c M' → X' c M') {z : D} {M : Mp} (h : orQ tb ρ Q X z M) : orQ tb ρ Q' X' z M := by
  unfold orQ at *; split at h
  · exact hq _ _ h
  · exact mb _ _ _ _ _ _ hq hx h
  · exact h
theorem notQ.mono {Q Q' : KQ} (hq : ∀ d M', Q d M' → Q' d M') {z : D} {M : Mp} (h : notQ Q z M) : notQ Q' z M := by
  unfold notQ at *; split at h
  · exact hq _ _ h
  · exact h
theorem aAnd.mono (ma : MonoE ta) (mb : MonoE tb) : MonoE (aAnd ta tb) := fun ρ M Q Q' X X' hq hx h => ma _ _ _ _ _ _ (fun d M' z => andQ.mono mb hq hx z) hx h
theorem aOr.mono (ma : MonoE ta) (mb : MonoE tb) : MonoE (aOr ta tb) := fun ρ M Q Q' X X' hq hx h => ma _ _ _ _ _ _ (fun d M' z => orQ.mono mb hq hx z) hx h
theorem aNot.mono (ma : MonoE ta) : MonoE (aNot ta) := fun ρ M Q Q' X X' hq hx h => ma _ _ _ _ _ _ (fun d M' z => notQ.mono hq z) hx h
theorem both_not (h : Both X W a ta) : Both X W (.UnaryOp .Not a pos) (aNot ta) := by
  refine ⟨⟨aNot.mono h.ae.mono, pe_imp (pe_not h.ae.pe) ?_⟩, pt_imp (pt_not h.pt) ?_⟩
  · rintro σ H Q ⟨F, ρ, M, r, he, q⟩
    refine ⟨F, ρ, M, r, he, h.ae.mono _ _ _ _ _ _ (fun d M1 h1 => ?_) (fun c M1 h1 => h1) q⟩
    intro H1 F1 v s1 r1
    unfold notQ at h1; split at h1
    · exact ⟨_, r1, h1 _ _ _ s1 rfl⟩
    · exact h1.elim
  · rintro σ H Q ⟨F, ρ, M, r, he, q⟩
    refine ⟨F, ρ, M, r, he, h.ae.mono _ _ _ _ _ _ (fun d M1 h1 => ?_) (fun c M1 h1 => h1) q⟩
    unfold notQ at h1; split at h1
    · exact fun H1 F1 s1 => h1 _ _ s1
    · exact h1.elim
structure BoolOk (X : Cx) (W : WX) (op : BoolOp) (es : List Expr) (pos : Pos) (t : AE) : Prop where
  ae : AEok X W (.BoolOp op es pos) t
  pw : PW X (.BoolOp op es pos) (liftT X.K (tOf t) W)
theorem bool_one {op : BoolOp} (h : Both X W a ta) : BoolOk X W op [a] pos ta := by
  refine ⟨⟨h.ae.mono, pe_one h.ae.pe⟩, ?_⟩
  cases op
  · exact pw_and1 h.pt
  · exact pw_or1 h.pt
theorem bool_and (ha : Both X W a ta) (hb : BoolOk X W .And (b :: es) pos tb) : BoolOk X W .And (a :: b :: es) pos (aAnd ta tb) := by
  refine ⟨⟨aAnd.mono ha.ae.mono hb.ae.mono, pe_imp (pe_and ha.ae.pe hb.ae.pe) ?_⟩, pw_imp (pw_and ha.pt hb.pw) ?_⟩
  · rintro σ H Q ⟨F, ρ, M, r, he, q⟩
    refine ⟨F, ρ, M, r, he, ha.ae.mono _ _ _ _ _ _ (fun d M1 h1 => ?_) (fun c M1 h1 => h1) q⟩
    intro H1 F1 v s1 r1
    unfold andQ at h1; split at h1
    · exact ⟨true, r1, by rw [if_pos rfl]; exact ⟨F1, ρ, M1, s1.r, he.up s1.sub, hb.ae.mono _ _ _ _ _ _ (fun d M' z => qOf.step s1 z) (fun c M' z => xOf.step s1 z) h1⟩⟩
    · exact ⟨false, r1, by rw [if_neg Bool.false_ne_true]; exact h1 _ _ _ s1 rfl⟩
    · exact h1.elim
  · rintro σ H Q ⟨F, ρ, M, r, he, q⟩
    refine ⟨F, ρ, M, r, he, ha.ae.mono _ _ _ _ _ _ (fun d M1 h1 => ?_) (fun c M1 h1 => h1) q⟩
    unfold andQ at h1; split at h1
    · intro H1 F1 s1
      rw [if_pos rfl]
      exact ⟨F1, ρ, M1, s1.r, he.up s1.sub, hb.ae.mono _ _ _ _ _ _ (fun d M' z => bq.mono (fun b M2 y => tqOf.step s1 y) z) (fun c M' z => xOf.step s1 z) h1⟩
    · intro H1 F1 s1
      rw [if_neg Bool.false_ne_true]
      exact h1 _ _ s1
    · exact h1.elim
theorem bool_or (ha : Both X W a ta) (hb : BoolOk X W .Or (b :: es) pos tb) : BoolOk X W .Or (a :: b :: es) pos (aOr ta tb) := by
  refine ⟨⟨aOr.mono ha.ae.mono hb.ae.mono, pe_imp (pe_or ha.ae.pe hb.ae.pe) ?_⟩, pw_imp (pw_or ha.pt hb.pw) ?_⟩
  · rintro σ H Q ⟨F, ρ, M, r, he, q⟩
    refine ⟨F, ρ, M, r, he, ha.ae.mono _ _ _ _ _ _ (fun d M1 h1 => ?_) (fun c M1 h1 => h1) q⟩
    intro H1 F1 v s1 r1
    unfold orQ at h1; split at h1
    · exact ⟨true, r1, by rw [if_pos rfl]; exact h1 _ _ _ s1 rfl⟩
    · exact ⟨false, r1, by rw [if_neg Bool.false_ne_true]; exact ⟨F1, ρ, M1, s1.r, he.up s1.sub, hb.ae.mono _ _ _ _ _ _ (fun d M' z => qOf.step s1 z) (fun c M' z => xOf.step s1 z) h1⟩⟩
    · exact h1.elim
  · rintro σ H Q ⟨F, ρ, M, r, he, q⟩
    refine ⟨F, ρ, M, r, he, ha.ae.mono _ _ _ _ _ _ (fun d M1 h1 => ?_) (fun c M1 h1 => h1) q⟩
    unfold orQ at h1; split at h1
    · intro H1 F1 s1
      rw [if_pos rfl]
      exact h1 _ _ s1
    · intro H1 F1 s1
      rw [if_neg Bool.false_ne_true]
      exact ⟨F1, ρ, M1, s1.r, he.up s1.sub, hb.ae.mono _ _ _ _ _ _ (fun d M' z => bq.mono (fun b M2 y => tqOf.step s1 y) z) (fun c M' z => xOf.step s1 z) h1⟩
    · exact h1.elim
theorem BoolOk.both {op : BoolOp} (h : BoolOk X W op es pos ta) : Both X W (.BoolOp op es pos) ta := ⟨h.ae, h.pw.pt⟩
/-! #### a minus sign -/
def negO (x : D) (M : Mp) (Q : KQ) : Prop := match x with
  | .int i => Q (.int (-i)) M
  | _ => False
theorem negO.mono {x : D} {M : Mp} {Q Q' : KQ} (h : ∀ d M', Q d M' → Q' d M') (q : negO x M Q) : negO x M Q' := by
  unfold negO at *; split at q
  · exact h _ _ q
  · exact q
theorem ae_neg (ha : AEok X W a ta) : AEok X W (.UnaryOp .USub a pos) (aUn negO ta) := by
  refine ⟨aUn.mono (fun _ _ _ _ => negO.mono) ha.mono, pe_imp (pe_un un_neg ha.pe) ?_⟩
  rintro σ H Q ⟨F, ρ, M, r, he, q⟩
  refine ⟨F, ρ, M, r, he, ha.mono _ _ _ _ _ _ (fun d M1 h1 => ?_) (fun c M1 h1 => h1) q⟩
  intro H1 F1 v s1 r1
  unfold negO at h1; split at h1
  · exact ⟨_, r1, (h1.step s1).here s1.r rfl⟩
  · exact h1.elim
end
end TT
set_option Elab.async false
set_option linter.all false
set_option maxRecDepth 100000
set_option maxHeartbeats 2000000
/-! TI: what is walked, targets. -/
namespace TT
open PySem PySem.Spec PyProof.Rows L2

/-- an iterator walks these data, as long as G -/
structure Walks' (K : PySem.W.Frag) (F0 : Hp) (J : It) (ds : List D) (G : Mp → Prop) : Prop where
  go : ∀ i H F M, Same F0 F → R K H F M → G M → i < ds.length → J.go i H ∧ ∀ x H', J.yld i H x H' → ∃ F' d, ds[i]? = some d ∧ Step K H F M H' F' M ∧ Rep K F' d x
  stop : ∀ H F M, Same F0 F → R K H F M → G M → J.stop ds.length H
abbrev AI := Env → Mp → (List D → (Mp → Prop) → Mp → Prop) → KX → Prop
def MonoI (t : AI) : Prop := ∀ ρ M (Q Q' : List D → (Mp → Prop) → Mp → Prop) (X X' : KX), (∀ ds G M', Q ds G M' → Q' ds G M') → (∀ c M', X c M' → X' c M') → t ρ M Q X → t ρ M Q' X'
def iqOf (K : PySem.W.Frag) (H F : Hp) (M : Mp) (Rc : It → Hp → Prop) : List D → (Mp → Prop) → Mp → Prop := fun ds G M1 => ∀ H1 F1 J, Step K H F M H1 F1 M1 → Walks' K F1 J ds G → Rc J H1
def liftI (K : PySem.W.Frag) (t : AI) (W : WX) : TI := fun σ H Rc => ∃ F ρ M, R K H F M ∧ EnvR K F ρ σ ∧ t ρ M (iqOf K H F M Rc) (xOf K H F M σ W)
structure AIok (X : Cx) (W : WX) (tg iter : Expr) (t : AI) : Prop where
  mono : MonoI t
  pi : PI X tg iter (liftI X.K t W)
theorem pi_imp {X : Cx} {tg iter : Expr} {t t' : TI} (h : PI X tg iter t) (i : ∀ σ H Q, t' σ H Q → t σ H Q) : PI X tg iter t' := ⟨fun pins s σ H Q I q => h.run pins s σ H Q I (i _ _ _ q)⟩
def chrs (z : Str) : List D := z.cps.toList.map fun c => .str ⟨#[c]⟩
/-- the items of a datum -/
def itemsO (x : D) (M : Mp) (Q : List D → (Mp → Prop) → Mp → Prop) : Prop := match x with
  | .tup ds => Q ds (fun _ => True) M
  | .lst ds => Q ds (fun _ => True) M
  | .scr ns => Q (ns.map D.int) (fun _ => True) M
  | .str z => Q (chrs z) (fun _ => True) M
  | .ref a => ∃ ds, M a = some (.lst ds) ∧ Q ds (fun M' => M' a = some (.lst ds)) M
  | _ => False
theorem itemsO.mono {x : D} {M : Mp} {Q Q' : List D → (Mp → Prop) → Mp → Prop} (h : ∀ ds G M', Q ds G M' → Q' ds G M') (q : itemsO x M Q) : itemsO x M Q' := by
  unfold itemsO at *; split at q
  · exact h _ _ _ q
  · exact h _ _ _ q
  · exact h _ _ _ q
  · exact h _ _ _ q
  · obtain ⟨ds, e, q⟩ := q; exact ⟨ds, e, h _ _ _ q⟩
  · exact q
def aSeq' (ta : AE) : AI := fun ρ M Q X => ta ρ M (fun x M1 => itemsO x M1 Q) X
section
variable {K : PySem.W.Frag}
theorem inj_lst {H : Hp} {a : Addr} {xs ys : List V} (h : H a = some (.lst xs)) (h' : H a = some (.lst ys)) : xs = ys := by rw [h] at h'; cases h'; rfl
/-- a list read in several ways is one list -/
theorem seqL_inj {H : Hp} {a : Addr} {xs ys : List V} (h : SqL K H a xs) (h' : SqL K H a ys) (hk : ∀ o, K.lookup a = some o → H a = none) : xs = ys := by
  rcases h with (h | ⟨o, h⟩) | ⟨o, its, n, e1, e2, e3, e4, e5, e6⟩
  · rcases h' with (h' | ⟨o', h'⟩) | ⟨o', its', n', e1', _⟩
    · exact inj_lst h h'
    · rw [h] at h'; cases h'
    · rw [hk _ e1'] at h; cases h
  · rcases h' with (h' | ⟨o', h'⟩) | ⟨o', its', n', e1', _⟩
    · rw [h] at h'; cases h'
    · rw [h] at h'; cases h'; rfl
    · rw [hk _ e1'] at h; cases h
  · rcases h' with (h' | ⟨o', h'⟩) | ⟨o', its', n', e1', e2', e3', e4', e5', e6'⟩
    · rw [hk _ e1] at h'; cases h'
    · rw [hk _ e1] at h'; cases h'
    · rw [e1] at e1'; cases e1'; rw [e4] at e4'; cases e4'; exact Vals.inj e6 e6'
theorem walks_tup {F0 : Hp} {a : Addr} {us : List V} {ds : List D} (h : SqT K F0 a us) (r : Reps K F0 ds us) : Walks' K F0 (Itt K a) ds fun _ => True := by
  refine ⟨fun i H F M s0 hr _ hi => ?_, fun H F M s0 hr _ => ?_⟩
  · have hT : SqT K H a us := same_seqT (s0.trans hr.sub) h
    obtain ⟨u, hu, ru⟩ := (Reps.up s0 _ r).get (List.getElem?_eq_getElem hi)
    exact ⟨⟨us, u, hT, hu⟩, fun x H' ⟨e, y⟩ => by
      subst e
      have := y us hT
      rw [hu] at this; cases this
      exact ⟨F, _, List.getElem?_eq_getElem hi, Step.refl hr, ru⟩⟩
  · exact ⟨us, same_seqT (s0.trans hr.sub) h, by rw [r.length]; exact Nat.le_refl _⟩
theorem walks_lst {F0 : Hp} {a : Addr} {us : List V} {ds : List D} (h : SqL K F0 a us) (r : Reps K F0 ds us) : Walks' K F0 (Itl K a) ds fun _ => True := by
  refine ⟨fun i H F M s0 hr _ hi => ?_, fun H F M s0 hr _ => ?_⟩
  · have hT : SqL K H a us := (s0.trans hr.sub).seq h
    obtain ⟨u, hu, ru⟩ := (Reps.up s0 _ r).get (List.getElem?_eq_getElem hi)
    exact ⟨⟨us, u, hT, hu⟩, fun x H' ⟨e, y⟩ => by
      subst e
      have := y us hT
      rw [hu] at this; cases this
      exact ⟨F, _, List.getElem?_eq_getElem hi, Step.refl hr, ru⟩⟩
  · exact ⟨us, (s0.trans hr.sub).seq h, by rw [r.length]; exact Nat.le_refl _⟩
theorem walks_ref {F0 : Hp} {a : Addr} {ds : List D} : Walks' K F0 (Itl K a) ds fun M => M a = some (.lst ds) := by
  refine ⟨fun i H F M s0 hr g hi => ?_, fun H F M s0 hr g => ?_⟩
  · obtain ⟨us, hT, r⟩ := hr.rep _ _ g
    obtain ⟨u, hu, ru⟩ := r.get (List.getElem?_eq_getElem hi)
    exact ⟨⟨us, u, SqL.of hT, hu⟩, fun x H' ⟨e, y⟩ => by
      subst e
      have := y us (SqL.of hT)
      rw [hu] at this; cases this
      exact ⟨F, _, List.getElem?_eq_getElem hi, Step.refl hr, ru⟩⟩
  · obtain ⟨us, hT, r⟩ := hr.rep _ _ g
    exact ⟨us, SqL.of hT, by rw [r.length]; exact Nat.le_refl _⟩
theorem walks_str {F0 : Hp} {z : Str} : Walks' K F0 (Its z) (chrs z) fun _ => True := by
  have hl : (chrs z).length = z.cps.size := by unfold chrs; rw [List.length_map, Array.length_toList]
  refine ⟨fun i H F M s0 hr g hi => ?_, fun H F M s0 hr g => by rw [hl]; exact Nat.le_refl _⟩
  refine ⟨by rw [hl] at hi; exact hi, fun x H' ⟨e, c, hc, ex⟩ => ?_⟩
  subst e ex
  refine ⟨F, .str ⟨#[c]⟩, ?_, Step.refl hr, rfl⟩
  unfold chrs
  rw [List.getElem?_map, Array.getElem?_toList, hc] <;> rfl
def rangeD (lo : Int) (n : Nat) : List D := (List.range n).map fun i => .int (lo + (i : Nat))
theorem rangeD_length {lo : Int} {n : Nat} : (rangeD lo n).length = n := by unfold rangeD; rw [List.length_map, List.length_range]
theorem walks_range {F0 : Hp} {lo : Int} {n : Nat} : Walks' K F0 (Itr lo n) (rangeD lo n) fun _ => True := by
  refine ⟨fun i H F M s0 hr g hi => ?_, fun H F M s0 hr g => by rw [rangeD_length]; exact Nat.le_refl _⟩
  rw [rangeD_length] at hi
  refine ⟨hi, fun x H' ⟨e, ex⟩ => ?_⟩
  subst e ex
  refine ⟨F, .int (lo + i), ?_, Step.refl hr, rfl⟩
  unfold rangeD
  rw [List.getElem?_map, List.getElem?_range hi] <;> rfl
end
/-- a list, a tuple, a text, walked -/
def iAny (K : PySem.W.Frag) (tl : TE) : TI := fun σ H R => tl σ H fun x H1 => (∃ a, x = .ref a ∧ (∃ xs, SqL K H1 a xs) ∧ R (Itl K a) H1) ∨ (∃ a, x = .ref a ∧ (∃ xs, SqT K H1 a xs) ∧ R (Itt K a) H1) ∨ ∃ z, x = .str z ∧ R (Its z) H1
theorem pi_any {X : Cx} {tg l : Expr} {tl : TE} (hl : PE X l tl) : PI X tg l (iAny X.K tl) := by
  refine ⟨fun pins s σ H R I h => ?_⟩
  refine thn (hl.run pins s σ H _ I h) fun v s1 ⟨x, H1, I1, r1, q1⟩ => ?_
  rcases q1 with ⟨a, e, ⟨xs, hq⟩, q⟩ | ⟨a, e, ⟨xs, hq⟩, q⟩ | ⟨z, e, q⟩
  · subst e
    cases r1
    obtain ⟨its, rv, p, hz⟩ := I1.list hq
    refine wpAny_pyIter_list p.isList ?_
    refine ⟨s1.heap.objs.size, [s1.heap.objs.size], _, _, H1, rfl, I1.kept (t' := s1.toks) fun b o e => Heap.get?_push_of_some _ e, turn_list a _, ⟨_, Heap.get?_push_size _ rfl, rfl, rfl⟩, fun b hb => ?_, q⟩
    have e : b = s1.heap.objs.size := by simpa using hb
    subst e
    exact I1.fpOk (Nat.le_refl _) (I1.hok.fresh (Nat.le_refl _))
  · subst e
    cases r1
    obtain ⟨its, rv, p, hz⟩ := I1.tuple hq
    refine wpAny_pyIter_tuple (show s1.heap.IsTuple a its.toArray from p) ?_
    refine ⟨s1.heap.objs.size, [s1.heap.objs.size], _, _, H1, rfl, I1.kept (t' := s1.toks) fun b o e => Heap.get?_push_of_some _ e, turn_tuple a _, ⟨_, Heap.get?_push_size _ rfl, rfl, rfl⟩, fun b hb => ?_, q⟩
    have e : b = s1.heap.objs.size := by simpa using hb
    subst e
    exact I1.fpOk (Nat.le_refl _) (I1.hok.fresh (Nat.le_refl _))
  · subst e
    obtain ⟨t, rfl⟩ := r1
    cases ha : z.cps.all (· < 128)
    · exact wpAny_pyIter_wide ha (pi_one (tk := s1.toks) I1 _ (turn_str _ z t "str_iterator" (.inr rfl)) ⟨_, Heap.get?_push_size _ rfl, rfl, rfl⟩ q)
    · exact wpAny_pyIter_ascii ha (pi_one (tk := s1.toks) I1 _ (turn_str _ z t "str_ascii_iterator" (.inl rfl)) ⟨_, Heap.get?_push_size _ rfl, rfl, rfl⟩ q)
section
variable {X : Cx} {W : WX} {tg e a b : Expr} {ta : AE} {t : AA} {p pos tpos : Pos} {elts : List Expr} {kk : Nat}
theorem ai_seq (ha : AEok X W e ta) : AIok X W tg e (aSeq' ta) := by
  refine ⟨fun ρ M Q Q' X X' hq hx h => ha.mono _ _ _ _ _ _ (fun x M1 h1 => itemsO.mono hq h1) hx h, pi_imp (pi_any ha.pe) ?_⟩
  rintro σ H Rc ⟨F, ρ, M, r, he, q⟩
  refine ⟨F, ρ, M, r, he, ha.mono _ _ _ _ _ _ (fun x M1 h1 => ?_) (fun c M1 h1 => h1) q⟩
  intro H1 F1 v s1 r1
  unfold itemsO at h1; split at h1
  · obtain ⟨a, us, e1, g1, q1⟩ := r1
    exact .inr (.inl ⟨a, e1, ⟨us, same_seqT s1.r.sub g1⟩, h1 _ _ _ s1 (walks_tup g1 q1)⟩)
  · obtain ⟨a, us, e1, g1, q1⟩ := r1
    exact .inl ⟨a, e1, ⟨us, SqL.of (s1.r.sub _ _ g1)⟩, h1 _ _ _ s1 (walks_lst (SqL.of g1) q1)⟩
  · obtain ⟨a, e1, g1⟩ := r1
    exact .inl ⟨a, e1, ⟨_, s1.r.sub.seq g1⟩, h1 _ _ _ s1 (walks_lst g1 reps_ints)⟩
  · exact .inr (.inr ⟨_, r1, h1 _ _ _ s1 walks_str⟩)
  · obtain ⟨ds, e1, q1⟩ := h1
    obtain ⟨us, hH, _⟩ := s1.r.rep _ _ e1
    exact .inl ⟨_, r1, ⟨us, SqL.of hH⟩, q1 _ _ _ s1 walks_ref⟩
  · exact h1.elim
/-! ### range -/
def small62 (i : Int) : Prop := -(2 ^ 62) ≤ i ∧ i < 2 ^ 62
def rngO (ds : List D) (M : Mp) (Q : List D → (Mp → Prop) → Mp → Prop) : Prop := match ds with
  | [.int j] => small62 j ∧ Q (rangeD 0 j.toNat) (fun _ => True) M
  | [.int i, .int j] => (small62 i ∧ small62 j) ∧ Q (rangeD i (j - i).toNat) (fun _ => True) M
  | _ => False
theorem rngO.mono {ds : List D} {M : Mp} {Q Q' : List D → (Mp → Prop) → Mp → Prop} (h : ∀ ds G M', Q ds G M' → Q' ds G M') (q : rngO ds M Q) : rngO ds M Q' := by
  unfold rngO at *; split at q
  · exact ⟨q.1, h _ _ _ q.2⟩
  · exact ⟨q.1, h _ _ _ q.2⟩
  · exact q
def aRng (t : AA) : AI := fun ρ M Q X => t ρ M (fun ds M1 => rngO ds M1 Q) X
theorem aRng.mono (mt : MonoA t) : MonoI (aRng t) := fun ρ M Q Q' X X' hq hx h => mt _ _ _ _ _ _ (fun x M1 h1 => rngO.mono hq h1) hx h
theorem ai_rng1 (hg : Gl X "range") (hm : X.mg "range" = none) (ha : AAok X W [a] t) : AIok X W tg (.Call (.Name "range" p) [a] [] pos) (aRng t) := by
  have hp := ha.plain
  rw [List.all_cons, Bool.and_eq_true] at hp
  refine ⟨aRng.mono ha.mono, pi_imp (pi_range1 hg hm ha.pa (star_plain hp.1)) ?_⟩
  rintro σ H Rc ⟨F, ρ, M, r, he, q⟩
  refine ⟨F, ρ, M, r, he, ha.mono _ _ _ _ _ _ (fun ds M1 h1 => ?_) (fun c M1 h1 => h1) (ha.len _ _ _ _ q)⟩
  intro H1 F1 vs s1 r1
  obtain ⟨hl, h1⟩ := h1
  unfold rngO at h1; split at h1
  · obtain ⟨v, e1, rv⟩ := reps1 r1
    cases (show v = _ from rv)
    exact ⟨_, e1, h1.1.1, h1.1.2, h1.2 _ _ _ s1 walks_range⟩
  · cases hl
  · exact h1.elim
theorem ai_rng2 (hg : Gl X "range") (hm : X.mg "range" = none) (ha : AAok X W [a, b] t) : AIok X W tg (.Call (.Name "range" p) [a, b] [] pos) (aRng t) := by
  have hp := ha.plain
  rw [List.all_cons, List.all_cons, Bool.and_eq_true, Bool.and_eq_true] at hp
  refine ⟨aRng.mono ha.mono, pi_imp (pi_range2 hg hm ha.pa (by rw [star_plain hp.1, star_plain hp.2.1] <;> rfl) (by rw [star_plain hp.2.1] <;> rfl)) ?_⟩
  rintro σ H Rc ⟨F, ρ, M, r, he, q⟩
  refine ⟨F, ρ, M, r, he, ha.mono _ _ _ _ _ _ (fun ds M1 h1 => ?_) (fun c M1 h1 => h1) (ha.len _ _ _ _ q)⟩
  intro H1 F1 vs s1 r1
  obtain ⟨hl, h1⟩ := h1
  unfold rngO at h1; split at h1
  · cases hl
  · obtain ⟨v, u, e1, rv, ru⟩ := reps2 r1
    cases (show v = _ from rv); cases (show u = _ from ru)
    exact ⟨_, _, e1, ⟨h1.1.1.1, h1.1.1.2, h1.1.2.1, h1.1.2.2⟩, h1.2 _ _ _ s1 walks_range⟩
  · exact h1.elim
end

/-! ### targets -/
inductive TgK where
  | one (i : Nat) | tup (is : List Nat)
def setMany (ρ : Env) : List Nat → List D → Option Env
  | [], [] => some ρ
  | i :: is, d :: ds => setMany (ρ.set i (some d)) is ds
  | _, _ => none
def setTg (ρ : Env) : TgK → D → Option Env
  | .one i, d => some (ρ.set i (some d))
  | .tup is, .tup ds => setMany ρ is ds
  | .tup is, .lst ds => setMany ρ is ds
  | _, _ => none
/-- the target's reading -/
structure TgOk (X : Cx) (tg : Expr) (k : TgK) (g : TG) : Prop where
  pg : PG X tg g
  ok : ∀ {H F : Hp} {M : Mp} {ρ ρ' : Env} {σ : St} {d : D} {v : V} {Q : St → Hp → Prop}, R X.K H F M → EnvR X.K F ρ σ → Rep X.K F d v → setTg ρ k d = some ρ' → (∀ σ', EnvR X.K F ρ' σ' → Q σ' H) → g v σ H Q
section
variable {X : Cx} {x : Str} {pos : Pos} {i : Nat}
theorem tg_one (hN : X.N.Nodup) (hi : X.N[i]? = some x) (hx : Loc X.env.scope x) (hf : X.fn x = true ∨ X.env.scope.names.lookup x = some .local) : TgOk X (.Name x pos) (.one i) (gName i) :=
  ⟨pg_name hN hi hx hf, fun hr he rd e q => by cases e; exact q _ (he.set rd i)⟩
def tupG : List Nat → TGs
  | [] => gNil
  | i :: is => gCons (gName i) (tupG is)
/-- plain names, in order -/
structure TgsOk (X : Cx) (es : List Expr) (is : List Nat) : Prop where
  pg : PGs X es (tupG is)
  len : (assignEach es X.env).length = is.length
  st : (assignEach es X.env).findIdx? (·.1) = none
theorem tgs_nil : TgsOk X [] [] := ⟨pgs_nil, rfl, rfl⟩
theorem tgs_cons {es : List Expr} {is : List Nat} (hN : X.N.Nodup) (hi : X.N[i]? = some x) (hx : Loc X.env.scope x) (hf : X.fn x = true ∨ X.env.scope.names.lookup x = some .local) (h : TgsOk X es is) : TgsOk X (.Name x pos :: es) (i :: is) := by
  refine ⟨pgs_cons (pg_name hN hi hx hf) h.pg, ?_, ?_⟩
  · show (assignEach es X.env).length + 1 = is.length + 1
    rw [h.len]
  · show List.findIdx? (·.1) ((false, assign (.Name x pos) X.env) :: assignEach es X.env) = none
    rw [List.findIdx?_cons, h.st] <;> rfl
theorem tupG_ok {K : PySem.W.Frag} {H F : Hp} {M : Mp} (hr : R K H F M) : ∀ {is : List Nat} {ds : List D} {vs : List V} {ρ ρ' : Env} {σ : St} {Q : St → Hp → Prop}, EnvR K F ρ σ → Reps K F ds vs → setMany ρ is ds = some ρ' → (∀ σ', EnvR K F ρ' σ' → Q σ' H) → vs.length = is.length ∧ tupG is vs σ H Q
  | [], [], _, _, _, _, _, he, r, e, q => by cases (show _ = ([] : List V) from r); cases e; exact ⟨rfl, rfl, q _ he⟩
  | [], _ :: _, _, _, _, _, _, _, _, e, _ => by cases e
  | _ :: _, [], _, _, _, _, _, _, _, e, _ => by cases e
  | i :: is, d :: ds, _, ρ, ρ', σ, Q, he, ⟨u, us', e1, h1, h2⟩, e, q => by
    subst e1
    obtain ⟨hl, g⟩ := tupG_ok hr (is := is) (ds := ds) (Q := Q) (he.set h1 i) h2 e q
    exact ⟨by simp [hl], u, us', rfl, g⟩
/-- either reading of a target -/
def gOr (g g' : TG) : TG := fun v σ H Q => g v σ H Q ∨ g' v σ H Q
theorem pg_or {X : Cx} {tg : Expr} {g g' : TG} (h : PG X tg g) (h' : PG X tg g') : PG X tg (gOr g g') :=
  ⟨fun pins s σ H v u Q I r hw => hw.elim (fun z => h.run pins s σ H v u Q I r z) fun z => h'.run pins s σ H v u Q I r z⟩
theorem tg_tup {es : List Expr} {is : List Nat} {k : Nat} (hc : X.calm = true) (h : TgsOk X es is) : TgOk X (.Tuple es k pos) (.tup is) (gOr (gTup X.K is.length (tupG is)) (gLst X.K is.length (tupG is))) := by
  refine ⟨pg_or (pg_tup hc h.pg h.len h.st) (pg_lst hc h.pg h.len h.st), fun {H F M ρ ρ' σ d v Q} hr he rd e q => ?_⟩
  cases d with
  | tup ds =>
    obtain ⟨a, us, e1, h1, r1⟩ := tup_ok hr rd
    obtain ⟨hl, g⟩ := tupG_ok hr he r1 (show setMany ρ is ds = some ρ' from e) q
    exact .inl ⟨a, us, e1, h1, hl, g⟩
  | lst ds =>
    obtain ⟨a, us, e1, h1, r1⟩ := rd
    obtain ⟨hl, g⟩ := tupG_ok hr he r1 (show setMany ρ is ds = some ρ' from e) q
    exact .inr ⟨a, us, e1, SqL.of (hr.sub _ _ h1), hl, g⟩
  | _ => cases e
end
end TT
set_option Elab.async false
set_option linter.all false
set_option maxRecDepth 100000
set_option maxHeartbeats 4000000
/-! TI2: enumerate and zip over lists and tuples, in any mix. -/
namespace TT
open PySem PySem.Spec PyProof.Rows L2

/-! ### a list or a tuple -/
def Sq (l : Bool) (K : PySem.W.Frag) (H : Hp) (a : Addr) (xs : List V) : Prop := match l with
  | true => SqL K H a xs
  | false => SqT K H a xs
def Is (l : Bool) (h : Heap) (a : Addr) (its : Array Value) : Prop := match l with
  | true => h.IsList a its
  | false => h.IsTuple a its
def ItAt (l : Bool) (h : Heap) (it a : Addr) (i : Nat) : Prop := match l with
  | true => h.IsListIter it a i
  | false => h.IsTupleIter it a i
def itO (l : Bool) (a : Addr) : Obj := match l with
  | true => { cls := .type "list_iterator", data := .fields #[.ref a, .int 0 0] }
  | false => { cls := .type "tuple_iterator", data := .fields #[.ref a, .int 0 0] }
section
variable {l : Bool} {X : Cx} {pins : List (Addr × Obj)} {σ : St} {H : Hp} {s : Shared} {a it : Addr} {xs ys : List V} {h h' : Heap} {its : Array Value}
theorem sq_items (I : Inv X pins σ H s) (q : Sq l X.K H a xs) : ∃ us : List Value, Vals xs us ∧ Is l s.heap a us.toArray ∧ xs.length ≤ sizeLine := by
  cases l with
  | true => obtain ⟨us, r, p, z⟩ := I.list q; exact ⟨us, r, p.isList, z⟩
  | false => obtain ⟨us, r, p, z⟩ := I.tuple q; exact ⟨us, r, p, z⟩
theorem sq_inj (I : Inv X pins σ H s) (q : Sq l X.K H a xs) (q' : Sq l X.K H a ys) : xs = ys := by
  cases l with
  | true => exact I.list_inj q q'
  | false => exact I.tuple_inj q q'
theorem Is.lt (p : Is l h a its) : a < h.objs.size := by
  cases l with
  | true => obtain ⟨o, e, _⟩ := p; exact Heap.lt_size e
  | false => obtain ⟨o, e, _⟩ := p; exact Heap.lt_size e
theorem Is.at (p : Is l h a its) (k : ∀ o, h.get? a = some o → h'.get? a = some o) : Is l h' a its := by
  cases l with
  | true => exact Heap.IsList.at p k
  | false => exact Heap.IsTuple.at p k
theorem ItAt.at {i : Nat} (p : ItAt l h it a i) (k : ∀ o, h.get? it = some o → h'.get? it = some o) : ItAt l h' it a i := by
  cases l with
  | true => exact Heap.IsListIter.at p k
  | false => exact Heap.IsTupleIter.at p k
theorem ItAt.obj {i : Nat} (p : ItAt l h it a i) : ∃ o, h.get? it = some o ∧ ∀ v, o.data ≠ .cell v := by
  cases l with
  | true => obtain ⟨o, e, _, d⟩ := p; exact ⟨o, e, fun v z => by rw [d] at z; cases z⟩
  | false => obtain ⟨o, e, _, d⟩ := p; exact ⟨o, e, fun v z => by rw [d] at z; cases z⟩
theorem ItAt.apart {i : Nat} (p : ItAt l h it a i) (q : Is l h a its) : a ≠ it := by
  intro e
  subst e
  cases l with
  | true => obtain ⟨o, e, _, d⟩ := p; obtain ⟨o', e', _, n, d'⟩ := q; rw [e] at e'; cases e'; rw [d] at d'; cases d'
  | false => obtain ⟨o, e, _, d⟩ := p; obtain ⟨o', e', _, n, d'⟩ := q; rw [e] at e'; cases e'; rw [d] at d'; cases d'
theorem draws {prog : Program} {w : World} {A : Around} (hh : A.handled = none) (hne : a ≠ it) : Draws prog w A it [it, a] its.size (fun i v => its[i]? = some v) (fun i h => ItAt l h it a i ∧ Is l h a its) := by
  cases l with
  | true => exact .list hh it a hne its
  | false => exact .tuple hh it a hne its
theorem begins : Begins (.ref a) (itO l a) fun h => Is l h a its := by
  cases l with
  | true => exact begins_list a its
  | false => exact begins_tuple a its
theorem itO_at (e : h.get? it = some (itO l a)) : ItAt l h it a 0 := by
  cases l with
  | true => exact ⟨_, e, rfl, rfl⟩
  | false => exact ⟨_, e, rfl, rfl⟩
end
theorem vals_get {xs : List V} {us : List Value} {i : Nat} {u : Value} (r : Vals xs us) (h : us.toArray[i]? = some u) : ∃ x, xs[i]? = some x ∧ RelV x u := by
  have hl := r.length
  have hi : i < us.length := by
    by_cases z : i < us.length
    · exact z
    · rw [List.getElem?_toArray, List.getElem?_eq_none (by omega)] at h; cases h
  obtain ⟨u', hu, ru⟩ := r.get (List.getElem?_eq_getElem (show i < xs.length by omega))
  rw [List.getElem?_toArray, hu] at h
  cases h
  exact ⟨_, List.getElem?_eq_getElem _, ru⟩

/-! ### an iterator of new tuples -/
def ItS (f g : Nat → Hp → List V → Prop) (e : Nat → Hp → Prop) : It :=
  ⟨fun i H => ∃ vs, f i H vs, fun i H v H' => ∃ T vs, v = .ref T ∧ H T = none ∧ H' = upd H T (.tup vs) ∧ g i H vs, e⟩
section
variable {X : Cx} {pins : List (Addr × Obj)} {σ : St} {H : Hp} {s : Shared} {it : Addr} {fp wr : List Addr} {n i : Nat} {Y : Nat → Heap → Value → Heap → Prop} {St : Nat → Heap → Prop} {tg : Expr} {E : Value → Shared → Prop} {Good : List V → Prop}
theorem goes_item (W : GoesN X.prog X.w X.A tg it fp wr n Y St) (hi : i < n) (st : St i s.heap) (I : Inv X pins σ H s) (hwr : ∀ b ∈ wr, FpOk X pins H b)
    (hY : ∀ v h, Y i s.heap v h → ∃ T us vs, v = .ref T ∧ s.heap.objs.size ≤ T ∧ Vals vs us ∧ us.length ≤ 3 ∧ h.IsTuple T us.toArray ∧ Good vs) :
    wpAny (model X.prog X.w) X.A (pyNext (.ref it)) (fun r s1 => ∃ u, r = some u ∧ wpAny (model X.prog X.w) X.A (letOwnedTupleGo tg (.ref it) u) (fun _ s2 => ∃ T vs, Inv X pins σ (upd H T (.tup vs)) s2 ∧ u = .ref T ∧ H T = none ∧ Good vs ∧ s.heap.objs.size ≤ T ∧ St (i + 1) s2.heap) E s1) E s := by
  refine wpAny_mono (W.goes i s (fun v s2 => ∃ T vs, Inv X pins σ (upd H T (.tup vs)) s2 ∧ v = .ref T ∧ H T = none ∧ Good vs ∧ s.heap.objs.size ≤ T ∧ St (i + 1) s2.heap) E hi st fun v h' tk y st' hk htk => ?_) (fun r s1 q => q) (fun _ _ z => z)
  obtain ⟨T, us, vs, e, hT, r, hl, t, g⟩ := hY v h' y
  obtain ⟨o, ho, hc, m, hd⟩ := t
  refine ⟨T, vs, I.turnedNew hk hwr hT ⟨?_, us, r, ⟨o, ho, hc, m, hd⟩⟩, e, I.hok.fresh hT, g, hT, st'⟩
  have := r.length
  show vs.length ≤ 2 ^ 24
  omega
theorem goes_done (W : GoesN X.prog X.w X.A tg it fp wr n Y St) (st : St n s.heap) (I : Inv X pins σ H s) (hwr : ∀ b ∈ wr, FpOk X pins H b) : wpAny (model X.prog X.w) X.A (pyNext (.ref it)) (fun r s1 => r = none ∧ Inv X pins σ H s1) E s :=
  W.stops s (fun s1 => Inv X pins σ H s1) E st fun h' tk hk htk => I.turnedL hk hwr
end

/-! ### enumerate -/
def fEn (l : Bool) (K : PySem.W.Frag) (a : Addr) (i : Nat) (H : Hp) (vs : List V) : Prop := ∃ xs x, Sq l K H a xs ∧ xs[i]? = some x ∧ vs = [.int (i : Nat), x]
def gEn (l : Bool) (K : PySem.W.Frag) (a : Addr) (i : Nat) (H : Hp) (vs : List V) : Prop := ∃ x, vs = [.int (i : Nat), x] ∧ ∀ xs, Sq l K H a xs → xs[i]? = some x
def eEn (l : Bool) (K : PySem.W.Frag) (a : Addr) (i : Nat) (H : Hp) : Prop := ∃ xs : List V, Sq l K H a xs ∧ xs.length = i
theorem turn_en {P : Program} {w : World} {K : PySem.W.Frag} {elts : List Expr} {kk : Nat} {tpos : Pos} {l : Bool} (a e it : Addr) (hne : e ≠ it) :
    Turn P w K (.Tuple elts kk tpos) (ItS (fEn l K a) (gEn l K a) (eEn l K a)) [e, it] e (fun i h => (∃ old, IsEnum h e it (0 + (i : Int)) old) ∧ ItAt l h it a i) where
  mem := List.mem_cons_self ..
  obj := fun i h st b hb => by
    obtain ⟨⟨old, he⟩, hit⟩ := st
    rcases List.mem_cons.mp hb with z | z
    · rw [z]; exact ⟨_, he, fun v q => nomatch q⟩
    · rw [List.mem_singleton.mp z]; exact hit.obj
  keep := fun i h h' st k => ⟨⟨st.1.choose, k e (List.mem_cons_self ..) _ st.1.choose_spec⟩, st.2.at fun o q => k it (by simp) o q⟩
  item := by
    intro X hP hw hK hc i pins s σ H E I hf st hg
    subst hP hw hK
    obtain ⟨vs0, xs, x, hq, hx, _⟩ := hg
    obtain ⟨us, rv, p, _⟩ := sq_items I hq
    have hae : a ≠ e := fun z => by
      obtain ⟨⟨old, he⟩, _⟩ := st
      subst z
      cases l with
      | true => obtain ⟨o, e2, _, n, d⟩ := p; rw [show s.heap.get? a = _ from he] at e2; cases e2; cases d
      | false => obtain ⟨o, e2, _, n, d⟩ := p; rw [show s.heap.get? a = _ from he] at e2; cases e2; cases d
    have hai := st.2.apart p
    have W := GoesN.enumFrom (elts := elts) (x1 := kk) (pos := tpos) (prog := X.prog) (w := X.w) (A := X.A) 0 (draws (l := l) (its := us.toArray) (show X.A.in1.handled = none from I.ok.hd hc) hai) e hne (by simp [hne, Ne.symm hae]) (by simp)
    have hi : i < us.toArray.size := by
      have := rv.length
      have : i < xs.length := by
        by_cases z : i < xs.length
        · exact z
        · rw [List.getElem?_eq_none (by omega)] at hx; cases hx
      simp; omega
    refine wpAny_mono (goes_item (Good := fun vs => vs = [.int (i : Nat), x]) W hi ⟨st.1, st.2, p⟩ I (fun b hb => hf b hb) ?_) (fun r s1 ⟨u, e1, q⟩ => ⟨u, e1, wpAny_mono q (fun _ s2 q2 => ?_) fun _ _ z => z⟩) (fun _ _ z => z)
    · rintro v h ⟨T, t, y, ev, hT, hy, ht⟩
      obtain ⟨x', hx', rx⟩ := vals_get rv hy
      rw [hx] at hx'; cases hx'
      exact ⟨T, [.int (0 + (i : Int)) t, y], [.int (i : Nat), x], ev, hT, .cons (show RelV (.int (i : Nat)) (.int (0 + (i : Int)) t) from ⟨t, by rw [Int.zero_add]⟩) (.cons rx .nil), by simp, ht, rfl⟩
    · obtain ⟨T, vs, I2, e2, hn, g, hT, st2, st3, _⟩ := q2
      subst g
      refine ⟨.ref T, _, I2, e2, ⟨T, _, rfl, hn, rfl, x, rfl, fun ys hy => by rw [sq_inj I hy hq]; exact hx⟩, ⟨st2, st3⟩, fun b hb => ?_⟩
      have hb' : b < s.heap.objs.size := by
        rcases List.mem_cons.mp hb with z | z
        · rw [z]; exact Heap.lt_size st.1.choose_spec
        · rw [List.mem_singleton.mp z]; obtain ⟨o, q, _⟩ := st.2.obj; exact Heap.lt_size q
      rw [upd_ne (Nat.ne_of_lt (Nat.lt_of_lt_of_le hb' hT))]
      exact (hf b hb).1
  done := by
    intro X hP hw hK hc i pins s σ H E I hf st hg
    subst hP hw hK
    obtain ⟨xs, hq, hx⟩ := hg
    obtain ⟨us, rv, p, _⟩ := sq_items I hq
    have hae : a ≠ e := fun z => by
      obtain ⟨⟨old, he⟩, _⟩ := st
      subst z
      cases l with
      | true => obtain ⟨o, e2, _, n, d⟩ := p; rw [show s.heap.get? a = _ from he] at e2; cases e2; cases d
      | false => obtain ⟨o, e2, _, n, d⟩ := p; rw [show s.heap.get? a = _ from he] at e2; cases e2; cases d
    have hai := st.2.apart p
    have W := GoesN.enumFrom (elts := elts) (x1 := kk) (pos := tpos) (prog := X.prog) (w := X.w) (A := X.A) 0 (draws (l := l) (its := us.toArray) (show X.A.in1.handled = none from I.ok.hd hc) hai) e hne (by simp [hne, Ne.symm hae]) (by simp)
    have hn : us.toArray.size = i := by
      have := rv.length
      simp; omega
    exact goes_done W (by rw [hn]; exact ⟨st.1, st.2, p⟩) I fun b hb => hf b hb
  self := fun A i s Q E st h => wpAny_pyIter_enum st.1.choose_spec h

theorem sub4 {z TI TO i1 i2 c : Addr} (h : c ∈ [z, TO, i1, i2]) : c ∈ [z, TI, TO, i1, i2] := by
  simp only [List.mem_cons, List.not_mem_nil, or_false] at h ⊢
  rcases h with q | q | q | q <;> simp [q]
/-! ### zip of two -/
def fZ2 (l m : Bool) (K : PySem.W.Frag) (a b : Addr) (i : Nat) (H : Hp) (vs : List V) : Prop := ∃ xs x ys y, Sq l K H a xs ∧ xs[i]? = some x ∧ Sq m K H b ys ∧ ys[i]? = some y ∧ vs = [x, y]
def gZ2 (l m : Bool) (K : PySem.W.Frag) (a b : Addr) (i : Nat) (H : Hp) (vs : List V) : Prop := ∃ x y, vs = [x, y] ∧ (∀ xs, Sq l K H a xs → xs[i]? = some x) ∧ ∀ ys, Sq m K H b ys → ys[i]? = some y
def eZ2 (l m : Bool) (K : PySem.W.Frag) (a b : Addr) (i : Nat) (H : Hp) : Prop := ∃ xs ys : List V, Sq l K H a xs ∧ Sq m K H b ys ∧ min xs.length ys.length = i
theorem turn_z2 {P : Program} {w : World} {K : PySem.W.Frag} {elts : List Expr} {kk : Nat} {tpos : Pos} {l m : Bool} {z TI TO a b i1 i2 : Addr} (S : ZipSep2 z TI TO i1 i2 [i1, a] [i2, b]) (ha : a ≠ i1) (hb : b ≠ i2) :
    Turn P w K (.Tuple elts kk tpos) (ItS (fZ2 l m K a b) (gZ2 l m K a b) (eZ2 l m K a b)) [z, TI, TO, i1, i2] z (fun i h => IsZip h z TI TO .none ∧ IsTupOf2 h TI (.ref i1) (.ref i2) ∧ (∃ x y, IsTupOf2 h TO x y) ∧ ItAt l h i1 a i ∧ ItAt m h i2 b i) where
  mem := List.mem_cons_self ..
  obj := fun i h st c hc => by
    obtain ⟨hz, hTI, ⟨x, y, hTO⟩, h1, h2⟩ := st
    simp only [List.mem_cons, List.not_mem_nil, or_false] at hc
    rcases hc with q | q | q | q | q
    · rw [q]; exact ⟨_, hz, fun v q => nomatch q⟩
    · rw [q]; exact ⟨_, hTI, fun v q => nomatch q⟩
    · rw [q]; exact ⟨_, hTO, fun v q => nomatch q⟩
    · rw [q]; exact h1.obj
    · rw [q]; exact h2.obj
  keep := fun i h h' st k => by
    obtain ⟨hz, hTI, ⟨x, y, hTO⟩, h1, h2⟩ := st
    exact ⟨k z (by simp) _ hz, k TI (by simp) _ hTI, ⟨x, y, k TO (by simp) _ hTO⟩, h1.at fun o q => k i1 (by simp) o q, h2.at fun o q => k i2 (by simp) o q⟩
  item := by
    intro X hP hw hK hc i pins s σ H E I hf st hg
    subst hP hw hK
    obtain ⟨vs0, xs, x, ys, y, hqx, hx, hqy, hy, _⟩ := hg
    obtain ⟨us, rv, p, _⟩ := sq_items I hqx
    obtain ⟨ws, rv', p', _⟩ := sq_items I hqy
    have hh : X.A.in1.handled = none := I.ok.hd hc
    have W := GoesN.zip2 (elts := elts) (x1 := kk) (pos := tpos) (prog := X.prog) (w := X.w) (A := X.A) S (draws (l := l) (its := us.toArray) hh ha) (draws (l := m) (its := ws.toArray) hh hb)
    have lt1 : i < xs.length := (List.getElem?_eq_some_iff.mp hx).1
    have lt2 : i < ys.length := (List.getElem?_eq_some_iff.mp hy).1
    have hi : i < min us.toArray.size ws.toArray.size := by
      have := rv.length
      have := rv'.length
      simp; omega
    refine wpAny_mono (goes_item (Good := fun vs => vs = [x, y]) W hi ⟨st.1, st.2.1, st.2.2.1, ⟨st.2.2.2.1, p⟩, st.2.2.2.2, p'⟩ I (fun c hc => hf c (sub4 hc)) ?_) (fun r s1 ⟨u, e1, q⟩ => ⟨u, e1, wpAny_mono q (fun _ s2 q2 => ?_) fun _ _ z => z⟩) (fun _ _ z => z)
    · rintro v h ⟨T, u1, u2, ev, hT, hu1, hu2, ht⟩
      obtain ⟨x', hx', rx⟩ := vals_get rv hu1
      obtain ⟨y', hy', ry⟩ := vals_get rv' hu2
      rw [hx] at hx'; cases hx'
      rw [hy] at hy'; cases hy'
      exact ⟨T, [u1, u2], [x, y], ev, hT, .cons rx (.cons ry .nil), by simp, ht, rfl⟩
    · obtain ⟨T, vs, I2, e2, hn, g, hT, st2, st3, st4, ⟨st5, _⟩, st6, _⟩ := q2
      subst g
      refine ⟨.ref T, _, I2, e2, ⟨T, _, rfl, hn, rfl, x, y, rfl, fun l hl => by rw [sq_inj I hl hqx]; exact hx, fun l hl => by rw [sq_inj I hl hqy]; exact hy⟩, ⟨st2, st3, st4, st5, st6⟩, fun c hc => ?_⟩
      have hc' : c < s.heap.objs.size := by
        obtain ⟨hz, hTI, ⟨x, y, hTO⟩, h1, h2⟩ := st
        simp only [List.mem_cons, List.not_mem_nil, or_false] at hc
        rcases hc with q | q | q | q | q
        · rw [q]; exact Heap.lt_size hz
        · rw [q]; exact Heap.lt_size hTI
        · rw [q]; exact Heap.lt_size hTO
        · rw [q]; obtain ⟨o, q, _⟩ := h1.obj; exact Heap.lt_size q
        · rw [q]; obtain ⟨o, q, _⟩ := h2.obj; exact Heap.lt_size q
      rw [upd_ne (Nat.ne_of_lt (Nat.lt_of_lt_of_le hc' hT))]
      exact (hf c hc).1
  done := by
    intro X hP hw hK hc i pins s σ H E I hf st hg
    subst hP hw hK
    obtain ⟨xs, ys, hqx, hqy, hn⟩ := hg
    obtain ⟨us, rv, p, _⟩ := sq_items I hqx
    obtain ⟨ws, rv', p', _⟩ := sq_items I hqy
    have hh : X.A.in1.handled = none := I.ok.hd hc
    have W := GoesN.zip2 (elts := elts) (x1 := kk) (pos := tpos) (prog := X.prog) (w := X.w) (A := X.A) S (draws (l := l) (its := us.toArray) hh ha) (draws (l := m) (its := ws.toArray) hh hb)
    have hn' : min us.toArray.size ws.toArray.size = i := by
      have := rv.length
      have := rv'.length
      simp; omega
    exact goes_done W (by rw [hn']; exact ⟨st.1, st.2.1, st.2.2.1, ⟨st.2.2.2.1, p⟩, st.2.2.2.2, p'⟩) I fun c hc => hf c (sub4 hc)
  self := fun A i s Q E st h => wpAny_pyIter_zip st.1 h
end TT
set_option Elab.async false
set_option linter.all false
set_option maxRecDepth 100000
set_option maxHeartbeats 4000000
/-! TI3: zip of three; how enumerate and zip begin; what they walk. -/
namespace TT
open PySem PySem.Spec PyProof.Rows L2

def fZ3 (l m n : Bool) (K : PySem.W.Frag) (a b d : Addr) (i : Nat) (H : Hp) (vs : List V) : Prop := ∃ xs x ys y zs z, Sq l K H a xs ∧ xs[i]? = some x ∧ Sq m K H b ys ∧ ys[i]? = some y ∧ Sq n K H d zs ∧ zs[i]? = some z ∧ vs = [x, y, z]
def gZ3 (l m n : Bool) (K : PySem.W.Frag) (a b d : Addr) (i : Nat) (H : Hp) (vs : List V) : Prop := ∃ x y z, vs = [x, y, z] ∧ (∀ xs, Sq l K H a xs → xs[i]? = some x) ∧ (∀ ys, Sq m K H b ys → ys[i]? = some y) ∧ ∀ zs, Sq n K H d zs → zs[i]? = some z
def eZ3 (l m n : Bool) (K : PySem.W.Frag) (a b d : Addr) (i : Nat) (H : Hp) : Prop := ∃ xs ys zs : List V, Sq l K H a xs ∧ Sq m K H b ys ∧ Sq n K H d zs ∧ min (min xs.length ys.length) zs.length = i
theorem sub5 {z TI TO i1 i2 i3 c : Addr} (h : c ∈ [z, TO, i1, i2, i3]) : c ∈ [z, TI, TO, i1, i2, i3] := by
  simp only [List.mem_cons, List.not_mem_nil, or_false] at h ⊢
  rcases h with q | q | q | q | q <;> simp [q]
theorem turn_z3 {P : Program} {w : World} {K : PySem.W.Frag} {elts : List Expr} {kk : Nat} {tpos : Pos} {l m n : Bool} {z TI TO a b d i1 i2 i3 : Addr} (S : ZipSep3 z TI TO i1 i2 i3 [i1, a] [i2, b] [i3, d]) (ha : a ≠ i1) (hb : b ≠ i2) (hd : d ≠ i3) :
    Turn P w K (.Tuple elts kk tpos) (ItS (fZ3 l m n K a b d) (gZ3 l m n K a b d) (eZ3 l m n K a b d)) [z, TI, TO, i1, i2, i3] z (fun i h => IsZip h z TI TO .none ∧ IsTupOf3 h TI (.ref i1) (.ref i2) (.ref i3) ∧ (∃ x y u, IsTupOf3 h TO x y u) ∧ ItAt l h i1 a i ∧ ItAt m h i2 b i ∧ ItAt n h i3 d i) where
  mem := List.mem_cons_self ..
  obj := fun i h st c hc => by
    obtain ⟨hz, hTI, ⟨x, y, u, hTO⟩, h1, h2, h3⟩ := st
    simp only [List.mem_cons, List.not_mem_nil, or_false] at hc
    rcases hc with q | q | q | q | q | q
    · rw [q]; exact ⟨_, hz, fun v q => nomatch q⟩
    · rw [q]; exact ⟨_, hTI, fun v q => nomatch q⟩
    · rw [q]; exact ⟨_, hTO, fun v q => nomatch q⟩
    · rw [q]; exact h1.obj
    · rw [q]; exact h2.obj
    · rw [q]; exact h3.obj
  keep := fun i h h' st k => by
    obtain ⟨hz, hTI, ⟨x, y, u, hTO⟩, h1, h2, h3⟩ := st
    exact ⟨k z (by simp) _ hz, k TI (by simp) _ hTI, ⟨x, y, u, k TO (by simp) _ hTO⟩, h1.at fun o q => k i1 (by simp) o q, h2.at fun o q => k i2 (by simp) o q, h3.at fun o q => k i3 (by simp) o q⟩
  item := by
    intro X hP hw hK hc i pins s σ H E I hf st hg
    subst hP hw hK
    obtain ⟨vs0, xs, x, ys, y, zs, vu, hqx, hx, hqy, hy, hqz, hu, _⟩ := hg
    obtain ⟨us, rv, p, _⟩ := sq_items I hqx
    obtain ⟨ws, rv', p', _⟩ := sq_items I hqy
    obtain ⟨ts, rv2, p2, _⟩ := sq_items I hqz
    have hh : X.A.in1.handled = none := I.ok.hd hc
    have W := GoesN.zip3 (elts := elts) (x1 := kk) (pos := tpos) (prog := X.prog) (w := X.w) (A := X.A) S (draws (l := l) (its := us.toArray) hh ha) (draws (l := m) (its := ws.toArray) hh hb) (draws (l := n) (its := ts.toArray) hh hd)
    have lt1 : i < xs.length := (List.getElem?_eq_some_iff.mp hx).1
    have lt2 : i < ys.length := (List.getElem?_eq_some_iff.mp hy).1
    have lt3 : i < zs.length := (List.getElem?_eq_some_iff.mp hu).1
    have hi : i < min (min us.toArray.size ws.toArray.size) ts.toArray.size := by
      have := rv.length
      have := rv'.length
      have := rv2.length
      simp; omega
    refine wpAny_mono (goes_item (Good := fun vs => vs = [x, y, vu]) W hi ⟨st.1, st.2.1, st.2.2.1, ⟨st.2.2.2.1, p⟩, ⟨st.2.2.2.2.1, p'⟩, st.2.2.2.2.2, p2⟩ I (fun c hc => hf c (sub5 hc)) ?_) (fun r s1 ⟨u, e1, q⟩ => ⟨u, e1, wpAny_mono q (fun _ s2 q2 => ?_) fun _ _ z => z⟩) (fun _ _ z => z)
    · rintro v h ⟨T, u1, u2, u3, ev, hT, hu1, hu2, hu3, ht⟩
      obtain ⟨x', hx', rx⟩ := vals_get rv hu1
      obtain ⟨y', hy', ry⟩ := vals_get rv' hu2
      obtain ⟨z', hz', rz⟩ := vals_get rv2 hu3
      rw [hx] at hx'; cases hx'
      rw [hy] at hy'; cases hy'
      rw [hu] at hz'; cases hz'
      exact ⟨T, [u1, u2, u3], [x, y, vu], ev, hT, .cons rx (.cons ry (.cons rz .nil)), by simp, ht, rfl⟩
    · obtain ⟨T, vs, I2, e2, hn, g, hT, st2, st3, st4, ⟨st5, _⟩, ⟨st6, _⟩, st7, _⟩ := q2
      subst g
      refine ⟨.ref T, _, I2, e2, ⟨T, _, rfl, hn, rfl, x, y, vu, rfl, fun l hl => by rw [sq_inj I hl hqx]; exact hx, fun l hl => by rw [sq_inj I hl hqy]; exact hy, fun l hl => by rw [sq_inj I hl hqz]; exact hu⟩, ⟨st2, st3, st4, st5, st6, st7⟩, fun c hc => ?_⟩
      have hc' : c < s.heap.objs.size := by
        obtain ⟨hz, hTI, ⟨x, y, u, hTO⟩, h1, h2, h3⟩ := st
        simp only [List.mem_cons, List.not_mem_nil, or_false] at hc
        rcases hc with q | q | q | q | q | q
        · rw [q]; exact Heap.lt_size hz
        · rw [q]; exact Heap.lt_size hTI
        · rw [q]; exact Heap.lt_size hTO
        · rw [q]; obtain ⟨o, q, _⟩ := h1.obj; exact Heap.lt_size q
        · rw [q]; obtain ⟨o, q, _⟩ := h2.obj; exact Heap.lt_size q
        · rw [q]; obtain ⟨o, q, _⟩ := h3.obj; exact Heap.lt_size q
      rw [upd_ne (Nat.ne_of_lt (Nat.lt_of_lt_of_le hc' hT))]
      exact (hf c hc).1
  done := by
    intro X hP hw hK hc i pins s σ H E I hf st hg
    subst hP hw hK
    obtain ⟨xs, ys, zs, hqx, hqy, hqz, hn⟩ := hg
    obtain ⟨us, rv, p, _⟩ := sq_items I hqx
    obtain ⟨ws, rv', p', _⟩ := sq_items I hqy
    obtain ⟨ts, rv2, p2, _⟩ := sq_items I hqz
    have hh : X.A.in1.handled = none := I.ok.hd hc
    have W := GoesN.zip3 (elts := elts) (x1 := kk) (pos := tpos) (prog := X.prog) (w := X.w) (A := X.A) S (draws (l := l) (its := us.toArray) hh ha) (draws (l := m) (its := ws.toArray) hh hb) (draws (l := n) (its := ts.toArray) hh hd)
    have hn' : min (min us.toArray.size ws.toArray.size) ts.toArray.size = i := by
      have := rv.length
      have := rv'.length
      have := rv2.length
      simp; omega
    exact goes_done W (by rw [hn']; exact ⟨st.1, st.2.1, st.2.2.1, ⟨st.2.2.2.1, p⟩, ⟨st.2.2.2.2.1, p'⟩, st.2.2.2.2.2, p2⟩) I fun c hc => hf c (sub5 hc)
  self := fun A i s Q E st h => wpAny_pyIter_zip st.1 h

/-! ### enumerate begins -/
theorem meets_en {v : Value} {o : Obj} {G : Heap → Prop} (B : Begins v o G) : Meets (Builtin.«enumerate.__new__» ⟨[.type "enumerate", v], []⟩) (fun _ R s => G s.heap ∧
      R (.ok (.ret (.ref (s.heap.push o).objs.size))) { s with heap := (s.heap.push o).push { cls := .type "enumerate", data := .fields #[.none, .bool false, .ref s.heap.objs.size, rawInt 0, .none, .none] } }) :=
  .of_wp fun prog w A R s h => by
    obtain ⟨hp, g, d, tk, os⟩ := s
    obtain ⟨h1, h2⟩ := h
    have hsub := sub_enumerate
    have q1 : ∀ {A' : Around} {E : Value → Shared → Prop} {Q : Value → Shared → Prop}, Q (.ref hp.objs.size) ⟨hp.push o, g, d, tk, os⟩ → wpAny (model prog w) A' (pyIter v) Q E ⟨hp, g, d, tk, os⟩ := fun q => B.iter prog w _ _ _ _ h1 q
    wp_walk using q1
    refine wpAny_stack_any fun st => wpAny_pure ?_
    split
    · rename_i c _ _ _ _ _
      cases (c == Value.type "enumerate") <;> (wp_walk using q1; exact ⟨_, rfl, h2⟩)
    · wp_walk using q1
      exact ⟨_, rfl, h2⟩
theorem en_begins {prog : Program} {w : World} {A : Around} {E : Value → Shared → Prop} {s : Shared} {v : Value} {o : Obj} {G : Heap → Prop} {Q : Value → Shared → Prop} (B : Begins v o G) (h1 : G s.heap)
    (h : ∀ h', IsEnum h' (s.heap.objs.size + 1) s.heap.objs.size 0 .none → h'.get? s.heap.objs.size = some o → (∀ b o, s.heap.get? b = some o → h'.get? b = some o) → Q (.ref (s.heap.objs.size + 1)) { s with heap := h' }) :
    wpAny (model prog w) A (call (.type "enumerate") [v]) Q E s := by
  refine callType_new F.called_enumerate (by decide) (F.typeCall_enumerate_1 _) (F.newCall_enumerate_1 _) (fun obj => F.args_object_init_2 obj _) F.entry_enumerate_new (meets_en B) ⟨h1, ?_⟩
  have hz : (s.heap.push o).objs.size = s.heap.objs.size + 1 := Heap.size_push ..
  show _ ∧ _
  rw [hz]
  have he : ((s.heap.push o).push { cls := .type "enumerate", data := .fields #[.none, .bool false, .ref s.heap.objs.size, rawInt 0, .none, .none] }).get? (s.heap.objs.size + 1) = some { cls := .type "enumerate", data := .fields #[.none, .bool false, .ref s.heap.objs.size, rawInt 0, .none, .none] } := by
    rw [← hz]; exact Heap.get?_push_size _ rfl
  exact ⟨⟨_, he, rfl⟩, h _ he (Heap.get?_push_of_some _ (Heap.get?_push_size _ B.free)) fun b o x => Heap.get?_push_of_some _ (Heap.get?_push_of_some _ x)⟩

/-! ### the iterators -/
section
variable {X : Cx} {e e2 e3 : Expr} {ta : TA} {p pos tpos : Pos} {elts : List Expr} {kk : Nat}
theorem fresh_mem {pins : List (Addr × Obj)} {σ : St} {H : Hp} {s : Shared} (I : Inv X pins σ H s) {l : List Nat} : ∀ c ∈ l.map (s.heap.objs.size + ·), FpOk X pins H c := fun c hc => by
  obtain ⟨k, _, e⟩ := List.mem_map.mp hc
  have hle : s.heap.objs.size ≤ c := by rw [← e]; exact Nat.le_add_right _ _
  exact I.fpOk hle (I.hok.fresh hle)
def iEn (K : PySem.W.Frag) (ta : TA) : TI := fun σ H Rc => ta σ H fun vs H1 => ∃ l a, vs = [.ref a] ∧ (∃ xs, Sq l K H1 a xs) ∧ Rc (ItS (fEn l K a) (gEn l K a) (eEn l K a)) H1
theorem pi_en (hg : Gl X "enumerate") (hm : X.mg "enumerate" = none) (ha : PA X [e] ta) (hs : starEach [e] X.env = [(false, eval e X.env)]) :
    PI X (.Tuple elts kk tpos) (.Call (.Name "enumerate" p) [e] [] pos) (iEn X.K ta) := by
  refine ⟨fun pins s σ H Rc I h => ?_⟩
  refine Call_ (ld_blt I hg hm boot_enumerate (PyProof.Rows.callWith_type1 (thn (ha.run pos pins s σ H _ I h) fun us s1 q1 => ?_) hs rfl))
  obtain ⟨vs, H1, I1, r1, l, a, ex, ⟨xs, hq⟩, q⟩ := q1
  subst ex
  cases r1 with
  | cons r rr =>
    cases rr
    cases r
    obtain ⟨its, rv, p', _⟩ := sq_items I1 hq
    refine en_begins (begins (l := l) (its := its.toArray)) p' fun h' he hit hk => wpAny_pyIter_enum he ?_
    have I2 : Inv X pins σ H1 { s1 with heap := h' } := I1.kept (t' := s1.toks) hk
    exact ⟨_, [s1.heap.objs.size + 1, s1.heap.objs.size], _, _, H1, rfl, I2, turn_en a _ _ (Nat.succ_ne_self _), ⟨⟨.none, he⟩, itO_at hit⟩, fun b hb => fresh_mem I1 (l := [1, 0]) b (by simpa using hb), q⟩
def iZ2 (K : PySem.W.Frag) (ta : TA) : TI := fun σ H Rc => ta σ H fun vs H1 => ∃ l m a b, vs = [.ref a, .ref b] ∧ (∃ xs, Sq l K H1 a xs) ∧ (∃ ys, Sq m K H1 b ys) ∧ Rc (ItS (fZ2 l m K a b) (gZ2 l m K a b) (eZ2 l m K a b)) H1
theorem pi_z2 (hg : Gl X "zip") (hm : X.mg "zip" = none) (ha : PA X [e, e2] ta) (hs : starEach [e, e2] X.env = (false, eval e X.env) :: starEach [e2] X.env) (hpl : (backTo pos (starEach [e2] X.env)).any (·.1) = false) :
    PI X (.Tuple elts kk tpos) (.Call (.Name "zip" p) [e, e2] [] pos) (iZ2 X.K ta) := by
  refine ⟨fun pins s σ H Rc I h => ?_⟩
  refine Call_ (ld_blt I hg hm PyProof.Rows.boot_zip (PyProof.Rows.callWith_type1 (thn (ha.run pos pins s σ H _ I h) fun us s1 q1 => ?_) hs hpl))
  obtain ⟨vs, H1, I1, r1, l, m, a, b, ex, ⟨xs, hqx⟩, ⟨ys, hqy⟩, q⟩ := q1
  subst ex
  cases r1 with
  | cons r rr =>
    cases rr with
    | cons r' rr =>
      cases rr
      cases r
      cases r'
      obtain ⟨its, _, p1, _⟩ := sq_items I1 hqx
      obtain ⟨its2, _, p2, _⟩ := sq_items I1 hqy
      have l1 := p1.lt
      have l2 := p2.lt
      refine zip_begins2 (begins (l := l) (its := its.toArray)) (begins (l := m) (its := its2.toArray)) p1 p2 fun h' hz hTI hTO h1 h2 _ hk => wpAny_pyIter_zip hz ?_
      have I2 : Inv X pins σ H1 { s1 with heap := h' } := I1.kept (t' := s1.toks) hk
      refine ⟨_, [s1.heap.objs.size + 4, s1.heap.objs.size + 2, s1.heap.objs.size + 3, s1.heap.objs.size, s1.heap.objs.size + 1], _, _, H1, rfl, I2, turn_z2 (zip_sep2 (fun c hc => ?_) fun c hc => ?_) (Nat.ne_of_lt l1) (Nat.ne_of_lt (Nat.lt_succ_of_lt l2)), ⟨hz, hTI, ⟨_, _, hTO⟩, itO_at h1, itO_at h2⟩, fun c hc => fresh_mem I1 (l := [4, 2, 3, 0, 1]) c (by simpa using hc), q⟩
      · rw [List.mem_singleton.mp hc]; exact l1
      · rw [List.mem_singleton.mp hc]; exact l2
def iZ3 (K : PySem.W.Frag) (ta : TA) : TI := fun σ H Rc => ta σ H fun vs H1 => ∃ l m n a b d, vs = [.ref a, .ref b, .ref d] ∧ (∃ xs, Sq l K H1 a xs) ∧ (∃ ys, Sq m K H1 b ys) ∧ (∃ zs, Sq n K H1 d zs) ∧ Rc (ItS (fZ3 l m n K a b d) (gZ3 l m n K a b d) (eZ3 l m n K a b d)) H1
theorem pi_z3 (hg : Gl X "zip") (hm : X.mg "zip" = none) (ha : PA X [e, e2, e3] ta) (hs : starEach [e, e2, e3] X.env = (false, eval e X.env) :: starEach [e2, e3] X.env) (hpl : (backTo pos (starEach [e2, e3] X.env)).any (·.1) = false) :
    PI X (.Tuple elts kk tpos) (.Call (.Name "zip" p) [e, e2, e3] [] pos) (iZ3 X.K ta) := by
  refine ⟨fun pins s σ H Rc I h => ?_⟩
  refine Call_ (ld_blt I hg hm PyProof.Rows.boot_zip (PyProof.Rows.callWith_type1 (thn (ha.run pos pins s σ H _ I h) fun us s1 q1 => ?_) hs hpl))
  obtain ⟨vs, H1, I1, r1, l, m, n, a, b, d, ex, ⟨xs, hqx⟩, ⟨ys, hqy⟩, ⟨zs, hqz⟩, q⟩ := q1
  subst ex
  cases r1 with
  | cons r rr =>
    cases rr with
    | cons r' rr =>
      cases rr with
      | cons r2 rr =>
        cases rr
        cases r
        cases r'
        cases r2
        obtain ⟨its, _, p1, _⟩ := sq_items I1 hqx
        obtain ⟨its2, _, p2, _⟩ := sq_items I1 hqy
        obtain ⟨its3, _, p3, _⟩ := sq_items I1 hqz
        have l1 := p1.lt
        have l2 := p2.lt
        have l3 := p3.lt
        refine zip_begins3 (begins (l := l) (its := its.toArray)) (begins (l := m) (its := its2.toArray)) (begins (l := n) (its := its3.toArray)) p1 p2 p3 fun h' hz hTI hTO h1 h2 h3 _ hk => wpAny_pyIter_zip hz ?_
        have I2 : Inv X pins σ H1 { s1 with heap := h' } := I1.kept (t' := s1.toks) hk
        refine ⟨_, [s1.heap.objs.size + 5, s1.heap.objs.size + 3, s1.heap.objs.size + 4, s1.heap.objs.size, s1.heap.objs.size + 1, s1.heap.objs.size + 2], _, _, H1, rfl, I2, turn_z3 (zip_sep3 (fun c hc => ?_) (fun c hc => ?_) fun c hc => ?_) (Nat.ne_of_lt l1) (Nat.ne_of_lt (Nat.lt_succ_of_lt l2)) (Nat.ne_of_lt (Nat.lt_succ_of_lt (Nat.lt_succ_of_lt l3))), ⟨hz, hTI, ⟨_, _, _, hTO⟩, itO_at h1, itO_at h2, itO_at h3⟩, fun c hc => fresh_mem I1 (l := [5, 3, 4, 0, 1, 2]) c (by simpa using hc), q⟩
        · rw [List.mem_singleton.mp hc]; exact l1
        · rw [List.mem_singleton.mp hc]; exact l2
        · rw [List.mem_singleton.mp hc]; exact l3
end

/-! ### what they walk, as data -/
/-- the items of a list or tuple -/
def itemsL (x : D) (M : Mp) (Q : List D → (Mp → Prop) → Mp → Prop) : Prop := match x with
  | .tup ds => Q ds (fun _ => True) M
  | .lst ds => Q ds (fun _ => True) M
  | .scr ns => Q (ns.map D.int) (fun _ => True) M
  | .ref a => ∃ ds, M a = some (.lst ds) ∧ Q ds (fun M' => M' a = some (.lst ds)) M
  | _ => False
theorem itemsL.mono {x : D} {M : Mp} {Q Q' : List D → (Mp → Prop) → Mp → Prop} (h : ∀ ds G M', Q ds G M' → Q' ds G M') (q : itemsL x M Q) : itemsL x M Q' := by
  unfold itemsL at *; split at q
  · exact h _ _ _ q
  · exact h _ _ _ q
  · exact h _ _ _ q
  · obtain ⟨ds, e, q⟩ := q; exact ⟨ds, e, h _ _ _ q⟩
  · exact q
/-- a thing that stands for these items while G -/
structure SrcOk (K : PySem.W.Frag) (F0 : Hp) (l : Bool) (a : Addr) (ds : List D) (G : Mp → Prop) : Prop where
  at_ : ∀ H F M, Same F0 F → R K H F M → G M → ∃ us, Sq l K H a us ∧ Reps K F ds us
theorem src_of {K : PySem.W.Frag} {H F : Hp} {M : Mp} (hr : R K H F M) {x : D} {v : V} (rx : Rep K F x v) {Q : List D → (Mp → Prop) → Mp → Prop} (h : itemsL x M Q) : ∃ l a ds G, v = .ref a ∧ SrcOk K F l a ds G ∧ G M ∧ Q ds G M := by
  unfold itemsL at h; split at h
  · obtain ⟨a, us, e, h1, r1⟩ := rx
    exact ⟨false, a, _, _, e, ⟨fun H F' M s0 hr _ => ⟨us, same_seqT (s0.trans hr.sub) h1, Reps.up s0 _ r1⟩⟩, trivial, h⟩
  · obtain ⟨a, us, e, h1, r1⟩ := rx
    exact ⟨true, a, _, _, e, ⟨fun H F' M s0 hr _ => ⟨us, SqL.of (hr.sub _ _ (s0 _ _ h1)), Reps.up s0 _ r1⟩⟩, trivial, h⟩
  · obtain ⟨a, e, h1⟩ := rx
    exact ⟨true, a, _, _, e, ⟨fun H F' M s0 hr _ => ⟨_, (s0.trans hr.sub).seq h1, reps_ints⟩⟩, trivial, h⟩
  · obtain ⟨ds, e, q⟩ := h
    refine ⟨true, _, _, _, rx, ⟨fun H F' M s0 hr g => ?_⟩, e, q⟩
    obtain ⟨us, h1, r1⟩ := hr.rep _ _ g
    exact ⟨us, SqL.of h1, r1⟩
  · exact h.elim
def enumD : Nat → List D → List D
  | _, [] => []
  | k, d :: ds => .tup [.int (k : Nat), d] :: enumD (k + 1) ds
def zipD : List D → List D → List D
  | x :: xs, y :: ys => .tup [x, y] :: zipD xs ys
  | _, _ => []
def zip3D : List D → List D → List D → List D
  | x :: xs, y :: ys, z :: zs => .tup [x, y, z] :: zip3D xs ys zs
  | _, _, _ => []
theorem enumD_get : ∀ {ds : List D} {k i : Nat} {d : D}, ds[i]? = some d → (enumD k ds)[i]? = some (.tup [.int (k + i : Nat), d])
  | [], _, _, _, h => by simp at h
  | x :: xs, k, 0, d, h => by simp at h; subst h; rfl
  | x :: xs, k, i + 1, d, h => by
    have := enumD_get (ds := xs) (k := k + 1) (i := i) (d := d) (by simpa using h)
    rw [show k + (i + 1) = k + 1 + i by omega]
    simpa [enumD] using this
theorem enumD_len : ∀ {ds : List D} {k : Nat}, (enumD k ds).length = ds.length
  | [], _ => rfl
  | x :: xs, k => by simp [enumD, enumD_len (ds := xs)]
theorem zipD_get : ∀ {xs ys : List D} {i : Nat} {x y : D}, xs[i]? = some x → ys[i]? = some y → (zipD xs ys)[i]? = some (.tup [x, y])
  | [], _, _, _, _, h, _ => by simp at h
  | _ :: _, [], _, _, _, _, h => by simp at h
  | x :: xs, y :: ys, 0, _, _, h, h' => by simp at h h'; subst h h'; rfl
  | x :: xs, y :: ys, i + 1, _, _, h, h' => by simpa [zipD] using zipD_get (xs := xs) (ys := ys) (i := i) (by simpa using h) (by simpa using h')
theorem zipD_len : ∀ {xs ys : List D}, (zipD xs ys).length = min xs.length ys.length
  | [], _ => by simp [zipD]
  | _ :: _, [] => by simp [zipD]
  | x :: xs, y :: ys => by simp [zipD, zipD_len (xs := xs)]
theorem zip3D_get : ∀ {xs ys zs : List D} {i : Nat} {x y z : D}, xs[i]? = some x → ys[i]? = some y → zs[i]? = some z → (zip3D xs ys zs)[i]? = some (.tup [x, y, z])
  | [], _, _, _, _, _, _, h, _, _ => by simp at h
  | _ :: _, [], _, _, _, _, _, _, h, _ => by simp at h
  | _ :: _, _ :: _, [], _, _, _, _, _, _, h => by simp at h
  | x :: xs, y :: ys, z :: zs, 0, _, _, _, h, h', h2 => by simp at h h' h2; subst h h' h2; rfl
  | x :: xs, y :: ys, z :: zs, i + 1, _, _, _, h, h', h2 => by simpa [zip3D] using zip3D_get (xs := xs) (ys := ys) (zs := zs) (i := i) (by simpa using h) (by simpa using h') (by simpa using h2)
theorem zip3D_len : ∀ {xs ys zs : List D}, (zip3D xs ys zs).length = min (min xs.length ys.length) zs.length
  | [], _, _ => by simp [zip3D]
  | _ :: _, [], _ => by simp [zip3D]
  | _ :: _, _ :: _, [] => by simp [zip3D]
  | x :: xs, y :: ys, z :: zs => by simp [zip3D, zip3D_len (xs := xs)]
theorem get_lt {α : Type} {xs : List α} {i : Nat} (h : i < xs.length) : ∃ x, xs[i]? = some x := ⟨_, List.getElem?_eq_getElem h⟩
section
variable {K : PySem.W.Frag} {F0 : Hp} {l m n : Bool} {a b d : Addr} {xs ys zs : List D} {G G' G2 : Mp → Prop}
theorem walks_en (s : SrcOk K F0 l a xs G) : Walks' K F0 (ItS (fEn l K a) (gEn l K a) (eEn l K a)) (enumD 0 xs) G := by
  refine ⟨fun i H F M s0 hr g hi => ?_, fun H F M s0 hr g => ?_⟩
  · rw [enumD_len] at hi
    obtain ⟨us, hq, r⟩ := s.at_ H F M s0 hr g
    obtain ⟨x, hx⟩ := get_lt hi
    obtain ⟨u, hu, ru⟩ := r.get hx
    refine ⟨⟨_, us, u, hq, hu, rfl⟩, ?_⟩
    rintro v H' ⟨T, vs, rfl, hT, rfl, u', rfl, hu'⟩
    have := hu' _ hq
    rw [hu] at this; cases this
    have st := Step.froz hr hT (.tup [.int (i : Nat), u])
    refine ⟨_, _, enumD_get hx, st, ⟨T, _, rfl, .inl (.inl upd_same), ?_⟩⟩
    exact Reps.cons (by rw [Nat.zero_add]; rfl) (Reps.cons (Rep.up st.sub _ ru) Reps.nil)
  · obtain ⟨us, hq, r⟩ := s.at_ H F M s0 hr g
    exact ⟨us, hq, by rw [enumD_len, r.length]⟩
theorem walks_z2 (s : SrcOk K F0 l a xs G) (s' : SrcOk K F0 m b ys G') : Walks' K F0 (ItS (fZ2 l m K a b) (gZ2 l m K a b) (eZ2 l m K a b)) (zipD xs ys) fun M => G M ∧ G' M := by
  refine ⟨fun i H F M s0 hr g hi => ?_, fun H F M s0 hr g => ?_⟩
  · rw [zipD_len] at hi
    obtain ⟨us, hq, r⟩ := s.at_ H F M s0 hr g.1
    obtain ⟨ws, hq2, r2⟩ := s'.at_ H F M s0 hr g.2
    obtain ⟨x, hx⟩ := get_lt (show i < xs.length by omega)
    obtain ⟨y, hy⟩ := get_lt (show i < ys.length by omega)
    obtain ⟨u, hu, ru⟩ := r.get hx
    obtain ⟨w, hw, rw'⟩ := r2.get hy
    refine ⟨⟨_, us, u, ws, w, hq, hu, hq2, hw, rfl⟩, ?_⟩
    rintro v H' ⟨T, vs, rfl, hT, rfl, u', w', rfl, hu', hw'⟩
    have z1 := hu' _ hq
    rw [hu] at z1; cases z1
    have z2 := hw' _ hq2
    rw [hw] at z2; cases z2
    have st := Step.froz hr hT (.tup [u, w])
    exact ⟨_, _, zipD_get hx hy, st, ⟨T, _, rfl, .inl (.inl upd_same), Reps.cons (Rep.up st.sub _ ru) (Reps.cons (Rep.up st.sub _ rw') Reps.nil)⟩⟩
  · obtain ⟨us, hq, r⟩ := s.at_ H F M s0 hr g.1
    obtain ⟨ws, hq2, r2⟩ := s'.at_ H F M s0 hr g.2
    exact ⟨us, ws, hq, hq2, by rw [zipD_len, r.length, r2.length]⟩
theorem walks_z3 (s : SrcOk K F0 l a xs G) (s' : SrcOk K F0 m b ys G') (s2 : SrcOk K F0 n d zs G2) :
    Walks' K F0 (ItS (fZ3 l m n K a b d) (gZ3 l m n K a b d) (eZ3 l m n K a b d)) (zip3D xs ys zs) fun M => G M ∧ G' M ∧ G2 M := by
  refine ⟨fun i H F M s0 hr g hi => ?_, fun H F M s0 hr g => ?_⟩
  · rw [zip3D_len] at hi
    obtain ⟨us, hq, r⟩ := s.at_ H F M s0 hr g.1
    obtain ⟨ws, hq2, r2⟩ := s'.at_ H F M s0 hr g.2.1
    obtain ⟨ts, hq3, r3⟩ := s2.at_ H F M s0 hr g.2.2
    obtain ⟨x, hx⟩ := get_lt (show i < xs.length by omega)
    obtain ⟨y, hy⟩ := get_lt (show i < ys.length by omega)
    obtain ⟨z, hz⟩ := get_lt (show i < zs.length by omega)
    obtain ⟨u, hu, ru⟩ := r.get hx
    obtain ⟨w, hw, rw'⟩ := r2.get hy
    obtain ⟨t, ht, rt⟩ := r3.get hz
    refine ⟨⟨_, us, u, ws, w, ts, t, hq, hu, hq2, hw, hq3, ht, rfl⟩, ?_⟩
    rintro v H' ⟨T, vs, rfl, hT, rfl, u', w', t', rfl, hu', hw', ht'⟩
    have z1 := hu' _ hq
    rw [hu] at z1; cases z1
    have z2 := hw' _ hq2
    rw [hw] at z2; cases z2
    have z3 := ht' _ hq3
    rw [ht] at z3; cases z3
    have st := Step.froz hr hT (.tup [u, w, t])
    exact ⟨_, _, zip3D_get hx hy hz, st, ⟨T, _, rfl, .inl (.inl upd_same), Reps.cons (Rep.up st.sub _ ru) (Reps.cons (Rep.up st.sub _ rw') (Reps.cons (Rep.up st.sub _ rt) Reps.nil))⟩⟩
  · obtain ⟨us, hq, r⟩ := s.at_ H F M s0 hr g.1
    obtain ⟨ws, hq2, r2⟩ := s'.at_ H F M s0 hr g.2.1
    obtain ⟨ts, hq3, r3⟩ := s2.at_ H F M s0 hr g.2.2
    exact ⟨us, ws, ts, hq, hq2, hq3, by rw [zip3D_len, r.length, r2.length, r3.length]⟩
end
end TT
set_option Elab.async false
set_option linter.all false
set_option maxRecDepth 100000
set_option maxHeartbeats 2000000
/-! TJ: comprehensions. -/
namespace TT
open PySem PySem.Spec PyProof.Rows L2

/-! ### a list that no one changes any more is a datum -/
mutual
def D.sub (p : Addr) (ds : List D) : D → D
  | .ref a => if a = p then .lst ds else .ref a
  | .tup xs => .tup (Ds.sub p ds xs)
  | .lst xs => .lst (Ds.sub p ds xs)
  | .non => .non
  | .bl b => .bl b
  | .int i => .int i
  | .str x => .str x
  | .scr ns => .scr ns
def Ds.sub (p : Addr) (ds : List D) : List D → List D
  | [] => []
  | x :: xs => D.sub p ds x :: Ds.sub p ds xs
end
section
variable {K : PySem.W.Frag} {F : Hp} {p : Addr} {ds : List D} {us : List V}
mutual
theorem Rep.subst (hp : F p = some (.lst us)) (hr : Reps K F ds us) : ∀ (d : D) {v : V}, Rep K F d v → Rep K F (d.sub p ds) v
  | .ref a, v, h => by
    show Rep K F (if a = p then .lst ds else .ref a) v
    split
    · rename_i e; subst e; exact ⟨a, us, h, hp, hr⟩
    · exact h
  | .tup xs, v, h => by
    obtain ⟨a, us', e, h1, h2⟩ := h
    exact ⟨a, us', e, h1, Reps.subst hp hr xs h2⟩
  | .lst xs, v, h => by
    obtain ⟨a, us', e, h1, h2⟩ := h
    exact ⟨a, us', e, h1, Reps.subst hp hr xs h2⟩
  | .non, _, h => h
  | .bl _, _, h => h
  | .int _, _, h => h
  | .str _, _, h => h
  | .scr _, _, h => h
theorem Reps.subst (hp : F p = some (.lst us)) (hr : Reps K F ds us) : ∀ (xs : List D) {vs : List V}, Reps K F xs vs → Reps K F (Ds.sub p ds xs) vs
  | [], _, h => h
  | x :: xs, vs, h => by
    obtain ⟨u, us', e, h1, h2⟩ := h
    exact ⟨u, us', e, Rep.subst hp hr x h1, Reps.subst hp hr xs h2⟩
end
end
/-- the same for the names' data -/
def Env.sub (p : Addr) (ds : List D) (ρ : Env) : Env := ρ.map fun o => o.map (D.sub p ds)
theorem EnvR.subst {K : PySem.W.Frag} {F : Hp} {p : Addr} {ds : List D} {us : List V} {ρ : Env} {σ : St} (hp : F p = some (.lst us)) (hr : Reps K F ds us) (e : EnvR K F ρ σ) : EnvR K F (Env.sub p ds ρ) σ := by
  refine ⟨by unfold Env.sub; rw [List.length_map]; exact e.1, fun i d h => ?_⟩
  unfold Env.sub at h
  rw [List.getElem?_map] at h
  cases z : ρ[i]? with
  | none => rw [z] at h; cases h
  | some o =>
    cases o with
    | none => rw [z] at h; cases h
    | some d' =>
      rw [z] at h
      cases h
      obtain ⟨v, h1, h2⟩ := e.2 i d' z
      exact ⟨v, h1, h2.subst hp hr⟩
/-- handles that are not used any more are dropped, lists that are not changed any more become data -/
inductive Dr : Env → Mp → Env → Mp → Prop
  | refl {ρ : Env} {M : Mp} : Dr ρ M ρ M
  | drop {ρ ρ' : Env} {M M' : Mp} (p : Addr) : Dr ρ (mdel M p) ρ' M' → Dr ρ M ρ' M'
  | freeze {ρ ρ' : Env} {M M' : Mp} (p : Addr) {ds : List D} : M p = some (.lst ds) → Dr (Env.sub p ds ρ) (mdel M p) ρ' M' → Dr ρ M ρ' M'
theorem Dr.ok {K : PySem.W.Frag} {H0 F0 : Hp} {M0 : Mp} {ρ ρ' : Env} {M M' : Mp} (z : Dr ρ M ρ' M') : ∀ {H F : Hp} {σ : St}, Step K H0 F0 M0 H F M → EnvR K F ρ σ → ∃ F', Step K H0 F0 M0 H F' M' ∧ EnvR K F' ρ' σ := by
  induction z with
  | refl => exact fun s r => ⟨_, s, r⟩
  | drop p _ ih => exact fun s r => ih (s.trans (Step.drop s.r p)) r
  | freeze p h _ ih =>
    intro H F σ s r
    obtain ⟨us, F', h1, h2, h3, s'⟩ := Step.freeze s.r h
    exact ih (s.trans s') (EnvR.subst h2 h3 (r.up s'.sub))
def dn (u : Env → Mp → Prop) : Env → Mp → Prop := fun ρ M => ∃ ρ' M', Dr ρ M ρ' M' ∧ u ρ' M'
theorem dn.mono {u u' : Env → Mp → Prop} (h : ∀ ρ M, u ρ M → u' ρ M) {ρ : Env} {M : Mp} (q : dn u ρ M) : dn u' ρ M := let ⟨ρ', M', z, q⟩ := q; ⟨ρ', M', z, h _ _ q⟩
theorem dn.refl {u : Env → Mp → Prop} {ρ : Env} {M : Mp} (h : u ρ M) : dn u ρ M := ⟨ρ, M, .refl, h⟩
def vIf (b : Bool) (P Q : Prop) : Prop := match b with
  | true => P
  | false => Q
/-- no exception -/
def noX : KX := fun _ _ => False
def W0 : WX := fun _ _ _ _ => False
/-- a clause's test, if there is one -/
def cOf : Option AE → AT
  | none => fun _ M Q _ => Q true M
  | some t => tOf t
def stepC (te : AE) (ρ' : Env) (acc : List D) (K : List D → Mp → Prop) : Bool → Mp → Prop := fun b M' => match b with
  | true => te ρ' M' (fun y M2 => K (acc ++ [y]) M2) noX
  | false => K acc M'
def wpComp (ρ0 : Env) (k : TgK) (tc : Option AE) (te : AE) (G : Mp → Prop) (K : List D → Mp → Prop) : List D → List D → Mp → Prop
  | [], acc, M => G M ∧ K acc M
  | d :: ds, acc, M => G M ∧ match setTg ρ0 k d with
    | some ρ' => cOf tc ρ' M (stepC te ρ' acc (wpComp ρ0 k tc te G K ds)) noX
    | none => False
def aComp (m : Bool) (own : List Nat) (ti : AI) (k : TgK) (tc : Option AE) (te : AE) : AE := fun ρ M Q X =>
  ti ρ M (fun ds G M1 => ds.length ≤ sizeLine ∧ wpComp (wipeA ρ own) k tc te G (fun acc M2 => alloc m acc M2 Q) ds [] M1) X
theorem cOf.mono {tc : Option AE} (hc : ∀ t, tc = some t → MonoE t) {ρ : Env} {M : Mp} {Q Q' : Bool → Mp → Prop} {X X' : KX} (hq : ∀ b M', Q b M' → Q' b M') (hx : ∀ c M', X c M' → X' c M') (h : cOf tc ρ M Q X) : cOf tc ρ M Q' X' := by
  cases tc with
  | none => exact hq _ _ h
  | some t => exact tOf.mono (hc t rfl) hq hx h
theorem stepC.mono {te : AE} (me : MonoE te) {ρ' : Env} {acc : List D} {K K' : List D → Mp → Prop} (hk : ∀ a M, K a M → K' a M) {b : Bool} {M : Mp} (h : stepC te ρ' acc K b M) : stepC te ρ' acc K' b M := by
  cases b with
  | true => exact me _ _ _ _ _ _ (fun y M2 z => hk _ _ z) (fun _ _ z => z) h
  | false => exact hk _ _ h
theorem wpComp.mono {ρ0 : Env} {k : TgK} {tc : Option AE} {te : AE} {G : Mp → Prop} (hc : ∀ t, tc = some t → MonoE t) (me : MonoE te) {K K' : List D → Mp → Prop} (hk : ∀ a M, K a M → K' a M) : ∀ {ds acc : List D} {M : Mp}, wpComp ρ0 k tc te G K ds acc M → wpComp ρ0 k tc te G K' ds acc M
  | [], acc, M, h => ⟨h.1, hk _ _ h.2⟩
  | d :: ds, acc, M, h => by
    obtain ⟨h1, h2⟩ := h
    refine ⟨h1, ?_⟩
    cases e : setTg ρ0 k d with
    | none => rw [e] at h2; exact h2.elim
    | some ρ' =>
      rw [e] at h2
      exact cOf.mono hc (fun b M' z => stepC.mono me (fun a M2 y => wpComp.mono hc me hk y) z) (fun _ _ z => z) h2
theorem aComp.mono {m : Bool} {own : List Nat} {ti : AI} {k : TgK} {tc : Option AE} {te : AE} (mi : MonoI ti) (hc : ∀ t, tc = some t → MonoE t) (me : MonoE te) : MonoE (aComp m own ti k tc te) := fun ρ M Q Q' X X' hq hx h =>
  mi _ _ _ _ _ _ (fun ds G M1 ⟨h0, h1⟩ => ⟨h0, wpComp.mono hc me (fun a M2 z => alloc_mono hq z) h1⟩) hx h
/-- the target's slots are the block's own -/
def tgIn (own : List Nat) : TgK → Bool
  | .one i => own.contains i
  | .tup is => is.all fun i => own.contains i
theorem wipe_set {σ : St} {v : Option V} {i : Nat} : ∀ {vs : List Nat}, i ∈ vs → L2.wipe (σ.set i v) vs = L2.wipe σ vs
  | [], h => by cases h
  | j :: vs, h => by
    have com : ∀ (τ : St) (a b : Nat) (x : Option V), a = b → (τ.set a x).set b none = τ.set b none := fun τ a b x e => by subst e; rw [List.set_set]
    by_cases hij : i = j
    · subst hij
      show (L2.wipe (σ.set i v) vs).set i none = (L2.wipe σ vs).set i none
      have : ∀ (vs : List Nat) (τ : St), (L2.wipe (τ.set i v) vs).set i none = (L2.wipe τ vs).set i none := by
        intro vs
        induction vs with
        | nil => intro τ; exact com τ i i v rfl
        | cons k vs ih =>
          intro τ
          show ((L2.wipe (τ.set i v) vs).set k none).set i none = ((L2.wipe τ vs).set k none).set i none
          by_cases hk : k = i
          · subst hk; rw [List.set_set, List.set_set]; exact ih τ
          · rw [List.set_comm _ _ hk, ih τ, List.set_comm _ _ hk]
      exact this vs σ
    · have h' : i ∈ vs := by
        rcases List.mem_cons.mp h with e | e
        · exact absurd e hij
        · exact e
      show (L2.wipe (σ.set i v) vs).set j none = (L2.wipe σ vs).set j none
      rw [wipe_set h']
theorem wipe_idem {σ : St} {vs : List Nat} : ∀ {ws : List Nat}, (∀ i ∈ ws, i ∈ vs) → L2.wipe (L2.wipe σ ws) vs = L2.wipe σ vs
  | [], _ => rfl
  | i :: ws, h => by
    show L2.wipe ((L2.wipe σ ws).set i none) vs = L2.wipe σ vs
    rw [wipe_set (h i List.mem_cons_self), wipe_idem fun j hj => h j (List.mem_cons_of_mem _ hj)]
/-- the target's reading, told where the slots behind it stand -/
def gOf (K : PySem.W.Frag) : TgK → TG
  | .one i => gName i
  | .tup is => gOr (gTup K is.length (tupG is)) (gLst K is.length (tupG is))
theorem tupG_ok2 {K : PySem.W.Frag} {H F : Hp} {M : Mp} (hr : R K H F M) {own : List Nat} : ∀ {is : List Nat} {ds : List D} {vs : List V} {ρ ρ' : Env} {σ : St} {Q : St → Hp → Prop}, (is.all fun i => own.contains i) = true → EnvR K F ρ σ → Reps K F ds vs → setMany ρ is ds = some ρ' →
    (∀ σ', EnvR K F ρ' σ' → L2.wipe σ' own = L2.wipe σ own → Q σ' H) → vs.length = is.length ∧ tupG is vs σ H Q
  | [], [], _, _, _, _, _, _, he, r, e, q => by cases (show _ = ([] : List V) from r); cases e; exact ⟨rfl, rfl, q _ he rfl⟩
  | [], _ :: _, _, _, _, _, _, _, _, _, e, _ => by cases e
  | _ :: _, [], _, _, _, _, _, _, _, _, e, _ => by cases e
  | i :: is, d :: ds, _, ρ, ρ', σ, Q, ho, he, ⟨u, us', e1, h1, h2⟩, e, q => by
    subst e1
    rw [List.all_cons, Bool.and_eq_true] at ho
    obtain ⟨hl, g⟩ := tupG_ok2 hr (is := is) (ds := ds) (Q := Q) ho.2 (he.set h1 i) h2 e fun σ' e' w => q σ' e' (w.trans (wipe_set (by simpa using ho.1)))
    exact ⟨by simp [hl], u, us', rfl, g⟩
theorem tg_lift {K : PySem.W.Frag} {own : List Nat} {k : TgK} (ho : tgIn own k = true) {H F : Hp} {M : Mp} {ρ ρ' : Env} {σ : St} {d : D} {v : V} {Q : St → Hp → Prop} (hr : R K H F M) (he : EnvR K F ρ σ) (rd : Rep K F d v) (e : setTg ρ k d = some ρ')
    (q : ∀ σ', EnvR K F ρ' σ' → L2.wipe σ' own = L2.wipe σ own → Q σ' H) : gOf K k v σ H Q := by
  cases k with
  | one i => cases e; exact q _ (he.set rd i) (wipe_set (by simpa [tgIn] using ho))
  | tup is =>
    cases d with
    | tup ds =>
      obtain ⟨a, us, e1, h1, r1⟩ := tup_ok hr rd
      obtain ⟨hl, g⟩ := tupG_ok2 hr ho he r1 (show setMany ρ is ds = some ρ' from e) q
      exact .inl ⟨a, us, e1, h1, hl, g⟩
    | lst ds =>
      obtain ⟨a, us, e1, h1, r1⟩ := rd
      obtain ⟨hl, g⟩ := tupG_ok2 hr ho he r1 (show setMany ρ is ds = some ρ' from e) q
      exact .inr ⟨a, us, e1, SqL.of (hr.sub _ _ h1), hl, g⟩
    | _ => cases e
/-- a clause's tests -/
structure CondOk (X : Cx) (ifs : List Expr) (tc : Option AE) : Prop where
  mono : ∀ t, tc = some t → MonoE t
  pts : PTs X ifs (liftT X.K (cOf tc) W0)
theorem cond_nil {X : Cx} : CondOk X [] none := ⟨fun _ h => (by cases h), ⟨fun pins s σ H Q I ⟨F, ρ, M, r, he, q⟩ => pts_nil.run pins s σ H Q I (q _ _ (Step.refl r))⟩⟩
theorem cond_one {X : Cx} {c : Expr} {t : AE} (h : Both X W0 c t) : CondOk X [c] (some t) := ⟨fun _ e => (by cases e; exact h.ae.mono), pts_one h.pt⟩
section
variable {X : Cx} {W : WX} {elt tg iter : Expr} {ifs : List Expr} {scope : Scope} {own : List (Str × Nat)} {pos : Pos} {ti : AI} {k : TgK} {tc : Option AE} {te : AE} {m : Bool}
theorem lift_comp (hi : MonoI ti) (mc : ∀ t, tc = some t → MonoE t) (me : MonoE te) (ow : List Nat) {G' : TG}
    (hG : ∀ {H F : Hp} {M : Mp} {ρ ρ' : Env} {σ : St} {d : D} {v : V} {Q : St → Hp → Prop}, R X.K H F M → EnvR X.K F ρ σ → Rep X.K F d v → setTg ρ k d = some ρ' → (∀ σ', EnvR X.K F ρ' σ' → L2.wipe σ' ow = L2.wipe σ ow → Q σ' H) → G' v σ H Q) :
    ∀ σ H Q, liftE X.K (aComp m ow ti k tc te) W σ H Q → tLc (liftI X.K ti W) G' (liftT X.K (cOf tc) W0) (liftE X.K te W0) ow σ H Q := by
  rintro σ H Q ⟨F, ρ, M, r, he, q⟩
  refine ⟨F, ρ, M, r, he, hi _ _ _ _ _ _ (fun ds G M1 h1 => ?_) (fun c M1 h1 => h1) q⟩
  intro H1 F1 J s1 wk Da hD
  obtain ⟨hlen, h1⟩ := h1
  refine ⟨fun i m' Hc => m' = ds.length - i ∧ i ≤ ds.length ∧ ∃ F' M' acc us, Step X.K H1 F1 M1 Hc F' M' ∧ Hc Da = some (.lst us) ∧ M' Da = none ∧ F' Da = none ∧ Reps X.K F' acc us ∧ acc.length + (ds.length - i) ≤ sizeLine ∧
    wpComp (wipeA ρ ow) k tc te G (fun acc M2 => alloc m acc M2 (qOf X.K H F M Q)) (ds.drop i) acc M', ⟨ds.length, by simp, Nat.zero_le _, F1, M1, [], [], ?_, upd_same, (s1.r.fresh hD).1, (s1.r.fresh hD).2, Reps.nil, by simpa using hlen, by simpa using h1⟩, ?_⟩
  · refine ⟨Same.refl _, ⟨fun a u z => ?_, s1.r.dis, fun a u z => (s1.r.rep a u z).up (Same.refl _) fun u h => by rw [upd_ne (ne_of_none h hD)]; exact h⟩, fun a u z n => ⟨by rw [upd_ne (ne_of_none z hD)]; exact z, n⟩, fun a u z f n => f⟩
    have z' := s1.r.sub a u z
    rw [upd_ne (ne_of_none z' hD)]; exact z'
  rintro i m' Hc ⟨rfl, hi', F', M', acc, us, st, hDa, hMD, hFD, hru, hsz, hw⟩
  have hk : ds.drop i = match ds[i]? with
    | some d => d :: ds.drop (i + 1)
    | none => [] := by
    by_cases hlt : i < ds.length
    · rw [List.getElem?_eq_getElem hlt]; exact List.drop_eq_getElem_cons hlt
    · rw [List.getElem?_eq_none (by omega), List.drop_eq_nil_of_le (by omega)]
  by_cases hlt : i < ds.length
  · rw [hk, List.getElem?_eq_getElem hlt] at hw
    obtain ⟨hG1, hw⟩ := hw
    obtain ⟨hgo, hy⟩ := wk.go i Hc F' M' st.sub st.r hG1 hlt
    refine .inr ⟨hgo, fun Hn => (i + 1) ≤ ds.length ∧ ∃ F' M' acc us, Step X.K H1 F1 M1 Hn F' M' ∧ Hn Da = some (.lst us) ∧ M' Da = none ∧ F' Da = none ∧ Reps X.K F' acc us ∧ acc.length + (ds.length - (i + 1)) ≤ sizeLine ∧
      wpComp (wipeA ρ ow) k tc te G (fun acc M2 => alloc m acc M2 (qOf X.K H F M Q)) (ds.drop (i + 1)) acc M', fun H' ⟨h', z⟩ => ⟨ds.length - (i + 1), by omega, rfl, h', z⟩, fun x H2 hyx => ?_⟩
    obtain ⟨F2, d, ed, s2, rd⟩ := hy x H2 hyx
    rw [List.getElem?_eq_getElem hlt] at ed
    cases ed
    have s12 := st.trans s2
    have hD2 : H2 Da = some (.lst us) ∧ M' Da = none := s2.keep Da _ hDa hMD
    have hF2 : F2 Da = none := s2.free Da _ hDa hFD hMD
    cases et : setTg (wipeA ρ ow) k ds[i] with
    | none => rw [et] at hw; exact hw.elim
    | some ρ' =>
      rw [et] at hw
      refine hG s2.r (((he.up s1.sub).up s12.sub).wipe ow) rd et fun σ' he' hwp => ?_
      refine ⟨by rw [hwp]; exact wipe_idem fun i hi => hi, F2, ρ', M', s2.r, he', cOf.mono mc (fun b M3 h3 => ?_) (fun _ _ z => z.elim) hw⟩
      intro H3 F3 s3
      have hD3 : H3 Da = some (.lst us) ∧ M3 Da = none := s3.keep Da _ hD2.1 hD2.2
      have hF3 : F3 Da = none := s3.free Da _ hD2.1 hF2 hD2.2
      cases b with
      | false =>
        rw [if_neg Bool.false_ne_true]
        exact ⟨by omega, F3, M3, acc, us, s12.trans s3, hD3.1, hD3.2, hF3, Reps.up (s2.sub.trans s3.sub) _ hru, by omega, h3⟩
      | true =>
        rw [if_pos rfl]
        refine ⟨F3, ρ', M3, s3.r, he'.up s3.sub, me _ _ _ _ _ _ (fun y M4 h4 => ?_) (fun _ _ z => z.elim) h3⟩
        intro H4 F4 v s4 rv
        have hD4 : H4 Da = some (.lst us) ∧ M4 Da = none := s4.keep Da _ hD3.1 hD3.2
        have hF4 : F4 Da = none := s4.free Da _ hD3.1 hF3 hD3.2
        have hru4 := Reps.up ((s2.sub.trans s3.sub).trans s4.sub) _ hru
        have s14 := (s12.trans s3).trans s4
        refine ⟨us, hD4.1, by rw [← hru4.length]; omega, by omega, F4, M4, acc ++ [y], us ++ [v], ?_, upd_same, hD4.2, hF4, hru4.append (Reps.cons rv Reps.nil), by rw [List.length_append, List.length_singleton]; omega, h4⟩
        -- the new list has grown
        refine ⟨s14.sub, ⟨fun a u z => ?_, s4.r.dis, fun a u z => (s4.r.rep a u z).up (Same.refl _) fun u' h => ?_⟩, fun a u z n => ?_, s14.free⟩
        · have hne : a ≠ Da := fun e => by subst e; rw [hF4] at z; cases z
          rw [upd_ne hne]; exact s4.r.sub a u z
        · have hne : a ≠ Da := fun e => by subst e; rw [hD4.2] at z; cases z
          rw [upd_ne hne]; exact h
        · have hne : a ≠ Da := fun e => by subst e; rw [hD] at z; cases z
          rw [upd_ne hne]; exact s14.keep a u z n
  · have e : i = ds.length := by omega
    rw [hk, List.getElem?_eq_none (by omega)] at hw
    obtain ⟨hG1, hw⟩ := hw
    subst e
    refine .inl ⟨wk.stop Hc F' M' st.sub st.r hG1, ?_⟩
    have sT := s1.trans st
    cases m with
    | true =>
      have q := hw Da hMD
      refine q Hc F' (.ref Da) ⟨sT.sub, ⟨st.r.sub, fun a u z => ?_, fun a u z => ?_⟩, fun a u z n => ?_, sT.free⟩ rfl
      · by_cases h : a = Da
        · subst h; exact hFD
        · rw [mset_ne h] at z; exact st.r.dis a u z
      · by_cases h : a = Da
        · subst h; rw [mset_same] at z; cases z; exact ⟨us, hDa, hru⟩
        · rw [mset_ne h] at z; exact st.r.rep a u z
      · obtain ⟨z1, n1⟩ := s1.keep a u z n
        have hne : a ≠ Da := fun e => by subst e; rw [hD] at z1; cases z1
        obtain ⟨z2, n2⟩ := st.keep a u z1 n1
        exact ⟨z2, by rw [mset_ne hne]; exact n2⟩
    | false =>
      refine hw Hc (upd F' Da (.lst us)) (.ref Da) ⟨sT.sub.trans (same_upd hFD), ⟨fun a u z => ?_, fun a u z => ?_, fun a u z => (st.r.rep a u z).up (same_upd hFD) fun u' h => h⟩, sT.keep, fun a u z f n => ?_⟩ ⟨Da, us, rfl, upd_same, Reps.up (same_upd hFD) _ hru⟩
      · by_cases h : a = Da
        · subst h; rw [upd_same] at z; rw [hDa]; exact z
        · rw [upd_ne h] at z; exact st.r.sub a u z
      · have h : a ≠ Da := fun e => by subst e; rw [hMD] at z; cases z
        rw [upd_ne h]; exact st.r.dis a u z
      · obtain ⟨z1, n1⟩ := s1.keep a u z n
        have hne : a ≠ Da := fun e => by subst e; rw [hD] at z1; cases z1
        rw [upd_ne hne]; exact sT.free a u z f n
theorem ae_comp (hc : X.calm = true) (hN : X.N.Nodup) (hi : AIok X W tg iter ti) (ok : BlkOk X.N X.env.scope scope own) (ho : tgIn (own.map (·.2)) k = true) (mc : ∀ t, tc = some t → MonoE t) (me : MonoE te)
    (hg : ∀ (s : Shared) (H : Hp) (C : Addr) (cl : List (Str × Addr)) (fp : List Addr), PG (X.blk s H scope (compEnvC scope cl C X.env) fp) tg (gOf X.K k))
    (hct : ∀ (s : Shared) (H : Hp) (C : Addr) (cl : List (Str × Addr)) (fp : List Addr), CondOk (X.blk s H scope (compEnvC scope cl C X.env) fp) ifs tc)
    (he : ∀ (s : Shared) (H : Hp) (C : Addr) (cl : List (Str × Addr)) (fp : List Addr), AEok (X.blk s H scope (compEnvC scope cl C X.env) fp) W0 elt te) (hs : ∀ x, foldedSetIterable iter X.env x = pure x) :
    AEok X W (.ListComp elt [⟨tg, iter, ifs, 0⟩] scope pos) (aComp m (own.map (·.2)) ti k tc te) :=
  ⟨aComp.mono hi.mono mc me, pe_imp (pe_lc (te := liftE X.K te W0) (tt := liftT X.K (cOf tc) W0) hc hN hi.pi ok hg (fun s H C cl fp => (hct s H C cl fp).pts) (fun s H C cl fp => (he s H C cl fp).pe) hs)
    (lift_comp hi.mono mc me _ fun {H F M ρ ρ' σ d v Q} a b c e f => tg_lift ho a b c e f)⟩
end
end TT
set_option Elab.async false
set_option linter.all false
set_option maxRecDepth 100000
set_option maxHeartbeats 2000000
/-! TK: statements. -/
namespace TT
open PySem PySem.Spec PyProof.Rows L2

structure AEnds where
  nx : Env → Mp → Prop
  rt : KQ
  ex : Str → Env → Mp → Prop
abbrev AS := AEnds → Env → Mp → Prop
structure ALe (A A' : AEnds) : Prop where
  nx : ∀ ρ M, A.nx ρ M → A'.nx ρ M
  rt : ∀ d M, A.rt d M → A'.rt d M
  ex : ∀ c ρ M, A.ex c ρ M → A'.ex c ρ M
def MonoS (t : AS) : Prop := ∀ A A' ρ M, ALe A A' → t A ρ M → t A' ρ M
def endsOf (K : PySem.W.Frag) (H F : Hp) (M : Mp) (D : Ends) (W : WX) : AEnds where
  nx := fun ρ' M' => ∀ H' F' σ', Step K H F M H' F' M' → EnvR K F' ρ' σ' → D.nx σ' H'
  rt := qOf K H F M D.rt
  ex := fun c ρ' M' => ∀ H' F' σ', Step K H F M H' F' M' → EnvR K F' ρ' σ' → W (.ref (He.ga K c)) none σ' H'
theorem endsOf.step {K : PySem.W.Frag} {H F H1 F1 : Hp} {M M1 : Mp} {D : Ends} {W : WX} (s : Step K H F M H1 F1 M1) : ALe (endsOf K H F M D W) (endsOf K H1 F1 M1 D W) :=
  ⟨fun ρ M' h H' F' σ' s' e => h H' F' σ' (s.trans s') e, fun d M' h => qOf.step s h, fun c ρ M' h H' F' σ' s' e => h H' F' σ' (s.trans s') e⟩
theorem ALe.refl (A : AEnds) : ALe A A := ⟨fun _ _ h => h, fun _ _ h => h, fun _ _ _ h => h⟩
theorem ALe.trans {A B C : AEnds} (a : ALe A B) (b : ALe B C) : ALe A C := ⟨fun _ _ h => b.nx _ _ (a.nx _ _ h), fun _ _ h => b.rt _ _ (a.rt _ _ h), fun _ _ _ h => b.ex _ _ _ (a.ex _ _ _ h)⟩
def liftS (K : PySem.W.Frag) (t : AS) (W : WX) : TS := fun D σ H => ∃ F ρ M, R K H F M ∧ EnvR K F ρ σ ∧ t (endsOf K H F M D W) ρ M
structure ASok (X : Cx) (W : WX) (st : Stmt) (t : AS) : Prop where
  mono : MonoS t
  ps : PS X st (liftS X.K t W)
structure BSok (X : Cx) (W : WX) (sts : List Stmt) (t : AS) : Prop where
  mono : MonoS t
  ps : PSs X sts (liftS X.K t W)
theorem ps_imp {X : Cx} {st : Stmt} {t t' : TS} (h : PS X st t) (i : ∀ D σ H, t' D σ H → t D σ H) : PS X st t' := ⟨fun pins s σ H D I q => h.run pins s σ H D I (i _ _ _ q)⟩
theorem pss_imp {X : Cx} {st : List Stmt} {t t' : TS} (h : PSs X st t) (i : ∀ D σ H, t' D σ H → t D σ H) : PSs X st t' := ⟨fun pins s σ H D I q => h.run pins s σ H D I (i _ _ _ q)⟩
/-- what an expression within a statement wants of exceptions -/
def exOf (A : AEnds) (ρ : Env) : KX := fun c M => A.ex c ρ M
theorem exOf.x {K : PySem.W.Frag} {H F : Hp} {M : Mp} {D : Ends} {W : WX} {ρ : Env} {σ : St} (he : EnvR K F ρ σ) {c : Str} {M' : Mp} (h : exOf (endsOf K H F M D W) ρ c M') : xOf K H F M σ W c M' := fun H' F' s => h H' F' σ s (he.up s.sub)
theorem exOf.mono {A A' : AEnds} (h : ALe A A') {ρ : Env} {c : Str} {M : Mp} (q : exOf A ρ c M) : exOf A' ρ c M := h.ex _ _ _ q
def aNext : AS := fun A ρ M => A.nx ρ M
def aThen (t u : AS) : AS := fun A ρ M => t { nx := u A, rt := A.rt, ex := A.ex } ρ M
theorem aThen.mono {t u : AS} (mt : MonoS t) (mu : MonoS u) : MonoS (aThen t u) := fun A A' ρ M h q => mt { nx := u A, rt := A.rt, ex := A.ex } _ _ _ ⟨fun ρ' M' z => mu _ _ _ _ h z, h.rt, h.ex⟩ q
section
variable {X : Cx} {W : WX} {st : Stmt} {sts : List Stmt} {t u : AS} {e o iv : Expr} {te ta ti : AE} {pos pos' : Pos} {x : Str} {i : Nat}
theorem bs_nil : BSok X W [] aNext := ⟨fun _ _ _ _ h q => h.nx _ _ q, pss_imp pss_nil fun D σ H ⟨F, ρ, M, r, he, q⟩ => q _ _ _ (Step.refl r) he⟩
theorem bs_one (h : ASok X W st t) : BSok X W [st] t := ⟨h.mono, pss_one h.ps⟩
theorem bs_cons (h : ASok X W st t) (h2 : BSok X W sts u) : BSok X W (st :: sts) (aThen t u) := by
  refine ⟨aThen.mono h.mono h2.mono, pss_imp (pss_cons h.ps h2.ps) ?_⟩
  rintro D σ H ⟨F, ρ, M, r, he, q⟩
  refine ⟨F, ρ, M, r, he, h.mono { nx := u (endsOf X.K H F M D W), rt := (endsOf X.K H F M D W).rt, ex := (endsOf X.K H F M D W).ex } _ _ _ ⟨fun ρ' M' z => ?_, fun _ _ z => z, fun _ _ _ z => z⟩ q⟩
  intro H' F' σ' s' he'
  exact ⟨F', ρ', M', s'.r, he', h2.mono _ _ _ _ (endsOf.step s') z⟩
def plainW : Expr → Bool
  | .ListComp .. => false
  | .SetComp .. => false
  | .DictComp .. => false
  | _ => true
theorem swap_plain {e : Expr} {t : Option Expr} {l : Nat} {env : PySem.Env} (h : plainW e = true) : swapsWith e t l env = pure false := by
  cases e <;> first | rfl | cases h
/-- name = e, or names = e -/
def aAsg (te : AE) (k : TgK) : AS := fun A ρ M => te ρ M (fun d M' => match setTg ρ k d with
  | some ρ' => A.nx ρ' M'
  | none => False) (exOf A ρ)
theorem aAsg.mono {k : TgK} (me : MonoE te) : MonoS (aAsg te k) := fun A A' ρ M h q => me _ _ _ _ _ _ (fun d M' z => by
  cases e : setTg ρ k d with
  | none => rw [e] at z; exact z.elim
  | some ρ' => rw [e] at z; exact h.nx _ _ z) (fun c M' z => z |> h.ex _ _ _) q
theorem lift_asg {k : TgK} (me : MonoE te) : ∀ D σ H, liftS X.K (aAsg te k) W D σ H → tAsg (liftE X.K te W) (gOf X.K k) D σ H := by
  rintro D σ H ⟨F, ρ, M, r, he, q⟩
  refine ⟨F, ρ, M, r, he, me _ _ _ _ _ _ (fun d M' z => ?_) (fun c M' z => exOf.x he z) q⟩
  intro H' F' v s' rv
  cases e : setTg ρ k d with
  | none => rw [e] at z; exact z.elim
  | some ρ' =>
    rw [e] at z
    exact tg_lift (own := match k with | .one i => [i] | .tup is => is) (by cases k <;> simp [tgIn]) s'.r (he.up s'.sub) rv e fun σ' e' _ => z _ _ _ s' e'
theorem as_set (hN : X.N.Nodup) (hi : X.N[i]? = some x) (hx : Loc X.env.scope x) (hf : X.fn x = true ∨ X.env.scope.names.lookup x = some .local) (he : AEok X W e te) (hs : swapsWith e (some (.Name x pos')) pos.line X.env = pure false) :
    ASok X W (.Assign [.Name x pos'] e pos) (aAsg te (.one i)) := ⟨aAsg.mono he.mono, ps_imp (ps_set hN hi hx he.pe hs hf) (lift_asg he.mono)⟩
def notTup : Expr → Bool
  | .Tuple .. => false
  | _ => true
def notSl : Expr → Bool
  | .Slice .. => false
  | _ => true
theorem stores_none {tg e : Expr} {env : PySem.Env} (h : notTup e = true) : swappedStores [tg] e env = pure none := by
  cases tg <;> cases e <;> first | rfl | cases h
theorem stores_sub {o i e : Expr} {p : Pos} {env : PySem.Env} : swappedStores [.Subscript o i p] e env = pure none := by
  cases e <;> rfl
theorem as_tup {es : List Expr} {is : List Nat} {k : Nat} (hc : X.calm = true) (h : TgsOk X es is) (he : AEok X W e te) (hp : plainW e = true) (hnt : notTup e = true) :
    ASok X W (.Assign [.Tuple es k pos'] e pos) (aAsg te (.tup is)) :=
  ⟨aAsg.mono he.mono, ps_imp (ps_asg he.pe (pg_or (pg_tup hc h.pg h.len h.st) (pg_lst hc h.pg h.len h.st)) (show swapsWith e (some (.Tuple es k pos')) pos.line X.env = pure false from swap_plain hp) (stores_none hnt) rfl) (lift_asg (k := .tup is) he.mono)⟩
/-- name = [..] -/
theorem as_setLc {y : Str} {py spos lpos : Pos} {elt tg iter : Expr} {ifs : List Expr} {scope : Scope} {own : List (Str × Nat)} {ai : AI} {k : TgK} {tc : Option AE} {tl : AE} {m : Bool}
    (hc : X.calm = true) (hN : X.N.Nodup) (hy : X.N[i]? = some y) (hyl : X.env.scope.names.lookup y = some .local) (hsw : swapsWith (.ListComp elt [⟨tg, iter, ifs, 0⟩] scope lpos) (some (.Name y py)) spos.line X.env = pure true)
    (hi : AIok X W tg iter ai) (ok : BlkOk X.N X.env.scope scope own) (ho : tgIn (own.map (·.2)) k = true) (mc : ∀ t, tc = some t → MonoE t) (me : MonoE tl)
    (hg : ∀ (s : Shared) (H : Hp) (C : Addr) (cl : List (Str × Addr)) (fp : List Addr), PG (X.blk s H scope (compEnvC scope cl C X.env) fp) tg (gOf X.K k))
    (hct : ∀ (s : Shared) (H : Hp) (C : Addr) (cl : List (Str × Addr)) (fp : List Addr), CondOk (X.blk s H scope (compEnvC scope cl C X.env) fp) ifs tc)
    (he : ∀ (s : Shared) (H : Hp) (C : Addr) (cl : List (Str × Addr)) (fp : List Addr), AEok (X.blk s H scope (compEnvC scope cl C X.env) fp) W0 elt tl) (hs : ∀ x, foldedSetIterable iter X.env x = pure x) :
    ASok X W (.Assign [.Name y py] (.ListComp elt [⟨tg, iter, ifs, 0⟩] scope lpos) spos) (aAsg (aComp m (own.map (·.2)) ai k tc tl) (.one i)) := by
  have mm : MonoE (aComp m (own.map (·.2)) ai k tc tl) := aComp.mono hi.mono mc me
  refine ⟨aAsg.mono mm, ps_imp (ps_setLc (te := liftE X.K tl W0) (tt := liftT X.K (cOf tc) W0) hc hN hy hyl hsw hi.pi ok hg (fun s H C cl fp => (hct s H C cl fp).pts) (fun s H C cl fp => (he s H C cl fp).pe) hs) fun D σ H q => ?_⟩
  have q2 := lift_asg (X := X) (W := W) (k := .one i) mm D σ H q
  exact lift_comp (W := W) hi.mono mc me _ (fun {H F M ρ ρ' σ d v Q} a b c e f => tg_lift ho a b c e f) σ H _ q2
/-- o.f = e -/
def aSetF (c f : Str) (te ta : AE) : AS := fun A ρ M => te ρ M (fun d M1 => ta ρ M1 (fun x M2 => ∃ a fs, insOf c x M2 = some (a, fs) ∧ fs.length < 1000 ∧ A.nx ρ (mset M2 a (.ins c (putA f d fs)))) (exOf A ρ)) (exOf A ρ)
theorem as_fld {c f : Str} (hc : Cls X.K (He.ga X.K c)) (hn : NoAttr X.K (He.ga X.K c) f) (ho : AEok X W o ta) (he : AEok X W e te) (hs : swapsWith e (some (.Attribute o f pos')) pos.line X.env = pure false) :
    ASok X W (.Assign [.Attribute o f pos'] e pos) (aSetF c f te ta) := by
  refine ⟨fun A A' ρ M h q => he.mono _ _ _ _ _ _ (fun d M1 h1 => ho.mono _ _ _ _ _ _ (fun x M2 ⟨a, fs, g1, g2, g3⟩ => ⟨a, fs, g1, g2, h.nx _ _ g3⟩) (fun c M z => exOf.mono h z) h1) (fun c M z => exOf.mono h z) q, ps_imp (ps_fld ho.pe he.pe hs) ?_⟩
  rintro D σ H ⟨F, ρ, M, r, hE, q⟩
  refine ⟨F, ρ, M, r, hE, he.mono _ _ _ _ _ _ (fun d M1 h1 => ?_) (fun c M' z => exOf.x hE z) q⟩
  intro H1 F1 v s1 rv
  refine ⟨F1, ρ, M1, s1.r, hE.up s1.sub, ho.mono _ _ _ _ _ _ (fun x M2 h2 => ?_) (fun c M' z => (exOf.x hE z).step s1) h1⟩
  intro H2 F2 u s2 ru
  obtain ⟨a, fs, g1, g2, g3⟩ := h2
  obtain ⟨e1, hM, dx, gs, hH, l1, l2⟩ := insOf_ok s2.r ru g1
  have hl : gs.length = fs.length := by have := congrArg List.length l1; rwa [List.length_map, List.length_map] at this
  obtain ⟨p1, p2⟩ := putA_ok f (Rep.up s2.sub _ rv) l1 l2
  have s3 : Step X.K H2 F2 M2 (upd H2 a (.ins (He.ga X.K c) dx (putF f v gs))) F2 (mset M2 a (.ins c (putA f d fs))) := Step.put s2.r hM ⟨dx, _, upd_same, p1, p2⟩
  exact ⟨a, _, dx, gs, e1, hH, hc, hn, by rw [hl]; exact g2, g3 _ _ _ ((s1.trans s2).trans s3) (hE.up (s1.sub.trans (s2.sub.trans s3.sub)))⟩
/-- name, o.f = e -/
def gFld (K : PySem.W.Frag) (to : TE) (f : Str) : TG := fun v σ H Q => to σ H fun x H1 => ∃ a C dx fs, x = .ref a ∧ H1 a = some (.ins C dx fs) ∧ Cls K C ∧ NoAttr K C f ∧ fs.length < 1000 ∧ Q σ (upd H1 a (.ins C dx (putF f v fs)))
theorem pg_fld {to : TE} {f : Str} (ho : PE X o to) : PG X (.Attribute o f pos) (gFld X.K to f) := by
  refine ⟨fun pins s σ H v u Q I r h => ?_⟩
  have ha : assign (.Attribute o f pos) X.env u = (do
      let ov ← holding [u] (eval o X.env)
      standAt pos.atName
      holding [u, ov] (setAttr ov f u)
      release [u, ov] []) := by rfl
  rw [ha]
  refine wpAny_bind (wpAny_holding (thn (ho.run pins s σ H _ I h) fun ov s1 ⟨x, H1, I1, r1, a, C, dx, fs, ex, ea, c, n, l, q⟩ => ?_))
  subst ex
  obtain rfl : ov = Value.ref a := r1
  refine wpAny_bind (wpAny_standAt (wpAny_bind (wpAny_holding (setattr_ok I1 ea c n l r fun s2 I2 => ?_))))
  exact wpAny_release ⟨σ, _, I2, q⟩
def aAsgF (i : Nat) (c f : Str) (te to : AE) : AS := fun A ρ M => te ρ M (fun d M1 => match d with
  | .tup [d1, d2] => to (ρ.set i (some d1)) M1 (fun x M2 => ∃ a fs, insOf c x M2 = some (a, fs) ∧ fs.length < 1000 ∧ A.nx (ρ.set i (some d1)) (mset M2 a (.ins c (putA f d2 fs)))) (exOf A (ρ.set i (some d1)))
  | _ => False) (exOf A ρ)
theorem aAsgF.mono {c f : Str} {te to : AE} (me : MonoE te) (mo : MonoE to) : MonoS (aAsgF i c f te to) := fun A A' ρ M h q => me _ _ _ _ _ _ (fun d M1 z => by
  split at z
  · exact mo _ _ _ _ _ _ (fun x M2 ⟨a, fs, g1, g2, g3⟩ => ⟨a, fs, g1, g2, h.nx _ _ g3⟩) (fun c M z => exOf.mono h z) z
  · exact z) (fun c M z => exOf.mono h z) q
theorem as_asgF {c f : Str} {to : AE} {k : Nat} {p1 p2 : Pos} (hcalm : X.calm = true) (hN : X.N.Nodup) (hi : X.N[i]? = some x) (hx : Loc X.env.scope x) (hf : X.fn x = true ∨ X.env.scope.names.lookup x = some .local) (hc : Cls X.K (He.ga X.K c)) (hn : NoAttr X.K (He.ga X.K c) f)
    (ho : AEok X W o to) (he : AEok X W e te) (hp : plainW e = true) (hnt : notTup e = true) : ASok X W (.Assign [.Tuple [.Name x p1, .Attribute o f p2] k pos'] e pos) (aAsgF i c f te to) := by
  refine ⟨aAsgF.mono he.mono ho.mono, ps_imp (ps_asg he.pe (pg_tup (n := 2) hcalm (pgs_cons (pg_name hN hi hx hf) (pgs_cons (pg_fld ho.pe) pgs_nil)) rfl rfl) (show swapsWith e (some (.Tuple [.Name x p1, .Attribute o f p2] k pos')) pos.line X.env = pure false from swap_plain hp) (stores_none hnt) rfl) ?_⟩
  rintro D σ H ⟨F, ρ, M, r, hE, q⟩
  refine ⟨F, ρ, M, r, hE, he.mono _ _ _ _ _ _ (fun d M1 z => ?_) (fun c M' z => exOf.x hE z) q⟩
  intro H1 F1 v s1 rv
  split at z
  · rename_i d1 d2
    obtain ⟨a, us, e1, h1, r1⟩ := tup_ok s1.r rv
    obtain ⟨v1, v2, e2, q1, q2⟩ := reps2 r1
    subst e2
    have hE1 := (hE.up s1.sub).set q1 i
    refine ⟨a, _, e1, h1, rfl, v1, [v2], rfl, v2, [], rfl, F1, _, M1, s1.r, hE1, ho.mono _ _ _ _ _ _ (fun x M2 h2 => ?_) (fun c M' z => (fun H' F' s' => z H' F' _ (s1.trans s') (hE1.up s'.sub))) z⟩
    intro H2 F2 u s2 ru
    obtain ⟨b, fs, g1, g2, g3⟩ := h2
    obtain ⟨e3, hM, dx, gs, hH, l1, l2⟩ := insOf_ok s2.r ru g1
    have hl : gs.length = fs.length := by have := congrArg List.length l1; rwa [List.length_map, List.length_map] at this
    obtain ⟨p1, p2⟩ := putA_ok f (Rep.up s2.sub _ q2) l1 l2
    have s3 : Step X.K H2 F2 M2 (upd H2 b (.ins (He.ga X.K c) dx (putF f v2 gs))) F2 (mset M2 b (.ins c (putA f d2 fs))) := Step.put s2.r hM ⟨dx, _, upd_same, p1, p2⟩
    exact ⟨b, _, dx, gs, e3, hH, hc, hn, by rw [hl]; exact g2, rfl, g3 _ _ _ ((s1.trans s2).trans s3) (hE1.up (s2.sub.trans s3.sub))⟩
  · exact z.elim
/-- o[i] = e -/
def putKD (kvs : List (Key × D)) (k : Key) (d : D) : List (Key × D) := if (kvs.any fun kv => decide (kv.1 = k)) = true then kvs.map (fun kv => if kv.1 = k then (kv.1, d) else kv) else kvs ++ [(k, d)]
def setO (o i d : D) (M : Mp) (N : Mp → Prop) : Prop := (∃ a xs k j, mlist o M = some (a, xs) ∧ i = .int k ∧ ixN xs.length k = some j ∧ N (mset M a (.lst (xs.set j d)))) ∨
  ∃ a kvs k, o = .ref a ∧ M a = some (.dct kvs) ∧ keyD i = some k ∧ kvs.length < sizeLine ∧ N (mset M a (.dct (putKD kvs k d)))
theorem setO.mono {o i d : D} {M : Mp} {N N' : Mp → Prop} (h : ∀ M, N M → N' M) (q : setO o i d M N) : setO o i d M N' := by
  rcases q with ⟨a, xs, k, j, h1, h2, h3, q⟩ | ⟨a, kvs, k, h1, h2, h3, h4, q⟩
  · exact .inl ⟨a, xs, k, j, h1, h2, h3, h _ q⟩
  · exact .inr ⟨a, kvs, k, h1, h2, h3, h4, h _ q⟩
def rSetK : V → V → V → Hp → (Hp → Prop) → Prop := fun o i v H Q => ∃ a kus k, o = .ref a ∧ i = kV k ∧ H a = some (.dK kus) ∧ kus.length < sizeLine ∧ Q (upd H a (.dK (putK kus k v)))
theorem set_dK (hu : X.A.units + 1 < cLine) : PSet X rSetK := by
  intro pins s σ H o i v ov iv u Q I ro ri rv h
  obtain ⟨a, kus, k, rfl, rfl, hH, hl, q⟩ := h
  cases ro
  exact d_setItem hu I (DPut.k hH hl) ri rv fun s' I' => ⟨_, I', q⟩
theorem pset_or {r r' : V → V → V → Hp → (Hp → Prop) → Prop} (h : PSet X r) (h' : PSet X r') : PSet X (fun o i v H Q => r o i v H Q ∨ r' o i v H Q) := by
  intro pins s σ H o i v ov iv u Q I ro ri rv q
  rcases q with q | q
  · exact h pins s σ H o i v ov iv u Q I ro ri rv q
  · exact h' pins s σ H o i v ov iv u Q I ro ri rv q
theorem putK_ok {K : PySem.W.Frag} {F : Hp} (k : Key) {d : D} {v : V} (hd : Rep K F d v) {kvs : List (Key × D)} {kus : List (Key × V)} (e : kus.map (·.1) = kvs.map (·.1)) (r : Reps K F (kvs.map (·.2)) (kus.map (·.2))) :
    (putK kus k v).map (·.1) = (putKD kvs k d).map (·.1) ∧ Reps K F ((putKD kvs k d).map (·.2)) ((putK kus k v).map (·.2)) := by
  have hany : (kus.any fun kv => decide (kv.1 = k)) = kvs.any fun kv => decide (kv.1 = k) := by
    have h1 : (kus.any fun kv => decide (kv.1 = k)) = (kus.map (·.1)).any fun y => decide (y = k) := by rw [List.any_map] <;> rfl
    have h2 : (kvs.any fun kv => decide (kv.1 = k)) = (kvs.map (·.1)).any fun y => decide (y = k) := by rw [List.any_map] <;> rfl
    rw [h1, h2, e]
  unfold putK putKD
  rw [hany]
  by_cases h : (kvs.any fun kv => decide (kv.1 = k)) = true
  · rw [if_pos h, if_pos h]
    clear hany h
    induction kvs generalizing kus with
    | nil => cases kus with
      | nil => exact ⟨rfl, Reps.nil⟩
      | cons => cases e
    | cons p q ih => cases kus with
      | nil => cases e
      | cons p' q' =>
        simp only [List.map_cons, List.cons.injEq] at e
        obtain ⟨e1, e2⟩ := e
        obtain ⟨u, us', e3, h1, h2⟩ := r
        simp only [List.map_cons, List.cons.injEq] at e3
        obtain ⟨rfl, rfl⟩ := e3
        obtain ⟨i1, i2⟩ := ih e2 h2
        by_cases hk : p.1 = k
        · have hk' : p'.1 = k := e1.trans hk
          simp only [List.map_cons, hk, hk', if_true, i1, true_and]
          exact Reps.cons hd i2
        · have hk' : ¬ p'.1 = k := fun z => hk (e1 ▸ z)
          simp only [List.map_cons, hk, hk', if_false, i1, e1, true_and]
          exact Reps.cons h1 i2
  · rw [if_neg h, if_neg h]
    exact ⟨by simp [e], by simpa using r.append (Reps.cons hd Reps.nil)⟩
def aSetI (te ta ti : AE) : AS := fun A ρ M => te ρ M (fun d M1 => ta ρ M1 (fun x M2 => ti ρ M2 (fun y M3 => setO x y d M3 (A.nx ρ)) (exOf A ρ)) (exOf A ρ)) (exOf A ρ)
theorem as_sub (hu : X.A.units + 1 < cLine) (ho : AEok X W o ta) (hi : AEok X W iv ti) (he : AEok X W e te) (hp : plainW e = true)
    (hsl : notSl iv = true) : ASok X W (.Assign [.Subscript o iv pos'] e pos) (aSetI te ta ti) := by
  refine ⟨fun A A' ρ M h q => he.mono _ _ _ _ _ _ (fun d M1 h1 => ho.mono _ _ _ _ _ _ (fun x M2 h2 => hi.mono _ _ _ _ _ _ (fun y M3 h3 => setO.mono (fun M z => h.nx _ _ z) h3) (fun c M z => exOf.mono h z) h2) (fun c M z => exOf.mono h z) h1) (fun c M z => exOf.mono h z) q,
    ps_imp (ps_asg he.pe (pg_sub ho.pe hi.pe (pset_or set_list (set_dK hu)) (by cases iv <;> first | exact fun _ => rfl | cases hsl)) (show swapsWith e (some (.Subscript o iv pos')) pos.line X.env = pure false from swap_plain hp) stores_sub rfl) ?_⟩
  rintro D σ H ⟨F, ρ, M, r, hE, q⟩
  refine ⟨F, ρ, M, r, hE, he.mono _ _ _ _ _ _ (fun d M1 h1 => ?_) (fun c M' z => exOf.x hE z) q⟩
  intro H1 F1 v s1 rv
  refine ⟨F1, ρ, M1, s1.r, hE.up s1.sub, ho.mono _ _ _ _ _ _ (fun x M2 h2 => ?_) (fun c M' z => (exOf.x hE z).step s1) h1⟩
  intro H2 F2 u s2 ru
  have s12 := s1.trans s2
  refine ⟨F2, ρ, M2, s2.r, hE.up s12.sub, hi.mono _ _ _ _ _ _ (fun y M3 h3 => ?_) (fun c M' z => (exOf.x hE z).step s12) h2⟩
  intro H3 F3 w' s3 rw'
  have s13 := s12.trans s3
  have rv3 := Rep.up (s2.sub.trans s3.sub) _ rv
  have ru3 := Rep.up s3.sub _ ru
  rcases h3 with ⟨a, xs, k, j, g1, g2, g3, q⟩ | ⟨a, kvs, k, g1, g2, g3, g4, q⟩
  · obtain ⟨e1, hM, us, hH, ru'⟩ := mlist_ok s3.r ru3 g1
    subst g2
    have s4 : Step X.K H3 F3 M3 (upd H3 a (.lst (us.set j v))) F3 (mset M3 a (.lst (xs.set j d))) := put_lst s3.r hM (Reps.set rv3 j ru')
    exact .inl ⟨a, us, k, j, e1, rw', hH, by rw [← ru'.length]; exact g3, q _ _ _ (s13.trans s4) (hE.up (s13.sub.trans s4.sub))⟩
  · subst g1
    obtain ⟨us, hH, l1, l2⟩ := s3.r.rep _ _ g2
    have hl : us.length = kvs.length := by have := congrArg List.length l1; rwa [List.length_map, List.length_map] at this
    obtain ⟨p1, p2⟩ := putK_ok k rv3 l1 l2
    have s4 : Step X.K H3 F3 M3 (upd H3 a (.dK (putK us k v))) F3 (mset M3 a (.dct (putKD kvs k d))) := Step.put s3.r g2 ⟨_, upd_same, p1, p2⟩
    exact .inr ⟨a, us, k, ru3, keyD_ok rw' g3, hH, by rw [hl]; exact g4, q _ _ _ (s13.trans s4) (hE.up (s13.sub.trans s4.sub))⟩
/-- name += e, whole numbers -/
def aAug (i : Nat) (te : AE) : AS := fun A ρ M => match getV ρ i with
  | some (.int a) => te ρ M (fun d M1 => match d with
    | .int b => A.nx (ρ.set i (some (.int (a + b)))) M1
    | _ => False) (exOf A ρ)
  | _ => False
theorem as_aug (hN : X.N.Nodup) (hi : X.N[i]? = some x) (hx : Loc X.env.scope x) (hf : X.fn x = true ∨ X.env.scope.names.lookup x = some .local) (he : AEok X W e te) : ASok X W (.AugAssign (.Name x pos') .Add e pos) (aAug i te) := by
  refine ⟨fun A A' ρ M h q => ?_, ps_imp (ps_aug hN hi hx he.pe ip_add hf) ?_⟩
  · unfold aAug at *; split at q
    · exact he.mono _ _ _ _ _ _ (fun d M1 z => by
        split at z
        · exact h.nx _ _ z
        · exact z) (fun c M z => exOf.mono h z) q
    · exact q
  · rintro D σ H ⟨F, ρ, M, r, hE, q⟩
    unfold aAug at q; split at q
    · rename_i a ea
      have ea' : ρ[i]? = some (some (.int a)) := by
        unfold getV at ea; split at ea
        · rename_i e'; cases ea; exact e'
        · cases ea
      obtain ⟨v, hv, rv⟩ := hE.2 i _ ea'
      cases (show v = _ from rv)
      refine ⟨_, hv, F, ρ, M, r, hE, he.mono _ _ _ _ _ _ (fun d M1 z => ?_) (fun c M' z => exOf.x hE z) q⟩
      intro H1 F1 u s1 ru
      split at z
      · exact ⟨a, _, rfl, ru, z _ _ _ s1 ((hE.up s1.sub).set (d := .int _) (v := .int _) rfl i)⟩
      · exact z.elim
    · exact q.elim
def aEx (te : AE) : AS := fun A ρ M => te ρ M (fun _ M' => A.nx ρ M') (exOf A ρ)
def aRet (te : AE) : AS := fun A ρ M => te ρ M A.rt (exOf A ρ)
def aRetN : AS := fun A _ M => A.rt .non M
theorem as_ex (he : AEok X W e te) (hp : plainW e = true) : ASok X W (.Expr e pos) (aEx te) :=
  ⟨fun A A' ρ M h q => he.mono _ _ _ _ _ _ (fun _ _ z => h.nx _ _ z) (fun c M z => exOf.mono h z) q, ps_imp (ps_expr he.pe (swap_plain hp)) fun D σ H ⟨F, ρ, M, r, hE, q⟩ =>
    ⟨F, ρ, M, r, hE, he.mono _ _ _ _ _ _ (fun d M1 z H1 F1 v s1 rv => z _ _ _ s1 (hE.up s1.sub)) (fun c M' z => exOf.x hE z) q⟩⟩
theorem as_ret (he : AEok X W e te) : ASok X W (.Return (some e) pos) (aRet te) :=
  ⟨fun A A' ρ M h q => he.mono _ _ _ _ _ _ (fun _ _ z => h.rt _ _ z) (fun c M z => exOf.mono h z) q, ps_imp (ps_ret he.pe) fun D σ H ⟨F, ρ, M, r, hE, q⟩ =>
    ⟨F, ρ, M, r, hE, he.mono _ _ _ _ _ _ (fun d M1 z => z) (fun c M' z => exOf.x hE z) q⟩⟩
theorem as_retN : ASok X W (.Return none pos) aRetN :=
  ⟨fun A A' ρ M h q => h.rt _ _ q, ps_imp ps_retN fun D σ H ⟨F, ρ, M, r, hE, q⟩ => qOf.here r q rfl⟩
def aIf (tc : AE) (t u : AS) : AS := fun A ρ M => tOf tc ρ M (fun b M' => vIf b (t A ρ M') (u A ρ M')) (exOf A ρ)
theorem as_if {c : Expr} {a b : List Stmt} {tc : AE} (hc : Both X W c tc) (ha : BSok X W a t) (hb : BSok X W b u) : ASok X W (.If c a b pos) (aIf tc t u) := by
  refine ⟨fun A A' ρ M h q => tOf.mono hc.ae.mono (fun b M' z => ?_) (fun c M z => exOf.mono h z) q, ps_imp (ps_if hc.pt ha.ps hb.ps) ?_⟩
  · cases b with
    | true => exact ha.mono _ _ _ _ h z
    | false => exact hb.mono _ _ _ _ h z
  · rintro D σ H ⟨F, ρ, M, r, hE, q⟩
    refine ⟨F, ρ, M, r, hE, tOf.mono hc.ae.mono (fun b M' z => ?_) (fun c M' z => exOf.x hE z) q⟩
    intro H1 F1 s1
    cases b with
    | true => rw [if_pos rfl]; exact ⟨F1, ρ, M', s1.r, hE.up s1.sub, ha.mono _ _ _ _ (endsOf.step s1) z⟩
    | false => rw [if_neg Bool.false_ne_true]; exact ⟨F1, ρ, M', s1.r, hE.up s1.sub, hb.mono _ _ _ _ (endsOf.step s1) z⟩
/-! ### while -/
def wpWhile (tc : AE) (tb : AS) : Nat → AS
  | 0, _, _, _ => False
  | n + 1, A, ρ, M => tOf tc ρ M (fun b M' => vIf b (tb { nx := dn (wpWhile tc tb n A), rt := A.rt, ex := A.ex } ρ M') (A.nx ρ M')) (exOf A ρ)
def aWhile (tc : AE) (tb : AS) : AS := fun A ρ M => ∃ n, wpWhile tc tb n A ρ M
theorem wpWhile.mono {tc : AE} {tb : AS} (mc : MonoE tc) (mb : MonoS tb) : ∀ n, MonoS (wpWhile tc tb n)
  | 0, _, _, _, _, _, q => q
  | n + 1, A, A', ρ, M, h, q => tOf.mono mc (fun b M' z => by
    cases b with
    | true => exact mb { nx := dn (wpWhile tc tb n A), rt := A.rt, ex := A.ex } _ _ _ ⟨fun ρ' M2 y => dn.mono (fun _ _ y => wpWhile.mono mc mb n _ _ _ _ h y) y, h.rt, h.ex⟩ z
    | false => exact h.nx _ _ z) (fun c M z => exOf.mono h z) q
theorem as_while {c : Expr} {b : List Stmt} {tc : AE} {tb : AS} (hp : PassesOwn (model X.prog X.w) X.A X.env X.xe) (hc : Both X W c tc) (hb : BSok X W b tb) : ASok X W (.While c b [] pos) (aWhile tc tb) := by
  refine ⟨fun A A' ρ M h ⟨n, q⟩ => ⟨n, wpWhile.mono hc.ae.mono hb.mono n _ _ _ _ h q⟩, ps_imp (ps_while hp hc.pt hb.ps) ?_⟩
  rintro D σ H ⟨F, ρ, M, r, hE, n, q⟩
  refine ⟨fun n σ' H' => ∃ F' ρ' M', Step X.K H F M H' F' M' ∧ EnvR X.K F' ρ' σ' ∧ wpWhile tc tb n (endsOf X.K H F M D W) ρ' M', ⟨n, F, ρ, M, Step.refl r, hE, q⟩, ?_⟩
  rintro n σ1 H1 ⟨F1, ρ1, M1, s1, hE1, q1⟩
  cases n with
  | zero => exact q1.elim
  | succ n =>
    refine ⟨F1, ρ1, M1, s1.r, hE1, tOf.mono hc.ae.mono (fun b M' z => ?_) (fun c M' z H' F' s' => z H' F' σ1 (s1.trans s') (hE1.up s'.sub)) q1⟩
    intro H2 F2 s2
    have s12 := s1.trans s2
    cases b with
    | true =>
      rw [if_pos rfl]
      refine ⟨fun σ' H' => ∃ F' ρ' M', Step X.K H F M H' F' M' ∧ EnvR X.K F' ρ' σ' ∧ wpWhile tc tb n (endsOf X.K H F M D W) ρ' M', fun σ' H' w => ⟨n, Nat.lt_succ_self _, w⟩, F2, ρ1, M', s2.r, hE1.up s2.sub, hb.mono { nx := dn (wpWhile tc tb n (endsOf X.K H F M D W)), rt := (endsOf X.K H F M D W).rt, ex := (endsOf X.K H F M D W).ex } _ _ _ ⟨fun ρ' M2 y => ?_, fun d M2 y => qOf.step s12 y, fun c ρ' M2 y H' F' σ' s' e' => y _ _ _ (s12.trans s') e'⟩ z⟩
      intro H3 F3 σ3 s3 hE3
      obtain ⟨ρd, Md, zd, y⟩ := y
      obtain ⟨Fd, sd, hEd⟩ := zd.ok (s12.trans s3) hE3
      exact ⟨Fd, ρd, Md, sd, hEd, y⟩
    | false =>
      rw [if_neg Bool.false_ne_true]
      exact z _ _ _ s12 (hE1.up s2.sub)
/-! ### for -/
def wpFor (k : TgK) (tb : AS) (G : Mp → Prop) : List D → AS
  | [], A, ρ, M => G M ∧ A.nx ρ M
  | d :: ds, A, ρ, M => G M ∧ match setTg ρ k d with
    | some ρ' => tb { nx := dn (wpFor k tb G ds A), rt := A.rt, ex := A.ex } ρ' M
    | none => False
def aFor (ti : AI) (k : TgK) (tb : AS) : AS := fun A ρ M => ti ρ M (fun ds G M1 => wpFor k tb G ds A ρ M1) (exOf A ρ)
theorem wpFor.mono {k : TgK} {tb : AS} {G : Mp → Prop} (mb : MonoS tb) : ∀ ds, MonoS (wpFor k tb G ds)
  | [], A, A', ρ, M, h, q => ⟨q.1, h.nx _ _ q.2⟩
  | d :: ds, A, A', ρ, M, h, q => by
    obtain ⟨q1, q2⟩ := q
    refine ⟨q1, ?_⟩
    cases e : setTg ρ k d with
    | none => rw [e] at q2; exact q2.elim
    | some ρ' => rw [e] at q2; exact mb { nx := dn (wpFor k tb G ds A), rt := A.rt, ex := A.ex } _ _ _ ⟨fun ρ' M2 y => dn.mono (fun _ _ y => wpFor.mono mb ds _ _ _ _ h y) y, h.rt, h.ex⟩ q2
theorem as_for {tg iter : Expr} {b : List Stmt} {ai : AI} {k : TgK} {tb : AS} (hp : PassesOwn (model X.prog X.w) X.A X.env X.xe) (hc : X.calm = true) (hi : AIok X W tg iter ai) (hg : PG X tg (gOf X.K k)) (hb : BSok X W b tb)
    (hs : ∀ x, foldedSetIterable iter X.env x = pure x) : ASok X W (.For tg iter b [] pos) (aFor ai k tb) := by
  refine ⟨fun A A' ρ M h q => hi.mono _ _ _ _ _ _ (fun ds G M1 z => wpFor.mono hb.mono ds _ _ _ _ h z) (fun c M z => exOf.mono h z) q, ps_imp (ps_for hp hc hi.pi hg hb.ps hs) ?_⟩
  rintro D σ H ⟨F, ρ, M, r, hE, q⟩
  refine ⟨F, ρ, M, r, hE, hi.mono _ _ _ _ _ _ (fun ds G M1 z => ?_) (fun c M' z => exOf.x hE z) q⟩
  intro H1 F1 J s1 wk
  refine ⟨fun i m σ' Hc => m = ds.length - i ∧ i ≤ ds.length ∧ ∃ F' ρ' M', Step X.K H1 F1 M1 Hc F' M' ∧ EnvR X.K F' ρ' σ' ∧ wpFor k tb G (ds.drop i) (endsOf X.K H F M D W) ρ' M', ⟨ds.length, by simp, Nat.zero_le _, F1, ρ, M1, Step.refl s1.r, hE.up s1.sub, by simpa using z⟩, ?_⟩
  rintro i m σ' Hc ⟨rfl, hi', F', ρ', M', st, hE', hw⟩
  have sT := s1.trans st
  by_cases hlt : i < ds.length
  · rw [List.drop_eq_getElem_cons hlt] at hw
    obtain ⟨hG, hw⟩ := hw
    obtain ⟨hgo, hy⟩ := wk.go i Hc F' M' st.sub st.r hG hlt
    refine .inr ⟨hgo, fun σn Hn => i + 1 ≤ ds.length ∧ ∃ F' ρ' M', Step X.K H1 F1 M1 Hn F' M' ∧ EnvR X.K F' ρ' σn ∧ wpFor k tb G (ds.drop (i + 1)) (endsOf X.K H F M D W) ρ' M', fun σ' H' ⟨h', z⟩ => ⟨ds.length - (i + 1), by omega, rfl, h', z⟩, fun x H2 hyx => ?_⟩
    obtain ⟨F2, d, ed, s2, rd⟩ := hy x H2 hyx
    rw [List.getElem?_eq_getElem hlt] at ed
    cases ed
    cases et : setTg ρ' k ds[i] with
    | none => rw [et] at hw; exact hw.elim
    | some ρ2 =>
      rw [et] at hw
      refine tg_lift (own := match k with | .one i => [i] | .tup is => is) (by cases k <;> simp [tgIn]) s2.r (hE'.up s2.sub) rd et fun σ2 hE2 _ => ?_
      refine ⟨F2, ρ2, M', s2.r, hE2, hb.mono { nx := dn (wpFor k tb G (ds.drop (i + 1)) (endsOf X.K H F M D W)), rt := (endsOf X.K H F M D W).rt, ex := (endsOf X.K H F M D W).ex } _ _ _ ⟨fun ρ3 M3 y => ?_, fun d M3 y => qOf.step (sT.trans s2) y, fun c ρ3 M3 y H' F' σ' s' e' => y _ _ _ ((sT.trans s2).trans s') e'⟩ hw⟩
      intro H3 F3 σ3 s3 hE3
      obtain ⟨ρd, Md, zd, y⟩ := y
      obtain ⟨Fd, sd, hEd⟩ := zd.ok ((st.trans s2).trans s3) hE3
      exact ⟨by omega, Fd, ρd, Md, sd, hEd, y⟩
  · have e : i = ds.length := by omega
    subst e
    rw [List.drop_eq_nil_of_le (Nat.le_refl _)] at hw
    obtain ⟨hG, hw⟩ := hw
    exact .inl ⟨wk.stop Hc F' M' st.sub st.r hG, hw _ _ _ sT hE'⟩
/-! ### raise, try -/
def aRaise (c : Str) : AS := fun A ρ M => A.ex c ρ M
theorem as_raise {c msg : Str} {j : Nat} {p p2 p3 : Pos} (hc : X.calm = true) (tk : L2N.Takes X W) (q : PySem.W.excIn X.K (He.ga X.K c) He.veBase "ValueError.__new__" = true) (gC : X.mg c = some (.ref (He.ga X.K c))) (kC : PySem.W.keepIn X.K (.ref (He.ga X.K c)) = true)
    (bC : PySem.W.subIn X.K (.ref (He.ga X.K c)) (.type "BaseException") = some true) (tC : PySem.W.typeIn X.K (.ref (He.ga X.K c)) = some (.type "type")) (hg : Gl X c) (hdb : (c == ("__debug__" : Str)) = false) :
    ASok X W (.Raise (some (.Call (.Name c p) [.Constant (.str msg) j p2] [] p3)) none pos) (aRaise c) := by
  refine ⟨fun A A' ρ M h q => h.ex _ _ _ q, ps_imp (L2N.ps_raise hc tk (L2N.pmk_own PySem.F.excBase_ValueError q gC kC (raises_own bC tC) hg hdb)) ?_⟩
  rintro D σ H ⟨F, ρ, M, r, hE, q⟩
  exact q _ _ _ (Step.refl r) hE
def aTry (cs : List Str) (tb ts : AS) : AS := fun A ρ M => tb { nx := A.nx, rt := A.rt, ex := fun c ρ' M' => c ∈ cs ∧ ts { nx := A.nx, rt := A.rt, ex := fun _ _ _ => False } ρ' M' } ρ M
theorem as_try {y : Str} {c : Str} {b suite : List Stmt} {b0 : Stmt} {np pos'' : Pos} {cs : List Str} {tb ts : AS} (hs : X.stack = X.env :: X.outer) (hf : X.env.frame = some X.env.locals) (hc : L2.Names X y (.ref (He.ga X.K c))) (tk : L2N.Takes X W)
    (hcs : ∀ z ∈ cs, PySem.W.exmOne X.K (.ref (He.ga X.K z)) (.ref (He.ga X.K c)) = some true)
    (mb : MonoS tb) (ms : MonoS ts)
    (hb : ∀ (W : WX) (pn : List (Addr × Obj)) (xe : Value → Shared → Prop), L2N.Takes (X.tr pn xe) W → PassesOwn (model X.prog X.w) X.A X.env xe → BSok (X.tr pn xe) W b tb)
    (hsu : ∀ (a : Addr) (oe : Obj) (cls : Value) (d : Option Addr) (pn : List (Addr × Obj)), Zc cls d oe → (∃ vs, oe.data = .fields vs) → BSok (X.suite a ((a, oe) :: pn)) W0 (b0 :: suite) ts) :
    ASok X W (.Try b [.ExceptHandler (some (.Name y np)) none (b0 :: suite) pos''] [] [] pos) (aTry cs tb ts) := by
  refine ⟨fun A A' ρ M h q => mb { nx := A.nx, rt := A.rt, ex := fun c ρ' M' => c ∈ cs ∧ ts { nx := A.nx, rt := A.rt, ex := fun _ _ _ => False } ρ' M' } _ _ _ ⟨h.nx, h.rt, fun c ρ' M' ⟨h1, h2⟩ => ⟨h1, ms { nx := A.nx, rt := A.rt, ex := fun _ _ _ => False } _ _ _ ⟨h.nx, h.rt, fun _ _ _ z => z⟩ h2⟩⟩ q,
    ps_imp (L2N.ps_try_many (tb := fun W => liftS X.K tb W) (l := [(.ref (He.ga X.K c), fun _ _ _ => liftS X.K ts W0)]) hs hf tk (fun W pn xe tk' po => (hb W pn xe tk' po).ps) (.cons hc (fun a oe cls d pn z1 z2 => (hsu a oe cls d pn z1.zc z2).ps) .nil)) ?_⟩
  rintro D σ H ⟨F, ρ, M, r, hE, q⟩
  refine ⟨F, ρ, M, r, hE, mb { nx := (endsOf X.K H F M D W).nx, rt := (endsOf X.K H F M D W).rt, ex := fun c ρ' M' => c ∈ cs ∧ ts { nx := (endsOf X.K H F M D W).nx, rt := (endsOf X.K H F M D W).rt, ex := fun _ _ _ => False } ρ' M' } _ _ _ ⟨fun _ _ z => z, fun _ _ z => z, fun z ρ' M' ⟨h1, h2⟩ => ?_⟩ q⟩
  intro H' F' σ' s' hE'
  exact ⟨true, hcs z h1, fun _ a ha => ⟨F', ρ', M', s'.r, hE', ms { nx := (endsOf X.K H F M D W).nx, rt := (endsOf X.K H F M D W).rt, ex := fun _ _ _ => False } _ _ _ ⟨fun ρ2 M2 y => (endsOf.step s').nx _ _ y, fun d M2 y => (endsOf.step s').rt _ _ y, fun c ρ2 M2 y => y.elim⟩ h2⟩, fun w => nomatch w⟩
end
end TT
set_option Elab.async false
set_option linter.all false
set_option maxRecDepth 100000
set_option maxHeartbeats 2000000
/-! TK2: enumerate, zip as parts of a text; displays of dicts; tuple(range(..)); pass. -/
namespace TT
open PySem PySem.Spec PyProof.Rows L2

/-! ### enumerate, zip -/
def enO (ds : List D) (M : Mp) (Q : List D → (Mp → Prop) → Mp → Prop) : Prop := match ds with
  | [x] => itemsL x M fun xs G M' => Q (enumD 0 xs) G M'
  | _ => False
def zpO (ds : List D) (M : Mp) (Q : List D → (Mp → Prop) → Mp → Prop) : Prop := match ds with
  | [x, y] => itemsL x M fun xs G _ => itemsL y M fun ys G' _ => Q (zipD xs ys) (fun M' => G M' ∧ G' M') M
  | [x, y, z] => itemsL x M fun xs G _ => itemsL y M fun ys G' _ => itemsL z M fun zs G2 _ => Q (zip3D xs ys zs) (fun M' => G M' ∧ G' M' ∧ G2 M') M
  | _ => False
theorem enO.mono {ds : List D} {M : Mp} {Q Q' : List D → (Mp → Prop) → Mp → Prop} (h : ∀ ds G M', Q ds G M' → Q' ds G M') (q : enO ds M Q) : enO ds M Q' := by
  unfold enO at *; split at q
  · exact itemsL.mono (fun _ _ _ z => h _ _ _ z) q
  · exact q
theorem zpO.mono {ds : List D} {M : Mp} {Q Q' : List D → (Mp → Prop) → Mp → Prop} (h : ∀ ds G M', Q ds G M' → Q' ds G M') (q : zpO ds M Q) : zpO ds M Q' := by
  unfold zpO at *; split at q
  · exact itemsL.mono (fun _ _ _ z => itemsL.mono (fun _ _ _ z => h _ _ _ z) z) q
  · exact itemsL.mono (fun _ _ _ z => itemsL.mono (fun _ _ _ z => itemsL.mono (fun _ _ _ z => h _ _ _ z) z) z) q
  · exact q
def aEn (t : AA) : AI := fun ρ M Q X => t ρ M (fun ds M1 => enO ds M1 Q) X
def aZp (t : AA) : AI := fun ρ M Q X => t ρ M (fun ds M1 => zpO ds M1 Q) X
theorem aEn.mono {t : AA} (mt : MonoA t) : MonoI (aEn t) := fun ρ M Q Q' X X' hq hx h => mt _ _ _ _ _ _ (fun x M1 h1 => enO.mono hq h1) hx h
theorem aZp.mono {t : AA} (mt : MonoA t) : MonoI (aZp t) := fun ρ M Q Q' X X' hq hx h => mt _ _ _ _ _ _ (fun x M1 h1 => zpO.mono hq h1) hx h
theorem reps3 {K : PySem.W.Frag} {F : Hp} {x y z : D} {vs : List V} (h : Reps K F [x, y, z] vs) : ∃ v u w', vs = [v, u, w'] ∧ Rep K F x v ∧ Rep K F y u ∧ Rep K F z w' := by
  obtain ⟨u, us', e, h1, h2⟩ := h
  obtain ⟨v, w', e2, h3, h4⟩ := reps2 h2
  exact ⟨u, v, w', by rw [e, e2], h1, h3, h4⟩
theorem src_at {K : PySem.W.Frag} {H F : Hp} {M : Mp} (hr : R K H F M) {l : Bool} {a : Addr} {ds : List D} {G : Mp → Prop} (s : SrcOk K F l a ds G) (g : G M) : ∃ xs, Sq l K H a xs := let ⟨us, h, _⟩ := s.at_ H F M (Same.refl _) hr g; ⟨us, h⟩
section
variable {X : Cx} {W : WX} {a b d : Expr} {t : AA} {p pos tpos : Pos} {elts : List Expr} {kk : Nat}
theorem ai_en (hg : Gl X "enumerate") (hm : X.mg "enumerate" = none) (ha : AAok X W [a] t) : AIok X W (.Tuple elts kk tpos) (.Call (.Name "enumerate" p) [a] [] pos) (aEn t) := by
  have hp := ha.plain
  rw [List.all_cons, Bool.and_eq_true] at hp
  refine ⟨aEn.mono ha.mono, pi_imp (pi_en hg hm ha.pa (star_plain hp.1)) ?_⟩
  rintro σ H Rc ⟨F, ρ, M, r, he, q⟩
  refine ⟨F, ρ, M, r, he, ha.mono _ _ _ _ _ _ (fun ds M1 h1 => ?_) (fun c M1 h1 => h1) q⟩
  intro H1 F1 vs s1 r1
  unfold enO at h1; split at h1
  · obtain ⟨v, e1, rv⟩ := reps1 r1
    obtain ⟨l, a', xs, G, e2, so, g, q1⟩ := src_of s1.r rv h1
    subst e1 e2
    exact ⟨l, a', rfl, src_at s1.r so g, q1 _ _ _ s1 (walks_en so)⟩
  · exact h1.elim
theorem ai_zp2 (hg : Gl X "zip") (hm : X.mg "zip" = none) (ha : AAok X W [a, b] t) : AIok X W (.Tuple elts kk tpos) (.Call (.Name "zip" p) [a, b] [] pos) (aZp t) := by
  have hp := ha.plain
  rw [List.all_cons, Bool.and_eq_true] at hp
  refine ⟨aZp.mono ha.mono, pi_imp (pi_z2 hg hm ha.pa (star_plain hp.1) (star_none hp.2)) ?_⟩
  rintro σ H Rc ⟨F, ρ, M, r, he, q⟩
  refine ⟨F, ρ, M, r, he, ha.mono _ _ _ _ _ _ (fun ds M1 h1 => ?_) (fun c M1 h1 => h1) (ha.len _ _ _ _ q)⟩
  intro H1 F1 vs s1 r1
  obtain ⟨hl, h1⟩ := h1
  unfold zpO at h1; split at h1
  · obtain ⟨v, u, e1, rv, ru⟩ := reps2 r1
    obtain ⟨l, a', xs, G, e2, so, g, q1⟩ := src_of s1.r rv h1
    obtain ⟨m, b', ys, G', e3, so', g', q2⟩ := src_of s1.r ru q1
    subst e1 e2 e3
    exact ⟨l, m, a', b', rfl, src_at s1.r so g, src_at s1.r so' g', q2 _ _ _ s1 (walks_z2 so so')⟩
  · cases hl
  · exact h1.elim
theorem ai_zp3 (hg : Gl X "zip") (hm : X.mg "zip" = none) (ha : AAok X W [a, b, d] t) : AIok X W (.Tuple elts kk tpos) (.Call (.Name "zip" p) [a, b, d] [] pos) (aZp t) := by
  have hp := ha.plain
  rw [List.all_cons, Bool.and_eq_true] at hp
  refine ⟨aZp.mono ha.mono, pi_imp (pi_z3 hg hm ha.pa (star_plain hp.1) (star_none hp.2)) ?_⟩
  rintro σ H Rc ⟨F, ρ, M, r, he, q⟩
  refine ⟨F, ρ, M, r, he, ha.mono _ _ _ _ _ _ (fun ds M1 h1 => ?_) (fun c M1 h1 => h1) (ha.len _ _ _ _ q)⟩
  intro H1 F1 vs s1 r1
  obtain ⟨hl, h1⟩ := h1
  unfold zpO at h1; split at h1
  · cases hl
  · obtain ⟨v, u, w', e1, rv, ru, rw'⟩ := reps3 r1
    obtain ⟨l, a', xs, G, e2, so, g, q1⟩ := src_of s1.r rv h1
    obtain ⟨m, b', ys, G', e3, so', g', q2⟩ := src_of s1.r ru q1
    obtain ⟨n, d', zs, G2, e4, so2, g2, q3⟩ := src_of s1.r rw' q2
    subst e1 e2 e3 e4
    exact ⟨l, m, n, a', b', d', rfl, src_at s1.r so g, src_at s1.r so' g', src_at s1.r so2 g2, q3 _ _ _ s1 (walks_z3 so so' so2)⟩
  · exact h1.elim
/-! ### tuple(range(..)) -/
def trg1O (x : D) (M : Mp) (Q : KQ) : Prop := match x with
  | .int j => RgOk 0 j ∧ Q (.tup (rangeD 0 j.toNat)) M
  | _ => False
def trg2O : AO2 := fun x y M Q => match x, y with
  | .int i, .int j => RgOk i j ∧ Q (.tup (rangeD i (j - i).toNat)) M
  | _, _ => False
theorem trg1O.mono {x : D} {M : Mp} {Q Q' : KQ} (h : ∀ d M', Q d M' → Q' d M') (q : trg1O x M Q) : trg1O x M Q' := by
  unfold trg1O at *; split at q
  · exact ⟨q.1, h _ _ q.2⟩
  · exact q
theorem trg2O.mono : MonoO2 trg2O := fun x y M Q Q' h q => by
  unfold trg2O at *; split at q
  · exact ⟨q.1, h _ _ q.2⟩
  · exact q
def lrg1O (m : Bool) (x : D) (M : Mp) (Q : KQ) : Prop := match x with
  | .int j => RgOk 0 j ∧ alloc m (rangeD 0 j.toNat) M Q
  | _ => False
theorem lrg1O.mono {m : Bool} {x : D} {M : Mp} {Q Q' : KQ} (h : ∀ d M', Q d M' → Q' d M') (q : lrg1O m x M Q) : lrg1O m x M Q' := by
  unfold lrg1O at *; split at q
  · exact ⟨q.1, alloc_mono h q.2⟩
  · exact q
theorem reps_rg {K : PySem.W.Frag} {F : Hp} {i j : Int} : Reps K F (rangeD i (j - i).toNat) (rgV i j) := by
  unfold rangeD rgV
  induction List.range (j - i).toNat with
  | nil => exact Reps.nil
  | cons n ns ih => exact Reps.cons rfl ih
variable {ta tb : AE} {p2 pos2 : Pos}
theorem ae_trg1 (hc : X.calm = true) (hg : Gl X "tuple") (hm : X.mg "tuple" = none) (hg2 : Gl X "range") (hm2 : X.mg "range" = none) (hp : plainE a = true) (ha : AEok X W a ta) : AEok X W (.Call (.Name "tuple" p) [.Call (.Name "range" p2) [a] [] pos2] [] pos) (aUn trg1O ta) := by
  refine ⟨aUn.mono (fun _ _ _ _ => trg1O.mono) ha.mono, pe_imp (pe_tupRg hc hg hm (prg_1 hg2 hm2 ha.pe (star_plain hp))) ?_⟩
  rintro σ H Q ⟨F, ρ, M, r, he, q⟩
  refine ⟨F, ρ, M, r, he, ha.mono _ _ _ _ _ _ (fun x M1 h1 => ?_) (fun c M1 h1 => h1) q⟩
  intro H1 F1 v s1 r1
  unfold trg1O at h1; split at h1
  · rename_i j
    refine ⟨j, r1, h1.1, fun q' hq => ?_⟩
    have rr := reps_rg (K := X.K) (F := F1) (i := 0) (j := j)
    rw [Int.sub_zero] at rr
    exact new_tup s1.r rr (h1.2.step s1) q' hq
  · exact h1.elim
theorem ae_lrg1 {m : Bool} (hc : X.calm = true) (hg : Gl X "list") (hm : X.mg "list" = none) (hg2 : Gl X "range") (hm2 : X.mg "range" = none) (hp : plainE a = true) (ha : AEok X W a ta) : AEok X W (.Call (.Name "list" p) [.Call (.Name "range" p2) [a] [] pos2] [] pos) (aUn (lrg1O m) ta) := by
  refine ⟨aUn.mono (fun _ _ _ _ => lrg1O.mono) ha.mono, pe_imp (pe_listRg hc hg hm (prg_1 hg2 hm2 ha.pe (star_plain hp))) ?_⟩
  rintro σ H Q ⟨F, ρ, M, r, he, q⟩
  refine ⟨F, ρ, M, r, he, ha.mono _ _ _ _ _ _ (fun x M1 h1 => ?_) (fun c M1 h1 => h1) q⟩
  intro H1 F1 v s1 r1
  unfold lrg1O at h1; split at h1
  · rename_i j
    refine ⟨j, r1, h1.1, fun q' hq => ?_⟩
    have rr := reps_rg (K := X.K) (F := F1) (i := 0) (j := j)
    rw [Int.sub_zero] at rr
    exact new_lst s1.r rr (alloc_mono (fun d M' z => z.step s1) h1.2) q' hq
  · exact h1.elim
theorem ae_trg2 (hc : X.calm = true) (hg : Gl X "tuple") (hm : X.mg "tuple" = none) (hg2 : Gl X "range") (hm2 : X.mg "range" = none) (hp : plainE a = true) (hp2 : plainE b = true) (ha : AEok X W a ta) (hb : AEok X W b tb) : AEok X W (.Call (.Name "tuple" p) [.Call (.Name "range" p2) [a, b] [] pos2] [] pos) (aBin trg2O ta tb) := by
  refine ⟨aBin.mono trg2O.mono ha.mono hb.mono, pe_imp (pe_tupRg hc hg hm (prg_2 hg2 hm2 ha.pe hb.pe (star_plain hp) (star_plain hp2) (star_none (es := [b]) (by rw [List.all_cons, hp2]; rfl)))) ?_⟩
  rintro σ H Q ⟨F, ρ, M, r, he, q⟩
  refine ⟨F, ρ, M, r, he, ha.mono _ _ _ _ _ _ (fun x M1 h1 => ?_) (fun c M1 h1 => h1) q⟩
  intro H1 F1 v s1 r1
  refine ⟨F1, ρ, M1, s1.r, he.up s1.sub, hb.mono _ _ _ _ _ _ (fun y M2 h2 => ?_) (fun c M2 h2 => h2.step s1) h1⟩
  intro H2 F2 u s2 r2
  unfold trg2O at h2; split at h2
  · exact ⟨_, _, r1, r2, h2.1, new_tup s2.r reps_rg (h2.2.step (s1.trans s2))⟩
  · exact h2.elim
/-! ### pass -/
theorem as_pass : ASok X W (.Pass pos) aNext := ⟨fun _ _ _ _ h q => h.nx _ _ q, ps_imp ps_pass fun D σ H ⟨F, ρ, M, r, he, q⟩ => q _ _ _ (Step.refl r) he⟩
end
/-! ### displays of dicts -/
abbrev AP := Env → Mp → (List (D × D) → Mp → Prop) → KX → Prop
def MonoP (t : AP) : Prop := ∀ ρ M (Q Q' : List (D × D) → Mp → Prop) (X X' : KX), (∀ d M', Q d M' → Q' d M') → (∀ c M', X c M' → X' c M') → t ρ M Q X → t ρ M Q' X'
def apNil : AP := fun _ M Q _ => Q [] M
def apCons (tk tv : AE) (tr : AP) : AP := fun ρ M Q X => tk ρ M (fun x M1 => tv ρ M1 (fun y M2 => tr ρ M2 (fun ps M3 => Q ((x, y) :: ps) M3) X) X) X
theorem apCons.mono {tk tv : AE} {tr : AP} (mk : MonoE tk) (mv : MonoE tv) (mr : MonoP tr) : MonoP (apCons tk tv tr) := fun ρ M Q Q' X X' hq hx h =>
  mk _ _ _ _ _ _ (fun x M1 h1 => mv _ _ _ _ _ _ (fun y M2 h2 => mr _ _ _ _ _ _ (fun ps M3 h3 => hq _ _ h3) hx h2) hx h1) hx h
def keysD : List (D × D) → Option (List (Key × D))
  | [] => some []
  | (x, y) :: r => match keyD x, keysD r with
    | some k, some q => some ((k, y) :: q)
    | _, _ => none
def mergeD (kvs more : List (Key × D)) : List (Key × D) := more.foldl (fun acc kv => putKD acc kv.1 kv.2) kvs
def dspO (ps : List (D × D)) (M : Mp) (Q : KQ) : Prop := ∃ kvs, keysD ps = some kvs ∧ ∀ a, M a = none → Q (.ref a) (mset M a (.dct (mergeD [] kvs)))
def aDsp (t : AP) : AE := fun ρ M Q X => t ρ M (fun ps M1 => dspO ps M1 Q) X
theorem aDsp.mono {t : AP} (mt : MonoP t) : MonoE (aDsp t) := fun ρ M Q Q' X X' hq hx h => mt _ _ _ _ _ _ (fun ps M1 ⟨kvs, e, z⟩ => ⟨kvs, e, fun a ha => hq _ _ (z a ha)⟩) hx h
def RepsP (K : PySem.W.Frag) (F : Hp) : List (D × D) → List (V × V) → Prop
  | [], us => us = []
  | (x, y) :: r, us => ∃ v u us', us = (v, u) :: us' ∧ Rep K F x v ∧ Rep K F y u ∧ RepsP K F r us'
theorem RepsP.up {K : PySem.W.Frag} {F F' : Hp} (s : Same F F') : ∀ (ps : List (D × D)) {us : List (V × V)}, RepsP K F ps us → RepsP K F' ps us
  | [], _, h => h
  | (x, y) :: r, _, ⟨v, u, us', e, h1, h2, h3⟩ => ⟨v, u, us', e, h1.up s, h2.up s, RepsP.up s r h3⟩
def pqOf (K : PySem.W.Frag) (H F : Hp) (M : Mp) (Q : List (V × V) → Hp → Prop) : List (D × D) → Mp → Prop := fun ps M' => ∀ H' F' vs, Step K H F M H' F' M' → RepsP K F' ps vs → Q vs H'
def liftP (K : PySem.W.Frag) (t : AP) (W : WX) (σ : St) (H : Hp) (Q : List (V × V) → Hp → Prop) : Prop := ∃ F ρ M, R K H F M ∧ EnvR K F ρ σ ∧ t ρ M (pqOf K H F M Q) (xOf K H F M σ W)
structure APok (X : Cx) (W : WX) (pos : Pos) (keys : List (Option Expr)) (values : List Expr) (t : AP) : Prop where
  mono : MonoP t
  ex : ∃ trs, PPs X pos keys values trs ∧ ∀ σ H Q, liftP X.K t W σ H Q → tPairs trs σ H Q
  all : keys.all (·.isSome) = true
  len : keys.length = values.length
section
variable {X : Cx} {W : WX} {k v : Expr} {ks : List (Option Expr)} {vs : List Expr} {tk tv : AE} {tr : AP} {pos : Pos}
theorem ap_nil : APok X W pos [] [] apNil := ⟨fun _ _ _ _ _ _ h _ q => h _ _ q, ⟨[], pps_nil, fun σ H Q ⟨F, ρ, M, r, he, q⟩ => q _ _ _ (Step.refl r) rfl⟩, rfl, rfl⟩
theorem ap_cons (hk : AEok X W k tk) (hv : AEok X W v tv) (hr : APok X W pos ks vs tr) : APok X W pos (some k :: ks) (v :: vs) (apCons tk tv tr) := by
  obtain ⟨trs, h1, h2⟩ := hr.ex
  refine ⟨apCons.mono hk.mono hv.mono hr.mono, ⟨_, pps_cons hk.pe hv.pe h1, ?_⟩, by rw [List.all_cons, hr.all] <;> rfl, by simp [hr.len]⟩
  rintro σ H Q ⟨F, ρ, M, r, he, q⟩
  refine ⟨F, ρ, M, r, he, hk.mono _ _ _ _ _ _ (fun x M1 g1 => ?_) (fun c M1 g1 => g1) q⟩
  intro H1 F1 vx s1 rx
  refine ⟨F1, ρ, M1, s1.r, he.up s1.sub, hv.mono _ _ _ _ _ _ (fun y M2 g2 => ?_) (fun c M2 g2 => g2.step s1) g1⟩
  intro H2 F2 vy s2 ry
  have s12 := s1.trans s2
  refine h2 _ _ _ ⟨F2, ρ, M2, s2.r, he.up s12.sub, hr.mono _ _ _ _ _ _ (fun ps M3 g3 => ?_) (fun c M3 g3 => g3.step s12) g2⟩
  intro H3 F3 us s3 rs
  exact g3 _ _ _ (s12.trans s3) ⟨_, _, _, rfl, Rep.up (s2.sub.trans s3.sub) _ rx, Rep.up s3.sub _ ry, rs⟩
theorem keys_ok {K : PySem.W.Frag} {F : Hp} : ∀ {ps : List (D × D)} {us : List (V × V)} {kvs : List (Key × D)}, RepsP K F ps us → keysD ps = some kvs → ∃ kus : List (Key × V), us = kus.map (fun kv => (kV kv.1, kv.2)) ∧ kus.map (·.1) = kvs.map (·.1) ∧ Reps K F (kvs.map (·.2)) (kus.map (·.2)) ∧ kus.length = ps.length
  | [], _, _, h, e => by cases (show _ = ([] : List (V × V)) from h); cases e; exact ⟨[], rfl, rfl, Reps.nil, rfl⟩
  | (x, y) :: r, _, kvs, ⟨v, u, us', e1, h1, h2, h3⟩, e => by
    have e' : (match keyD x, keysD r with
      | some k, some q => some ((k, y) :: q)
      | _, _ => none) = some kvs := e
    split at e'
    · rename_i k q ek er
      cases e'
      obtain ⟨kus, g1, g2, g3, g4⟩ := keys_ok h3 er
      refine ⟨(k, u) :: kus, by rw [e1, g1, keyD_ok h1 ek] <;> rfl, by simp [g2], Reps.cons h2 g3, by simp [g4]⟩
    · cases e'
theorem merge_ok {K : PySem.W.Frag} {F : Hp} : ∀ {more kvs : List (Key × D)} {more' kus : List (Key × V)}, more'.map (·.1) = more.map (·.1) → Reps K F (more.map (·.2)) (more'.map (·.2)) → kus.map (·.1) = kvs.map (·.1) → Reps K F (kvs.map (·.2)) (kus.map (·.2)) →
    (mergeK kus more').map (·.1) = (mergeD kvs more).map (·.1) ∧ Reps K F ((mergeD kvs more).map (·.2)) ((mergeK kus more').map (·.2))
  | [], _, [], _, _, _, h1, h2 => ⟨h1, h2⟩
  | [], _, _ :: _, _, e, _, _, _ => by cases e
  | _ :: _, _, [], _, e, _, _, _ => by cases e
  | p :: r, kvs, p' :: r', kus, e, g, h1, h2 => by
    simp only [List.map_cons, List.cons.injEq] at e
    obtain ⟨e1, e2⟩ := e
    obtain ⟨u, us', e3, g1, g2⟩ := g
    simp only [List.map_cons, List.cons.injEq] at e3
    obtain ⟨rfl, rfl⟩ := e3
    obtain ⟨i1, i2⟩ := putK_ok p.1 g1 h1 h2
    show (mergeK (putK kus p'.1 p'.2) r').map (·.1) = (mergeD (putKD kvs p.1 p.2) r).map (·.1) ∧ Reps K F ((mergeD (putKD kvs p.1 p.2) r).map (·.2)) ((mergeK (putK kus p'.1 p'.2) r').map (·.2))
    rw [e1]
    exact merge_ok e2 g2 i1 i2
theorem ae_dsp (h : APok X W pos ks vs tr) (h0 : ks ≠ []) (h15 : ks.length ≤ 15) (hn : ∀ ρ M Q E, tr ρ M Q E → tr ρ M (fun ps M' => ps.length ≤ 15 ∧ Q ps M') E) : AEok X W (.Dict ks vs pos) (aDsp tr) := by
  obtain ⟨trs, h1, h2⟩ := h.ex
  refine ⟨aDsp.mono h.mono, pe_imp (pe_disp h1 h.all h.len h0 h15) ?_⟩
  rintro σ H Q ⟨F, ρ, M, r, he, q⟩ p hp
  obtain ⟨hm, hf⟩ := r.fresh hp
  have s0 : Step X.K H F M (upd H p (.dK [])) F M := by
    refine ⟨Same.refl _, ⟨fun a u z => ?_, r.dis, fun a u z => (r.rep a u z).up (Same.refl _) fun u h => by rw [upd_ne (ne_of_none h hp)]; exact h⟩, fun a u z n => ⟨by rw [upd_ne (ne_of_none z hp)]; exact z, n⟩, fun a u z f n => f⟩
    have z' := r.sub a u z
    rw [upd_ne (ne_of_none z' hp)]; exact z'
  refine h2 _ _ _ ⟨F, ρ, M, s0.r, he, h.mono _ _ _ _ _ _ (fun ps M1 ⟨hl, kvs, e, g1⟩ => ?_) (fun c M1 g1 => g1.step s0) (hn _ _ _ _ q)⟩
  intro H1 F1 us s1 rs
  obtain ⟨kus, g2, g3, g4, g5⟩ := keys_ok rs e
  obtain ⟨k1, k2⟩ := s1.keep p _ (upd_same) hm
  have k3 := s1.free p _ upd_same hf hm
  refine ⟨k1, kus, g2, by omega, ?_⟩
  obtain ⟨m1, m2⟩ := merge_ok (kvs := []) (kus := []) g3 g4 rfl Reps.nil
  refine g1 p k2 _ F1 _ ?_ rfl
  -- the new dict is ours now
  refine ⟨s1.sub, ⟨fun a u z => ?_, fun a u z => ?_, fun a u z => ?_⟩, fun a u z n => ?_, fun a u z f n => ?_⟩
  · have hne : a ≠ p := fun e => by subst e; rw [k3] at z; cases z
    rw [upd_ne hne]; exact s1.r.sub a u z
  · by_cases hne : a = p
    · subst hne; exact k3
    · rw [mset_ne hne] at z; exact s1.r.dis a u z
  · by_cases hne : a = p
    · subst hne; rw [mset_same] at z; cases z; exact ⟨_, upd_same, m1, m2⟩
    · rw [mset_ne hne] at z
      exact (s1.r.rep a u z).up (Same.refl _) fun u' h' => by rw [upd_ne hne]; exact h'
  · have hne : a ≠ p := fun e => by subst e; rw [hp] at z; cases z
    obtain ⟨y1, y2⟩ := s1.keep a u (by rw [upd_ne hne]; exact z) n
    exact ⟨by rw [upd_ne hne]; exact y1, by rw [mset_ne hne]; exact y2⟩
  · have hne : a ≠ p := fun e => by subst e; rw [hp] at z; cases z
    exact s1.free a u (by rw [upd_ne hne]; exact z) f n
theorem ae_dsp0 : AEok X W (.Dict [] [] pos) (aDsp apNil) := by
  refine ⟨aDsp.mono fun _ _ _ _ _ _ h _ q => h _ _ q, pe_imp pe_dnewK ?_⟩
  rintro σ H Q ⟨F, ρ, M, r, he, kvs, e, q⟩ p hp
  cases e
  exact q p (r.fresh hp).1 _ _ _ (Step.mut r hp ⟨[], upd_same, rfl, Reps.nil⟩) rfl
end
end TT
set_option Elab.async false
set_option linter.all false
set_option maxRecDepth 100000
set_option maxHeartbeats 2000000
/-! TS0: try, except as, the suite calling the def that tells the exception's classes. -/
namespace TT
open PySem PySem.Spec PyProof.Rows L2 L2H
def k1 : List Str := ["NoPost", "NoRow", "NoText", "Nothing"]
def k2 : List Str := ["NotRunning", "NoTree", "Unsettled"]
def kW : List Str := ["NoPost", "NoRow", "NoText", "Nothing", "NotRunning", "NoTree", "Unsettled", "+"]
def kN : List Str := ["_law_e", "_law_some", "_law_words", "_law_k"]
def flagsOf (C : Str) : List Bool := (k1 ++ k2).map (fun y => decide (C = y)) ++ [true]
def kindsOf (C : Str) : Str := Txt.join "" ((((List.range 8).filter fun i => (flagsOf C).getD i false)).map fun i => kW.getD i "")
/-- the promise of that def, called while the exception p, of the class C, is handled -/
structure FnK (P : Program) (w : World) (K : PySem.W.Frag) (mg : Str → Option Value) (base : Heap) (f : Addr) (fd : FuncData) (C : Str) : Prop where
  run : ∀ (A : Around) (outer : List PySem.Env) (s : Shared) (H : Hp) (args : Args) (p : Addr × Obj) (Q : VK), RoomH 1 A → Hot1 A p → PinOk outer H s p → Zc (.ref (He.ga K C)) none p.2 → Env0 P w K mg base A outer s H → BindsTo s fd args [("_law_e", Value.ref p.1)] →
    (∃ F M, R K H F M ∧ qOf K H F M Q (.str (kindsOf C)) M) → codeAny (model P w) A (.call (.ref f) args) (CR (L2N.CX P w) outer P w H s Q fun _ _ _ => False) s
def aKinds (i : Nat) (a : Addr) (C : Str) : AE := fun ρ M Q _ => getV ρ i = some (.ref a) ∧ Q (.str (kindsOf C)) M
theorem aKinds.mono {i : Nat} {a : Addr} {C : Str} : MonoE (aKinds i a C) := fun _ _ _ _ _ _ hq _ h => ⟨h.1, hq _ _ h.2⟩
section
variable {X : Cx} {W : WX} {i j : Nat} {a : Addr} {oe : Obj} {pn : List (Addr × Obj)} {C : Str} {f : Addr} {fd : FuncData} {kf n : Str} {p p1 pos : Pos}
/-- the call -/
theorem ae_kinds (G : FnK X.prog X.w X.K X.mg X.base f fd C) (hr : RoomH 1 X.A) (hz : L2N.Zn (.ref (He.ga X.K C)) none oe) (hf : ∃ vs, oe.data = .fields vs) (hg : Gl X kf) (hm : X.mg kf = some (.ref f)) (hk : PySem.W.keepIn X.K (.ref f) = true) (hb : L2.Binds X.K fd ["_law_e"] [])
    (hd : (kf == ("__debug__" : Str)) = false) (hv : AEok (X.suite a ((a, oe) :: pn)) W (.Name n p1) (aVar i)) : AEok (X.suite a ((a, oe) :: pn)) W (.Call (.Name kf p) [.Name n p1] [] pos) (aKinds i a C) := by
  refine ⟨aKinds.mono, ⟨fun pins s σ H Q J ⟨F, ρ, M, r, he, e1, q⟩ => ?_⟩⟩
  obtain ⟨vs0, hvs⟩ := hf
  have hot : Hot1 (X.suite a ((a, oe) :: pn)).A (a, oe) := ⟨rfl, vs0, hvs, hz.2.2 vs0 hvs⟩
  have arg : PA (X.suite a ((a, oe) :: pn)) [.Name n p1] (tCons (liftE X.K (aVar i) W) tNil) := pa_cons hv.pe pa_nil
  refine wpAny_Call_Name_kw (ld_glob J hg hm ?_ hd)
  refine PySem.W.callWith_K (h₀ := X.base) J.ok.mod.kin hk (thn (arg.run pos pins s σ H (fun vs H1 => vs = [.ref a] ∧ ∃ F1 M1, R X.K H1 F1 M1 ∧ qOf X.K H1 F1 M1 Q (.str (kindsOf C)) M1) J ?_) fun us s1 hh => ?_) rfl rfl
  · refine ⟨F, ρ, M, r, he, ?_⟩
    unfold aVar
    rw [e1]
    intro H1 F1 v1 st rv
    cases (show v1 = _ from rv)
    exact ⟨rfl, F1, M, st.r, q.step st⟩
  · obtain ⟨vs, H1, J1, rv, evs, F1, M1, r1, q1⟩ := hh
    subst evs
    refine ⟨J1.kIn, ?_⟩
    cases rv with
    | cons ru rn =>
      cases rn
      cases ru
      have stand := J1.pin (a, oe) (List.mem_append_left _ (List.mem_cons_self ..))
      have hpin : PinOk (X.suite a ((a, oe) :: pn)).stack H1 s1 (a, oe) := ⟨stand.1, stand.2.1, fun hm' => (List.mem_cons.mp (J1.stkSub a hm')).elim stand.2.2.1 stand.2.2.2.1, stand.2.2.2.2⟩
      have bt := hb s1 [.ref a] J1.kIn rfl
      refine wpAny_call (codeAny_mono (G.run _ _ s1 H1 ⟨[.ref a], []⟩ (a, oe) Q ⟨hr.dp, hr.un⟩ hot hpin hz.zc J1.env0 bt ⟨F1, M1, r1, q1⟩) fun res s2 hres => ?_)
      cases res with
      | error e =>
        obtain ⟨_, _, _, _, _, _, _, _, _, _, _, _, z⟩ := hres
        exact z.elim
      | ok fl =>
        cases fl with
        | ret u => exact J1.after hres
        | next => exact hres.elim
        | brk => exact hres.elim
        | cont => exact hres.elim
def aTryK (i j : Nat) (cs : List Str) (tb : AS) : AS := fun A ρ M => tb { nx := A.nx, rt := A.rt, ex := fun c ρ' M' => c ∈ cs ∧ i < ρ'.length ∧ A.nx ((ρ'.set j (some (.str (kindsOf c)))).set i none) M' } ρ M
theorem aTryK.mono {cs : List Str} {tb : AS} (mb : MonoS tb) : MonoS (aTryK i j cs tb) := fun A A' ρ M h q =>
  mb { nx := A.nx, rt := A.rt, ex := fun c ρ' M' => c ∈ cs ∧ i < ρ'.length ∧ A.nx ((ρ'.set j (some (.str (kindsOf c)))).set i none) M' } _ _ _ ⟨h.nx, h.rt, fun c ρ' M' ⟨h1, h2, h3⟩ => ⟨h1, h2, h.nx _ _ h3⟩⟩ q
theorem as_tryK {y c r : Str} {b : List Stmt} {np rp ap pos'' pos3 : Pos} {cs : List Str} {tb : AS} (hs : X.stack = X.env :: X.outer) (hfr : X.env.frame = some X.env.locals) (hN : X.N.Nodup) (hi : X.N[i]? = some n) (hln : X.env.kindOf n = some .local) (hj : X.N[j]? = some r) (hx : Loc X.env.scope r)
    (hl : X.fn r = true ∨ X.env.scope.names.lookup r = some .local) (hij : i ≠ j) (hc : L2.Names X y (.ref (He.ga X.K c))) (tk : L2N.Takes X W) (hn1 : (n == ("__debug__" : Str)) = false) (hn2 : (n == ("__classdict__" : Str)) = false)
    (hcs : ∀ z ∈ cs, PySem.W.exmOne X.K (.ref (He.ga X.K z)) (.ref (He.ga X.K c)) = some true) (mb : MonoS tb)
    (hb : ∀ (W : WX) (pn : List (Addr × Obj)) (xe : Value → Shared → Prop), L2N.Takes (X.tr pn xe) W → PassesOwn (model X.prog X.w) X.A X.env xe → BSok (X.tr pn xe) W b tb)
    (G : ∀ z ∈ cs, FnK X.prog X.w X.K X.mg X.base f fd z) (hr : RoomH 1 X.A) (hg : Gl X kf) (hm : X.mg kf = some (.ref f)) (hk : PySem.W.keepIn X.K (.ref f) = true) (hbi : L2.Binds X.K fd ["_law_e"] []) (hd : (kf == ("__debug__" : Str)) = false) :
    ASok X W (.Try b [.ExceptHandler (some (.Name y np)) (some n) [.Assign [.Name r rp] (.Call (.Name kf p) [.Name n p1] [] pos) ap] pos''] [] [] pos3) (aTryK i j cs tb) := by
  have vis : Vis X.env.scope n := .inl hln
  refine ⟨aTryK.mono mb, ps_imp (L2N.ps_try_as (tb := fun W => liftS X.K tb W) (ts := fun a cls d D σ H => ∃ z, cls = .ref (He.ga X.K z) ∧ d = none ∧ z ∈ cs ∧ liftS X.K (aAsg (aKinds i a z) (.one j)) W0 D σ H) (Wout := W)
    hs hfr hN hi hln hc tk (fun W pn xe tk' po => (hb W pn xe tk' po).ps) (fun a oe cls d pn hz hf => ⟨fun pins s σ H D J ⟨z, e1, e2, hm', h⟩ => ?_⟩)) ?_⟩
  · subst e1 e2
    have call := ae_kinds (X := X) (W := W0) (a := a) (pn := pn) (i := i) (p := p) (p1 := p1) (pos := pos) (G z hm') hr hz hf hg hm hk hbi hd (ae_var hi vis hn1 hn2)
    exact (bs_one (as_set (X := X.suite a ((a, oe) :: pn)) (pos := ap) (pos' := rp) hN hj hx hl call (swap_plain rfl))).ps.run pins s σ H D J h
  · rintro D σ H ⟨F, ρ, M, rr, hE, q⟩
    refine ⟨F, ρ, M, rr, hE, mb { nx := (endsOf X.K H F M D W).nx, rt := (endsOf X.K H F M D W).rt, ex := fun c ρ' M' => c ∈ cs ∧ i < ρ'.length ∧ (endsOf X.K H F M D W).nx ((ρ'.set j (some (.str (kindsOf c)))).set i none) M' } _ _ _ ⟨fun _ _ z => z, fun _ _ z => z, fun z ρ' M' ⟨h1, h2, h3⟩ => ?_⟩ q⟩
    intro H' F' σ' s' hE'
    refine ⟨true, hcs z h1, fun _ a ha => ⟨z, rfl, rfl, h1, F', ρ'.set i (some (.ref a)), M', s'.r, hE'.set (d := .ref a) (v := .ref a) rfl i, ?_, ?_⟩, fun w => nomatch w⟩
    · unfold getV
      rw [List.getElem?_set_self h2]
    · intro H2 F2 σ2 s2 hE2
      have e3 : ((ρ'.set i (some (TT.D.ref a))).set j (some (.str (kindsOf z)))).set i none = (ρ'.set j (some (.str (kindsOf z)))).set i none := by
        rw [List.set_comm _ _ hij, List.set_set]
      have hE3 := hE2.clear i
      rw [e3] at hE3
      exact h3 _ _ _ (s'.trans s2) hE3
end
end TT
set_option Elab.async false
set_option linter.all false
set_option maxRecDepth 100000
set_option maxHeartbeats 2000000
/-! TL: the terms, and what they ask. -/
namespace TT
open PySem PySem.Spec PyProof.Rows L2

inductive Bop where
  | add (m : Bool) | sub | mul (m : Bool) | fdiv | mod | pow
inductive Cop where
  | eq | ne | neH | lt | le | gt | ge | is_ | isn | inn | nin
inductive Bi where
  | len | sum | min1 | min2 | max2 | all | any | int | str | tup | lst (m : Bool) | sortI (m : Bool)
inductive Mt where
  | append | extend | pop | popAt | remove | index | join | split (m : Bool) | lstrip | get2
inductive ItK where
  | seq | rng | en | zp
def Bop.o : Bop → AO2
  | .add m => addO m
  | .sub => subO
  | .mul m => mulO m
  | .fdiv => fdivO
  | .mod => modO
  | .pow => powO
def Cop.o : Cop → AO2
  | .eq => eqO false
  | .ne => eqO true
  | .neH => eqO true
  | .lt => ltO
  | .le => leO
  | .gt => gtO
  | .ge => geO
  | .is_ => isO false
  | .isn => isO true
  | .inn => inO false
  | .nin => inO true
def Bi.o : Bi → AC
  | .len => one lenO
  | .sum => one sumO
  | .min1 => one minO
  | .min2 => two min2O
  | .max2 => two max2O
  | .all => one allO
  | .any => one anyO
  | .int => one intOf
  | .str => one strOf
  | .tup => one tupOf
  | .lst m => one (lstOf m)
  | .sortI m => one (TT.sortI m)
def Mt.T : Mt → String
  | .append | .extend | .pop | .popAt | .remove | .index => "list"
  | .join | .split _ | .lstrip => "str"
  | .get2 => "dict"
def Mt.o : Mt → AM
  | .append => appendO
  | .extend => extendO
  | .pop => popO
  | .popAt => popAtO
  | .remove => removeO
  | .index => indexO
  | .join => joinO
  | .split m => splitO m
  | .lstrip => lstripO
  | .get2 => get2O
inductive Ex where
  | var (i : Nat) | con (d : D)
  | bop (o : Bop) (a b : Ex) | cop (o : Cop) (a b : Ex) | chn (o o' : Cop) (a b c : Ex)
  | and (a b : Ex) | or (a b : Ex) | not (a : Ex) | neg (a : Ex)
  | tup (es : List Ex) | lst (m : Bool) (es : List Ex)
  | ix (a b : Ex) | slB (m : Bool) (a lo hi : Ex) | slL (m : Bool) (a lo : Ex) | slU (m : Bool) (a hi : Ex) | rv (m : Bool) (a : Ex)
  | isi (T : String) (a : Ex)
  | bi (b : Bi) (es : List Ex) | mt (b : Mt) (o : Ex) (es : List Ex)
  | fld (c f : Str) (o : Ex)
  | call (f : Nat) (es : List Ex) | meth (c m : Str) (f : Nat) (o : Ex) (es : List Ex) | new (c : Str) (f : Nat) (es : List Ex)
  | comp (m : Bool) (own : List Nat) (k : TgK) (ik : ItK) (ies : List Ex) (conds : List Ex) (elt : Ex)
  | trg1 (a : Ex) | trg2 (a b : Ex) | lrg1 (m : Bool) (a : Ex) | dsp (kvs : List Ex)
def aBad : AE := fun _ _ _ _ => False
def iBad : AI := fun _ _ _ _ => False
variable (C CN : Nat → AF)
mutual
def wpE : Ex → AE
  | .var i => aVar i
  | .con d => aCon d
  | .bop o a b => aBin o.o (wpE a) (wpE b)
  | .cop o a b => aBin o.o (wpE a) (wpE b)
  | .chn o o' a b c => aChn o.o o'.o (wpE a) (wpE b) (wpE c)
  | .and a b => aAnd (wpE a) (wpE b)
  | .or a b => aOr (wpE a) (wpE b)
  | .not a => aNot (wpE a)
  | .neg a => aUn negO (wpE a)
  | .tup es => aTup (wpEs es)
  | .lst m es => aLst m (wpEs es)
  | .ix a b => aBin ixO (wpE a) (wpE b)
  | .slB m a lo hi => aSl m (wpE a) (bSome (wpE lo)) (bSome (wpE hi))
  | .slL m a lo => aSl m (wpE a) (bSome (wpE lo)) bNone
  | .slU m a hi => aSl m (wpE a) bNone (bSome (wpE hi))
  | .rv m a => aUn (rvO m) (wpE a)
  | .isi T a => aUn (isiO T) (wpE a)
  | .bi b es => aCB b.o (wpEs es)
  | .mt b o es => aBM b.T b.o (wpE o) (wpEs es)
  | .fld c f o => aUn (fldO c f) (wpE o)
  | .call f es => aCall (C f) (wpEs es)
  | .meth c m f o es => aMeth c m (C f) (wpE o) (wpEs es)
  | .new c f es => aNew c (CN f) (wpEs es)
  | .comp m own k ik ies conds elt => aComp m own (match ik with
      | .seq => aSeq' (wpHd ies)
      | .rng => aRng (wpEs ies)
      | .en => aEn (wpEs ies)
      | .zp => aZp (wpEs ies)) k (wpC conds) (wpE elt)
  | .trg1 a => aUn trg1O (wpE a)
  | .lrg1 m a => aUn (lrg1O m) (wpE a)
  | .trg2 a b => aBin trg2O (wpE a) (wpE b)
  | .dsp kvs => aDsp (wpPs kvs)
def wpPs : List Ex → AP
  | k :: v :: r => apCons (wpE k) (wpE v) (wpPs r)
  | _ => apNil
def wpEs : List Ex → AA
  | [] => aNil
  | e :: es => aCons (wpE e) (wpEs es)
def wpHd : List Ex → AE
  | [] => aBad
  | e :: _ => wpE e
def wpC : List Ex → Option AE
  | [] => none
  | e :: _ => some (wpE e)
end
def wpI (ik : ItK) (ies : List Ex) : AI := match ik with
  | .seq => aSeq' (wpHd C CN ies)
  | .rng => aRng (wpEs C CN ies)
  | .en => aEn (wpEs C CN ies)
  | .zp => aZp (wpEs C CN ies)
inductive Sm where
  | asg (k : TgK) (e : Ex) | asgF (i : Nat) (c f : Str) (e o : Ex) | setF (c f : Str) (e o : Ex) | setI (e o i : Ex) | aug (i : Nat) (e : Ex)
  | ex (e : Ex) | ret (e : Ex) | retN | ite (c : Ex) (a b : List Sm) | whl (c : Ex) (b : List Sm)
  | forr (k : TgK) (ik : ItK) (ies : List Ex) (b : List Sm)
  | raise (c : Str) | tri (cs : List Str) (b s : List Sm) | trk (i j : Nat) (cs : List Str) (b : List Sm) | pas
mutual
def wpS : Sm → AS
  | .asg k e => aAsg (wpE C CN e) k
  | .asgF i c f e o => aAsgF i c f (wpE C CN e) (wpE C CN o)
  | .setF c f e o => aSetF c f (wpE C CN e) (wpE C CN o)
  | .setI e o i => aSetI (wpE C CN e) (wpE C CN o) (wpE C CN i)
  | .aug i e => aAug i (wpE C CN e)
  | .ex e => aEx (wpE C CN e)
  | .ret e => aRet (wpE C CN e)
  | .retN => aRetN
  | .ite c a b => aIf (wpE C CN c) (wpB a) (wpB b)
  | .whl c b => aWhile (wpE C CN c) (wpB b)
  | .forr k ik ies b => aFor (wpI C CN ik ies) k (wpB b)
  | .raise c => aRaise c
  | .tri cs b s => aTry cs (wpB b) (wpB s)
  | .trk i j cs b => aTryK i j cs (wpB b)
  | .pas => aNext
def wpB : List Sm → AS
  | [] => aNext
  | s :: [] => wpS s
  | s :: r => aThen (wpS s) (wpB r)
end
end TT
set_option Elab.async false
set_option linter.all false
set_option maxRecDepth 100000
set_option maxHeartbeats 2000000
/-! TM: from the text to the terms. -/
namespace TT
open PySem PySem.Spec PyProof.Rows L2

/-- what is known of the names -/
structure CG where
  fns : List (Str × Nat)
  free : List Str
  cons : List (Str × D)
  cls : List (Str × Nat)
  mths : List ((Str × Str) × Nat)
  attrs : List (Str × Str)
  excs : List Str
  exm : List (Str × Str)
  kn : Bool := false
/-- .. within one def -/
structure CE where
  g : CG
  N : List Str
  sc : Scope
  blk : Bool
  hint : List (Str × Str)
  mt : List (Nat × Nat)
def idx (N : List Str) (x : Str) : Option Nat := match N with
  | [] => none
  | y :: r => if y = x then some 0 else (idx r x).map (· + 1)
theorem idx_ok : ∀ {N : List Str} {x : Str} {i : Nat}, idx N x = some i → N[i]? = some x
  | [], _, _, h => by cases h
  | y :: r, x, i, h => by
    unfold idx at h; split at h
    · rename_i e; cases h; rw [e] <;> rfl
    · cases e : idx r x with
      | none => rw [e] at h; cases h
      | some j => rw [e] at h; cases h; simpa using idx_ok e
def okName (x : Str) : Bool := !(x == ("__debug__" : Str)) && !(x == ("__classdict__" : Str)) && !(x == ("__name__" : Str))
theorem okName_ok {x : Str} (h : okName x = true) : (x == ("__debug__" : Str)) = false ∧ (x == ("__classdict__" : Str)) = false ∧ x ≠ "__name__" := by
  unfold okName at h
  simp only [Bool.and_eq_true, Bool.not_eq_true', beq_eq_false_iff_ne] at h
  exact ⟨beq_eq_false_iff_ne.mpr h.1.1, beq_eq_false_iff_ne.mpr h.1.2, h.2⟩
def CE.isGl (c : CE) (x : Str) : Bool := match c.sc.names.lookup x with
  | some .globalImplicit => okName x
  | _ => false
def CE.isVis (c : CE) (x : Str) : Bool := match c.sc.names.lookup x with
  | some .local => okName x
  | some .cell => okName x
  | some .free => okName x
  | _ => false
/-- a name that may be stored -/
def CE.isLoc (c : CE) (x : Str) : Bool := match c.sc.names.lookup x with
  | some .local => true
  | some .cell => !c.blk
  | _ => false
def CE.mut (c : CE) (p : Pos) : Bool := c.mt.contains (p.line, p.col)
/-- a built-in that is not stored over -/
def CE.bl (c : CE) (x : Str) : Bool := c.isGl x && c.g.free.contains x
def binop (m : Bool) : Operator → Option Bop
  | .Add => some (.add m)
  | .Sub => some .sub
  | .Mult => some (.mul m)
  | .FloorDiv => some .fdiv
  | .Mod => some .mod
  | .Pow => some .pow
  | _ => none
def cmpop : CmpOp → Cop
  | .Eq => .eq
  | .NotEq => .ne
  | .Lt => .lt
  | .LtE => .le
  | .Gt => .gt
  | .GtE => .ge
  | .Is => .is_
  | .IsNot => .isn
  | .In => .inn
  | .NotIn => .nin
def cmpopM (m : Bool) (op : CmpOp) : Cop := match m, op with
  | true, .NotEq => .neH
  | _, op => cmpop op
def isTupT : Expr → Bool
  | .Tuple .. => true
  | _ => false
def isSet : Expr → Bool
  | .Set .. => true
  | _ => false
def clsOf (c : CE) : Expr → Option Str
  | .Name x _ => c.hint.lookup x
  | .Attribute _ f _ => c.hint.lookup f
  | .Subscript (.Name x _) _ _ => c.hint.lookup x
  | _ => none
/-- built-in functions, by name and number of arguments -/
def biOf (x : Str) (n : Nat) (m : Bool) : Option (Bi × Str × Bool) :=
  if x = "len" then (if n = 1 then some (.len, "len", false) else none)
  else if x = "sum" then (if n = 1 then some (.sum, "sum", false) else none)
  else if x = "min" then (if n = 1 then some (.min1, "min", false) else if n = 2 then some (.min2, "min", false) else none)
  else if x = "max" then (if n = 2 then some (.max2, "max", false) else none)
  else if x = "all" then (if n = 1 then some (.all, "all", false) else none)
  else if x = "any" then (if n = 1 then some (.any, "any", false) else none)
  else if x = "int" then (if n = 1 then some (.int, "int", true) else none)
  else if x = "str" then (if n = 1 then some (.str, "str", true) else none)
  else if x = "tuple" then (if n = 1 then some (.tup, "tuple", true) else none)
  else if x = "list" then (if n = 1 then some (.lst m, "list", true) else none)
  else if x = "sorted" then (if n = 1 then some (.sortI m, "sorted", false) else none)
  else none
def tyOf (x : Str) : Option String :=
  if x = "int" then some "int" else if x = "bool" then some "bool" else if x = "str" then some "str" else if x = "tuple" then some "tuple" else if x = "list" then some "list" else none
def mtOf (x : Str) (n : Nat) (m : Bool) : Option Mt :=
  if x = "append" then (if n = 1 then some .append else none)
  else if x = "extend" then (if n = 1 then some .extend else none)
  else if x = "pop" then (if n = 0 then some .pop else if n = 1 then some .popAt else none)
  else if x = "remove" then (if n = 1 then some .remove else none)
  else if x = "index" then (if n = 1 then some .index else none)
  else if x = "join" then (if n = 1 then some .join else none)
  else if x = "split" then (if n = 1 then some (.split m) else none)
  else if x = "lstrip" then (if n = 1 then some .lstrip else none)
  else if x = "get" then (if n = 2 then some .get2 else none)
  else none
/-- a target of plain names -/
def tgNames (c : CE) : List Expr → Option (List Nat)
  | [] => some []
  | .Name x _ :: es => match c.isLoc x, idx c.N x, tgNames c es with
    | true, some i, some is => some (i :: is)
    | _, _, _ => none
  | _ => none
def tgOf (c : CE) : Expr → Option TgK
  | .Name x _ => match c.isLoc x, idx c.N x with
    | true, some i => some (.one i)
    | _, _ => none
  | .Tuple es _ _ => (tgNames c es).map .tup
  | _ => none
/-- a block's own names, with their places -/
def ownOf (N : List Str) : List (Str × NameKind) → List (Str × Nat)
  | [] => []
  | (x, .local) :: r => match idx N x with
    | some i => (x, i) :: ownOf N r
    | none => ownOf N r
  | (x, .cell) :: r => match idx N x with
    | some i => (x, i) :: ownOf N r
    | none => ownOf N r
  | _ :: r => ownOf N r
def opt2 {α β γ : Type} (f : α → β → γ) : Option α → Option β → Option γ
  | some a, some b => some (f a b)
  | _, _ => none
theorem opt2_ok {α β γ : Type} {f : α → β → γ} {a : Option α} {b : Option β} {c : γ} (h : opt2 f a b = some c) : ∃ x y, a = some x ∧ b = some y ∧ f x y = c := by
  cases a with
  | none => cases h
  | some x => cases b with
    | none => cases h
    | some y => cases h; exact ⟨x, y, rfl, rfl, rfl⟩
def when {α : Type} (b : Bool) (x : Option α) : Option α := match b with
  | true => x
  | false => none
theorem when_ok {α : Type} {b : Bool} {x : Option α} {y : α} (h : when b x = some y) : b = true ∧ x = some y := by
  cases b with
  | true => exact ⟨rfl, h⟩
  | false => cases h
def conOf : Const → Option D
  | .none => some .non
  | .bool b => some (.bl b)
  | .int i => some (.int i)
  | .str x => some (.str x)
  | _ => none
mutual
def compE (n : Nat) (c : CE) (e : Expr) : Option Ex := match n with
  | 0 => none
  | n + 1 => match e with
    | .Constant k _ _ => (conOf k).map .con
    | .Name x _ => match c.isVis x with
      | true => (idx c.N x).map .var
      | false => when (c.isGl x) ((c.g.cons.lookup x).map .con)
    | .BinOp a op b p => match binop (c.mut p) op with
      | some o => opt2 (.bop o) (compE n c a) (compE n c b)
      | none => none
    | .UnaryOp .Not a _ => (compE n c a).map .not
    | .UnaryOp .USub a _ => (compE n c a).map .neg
    | .BoolOp op es _ => compB n c op es
    | .Compare a [op] [b] p => when (!isSet b) (opt2 (.cop (cmpopM (c.mut p) op)) (compE n c a) (compE n c b))
    | .Compare a [op, op'] [b, d] _ => when (!isSet d) (match compE n c d with
      | some d' => opt2 (fun x y => .chn (cmpop op) (cmpop op') x y d') (compE n c a) (compE n c b)
      | none => none)
    | .Tuple es _ _ => when (decide (es.length ≤ 1000)) ((compEs n c es).map .tup)
    | .List es p => when (decide (es.length ≤ 1000)) ((compEs n c es).map (.lst (c.mut p)))
    | .Subscript a (.Slice none none (some (.UnaryOp .USub (.Constant (.int 1) _ _) _)) _) p => (compE n c a).map (.rv (c.mut p))
    | .Subscript a (.Slice (some lo) (some hi) none _) p => match compE n c a with
      | some a' => opt2 (.slB (c.mut p) a') (compE n c lo) (compE n c hi)
      | none => none
    | .Subscript a (.Slice (some lo) none none _) p => opt2 (.slL (c.mut p)) (compE n c a) (compE n c lo)
    | .Subscript a (.Slice none (some hi) none _) p => opt2 (.slU (c.mut p)) (compE n c a) (compE n c hi)
    | .Subscript a b _ => when (notSl b) (opt2 .ix (compE n c a) (compE n c b))
    | .Attribute o f _ => match clsOf c o with
      | some cl => when (plainO o && c.g.attrs.contains (cl, f)) ((compE n c o).map (.fld cl f))
      | none => none
    | .Call (.Name x _) es [] p => compCall n c x es p
    | .Call (.Attribute o m ap) es [] p => when (plainO o && decide (es.length < 28) && (ap.endLine == p.line)) (compMeth n c o m es p)
    | .ListComp elt [⟨tg, iter, ifs, 0⟩] scope p => compLc n c elt tg iter ifs scope p
    | .Dict [] [] _ => some (.dsp [])
    | .Dict (k :: ks) vs _ => when (decide (ks.length < 15)) ((compPs n c (k :: ks) vs).map .dsp)
    | _ => none
def compPs (n : Nat) (c : CE) (ks : List (Option Expr)) (vs : List Expr) : Option (List Ex) := match n with
  | 0 => none
  | n + 1 => match ks, vs with
    | [], [] => some []
    | some k :: ks, v :: vs => match compE n c k with
      | some k' => opt2 (fun v' r => k' :: v' :: r) (compE n c v) (compPs n c ks vs)
      | none => none
    | _, _ => none
def compEs (n : Nat) (c : CE) (es : List Expr) : Option (List Ex) := match n with
  | 0 => none
  | n + 1 => match es with
    | [] => some []
    | e :: es => when (plainE e) (opt2 List.cons (compE n c e) (compEs n c es))
def compB (n : Nat) (c : CE) (op : BoolOp) (es : List Expr) : Option Ex := match n with
  | 0 => none
  | n + 1 => match op, es with
    | _, [a] => compE n c a
    | .And, a :: b :: r => opt2 .and (compE n c a) (compB n c .And (b :: r))
    | .Or, a :: b :: r => opt2 .or (compE n c a) (compB n c .Or (b :: r))
    | _, [] => none
def compCall (n : Nat) (c : CE) (x : Str) (es : List Expr) (p : Pos) : Option Ex := match n with
  | 0 => none
  | n + 1 => match es with
    | [] => none
    | [.Call (.Name y yp) rs [] q] => match decide (x = "tuple"), decide (y = "range"), rs with
      | true, true, [a] => when (c.bl x && c.bl y && plainE a) ((compE n c a).map .trg1)
      | true, true, [a, b] => when (c.bl x && c.bl y && plainE a && plainE b) (opt2 .trg2 (compE n c a) (compE n c b))
      | _, _, _ => match decide (x = "list"), decide (y = "range"), rs with
        | true, true, [a] => when (c.bl x && c.bl y && plainE a) ((compE n c a).map (.lrg1 (c.mut p)))
        | _, _, _ => compCall2 n c x [.Call (.Name y yp) rs [] q] p
    | [a, .Name y _] => match decide (x = "isinstance"), tyOf y with
      | true, some T => when (c.bl x && c.bl y && plainE a) ((compE n c a).map (.isi T))
      | true, none => none
      | false, _ => compCall2 n c x es p
    | _ => compCall2 n c x es p
def compCall2 (n : Nat) (c : CE) (x : Str) (es : List Expr) (p : Pos) : Option Ex := match n with
  | 0 => none
  | n + 1 => match c.isGl x, c.g.fns.lookup x, c.g.cls.lookup x, biOf x es.length (c.mut p) with
    | true, some f, _, _ => (compEs n c es).map (.call f)
    | true, none, some f, _ => (compEs n c es).map (.new x f)
    | true, none, none, some (b, _, _) => when (c.g.free.contains x) ((compEs n c es).map (.bi b))
    | _, _, _, _ => none
def compMeth (n : Nat) (c : CE) (o : Expr) (m : Str) (es : List Expr) (p : Pos) : Option Ex := match n with
  | 0 => none
  | n + 1 => match clsOf c o with
    | some cl => match c.g.mths.lookup (cl, m) with
      | some f => opt2 (.meth cl m f) (compE n c o) (compEs n c es)
      | none => none
    | none => match mtOf m es.length (c.mut p) with
      | some b => opt2 (.mt b) (compE n c o) (compEs n c es)
      | none => none
def compLc (n : Nat) (c : CE) (elt tg iter : Expr) (ifs : List Expr) (scope : Scope) (p : Pos) : Option Ex := match n with
  | 0 => none
  | n + 1 =>
    let own := ownOf c.N scope.names
    let c' : CE := { c with sc := relS scope c.sc, blk := true }
    when (blkC c.N c.sc scope own && !isSet iter && decide (ifs.length ≤ 1)) (match tgOf c' tg, compIt n c (isTupT tg) iter, compEs n c' ifs, compE n c' elt with
      | some k, some (ik, ies), some cs, some e => when (tgIn (own.map (·.2)) k) (some (.comp (c.mut p) (own.map (·.2)) k ik ies cs e))
      | _, _, _, _ => none)
def compIt (n : Nat) (c : CE) (tt : Bool) (e : Expr) : Option (ItK × List Ex) := match n with
  | 0 => none
  | n + 1 => match e with
    | .Call (.Name x _) es [] _ => match decide (x = "range") with
      | true => when (c.bl x && decide (es.length = 1 ∨ es.length = 2)) ((compEs n c es).map fun xs => (.rng, xs))
      | false => match decide (x = "enumerate"), decide (x = "zip") with
        | true, _ => when (c.bl x && tt && decide (es.length = 1)) ((compEs n c es).map fun xs => (.en, xs))
        | false, true => when (c.bl x && tt && decide (es.length = 2 ∨ es.length = 3)) ((compEs n c es).map fun xs => (.zp, xs))
        | false, false => (compE n c e).map fun y => (.seq, [y])
    | _ => (compE n c e).map fun y => (.seq, [y])
end
/-- does the model keep y = [..] as one statement -/
def swapLc (c : CE) (y : Str) (py p : Pos) (scope : Scope) : Bool := (match c.sc.kind with | .function => true | _ => false) && decide (c.sc.names.lookup y = some .local) && (py.line == p.line) && !(scope.names.any fun (n, k) => n == y && (k == .local || k == .cell))
mutual
def compS (n : Nat) (c : CE) (s : Stmt) : Option Sm := match n with
  | 0 => none
  | n + 1 => match s with
    | .Assign [.Name y py] (.ListComp elt [⟨tg, iter, ifs, 0⟩] scope p) _ => match c.isLoc y, idx c.N y with
      | true, some i => when (swapLc c y py p scope || !decide (c.sc.names.lookup y = some .local)) ((compLc n c elt tg iter ifs scope p).map (.asg (.one i)))
      | _, _ => none
    | .Assign [.Name y _] e _ => match c.isLoc y, idx c.N y with
      | true, some i => when (plainW e) ((compE n c e).map (.asg (.one i)))
      | _, _ => none
    | .Assign [.Tuple [.Name y _, .Attribute o f _] _ _] e _ => match c.isLoc y, idx c.N y, clsOf c o with
      | true, some i, some cl => when (plainW e && notTup e && c.g.attrs.contains (cl, f)) (opt2 (.asgF i cl f) (compE n c e) (compE n c o))
      | _, _, _ => none
    | .Assign [.Tuple es _ _] e _ => match tgNames c es with
      | some is => when (plainW e && notTup e) ((compE n c e).map (.asg (.tup is)))
      | none => none
    | .Assign [.Attribute o f _] e _ => match clsOf c o with
      | some cl => when (plainW e && c.g.attrs.contains (cl, f)) (opt2 (.setF cl f) (compE n c e) (compE n c o))
      | none => none
    | .Assign [.Subscript o i _] e _ => when (plainW e && notSl i) (match compE n c e with
      | some e' => opt2 (.setI e') (compE n c o) (compE n c i)
      | none => none)
    | .AugAssign (.Name y _) .Add e _ => match c.isLoc y, idx c.N y with
      | true, some i => (compE n c e).map (.aug i)
      | _, _ => none
    | .Pass _ => some .pas
    | .Expr e _ => when (plainW e) ((compE n c e).map .ex)
    | .Return (some e) _ => (compE n c e).map .ret
    | .Return none _ => some .retN
    | .If t a b _ => match compE n c t with
      | some t' => opt2 (.ite t') (compSs n c a) (compSs n c b)
      | none => none
    | .While t b [] _ => opt2 .whl (compE n c t) (compSs n c b)
    | .For tg iter b [] _ => when (!isSet iter) (match tgOf c tg, compIt n c (isTupT tg) iter with
      | some k, some (ik, ies) => (compSs n c b).map (.forr k ik ies)
      | _, _ => none)
    | .Raise (some (.Call (.Name x _) [.Constant (.str _) _ _] [] _)) none _ => when (c.isGl x && c.g.excs.contains x) (some (.raise x))
    | .Try b [.ExceptHandler (some (.Name y _)) none [.Assign [.Name r _] (.Constant q _ _) _] _] [] [] _ => match c.isLoc r, idx c.N r, conOf q with
      | true, some i, some d => when (c.isGl y && c.g.excs.contains y) ((compSs n c b).map fun b' => .tri ((c.g.exm.filter fun z => decide (z.2 = y)).map (·.1)) b' [.asg (.one i) (.con d)])
      | _, _, _ => none
    | .Try b [.ExceptHandler (some (.Name y _)) (some n') [.Assign [.Name r _] (.Call (.Name kf _) [.Name n2 _] [] _) _] _] [] [] _ => match c.isLoc r, idx c.N r, idx c.N n' with
      | true, some j, some i => when (c.isGl y && (c.g.excs.contains y && (decide (c.sc.names.lookup n' = some .local) && (okName n' && (decide (n2 = n') && (decide (kf = "_law_kinds") && (c.isGl kf && (c.g.kn && (decide (i ≠ j) && (c.g.exm.all fun z => c.g.excs.contains z.1))))))))))
          ((compSs n c b).map fun b' => .trk i j ((c.g.exm.filter fun z => decide (z.2 = y)).map (·.1)) b')
      | _, _, _ => none
    | _ => none
def compSs (n : Nat) (c : CE) (ss : List Stmt) : Option (List Sm) := match n with
  | 0 => none
  | n + 1 => match ss with
    | [] => some []
    | s :: r => opt2 List.cons (compS n c s) (compSs n c r)
end
end TT
set_option Elab.async false
set_option linter.all false
set_option maxRecDepth 100000
set_option maxHeartbeats 4000000
/-! TN: the terms say what the text does. -/
namespace TT
open PySem PySem.Spec PyProof.Rows L2

/-- what stands behind the names -/
structure GF (P : Program) (w : World) (K : PySem.W.Frag) (mg : Str → Option Value) (base : Heap) (k : Nat) (C : Nat → AF) (g : CG) : Prop where
  mC : ∀ j, MonoF (C j)
  fn : ∀ x j, g.fns.lookup x = some j → ∃ a fd ps, mg x = some (.ref a) ∧ PySem.W.keepIn K (.ref a) = true ∧ L2.Binds K fd ps [] ∧ FnOk P w K mg base (L2N.CX P w) k a fd ps (liftF K (C j))
  me : ∀ cl m j, g.mths.lookup (cl, m) = some j → ∃ a fd ps, Cls K (He.ga K cl) ∧ Meth K (He.ga K cl) m a ∧ L2.Binds K fd ps [] ∧ FnOk P w K mg base (L2N.CX P w) k a fd ps (liftF K (C j))
  cl : ∀ x j, g.cls.lookup x = some j → ∃ a fd ps, Mk K (He.ga K x) a ∧ mg x = some (.ref (He.ga K x)) ∧ L2.Binds K fd ps [] ∧ FnOk P w K mg base (L2N.CX P w) k a fd ps (liftF K (C j))
  att : ∀ cl f, g.attrs.contains (cl, f) = true → Cls K (He.ga K cl) ∧ NoAttr K (He.ga K cl) f
  co : ∀ x d, g.cons.lookup x = some d → ∃ v u, mg x = some u ∧ RelV v u ∧ ∀ F, Rep K F d v
  fr : ∀ x, g.free.contains x = true → mg x = none
  exc : ∀ x, g.excs.contains x = true → PySem.W.excIn K (He.ga K x) He.veBase "ValueError.__new__" = true ∧ mg x = some (.ref (He.ga K x)) ∧ PySem.W.keepIn K (.ref (He.ga K x)) = true ∧ PySem.W.subIn K (.ref (He.ga K x)) (.type "BaseException") = some true ∧ PySem.W.typeIn K (.ref (He.ga K x)) = some (.type "type")
  kn : g.kn = true → ∃ f fd, mg "_law_kinds" = some (.ref f) ∧ PySem.W.keepIn K (.ref f) = true ∧ L2.Binds K fd ["_law_e"] [] ∧ ∀ z, g.excs.contains z = true → FnK P w K mg base f fd z
structure XOk (c : CE) (k : Nat) (C : Nat → AF) (X : Cx) : Prop where
  N : X.N = c.N
  nd : c.N.Nodup
  sc : X.env.scope = c.sc
  room : Room (k + 1) X.A
  calm : X.calm = true
  fn : c.blk = false → ∀ x, X.fn x = true
  gf : GF X.prog X.w X.K X.mg X.base k C c.g
section
variable {c : CE} {k : Nat} {C : Nat → AF} {X : Cx} {W : WX} {x : Str} {pos : Pos}
theorem XOk.gl (h : XOk c k C X) (e : c.isGl x = true) : Gl X x ∧ okName x = true := by
  unfold CE.isGl at e; split at e
  · rename_i q; exact ⟨(by show X.env.scope.names.lookup x = _; rw [h.sc]; exact q), e⟩
  · cases e
theorem XOk.vis (h : XOk c k C X) (e : c.isVis x = true) : Vis X.env.scope x ∧ okName x = true := by
  unfold CE.isVis at e
  rw [h.sc]
  split at e
  · rename_i q; exact ⟨.inl q, e⟩
  · rename_i q; exact ⟨.inr (.inl q), e⟩
  · rename_i q; exact ⟨.inr (.inr q), e⟩
  · cases e
theorem XOk.loc (h : XOk c k C X) (e : c.isLoc x = true) : Loc X.env.scope x ∧ (X.fn x = true ∨ X.env.scope.names.lookup x = some .local) := by
  unfold CE.isLoc at e
  rw [h.sc]
  split at e
  · rename_i q; exact ⟨.inl q, .inr q⟩
  · rename_i q; exact ⟨.inr q, .inl (h.fn (by simpa using e) x)⟩
  · cases e
theorem XOk.bl (h : XOk c k C X) (e : c.bl x = true) : Gl X x ∧ X.mg x = none ∧ okName x = true := by
  unfold CE.bl at e
  rw [Bool.and_eq_true] at e
  obtain ⟨g, o⟩ := h.gl e.1
  exact ⟨g, h.gf.fr x e.2, o⟩
theorem XOk.ix (h : XOk c k C X) {i : Nat} (e : idx c.N x = some i) : X.N[i]? = some x := by rw [h.N]; exact idx_ok e
theorem XOk.nd' (h : XOk c k C X) : X.N.Nodup := by rw [h.N]; exact h.nd
theorem XOk.u64 (h : XOk c k C X) : X.A.units + 64 < cLine := h.room.units
theorem XOk.u1 (h : XOk c k C X) : X.A.units + 1 < cLine := by have := h.u64; omega
theorem bop_mono : ∀ o : Bop, MonoO2 o.o
  | .add _ => addO.mono
  | .sub => subO.mono
  | .mul _ => mulO.mono
  | .fdiv => intO.mono
  | .mod => intO.mono
  | .pow => intO.mono
theorem cop_mono : ∀ o : Cop, MonoO2 o.o
  | .eq => eqO.mono
  | .ne => eqO.mono
  | .neH => eqO.mono
  | .lt => intO0.mono
  | .le => intO0.mono
  | .gt => intO0.mono
  | .ge => intO0.mono
  | .is_ => isO.mono
  | .isn => isO.mono
  | .inn => inO.mono
  | .nin => inO.mono
theorem bop_ok {m : Bool} {op : Operator} {o : Bop} (h : binop m op = some o) : OpR X (binaryOp op) (liftO2 X.K o.o) := by
  cases op <;> cases h
  · exact ok_add
  · exact ok_sub
  · exact ok_mul
  · exact ok_mod
  · exact ok_pow
  · exact ok_fdiv
theorem cop_ok (h : XOk c k C X) : ∀ op : CmpOp, OpR X (compareOp op) (liftO2 X.K (cmpop op).o)
  | .Eq => ok_eq h.u64
  | .NotEq => ok_ne h.u64
  | .Lt => ok_lt
  | .LtE => ok_le
  | .Gt => ok_gt
  | .GtE => ok_ge
  | .Is => ok_is
  | .IsNot => ok_isnot
  | .In => ok_in h.u64
  | .NotIn => ok_notin h.u1
theorem cop_okM (h : XOk c k C X) : ∀ (m : Bool) (op : CmpOp), OpR X (compareOp op) (liftO2 X.K (cmpopM m op).o)
  | true, .NotEq => ok_ne h.u64
  | false, op => by cases op <;> exact cop_ok h _
  | true, .Eq => cop_ok h _
  | true, .Lt => cop_ok h _
  | true, .LtE => cop_ok h _
  | true, .Gt => cop_ok h _
  | true, .GtE => cop_ok h _
  | true, .Is => cop_ok h _
  | true, .IsNot => cop_ok h _
  | true, .In => cop_ok h _
  | true, .NotIn => cop_ok h _
theorem mark_of {op : CmpOp} {b : Expr} (h : isSet b = false) : behindInMarks op b = false := by
  cases b <;> first | rfl | cases h
theorem fold_of {b : Expr} {env : PySem.Env} (h : isSet b = false) : ∀ v, foldedSetIterable b env v = pure v := by
  cases b <;> first | (intro _; rfl) | cases h
theorem plainIx_of {b : Expr} (h : notSl b = true) : PlainIx b := by
  cases b <;> first | exact fun _ _ => rfl | cases h
theorem con_ok {q : Const} {d : D} {j : Nat} (h : conOf q = some d) : AEok X W (.Constant q j pos) (aCon d) := by
  cases q <;> cases h
  · exact ae_con pe_non fun _ => rfl
  · exact ae_con pe_bl fun _ => rfl
  · exact ae_con pe_int fun _ => rfl
  · exact ae_con pe_str fun _ => rfl
theorem ite_or {α : Type} {p : Prop} [Decidable p] {a b : Option α} {r : α} (h : (if p then a else b) = some r) : (p ∧ a = some r) ∨ (¬ p ∧ b = some r) := by
  by_cases q : p
  · rw [if_pos q] at h; exact .inl ⟨q, h⟩
  · rw [if_neg q] at h; exact .inr ⟨q, h⟩
/-! ### targets -/
theorem tgNames_ok (h : XOk c k C X) : ∀ {es : List Expr} {is : List Nat}, tgNames c es = some is → TgsOk X es is
  | [], is, e => by cases e; exact tgs_nil
  | e0 :: es, is, e => by
    cases e0 with
    | Name x p =>
      unfold tgNames at e
      split at e
      · rename_i i is' e1 e2 e3
        cases e
        obtain ⟨l1, l2⟩ := h.loc e1
        exact tgs_cons h.nd' (h.ix e2) l1 l2 (tgNames_ok h e3)
      · cases e
    | _ => cases e
theorem tgOf_ok (h : XOk c k C X) {tg : Expr} {q : TgK} (e : tgOf c tg = some q) : PG X tg (gOf X.K q) := by
  cases tg with
  | Name x p =>
    have e' : (match c.isLoc x, idx c.N x with
      | true, some i => some (TgK.one i)
      | _, _ => none) = some q := e
    split at e'
    · rename_i i e1 e2
      cases e'
      obtain ⟨l1, l2⟩ := h.loc e1
      exact pg_name h.nd' (h.ix e2) l1 l2
    · cases e'
  | Tuple es kk p =>
    have e' : (tgNames c es).map .tup = some q := e
    cases z : tgNames c es with
    | none => rw [z] at e'; cases e'
    | some is =>
      rw [z] at e'; cases e'
      have t := tgNames_ok h z
      exact pg_or (pg_tup h.calm t.pg t.len t.st) (pg_lst h.calm t.pg t.len t.st)
  | _ => cases e
/-! ### built-in functions -/
theorem bi_mono : ∀ b : Bi, MonoC b.o
  | .len => one.mono fun _ _ _ _ => lenO.mono
  | .sum => one.mono fun _ _ _ _ h ⟨ns, e, q⟩ => ⟨ns, e, h _ _ q⟩
  | .min1 => one.mono fun _ _ _ _ h ⟨ns, e, l, q⟩ => ⟨ns, e, l, fun m a b => h _ _ (q m a b)⟩
  | .min2 => two.mono fun _ _ _ _ _ h q => by
    unfold min2O at *; split at q
    · exact h _ _ q
    · exact q
  | .max2 => two.mono fun _ _ _ _ _ h q => by
    unfold max2O at *; split at q
    · exact h _ _ q
    · exact q
  | .all => one.mono fun _ _ _ _ h ⟨ns, e, q⟩ => ⟨ns, e, h _ _ q⟩
  | .any => one.mono fun _ _ _ _ h ⟨ns, e, q⟩ => ⟨ns, e, h _ _ q⟩
  | .int => one.mono fun _ _ _ _ h q => by
    unfold intOf at *; split at q
    · exact h _ _ q
    · exact h _ _ q
    · obtain ⟨n, e, l, q⟩ := q; exact ⟨n, e, l, h _ _ q⟩
    · exact q
  | .str => one.mono fun _ _ _ _ h q => by
    unfold strOf at *; split at q
    · exact ⟨q.1, h _ _ q.2⟩
    · exact h _ _ q
    · exact q
  | .tup => one.mono fun _ _ _ _ h q => by
    unfold tupOf at *; split at q
    · exact h _ _ q
    · obtain ⟨ds, e, q⟩ := q; exact ⟨ds, e, h _ _ q⟩
  | .lst m => one.mono fun _ _ _ _ h q => by
    unfold lstOf at *; split at q
    · exact alloc_mono h q
    · obtain ⟨ds, e, q⟩ := q; exact ⟨ds, e, alloc_mono h q⟩
  | .sortI m => one.mono fun _ _ _ _ h ⟨ns, e, q⟩ => ⟨ns, e, fun a b d => alloc_mono h (q a b d)⟩
theorem bi_ok (h : XOk c k C X) {e : Expr} {es : List Expr} {t : AA} {p : Pos} {m : Bool} {b : Bi} {nm : Str} {ty : Bool} (hb : biOf x (e :: es).length m = some (b, nm, ty)) (hg : Gl X x) (hm : X.mg x = none) (ho : okName x = true) (ha : AAok X W (e :: es) t) :
    AEok X W (.Call (.Name x p) (e :: es) [] pos) (aCB b.o t) := by
  obtain ⟨o1, o2, o3⟩ := okName_ok ho
  unfold biOf at hb
  replace hb := ite_or hb
  rcases hb with ⟨q, hb⟩ | ⟨_, hb⟩
  · subst q
    replace hb := ite_or hb
    rcases hb with ⟨_, hb⟩ | ⟨_, hb⟩
    · cases hb; exact ae_callB ok_len (bi_mono .len) hg hm (by decide +kernel) o3 o1 ha
    · cases hb
  replace hb := ite_or hb
  rcases hb with ⟨q, hb⟩ | ⟨_, hb⟩
  · subst q
    replace hb := ite_or hb
    rcases hb with ⟨_, hb⟩ | ⟨_, hb⟩
    · cases hb; exact ae_callB (ok_sum h.calm) (bi_mono .sum) hg hm (by decide +kernel) o3 o1 ha
    · cases hb
  replace hb := ite_or hb
  rcases hb with ⟨q, hb⟩ | ⟨_, hb⟩
  · subst q
    replace hb := ite_or hb
    rcases hb with ⟨_, hb⟩ | ⟨_, hb⟩
    · cases hb; exact ae_callB (ok_min1 h.calm) (bi_mono .min1) hg hm (by decide +kernel) o3 o1 ha
    · replace hb := ite_or hb
      rcases hb with ⟨_, hb⟩ | ⟨_, hb⟩
      · cases hb; exact ae_callB (ok_min2 h.calm) (bi_mono .min2) hg hm (by decide +kernel) o3 o1 ha
      · cases hb
  replace hb := ite_or hb
  rcases hb with ⟨q, hb⟩ | ⟨_, hb⟩
  · subst q
    replace hb := ite_or hb
    rcases hb with ⟨_, hb⟩ | ⟨_, hb⟩
    · cases hb; exact ae_callB (ok_max2 h.calm) (bi_mono .max2) hg hm (by decide +kernel) o3 o1 ha
    · cases hb
  replace hb := ite_or hb
  rcases hb with ⟨q, hb⟩ | ⟨_, hb⟩
  · subst q
    replace hb := ite_or hb
    rcases hb with ⟨_, hb⟩ | ⟨_, hb⟩
    · cases hb; exact ae_callB (ok_all h.calm) (bi_mono .all) hg hm (by decide +kernel) o3 o1 ha
    · cases hb
  replace hb := ite_or hb
  rcases hb with ⟨q, hb⟩ | ⟨_, hb⟩
  · subst q
    replace hb := ite_or hb
    rcases hb with ⟨_, hb⟩ | ⟨_, hb⟩
    · cases hb; exact ae_callB (ok_any h.calm) (bi_mono .any) hg hm (by decide +kernel) o3 o1 ha
    · cases hb
  replace hb := ite_or hb
  rcases hb with ⟨q, hb⟩ | ⟨_, hb⟩
  · subst q
    replace hb := ite_or hb
    rcases hb with ⟨_, hb⟩ | ⟨_, hb⟩
    · cases hb; exact ae_callTy ok_int (bi_mono .int) hg hm (by decide +kernel) o3 o1 ha
    · cases hb
  replace hb := ite_or hb
  rcases hb with ⟨q, hb⟩ | ⟨_, hb⟩
  · subst q
    replace hb := ite_or hb
    rcases hb with ⟨_, hb⟩ | ⟨_, hb⟩
    · cases hb; exact ae_callTy ok_str (bi_mono .str) hg hm (by decide +kernel) o3 o1 ha
    · cases hb
  replace hb := ite_or hb
  rcases hb with ⟨q, hb⟩ | ⟨_, hb⟩
  · subst q
    replace hb := ite_or hb
    rcases hb with ⟨_, hb⟩ | ⟨_, hb⟩
    · cases hb; exact ae_callTy ok_tuple (bi_mono .tup) hg hm (by decide +kernel) o3 o1 ha
    · cases hb
  replace hb := ite_or hb
  rcases hb with ⟨q, hb⟩ | ⟨_, hb⟩
  · subst q
    replace hb := ite_or hb
    rcases hb with ⟨_, hb⟩ | ⟨_, hb⟩
    · cases hb; exact ae_callTy ok_list (bi_mono (.lst m)) hg hm (by decide +kernel) o3 o1 ha
    · cases hb
  replace hb := ite_or hb
  rcases hb with ⟨q, hb⟩ | ⟨_, hb⟩
  · subst q
    replace hb := ite_or hb
    rcases hb with ⟨_, hb⟩ | ⟨_, hb⟩
    · cases hb; exact ae_callB ok_sortI (bi_mono (.sortI m)) hg hm (by decide +kernel) o3 o1 ha
    · cases hb
  cases hb
theorem ty_ok {T : String} (h : tyOf x = some T) : bootBuiltins x = some (.type T) := by
  unfold tyOf at h
  replace h := ite_or h
  rcases h with ⟨q, h⟩ | ⟨_, h⟩
  · subst q; cases h; decide +kernel
  replace h := ite_or h
  rcases h with ⟨q, h⟩ | ⟨_, h⟩
  · subst q; cases h; decide +kernel
  replace h := ite_or h
  rcases h with ⟨q, h⟩ | ⟨_, h⟩
  · subst q; cases h; decide +kernel
  replace h := ite_or h
  rcases h with ⟨q, h⟩ | ⟨_, h⟩
  · subst q; cases h; decide +kernel
  replace h := ite_or h
  rcases h with ⟨q, h⟩ | ⟨_, h⟩
  · subst q; cases h; decide +kernel
  cases h
/-! ### methods of built-in objects -/
theorem mt_mono : ∀ b : Mt, MonoM b.o
  | .append => appendO.mono
  | .extend => extendO.mono
  | .pop => popO.mono
  | .popAt => popAtO.mono
  | .remove => removeO.mono
  | .index => indexO.mono
  | .join => joinO.mono
  | .split _ => splitO.mono
  | .lstrip => lstripO.mono
  | .get2 => get2O.mono
theorem mt_ok1 (h : XOk c k C X) {m : Bool} {o e : Expr} {es : List Expr} {ta : AE} {t : AA} {apos cpos : Pos} {b : Mt} (hb : mtOf x (e :: es).length m = some b) (ho : AEok X W o ta) (hp : plainO o = true) (ha : AAok X W (e :: es) t) (hl : (e :: es).length < 29) (hline : (apos.endLine == cpos.line) = true) :
    AEok X W (.Call (.Attribute o x apos) (e :: es) [] cpos) (aBM b.T b.o ta t) := by
  unfold mtOf at hb
  replace hb := ite_or hb
  rcases hb with ⟨q, hb⟩ | ⟨_, hb⟩
  · subst q
    replace hb := ite_or hb
    rcases hb with ⟨_, hb⟩ | ⟨_, hb⟩
    · cases hb; exact ae_bm PySem.F.plainAttrs_list PySem.F.slot_list_append PySem.F.type_list_append (.inr (.inl rfl)) ok_append appendO.mono ho hp ha hl hline
    · cases hb
  replace hb := ite_or hb
  rcases hb with ⟨q, hb⟩ | ⟨_, hb⟩
  · subst q
    replace hb := ite_or hb
    rcases hb with ⟨_, hb⟩ | ⟨_, hb⟩
    · cases hb; exact ae_bm PySem.F.plainAttrs_list PySem.F.slot_list_extend PySem.F.type_list_extend (.inr (.inl rfl)) ok_extend extendO.mono ho hp ha hl hline
    · cases hb
  replace hb := ite_or hb
  rcases hb with ⟨q, hb⟩ | ⟨_, hb⟩
  · subst q
    replace hb := ite_or hb
    rcases hb with ⟨z, hb⟩ | ⟨_, hb⟩
    · cases z
    · replace hb := ite_or hb
      rcases hb with ⟨_, hb⟩ | ⟨_, hb⟩
      · cases hb; exact ae_bm PySem.F.plainAttrs_list PySem.F.slot_list_pop PySem.F.type_list_pop (.inr (.inl rfl)) ok_popAt popAtO.mono ho hp ha hl hline
      · cases hb
  replace hb := ite_or hb
  rcases hb with ⟨q, hb⟩ | ⟨_, hb⟩
  · subst q
    replace hb := ite_or hb
    rcases hb with ⟨_, hb⟩ | ⟨_, hb⟩
    · cases hb; exact ae_bm PySem.F.plainAttrs_list PySem.F.slot_list_remove PySem.F.type_list_remove (.inr (.inl rfl)) ok_remove removeO.mono ho hp ha hl hline
    · cases hb
  replace hb := ite_or hb
  rcases hb with ⟨q, hb⟩ | ⟨_, hb⟩
  · subst q
    replace hb := ite_or hb
    rcases hb with ⟨_, hb⟩ | ⟨_, hb⟩
    · cases hb; exact ae_bm PySem.F.plainAttrs_list PySem.F.slot_list_index PySem.F.type_list_index (.inr (.inl rfl)) ok_index indexO.mono ho hp ha hl hline
    · cases hb
  replace hb := ite_or hb
  rcases hb with ⟨q, hb⟩ | ⟨_, hb⟩
  · subst q
    replace hb := ite_or hb
    rcases hb with ⟨_, hb⟩ | ⟨_, hb⟩
    · cases hb; exact ae_bm PySem.F.plainAttrs_str PySem.F.slot_str_join PySem.F.type_str_join (.inl rfl) ok_join joinO.mono ho hp ha hl hline
    · cases hb
  replace hb := ite_or hb
  rcases hb with ⟨q, hb⟩ | ⟨_, hb⟩
  · subst q
    replace hb := ite_or hb
    rcases hb with ⟨_, hb⟩ | ⟨_, hb⟩
    · cases hb; exact ae_bm PySem.F.plainAttrs_str PySem.F.slot_str_split PySem.F.type_str_split (.inl rfl) ok_split splitO.mono ho hp ha hl hline
    · cases hb
  replace hb := ite_or hb
  rcases hb with ⟨q, hb⟩ | ⟨_, hb⟩
  · subst q
    replace hb := ite_or hb
    rcases hb with ⟨_, hb⟩ | ⟨_, hb⟩
    · cases hb; exact ae_bm PySem.F.plainAttrs_str PySem.F.slot_str_lstrip PySem.F.type_str_lstrip (.inl rfl) ok_lstrip lstripO.mono ho hp ha hl hline
    · cases hb
  replace hb := ite_or hb
  rcases hb with ⟨q, hb⟩ | ⟨_, hb⟩
  · subst q
    replace hb := ite_or hb
    rcases hb with ⟨_, hb⟩ | ⟨_, hb⟩
    · cases hb; exact ae_bm PySem.F.plainAttrs_dict PySem.F.slot_dict_get PySem.F.type_dict_get (.inr (.inr rfl)) (ok_get2 h.u1) get2O.mono ho hp ha hl hline
    · cases hb
  cases hb
theorem mt_ok0 {m : Bool} {o : Expr} {ta : AE} {apos cpos : Pos} {b : Mt} (hb : mtOf x 0 m = some b) (ho : AEok X W o ta) (hp : plainO o = true) (hline : (apos.endLine == cpos.line) = true) :
    AEok X W (.Call (.Attribute o x apos) [] [] cpos) (aBM b.T b.o ta aNil) := by
  unfold mtOf at hb
  replace hb := ite_or hb
  rcases hb with ⟨_, hb⟩ | ⟨_, hb⟩
  · replace hb := ite_or hb
    rcases hb with ⟨z, hb⟩ | ⟨_, hb⟩
    · cases z
    · cases hb
  replace hb := ite_or hb
  rcases hb with ⟨_, hb⟩ | ⟨_, hb⟩
  · replace hb := ite_or hb
    rcases hb with ⟨z, hb⟩ | ⟨_, hb⟩
    · cases z
    · cases hb
  replace hb := ite_or hb
  rcases hb with ⟨q, hb⟩ | ⟨_, hb⟩
  · subst q
    replace hb := ite_or hb
    rcases hb with ⟨_, hb⟩ | ⟨z, hb⟩
    · cases hb; exact ae_bm0 PySem.F.plainAttrs_list PySem.F.slot_list_pop PySem.F.type_list_pop (.inr (.inl rfl)) ok_pop popO.mono ho hp hline
    · exact absurd rfl z
  replace hb := ite_or hb
  rcases hb with ⟨_, hb⟩ | ⟨_, hb⟩
  · replace hb := ite_or hb
    rcases hb with ⟨z, hb⟩ | ⟨_, hb⟩
    · cases z
    · cases hb
  replace hb := ite_or hb
  rcases hb with ⟨_, hb⟩ | ⟨_, hb⟩
  · replace hb := ite_or hb
    rcases hb with ⟨z, hb⟩ | ⟨_, hb⟩
    · cases z
    · cases hb
  replace hb := ite_or hb
  rcases hb with ⟨_, hb⟩ | ⟨_, hb⟩
  · replace hb := ite_or hb
    rcases hb with ⟨z, hb⟩ | ⟨_, hb⟩
    · cases z
    · cases hb
  replace hb := ite_or hb
  rcases hb with ⟨_, hb⟩ | ⟨_, hb⟩
  · replace hb := ite_or hb
    rcases hb with ⟨z, hb⟩ | ⟨_, hb⟩
    · cases z
    · cases hb
  replace hb := ite_or hb
  rcases hb with ⟨_, hb⟩ | ⟨_, hb⟩
  · replace hb := ite_or hb
    rcases hb with ⟨z, hb⟩ | ⟨_, hb⟩
    · cases z
    · cases hb
  replace hb := ite_or hb
  rcases hb with ⟨_, hb⟩ | ⟨_, hb⟩
  · replace hb := ite_or hb
    rcases hb with ⟨z, hb⟩ | ⟨_, hb⟩
    · cases z
    · cases hb
  cases hb
end
end TT
set_option Elab.async false
set_option linter.all false
set_option maxRecDepth 100000
set_option maxHeartbeats 4000000
/-! TO: the terms say what the text does: expressions. -/
namespace TT
open PySem PySem.Spec PyProof.Rows L2
theorem takesN {X : Cx} : L2N.Takes X W0 := by
  rintro u s' ⟨_, _, _, _, _, _, _, _, _, _, _, _, _, _, _, _, w⟩
  exact w.elim
variable {k : Nat} {C : Nat → AF}
/-- a list comprehension's parts -/
structure LcParts (C : Nat → AF) (X : Cx) (W : WX) (elt tg iter : Expr) (ifs : List Expr) (scope : Scope) (ie : Ex) : Prop where
  ex : ∃ m, ∃ own : List (Str × Nat), ∃ q ik ies cs e, ie = .comp m (own.map (·.2)) q ik ies cs e ∧ AIok X W tg iter (wpI C C ik ies) ∧ BlkOk X.N X.env.scope scope own ∧ tgIn (own.map (·.2)) q = true ∧ (∀ t, wpC C C cs = some t → MonoE t) ∧ MonoE (wpE C C e) ∧
    (∀ (s : Shared) (H : Hp) (C' : Addr) (cl : List (Str × Addr)) (fp : List Addr), PG (X.blk s H scope (compEnvC scope cl C' X.env) fp) tg (gOf X.K q)) ∧
    (∀ (s : Shared) (H : Hp) (C' : Addr) (cl : List (Str × Addr)) (fp : List Addr), CondOk (X.blk s H scope (compEnvC scope cl C' X.env) fp) ifs (wpC C C cs)) ∧
    (∀ (s : Shared) (H : Hp) (C' : Addr) (cl : List (Str × Addr)) (fp : List Addr), AEok (X.blk s H scope (compEnvC scope cl C' X.env) fp) W0 elt (wpE C C e)) ∧ ∀ x, foldedSetIterable iter X.env x = pure x
structure Snd (k : Nat) (C : Nat → AF) (n : Nat) : Prop where
  e : ∀ {c : CE} {X : Cx} {W : WX}, XOk c k C X → L2N.Takes X W → ∀ {e ie}, compE n c e = some ie → Both X W e (wpE C C ie)
  es : ∀ {c : CE} {X : Cx} {W : WX}, XOk c k C X → L2N.Takes X W → ∀ {es ies}, compEs n c es = some ies → AAok X W es (wpEs C C ies)
  hd : ∀ {c : CE} {X : Cx} {W : WX}, XOk c k C X → L2N.Takes X W → ∀ {e ies}, compEs n c [e] = some ies → ∃ ie, ies = [ie] ∧ Both X W e (wpE C C ie)
  b : ∀ {c : CE} {X : Cx} {W : WX}, XOk c k C X → L2N.Takes X W → ∀ {op es ie pos}, compB n c op es = some ie → BoolOk X W op es pos (wpE C C ie)
  call : ∀ {c : CE} {X : Cx} {W : WX}, XOk c k C X → L2N.Takes X W → ∀ {x es p p1 ie}, compCall n c x es p = some ie → AEok X W (.Call (.Name x p1) es [] p) (wpE C C ie)
  call2 : ∀ {c : CE} {X : Cx} {W : WX}, XOk c k C X → L2N.Takes X W → ∀ {x e es p p1 ie}, compCall2 n c x (e :: es) p = some ie → AEok X W (.Call (.Name x p1) (e :: es) [] p) (wpE C C ie)
  meth : ∀ {c : CE} {X : Cx} {W : WX}, XOk c k C X → L2N.Takes X W → ∀ {o m es p ap ie}, compMeth n c o m es p = some ie → plainO o = true → es.length < 28 → (ap.endLine == p.line) = true → AEok X W (.Call (.Attribute o m ap) es [] p) (wpE C C ie)
  lc : ∀ {c : CE} {X : Cx} {W : WX}, XOk c k C X → L2N.Takes X W → ∀ {elt tg iter ifs scope p ie}, compLc n c elt tg iter ifs scope p = some ie → LcParts C X W elt tg iter ifs scope ie
  it : ∀ {c : CE} {X : Cx} {W : WX}, XOk c k C X → L2N.Takes X W → ∀ {e tg ik ies}, compIt n c (isTupT tg) e = some (ik, ies) → AIok X W tg e (wpI C C ik ies)
  ps : ∀ {c : CE} {X : Cx} {W : WX}, XOk c k C X → L2N.Takes X W → ∀ {ks vs ies pos}, compPs n c ks vs = some ies → APok X W pos ks vs (wpPs C C ies) ∧ ks.length * 2 = ies.length
theorem snd_zero : Snd k C 0 where
  e := by
    intros
    rename_i h
    cases h
  es := by
    intros
    rename_i h
    cases h
  hd := by
    intros
    rename_i h
    cases h
  b := by
    intros
    rename_i h
    cases h
  call := by
    intros
    rename_i h
    cases h
  call2 := by
    intros
    rename_i h
    cases h
  meth := by
    intros
    rename_i h _ _ _
    cases h
  lc := by
    intros
    rename_i h
    cases h
  it := by
    intros
    rename_i h
    cases h
  ps := by
    intros
    rename_i h
    cases h
theorem aSl_mono {m : Bool} {ta : AE} {tl tu : AB} (ma : MonoE ta) (ml : MonoB tl) (mu : MonoB tu) : MonoE (aSl m ta tl tu) := fun ρ M Q Q' X X' hq hx h =>
  ma _ _ _ _ _ _ (fun x M1 h1 => ml _ _ _ _ _ _ (fun i M2 h2 => mu _ _ _ _ _ _ (fun j M3 h3 => slO.mono hq h3) hx h2) hx h1) hx h
/-! ### all is monotone -/
mutual
theorem wpE_mono (mC : ∀ j, MonoF (C j)) : ∀ e : Ex, MonoE (wpE C C e)
  | .var i => aVar.mono
  | .con d => aCon.mono
  | .bop o a b => aBin.mono (bop_mono o) (wpE_mono mC a) (wpE_mono mC b)
  | .cop o a b => aBin.mono (cop_mono o) (wpE_mono mC a) (wpE_mono mC b)
  | .chn o o' a b c => aChn.mono (cop_mono o) (cop_mono o') (wpE_mono mC a) (wpE_mono mC b) (wpE_mono mC c)
  | .and a b => aAnd.mono (wpE_mono mC a) (wpE_mono mC b)
  | .or a b => aOr.mono (wpE_mono mC a) (wpE_mono mC b)
  | .not a => aNot.mono (wpE_mono mC a)
  | .neg a => aUn.mono (fun _ _ _ _ => negO.mono) (wpE_mono mC a)
  | .tup es => fun ρ M Q Q' X X' hq hx h => wpEs_mono mC es _ _ _ _ _ _ (fun x M1 h1 => hq _ _ h1) hx h
  | .lst m es => fun ρ M Q Q' X X' hq hx h => wpEs_mono mC es _ _ _ _ _ _ (fun x M1 h1 => alloc_mono hq h1) hx h
  | .ix a b => aBin.mono ixO.mono (wpE_mono mC a) (wpE_mono mC b)
  | .slB m a lo hi => aSl_mono (wpE_mono mC a) (bSome.mono (wpE_mono mC lo)) (bSome.mono (wpE_mono mC hi))
  | .slL m a lo => aSl_mono (wpE_mono mC a) (bSome.mono (wpE_mono mC lo)) bNone.mono
  | .slU m a hi => aSl_mono (wpE_mono mC a) bNone.mono (bSome.mono (wpE_mono mC hi))
  | .rv m a => aUn.mono (fun _ _ _ _ => rvO.mono) (wpE_mono mC a)
  | .isi T a => aUn.mono (fun _ _ _ _ => isiO.mono) (wpE_mono mC a)
  | .bi b es => fun ρ M Q Q' X X' hq hx h => wpEs_mono mC es _ _ _ _ _ _ (fun x M1 h1 => bi_mono b _ _ _ _ hq h1) hx h
  | .mt b o es => aBM.mono (mt_mono b) (wpE_mono mC o) (wpEs_mono mC es)
  | .fld c f o => aUn.mono (fun _ _ _ _ => fldO.mono) (wpE_mono mC o)
  | .call f es => aCall.mono (mC f) (wpEs_mono mC es)
  | .meth c m f o es => aMeth.mono (mC f) (wpE_mono mC o) (wpEs_mono mC es)
  | .new c f es => aNew.mono (mC f) (wpEs_mono mC es)
  | .comp m own k .seq ies conds elt => aComp.mono (fun ρ M Q Q' X X' hq hx h => wpHd_mono mC ies _ _ _ _ _ _ (fun x M1 h1 => itemsO.mono hq h1) hx h) (wpC_mono mC conds) (wpE_mono mC elt)
  | .comp m own k .rng ies conds elt => aComp.mono (aRng.mono (wpEs_mono mC ies)) (wpC_mono mC conds) (wpE_mono mC elt)
  | .comp m own k .en ies conds elt => aComp.mono (aEn.mono (wpEs_mono mC ies)) (wpC_mono mC conds) (wpE_mono mC elt)
  | .comp m own k .zp ies conds elt => aComp.mono (aZp.mono (wpEs_mono mC ies)) (wpC_mono mC conds) (wpE_mono mC elt)
  | .trg1 a => aUn.mono (fun _ _ _ _ => trg1O.mono) (wpE_mono mC a)
  | .lrg1 m a => aUn.mono (fun _ _ _ _ => lrg1O.mono) (wpE_mono mC a)
  | .trg2 a b => aBin.mono trg2O.mono (wpE_mono mC a) (wpE_mono mC b)
  | .dsp kvs => aDsp.mono (wpPs_mono mC kvs)
theorem wpPs_mono (mC : ∀ j, MonoF (C j)) : ∀ es : List Ex, MonoP (wpPs C C es)
  | [] => fun _ _ _ _ _ _ h _ q => h _ _ q
  | [_] => fun _ _ _ _ _ _ h _ q => h _ _ q
  | k :: v :: r => apCons.mono (wpE_mono mC k) (wpE_mono mC v) (wpPs_mono mC r)
theorem wpEs_mono (mC : ∀ j, MonoF (C j)) : ∀ es : List Ex, MonoA (wpEs C C es)
  | [] => fun _ _ _ _ _ _ h _ q => h _ _ q
  | e :: es => fun ρ M Q Q' X X' hq hx h => wpE_mono mC e _ _ _ _ _ _ (fun x M1 h1 => wpEs_mono mC es _ _ _ _ _ _ (fun xs M2 h2 => hq _ _ h2) hx h1) hx h
theorem wpHd_mono (mC : ∀ j, MonoF (C j)) : ∀ es : List Ex, MonoE (wpHd C C es)
  | [] => fun _ _ _ _ _ _ _ _ q => q.elim
  | e :: es => wpE_mono mC e
theorem wpC_mono (mC : ∀ j, MonoF (C j)) : ∀ (es : List Ex) (t : AE), wpC C C es = some t → MonoE t
  | [], _, h => nomatch h
  | e :: es, t, h => by
    have e1 : wpE C C e = t := Option.some.inj h
    rw [← e1]
    exact wpE_mono mC e
end
theorem map_ok {α β : Type} {f : α → β} {a : Option α} {b : β} (h : a.map f = some b) : ∃ x, a = some x ∧ f x = b := by
  cases a with
  | none => cases h
  | some x => cases h; exact ⟨x, rfl, rfl⟩
theorem wpPs_len (mC : ∀ j, MonoF (C j)) : ∀ (es : List Ex) {m : Nat} {ρ : Env} {M : Mp} {Q : List (D × D) → Mp → Prop} {E : KX}, es.length ≤ m + m → wpPs C C es ρ M Q E → wpPs C C es ρ M (fun ps M' => ps.length ≤ m ∧ Q ps M') E
  | [], m, _, _, _, _, _, q => ⟨Nat.zero_le _, q⟩
  | [_], m, _, _, _, _, _, q => ⟨Nat.zero_le _, q⟩
  | k :: v :: r, m, ρ, M, Q, E, hl, q => by
    cases m with
    | zero => simp at hl
    | succ m =>
      refine wpE_mono mC k _ _ _ _ _ _ (fun x M1 g1 => wpE_mono mC v _ _ _ _ _ _ (fun y M2 g2 => ?_) (fun _ _ z => z) g1) (fun _ _ z => z) q
      exact wpPs_mono mC r _ _ _ _ _ _ (fun ps M3 ⟨g3, g4⟩ => ⟨by simp; omega, g4⟩) (fun _ _ z => z) (wpPs_len mC r (m := m) (by simp at hl; omega) g2)
section
variable {c : CE} {X : Cx} {W : WX} {n : Nat}
theorem LcParts.ae {elt tg iter : Expr} {ifs : List Expr} {scope : Scope} {p : Pos} {ie : Ex} (x : XOk c k C X) (h : LcParts C X W elt tg iter ifs scope ie) : AEok X W (.ListComp elt [⟨tg, iter, ifs, 0⟩] scope p) (wpE C C ie) := by
  obtain ⟨m, own, q, ik, ies, cs, e, rfl, h1, h2, h3, h4, h5, h6, h7, h8, h9⟩ := h.ex
  have := ae_comp (m := m) (pos := p) x.calm x.nd' h1 h2 h3 h4 h5 h6 h7 h8 h9
  show AEok X W _ (aComp m (own.map (·.2)) _ q (wpC C C cs) (wpE C C e))
  cases ik <;> exact this
theorem snd_e (ih : Snd k C n) (x : XOk c k C X) (tk : L2N.Takes X W) : ∀ {e ie}, compE (n + 1) c e = some ie → Both X W e (wpE C C ie) := by
  intro e ie h
  unfold compE at h
  split at h
  · obtain ⟨d, hd, rfl⟩ := map_ok h
    exact both_of rfl (con_ok hd)
  · split at h
    · rename_i hv
      obtain ⟨i, hi, rfl⟩ := map_ok h
      obtain ⟨v, o⟩ := x.vis hv
      obtain ⟨o1, o2, o3⟩ := okName_ok o
      exact both_of rfl (ae_var (x.ix hi) v o1 o2)
    · obtain ⟨hg, h⟩ := when_ok h
      obtain ⟨d, hd, rfl⟩ := map_ok h
      obtain ⟨g, o⟩ := x.gl hg
      obtain ⟨o1, o2, o3⟩ := okName_ok o
      obtain ⟨v, u, hm, r, rp⟩ := x.gf.co _ _ hd
      exact both_of rfl (ae_con (pe_glob g hm r o1) rp)
  · split at h
    · rename_i o ho
      obtain ⟨a, b, ha, hb, rfl⟩ := opt2_ok h
      exact both_of rfl (ae_op (bop_ok ho) (bop_mono o) (ih.e x tk ha).ae (ih.e x tk hb).ae)
    · cases h
  · obtain ⟨a, ha, rfl⟩ := map_ok h
    exact both_not (ih.e x tk ha)
  · obtain ⟨a, ha, rfl⟩ := map_ok h
    exact both_of rfl (ae_neg (ih.e x tk ha).ae)
  · exact (ih.b x tk h).both
  · obtain ⟨hs, h⟩ := when_ok h
    obtain ⟨a, b, ha, hb, rfl⟩ := opt2_ok h
    exact both_cmp (cop_okM x _ _) (cop_mono _) (ih.e x tk ha).ae (ih.e x tk hb).ae (mark_of (by simpa using hs))
  · obtain ⟨hs, h⟩ := when_ok h
    split at h
    · rename_i d' hd
      obtain ⟨a, b, ha, hb, rfl⟩ := opt2_ok h
      exact both_chn (cop_ok x _) (cop_ok x _) (cop_mono _) (cop_mono _) (ih.e x tk ha).ae (ih.e x tk hb).ae (ih.e x tk hd).ae (show behindInMarks _ _ = false from mark_of (by simpa using hs))
    · cases h
  · obtain ⟨hl, h⟩ := when_ok h
    obtain ⟨a, ha, rfl⟩ := map_ok h
    exact both_of rfl (ae_tup (of_decide_eq_true hl) (ih.es x tk ha))
  · obtain ⟨hl, h⟩ := when_ok h
    obtain ⟨a, ha, rfl⟩ := map_ok h
    exact both_of rfl (ae_lst (of_decide_eq_true hl) (ih.es x tk ha))
  · obtain ⟨a, ha, rfl⟩ := map_ok h
    exact both_of rfl (ae_rv (ih.e x tk ha).ae)
  · split at h
    · rename_i a' ha
      obtain ⟨l, u, hl, hu, rfl⟩ := opt2_ok h
      exact both_of rfl (ae_sl (ih.e x tk ha).ae (ab_some (ih.e x tk hl).ae) (ab_some (ih.e x tk hu).ae))
    · cases h
  · obtain ⟨a, l, ha, hl, rfl⟩ := opt2_ok h
    exact both_of rfl (ae_sl (ih.e x tk ha).ae (ab_some (ih.e x tk hl).ae) ab_none)
  · obtain ⟨a, u, ha, hu, rfl⟩ := opt2_ok h
    exact both_of rfl (ae_sl (ih.e x tk ha).ae ab_none (ab_some (ih.e x tk hu).ae))
  · obtain ⟨hs, h⟩ := when_ok h
    obtain ⟨a, b, ha, hb, rfl⟩ := opt2_ok h
    exact both_of rfl (ae_ix (ok_ix x.u1) ixO.mono (ih.e x tk ha).ae (ih.e x tk hb).ae (plainIx_of hs))
  · split at h
    · rename_i cl hc
      obtain ⟨hs, h⟩ := when_ok h
      obtain ⟨a, ha, rfl⟩ := map_ok h
      rw [Bool.and_eq_true] at hs
      obtain ⟨g1, g2⟩ := x.gf.att _ _ hs.2
      exact both_of rfl (ae_fld g1 g2 hs.1 (ih.e x tk ha).ae)
    · cases h
  · exact both_of rfl (ih.call x tk h)
  · obtain ⟨hs, h⟩ := when_ok h
    rw [Bool.and_eq_true, Bool.and_eq_true] at hs
    exact both_of rfl (ih.meth x tk h hs.1.1 (of_decide_eq_true hs.1.2) hs.2)
  · exact both_of rfl ((ih.lc x tk h).ae x)
  · cases h
    exact both_of rfl ae_dsp0
  · obtain ⟨hl, h⟩ := when_ok h
    obtain ⟨a, ha, rfl⟩ := map_ok h
    have hl := of_decide_eq_true hl
    obtain ⟨p1, p2⟩ := ih.ps x tk ha
    refine both_of rfl (ae_dsp p1 (by simp) (by simp; omega) fun ρ M Q E q => wpPs_len x.gf.mC _ ?_ q)
    simp at p2 ⊢; omega
  · cases h
theorem snd_ps (ih : Snd k C n) (x : XOk c k C X) (tk : L2N.Takes X W) : ∀ {ks vs ies pos}, compPs (n + 1) c ks vs = some ies → APok X W pos ks vs (wpPs C C ies) ∧ ks.length * 2 = ies.length := by
  intro ks vs ies pos h
  unfold compPs at h
  split at h
  · cases h; exact ⟨ap_nil, rfl⟩
  · split at h
    · rename_i k' hk
      obtain ⟨a, b, ha, hb, rfl⟩ := opt2_ok h
      obtain ⟨p1, p2⟩ := ih.ps x tk hb
      exact ⟨ap_cons (ih.e x tk hk).ae (ih.e x tk ha).ae p1, by simp; omega⟩
    · cases h
  · cases h
theorem snd_es (ih : Snd k C n) (x : XOk c k C X) (tk : L2N.Takes X W) : ∀ {es ies}, compEs (n + 1) c es = some ies → AAok X W es (wpEs C C ies) := by
  intro es ies h
  unfold compEs at h
  split at h
  · cases h; exact aa_nil
  · obtain ⟨hp, h⟩ := when_ok h
    obtain ⟨a, b, ha, hb, rfl⟩ := opt2_ok h
    exact aa_cons hp (ih.e x tk ha).ae (ih.es x tk hb)
theorem snd_hd (ih : Snd k C n) (x : XOk c k C X) (tk : L2N.Takes X W) : ∀ {e ies}, compEs (n + 1) c [e] = some ies → ∃ ie, ies = [ie] ∧ Both X W e (wpE C C ie) := by
  intro e ies h
  unfold compEs at h
  obtain ⟨hp, h⟩ := when_ok h
  obtain ⟨a, b, ha, hb, rfl⟩ := opt2_ok h
  cases n with
  | zero => cases hb
  | succ n =>
    unfold compEs at hb
    cases hb
    exact ⟨a, rfl, ih.e x tk ha⟩
theorem snd_b (ih : Snd k C n) (x : XOk c k C X) (tk : L2N.Takes X W) : ∀ {op es ie pos}, compB (n + 1) c op es = some ie → BoolOk X W op es pos (wpE C C ie) := by
  intro op es ie pos h
  unfold compB at h
  split at h
  · exact bool_one (ih.e x tk h)
  · obtain ⟨a, b, ha, hb, rfl⟩ := opt2_ok h
    exact bool_and (ih.e x tk ha) (ih.b x tk hb)
  · obtain ⟨a, b, ha, hb, rfl⟩ := opt2_ok h
    exact bool_or (ih.e x tk ha) (ih.b x tk hb)
  · cases h
theorem snd_call2 (ih : Snd k C n) (x : XOk c k C X) (tk : L2N.Takes X W) : ∀ {y e es p p1 ie}, compCall2 (n + 1) c y (e :: es) p = some ie → AEok X W (.Call (.Name y p1) (e :: es) [] p) (wpE C C ie) := by
  intro y e es p p1 ie h
  unfold compCall2 at h
  split at h
  · rename_i f hg hf
    obtain ⟨a, ha, rfl⟩ := map_ok h
    obtain ⟨g, o⟩ := x.gl hg
    obtain ⟨o1, o2, o3⟩ := okName_ok o
    obtain ⟨ad, fd, ps, hm, hk, hb, F⟩ := x.gf.fn _ _ hf
    exact ae_call F (x.gf.mC f) (x.room.mono (Nat.le_succ _)) g hm hk hb tk o1 (ih.es x tk ha)
  · rename_i f hg _ hf
    obtain ⟨a, ha, rfl⟩ := map_ok h
    obtain ⟨g, o⟩ := x.gl hg
    obtain ⟨o1, o2, o3⟩ := okName_ok o
    obtain ⟨ad, fd, ps, hmk, hm, hb, F⟩ := x.gf.cl _ _ hf
    exact ae_new hmk F (x.gf.mC f) x.room g hm hb tk o1 (ih.es x tk ha)
  · rename_i b nm ty hg _ _ hb
    obtain ⟨hfr, h⟩ := when_ok h
    obtain ⟨a, ha, rfl⟩ := map_ok h
    obtain ⟨g, o⟩ := x.gl hg
    exact bi_ok x hb g (x.gf.fr _ hfr) o (ih.es x tk ha)
  · cases h
theorem snd_call (ih : Snd k C n) (x : XOk c k C X) (tk : L2N.Takes X W) : ∀ {y es p p1 ie}, compCall (n + 1) c y es p = some ie → AEok X W (.Call (.Name y p1) es [] p) (wpE C C ie) := by
  intro y es p p1 ie h
  unfold compCall at h
  split at h
  · cases h
  · rename_i z zp rs q
    split at h
    · rename_i a hx hz
      obtain ⟨hs, h⟩ := when_ok h
      obtain ⟨a', ha, rfl⟩ := map_ok h
      rw [Bool.and_eq_true, Bool.and_eq_true] at hs
      obtain ⟨g1, m1, _⟩ := x.bl hs.1.1
      obtain ⟨g2, m2, _⟩ := x.bl hs.1.2
      cases of_decide_eq_true hx
      cases of_decide_eq_true hz
      exact ae_trg1 x.calm g1 m1 g2 m2 hs.2 (ih.e x tk ha).ae
    · rename_i a b hx hz
      obtain ⟨hs, h⟩ := when_ok h
      obtain ⟨a', b', ha, hb, rfl⟩ := opt2_ok h
      rw [Bool.and_eq_true, Bool.and_eq_true, Bool.and_eq_true] at hs
      obtain ⟨g1, m1, _⟩ := x.bl hs.1.1.1
      obtain ⟨g2, m2, _⟩ := x.bl hs.1.1.2
      cases of_decide_eq_true hx
      cases of_decide_eq_true hz
      exact ae_trg2 x.calm g1 m1 g2 m2 hs.1.2 hs.2 (ih.e x tk ha).ae (ih.e x tk hb).ae
    · rename_i n1 n2
      split at h
      · rename_i a hx hz
        obtain ⟨hs, h⟩ := when_ok h
        obtain ⟨a', ha, rfl⟩ := map_ok h
        rw [Bool.and_eq_true, Bool.and_eq_true] at hs
        obtain ⟨g1, m1, _⟩ := x.bl hs.1.1
        obtain ⟨g2, m2, _⟩ := x.bl hs.1.2
        cases of_decide_eq_true hx
        cases of_decide_eq_true hz
        exact ae_lrg1 x.calm g1 m1 g2 m2 hs.2 (ih.e x tk ha).ae
      · exact ih.call2 x tk h
  · rename_i a z pz
    split at h
    · rename_i T hx hT
      obtain ⟨hs, h⟩ := when_ok h
      obtain ⟨q, hq, rfl⟩ := map_ok h
      rw [Bool.and_eq_true, Bool.and_eq_true] at hs
      obtain ⟨g1, m1, o⟩ := x.bl hs.1.1
      obtain ⟨g2, m2, o'⟩ := x.bl hs.1.2
      obtain ⟨o1, o2, o3⟩ := okName_ok o'
      have e1 := of_decide_eq_true hx
      subst e1
      exact ae_isi g1 m1 g2 m2 (ty_ok hT) o3 o1 hs.2 (ih.e x tk hq).ae
    · cases h
    · exact ih.call2 x tk h
  · rename_i hne _
    cases es with
    | nil => cases n with
      | zero => cases h
      | succ n => exact absurd rfl (by assumption)
    | cons e es => exact ih.call2 x tk h
theorem snd_meth (ih : Snd k C n) (x : XOk c k C X) (tk : L2N.Takes X W) : ∀ {o m es p ap ie}, compMeth (n + 1) c o m es p = some ie → plainO o = true → es.length < 28 → (ap.endLine == p.line) = true → AEok X W (.Call (.Attribute o m ap) es [] p) (wpE C C ie) := by
  intro o m es p ap ie h hp hl hline
  unfold compMeth at h
  split at h
  · rename_i cl hc
    split at h
    · rename_i f hf
      obtain ⟨a, b, ha, hb, rfl⟩ := opt2_ok h
      obtain ⟨ad, fd, ps, hcl, hm, hb', F⟩ := x.gf.me _ _ _ hf
      cases es with
      | nil =>
        have : b = [] := by
          cases n with
          | zero => cases hb
          | succ n => unfold compEs at hb; cases hb; rfl
        subst this
        exact ae_meth0 hcl hm F (x.gf.mC f) (x.room.mono (Nat.le_succ _)) hb' tk (ih.e x tk ha).ae hp hline
      | cons e es => exact ae_meth hcl hm F (x.gf.mC f) (x.room.mono (Nat.le_succ _)) hb' tk (ih.e x tk ha).ae (ih.es x tk hb) (by simp at hl ⊢; omega) hp hline
    · cases h
  · split at h
    · rename_i b hb
      obtain ⟨a, q, ha, hq, rfl⟩ := opt2_ok h
      cases es with
      | nil =>
        have : q = [] := by
          cases n with
          | zero => cases hq
          | succ n => unfold compEs at hq; cases hq; rfl
        subst this
        exact mt_ok0 hb (ih.e x tk ha).ae hp hline
      | cons e es => exact mt_ok1 x hb (ih.e x tk ha).ae hp (ih.es x tk hq) (by simp at hl ⊢; omega) hline
    · cases h
theorem XOk.blk (x : XOk c k C X) {scope : Scope} {s : Shared} {H : Hp} {C' : Addr} {cl : List (Str × Addr)} {fp : List Addr} : XOk { c with sc := relS scope c.sc, blk := true } k C (X.blk s H scope (compEnvC scope cl C' X.env) fp) :=
  ⟨x.N, x.nd, (by show relabel scope X.env = relS scope c.sc; rw [← x.sc] <;> rfl), x.room, x.calm, (fun h => nomatch h), x.gf⟩
theorem snd_lc (ih : Snd k C n) (x : XOk c k C X) (tk : L2N.Takes X W) : ∀ {elt tg iter ifs scope p ie}, compLc (n + 1) c elt tg iter ifs scope p = some ie → LcParts C X W elt tg iter ifs scope ie := by
  intro elt tg iter ifs scope p ie h
  unfold compLc at h
  simp only at h
  obtain ⟨hs, h⟩ := when_ok h
  rw [Bool.and_eq_true, Bool.and_eq_true] at hs
  split at h
  · rename_i q ik ies cs e hq hit hcs he
    obtain ⟨ht, h⟩ := when_ok h
    cases h
    have hifs : ifs.length ≤ 1 := of_decide_eq_true hs.2
    have hns : isSet iter = false := by simpa using hs.1.2
    have e1 := fun (s : Shared) (H : Hp) (C' : Addr) (cl : List (Str × Addr)) (fp : List Addr) => ih.e (x.blk (scope := scope) (s := s) (H := H) (C' := C') (cl := cl) (fp := fp)) (W := W0) takesN he
    refine ⟨c.mut p, ownOf c.N scope.names, q, ik, ies, cs, e, rfl, ih.it x tk hit, ?_, ht, ?_, ?_, fun s H C' cl fp => tgOf_ok x.blk hq, ?_, fun s H C' cl fp => (e1 s H C' cl fp).ae, fold_of hns⟩
    · have b := blkOk_by hs.1.1
      rw [x.N, x.sc]; exact b
    · exact wpC_mono x.gf.mC cs
    · exact wpE_mono x.gf.mC e
    · intro s H C' cl fp
      match ifs, hifs with
      | [], _ =>
        have : cs = [] := by
          cases n with
          | zero => cases hcs
          | succ n => unfold compEs at hcs; cases hcs; rfl
        subst this
        exact cond_nil
      | [c0], _ =>
        obtain ⟨ie, e2, b⟩ := ih.hd (x.blk (scope := scope) (s := s) (H := H) (C' := C') (cl := cl) (fp := fp)) (W := W0) takesN hcs
        subst e2
        exact cond_one b
  · cases h
theorem snd_it (ih : Snd k C n) (x : XOk c k C X) (tk : L2N.Takes X W) : ∀ {e tg ik ies}, compIt (n + 1) c (isTupT tg) e = some (ik, ies) → AIok X W tg e (wpI C C ik ies) := by
  intro e tg ik ies h
  have seq : ∀ {e}, ((compE n c e).map fun y => (ItK.seq, [y])) = some (ik, ies) → AIok X W tg e (wpI C C ik ies) := fun {e} h => by
    obtain ⟨y, hy, e1⟩ := map_ok h
    cases e1
    exact ai_seq (ih.e x tk hy).ae
  unfold compIt at h
  split at h
  · rename_i y py es p
    split at h
    · rename_i hx
      obtain ⟨hs, h⟩ := when_ok h
      obtain ⟨xs, hxs, e1⟩ := map_ok h
      cases e1
      rw [Bool.and_eq_true] at hs
      have e2 := of_decide_eq_true hx
      subst e2
      obtain ⟨g1, m1, o⟩ := x.bl hs.1
      have hl := of_decide_eq_true hs.2
      match es, hl with
      | [a], _ => exact ai_rng1 g1 m1 (ih.es x tk hxs)
      | [a, b], _ => exact ai_rng2 g1 m1 (ih.es x tk hxs)
    · split at h
      · rename_i hx
        obtain ⟨hs, h⟩ := when_ok h
        obtain ⟨xs, hxs, e1⟩ := map_ok h
        cases e1
        rw [Bool.and_eq_true, Bool.and_eq_true] at hs
        cases of_decide_eq_true hx
        obtain ⟨g1, m1, o⟩ := x.bl hs.1.1
        have hl := of_decide_eq_true hs.2
        have ht := hs.1.2
        cases tg with
        | Tuple elts kk tpos =>
          match es, hl with
          | [a], _ => exact ai_en g1 m1 (ih.es x tk hxs)
        | _ => cases ht
      · rename_i hx
        obtain ⟨hs, h⟩ := when_ok h
        obtain ⟨xs, hxs, e1⟩ := map_ok h
        cases e1
        rw [Bool.and_eq_true, Bool.and_eq_true] at hs
        cases of_decide_eq_true hx
        obtain ⟨g1, m1, o⟩ := x.bl hs.1.1
        have hl := of_decide_eq_true hs.2
        have ht := hs.1.2
        cases tg with
        | Tuple elts kk tpos =>
          match es, hl with
          | [a, b], _ => exact ai_zp2 g1 m1 (ih.es x tk hxs)
          | [a, b, d], _ => exact ai_zp3 g1 m1 (ih.es x tk hxs)
        | _ => cases ht
      · exact seq h
  · exact seq h
end
end TT
set_option Elab.async false
set_option linter.all false
set_option maxRecDepth 100000
set_option maxHeartbeats 4000000
/-! TP: the terms say what the text does: statements. -/
namespace TT
open PySem PySem.Spec PyProof.Rows L2
variable {k : Nat} {C : Nat → AF}
structure XS (c : CE) (X : Cx) : Prop where
  passes : PassesOwn (model X.prog X.w) X.A X.env X.xe
  stack : X.stack = X.env :: X.outer
  frame : X.env.frame = some X.env.locals
  nb : c.blk = false
  exm : ∀ z y, (z, y) ∈ c.g.exm → PySem.W.exmOne X.K (.ref (He.ga X.K z)) (.ref (He.ga X.K y)) = some true
theorem snd_all (mC : True) : ∀ n, Snd k C n
  | 0 => snd_zero
  | n + 1 => ⟨snd_e (snd_all mC n), snd_es (snd_all mC n), snd_hd (snd_all mC n), snd_b (snd_all mC n), snd_call (snd_all mC n), snd_call2 (snd_all mC n), snd_meth (snd_all mC n), snd_lc (snd_all mC n), snd_it (snd_all mC n), snd_ps (snd_all mC n)⟩
/-! ### monotone -/
theorem wpI_mono (mC : ∀ j, MonoF (C j)) {ik : ItK} {ies : List Ex} : MonoI (wpI C C ik ies) := by
  cases ik with
  | seq => exact fun ρ M Q Q' X X' hq hx h => wpHd_mono mC ies _ _ _ _ _ _ (fun x M1 h1 => itemsO.mono hq h1) hx h
  | rng => exact aRng.mono (wpEs_mono mC ies)
  | en => exact aEn.mono (wpEs_mono mC ies)
  | zp => exact aZp.mono (wpEs_mono mC ies)
structure SndS (k : Nat) (C : Nat → AF) (n : Nat) : Prop where
  s : ∀ {c : CE} {X : Cx} {W : WX}, XOk c k C X → XS c X → L2N.Takes X W → ∀ {s is}, compS n c s = some is → ASok X W s (wpS C C is)
  ss : ∀ {c : CE} {X : Cx} {W : WX}, XOk c k C X → XS c X → L2N.Takes X W → ∀ {s is}, compSs n c s = some is → BSok X W s (wpB C C is)
section
variable {c : CE} {X : Cx} {W : WX} {n : Nat}
theorem swap_lc {elt : Expr} {gs : List Comprehension} {scope : Scope} {pos py : Pos} {y : Str} {l : Nat} {env : PySem.Env} (hk : ¬ env.scope.names.lookup y = some .local) : swapsWith (.ListComp elt gs scope pos) (some (.Name y py)) l env = pure false := by
  have ky : (env.kindOf y == some .local) = false := by
    have e : env.kindOf y = env.scope.names.lookup y := rfl
    rw [e]
    exact beq_eq_false_iff_ne.mpr hk
  unfold swapsWith
  simp only [ky, Bool.and_false, Bool.false_and]
theorem kind_of {sc : Scope} (h : (match sc.kind with | .function => true | _ => false) = true) : sc.kind = .function := by
  cases e : sc.kind <;> rw [e] at h <;> first | rfl | cases h
theorem snd_s (ihe : Snd k C n) (ih : SndS k C n) (x : XOk c k C X) (xs : XS c X) (tk : L2N.Takes X W) : ∀ {s is}, compS (n + 1) c s = some is → ASok X W s (wpS C C is) := by
  intro s is h
  unfold compS at h
  split at h
  · -- y = [..]
    rename_i y py elt tg iter ifs scope p sp
    split at h
    · rename_i i hl hi
      obtain ⟨hs, h⟩ := when_ok h
      obtain ⟨e, he, rfl⟩ := map_ok h
      obtain ⟨l1, l2⟩ := x.loc hl
      rw [Bool.or_eq_true] at hs
      have b := ihe.lc x tk he
      by_cases hloc : c.sc.names.lookup y = some .local
      · rcases hs with hs | hs
        · unfold swapLc at hs
          simp only [Bool.and_eq_true, Bool.not_eq_true'] at hs
          obtain ⟨⟨⟨h1, h2⟩, h3⟩, h4⟩ := hs
          obtain ⟨m, own, q, ik, ies, cs, e', rfl, g1, g2, g3, g4, g5, g6, g7, g8, g9⟩ := b.ex
          have hloc' : X.env.scope.names.lookup y = some .local := by rw [x.sc]; exact hloc
          have hkind : X.env.scope.kind = .function := by rw [x.sc]; exact kind_of h1
          have r := as_setLc (m := m) (i := i) (spos := sp) (py := py) (lpos := p) x.calm x.nd' (x.ix hi) hloc' (sw_true hkind hloc' h3 h4) g1 g2 g3 g4 g5 g6 g7 g8 g9
          show ASok X W _ (aAsg (aComp m (own.map (·.2)) _ q (wpC C C cs) (wpE C C e')) (.one i))
          cases ik <;> exact r
        · exact absurd hloc (by simpa using hs)
      · exact as_set x.nd' (x.ix hi) l1 l2 (b.ae x) (swap_lc (by rw [x.sc]; exact hloc))
    · cases h
  · -- y = e
    rename_i y py e sp _
    split at h
    · rename_i i hl hi
      obtain ⟨hp, h⟩ := when_ok h
      obtain ⟨e', he, rfl⟩ := map_ok h
      obtain ⟨l1, l2⟩ := x.loc hl
      exact as_set x.nd' (x.ix hi) l1 l2 (ihe.e x tk he).ae (swap_plain hp)
    · cases h
  · -- y, o.f = e
    rename_i y p1 o f p2 kk tp e sp
    split at h
    · rename_i i cl hl hi hc
      obtain ⟨hp, h⟩ := when_ok h
      obtain ⟨e', o', he, ho, rfl⟩ := opt2_ok h
      rw [Bool.and_eq_true, Bool.and_eq_true] at hp
      obtain ⟨l1, l2⟩ := x.loc hl
      obtain ⟨c1, c2⟩ := x.gf.att _ _ hp.2
      exact as_asgF x.calm x.nd' (x.ix hi) l1 l2 c1 c2 (ihe.e x tk ho).ae (ihe.e x tk he).ae hp.1.1 hp.1.2
    · cases h
  · rename_i es kk tp e sp _
    split at h
    · rename_i is' ht
      obtain ⟨hp, h⟩ := when_ok h
      obtain ⟨e', he, rfl⟩ := map_ok h
      rw [Bool.and_eq_true] at hp
      exact as_tup x.calm (tgNames_ok x ht) (ihe.e x tk he).ae hp.1 hp.2
    · cases h
  · rename_i o f fp e sp
    split at h
    · rename_i cl hc
      obtain ⟨hp, h⟩ := when_ok h
      obtain ⟨e', o', he, ho, rfl⟩ := opt2_ok h
      rw [Bool.and_eq_true] at hp
      obtain ⟨c1, c2⟩ := x.gf.att _ _ hp.2
      exact as_fld c1 c2 (ihe.e x tk ho).ae (ihe.e x tk he).ae (swap_plain hp.1)
    · cases h
  · rename_i o i ip e sp
    obtain ⟨hp, h⟩ := when_ok h
    rw [Bool.and_eq_true] at hp
    split at h
    · rename_i e' he
      obtain ⟨o', i', ho, hi, rfl⟩ := opt2_ok h
      exact as_sub x.u1 (ihe.e x tk ho).ae (ihe.e x tk hi).ae (ihe.e x tk he).ae hp.1 hp.2
    · cases h
  · rename_i y py e sp
    split at h
    · rename_i i hl hi
      obtain ⟨e', he, rfl⟩ := map_ok h
      obtain ⟨l1, l2⟩ := x.loc hl
      exact as_aug x.nd' (x.ix hi) l1 l2 (ihe.e x tk he).ae
    · cases h
  · cases h
    exact as_pass
  · obtain ⟨hp, h⟩ := when_ok h
    obtain ⟨e', he, rfl⟩ := map_ok h
    exact as_ex (ihe.e x tk he).ae hp
  · obtain ⟨e', he, rfl⟩ := map_ok h
    exact as_ret (ihe.e x tk he).ae
  · cases h
    exact as_retN
  · rename_i t a b sp
    split at h
    · rename_i t' ht
      obtain ⟨a', b', ha, hb, rfl⟩ := opt2_ok h
      exact as_if (ihe.e x tk ht) (ih.ss x xs tk ha) (ih.ss x xs tk hb)
    · cases h
  · obtain ⟨t', b', ht, hb, rfl⟩ := opt2_ok h
    exact as_while xs.passes (ihe.e x tk ht) (ih.ss x xs tk hb)
  · rename_i tg iter b sp
    obtain ⟨hp, h⟩ := when_ok h
    split at h
    · rename_i q ik ies hq hit
      obtain ⟨b', hb, rfl⟩ := map_ok h
      exact as_for xs.passes x.calm (ihe.it x tk hit) (tgOf_ok x hq) (ih.ss x xs tk hb) (fold_of (by simpa using hp))
    · cases h
  · rename_i y yp msg j p2 p3 sp
    obtain ⟨hp, h⟩ := when_ok h
    cases h
    rw [Bool.and_eq_true] at hp
    obtain ⟨g, o⟩ := x.gl hp.1
    obtain ⟨o1, o2, o3⟩ := okName_ok o
    obtain ⟨q1, q2, q3, q4, q5⟩ := x.gf.exc _ hp.2
    exact as_raise x.calm tk q1 q2 q3 q4 q5 g o1
  · rename_i b y np r rp q j qp ap hp' sp
    split at h
    · rename_i i d hl hi hd
      obtain ⟨hp, h⟩ := when_ok h
      obtain ⟨b', hb, rfl⟩ := map_ok h
      rw [Bool.and_eq_true] at hp
      obtain ⟨g, o⟩ := x.gl hp.1
      obtain ⟨o1, o2, o3⟩ := okName_ok o
      obtain ⟨q1, q2, q3, q4, q5⟩ := x.gf.exc _ hp.2
      obtain ⟨l1, l2⟩ := x.loc hl
      have sb : ∀ (W : WX) (pn : List (Addr × Obj)) (xe : Value → Shared → Prop), L2N.Takes (X.tr pn xe) W → PassesOwn (model X.prog X.w) X.A X.env xe → BSok (X.tr pn xe) W b (wpB C C b') := fun W' pn xe tk' po =>
        ih.ss (X := X.tr pn xe) ⟨x.N, x.nd, x.sc, x.room, x.calm, x.fn, x.gf⟩ ⟨po, xs.stack, xs.frame, xs.nb, xs.exm⟩ tk' hb
      have su : ∀ (a : Addr) (oe : Obj) (cls : Value) (d' : Option Addr) (pn : List (Addr × Obj)), Zc cls d' oe → (∃ vs, oe.data = .fields vs) → BSok (X.suite a ((a, oe) :: pn)) W0 [.Assign [.Name r rp] (.Constant q j qp) ap] (wpB C C [.asg (.one i) (.con d)]) := fun a oe cls d' pn _ _ =>
        bs_one (as_set (X := X.suite a ((a, oe) :: pn)) x.nd' (x.ix hi) l1 l2 (con_ok hd) (swap_plain rfl))
      refine as_try xs.stack xs.frame ⟨g, o1, .inl q2⟩ tk (fun z hz => ?_) (sb W X.pn X.xe tk xs.passes).mono (su 0 ⟨.none, none, .fields #[], #[]⟩ .none none [] ?_ ⟨_, rfl⟩).mono sb su
      · obtain ⟨w, hw, rfl⟩ := List.mem_map.mp hz
        obtain ⟨w1, w2⟩ := List.mem_filter.mp hw
        have e2 := of_decide_eq_true w2
        exact xs.exm w.1 y (by rw [← e2]; exact w1)
      · exact ⟨rfl, rfl⟩
    · cases h
  · rename_i b y np n' r rp kf kp n2 np2 cp ap hp' sp
    split at h
    · rename_i j i hl hj hi
      obtain ⟨hp, h⟩ := when_ok h
      obtain ⟨b', hb, rfl⟩ := map_ok h
      simp only [Bool.and_eq_true, decide_eq_true_eq] at hp
      obtain ⟨p1, p2, p3, p4, p5, p6, p7, p8, p9, p10⟩ := hp
      subst p5 p6
      obtain ⟨g, o⟩ := x.gl p1
      obtain ⟨o1, o2, o3⟩ := okName_ok o
      obtain ⟨g', o'⟩ := x.gl p7
      obtain ⟨o1', o2', o3'⟩ := okName_ok o'
      obtain ⟨on1, on2, on3⟩ := okName_ok p4
      obtain ⟨q1, q2, q3, q4, q5⟩ := x.gf.exc _ p2
      obtain ⟨l1, l2⟩ := x.loc hl
      obtain ⟨f, fd, m1, m2, m3, m4⟩ := x.gf.kn p8
      have sb : ∀ (W : WX) (pn : List (Addr × Obj)) (xe : Value → Shared → Prop), L2N.Takes (X.tr pn xe) W → PassesOwn (model X.prog X.w) X.A X.env xe → BSok (X.tr pn xe) W b (wpB C C b') := fun W' pn xe tk' po =>
        ih.ss (X := X.tr pn xe) ⟨x.N, x.nd, x.sc, x.room, x.calm, x.fn, x.gf⟩ ⟨po, xs.stack, xs.frame, xs.nb, xs.exm⟩ tk' hb
      have mem : ∀ z ∈ ((c.g.exm.filter fun z => decide (z.2 = y)).map (·.1)), PySem.W.exmOne X.K (.ref (He.ga X.K z)) (.ref (He.ga X.K y)) = some true ∧ c.g.excs.contains z = true := fun z hz => by
        obtain ⟨w, hw, rfl⟩ := List.mem_map.mp hz
        obtain ⟨w1, w2⟩ := List.mem_filter.mp hw
        have e2 := of_decide_eq_true w2
        exact ⟨xs.exm w.1 y (by rw [← e2]; exact w1), List.all_eq_true.mp p10 w w1⟩
      exact as_tryK xs.stack xs.frame x.nd' (x.ix hi) (by show X.env.scope.names.lookup _ = _; rw [x.sc]; exact p3) (x.ix hj) l1 l2 p9 ⟨g, o1, .inl q2⟩ tk on1 on2 (fun z hz => (mem z hz).1) (sb W X.pn X.xe tk xs.passes).mono sb
        (fun z hz => m4 z (mem z hz).2) ((L2H.roomH_of x.room).mono (by omega)) g' m1 m2 m3 o1'
    · cases h
  · cases h
theorem snd_ss (ih : SndS k C n) (x : XOk c k C X) (xs : XS c X) (tk : L2N.Takes X W) : ∀ {s is}, compSs (n + 1) c s = some is → BSok X W s (wpB C C is) := by
  intro s is h
  unfold compSs at h
  split at h
  · cases h; exact bs_nil
  · obtain ⟨a, b, ha, hb, rfl⟩ := opt2_ok h
    have h1 := ih.s x xs tk ha
    have h2 := ih.ss x xs tk hb
    cases b with
    | nil =>
      rename_i st r
      have : r = [] := by
        cases n with
        | zero => cases hb
        | succ n =>
          unfold compSs at hb
          split at hb
          · rfl
          · obtain ⟨_, _, _, _, e⟩ := opt2_ok hb
            cases e
      subst this
      exact bs_one h1
    | cons b0 b => exact bs_cons h1 h2
end
theorem sndS_all : ∀ n, SndS k C n
  | 0 => {
      s := by
        intros
        rename_i h
        cases h
      ss := by
        intros
        rename_i h
        cases h }
  | n + 1 => ⟨snd_s (snd_all trivial n) (sndS_all n), snd_ss (sndS_all n)⟩
end TT
set_option Elab.async false
set_option linter.all false
set_option maxRecDepth 100000
set_option maxHeartbeats 4000000
/-! TQ: defs. -/
namespace TT
open PySem PySem.Spec PyProof.Rows L2
inductive Fz : D → Mp → D → Mp → Prop
  | refl {d : D} {M : Mp} : Fz d M d M
  | drop {d d' : D} {M M' : Mp} (p : Addr) : Fz d (mdel M p) d' M' → Fz d M d' M'
  | freeze {d d' : D} {M M' : Mp} (p : Addr) {ds : List D} : M p = some (.lst ds) → Fz (d.sub p ds) (mdel M p) d' M' → Fz d M d' M'
theorem Fz.ok {K : PySem.W.Frag} {H0 F0 : Hp} {M0 : Mp} {d d' : D} {M M' : Mp} (z : Fz d M d' M') : ∀ {H F : Hp} {v : V}, Step K H0 F0 M0 H F M → Rep K F d v → ∃ F', Step K H0 F0 M0 H F' M' ∧ Rep K F' d' v := by
  induction z with
  | refl => exact fun s r => ⟨_, s, r⟩
  | drop p _ ih => exact fun s r => ih (s.trans (Step.drop s.r p)) r
  | freeze p h _ ih =>
    intro H F v s r
    obtain ⟨us, F', h1, h2, h3, s'⟩ := Step.freeze s.r h
    exact ih (s.trans s') (Rep.subst h2 h3 _ (Rep.up s'.sub _ r))
def fin (Q : KQ) : KQ := fun d M => ∃ d' M', Fz d M d' M' ∧ Q d' M'
def finX (X : KX) : KX := fun c M => ∃ d M', Fz .non M d M' ∧ X c M'
theorem fin.mono {Q Q' : KQ} (h : ∀ d M, Q d M → Q' d M) {d : D} {M : Mp} (q : fin Q d M) : fin Q' d M := let ⟨d', M', z, q⟩ := q; ⟨d', M', z, h _ _ q⟩
theorem finX.mono {X X' : KX} (h : ∀ c M, X c M → X' c M) {c : Str} {M : Mp} (q : finX X c M) : finX X' c M := let ⟨d', M', z, q⟩ := q; ⟨d', M', z, h _ _ q⟩
theorem fin.ok {K : PySem.W.Frag} {H F : Hp} {M : Mp} {Q : VK} {d : D} {M' : Mp} (q : fin (qOf K H F M Q) d M') : qOf K H F M Q d M' := by
  obtain ⟨d', M2, z, q⟩ := q
  intro H' F' v s r
  obtain ⟨F2, s2, r2⟩ := z.ok s r
  exact q _ _ _ s2 r2
theorem finX.ok {K : PySem.W.Frag} {H F : Hp} {M : Mp} {E : XK} {c : Str} {M' : Mp} (q : finX (xkOf K H F M E) c M') : xkOf K H F M E c M' := by
  obtain ⟨d', M2, z, q⟩ := q
  intro H' F' s
  obtain ⟨F2, s2, _⟩ := z.ok (v := .non) s rfl
  exact q _ _ s2
/-! ### statements are monotone -/
theorem aSetF.mono {c f : Str} {te ta : AE} (me : MonoE te) (mo : MonoE ta) : MonoS (aSetF c f te ta) := fun A A' ρ M h q => me _ _ _ _ _ _ (fun d M1 h1 => mo _ _ _ _ _ _ (fun x M2 ⟨a, fs, g1, g2, g3⟩ => ⟨a, fs, g1, g2, h.nx _ _ g3⟩) (fun c M z => exOf.mono h z) h1) (fun c M z => exOf.mono h z) q
theorem aSetI.mono {te ta ti : AE} (me : MonoE te) (mo : MonoE ta) (mi : MonoE ti) : MonoS (aSetI te ta ti) := fun A A' ρ M h q => me _ _ _ _ _ _ (fun d M1 h1 => mo _ _ _ _ _ _ (fun x M2 h2 => mi _ _ _ _ _ _ (fun y M3 h3 => setO.mono (fun M z => h.nx _ _ z) h3) (fun c M z => exOf.mono h z) h2) (fun c M z => exOf.mono h z) h1) (fun c M z => exOf.mono h z) q
theorem aAug.mono {i : Nat} {te : AE} (me : MonoE te) : MonoS (aAug i te) := fun A A' ρ M h q => by
  unfold aAug at *; split at q
  · exact me _ _ _ _ _ _ (fun d M1 z => by
      split at z
      · exact h.nx _ _ z
      · exact z) (fun c M z => exOf.mono h z) q
  · exact q
theorem aEx.mono {te : AE} (me : MonoE te) : MonoS (aEx te) := fun A A' ρ M h q => me _ _ _ _ _ _ (fun _ _ z => h.nx _ _ z) (fun c M z => exOf.mono h z) q
theorem aRet.mono {te : AE} (me : MonoE te) : MonoS (aRet te) := fun A A' ρ M h q => me _ _ _ _ _ _ (fun _ _ z => h.rt _ _ z) (fun c M z => exOf.mono h z) q
theorem aIf.mono {tc : AE} {t u : AS} (mc : MonoE tc) (mt : MonoS t) (mu : MonoS u) : MonoS (aIf tc t u) := fun A A' ρ M h q => tOf.mono mc (fun b M' z => by
  cases b with
  | true => exact mt _ _ _ _ h z
  | false => exact mu _ _ _ _ h z) (fun c M z => exOf.mono h z) q
theorem aTry.mono {cs : List Str} {tb ts : AS} (mb : MonoS tb) (ms : MonoS ts) : MonoS (aTry cs tb ts) := fun A A' ρ M h q => mb { nx := A.nx, rt := A.rt, ex := fun c ρ' M' => c ∈ cs ∧ ts { nx := A.nx, rt := A.rt, ex := fun _ _ _ => False } ρ' M' } _ _ _ ⟨h.nx, h.rt, fun c ρ' M' ⟨h1, h2⟩ => ⟨h1, ms { nx := A.nx, rt := A.rt, ex := fun _ _ _ => False } _ _ _ ⟨h.nx, h.rt, fun _ _ _ z => z⟩ h2⟩⟩ q
section
variable {C : Nat → AF}
mutual
theorem wpS_mono (mC : ∀ j, MonoF (C j)) : ∀ s : Sm, MonoS (wpS C C s)
  | .asg k e => aAsg.mono (wpE_mono mC e)
  | .asgF i c f e o => aAsgF.mono (wpE_mono mC e) (wpE_mono mC o)
  | .setF c f e o => aSetF.mono (wpE_mono mC e) (wpE_mono mC o)
  | .setI e o i => aSetI.mono (wpE_mono mC e) (wpE_mono mC o) (wpE_mono mC i)
  | .aug i e => aAug.mono (wpE_mono mC e)
  | .ex e => aEx.mono (wpE_mono mC e)
  | .ret e => aRet.mono (wpE_mono mC e)
  | .retN => fun A A' ρ M h q => h.rt _ _ q
  | .ite c a b => aIf.mono (wpE_mono mC c) (wpB_mono mC a) (wpB_mono mC b)
  | .whl c b => fun A A' ρ M h ⟨n, q⟩ => ⟨n, wpWhile.mono (wpE_mono mC c) (wpB_mono mC b) n _ _ _ _ h q⟩
  | .forr k ik ies b => fun A A' ρ M h q => wpI_mono mC _ _ _ _ _ _ (fun ds G M1 z => wpFor.mono (wpB_mono mC b) ds _ _ _ _ h z) (fun c M z => exOf.mono h z) q
  | .raise c => fun A A' ρ M h q => h.ex _ _ _ q
  | .tri cs b s => aTry.mono (wpB_mono mC b) (wpB_mono mC s)
  | .trk i j cs b => aTryK.mono (wpB_mono mC b)
  | .pas => fun A A' ρ M h q => h.nx _ _ q
theorem wpB_mono (mC : ∀ j, MonoF (C j)) : ∀ b : List Sm, MonoS (wpB C C b)
  | [] => fun A A' ρ M h q => h.nx _ _ q
  | s :: [] => wpS_mono mC s
  | s :: t :: r => aThen.mono (wpS_mono mC s) (wpB_mono mC (t :: r))
end
end
/-! ### defs -/
structure Fn where
  np : Nat
  nn : Nat
  body : List Sm
def endF (Q : KQ) (X : KX) : AEnds := { nx := fun _ M' => fin Q .non M', rt := fin Q, ex := fun c _ M' => finX X c M' }
def callI (T : Nat → Fn) : Nat → Nat → AF
  | 0, _ => fun _ _ _ _ => False
  | n + 1, j => fun ds M Q X => ds.length = (T j).np ∧ wpB (callI T n) (callI T n) (T j).body (endF Q X) (ds.map some ++ List.replicate ((T j).nn - ds.length) none) M
theorem callI_mono {T : Nat → Fn} : ∀ n j, MonoF (callI T n j)
  | 0, _ => fun _ _ _ _ _ _ _ _ h => h
  | n + 1, j => fun ds M Q Q' X X' hq hx ⟨h1, h⟩ => ⟨h1, wpB_mono (callI_mono n) _ _ _ _ _ ⟨fun _ _ z => fin.mono hq z, fun _ _ z => fin.mono hq z, fun _ _ _ z => finX.mono hx z⟩ h⟩
/-- one def as it stands, and its terms -/
structure DefOk (K : PySem.W.Frag) (g : CG) (t : Fn) (f : Addr) (fd : FuncData) (ps : List Str) : Prop where
  ex : ∃ (name qual : Str) (params : Arguments) (body : List Stmt) (scope : Scope) (N : List Str) (fuel : Nat) (hint : List (Str × Str)) (mt : List (Nat × Nat)), FunD K name qual params body scope [] [] f fd ∧ FnScope N ps scope ∧ t.np = ps.length ∧ t.nn = N.length ∧
    compSs fuel { g := g, N := N, sc := scope, blk := false, hint := hint, mt := mt } body = some t.body
structure PF (K : PySem.W.Frag) (mg : Str → Option Value) (g : CG) (T : Nat → Fn) (U : Nat → Prop) (f : Nat → Addr) (fd : Nat → FuncData) (ps : Nat → List Str) : Prop where
  ok : ∀ j, U j → DefOk K g (T j) (f j) (fd j) (ps j)
  bi : ∀ j, U j → L2.Binds K (fd j) (ps j) []
  ba : ∀ j, U j → ∀ (s : Shared) (us : List Value), us.length = (ps j).length → BindsTo s (fd j) ⟨us, []⟩ ((ps j).zip us)
  fn : ∀ x j, g.fns.lookup x = some j → U j ∧ mg x = some (.ref (f j)) ∧ PySem.W.keepIn K (.ref (f j)) = true
  me : ∀ cl q j, g.mths.lookup (cl, q) = some j → U j ∧ Cls K (He.ga K cl) ∧ Meth K (He.ga K cl) q (f j)
  cl : ∀ x j, g.cls.lookup x = some j → U j ∧ Mk K (He.ga K x) (f j) ∧ mg x = some (.ref (He.ga K x))
  att : ∀ cl f, g.attrs.contains (cl, f) = true → Cls K (He.ga K cl) ∧ NoAttr K (He.ga K cl) f
  co : ∀ x d, g.cons.lookup x = some d → ∃ v u, mg x = some u ∧ RelV v u ∧ ∀ F, Rep K F d v
  fr : ∀ x, g.free.contains x = true → mg x = none
  exc : ∀ x, g.excs.contains x = true → PySem.W.excIn K (He.ga K x) He.veBase "ValueError.__new__" = true ∧ mg x = some (.ref (He.ga K x)) ∧ PySem.W.keepIn K (.ref (He.ga K x)) = true ∧ PySem.W.subIn K (.ref (He.ga K x)) (.type "BaseException") = some true ∧ PySem.W.typeIn K (.ref (He.ga K x)) = some (.type "type")
  exm : ∀ z y, (z, y) ∈ g.exm → PySem.W.exmOne K (.ref (He.ga K z)) (.ref (He.ga K y)) = some true
  kn : g.kn = true → ∃ f fd, mg "_law_kinds" = some (.ref f) ∧ PySem.W.keepIn K (.ref f) = true ∧ L2.Binds K fd ["_law_e"] [] ∧ ∀ z, g.excs.contains z = true → ∀ P w base, FnK P w K mg base f fd z
theorem envR_start {K : PySem.W.Frag} {F : Hp} {N : List Str} {ds : List D} {vs : List V} (r : Reps K F ds vs) : EnvR K F (ds.map some ++ List.replicate (N.length - ds.length) none) (L2.start N vs) := by
  have hl := r.length
  unfold L2.start
  refine ⟨by simp [hl], fun i d h => ?_⟩
  rw [List.getElem?_append] at h ⊢
  simp only [List.length_map] at h ⊢
  by_cases hi : i < ds.length
  · rw [if_pos hi] at h
    rw [if_pos (by omega)]
    simp only [List.getElem?_map, Option.map_eq_some_iff, Option.some.injEq, exists_eq_right] at h ⊢
    obtain ⟨v, h1, h2⟩ := Reps.get r h
    exact ⟨v, h1, h2⟩
  · rw [if_neg hi, List.getElem?_replicate] at h
    split at h <;> cases h
section
variable {P : Program} {w : World} {K : PySem.W.Frag} {mg : Str → Option Value} {base : Heap} {g : CG} {T : Nat → Fn} {U : Nat → Prop} {f : Nat → Addr} {fd : Nat → FuncData} {ps : Nat → List Str}
theorem PF.gf (pf : PF K mg g T U f fd ps) {k n : Nat} (ih : ∀ j, U j → FnOk P w K mg base (L2N.CX P w) k (f j) (fd j) (ps j) (liftF K (callI T n j))) : GF P w K mg base k (callI T n) g where
  mC := callI_mono n
  fn := fun x j h => let ⟨h1, h2, h3⟩ := pf.fn x j h; ⟨f j, fd j, ps j, h2, h3, pf.bi j h1, ih j h1⟩
  me := fun cl q j h => let ⟨h1, h2, h3⟩ := pf.me cl q j h; ⟨f j, fd j, ps j, h2, h3, pf.bi j h1, ih j h1⟩
  cl := fun x j h => let ⟨h1, h2, h3⟩ := pf.cl x j h; ⟨f j, fd j, ps j, h2, h3, pf.bi j h1, ih j h1⟩
  att := pf.att
  co := pf.co
  fr := pf.fr
  exc := pf.exc
  kn := fun h => let ⟨f, fd, h1, h2, h3, h4⟩ := pf.kn h; ⟨f, fd, h1, h2, h3, fun z hz => h4 z hz P w base⟩
theorem PF.calls (pf : PF K mg g T U f fd ps) : ∀ n j, U j → FnOk P w K mg base (L2N.CX P w) (2 * n) (f j) (fd j) (ps j) (liftF K (callI T n j))
  | 0, j, _ => ⟨fun vs H Q E ⟨_, _, _, _, _, h⟩ => h.elim, fun A outer s H args us vs Q E _ _ _ _ ⟨_, _, _, _, _, h⟩ => h.elim⟩
  | n + 1, j, hj => by
    obtain ⟨name, qual, params, body, scope, N, fuel, hint, mt, F, S, l1, l2, hc⟩ := (pf.ok j hj).ex
    refine F.ok (k := 2 * n + 1) S (fun vs H Q E ⟨F', M, ds, _, r, h, _⟩ => by rw [← r.length, h, l1]) fun cdv A outer s H vs Q E hr h => ?_
    have gf : GF P w K mg base (2 * n) (callI T n) g := pf.gf (PF.calls pf n)
    refine ⟨_, (((sndS_all fuel).ss (c := { g := g, N := N, sc := scope, blk := false, hint := hint, mt := mt }) (X := cxOf (L2N.CX P w) P w K mg base N qual scope (f j) cdv A outer s H E) (k := 2 * n) (C := callI T n) (W := fun cls d _ H => E cls d H)
      ⟨rfl, S.nd, rfl, hr, rfl, fun _ _ => rfl, gf⟩ ⟨passes_of rfl, rfl, rfl, rfl, pf.exm⟩ (L2N.takes_of rfl rfl rfl rfl) hc).ps), ?_⟩
    obtain ⟨F', M, ds, r, rp, hl, hb⟩ := h
    rw [l2] at hb
    refine ⟨F', _, M, r, envR_start rp, wpB_mono (callI_mono n) _ _ _ _ _ ⟨fun ρ M' z => ?_, fun d M' z => fin.ok z, fun c ρ M' z => ?_⟩ hb⟩
    · intro H' F'' σ' s' _
      exact fin.ok z _ _ .non s' rfl
    · intro H' F'' σ' s' _
      exact finX.ok z _ _ s'
end
end TT
set_option Elab.async false
set_option linter.all false
set_option maxRecDepth 100000
set_option maxHeartbeats 4000000
/-! TR: the head's facts, the end. -/
namespace TT
open PySem PySem.Spec PyProof.Rows L2
/-! ### the module's constants -/
mutual
def repU (K : PySem.W.Frag) : D → Value → Bool
  | .non, u => (match u with
    | .none => true
    | _ => false)
  | .bl b, u => (match u with
    | .bool c => decide (b = c)
    | _ => false)
  | .int i, u => (match u with
    | .int j _ => decide (i = j)
    | _ => false)
  | .str x, u => (match u with
    | .str y _ => decide (x = y)
    | _ => false)
  | .tup ds, u => (match u with
    | .ref a => (match K.lookup a with
      | some ⟨.type c, _, .seq its _, _⟩ => decide (c = "tuple") && (decide (its.size ≤ sizeLine) && repUs K ds its.toList)
      | _ => false)
    | _ => false)
  | .lst _, _ => false
  | .scr _, _ => false
  | .ref _, _ => false
def repUs (K : PySem.W.Frag) : List D → List Value → Bool
  | [], us => us.isEmpty
  | d :: ds, us => (match us with
    | [] => false
    | u :: us => repU K d u && repUs K ds us)
end
section
variable {K : PySem.W.Frag}
mutual
theorem repU_ok : ∀ (d : D) {u : Value}, repU K d u = true → ∃ v, RelV v u ∧ ∀ F, Rep K F d v
  | .non, u, h => by
    unfold repU at h; split at h
    · exact ⟨.non, rfl, fun _ => rfl⟩
    · cases h
  | .bl b, u, h => by
    unfold repU at h; split at h
    · cases of_decide_eq_true h; exact ⟨.bl b, rfl, fun _ => rfl⟩
    · cases h
  | .int b, u, h => by
    unfold repU at h; split at h
    · cases of_decide_eq_true h; exact ⟨.int b, ⟨_, rfl⟩, fun _ => rfl⟩
    · cases h
  | .str b, u, h => by
    unfold repU at h; split at h
    · cases of_decide_eq_true h; exact ⟨.str b, ⟨_, rfl⟩, fun _ => rfl⟩
    · cases h
  | .tup ds, u, h => by
    unfold repU at h; split at h
    · split at h
      · rename_i a _ c od its n osl q
        rw [Bool.and_eq_true, Bool.and_eq_true] at h
        obtain ⟨vs, h3, h4⟩ := repUs_ok ds h.2.2
        exact ⟨.ref a, rfl, fun F => ⟨a, vs, rfl, .inr ⟨_, its, n, q, congrArg Value.type (of_decide_eq_true h.1), rfl, of_decide_eq_true h.2.1, h3⟩, h4 F⟩⟩
      · cases h
    · cases h
  | .lst _, u, h => by unfold repU at h; cases h
  | .scr _, u, h => by unfold repU at h; cases h
  | .ref _, u, h => by unfold repU at h; cases h
theorem repUs_ok : ∀ (ds : List D) {us : List Value}, repUs K ds us = true → ∃ vs, Vals vs us ∧ ∀ F, Reps K F ds vs
  | [], us, h => by
    unfold repUs at h
    cases us with
    | nil => exact ⟨[], .nil, fun _ => rfl⟩
    | cons => cases h
  | d :: ds, us, h => by
    unfold repUs at h; split at h
    · cases h
    · rw [Bool.and_eq_true] at h
      obtain ⟨v, h1, h2⟩ := repU_ok d h.1
      obtain ⟨vs, h3, h4⟩ := repUs_ok ds h.2
      exact ⟨v :: vs, .cons h1 h3, fun F => Reps.cons (h2 F) (h4 F)⟩
end
end
def conB (K : PySem.W.Frag) (c : Str × D) : Bool := match PySem.W.nsIn K mainGlobals c.1 with
  | some (some u) => repU K c.2 u
  | _ => false
/-! ### the Hook -/
abbrev AlC : Type := He.AlD × Bool
/-- what is asked of an exception's class for isinstance -/
def excB (K : PySem.W.Frag) (C : Str) : Bool :=
  decide (PySem.W.findIn K (.ref (He.ga K C)) "__getattribute__" = some (some (.builtin "BaseException.__getattribute__"))) && (decide (PySem.W.findIn K (.ref (He.ga K C)) "__getattr__" = some none) && (decide (PySem.W.subIn K (.ref (He.ga K C)) (.type "BaseException") = some true) &&
  (PySem.W.hasDictIn K (He.ga K C) && (decide (PySem.W.findIn K (.ref (He.ga K C)) "__class__" = some (some (.builtin "object.__class__"))) && (decide (PySem.W.specialIn K (.builtin "object.__class__") "__get__" = some (some (.builtin "getset_descriptor.__get__"))) &&
  (decide (PySem.W.takesIn K (.builtin "object.__class__") = some true) && (decide (PySem.W.mroIn K (He.ga K C) (.type "object") = some true) &&
  (((k1 ++ k2).all fun y => decide (PySem.W.kitOne K (.ref (He.ga K C)) (.ref (He.ga K y)) = some (decide (C = y)))) && decide (PySem.W.kitOne K (.ref (He.ga K C)) (.type "ValueError") = some true)))))))))
theorem excB_ok {K : PySem.W.Frag} {C : Str} (h : excB K C = true) : L2.ExcC K (He.ga K C) ∧ (∀ y ∈ k1 ++ k2, PySem.W.kitOne K (.ref (He.ga K C)) (.ref (He.ga K y)) = some (decide (C = y))) ∧ PySem.W.kitOne K (.ref (He.ga K C)) (.type "ValueError") = some true := by
  unfold excB at h
  simp only [Bool.and_eq_true, decide_eq_true_eq, List.all_eq_true] at h
  obtain ⟨h1, h2, h3, h4, h5, h6, h7, h8, h9, h10⟩ := h
  exact ⟨⟨h1, h2, h3, h4, h5, h6, h7, h8⟩, h9, h10⟩
def obsC (fa : List He.Fa) (fn : List He.DefD) (cs : List (Str × D)) (ks : List Str) (K : PySem.W.Frag) : AlC := (He.obsD fa fn K, (cs.all fun c => conB K c) && ks.all (excB K))
def valC (fn : List He.DefD) : AlC := (He.valD fn, true)
def obsCG (n : Nat) (fa : List He.Fa) (fn : List He.DefD) (cs : List (Str × D)) (ks : List Str) (g : Addr → Option Obj) : AlC := obsC fa fn cs ks (He.frG g (He.asD g n))
def SaysC (fa : List He.Fa) (fn : List He.DefD) (cs : List (Str × D)) (ks : List Str) (K : PySem.W.Frag) : Prop := obsC fa fn cs ks K = valC fn
def hookC (n : Nat) (fa : List He.Fa) (fn : List He.DefD) (cs : List (Str × D)) (ks : List Str) : PySem.W.Hook where
  α := AlC
  obs := fun s => obsCG n fa fn cs ks s.heap.get?
  val := fun _ => valC fn
  says := fun _ h => ∃ K : PySem.W.Frag, K.In h ∧ SaysC fa fn cs ks K
  of := fun _ _ e => ⟨_, He.frG_in, e⟩
  keeps := fun _ _ _ ⟨K, hK, c⟩ k => ⟨K, PySem.W.Frag.In.keeps hK k, c⟩
theorem obsCG_eq {n : Nat} {fa : List He.Fa} {fn : List He.DefD} {cs : List (Str × D)} {ks : List Str} {g : Addr → Option Obj} {s : Shared} (h : ∀ a, g a = s.heap.get? a) : obsCG n fa fn cs ks g = (hookC n fa fn cs ks).obs s := by
  have e : g = s.heap.get? := funext h
  rw [e] <;> rfl
section
variable {fa : List He.Fa} {fn : List He.DefD} {cs : List (Str × D)} {ks : List Str} {K : PySem.W.Frag}
theorem SaysC.d (c : SaysC fa fn cs ks K) : He.SaysD fa fn K := congrArg (fun z : AlC => z.1) c
theorem SaysC.con (c : SaysC fa fn cs ks K) {x : Str × D} (h : x ∈ cs) : conB K x = true :=
  List.all_eq_true.mp ((Bool.and_eq_true _ _).mp (show ((cs.all fun c => conB K c) && ks.all (excB K)) = true from congrArg (fun z : AlC => z.2) c)).1 x h
theorem SaysC.kx (c : SaysC fa fn cs ks K) {x : Str} (h : x ∈ ks) : excB K x = true :=
  List.all_eq_true.mp ((Bool.and_eq_true _ _).mp (show ((cs.all fun c => conB K c) && ks.all (excB K)) = true from congrArg (fun z : AlC => z.2) c)).2 x h
theorem SaysC.fact (c : SaysC fa fn cs ks K) {f : He.Fa} (h : f ∈ fa) : f.ok K = true := by
  obtain ⟨i, hi⟩ := List.getElem?_of_mem h
  exact c.d.fact i hi
end
/-! ### from lists -/
def faEq : He.Fa → He.Fa → Bool
  | .glo x, .glo y => decide (x = y)
  | .free x, .free y => decide (x = y)
  | .cls x, .cls y => decide (x = y)
  | .noat x f, .noat y g => decide (x = y) && decide (f = g)
  | .meth x f, .meth y g => decide (x = y) && decide (f = g)
  | .mkr x, .mkr y => decide (x = y)
  | .exc x, .exc y => decide (x = y)
  | .exm x y b, .exm x' y' b' => decide (x = x') && (decide (y = y') && decide (b = b'))
  | _, _ => false
theorem faEq_ok {a b : He.Fa} (h : faEq a b = true) : a = b := by
  unfold faEq at h
  split at h <;> first
    | (rw [of_decide_eq_true h]; done)
    | (rw [Bool.and_eq_true, Bool.and_eq_true] at h; rw [of_decide_eq_true h.1, of_decide_eq_true h.2.1, of_decide_eq_true h.2.2]; done)
    | (rw [Bool.and_eq_true] at h; rw [of_decide_eq_true h.1, of_decide_eq_true h.2]; done)
    | cases h
def hasFa (fa : List He.Fa) (f : He.Fa) : Bool := fa.any fun g => faEq f g
theorem hasFa_ok {fa : List He.Fa} {f : He.Fa} (h : hasFa fa f = true) : f ∈ fa := by
  obtain ⟨g, h1, h2⟩ := List.any_eq_true.mp h
  rw [faEq_ok h2]; exact h1
abbrev At := Str × Option Str
def chk (g : CG) (fa : List He.Fa) (cs : List (Str × D)) (ats : List (Nat × At)) : Bool :=
  (g.fns.all fun p => decide (ats.lookup p.2 = some (p.1, none)) && hasFa fa (.glo p.1)) &&
  ((g.mths.all fun p => decide (ats.lookup p.2 = some (p.1.1, some p.1.2)) && (hasFa fa (.cls p.1.1) && hasFa fa (.meth p.1.1 p.1.2))) &&
  ((g.cls.all fun p => decide (ats.lookup p.2 = some (p.1, some ("__init__" : Str))) && (hasFa fa (.mkr p.1) && hasFa fa (.glo p.1))) &&
  ((g.attrs.all fun p => hasFa fa (.cls p.1) && hasFa fa (.noat p.1 p.2)) &&
  ((g.free.all fun x => hasFa fa (.free x)) &&
  ((g.excs.all fun x => hasFa fa (.exc x) && hasFa fa (.glo x)) &&
  (g.exm.all fun p => hasFa fa (.exm p.1 p.2 true)))))))
theorem lookup_mem {α β : Type} [BEq α] [LawfulBEq α] {x : α} {y : β} : ∀ {l : List (α × β)}, l.lookup x = some y → (x, y) ∈ l
  | [], h => by cases h
  | (a, b) :: r, h => by
    rw [List.lookup_cons] at h
    split at h
    · rename_i e
      cases h
      rw [eq_of_beq e]; exact List.mem_cons_self ..
    · exact List.mem_cons_of_mem _ (lookup_mem h)
def DefB (K : PySem.W.Frag) (g : CG) (t : Fn) (f : Addr) (ps : List Str) : Prop := ∃ fd, DefOk K g t f fd ps ∧ L2.Binds K fd ps [] ∧ PySem.W.keepIn K (.ref f) = true ∧ ∀ (s : Shared) (us : List Value), us.length = ps.length → BindsTo s fd ⟨us, []⟩ (ps.zip us)
theorem all_nil {p : Nat → Prop} : ∀ j ∈ ([] : List Nat), p j := fun _ h => nomatch h
theorem all_cons {p : Nat → Prop} {a : Nat} {l : List Nat} (h : p a) (q : ∀ j ∈ l, p j) : ∀ j ∈ a :: l, p j := fun j hj => by
  rcases List.mem_cons.mp hj with e | e
  · rw [e]; exact h
  · exact q j e
section
variable {fa : List He.Fa} {fn : List He.DefD} {K : PySem.W.Frag} {h : Heap} {mg : Str → Option Value} {g : CG} {T : Nat → Fn} {ats : List (Nat × At)} {ps : Nat → List Str} {ks : List Str}
def fAt (K : PySem.W.Frag) (ats : List (Nat × At)) (j : Nat) : Addr := He.fAd K ((ats.lookup j).getD ("", none))
theorem PF.of (X : K.In h) (G : h.Ns mainGlobals mg) (c : SaysC fa fn g.cons ks K) (ck : chk g fa g.cons ats = true) (kn : g.kn = true → ∃ f fd, mg "_law_kinds" = some (.ref f) ∧ PySem.W.keepIn K (.ref f) = true ∧ L2.Binds K fd ["_law_e"] [] ∧ ∀ z, g.excs.contains z = true → ∀ P w base, FnK P w K mg base f fd z) (d : ∀ j ∈ ats.map (·.1), DefB K g (T j) (fAt K ats j) (ps j)) : ∃ fd, PF K mg g T (fun j => j ∈ ats.map (·.1)) (fAt K ats) fd ps := by
  have d' : ∀ j, ∃ fd, j ∈ ats.map (·.1) → DefOk K g (T j) (fAt K ats j) fd (ps j) ∧ L2.Binds K fd (ps j) [] ∧ PySem.W.keepIn K (.ref (fAt K ats j)) = true ∧ ∀ (s : Shared) (us : List Value), us.length = (ps j).length → BindsTo s fd ⟨us, []⟩ ((ps j).zip us) := fun j => by
    by_cases hj : j ∈ ats.map (·.1)
    · obtain ⟨fd, z⟩ := d j hj
      exact ⟨fd, fun _ => z⟩
    · exact ⟨⟨"", "", default, .stmts [], default, 0, [], .none, .none, .none, .none, none, .none, .none, 0⟩, fun z => absurd z hj⟩
  refine ⟨fun j => (d' j).choose, ?_⟩
  have dd := fun j hj => (d' j).choose_spec hj
  unfold chk at ck
  simp only [Bool.and_eq_true, List.all_eq_true] at ck
  obtain ⟨c1, c2, c3, c4, c5, c6, c7⟩ := ck
  have lt : ∀ {j : Nat} {q : At}, ats.lookup j = some q → j ∈ ats.map (·.1) ∧ fAt K ats j = He.fAd K q := fun {j q} e => by
    refine ⟨List.mem_map.mpr ⟨(j, q), lookup_mem e, rfl⟩, ?_⟩
    unfold fAt
    rw [e] <;> rfl
  exact {
    ok := fun j hj => (dd j hj).1
    bi := fun j hj => (dd j hj).2.1
    ba := fun j hj => (dd j hj).2.2.2
    fn := fun x j e => by
      obtain ⟨h1, h2⟩ := c1 _ (lookup_mem e)
      obtain ⟨l1, l2⟩ := lt (of_decide_eq_true h1)
      refine ⟨l1, ?_, (dd j l1).2.2.1⟩
      rw [l2]
      exact He.glo_ok X G (c.fact (hasFa_ok h2))
    me := fun cl q j e => by
      obtain ⟨h1, h2, h3⟩ := c2 _ (lookup_mem e)
      obtain ⟨l1, l2⟩ := lt (of_decide_eq_true h1)
      refine ⟨l1, He.cls_ok (c.fact (hasFa_ok h2)), ?_⟩
      rw [l2]
      exact He.meth_ok (c.fact (hasFa_ok h3))
    cl := fun x j e => by
      obtain ⟨h1, h2, h3⟩ := c3 _ (lookup_mem e)
      obtain ⟨l1, l2⟩ := lt (of_decide_eq_true h1)
      refine ⟨l1, ?_, He.glo_ok X G (c.fact (hasFa_ok h3))⟩
      rw [l2]
      exact He.mkr_ok (c.fact (hasFa_ok h2))
    att := fun cl f e => by
      obtain ⟨h1, h2⟩ := c4 (cl, f) (List.contains_iff_mem.mp e)
      exact ⟨He.cls_ok (c.fact (hasFa_ok h1)), He.noat_ok (c.fact (hasFa_ok h2))⟩
    co := fun x d e => by
      have q := c.con (lookup_mem e)
      unfold conB at q
      split at q
      · rename_i u hu
        obtain ⟨v, r1, r2⟩ := repU_ok d q
        exact ⟨v, u, PySem.W.mg_of X G hu, r1, r2⟩
      · cases q
    fr := fun x e => He.free_ok X G (c.fact (hasFa_ok (c5 x (List.contains_iff_mem.mp e))))
    exc := fun x e => by
      obtain ⟨h1, h2⟩ := c6 x (List.contains_iff_mem.mp e)
      obtain ⟨q1, q2, q3, q4⟩ := He.exc_ok (c.fact (hasFa_ok h1))
      exact ⟨q1, He.glo_ok X G (c.fact (hasFa_ok h2)), q2, q3, q4⟩
    exm := fun z y e => He.exm_ok (c.fact (hasFa_ok (c7 _ e)))
    kn := kn }
end
/-! ### the end -/
section
variable {P : Program} {w : World} {K : PySem.W.Frag} {mg : Str → Option Value} {base : Heap} {k : Nat} {f : Addr} {fd : FuncData} {ps : List Str}
/-- nothing flies out of the law -/
theorem fn_calm {sp : Sp} (F : FnOk P w K mg base (L2N.CX P w) k f fd ps sp) : FnOk P w K mg base L2.CX0 k f fd ps (fun vs H Q _ => sp vs H Q fun _ _ _ => False) := by
  refine ⟨fun vs H Q E h => F.len _ _ _ _ h, fun A outer s H args us vs Q E hr he hb hv hs => codeAny_mono (F.run A outer s H args us vs Q _ hr he hb hv hs) fun r s' q => ?_⟩
  cases r with
  | ok v => cases v <;> exact q
  | error e =>
    obtain ⟨_, _, _, _, _, _, _, _, _, _, _, _, z⟩ := q
    exact z
theorem only_R {H : Hp} : R K H H (fun _ => none) where
  sub := Same.refl _
  dis := fun _ _ q => nomatch q
  rep := fun _ _ q => nomatch q
/-- what the law's terms must do -/
def LawOk (T : Nat → Fn) (n j : Nat) : Prop := ∀ ns : List Int, ns.length ≤ 63 → ∀ Q : KQ, (∀ M, Q (.bl true) M) → callI T n j [.scr ns] (fun _ => none) Q (fun _ _ => False)
theorem law_end {T : Nat → Fn} {n j : Nat} (L : LawOk T n j) (F : FnOk P w K mg base (L2N.CX P w) (2 * n) f fd ["_law_script"] (liftF K (callI T n j))) :
    FnOk P w K mg base L2.CX0 (2 * n) f fd ["_law_script"] (fun vs H Q _ => liftF K (callI T n j) vs H Q fun _ _ _ => False) ∧
    ∀ (H : Hp) (a : Addr) (ns : List Int), ns.length ≤ 63 → Only H → SqL K H a (ns.map V.int) → liftF K (callI T n j) [.ref a] H (fun v _ => v = .bl true) fun _ _ _ => False := by
  refine ⟨fn_calm F, fun H a ns hn ho hs => ⟨H, fun _ => none, [.scr ns], only_R, Reps.cons ⟨a, rfl, hs⟩ Reps.nil, ?_⟩⟩
  exact callI_mono _ _ _ _ _ _ _ _ (fun _ _ z => z) (fun _ _ z => z.elim) (L ns hn (qOf K H H (fun _ => none) fun v _ => v = .bl true) fun M H' F' v s r => r)
end
end TT
set_option Elab.async false
set_option linter.all false
set_option maxRecDepth 100000
set_option maxHeartbeats 0
namespace Hd
open PySem PySem.Spec PyProof.Rows L2 TT
def top (i : Nat) : Stmt := PySem.Challenge.pw_tendtree_k01_what_is_a_tree.main.body.getD i (.Pass ⟨0, 0, 0, 0⟩)
def cg : CG := {
  fns := ([("is_whole", 0), ("is_one_of", 1), ("is_worker", 2), ("has_form", 3), ("is_watcher", 4), ("all_posts", 5), ("is_tree", 6), ("_law_bag", 7), ("_law_take", 8), ("_law_worker", 9)] : List (Str × Nat)) ++ ([("_law_watcher", 10), ("_law_all", 11), ("_law_tree", 12), ("_law_odd", 13), ("_law_replaced", 14), ("_law_is_post", 15), ("_law_due", 16), ("_law_right", 17), ("_law_edges", 18), ("law", 19)] : List (Str × Nat)),
  free := ["isinstance", "int", "bool", "str", "tuple", "list", "len", "min", "all", "range"],
  cons := [("KINDS", (.tup [(.str "always"), (.str "fault"), (.str "once")])), ("WAYS", (.tup [(.str "one"), (.str "all"), (.str "behind")])), ("MOST_AGAIN", (.int 20)), ("MOST_WITHIN", (.int 100)), ("MOST_POSTS", (.int 8)), ("MOST_IN_ALL", (.int 60)), ("MOST_DEEP", (.int 6))],
  cls := [],
  mths := [],
  attrs := [],
  excs := [],
  exm := [] }
def ks : List Str := []
def ats : List (Nat × At) := ([(0, ("is_whole", none)), (1, ("is_one_of", none)), (2, ("is_worker", none)), (3, ("has_form", none)), (4, ("is_watcher", none)), (5, ("all_posts", none)), (6, ("is_tree", none)), (7, ("_law_bag", none)), (8, ("_law_take", none)), (9, ("_law_worker", none))] : List (Nat × At)) ++ ([(10, ("_law_watcher", none)), (11, ("_law_all", none)), (12, ("_law_tree", none)), (13, ("_law_odd", none)), (14, ("_law_replaced", none)), (15, ("_law_is_post", none)), (16, ("_law_due", none)), (17, ("_law_right", none)), (18, ("_law_edges", none)), (19, ("law", none))] : List (Nat × At))
def fa0 : List He.Fa := [.glo "is_whole", .glo "is_one_of", .glo "is_worker", .glo "has_form", .glo "is_watcher", .glo "all_posts", .glo "is_tree", .glo "_law_bag", .glo "_law_take", .glo "_law_worker", .glo "_law_watcher", .glo "_law_all", .glo "_law_tree", .glo "_law_odd", .glo "_law_replaced", .glo "_law_is_post", .glo "_law_due", .glo "_law_right", .glo "_law_edges", .glo "law"]
def fa1 : List He.Fa := [.free "isinstance", .free "int", .free "bool", .free "str", .free "tuple", .free "list", .free "len", .free "min", .free "all", .free "range"]
def fa : List He.Fa := fa0 ++ fa1
def dd0 : He.DefD := ⟨("is_whole", none), "is_whole", "is_whole", defArgs (top 8), defBody (top 8), defScope (top 8), [], []⟩
def dd1 : He.DefD := ⟨("is_one_of", none), "is_one_of", "is_one_of", defArgs (top 9), defBody (top 9), defScope (top 9), [], []⟩
def dd2 : He.DefD := ⟨("is_worker", none), "is_worker", "is_worker", defArgs (top 10), defBody (top 10), defScope (top 10), [], []⟩
def dd3 : He.DefD := ⟨("has_form", none), "has_form", "has_form", defArgs (top 11), defBody (top 11), defScope (top 11), [], []⟩
def dd4 : He.DefD := ⟨("is_watcher", none), "is_watcher", "is_watcher", defArgs (top 12), defBody (top 12), defScope (top 12), [], []⟩
def dd5 : He.DefD := ⟨("all_posts", none), "all_posts", "all_posts", defArgs (top 13), defBody (top 13), defScope (top 13), [], []⟩
def dd6 : He.DefD := ⟨("is_tree", none), "is_tree", "is_tree", defArgs (top 14), defBody (top 14), defScope (top 14), [], []⟩
def dd7 : He.DefD := ⟨("_law_bag", none), "_law_bag", "_law_bag", defArgs (top 16), defBody (top 16), defScope (top 16), [], []⟩
def dd8 : He.DefD := ⟨("_law_take", none), "_law_take", "_law_take", defArgs (top 17), defBody (top 17), defScope (top 17), [], []⟩
def dd9 : He.DefD := ⟨("_law_worker", none), "_law_worker", "_law_worker", defArgs (top 18), defBody (top 18), defScope (top 18), [], []⟩
def dd10 : He.DefD := ⟨("_law_watcher", none), "_law_watcher", "_law_watcher", defArgs (top 19), defBody (top 19), defScope (top 19), [], []⟩
def dd11 : He.DefD := ⟨("_law_all", none), "_law_all", "_law_all", defArgs (top 20), defBody (top 20), defScope (top 20), [], []⟩
def dd12 : He.DefD := ⟨("_law_tree", none), "_law_tree", "_law_tree", defArgs (top 21), defBody (top 21), defScope (top 21), [], []⟩
def dd13 : He.DefD := ⟨("_law_odd", none), "_law_odd", "_law_odd", defArgs (top 22), defBody (top 22), defScope (top 22), [], []⟩
def dd14 : He.DefD := ⟨("_law_replaced", none), "_law_replaced", "_law_replaced", defArgs (top 23), defBody (top 23), defScope (top 23), [], []⟩
def dd15 : He.DefD := ⟨("_law_is_post", none), "_law_is_post", "_law_is_post", defArgs (top 24), defBody (top 24), defScope (top 24), [], []⟩
def dd16 : He.DefD := ⟨("_law_due", none), "_law_due", "_law_due", defArgs (top 25), defBody (top 25), defScope (top 25), [], []⟩
def dd17 : He.DefD := ⟨("_law_right", none), "_law_right", "_law_right", defArgs (top 26), defBody (top 26), defScope (top 26), [], []⟩
def dd18 : He.DefD := ⟨("_law_edges", none), "_law_edges", "_law_edges", defArgs (top 27), defBody (top 27), defScope (top 27), [], []⟩
def dd19 : He.DefD := ⟨("law", none), "law", "law", defArgs (top 28), defBody (top 28), defScope (top 28), [], []⟩
def fn : List He.DefD := [dd0, dd1, dd2, dd3, dd4, dd5, dd6, dd7, dd8, dd9, dd10, dd11, dd12, dd13, dd14, dd15, dd16, dd17, dd18, dd19]
def pars : List (Nat × List Str) := ([(0, ["thing"]), (1, ["thing", "words"]), (2, ["thing"]), (3, ["thing", "deep"]), (4, ["post"]), (5, ["post"]), (6, ["thing"]), (7, ["_law_script", "_law_k"]), (8, ["_law_bag_here", "_law_many"]), (9, ["_law_bag_here"])] : List (Nat × List Str)) ++ ([(10, ["_law_bag_here", "_law_left", "_law_deep"]), (11, ["_law_post"]), (12, ["_law_bag_here"]), (13, ["_law_bag_here"]), (14, ["_law_bag_here", "_law_thing", "_law_deep"]), (15, ["_law_thing", "_law_deep"]), (16, ["_law_thing"]), (17, ["_law_thing"]), (18, ["_law_bag_here", "_law_tree_here"]), (19, ["_law_script"])] : List (Nat × List Str))
def ps (j : Nat) : List Str := (pars.lookup j).getD []
abbrev R : PySem.W.OpenRow := PySem.W.OpenLaw.row PySem.Challenge.rw_tendtree_k01_what_is_a_tree
abbrev hk : PySem.W.Hook := hookC 5 fa fn cg.cons ks
def ob (s : PySem.W.SharedT) : AlC := obsCG 5 fa fn cg.cons ks (HandSHeadRun.getT s)
theorem ob_eq (s : PySem.W.SharedT) : ob s = hk.obs s.abs := obsCG_eq (HandSHeadRun.getT_eq s)
def loose0 : List Str := ["KINDS", "WAYS", "MOST_AGAIN", "MOST_WITHIN", "MOST_POSTS", "MOST_IN_ALL", "MOST_DEEP", "is_whole", "is_one_of", "is_worker", "has_form", "is_watcher", "all_posts", "is_tree", "_law_bag", "_law_take", "_law_worker", "_law_watcher", "_law_all", "_law_tree"]
def loose1 : List Str := ["_law_odd", "_law_replaced", "_law_is_post", "_law_due", "_law_right", "_law_edges"]
def loose : List Str := loose0 ++ loose1
end Hd
set_option Elab.async false
set_option linter.all false
set_option maxRecDepth 100000
set_option maxHeartbeats 0
namespace Hd
open PySem PySem.Spec PyProof.Rows L2 TT
theorem run (w : World) : HandSHeadRun.RunEq R (PySem.W.view R.prog [28]) hk ob 12000 loose w := by
  intro os
  kernel_rfl
end Hd
set_option Elab.async false
set_option linter.all false
set_option maxRecDepth 100000
set_option maxHeartbeats 2000000
/-! VA: the terms read for proofs: each reading stops only where something must be shown. -/
namespace TT
open PySem PySem.Spec PyProof.Rows L2

/-! ### names -/
def getE : Env → Nat → Option D
  | [], _ => none
  | x :: _, 0 => x
  | _ :: r, i + 1 => getE r i
theorem getE_eq : ∀ {ρ : Env} {i : Nat}, getE ρ i = getV ρ i
  | [], i => by unfold getV; simp [getE]
  | x :: r, 0 => by unfold getV; cases x <;> simp [getE]
  | x :: r, i + 1 => by
    have := getE_eq (ρ := r) (i := i)
    unfold getV at this ⊢
    simpa [getE] using this
def setK : Env → Nat → Option D → (Env → Prop) → Prop
  | [], _, _, k => k []
  | _ :: r, 0, d, k => k (d :: r)
  | x :: r, i + 1, d, k => setK r i d fun r' => k (x :: r')
theorem setK_eq : ∀ {ρ : Env} {i : Nat} {d : Option D} {k : Env → Prop}, setK ρ i d k = k (ρ.set i d)
  | [], _, _, _ => rfl
  | _ :: _, 0, _, _ => rfl
  | x :: r, i + 1, d, k => setK_eq (ρ := r) (i := i) (k := fun r' => k (x :: r'))
def setsK : Env → List Nat → List D → (Env → Prop) → Prop
  | ρ, [], [], k => k ρ
  | ρ, i :: is, d :: ds, k => setK ρ i (some d) fun ρ' => setsK ρ' is ds k
  | _, _, _, _ => False
theorem setsK_ok : ∀ {is : List Nat} {ds : List D} {ρ : Env} {k : Env → Prop}, setsK ρ is ds k → ∃ ρ', setMany ρ is ds = some ρ' ∧ k ρ'
  | [], [], ρ, k, h => ⟨ρ, rfl, h⟩
  | i :: is, d :: ds, ρ, k, h => by
    have h' : setK ρ i (some d) fun ρ' => setsK ρ' is ds k := h
    rw [setK_eq] at h'
    obtain ⟨ρ', e, q⟩ := setsK_ok (is := is) (ds := ds) h'
    exact ⟨ρ', e, q⟩
  | [], _ :: _, _, _, h => h.elim
  | _ :: _, [], _, _, h => h.elim
def tgK (ρ : Env) (t : TgK) (d : D) (k : Env → Prop) : Prop := match t with
  | .one i => setK ρ i (some d) k
  | .tup is => match d with
    | .tup ds => setsK ρ is ds k
    | .lst ds => setsK ρ is ds k
    | _ => False
theorem tgK_ok {ρ : Env} {t : TgK} {d : D} {k : Env → Prop} (h : tgK ρ t d k) : ∃ ρ', setTg ρ t d = some ρ' ∧ k ρ' := by
  unfold tgK at h
  cases t with
  | one i =>
    have h' : setK ρ i (some d) k := h
    rw [setK_eq] at h'
    exact ⟨_, rfl, h'⟩
  | tup is =>
    cases d with
    | tup ds => exact setsK_ok h
    | lst ds => exact setsK_ok h
    | _ => exact h.elim
def wipeK : Env → List Nat → (Env → Prop) → Prop
  | ρ, [], k => k ρ
  | ρ, v :: vs, k => wipeK ρ vs fun ρ' => setK ρ' v none k
theorem wipeK_eq : ∀ {vs : List Nat} {ρ : Env} {k : Env → Prop}, wipeK ρ vs k = k (wipeA ρ vs)
  | [], _, _ => rfl
  | v :: vs, ρ, k => by
    show wipeK ρ vs (fun ρ' => setK ρ' v none k) = _
    rw [wipeK_eq, setK_eq] <;> rfl

/-! ### operations -/
@[irreducible] def vTest (b : Bool) (P Q : Prop) : Prop := vIf b P Q
def vBr (d : D) (P Q : Prop) : Prop := match d with
  | .bl b => vTest b P Q
  | _ => False
theorem vBr_ok {d : D} {P Q : Prop} (h : vBr d P Q) : (d = .bl true ∧ P) ∨ (d = .bl false ∧ Q) := by
  unfold vBr at h; split at h
  · rename_i b
    unfold vTest at h
    cases b with
    | true => exact .inl ⟨rfl, h⟩
    | false => exact .inr ⟨rfl, h⟩
  · exact h.elim
/-- what stands at a handle -/
def vAt (M : Mp) (a : Addr) (k : MO → Prop) : Prop := ∃ o, M a = some o ∧ k o
def vL (y : D) (M : Mp) (k : List D → Prop) : Prop := match y with
  | .lst b => k b
  | .scr ns => k (ns.map D.int)
  | .ref p => vAt M p fun o => match o with
    | .lst b => k b
    | _ => False
  | _ => False
theorem vL_ok {y : D} {M : Mp} {k : List D → Prop} (h : vL y M k) : ∃ b, lcon y M = some b ∧ k b := by
  unfold vL at h; split at h
  · exact ⟨_, rfl, h⟩
  · exact ⟨_, rfl, h⟩
  · obtain ⟨o, e, h⟩ := h
    split at h
    · exact ⟨_, by show (match M _ with | some (.lst ds) => some ds | _ => none) = _; rw [e], h⟩
    · exact h.elim
  · exact h.elim
def vLT (y : D) (M : Mp) (k : List D → Prop) : Prop := match y with
  | .lst b => k b
  | .ref p => vAt M p fun o => match o with
    | .lst b => k b
    | _ => False
  | _ => False
theorem vLT_ok {y : D} {M : Mp} {k : List D → Prop} (h : vLT y M k) : ∃ b, lconT y M = some b ∧ k b := by
  unfold vLT at h; split at h
  · exact ⟨_, rfl, h⟩
  · obtain ⟨o, e, h⟩ := h
    split at h
    · exact ⟨_, by show (match M _ with | some (.lst ds) => some ds | _ => none) = _; rw [e], h⟩
    · exact h.elim
  · exact h.elim
def vAdd (m : Bool) (x y : D) (M : Mp) (Q : KQ) : Prop := match x with
  | .int i => (match y with
    | .int j => Q (.int (i + j)) M
    | _ => False)
  | .bl b => (match y with
    | .int j => Q (.int (bI b + j)) M
    | _ => False)
  | .str a => (match y with
    | .str b => a.length + b.length ≤ sizeLine ∧ Q (.str (a ++ b)) M
    | _ => False)
  | .tup a => (match y with
    | .tup b => a.length + b.length ≤ sizeLine ∧ Q (.tup (a ++ b)) M
    | _ => False)
  | .lst a => vLT y M fun b => a.length + b.length ≤ sizeLine ∧ alloc m (a ++ b) M Q
  | .ref p => vAt M p fun o => match o with
    | .lst a => vLT y M fun b => a.length + b.length ≤ sizeLine ∧ alloc m (a ++ b) M Q
    | _ => False
  | _ => False
theorem vAdd_ok {m : Bool} {x y : D} {M : Mp} {Q : KQ} (h : vAdd m x y M Q) : addO m x y M Q := by
  cases x with
  | int i => cases y <;> first | exact h | exact h.elim
  | bl i => cases y <;> first | exact h | exact h.elim
  | str i => cases y <;> first | exact h | exact h.elim
  | tup i => cases y <;> first | exact h | exact h.elim
  | lst a =>
    obtain ⟨b, e, z, q⟩ := vLT_ok h
    cases y <;> first | exact ⟨a, b, rfl, e, z, q⟩ | cases e
  | ref p =>
    obtain ⟨o, e, h⟩ := h
    cases o with
    | lst a =>
      obtain ⟨b, e2, z, q⟩ := vLT_ok h
      have e3 : lconT (.ref p) M = some a := by show (match M p with | some (.lst ds) => some ds | _ => none) = _; rw [e]
      cases y <;> first | exact ⟨a, b, e3, e2, z, q⟩ | cases e2
    | _ => exact h.elim
  | _ => exact h.elim
def vMul (m : Bool) (x y : D) (M : Mp) (Q : KQ) : Prop := match y with
  | .int k => (match x with
    | .int i => CMul i k ∧ Q (.int (i * k)) M
    | .tup a => (-(2 ^ 63) ≤ k ∧ k ≤ 1000 ∧ a.length ≤ 1000) ∧ Q (.tup (List.replicate k.toNat a).flatten) M
    | .lst a => (-(2 ^ 63) ≤ k ∧ k < 2 ^ 63 ∧ a.length * k.toNat ≤ sizeLine) ∧ alloc m (List.replicate k.toNat a).flatten M Q
    | .ref p => vAt M p fun o => match o with
      | .lst a => (-(2 ^ 63) ≤ k ∧ k < 2 ^ 63 ∧ a.length * k.toNat ≤ sizeLine) ∧ alloc m (List.replicate k.toNat a).flatten M Q
      | _ => False
    | _ => False)
  | .bl b => (match x with
    | .int i => Q (.int (i * bI b)) M
    | _ => False)
  | _ => False
theorem vMul_ok {m : Bool} {x y : D} {M : Mp} {Q : KQ} (h : vMul m x y M Q) : mulO m x y M Q := by
  cases y with
  | int k =>
    cases x with
    | int i => exact h
    | tup i => exact h
    | lst a => exact ⟨a, rfl, h.1, h.2⟩
    | ref p =>
      obtain ⟨o, e, h⟩ := h
      cases o with
      | lst a => exact ⟨a, by show (match M p with | some (.lst ds) => some ds | _ => none) = _; rw [e], h.1, h.2⟩
      | _ => exact h.elim
    | _ => exact h.elim
  | bl k => cases x <;> first | exact h | exact h.elim
  | _ => exact h.elim
def vBop (o : Bop) (x y : D) (M : Mp) (Q : KQ) : Prop := match o with
  | .add m => vAdd m x y M Q
  | .mul m => vMul m x y M Q
  | .sub => (match x with
    | .int i => (match y with
      | .int j => Q (.int (i - j)) M
      | .bl b => Q (.int (i - bI b)) M
      | _ => False)
    | .bl b => (match y with
      | .int j => Q (.int (bI b - j)) M
      | _ => False)
    | _ => False)
  | .fdiv => (match x with
    | .int i => (match y with
      | .int j => CDivW i j ∧ Q (.int (i / j)) M
      | _ => False)
    | _ => False)
  | .mod => (match x with
    | .int i => (match y with
      | .int j => 0 < j ∧ Q (.int (i % j)) M
      | _ => False)
    | _ => False)
  | .pow => (match x with
    | .int i => (match y with
      | .int j => CPow i j ∧ Q (.int (i ^ j.toNat)) M
      | _ => False)
    | _ => False)
theorem vBop_ok {o : Bop} {x y : D} {M : Mp} {Q : KQ} (h : vBop o x y M Q) : o.o x y M Q := by
  cases o with
  | add m => exact vAdd_ok h
  | mul m => exact vMul_ok h
  | sub => cases x <;> first | exact h.elim | (cases y <;> first | exact h | exact h.elim)
  | fdiv => cases x <;> first | exact h.elim | (cases y <;> first | exact h | exact h.elim)
  | mod => cases x <;> first | exact h.elim | (cases y <;> first | exact h | exact h.elim)
  | pow => cases x <;> first | exact h.elim | (cases y <;> first | exact h | exact h.elim)
/-! #### == -/
mutual
def okD : Nat → D → Bool
  | _, .non => true
  | _, .bl _ => true
  | _, .int _ => true
  | _, .str x => PyData.strOk x
  | k, .tup xs => (match k with
    | 0 => false
    | k + 1 => okDs k xs)
  | k, .lst xs => (match k with
    | 0 => false
    | k + 1 => okDs k xs)
  | _, .scr _ => false
  | _, .ref _ => false
def okDs : Nat → List D → Bool
  | _, [] => true
  | k, x :: xs => okD k x && okDs k xs
end
mutual
def py : D → PyData
  | .non => .none
  | .bl b => .bool b
  | .int i => .int i
  | .str x => .str x
  | .tup xs => .tuple (pys xs)
  | .lst xs => .list (pys xs)
  | .scr _ => .none
  | .ref _ => .none
def pys : List D → List PyData
  | [] => []
  | x :: xs => py x :: pys xs
end
mutual
theorem py_ok {M : Mp} : ∀ (k : Nat) (d : D), okD k d = true → PyOf M d (py d) ∧ (py d).canLay0 = true ∧ (py d).depth ≤ k
  | _, .non, _ => ⟨by unfold py; exact .non, by simp only [py, PyData.canLay0], by simp [py, PyData.depth]⟩
  | _, .bl _, _ => ⟨by unfold py; exact .bl _, by simp only [py, PyData.canLay0], by simp [py, PyData.depth]⟩
  | _, .int _, _ => ⟨by unfold py; exact .int _, by simp only [py, PyData.canLay0], by simp [py, PyData.depth]⟩
  | _, .str x, h => ⟨by unfold py; exact .str _, by unfold okD at h; simp only [py, PyData.canLay0]; exact h, by simp [py, PyData.depth]⟩
  | k, .tup xs, h => by
    unfold okD at h
    cases k with
    | zero => cases h
    | succ k =>
      obtain ⟨h1, h2, h3⟩ := pys_ok (M := M) k xs h
      refine ⟨by unfold py; exact .tup h1, by unfold py; simp only [PyData.canLay0]; exact h2, by unfold py; simp only [PyData.depth]; omega⟩
  | k, .lst xs, h => by
    unfold okD at h
    cases k with
    | zero => cases h
    | succ k =>
      obtain ⟨h1, h2, h3⟩ := pys_ok (M := M) k xs h
      refine ⟨by unfold py; exact .lst h1, by unfold py; simp only [PyData.canLay0]; exact h2, by unfold py; simp only [PyData.depth]; omega⟩
  | _, .scr _, h => by unfold okD at h; cases h
  | _, .ref _, h => by unfold okD at h; cases h
theorem pys_ok {M : Mp} : ∀ (k : Nat) (xs : List D), okDs k xs = true → PysOf M xs (pys xs) ∧ PyData.canLayAll0 (pys xs) = true ∧ PyData.depthAll (pys xs) ≤ k
  | _, [], _ => ⟨by unfold pys; exact .nil, by simp only [pys, PyData.canLayAll0], by simp [pys, PyData.depthAll]⟩
  | k, x :: xs, h => by
    unfold okDs at h
    rw [Bool.and_eq_true] at h
    obtain ⟨a1, a2, a3⟩ := py_ok (M := M) k x h.1
    obtain ⟨h1, h2, h3⟩ := pys_ok (M := M) k xs h.2
    refine ⟨by unfold pys; exact .cons a1 h1, by unfold pys; simp only [PyData.canLayAll0, a2, h2, Bool.and_self], by unfold pys; simp only [PyData.depthAll]; omega⟩
end
theorem okDs_iff {k : Nat} : ∀ {xs : List D}, okDs k xs = true ↔ ∀ x ∈ xs, okD k x = true
  | [] => by simp [okDs]
  | x :: xs => by simp only [okDs, Bool.and_eq_true, okDs_iff (xs := xs), List.forall_mem_cons]
mutual
theorem okD_mono : ∀ {k k' : Nat} (d : D), okD k d = true → k ≤ k' → okD k' d = true
  | _, _, .non, _, _ => by simp only [okD]
  | _, _, .bl _, _, _ => by simp only [okD]
  | _, _, .int _, _, _ => by simp only [okD]
  | _, _, .str x, h, _ => by simp only [okD] at h ⊢; exact h
  | k, k', .tup xs, h, hk => by
    unfold okD at h ⊢
    cases k with
    | zero => cases h
    | succ k => cases k' with
      | zero => omega
      | succ k' => exact okDs_mono xs h (by omega)
  | k, k', .lst xs, h, hk => by
    unfold okD at h ⊢
    cases k with
    | zero => cases h
    | succ k => cases k' with
      | zero => omega
      | succ k' => exact okDs_mono xs h (by omega)
  | _, _, .scr _, h, _ => by unfold okD at h; cases h
  | _, _, .ref _, h, _ => by unfold okD at h; cases h
theorem okDs_mono : ∀ {k k' : Nat} (xs : List D), okDs k xs = true → k ≤ k' → okDs k' xs = true
  | _, _, [], _, _ => by simp only [okDs]
  | k, k', x :: xs, h, hk => by
    unfold okDs at h ⊢
    rw [Bool.and_eq_true] at h ⊢
    exact ⟨okD_mono x h.1 hk, okDs_mono xs h.2 hk⟩
end
def eqD (x y : D) : Bool := PyData.eqv (py x) (py y)
theorem eq_of {neg : Bool} {x y : D} {M : Mp} {Q : KQ} (hx : okD 64 x = true) (hy : okD 64 y = true) (q : Q (.bl (eqD x y ^^ neg)) M) : eqO neg x y M Q := by
  have hb : ∀ i j : Int, decide (i = j) = (i == j) := fun i j => by by_cases h : i = j <;> simp [h]
  unfold eqO
  split
  · rename_i i j
    have e : eqD (.int i) (.int j) = decide (i = j) := (hb _ _).symm
    rw [e] at q; exact q
  · rename_i i j
    have e : eqD (.str i) (.str j) = decide (i = j) := by
      show (i == j) = decide (i = j)
      by_cases h : i = j <;> simp [h]
    rw [e] at q; exact q
  · rename_i i j
    have e : eqD (.bl i) (.bl j) = decide (i = j) := by
      show (i == j) = decide (i = j)
      cases i <;> cases j <;> rfl
    rw [e] at q; exact q
  · obtain ⟨a1, a2, a3⟩ := py_ok (M := M) 64 x hx
    obtain ⟨b1, b2, b3⟩ := py_ok (M := M) 64 y hy
    exact ⟨_, _, a1, b1, by unfold SeqAt.shaped; rw [a2, decide_eq_true a3]; rfl, by unfold SeqAt.shaped; rw [b2, decide_eq_true b3]; rfl, q⟩
def notB (neg b : Bool) : Bool := match neg with
  | true => !b
  | false => b
theorem notB_eq {neg b : Bool} : notB neg b = (b ^^ neg) := by cases neg <;> cases b <;> rfl
def vEqG (neg : Bool) (x y : D) (M : Mp) (Q : KQ) : Prop := (okD 64 x = true ∧ okD 64 y = true) ∧ Q (.bl (notB neg (eqD x y))) M
def vEq (neg : Bool) (x y : D) (M : Mp) (Q : KQ) : Prop := match y with
  | .int j => (match x with
    | .int i => Q (.bl (notB neg (decide (i = j)))) M
    | x => vEqG neg x (.int j) M Q)
  | .str j => (match x with
    | .str i => Q (.bl (notB neg (decide (i = j)))) M
    | x => vEqG neg x (.str j) M Q)
  | .bl j => (match x with
    | .bl i => Q (.bl (notB neg (decide (i = j)))) M
    | x => vEqG neg x (.bl j) M Q)
  | .ref p => vAt M p fun o => match o with
    | .lst ys => (match x with
      | .ref p' => vAt M p' fun o' => match o' with
        | .lst xs => vEqG neg (.lst xs) (.lst ys) M Q
        | _ => False
      | x => vEqG neg x (.lst ys) M Q)
    | _ => False
  | .lst ys => (match x with
    | .ref p' => vAt M p' fun o' => match o' with
      | .lst xs => vEqG neg (.lst xs) (.lst ys) M Q
      | _ => False
    | x => vEqG neg x (.lst ys) M Q)
  | y => vEqG neg x y M Q
theorem vEqG_ok {neg : Bool} {x y : D} {M : Mp} {Q : KQ} (h : vEqG neg x y M Q) : eqO neg x y M Q := eq_of h.1.1 h.1.2 (by rw [← notB_eq]; exact h.2)
theorem pyOf_ref {M : Mp} {p : Addr} {xs : List D} (e : M p = some (.lst xs)) (h : okD 64 (.lst xs) = true) : PyOf M (.ref p) (py (.lst xs)) ∧ SeqAt.shaped (py (.lst xs)) = true := by
  obtain ⟨a1, a2, a3⟩ := py_ok (M := M) 64 (.lst xs) h
  refine ⟨?_, by unfold SeqAt.shaped; rw [a2, decide_eq_true a3]; rfl⟩
  unfold py at a1 ⊢
  cases a1 with
  | lst q => exact .ref e q
theorem vEq_ok {neg : Bool} {x y : D} {M : Mp} {Q : KQ} (h : vEq neg x y M Q) : eqO neg x y M Q := by
  have two : ∀ {p : Addr} {xs : List D} {x : D}, M p = some (.lst xs) → (∀ q, x ≠ .ref q) → vEqG neg x (.lst xs) M Q → eqO neg x (.ref p) M Q := fun {p xs x} e hx h => by
    obtain ⟨b1, b2⟩ := pyOf_ref e h.1.2
    obtain ⟨a1, a2, a3⟩ := py_ok (M := M) 64 x h.1.1
    unfold eqO
    have q : Q (.bl (PyData.eqv (py x) (py (.lst xs)) ^^ neg)) M := by have := h.2; rw [notB_eq] at this; exact this
    cases x <;> exact ⟨_, _, a1, b1, by unfold SeqAt.shaped; rw [a2, decide_eq_true a3]; rfl, b2, q⟩
  have one : ∀ {p : Addr} {xs ys : List D} {y : D}, M p = some (.lst xs) → (PyOf M y (py (.lst ys)) ∧ SeqAt.shaped (py (.lst ys)) = true) → vEqG neg (.lst xs) (.lst ys) M Q → eqO neg (.ref p) y M Q := fun {p xs ys y} e hy h => by
    obtain ⟨b1, b2⟩ := pyOf_ref e h.1.1
    unfold eqO
    have q : Q (.bl (PyData.eqv (py (.lst xs)) (py (.lst ys)) ^^ neg)) M := by have := h.2; rw [notB_eq] at this; exact this
    cases y <;> exact ⟨_, _, b1, hy.1, b2, hy.2, q⟩
  unfold vEq at h; split at h
  · split at h
    · have := h; rw [notB_eq] at this; exact this
    · exact vEqG_ok h
  · split at h
    · have := h; rw [notB_eq] at this; exact this
    · exact vEqG_ok h
  · split at h
    · have := h; rw [notB_eq] at this; exact this
    · exact vEqG_ok h
  · obtain ⟨o, e, h⟩ := h
    split at h
    · split at h
      · obtain ⟨o', e', h⟩ := h
        split at h
        · exact one e' (pyOf_ref e h.1.2) h
        · exact h.elim
      · exact two e (by assumption) h
    · exact h.elim
  · split at h
    · obtain ⟨o', e', h⟩ := h
      split at h
      · obtain ⟨a1, a2, a3⟩ := py_ok (M := M) 64 _ h.1.2
        exact one e' ⟨a1, by unfold SeqAt.shaped; rw [a2, decide_eq_true a3]; rfl⟩ h
      · exact h.elim
    · exact vEqG_ok h
  · exact vEqG_ok h
def vIs (neg : Bool) (x y : D) (M : Mp) (Q : KQ) : Prop := match y with
  | .non => (match x with
    | .non => Q (.bl (notB neg true)) M
    | .ref _ => Q (.bl (notB neg false)) M
    | .bl _ => Q (.bl (notB neg false)) M
    | .int _ => Q (.bl (notB neg false)) M
    | .str _ => Q (.bl (notB neg false)) M
    | .tup _ => Q (.bl (notB neg false)) M
    | .lst _ => Q (.bl (notB neg false)) M
    | .scr _ => Q (.bl (notB neg false)) M)
  | .bl j => (match x with
    | .bl i => Q (.bl (notB neg (decide (i = j)))) M
    | _ => False)
  | _ => False
theorem vIs_ok {neg : Bool} {x y : D} {M : Mp} {Q : KQ} (h : vIs neg x y M Q) : isO neg x y M Q := by
  cases y with
  | non => cases x <;> (have := h; unfold vIs at this; simp only [notB_eq] at this; exact this)
  | bl j => cases x <;> first | exact h.elim | (have := h; unfold vIs at this; simp only [notB_eq] at this; exact this)
  | _ => exact h.elim
def vInL (neg : Bool) (x : D) (ds : List D) (M : Mp) (Q : KQ) : Prop := (flatD x = true ∧ ds.all flatD = true) ∧ Q (.bl (notB neg (inD x ds))) M
def vInT (neg : Bool) (xs ds : List D) (M : Mp) (Q : KQ) : Prop := (neg = false ∧ okD 60 (.tup xs) = true ∧ okD 64 (.lst ds) = true) ∧ Q (.bl (ds.any fun z => eqD z (.tup xs))) M
theorem pys_any {x : PyData} : ∀ {ds : List D}, ((pys ds).any fun z => PyData.eqv z x) = ds.any fun z => PyData.eqv (py z) x
  | [] => by simp [pys]
  | d :: ds => by simp only [pys, List.any_cons, pys_any (ds := ds)]
theorem vInT_ok {neg : Bool} {xs ds : List D} {M : Mp} {Q : KQ} (h : vInT neg xs ds M Q) : inO neg (.tup xs) (.lst ds) M Q := by
  obtain ⟨⟨e, h1, h2⟩, q⟩ := h
  obtain ⟨a1, a2, a3⟩ := py_ok (M := M) 60 (.tup xs) h1
  obtain ⟨b1, b2, b3⟩ := py_ok (M := M) 64 (.lst ds) h2
  refine .inr (.inr ⟨e, py (.tup xs), pys ds, a1, ?_, by unfold SeqAt.shaped; rw [a2, decide_eq_true (by omega)]; rfl, ?_, a3, ?_⟩)
  · have e2 : py (.lst ds) = .list (pys ds) := by unfold py; rfl
    rw [e2] at b1; exact b1
  · have e2 : py (.lst ds) = .list (pys ds) := by unfold py; rfl
    rw [e2] at b2 b3
    unfold SeqAt.shaped; rw [b2, decide_eq_true b3]; rfl
  · rw [pys_any]; exact q
def vIn (neg : Bool) (x y : D) (M : Mp) (Q : KQ) : Prop := match y with
  | .str z => (match x with
    | .str s => ∃ c, s = ⟨#[c]⟩ ∧ Q (.bl (notB neg (decide (c ∈ z.cps.toList)))) M
    | _ => False)
  | .tup ds => vInL neg x ds M Q
  | .lst ds => (match x with
    | .tup xs => vInT neg xs ds M Q
    | x => vInL neg x ds M Q)
  | .scr ns => vInL neg x (ns.map D.int) M Q
  | .ref p => vAt M p fun o => match o with
    | .lst ds => vInL neg x ds M Q
    | .dct kvs => ∃ k, keyD x = some k ∧ Q (.bl (notB neg (getK kvs k).isSome)) M
    | _ => False
  | _ => False
theorem vIn_ok {neg : Bool} {x y : D} {M : Mp} {Q : KQ} (h : vIn neg x y M Q) : inO neg x y M Q := by
  cases y with
  | str z =>
    cases x with
    | str s =>
      obtain ⟨c, e, q⟩ := h
      rw [notB_eq] at q
      exact ⟨c, by rw [e], q⟩
    | _ => exact h.elim
  | tup ds => have q := h.2; rw [notB_eq] at q; exact ⟨h.1, q⟩
  | lst ds => cases x <;> first | exact vInT_ok h | (have q := h.2; rw [notB_eq] at q; exact .inl ⟨ds, rfl, h.1, q⟩)
  | scr ns => have q := h.2; rw [notB_eq] at q; exact .inl ⟨_, rfl, h.1, q⟩
  | ref p =>
    obtain ⟨o, e, h⟩ := h
    cases o with
    | lst ds => have q := h.2; rw [notB_eq] at q; exact .inl ⟨ds, by show (match M p with | some (.lst ds) => some ds | _ => none) = _; rw [e], h.1, q⟩
    | dct kvs =>
      obtain ⟨k, ek, q⟩ := h
      rw [notB_eq] at q
      exact .inr (.inl ⟨kvs, k, by show (match M p with | some (.dct kvs) => some kvs | _ => none) = _; rw [e], ek, q⟩)
    | ins => exact h.elim
  | _ => exact h.elim
def vI2 (x y : D) (k : Int → Int → Prop) : Prop := match x with
  | .int i => (match y with
    | .int j => k i j
    | _ => False)
  | _ => False
theorem vI2_ok {x y : D} {k : Int → Int → Prop} (h : vI2 x y k) : ∃ i j, x = .int i ∧ y = .int j ∧ k i j := by
  cases x <;> first | exact h.elim | (cases y <;> first | exact h.elim | exact ⟨_, _, rfl, rfl, h⟩)
/-- lists that may hold handles -/
def vNeH (x y : D) (M : Mp) (Q : KQ) : Prop := match x with
  | .lst xs => ∃ a b, (PyOf M (.lst xs) a ∧ PyOf M y b ∧ SeqAt.shaped a = true ∧ SeqAt.shaped b = true) ∧ Q (.bl (notB true (PyData.eqv a b))) M
  | _ => False
theorem vNeH_ok {x y : D} {M : Mp} {Q : KQ} (h : vNeH x y M Q) : eqO true x y M Q := by
  cases x with
  | lst xs =>
    obtain ⟨a, b, ⟨h1, h2, h3, h4⟩, q⟩ := h
    rw [notB_eq] at q
    unfold eqO
    cases y <;> exact ⟨a, b, h1, h2, h3, h4, q⟩
  | _ => exact h.elim
def vCop (o : Cop) (x y : D) (M : Mp) (Q : KQ) : Prop := match o with
  | .eq => vEq false x y M Q
  | .ne => vEq true x y M Q
  | .neH => vNeH x y M Q
  | .lt => vI2 x y fun i j => Q (.bl (decide (i < j))) M
  | .le => vI2 x y fun i j => Q (.bl (decide (i ≤ j))) M
  | .gt => vI2 x y fun i j => Q (.bl (decide (j < i))) M
  | .ge => vI2 x y fun i j => Q (.bl (decide (j ≤ i))) M
  | .is_ => vIs false x y M Q
  | .isn => vIs true x y M Q
  | .inn => vIn false x y M Q
  | .nin => vIn true x y M Q
theorem vCop_ok {o : Cop} {x y : D} {M : Mp} {Q : KQ} (h : vCop o x y M Q) : o.o x y M Q := by
  cases o with
  | eq => exact vEq_ok h
  | ne => exact vEq_ok h
  | neH => exact vNeH_ok h
  | lt => obtain ⟨i, j, rfl, rfl, q⟩ := vI2_ok h; exact q
  | le => obtain ⟨i, j, rfl, rfl, q⟩ := vI2_ok h; exact q
  | gt => obtain ⟨i, j, rfl, rfl, q⟩ := vI2_ok h; exact q
  | ge => obtain ⟨i, j, rfl, rfl, q⟩ := vI2_ok h; exact q
  | is_ => exact vIs_ok h
  | isn => exact vIs_ok h
  | inn => exact vIn_ok h
  | nin => exact vIn_ok h
def vIxL (ds : List D) (y : D) (k : D → Prop) : Prop := match y with
  | .int i => ∃ d, atI ds i = some d ∧ k d
  | _ => False
def vIx (x y : D) (M : Mp) (Q : KQ) : Prop := match x with
  | .tup ds => vIxL ds y fun d => Q d M
  | .lst ds => vIxL ds y fun d => Q d M
  | .scr ns => vIxL (ns.map D.int) y fun d => Q d M
  | .str z => (match y with
    | .int i => z.length ≤ sizeLine ∧ ∃ c, atI z.cps.toList i = some c ∧ Q (.str ⟨#[c]⟩) M
    | _ => False)
  | .ref p => vAt M p fun o => match o with
    | .lst ds => vIxL ds y fun d => Q d M
    | .dct kvs => ∃ k, keyD y = some k ∧ ∃ d, getK kvs k = some d ∧ Q d M
    | _ => False
  | _ => False
theorem vIxL_ok {ds : List D} {y : D} {k : D → Prop} (h : vIxL ds y k) : ∃ i d, y = .int i ∧ atI ds i = some d ∧ k d := by
  cases y <;> first | exact h.elim | exact ⟨_, h.choose, rfl, h.choose_spec.1, h.choose_spec.2⟩
theorem vIx_ok {x y : D} {M : Mp} {Q : KQ} (h : vIx x y M Q) : ixO x y M Q := by
  cases x with
  | tup ds => obtain ⟨i, d, rfl, e, q⟩ := vIxL_ok h; exact ⟨d, e, q⟩
  | lst ds => obtain ⟨i, d, rfl, e, q⟩ := vIxL_ok h; exact .inl ⟨ds, i, d, rfl, rfl, e, q⟩
  | scr ns => obtain ⟨i, d, rfl, e, q⟩ := vIxL_ok h; exact .inl ⟨_, i, d, rfl, rfl, e, q⟩
  | str z =>
    cases y with
    | int i => exact h
    | _ => exact h.elim
  | ref p =>
    obtain ⟨o, e, h⟩ := h
    cases o with
    | lst ds => obtain ⟨i, d, rfl, e2, q⟩ := vIxL_ok h; exact .inl ⟨ds, i, d, by show (match M p with | some (.lst ds) => some ds | _ => none) = _; rw [e], rfl, e2, q⟩
    | dct kvs =>
      obtain ⟨k, ek, d, ed, q⟩ := h
      exact .inr ⟨kvs, k, d, by show (match M p with | some (.dct kvs) => some kvs | _ => none) = _; rw [e], ek, ed, q⟩
    | ins => exact h.elim
  | _ => exact h.elim
def vSl (m : Bool) (x : D) (lo hi : Option Int) (M : Mp) (Q : KQ) : Prop := match x with
  | .tup ds => Q (.tup (cutD ds lo hi)) M
  | .str z => z.length ≤ sizeLine ∧ Q (.str (cutS z lo hi)) M
  | .lst ds => alloc m (cutD ds lo hi) M Q
  | .scr ns => alloc m (cutD (ns.map D.int) lo hi) M Q
  | .ref p => vAt M p fun o => match o with
    | .lst ds => alloc m (cutD ds lo hi) M Q
    | _ => False
  | _ => False
theorem vSl_ok {m : Bool} {x : D} {lo hi : Option Int} {M : Mp} {Q : KQ} (h : vSl m x lo hi M Q) : slO m x lo hi M Q := by
  cases x with
  | tup ds => exact h
  | str z => exact h
  | lst ds => exact ⟨ds, rfl, h⟩
  | scr ds => exact ⟨_, rfl, h⟩
  | ref p =>
    obtain ⟨o, e, h⟩ := h
    cases o with
    | lst ds => exact ⟨ds, by show (match M p with | some (.lst ds) => some ds | _ => none) = _; rw [e], h⟩
    | _ => exact h.elim
  | _ => exact h.elim
def vRv (m : Bool) (x : D) (M : Mp) (Q : KQ) : Prop := match x with
  | .tup ds => Q (.tup ds.reverse) M
  | .lst ds => alloc m ds.reverse M Q
  | .scr ns => alloc m (ns.map D.int).reverse M Q
  | .ref p => vAt M p fun o => match o with
    | .lst ds => alloc m ds.reverse M Q
    | _ => False
  | _ => False
theorem vRv_ok {m : Bool} {x : D} {M : Mp} {Q : KQ} (h : vRv m x M Q) : rvO m x M Q := by
  cases x with
  | tup ds => exact h
  | lst ds => exact ⟨ds, rfl, h⟩
  | scr ds => exact ⟨_, rfl, h⟩
  | ref p =>
    obtain ⟨o, e, h⟩ := h
    cases o with
    | lst ds => exact ⟨ds, by show (match M p with | some (.lst ds) => some ds | _ => none) = _; rw [e], h⟩
    | _ => exact h.elim
  | _ => exact h.elim
/-! #### isinstance -/
def tyN : D → String
  | .non => "NoneType"
  | .bl _ => "bool"
  | .int _ => "int"
  | .str _ => "str"
  | .tup _ => "tuple"
  | .lst _ => "list"
  | .scr _ => "list"
  | .ref _ => "list"
def isT (T : String) (x : D) : Bool := tyN x == T || (tyN x == "bool" && T == "int")
def tys : List String := ["int", "bool", "str", "tuple", "list"]
theorem kit_all : (["NoneType", "bool", "int", "str", "tuple", "list"].all fun t => tys.all fun T => decide (kitB t T = some (t == T || (t == "bool" && T == "int")))) = true := by decide +kernel
theorem kit_of {t T : String} (ht : t ∈ ["NoneType", "bool", "int", "str", "tuple", "list"]) (hT : T ∈ tys) : kitB t T = some (t == T || (t == "bool" && T == "int")) :=
  of_decide_eq_true (List.all_eq_true.mp (List.all_eq_true.mp kit_all t ht) T hT)
def notRef : D → Bool
  | .ref _ => false
  | _ => true
/-- no handle, or one of a list -/
def isiC (M : Mp) (x : D) : Prop := ∀ p, x = .ref p → ∃ ds, M p = some (.lst ds)
theorem isiC_of {M : Mp} {x : D} (h : notRef x = true) : isiC M x := fun p e => by subst e; cases h
theorem isiC_lst {M : Mp} {p : Addr} {ds : List D} (h : M p = some (.lst ds)) : isiC M (.ref p) := fun _ e => by cases e; exact ⟨ds, h⟩
theorem isi_of {T : String} {x : D} {M : Mp} {Q : KQ} (hT : T ∈ tys) (hx : isiC M x) (q : Q (.bl (isT T x)) M) : isiO T x M Q := by
  cases x with
  | non => exact ⟨"NoneType", _, rfl, kit_of (by decide) hT, q⟩
  | bl b => exact ⟨"bool", _, rfl, kit_of (by decide) hT, q⟩
  | int b => exact ⟨"int", _, rfl, kit_of (by decide) hT, q⟩
  | str b => exact ⟨"str", _, rfl, kit_of (by decide) hT, q⟩
  | tup b => exact ⟨"tuple", _, rfl, kit_of (by decide) hT, q⟩
  | lst b => exact ⟨"list", _, rfl, kit_of (by decide) hT, q⟩
  | scr b => exact ⟨"list", _, rfl, kit_of (by decide) hT, q⟩
  | ref b =>
    obtain ⟨ds, e⟩ := hx b rfl
    exact ⟨"list", _, by show (match M b with | some (.lst _) => some "list" | some (.dct _) => some "dict" | _ => none) = _; rw [e], kit_of (by decide) hT, q⟩
def vIsi (T : String) (x : D) (M : Mp) (Q : KQ) : Prop := (T ∈ tys ∧ isiC M x) ∧ Q (.bl (isT T x)) M
/-! #### built-in functions -/
def vInts (x : D) (M : Mp) (k : List Int → Prop) : Prop := vL x M fun ds => ∃ ns : List Int, ds = ns.map D.int ∧ k ns
def vLen (x : D) (M : Mp) (Q : KQ) : Prop := match x with
  | .tup ds => Q (.int ds.length) M
  | .str z => z.length ≤ sizeLine ∧ Q (.int z.length) M
  | .lst ds => Q (.int ds.length) M
  | .scr ns => Q (.int ns.length) M
  | .ref p => vAt M p fun o => match o with
    | .lst ds => Q (.int ds.length) M
    | .dct kvs => Q (.int kvs.length) M
    | _ => False
  | _ => False
theorem vLen_ok {x : D} {M : Mp} {Q : KQ} (h : vLen x M Q) : lenO x M Q := by
  cases x with
  | tup ds => exact h
  | str ds => exact h
  | lst ds => exact .inl ⟨ds, rfl, h⟩
  | scr ds => exact .inl ⟨_, rfl, by rw [List.length_map]; exact h⟩
  | ref p =>
    obtain ⟨o, e, h⟩ := h
    cases o with
    | lst ds => exact .inl ⟨ds, by show (match M p with | some (.lst ds) => some ds | _ => none) = _; rw [e], h⟩
    | dct ds => exact .inr ⟨ds, by show (match M p with | some (.dct ds) => some ds | _ => none) = _; rw [e], h⟩
    | _ => exact h.elim
  | _ => exact h.elim
def v1 (ds : List D) (k : D → Prop) : Prop := match ds with
  | [x] => k x
  | _ => False
def v2 (ds : List D) (k : D → D → Prop) : Prop := match ds with
  | [x, y] => k x y
  | _ => False
def vSeq (x : D) (M : Mp) (k : List D → Prop) : Prop := match x with
  | .tup ys => k ys
  | .lst ys => k ys
  | .scr ns => k (ns.map D.int)
  | .ref p => vAt M p fun o => match o with
    | .lst b => k b
    | _ => False
  | _ => False
theorem vSeq_ok {x : D} {M : Mp} {k : List D → Prop} (h : vSeq x M k) : ∃ ys, k ys ∧ (x = .tup ys ∨ (lcon x M = some ys ∧ ∀ zs, x ≠ .tup zs)) := by
  cases x with
  | tup ys => exact ⟨ys, h, .inl rfl⟩
  | lst ys => exact ⟨ys, h, .inr ⟨rfl, fun _ e => nomatch e⟩⟩
  | scr ns => exact ⟨_, h, .inr ⟨rfl, fun _ e => nomatch e⟩⟩
  | ref p =>
    obtain ⟨o, e, h⟩ := h
    cases o with
    | lst b => exact ⟨b, h, .inr ⟨by show (match M p with | some (.lst ds) => some ds | _ => none) = _; rw [e], fun _ e => nomatch e⟩⟩
    | _ => exact h.elim
  | _ => exact h.elim
def vBi (b : Bi) (ds : List D) (M : Mp) (Q : KQ) : Prop := match b with
  | .len => v1 ds fun x => vLen x M Q
  | .sum => v1 ds fun x => vInts x M fun ns => Q (.int ns.sum) M
  | .min1 => v1 ds fun x => vInts x M fun ns => 0 < ns.length ∧ ∀ m, m ∈ ns → (∀ y, y ∈ ns → m ≤ y) → Q (.int m) M
  | .min2 => v2 ds fun x y => vI2 x y fun i j => Q (.int (if j < i then j else i)) M
  | .max2 => v2 ds fun x y => vI2 x y fun i j => Q (.int (if j > i then j else i)) M
  | .all => v1 ds fun x => vL x M fun ys => ∃ bs : List Bool, ys = bs.map D.bl ∧ Q (.bl (bs.all id)) M
  | .any => v1 ds fun x => vL x M fun ys => ∃ bs : List Bool, ys = bs.map D.bl ∧ Q (.bl (bs.any id)) M
  | .int => v1 ds fun x => intOf x M Q
  | .str => v1 ds fun x => strOf x M Q
  | .tup => v1 ds fun x => vSeq x M fun ys => Q (.tup ys) M
  | .lst m => v1 ds fun x => vSeq x M fun ys => alloc m ys M Q
  | .sortI m => v1 ds fun x => vInts x M fun ns => ∀ ns' : List Int, ns'.Perm ns → ns'.Pairwise (· ≤ ·) → alloc m (ns'.map D.int) M Q
theorem v1_ok {ds : List D} {k : D → Prop} (h : v1 ds k) : ∃ x, ds = [x] ∧ k x := by
  unfold v1 at h; split at h
  · exact ⟨_, rfl, h⟩
  · exact h.elim
theorem v2_ok {ds : List D} {k : D → D → Prop} (h : v2 ds k) : ∃ x y, ds = [x, y] ∧ k x y := by
  unfold v2 at h; split at h
  · exact ⟨_, _, rfl, h⟩
  · exact h.elim
theorem vInts_ok {x : D} {M : Mp} {k : List Int → Prop} (h : vInts x M k) : ∃ ns : List Int, lcon x M = some (ns.map D.int) ∧ k ns := by
  obtain ⟨b, e, ns, e2, q⟩ := vL_ok h
  exact ⟨ns, by rw [e, e2], q⟩
theorem vBi_ok {b : Bi} {ds : List D} {M : Mp} {Q : KQ} (h : vBi b ds M Q) : b.o ds M Q := by
  cases b with
  | len => obtain ⟨x, rfl, h⟩ := v1_ok h; exact vLen_ok h
  | sum => obtain ⟨x, rfl, h⟩ := v1_ok h; obtain ⟨ns, e, q⟩ := vInts_ok h; exact ⟨ns, e, q⟩
  | min1 => obtain ⟨x, rfl, h⟩ := v1_ok h; obtain ⟨ns, e, z, q⟩ := vInts_ok h; exact ⟨ns, e, z, q⟩
  | min2 => obtain ⟨x, y, rfl, h⟩ := v2_ok h; obtain ⟨i, j, rfl, rfl, q⟩ := vI2_ok h; exact q
  | max2 => obtain ⟨x, y, rfl, h⟩ := v2_ok h; obtain ⟨i, j, rfl, rfl, q⟩ := vI2_ok h; exact q
  | all => obtain ⟨x, rfl, h⟩ := v1_ok h; obtain ⟨ys, e, bs, e2, q⟩ := vL_ok h; exact ⟨bs, by rw [e, e2], q⟩
  | any => obtain ⟨x, rfl, h⟩ := v1_ok h; obtain ⟨ys, e, bs, e2, q⟩ := vL_ok h; exact ⟨bs, by rw [e, e2], q⟩
  | int => obtain ⟨x, rfl, h⟩ := v1_ok h; exact h
  | str => obtain ⟨x, rfl, h⟩ := v1_ok h; exact h
  | tup =>
    obtain ⟨x, rfl, h⟩ := v1_ok h
    obtain ⟨ys, q, rfl | ⟨e, hx⟩⟩ := vSeq_ok h
    · exact q
    · show tupOf x M Q
      cases x <;> first | exact ⟨ys, e, q⟩ | exact absurd rfl (hx _)
  | lst m =>
    obtain ⟨x, rfl, h⟩ := v1_ok h
    obtain ⟨ys, q, rfl | ⟨e, hx⟩⟩ := vSeq_ok h
    · exact q
    · show lstOf m x M Q
      cases x <;> first | exact ⟨ys, e, q⟩ | exact absurd rfl (hx _)
  | sortI m => obtain ⟨x, rfl, h⟩ := v1_ok h; obtain ⟨ns, e, q⟩ := vInts_ok h; exact ⟨ns, e, q⟩
/-! #### methods -/
def vTy (x : D) (M : Mp) (T : String) : Prop := match x with
  | .str _ => T = "str"
  | .lst _ => T = "list"
  | .scr _ => T = "list"
  | .ref p => vAt M p fun o => match o with
    | .lst _ => T = "list"
    | .dct _ => T = "dict"
    | _ => False
  | _ => False
theorem vTy_ok {x : D} {M : Mp} {T : String} (h : vTy x M T) : tyD x M = some T := by
  cases x with
  | str => cases (show T = _ from h); rfl
  | lst => cases (show T = _ from h); rfl
  | scr => cases (show T = _ from h); rfl
  | ref p =>
    obtain ⟨o, e, h⟩ := h
    show (match M p with | some (.lst _) => some "list" | some (.dct _) => some "dict" | _ => none) = _
    rw [e]
    cases o with
    | lst => cases (show T = _ from h); rfl
    | dct => cases (show T = _ from h); rfl
    | ins => exact h.elim
  | _ => exact h.elim
def vML (x : D) (M : Mp) (k : Addr → List D → Prop) : Prop := match x with
  | .ref p => vAt M p fun o => match o with
    | .lst xs => k p xs
    | _ => False
  | _ => False
theorem vML_ok {x : D} {M : Mp} {k : Addr → List D → Prop} (h : vML x M k) : ∃ a xs, mlist x M = some (a, xs) ∧ k a xs := by
  cases x with
  | ref p =>
    obtain ⟨o, e, h⟩ := h
    cases o with
    | lst xs => exact ⟨p, xs, by show (match M p with | some (.lst ds) => some (p, ds) | _ => none) = _; rw [e], h⟩
    | _ => exact h.elim
  | _ => exact h.elim
def vMt (b : Mt) (x : D) (ds : List D) (M : Mp) (Q : KQ) : Prop := match b with
  | .append => v1 ds fun y => vML x M fun a xs => xs.length < sizeLine ∧ Q .non (mset M a (.lst (xs ++ [y])))
  | .extend => v1 ds fun y => vML x M fun a xs => vLT y M fun ys => xs.length + ys.length ≤ sizeLine ∧ Q .non (mset M a (.lst (xs ++ ys)))
  | .pop => ds = [] ∧ vML x M fun a xs => ∃ y, xs[xs.length - 1]? = some y ∧ Q y (mset M a (.lst xs.dropLast))
  | .get2 => v2 ds fun y d => (match x with
    | .ref p => vAt M p fun o => match o with
      | .dct kvs => ∃ k, keyD y = some k ∧ Q ((getK kvs k).getD d) M
      | _ => False
    | _ => False)
  | .join => v1 ds fun y => (match x with
    | .str a => vSeq y M fun zs => ∃ ys : List Str, zs = ys.map D.str ∧ (ys.map (·.length)).sum + ys.length * a.length ≤ 16777216 ∧ Q (.str (Txt.join a ys)) M
    | _ => False)
  | b => b.o x ds M Q
theorem vMt_ok {b : Mt} {x : D} {ds : List D} {M : Mp} {Q : KQ} (h : vMt b x ds M Q) : b.o x ds M Q := by
  cases b with
  | append => obtain ⟨y, rfl, h⟩ := v1_ok h; obtain ⟨a, xs, e, z, q⟩ := vML_ok h; exact ⟨a, xs, y, e, rfl, z, q⟩
  | extend => obtain ⟨y, rfl, h⟩ := v1_ok h; obtain ⟨a, xs, e, h⟩ := vML_ok h; obtain ⟨ys, e2, z, q⟩ := vLT_ok h; exact ⟨a, xs, y, ys, e, rfl, e2, z, q⟩
  | pop => obtain ⟨a, xs, e, y, e2, q⟩ := vML_ok h.2; exact ⟨a, xs, y, e, h.1, e2, q⟩
  | get2 =>
    obtain ⟨y, d, rfl, h⟩ := v2_ok h
    cases x with
    | ref p =>
      obtain ⟨o, e, h⟩ := h
      cases o with
      | dct kvs => obtain ⟨k, ek, q⟩ := h; exact ⟨kvs, k, y, d, by show (match M p with | some (.dct ds) => some ds | _ => none) = _; rw [e], rfl, ek, q⟩
      | _ => exact h.elim
    | _ => exact h.elim
  | join =>
    obtain ⟨y, rfl, h⟩ := v1_ok h
    cases x with
    | str a =>
      obtain ⟨zs, ⟨ys, e2, z, q⟩, rfl | ⟨e, hx⟩⟩ := vSeq_ok h
      · exact ⟨a, _, ys, rfl, rfl, .inr (by rw [e2]), z, q⟩
      · exact ⟨a, _, ys, rfl, rfl, .inl (by rw [e, e2]), z, q⟩
    | _ => exact h.elim
  | _ => exact h
def vFld (c f : Str) (x : D) (M : Mp) (Q : KQ) : Prop := match x with
  | .ref p => vAt M p fun o => match o with
    | .ins c' fs => c' = c ∧ ∃ d, fs.lookup f = some d ∧ Q d M
    | _ => False
  | _ => False
theorem ins_of {c : Str} {p : Addr} {M : Mp} {fs : List (Str × D)} (e : M p = some (.ins c fs)) : insOf c (.ref p) M = some (p, fs) := by
  show (match M p with | some (.ins c' fs) => if c' = c then some (p, fs) else none | _ => none) = _
  rw [e]; simp
theorem vFld_ok {c f : Str} {x : D} {M : Mp} {Q : KQ} (h : vFld c f x M Q) : fldO c f x M Q := by
  cases x with
  | ref p =>
    obtain ⟨o, e, h⟩ := h
    cases o with
    | ins c' fs => obtain ⟨rfl, d, e2, q⟩ := h; exact ⟨p, fs, d, ins_of e, e2, q⟩
    | _ => exact h.elim
  | _ => exact h.elim
def vIns (c : Str) (x : D) (M : Mp) (k : Addr → List (Str × D) → Prop) : Prop := match x with
  | .ref p => vAt M p fun o => match o with
    | .ins c' fs => c' = c ∧ k p fs
    | _ => False
  | _ => False
theorem vIns_ok {c : Str} {x : D} {M : Mp} {k : Addr → List (Str × D) → Prop} (h : vIns c x M k) : ∃ a fs, insOf c x M = some (a, fs) ∧ k a fs := by
  cases x with
  | ref p =>
    obtain ⟨o, e, h⟩ := h
    cases o with
    | ins c' fs => obtain ⟨rfl, q⟩ := h; exact ⟨p, fs, ins_of e, q⟩
    | _ => exact h.elim
  | _ => exact h.elim
def vSet (o i d : D) (M : Mp) (N : Mp → Prop) : Prop := match o with
  | .ref a => vAt M a fun ob => match ob with
    | .lst xs => (match i with
      | .int k => ∃ j, ixN xs.length k = some j ∧ N (mset M a (.lst (xs.set j d)))
      | _ => False)
    | .dct kvs => ∃ k, keyD i = some k ∧ kvs.length < sizeLine ∧ N (mset M a (.dct (putKD kvs k d)))
    | _ => False
  | _ => False
theorem vSet_ok {o i d : D} {M : Mp} {N : Mp → Prop} (h : vSet o i d M N) : setO o i d M N := by
  cases o with
  | ref a =>
    obtain ⟨ob, e, h⟩ := h
    cases ob with
    | lst xs =>
      cases i with
      | int k => obtain ⟨j, ej, q⟩ := h; exact .inl ⟨a, xs, k, j, by show (match M a with | some (.lst ds) => some (a, ds) | _ => none) = _; rw [e], rfl, ej, q⟩
      | _ => exact h.elim
    | dct kvs => obtain ⟨k, ek, z, q⟩ := h; exact .inr ⟨a, kvs, k, rfl, e, ek, z, q⟩
    | ins => exact h.elim
  | _ => exact h.elim
end TT
set_option Elab.async false
set_option linter.all false
set_option maxRecDepth 100000
set_option maxHeartbeats 2000000
/-! VB: the terms read for proofs: expressions, statements, defs. -/
namespace TT
open PySem PySem.Spec PyProof.Rows L2
/-! ### what is walked -/
def vItems (x : D) (M : Mp) (k : List D → (Mp → Prop) → Mp → Prop) : Prop := match x with
  | .tup ds => k ds (fun _ => True) M
  | .lst ds => k ds (fun _ => True) M
  | .scr ns => k (ns.map D.int) (fun _ => True) M
  | .str z => k (chrs z) (fun _ => True) M
  | .ref a => vAt M a fun o => match o with
    | .lst ds => k ds (fun M' => M' a = some (.lst ds)) M
    | _ => False
  | _ => False
theorem vItems_ok {x : D} {M : Mp} {k : List D → (Mp → Prop) → Mp → Prop} (h : vItems x M k) : itemsO x M k := by
  cases x with
  | ref a =>
    obtain ⟨o, e, h⟩ := h
    cases o with
    | lst ds => exact ⟨ds, e, h⟩
    | _ => exact h.elim
  | _ => exact h
def vItemsL (x : D) (M : Mp) (k : List D → (Mp → Prop) → Prop) : Prop := match x with
  | .tup ds => k ds (fun _ => True)
  | .lst ds => k ds (fun _ => True)
  | .scr ns => k (ns.map D.int) (fun _ => True)
  | .ref a => vAt M a fun o => match o with
    | .lst ds => k ds (fun M' => M' a = some (.lst ds))
    | _ => False
  | _ => False
theorem vItemsL_ok {x : D} {M : Mp} {k : List D → (Mp → Prop) → Mp → Prop} (h : vItemsL x M fun ds G => k ds G M) : itemsL x M k := by
  cases x with
  | ref a =>
    obtain ⟨o, e, h⟩ := h
    cases o with
    | lst ds => exact ⟨ds, e, h⟩
    | _ => exact h.elim
  | str => exact h.elim
  | _ => exact h
def vRng (ds : List D) (M : Mp) (k : List D → (Mp → Prop) → Mp → Prop) : Prop := match ds with
  | [x] => (match x with
    | .int j => small62 j ∧ k (rangeD 0 j.toNat) (fun _ => True) M
    | _ => False)
  | [x, y] => vI2 x y fun i j => (small62 i ∧ small62 j) ∧ k (rangeD i (j - i).toNat) (fun _ => True) M
  | _ => False
theorem vRng_ok {ds : List D} {M : Mp} {k : List D → (Mp → Prop) → Mp → Prop} (h : vRng ds M k) : rngO ds M k := by
  unfold vRng at h; split at h
  · split at h
    · exact h
    · exact h.elim
  · obtain ⟨i, j, rfl, rfl, q⟩ := vI2_ok h; exact q
  · exact h.elim
def vEnm (ds : List D) (M : Mp) (k : List D → (Mp → Prop) → Mp → Prop) : Prop := v1 ds fun x => vItemsL x M fun xs G => k (enumD 0 xs) G M
def vZip (ds : List D) (M : Mp) (k : List D → (Mp → Prop) → Mp → Prop) : Prop := match ds with
  | [x, y] => vItemsL x M fun xs G => vItemsL y M fun ys G' => k (zipD xs ys) (fun M' => G M' ∧ G' M') M
  | [x, y, z] => vItemsL x M fun xs G => vItemsL y M fun ys G' => vItemsL z M fun zs G2 => k (zip3D xs ys zs) (fun M' => G M' ∧ G' M' ∧ G2 M') M
  | _ => False
theorem vEnm_ok {ds : List D} {M : Mp} {k : List D → (Mp → Prop) → Mp → Prop} (h : vEnm ds M k) : enO ds M k := by
  obtain ⟨x, rfl, h⟩ := v1_ok h
  exact vItemsL_ok h
theorem vZip_ok {ds : List D} {M : Mp} {k : List D → (Mp → Prop) → Mp → Prop} (h : vZip ds M k) : zpO ds M k := by
  have mono : ∀ {x : D} {M : Mp} {k k' : List D → (Mp → Prop) → Prop}, (∀ ds G, k ds G → k' ds G) → vItemsL x M k → vItemsL x M k' := fun {x M k k'} hk h => by
    cases x with
    | ref a =>
      obtain ⟨o, e, h⟩ := h
      cases o with
      | lst ds => exact ⟨_, e, hk _ _ h⟩
      | _ => exact h.elim
    | tup => exact hk _ _ h
    | lst => exact hk _ _ h
    | scr => exact hk _ _ h
    | _ => exact h.elim
  unfold vZip at h; split at h
  · rename_i x y
    exact vItemsL_ok (k := fun xs G _ => itemsL y M fun ys G' _ => k (zipD xs ys) (fun M' => G M' ∧ G' M') M) (mono (fun xs G h => vItemsL_ok (k := fun ys G' _ => k (zipD xs ys) (fun M' => G M' ∧ G' M') M) h) h)
  · rename_i x y z
    exact vItemsL_ok (k := fun xs G _ => itemsL y M fun ys G' _ => itemsL z M fun zs G2 _ => k (zip3D xs ys zs) (fun M' => G M' ∧ G' M' ∧ G2 M') M) (mono (fun xs G h => vItemsL_ok (k := fun ys G' _ => itemsL z M fun zs G2 _ => k (zip3D xs ys zs) (fun M' => G M' ∧ G' M' ∧ G2 M') M) (mono (fun ys G' h => vItemsL_ok (k := fun zs G2 _ => k (zip3D xs ys zs) (fun M' => G M' ∧ G' M' ∧ G2 M') M) h) h)) h)
  · exact h.elim
def vTrg (i j : Int) (M : Mp) (Q : KQ) : Prop := RgOk i j ∧ Q (.tup (rangeD i (j - i).toNat)) M
/-! ### kept folded -/
@[irreducible] def vFor (C : Nat → AF) (k : TgK) (b : List Sm) (G : Mp → Prop) (ds : List D) (A : AEnds) (ρ : Env) (M : Mp) : Prop := wpFor k (wpB C C b) G ds A ρ M
@[irreducible] def vWhile (C : Nat → AF) (c : Ex) (b : List Sm) (A : AEnds) (ρ : Env) (M : Mp) : Prop := ∃ n, wpWhile (wpE C C c) (wpB C C b) n A ρ M
@[irreducible] def vComp (C : Nat → AF) (k : TgK) (conds : List Ex) (elt : Ex) (G : Mp → Prop) (K : List D → Mp → Prop) (ds : List D) (ρ0 : Env) (M : Mp) : Prop := wpComp ρ0 k (wpC C C conds) (wpE C C elt) G K ds [] M
@[irreducible] def vEnd (Q : KQ) (d : D) (M : Mp) : Prop := fin Q d M
@[irreducible] def vEndX (X : KX) (c : Str) (M : Mp) : Prop := finX X c M
@[irreducible] def vdn (u : Env → Mp → Prop) (ρ : Env) (M : Mp) : Prop := dn u ρ M
/-! ### expressions -/
section
variable (C : Nat → AF)
mutual
def vE : Ex → Env → Mp → KQ → KX → Prop
  | .var i, ρ, M, Q, _ => (match getE ρ i with
    | some d => Q d M
    | none => False)
  | .con d, _, M, Q, _ => Q d M
  | .bop o a b, ρ, M, Q, X => vE a ρ M (fun x M1 => vE b ρ M1 (fun y M2 => vBop o x y M2 Q) X) X
  | .cop o a b, ρ, M, Q, X => vE a ρ M (fun x M1 => vE b ρ M1 (fun y M2 => vCop o x y M2 Q) X) X
  | .chn o o' a b c, ρ, M, Q, X => vE a ρ M (fun x M1 => vE b ρ M1 (fun y M2 => vCop o x y M2 (fun z M3 => vBr z (vE c ρ M3 (fun w M4 => vCop o' y w M4 Q) X) (Q (.bl false) M3))) X) X
  | .and a b, ρ, M, Q, X => vE a ρ M (fun x M1 => vBr x (vE b ρ M1 Q X) (Q (.bl false) M1)) X
  | .or a b, ρ, M, Q, X => vE a ρ M (fun x M1 => vBr x (Q (.bl true) M1) (vE b ρ M1 Q X)) X
  | .not a, ρ, M, Q, X => vE a ρ M (fun x M1 => (match x with
    | .bl b => Q (.bl (!b)) M1
    | _ => False)) X
  | .neg a, ρ, M, Q, X => vE a ρ M (fun x M1 => (match x with
    | .int i => Q (.int (-i)) M1
    | _ => False)) X
  | .tup es, ρ, M, Q, X => vEs es ρ M (fun ds M1 => Q (.tup ds) M1) X
  | .lst m es, ρ, M, Q, X => vEs es ρ M (fun ds M1 => alloc m ds M1 Q) X
  | .ix a b, ρ, M, Q, X => vE a ρ M (fun x M1 => vE b ρ M1 (fun y M2 => vIx x y M2 Q) X) X
  | .slB m a lo hi, ρ, M, Q, X => vE a ρ M (fun x M1 => vE lo ρ M1 (fun i M2 => (match i with
    | .int i => vE hi ρ M2 (fun j M3 => (match j with
      | .int j => vSl m x (some i) (some j) M3 Q
      | _ => False)) X
    | _ => False)) X) X
  | .slL m a lo, ρ, M, Q, X => vE a ρ M (fun x M1 => vE lo ρ M1 (fun i M2 => (match i with
    | .int i => vSl m x (some i) none M2 Q
    | _ => False)) X) X
  | .slU m a hi, ρ, M, Q, X => vE a ρ M (fun x M1 => vE hi ρ M1 (fun i M2 => (match i with
    | .int i => vSl m x none (some i) M2 Q
    | _ => False)) X) X
  | .rv m a, ρ, M, Q, X => vE a ρ M (fun x M1 => vRv m x M1 Q) X
  | .isi T a, ρ, M, Q, X => vE a ρ M (fun x M1 => vIsi T x M1 Q) X
  | .bi b es, ρ, M, Q, X => vEs es ρ M (fun ds M1 => vBi b ds M1 Q) X
  | .mt b o es, ρ, M, Q, X => vE o ρ M (fun x M1 => vTy x M1 b.T ∧ vEs es ρ M1 (fun ds M2 => vMt b x ds M2 Q) X) X
  | .fld c f o, ρ, M, Q, X => vE o ρ M (fun x M1 => vFld c f x M1 Q) X
  | .call f es, ρ, M, Q, X => vEs es ρ M (fun ds M1 => C f ds M1 Q X) X
  | .meth c m f o es, ρ, M, Q, X => vE o ρ M (fun x M1 => vIns c x M1 fun _ fs => fs.lookup m = none ∧ vEs es ρ M1 (fun ds M2 => C f (x :: ds) M2 Q X) X) X
  | .new c f es, ρ, M, Q, X => vEs es ρ M (fun ds M1 => ∀ a, M1 a = none → C f (.ref a :: ds) (mset M1 a (.ins c [])) (fun d M2 => d = .non ∧ Q (.ref a) M2) X) X
  | .comp m own k ik ies conds elt, ρ, M, Q, X => (match ik with
    | .seq => vHd ies ρ M (fun x M1 => vItems x M1 fun ds G M1 => ds.length ≤ sizeLine ∧ wipeK ρ own fun ρ0 => vComp C k conds elt G (fun acc M2 => alloc m acc M2 Q) ds ρ0 M1) X
    | .rng => vEs ies ρ M (fun xs M1 => vRng xs M1 fun ds G M1 => ds.length ≤ sizeLine ∧ wipeK ρ own fun ρ0 => vComp C k conds elt G (fun acc M2 => alloc m acc M2 Q) ds ρ0 M1) X
    | .en => vEs ies ρ M (fun xs M1 => vEnm xs M1 fun ds G M1 => ds.length ≤ sizeLine ∧ wipeK ρ own fun ρ0 => vComp C k conds elt G (fun acc M2 => alloc m acc M2 Q) ds ρ0 M1) X
    | .zp => vEs ies ρ M (fun xs M1 => vZip xs M1 fun ds G M1 => ds.length ≤ sizeLine ∧ wipeK ρ own fun ρ0 => vComp C k conds elt G (fun acc M2 => alloc m acc M2 Q) ds ρ0 M1) X)
  | .trg1 a, ρ, M, Q, X => vE a ρ M (fun x M1 => (match x with
    | .int j => RgOk 0 j ∧ Q (.tup (rangeD 0 j.toNat)) M1
    | _ => False)) X
  | .lrg1 m a, ρ, M, Q, X => vE a ρ M (fun x M1 => (match x with
    | .int j => RgOk 0 j ∧ alloc m (rangeD 0 j.toNat) M1 Q
    | _ => False)) X
  | .trg2 a b, ρ, M, Q, X => vE a ρ M (fun x M1 => vE b ρ M1 (fun y M2 => vI2 x y fun i j => vTrg i j M2 Q) X) X
  | .dsp kvs, ρ, M, Q, X => vPs kvs ρ M (fun ps M1 => ∃ kvs, keysD ps = some kvs ∧ ∀ a, M1 a = none → Q (.ref a) (mset M1 a (.dct (mergeD [] kvs)))) X
def vEs : List Ex → Env → Mp → (List D → Mp → Prop) → KX → Prop
  | [], _, M, Q, _ => Q [] M
  | e :: es, ρ, M, Q, X => vE e ρ M (fun x M1 => vEs es ρ M1 (fun xs M2 => Q (x :: xs) M2) X) X
def vHd : List Ex → Env → Mp → KQ → KX → Prop
  | [], _, _, _, _ => False
  | e :: _, ρ, M, Q, X => vE e ρ M Q X
def vPs : List Ex → Env → Mp → (List (D × D) → Mp → Prop) → KX → Prop
  | k :: v :: r, ρ, M, Q, X => vE k ρ M (fun x M1 => vE v ρ M1 (fun y M2 => vPs r ρ M2 (fun ps M3 => Q ((x, y) :: ps) M3) X) X) X
  | _, _, M, Q, _ => Q [] M
end
end
section
variable {C : Nat → AF}
mutual
theorem vE_ok (mC : ∀ j, MonoF (C j)) : ∀ (e : Ex) {ρ : Env} {M : Mp} {Q : KQ} {X : KX}, vE C e ρ M Q X → wpE C C e ρ M Q X
  | .var i, ρ, M, Q, X, h => by
    have h' : (match getE ρ i with
      | some d => Q d M
      | none => False) := h
    rw [getE_eq] at h'
    exact h'
  | .con d, _, _, _, _, h => h
  | .bop o a b, _, _, _, _, h => wpE_mono mC a _ _ _ _ _ _ (fun x M1 h1 => wpE_mono mC b _ _ _ _ _ _ (fun y M2 h2 => vBop_ok h2) (fun _ _ z => z) (vE_ok mC b h1)) (fun _ _ z => z) (vE_ok mC a h)
  | .cop o a b, _, _, _, _, h => wpE_mono mC a _ _ _ _ _ _ (fun x M1 h1 => wpE_mono mC b _ _ _ _ _ _ (fun y M2 h2 => vCop_ok h2) (fun _ _ z => z) (vE_ok mC b h1)) (fun _ _ z => z) (vE_ok mC a h)
  | .chn o o' a b c, ρ, M, Q, X, h => wpE_mono mC a _ _ _ _ _ _ (fun x M1 h1 => wpE_mono mC b _ _ _ _ _ _ (fun y M2 h2 => cop_mono o _ _ _ _ _ (fun z M3 h3 => by
      rcases vBr_ok h3 with ⟨rfl, h5⟩ | ⟨rfl, h5⟩
      · exact wpE_mono mC c _ _ _ _ _ _ (fun w M4 h4 => vCop_ok h4) (fun _ _ z => z) (vE_ok mC c h5)
      · exact h5) (vCop_ok h2)) (fun _ _ z => z) (vE_ok mC b h1)) (fun _ _ z => z) (vE_ok mC a h)
  | .and a b, _, _, _, _, h => wpE_mono mC a _ _ _ _ _ _ (fun x M1 h1 => by
      rcases vBr_ok h1 with ⟨rfl, h5⟩ | ⟨rfl, h5⟩
      · exact vE_ok mC b h5
      · exact h5) (fun _ _ z => z) (vE_ok mC a h)
  | .or a b, _, _, _, _, h => wpE_mono mC a _ _ _ _ _ _ (fun x M1 h1 => by
      rcases vBr_ok h1 with ⟨rfl, h5⟩ | ⟨rfl, h5⟩
      · exact h5
      · exact vE_ok mC b h5) (fun _ _ z => z) (vE_ok mC a h)
  | .not a, _, _, _, _, h => wpE_mono mC a _ _ _ _ _ _ (fun x M1 h1 => by
      cases x <;> first | exact h1 | exact h1.elim) (fun _ _ z => z) (vE_ok mC a h)
  | .neg a, _, _, _, _, h => wpE_mono mC a _ _ _ _ _ _ (fun x M1 h1 => by
      cases x <;> first | exact h1 | exact h1.elim) (fun _ _ z => z) (vE_ok mC a h)
  | .tup es, _, _, _, _, h => vEs_ok mC es h
  | .lst m es, _, _, _, _, h => vEs_ok mC es h
  | .ix a b, _, _, _, _, h => wpE_mono mC a _ _ _ _ _ _ (fun x M1 h1 => wpE_mono mC b _ _ _ _ _ _ (fun y M2 h2 => vIx_ok h2) (fun _ _ z => z) (vE_ok mC b h1)) (fun _ _ z => z) (vE_ok mC a h)
  | .slB m a lo hi, _, _, _, _, h => wpE_mono mC a _ _ _ _ _ _ (fun x M1 h1 => wpE_mono mC lo _ _ _ _ _ _ (fun i M2 h2 => by
      cases i with
      | int i => exact ⟨i, rfl, wpE_mono mC hi _ _ _ _ _ _ (fun j M3 h3 => by
          cases j <;> first | exact ⟨_, rfl, vSl_ok h3⟩ | exact h3.elim) (fun _ _ z => z) (vE_ok mC hi h2)⟩
      | _ => exact h2.elim) (fun _ _ z => z) (vE_ok mC lo h1)) (fun _ _ z => z) (vE_ok mC a h)
  | .slL m a lo, _, _, _, _, h => wpE_mono mC a _ _ _ _ _ _ (fun x M1 h1 => wpE_mono mC lo _ _ _ _ _ _ (fun i M2 h2 => by
      cases i <;> first | exact ⟨_, rfl, vSl_ok h2⟩ | exact h2.elim) (fun _ _ z => z) (vE_ok mC lo h1)) (fun _ _ z => z) (vE_ok mC a h)
  | .slU m a hi, _, _, _, _, h => wpE_mono mC a _ _ _ _ _ _ (fun x M1 h1 => wpE_mono mC hi _ _ _ _ _ _ (fun i M2 h2 => by
      cases i <;> first | exact ⟨_, rfl, vSl_ok h2⟩ | exact h2.elim) (fun _ _ z => z) (vE_ok mC hi h1)) (fun _ _ z => z) (vE_ok mC a h)
  | .rv m a, _, _, _, _, h => wpE_mono mC a _ _ _ _ _ _ (fun x M1 h1 => vRv_ok h1) (fun _ _ z => z) (vE_ok mC a h)
  | .isi T a, _, _, _, _, h => wpE_mono mC a _ _ _ _ _ _ (fun x M1 h1 => isi_of h1.1.1 h1.1.2 h1.2) (fun _ _ z => z) (vE_ok mC a h)
  | .bi b es, _, _, _, _, h => wpEs_mono mC es _ _ _ _ _ _ (fun ds M1 h1 => vBi_ok h1) (fun _ _ z => z) (vEs_ok mC es h)
  | .mt b o es, _, _, _, _, h => wpE_mono mC o _ _ _ _ _ _ (fun x M1 h1 => ⟨vTy_ok h1.1, wpEs_mono mC es _ _ _ _ _ _ (fun ds M2 h2 => vMt_ok h2) (fun _ _ z => z) (vEs_ok mC es h1.2)⟩) (fun _ _ z => z) (vE_ok mC o h)
  | .fld c f o, _, _, _, _, h => wpE_mono mC o _ _ _ _ _ _ (fun x M1 h1 => vFld_ok h1) (fun _ _ z => z) (vE_ok mC o h)
  | .call f es, _, _, _, _, h => vEs_ok mC es h
  | .meth c m f o es, _, _, _, _, h => wpE_mono mC o _ _ _ _ _ _ (fun x M1 h1 => by
      obtain ⟨a, fs, e, h2, h3⟩ := vIns_ok h1
      exact ⟨a, fs, e, h2, vEs_ok mC es h3⟩) (fun _ _ z => z) (vE_ok mC o h)
  | .new c f es, _, _, _, _, h => vEs_ok mC es h
  | .comp m own k .seq ies conds elt, ρ, _, _, _, h => wpHd_mono mC ies _ _ _ _ _ _ (fun x M1 h1 => itemsO.mono (fun ds G M1 h2 => by
      obtain ⟨h2, h3⟩ := h2
      rw [wipeK_eq] at h3
      unfold vComp at h3
      exact ⟨h2, h3⟩) (vItems_ok h1)) (fun _ _ z => z) (vHd_ok mC ies h)
  | .comp m own k .rng ies conds elt, ρ, _, _, _, h => wpEs_mono mC ies _ _ _ _ _ _ (fun x M1 h1 => rngO.mono (fun ds G M1 h2 => by
      obtain ⟨h2, h3⟩ := h2
      rw [wipeK_eq] at h3
      unfold vComp at h3
      exact ⟨h2, h3⟩) (vRng_ok h1)) (fun _ _ z => z) (vEs_ok mC ies h)
  | .comp m own k .en ies conds elt, ρ, _, _, _, h => wpEs_mono mC ies _ _ _ _ _ _ (fun x M1 h1 => enO.mono (fun ds G M1 h2 => by
      obtain ⟨h2, h3⟩ := h2
      rw [wipeK_eq] at h3
      unfold vComp at h3
      exact ⟨h2, h3⟩) (vEnm_ok h1)) (fun _ _ z => z) (vEs_ok mC ies h)
  | .comp m own k .zp ies conds elt, ρ, _, _, _, h => wpEs_mono mC ies _ _ _ _ _ _ (fun x M1 h1 => zpO.mono (fun ds G M1 h2 => by
      obtain ⟨h2, h3⟩ := h2
      rw [wipeK_eq] at h3
      unfold vComp at h3
      exact ⟨h2, h3⟩) (vZip_ok h1)) (fun _ _ z => z) (vEs_ok mC ies h)
  | .trg1 a, _, _, _, _, h => wpE_mono mC a _ _ _ _ _ _ (fun x M1 h1 => by
      cases x <;> first | exact h1 | exact h1.elim) (fun _ _ z => z) (vE_ok mC a h)
  | .lrg1 m a, _, _, _, _, h => wpE_mono mC a _ _ _ _ _ _ (fun x M1 h1 => by
      cases x <;> first | exact h1 | exact h1.elim) (fun _ _ z => z) (vE_ok mC a h)
  | .trg2 a b, _, _, _, _, h => wpE_mono mC a _ _ _ _ _ _ (fun x M1 h1 => wpE_mono mC b _ _ _ _ _ _ (fun y M2 h2 => by
      obtain ⟨i, j, rfl, rfl, q⟩ := vI2_ok h2
      exact q) (fun _ _ z => z) (vE_ok mC b h1)) (fun _ _ z => z) (vE_ok mC a h)
  | .dsp kvs, _, _, _, _, h => vPs_ok mC kvs h
theorem vEs_ok (mC : ∀ j, MonoF (C j)) : ∀ (es : List Ex) {ρ : Env} {M : Mp} {Q : List D → Mp → Prop} {X : KX}, vEs C es ρ M Q X → wpEs C C es ρ M Q X
  | [], _, _, _, _, h => h
  | e :: es, _, _, _, _, h => wpE_mono mC e _ _ _ _ _ _ (fun x M1 h1 => vEs_ok mC es h1) (fun _ _ z => z) (vE_ok mC e h)
theorem vHd_ok (mC : ∀ j, MonoF (C j)) : ∀ (es : List Ex) {ρ : Env} {M : Mp} {Q : KQ} {X : KX}, vHd C es ρ M Q X → wpHd C C es ρ M Q X
  | [], _, _, _, _, h => h.elim
  | e :: es, _, _, _, _, h => vE_ok mC e h
theorem vPs_ok (mC : ∀ j, MonoF (C j)) : ∀ (es : List Ex) {ρ : Env} {M : Mp} {Q : List (D × D) → Mp → Prop} {X : KX}, vPs C es ρ M Q X → wpPs C C es ρ M Q X
  | [], _, _, _, _, h => h
  | [_], _, _, _, _, h => h
  | k :: v :: r, _, _, _, _, h => wpE_mono mC k _ _ _ _ _ _ (fun x M1 h1 => wpE_mono mC v _ _ _ _ _ _ (fun y M2 h2 => vPs_ok mC r h2) (fun _ _ z => z) (vE_ok mC v h1)) (fun _ _ z => z) (vE_ok mC k h)
end
end
end TT
set_option Elab.async false
set_option linter.all false
set_option maxRecDepth 100000
set_option maxHeartbeats 2000000
/-! VC: statements, defs, rules for loops. -/
namespace TT
open PySem PySem.Spec PyProof.Rows L2
section
variable (C : Nat → AF)
def vIt (ik : ItK) (ies : List Ex) (ρ : Env) (M : Mp) (k : List D → (Mp → Prop) → Mp → Prop) (X : KX) : Prop := match ik with
  | .seq => vHd C ies ρ M (fun x M1 => vItems x M1 k) X
  | .rng => vEs C ies ρ M (fun xs M1 => vRng xs M1 k) X
  | .en => vEs C ies ρ M (fun xs M1 => vEnm xs M1 k) X
  | .zp => vEs C ies ρ M (fun xs M1 => vZip xs M1 k) X
mutual
def vS : Sm → AEnds → Env → Mp → Prop
  | .asg k e, A, ρ, M => vE C e ρ M (fun d M1 => tgK ρ k d fun ρ' => A.nx ρ' M1) (fun c M1 => A.ex c ρ M1)
  | .asgF i c f e o, A, ρ, M => vE C e ρ M (fun d M1 => (match d with
    | .tup [d1, d2] => setK ρ i (some d1) fun ρ' => vE C o ρ' M1 (fun x M2 => vIns c x M2 fun a fs => fs.length < 1000 ∧ A.nx ρ' (mset M2 a (.ins c (putA f d2 fs)))) (fun c M1 => A.ex c ρ' M1)
    | _ => False)) (fun c M1 => A.ex c ρ M1)
  | .setF c f e o, A, ρ, M => vE C e ρ M (fun d M1 => vE C o ρ M1 (fun x M2 => vIns c x M2 fun a fs => fs.length < 1000 ∧ A.nx ρ (mset M2 a (.ins c (putA f d fs)))) (fun c M1 => A.ex c ρ M1)) (fun c M1 => A.ex c ρ M1)
  | .setI e o i, A, ρ, M => vE C e ρ M (fun d M1 => vE C o ρ M1 (fun x M2 => vE C i ρ M2 (fun y M3 => vSet x y d M3 (A.nx ρ)) (fun c M1 => A.ex c ρ M1)) (fun c M1 => A.ex c ρ M1)) (fun c M1 => A.ex c ρ M1)
  | .aug i e, A, ρ, M => (match getE ρ i with
    | some x => (match x with
      | .int a => vE C e ρ M (fun d M1 => (match d with
        | .int b => setK ρ i (some (.int (a + b))) fun ρ' => A.nx ρ' M1
        | _ => False)) (fun c M1 => A.ex c ρ M1)
      | _ => False)
    | none => False)
  | .ex e, A, ρ, M => vE C e ρ M (fun _ M1 => A.nx ρ M1) (fun c M1 => A.ex c ρ M1)
  | .ret e, A, ρ, M => vE C e ρ M A.rt (fun c M1 => A.ex c ρ M1)
  | .retN, A, _, M => A.rt .non M
  | .ite c a b, A, ρ, M => vE C c ρ M (fun d M1 => vBr d (vB a A ρ M1) (vB b A ρ M1)) (fun c M1 => A.ex c ρ M1)
  | .whl c b, A, ρ, M => vWhile C c b A ρ M
  | .forr k ik ies b, A, ρ, M => vIt C ik ies ρ M (fun ds G M1 => vFor C k b G ds A ρ M1) (fun c M1 => A.ex c ρ M1)
  | .raise c, A, ρ, M => A.ex c ρ M
  | .tri cs b s, A, ρ, M => vB b { nx := A.nx, rt := A.rt, ex := fun c ρ' M' => c ∈ cs ∧ vB s { nx := A.nx, rt := A.rt, ex := fun _ _ _ => False } ρ' M' } ρ M
  | .trk i j cs b, A, ρ, M => vB b { nx := A.nx, rt := A.rt, ex := fun c ρ' M' => c ∈ cs ∧ i < ρ'.length ∧ setK ρ' j (some (.str (kindsOf c))) fun ρ2 => setK ρ2 i none fun ρ3 => A.nx ρ3 M' } ρ M
  | .pas, A, ρ, M => A.nx ρ M
def vB : List Sm → AEnds → Env → Mp → Prop
  | [], A, ρ, M => A.nx ρ M
  | s :: r, A, ρ, M => vS s { nx := fun ρ' M' => vB r A ρ' M', rt := A.rt, ex := A.ex } ρ M
end
end
section
variable {C : Nat → AF}
theorem vIt_ok (mC : ∀ j, MonoF (C j)) {ik : ItK} {ies : List Ex} {ρ : Env} {M : Mp} {k : List D → (Mp → Prop) → Mp → Prop} {X : KX} (h : vIt C ik ies ρ M k X) : wpI C C ik ies ρ M k X := by
  cases ik with
  | seq => exact wpHd_mono mC ies _ _ _ _ _ _ (fun x M1 h1 => vItems_ok h1) (fun _ _ z => z) (vHd_ok mC ies h)
  | rng => exact wpEs_mono mC ies _ _ _ _ _ _ (fun x M1 h1 => vRng_ok h1) (fun _ _ z => z) (vEs_ok mC ies h)
  | en => exact wpEs_mono mC ies _ _ _ _ _ _ (fun x M1 h1 => vEnm_ok h1) (fun _ _ z => z) (vEs_ok mC ies h)
  | zp => exact wpEs_mono mC ies _ _ _ _ _ _ (fun x M1 h1 => vZip_ok h1) (fun _ _ z => z) (vEs_ok mC ies h)
mutual
theorem vS_ok (mC : ∀ j, MonoF (C j)) : ∀ (s : Sm) {A : AEnds} {ρ : Env} {M : Mp}, vS C s A ρ M → wpS C C s A ρ M
  | .asg k e, A, ρ, M, h => wpE_mono mC e _ _ _ _ _ _ (fun d M1 h1 => by
      obtain ⟨ρ', e, q⟩ := tgK_ok h1
      show (match setTg ρ k d with
        | some ρ' => A.nx ρ' M1
        | none => False)
      rw [e]; exact q) (fun _ _ z => z) (vE_ok mC e h)
  | .asgF i c f e o, A, ρ, M, h => wpE_mono mC e _ _ _ _ _ _ (fun d M1 h1 => by
      split at h1
      · rw [setK_eq] at h1
        exact wpE_mono mC o _ _ _ _ _ _ (fun x M2 h2 => vIns_ok h2) (fun _ _ z => z) (vE_ok mC o h1)
      · exact h1.elim) (fun _ _ z => z) (vE_ok mC e h)
  | .setF c f e o, A, ρ, M, h => wpE_mono mC e _ _ _ _ _ _ (fun d M1 h1 => wpE_mono mC o _ _ _ _ _ _ (fun x M2 h2 => vIns_ok h2) (fun _ _ z => z) (vE_ok mC o h1)) (fun _ _ z => z) (vE_ok mC e h)
  | .setI e o i, A, ρ, M, h => wpE_mono mC e _ _ _ _ _ _ (fun d M1 h1 => wpE_mono mC o _ _ _ _ _ _ (fun x M2 h2 => wpE_mono mC i _ _ _ _ _ _ (fun y M3 h3 => vSet_ok h3) (fun _ _ z => z) (vE_ok mC i h2)) (fun _ _ z => z) (vE_ok mC o h1)) (fun _ _ z => z) (vE_ok mC e h)
  | .aug i e, A, ρ, M, h => by
    have h' : (match getE ρ i with
      | some x => (match x with
        | .int a => vE C e ρ M (fun d M1 => (match d with
          | .int b => setK ρ i (some (.int (a + b))) fun ρ' => A.nx ρ' M1
          | _ => False)) (fun c M1 => A.ex c ρ M1)
        | _ => False)
      | none => False) := h
    rw [getE_eq] at h'
    show (match getV ρ i with
      | some (.int a) => wpE C C e ρ M (fun d M1 => match d with
        | .int b => A.nx (ρ.set i (some (.int (a + b)))) M1
        | _ => False) (exOf A ρ)
      | _ => False)
    cases g : getV ρ i with
    | none => rw [g] at h'; exact h'.elim
    | some x =>
      rw [g] at h'
      cases x with
      | int a => exact wpE_mono mC e _ _ _ _ _ _ (fun d M1 h1 => by
          cases d with
          | int b =>
            have h2 : setK ρ i (some (.int (a + b))) fun ρ' => A.nx ρ' M1 := h1
            rw [setK_eq] at h2; exact h2
          | _ => exact h1.elim) (fun _ _ z => z) (vE_ok mC e h')
      | _ => exact h'.elim
  | .ex e, _, _, _, h => vE_ok mC e h
  | .ret e, _, _, _, h => vE_ok mC e h
  | .retN, _, _, _, h => h
  | .ite c a b, A, ρ, M, h => wpE_mono mC c _ _ _ _ _ _ (fun d M1 h1 => by
      rcases vBr_ok h1 with ⟨rfl, h5⟩ | ⟨rfl, h5⟩
      · exact vB_ok mC a h5
      · exact vB_ok mC b h5) (fun _ _ z => z) (vE_ok mC c h)
  | .whl c b, A, ρ, M, h => by
    have h' : vWhile C c b A ρ M := h
    unfold vWhile at h'; exact h'
  | .forr k ik ies b, A, ρ, M, h => wpI_mono mC _ _ _ _ _ _ (fun ds G M1 h1 => by unfold vFor at h1; exact h1) (fun _ _ z => z) (vIt_ok mC h)
  | .raise c, _, _, _, h => h
  | .tri cs b s, A, ρ, M, h => by
    have hh := vB_ok mC b (show vB C b { nx := A.nx, rt := A.rt, ex := fun c ρ' M' => c ∈ cs ∧ vB C s { nx := A.nx, rt := A.rt, ex := fun _ _ _ => False } ρ' M' } ρ M from h)
    refine wpB_mono mC b _ _ _ _ ?_ hh
    exact ⟨fun _ _ z => z, fun _ _ z => z, fun c ρ' M' z => ⟨z.1, vB_ok mC s z.2⟩⟩
  | .trk i j cs b, A, ρ, M, h => by
    have hh := vB_ok mC b (show vB C b { nx := A.nx, rt := A.rt, ex := fun c ρ' M' => c ∈ cs ∧ i < ρ'.length ∧ setK ρ' j (some (.str (kindsOf c))) fun ρ2 => setK ρ2 i none fun ρ3 => A.nx ρ3 M' } ρ M from h)
    refine wpB_mono mC b _ _ _ _ ?_ hh
    refine ⟨fun _ _ z => z, fun _ _ z => z, fun c ρ' M' z => ⟨z.1, z.2.1, ?_⟩⟩
    have z2 := z.2.2
    rw [setK_eq, setK_eq] at z2
    exact z2
  | .pas, _, _, _, h => h
theorem vB_ok (mC : ∀ j, MonoF (C j)) : ∀ (b : List Sm) {A : AEnds} {ρ : Env} {M : Mp}, vB C b A ρ M → wpB C C b A ρ M
  | [], _, _, _, h => h
  | [s], A, ρ, M, h => wpS_mono mC s _ _ _ _ ⟨fun _ _ z => z, fun _ _ z => z, fun _ _ _ z => z⟩ (vS_ok mC s h)
  | s :: t :: r, A, ρ, M, h => by
    have hh := vS_ok mC s (show vS C s { nx := fun ρ' M' => vB C (t :: r) A ρ' M', rt := A.rt, ex := A.ex } ρ M from h)
    refine wpS_mono mC s _ _ _ _ ?_ hh
    exact ⟨fun _ _ z => vB_ok mC (t :: r) z, fun _ _ z => z, fun _ _ _ z => z⟩
end
end
/-! ### calls, ends -/
def endV (Q : KQ) (X : KX) : AEnds := { nx := fun _ M' => vEnd Q .non M', rt := vEnd Q, ex := fun c _ M' => vEndX X c M' }
theorem call_v {T : Nat → Fn} {N n j : Nat} {ds : List D} {M : Mp} {Q : KQ} {X : KX} {np nn : Nat} {b : List Sm} {ρ : Env} (hN : N = n + 1) (hT : T j = ⟨np, nn, b⟩) (hl : ds.length = np) (hρ : ds.map some ++ List.replicate (nn - ds.length) none = ρ)
    (h : vB (callI T n) b (endV Q X) ρ M) : callI T N j ds M Q X := by
  subst hN
  subst hρ
  show ds.length = (T j).np ∧ wpB (callI T n) (callI T n) (T j).body (endF Q X) (ds.map some ++ List.replicate ((T j).nn - ds.length) none) M
  rw [hT]
  have hh := vB_ok (callI_mono n) b h
  refine ⟨hl, wpB_mono (callI_mono n) b _ _ _ _ ?_ hh⟩
  refine ⟨fun ρ M' z => ?_, fun d M' z => ?_, fun c ρ M' z => ?_⟩
  · have z' : vEnd Q .non M' := z
    unfold vEnd at z'; exact z'
  · have z' : vEnd Q d M' := z
    unfold vEnd at z'; exact z'
  · have z' : vEndX X c M' := z
    unfold vEndX at z'; exact z'
section
variable {Q : KQ} {X : KX} {d : D} {M : Mp} {c : Str}
theorem ve (h : Q d M) : vEnd Q d M := by unfold vEnd; exact ⟨d, M, .refl, h⟩
theorem ve_drop (p : Addr) (h : vEnd Q d (mdel M p)) : vEnd Q d M := by
  unfold vEnd at *
  obtain ⟨d', M', z, q⟩ := h
  exact ⟨d', M', .drop p z, q⟩
theorem ve_freeze (p : Addr) {ds : List D} (e : M p = some (.lst ds)) (h : vEnd Q (d.sub p ds) (mdel M p)) : vEnd Q d M := by
  unfold vEnd at *
  obtain ⟨d', M', z, q⟩ := h
  exact ⟨d', M', .freeze p e z, q⟩
theorem vx (h : X c M) : vEndX X c M := by unfold vEndX; exact ⟨.non, M, .refl, h⟩
theorem vx_drop (p : Addr) (h : vEndX X c (mdel M p)) : vEndX X c M := by
  unfold vEndX at *
  obtain ⟨d', M', z, q⟩ := h
  exact ⟨d', M', .drop p z, q⟩
variable {u : Env → Mp → Prop} {ρ : Env}
theorem vd (h : u ρ M) : vdn u ρ M := by unfold vdn; exact dn.refl h
theorem vd_drop (p : Addr) (h : vdn u ρ (mdel M p)) : vdn u ρ M := by
  unfold vdn at *
  obtain ⟨ρ', M', z, q⟩ := h
  exact ⟨ρ', M', .drop p z, q⟩
theorem vd_freeze (p : Addr) {ds : List D} (e : M p = some (.lst ds)) (h : vdn u (Env.sub p ds ρ) (mdel M p)) : vdn u ρ M := by
  unfold vdn at *
  obtain ⟨ρ', M', z, q⟩ := h
  exact ⟨ρ', M', .freeze p e z, q⟩
end
/-! ### branches -/
theorem vif {b : Bool} {P Q : Prop} (h1 : b = true → P) (h2 : b = false → Q) : vTest b P Q := by
  unfold vTest
  cases b with
  | true => exact h1 rfl
  | false => exact h2 rfl
theorem vif_t {b : Bool} {P Q : Prop} (h : b = true) (h1 : P) : vTest b P Q := vif (fun _ => h1) fun e => by rw [h] at e; cases e
theorem vif_f {b : Bool} {P Q : Prop} (h : b = false) (h1 : Q) : vTest b P Q := vif (fun e => by rw [h] at e; cases e) fun _ => h1
theorem vifp {p : Prop} {dp : Decidable p} {P Q : Prop} (h1 : p → P) (h2 : ¬ p → Q) : vTest (decide p) P Q := vif (fun h => h1 (of_decide_eq_true h)) fun h => h2 (of_decide_eq_false h)
/-! ### loops -/
section
variable {T : Nat → Fn} {n : Nat} {k : TgK} {b : List Sm} {G : Mp → Prop} {A : AEnds} {ρ : Env} {M : Mp} {α : Type}
theorem vfor {ds : List D} (enc : α → D) (I : List α → Env → Mp → Prop) (as : List α) (hds : ds = as.map enc) (h0 : I as ρ M) (hG : ∀ as ρ M, I as ρ M → G M) (hn : ∀ ρ M, I [] ρ M → A.nx ρ M)
    (hc : ∀ a as ρ M, I (a :: as) ρ M → tgK ρ k (enc a) fun ρ' => vB (callI T n) b { nx := vdn (I as), rt := A.rt, ex := A.ex } ρ' M) : vFor (callI T n) k b G ds A ρ M := by
  unfold vFor
  subst hds
  induction as generalizing ρ M with
  | nil => exact ⟨hG _ _ _ h0, hn _ _ h0⟩
  | cons a as ih =>
    refine ⟨hG _ _ _ h0, ?_⟩
    obtain ⟨ρ', e, q⟩ := tgK_ok (hc a as ρ M h0)
    rw [e]
    have hh := vB_ok (callI_mono n) b q
    refine wpB_mono (callI_mono n) b _ _ _ _ ?_ hh
    refine ⟨fun ρ2 M2 z => ?_, fun _ _ z => z, fun _ _ _ z => z⟩
    have z' : vdn (I as) ρ2 M2 := z
    unfold vdn at z'
    exact dn.mono (fun ρ3 M3 y => ih y) z'
theorem vfor0 (h : G M) (h1 : A.nx ρ M) : vFor (callI T n) k b G [] A ρ M := by unfold vFor; exact ⟨h, h1⟩
theorem vwhile {c : Ex} (I : Nat → Env → Mp → Prop) (n0 : Nat) (h0 : I n0 ρ M)
    (hc : ∀ m ρ M, I m ρ M → vE (callI T n) c ρ M (fun d M1 => vBr d (vB (callI T n) b { nx := vdn fun ρ' M' => ∃ m', m' < m ∧ I m' ρ' M', rt := A.rt, ex := A.ex } ρ M1) (A.nx ρ M1)) (fun c M1 => A.ex c ρ M1)) : vWhile (callI T n) c b A ρ M := by
  unfold vWhile
  have key : ∀ N m ρ M, I m ρ M → m < N → wpWhile (wpE (callI T n) (callI T n) c) (wpB (callI T n) (callI T n) b) N A ρ M := by
    intro N
    induction N with
    | zero => exact fun _ _ _ _ h => absurd h (Nat.not_lt_zero _)
    | succ N ih =>
      intro m ρ M hI hm
      refine wpE_mono (callI_mono n) c _ _ _ _ _ _ (fun d M1 h1 => ?_) (fun _ _ z => z) (vE_ok (callI_mono n) c (hc m ρ M hI))
      rcases vBr_ok h1 with ⟨rfl, h3⟩ | ⟨rfl, h3⟩
      · have hh := vB_ok (callI_mono n) b h3
        refine wpB_mono (callI_mono n) b _ _ _ _ ?_ hh
        refine ⟨fun ρ2 M2 z => ?_, fun _ _ z => z, fun _ _ _ z => z⟩
        have z' : vdn (fun ρ' M' => ∃ m', m' < m ∧ I m' ρ' M') ρ2 M2 := z
        unfold vdn at z'
        exact dn.mono (fun ρ3 M3 ⟨m', y1, y2⟩ => ih m' _ _ y2 (by omega)) z'
      · exact h3
  exact ⟨n0 + 1, key _ _ _ _ h0 (Nat.lt_succ_self _)⟩
theorem vcomp {ds : List D} {elt : Ex} {conds : List Ex} {K : List D → Mp → Prop} (enc : α → D) (I : List α → List D → Mp → Prop) (as : List α) (hds : ds = as.map enc) (h0 : I as [] M) (hG : ∀ as acc M, I as acc M → G M) (hn : ∀ acc M, I [] acc M → K acc M)
    (hc : ∀ a as acc M, I (a :: as) acc M → tgK ρ k (enc a) fun ρ' => match conds with
      | [] => vE (callI T n) elt ρ' M (fun y M2 => I as (acc ++ [y]) M2) noX
      | c :: _ => vE (callI T n) c ρ' M (fun d M1 => vBr d (vE (callI T n) elt ρ' M1 (fun y M2 => I as (acc ++ [y]) M2) noX) (I as acc M1)) noX) : vComp (callI T n) k conds elt G K ds ρ M := by
  unfold vComp
  subst hds
  have hm : ∀ t, wpC (callI T n) (callI T n) conds = some t → MonoE t := wpC_mono (callI_mono n) conds
  have key : ∀ as acc M, I as acc M → wpComp ρ k (wpC (callI T n) (callI T n) conds) (wpE (callI T n) (callI T n) elt) G K (as.map enc) acc M := by
    intro as
    induction as with
    | nil => exact fun acc M h => ⟨hG _ _ _ h, hn _ _ h⟩
    | cons a as ih =>
      intro acc M h
      refine ⟨hG _ _ _ h, ?_⟩
      obtain ⟨ρ', e, q⟩ := tgK_ok (hc a as acc M h)
      rw [e]
      cases conds with
      | nil => exact wpE_mono (callI_mono n) elt _ _ _ _ _ _ (fun y M2 z => ih _ _ z) (fun _ _ z => z) (vE_ok (callI_mono n) elt q)
      | cons c cs =>
        refine wpE_mono (callI_mono n) c _ _ _ _ _ _ (fun d M1 z => ?_) (fun _ _ z => z) (vE_ok (callI_mono n) c q)
        rcases vBr_ok z with ⟨rfl, h5⟩ | ⟨rfl, h5⟩
        · exact wpE_mono (callI_mono n) elt _ _ _ _ _ _ (fun y M2 z => ih _ _ z) (fun _ _ z => z) (vE_ok (callI_mono n) elt h5)
        · exact ih _ _ h5
  exact key as [] M h0
/-- a comprehension that maps; nothing is changed -/
theorem vmap {ds : List D} {elt : Ex} {K : List D → Mp → Prop} (enc f : α → D) (as : List α) (hds : ds = as.map enc) (hG : G M) (hK : K (as.map f) M)
    (hc : ∀ a ∈ as, ∀ Q : KQ, Q (f a) M → tgK ρ k (enc a) fun ρ' => vE (callI T n) elt ρ' M Q noX) : vComp (callI T n) k [] elt G K ds ρ M := by
  refine vcomp enc (fun as' acc M' => M' = M ∧ acc ++ as'.map f = as.map f ∧ ∀ a ∈ as', a ∈ as) as hds ⟨rfl, rfl, fun _ h => h⟩ (fun _ _ _ h => h.1 ▸ hG) (fun acc M' h => ?_) fun a as' acc M' h => ?_
  · obtain ⟨rfl, h2, _⟩ := h
    rw [List.map_nil, List.append_nil] at h2
    rw [h2]; exact hK
  · obtain ⟨rfl, h2, h3⟩ := h
    exact hc a (h3 a (List.mem_cons_self ..)) _ ⟨rfl, by rw [← h2, List.append_assoc] <;> rfl, fun x hx => h3 x (List.mem_cons_of_mem _ hx)⟩
theorem tgK_mono {ρ : Env} {k : TgK} {d : D} {u u' : Env → Prop} (hu : ∀ ρ, u ρ → u' ρ) (z : tgK ρ k d u) : tgK ρ k d u' := by
  have set1 : ∀ (ρ : Env) (i : Nat) (d : Option D) (u u' : Env → Prop), (∀ ρ, u ρ → u' ρ) → setK ρ i d u → setK ρ i d u' := fun ρ i d u u' hu z => by rw [setK_eq] at *; exact hu _ z
  have sets : ∀ (is : List Nat) (ds : List D) (ρ : Env) (u u' : Env → Prop), (∀ ρ, u ρ → u' ρ) → setsK ρ is ds u → setsK ρ is ds u' := by
    intro is
    induction is with
    | nil =>
      intro ds ρ u u' hu z
      cases ds with
      | nil => exact hu _ z
      | cons => exact z
    | cons i is ih =>
      intro ds ρ u u' hu z
      cases ds with
      | nil => exact z
      | cons d ds => exact set1 _ _ _ _ _ (fun ρ' y => ih ds ρ' u u' hu y) z
  unfold tgK at *
  cases k with
  | one i => exact set1 _ _ _ _ _ hu z
  | tup is => cases d with
    | tup ds => exact sets _ _ _ _ _ hu z
    | lst ds => exact sets _ _ _ _ _ hu z
    | _ => exact z
/-- .. that sifts and maps -/
theorem vsift {ds : List D} {elt c : Ex} {K : List D → Mp → Prop} (enc f : α → D) (p : α → Bool) (as : List α) (hds : ds = as.map enc) (hG : G M) (hK : K ((as.filter p).map f) M)
    (hc : ∀ a ∈ as, tgK ρ k (enc a) fun ρ' => (∀ Q : KQ, Q (.bl (p a)) M → vE (callI T n) c ρ' M Q noX) ∧ (p a = true → ∀ Q : KQ, Q (f a) M → vE (callI T n) elt ρ' M Q noX)) : vComp (callI T n) k [c] elt G K ds ρ M := by
  refine vcomp enc (fun as' acc M' => M' = M ∧ acc ++ (as'.filter p).map f = (as.filter p).map f ∧ ∀ a ∈ as', a ∈ as) as hds ⟨rfl, rfl, fun _ h => h⟩ (fun _ _ _ h => h.1 ▸ hG) (fun acc M' h => ?_) fun a as' acc M' h => ?_
  · obtain ⟨rfl, h2, _⟩ := h
    rw [List.filter_nil, List.map_nil, List.append_nil] at h2
    rw [h2]; exact hK
  · obtain ⟨rfl, h2, h3⟩ := h
    have ha := h3 a (List.mem_cons_self ..)
    have ht : ∀ x ∈ as', x ∈ as := fun x hx => h3 x (List.mem_cons_of_mem _ hx)
    refine tgK_mono (fun ρ' z => ?_) (hc a ha)
    refine z.1 _ ?_
    show vTest (p a) _ _
    unfold vTest
    cases hp : p a with
    | true =>
      rw [List.filter_cons_of_pos hp, List.map_cons] at h2
      exact z.2 hp _ ⟨rfl, by rw [← h2, List.append_assoc] <;> rfl, ht⟩
    | false =>
      rw [List.filter_cons_of_neg (by rw [hp]; exact Bool.false_ne_true)] at h2
      exact ⟨rfl, h2, ht⟩
end
end TT
set_option Elab.async false
set_option linter.all false
set_option maxRecDepth 100000
set_option maxHeartbeats 2000000
/-! TS: a def that is called while an exception is handled: a comprehension over a range, isinstance of the exception, the call. -/
namespace TT
open PySem PySem.Spec PyProof.Rows L2 L2H
section
variable {X : Cx} {pins : List (Addr × Obj)} {σ : L2.St} {H : Hp} {s : Shared} {pn' : List (Addr × Obj)}
theorem ok_pn (ok : X.Ok) : ({ X with pn := pn' } : Cx).Ok :=
  { mod := ok.mod, kind := ok.kind, glob := ok.glob, blt := ok.blt, above := ok.above, inj := ok.inj, has := ok.has, cab := ok.cab, hd := ok.hd, frames := ok.frames
    stk := ok.stk, exf := ok.exf, bs := ok.bs, bsz := ok.bsz, noex := ok.noex, exfs := ok.exfs, funs := ok.funs, frf := ok.frf }
/-- the same state with other things pinned -/
theorem inv_pn (J : Inv X pins σ H s) (hp : ∀ p ∈ pn' ++ pins, s.heap.get? p.1 = some p.2 ∧ H p.1 = none ∧ p.1 ≠ X.env.locals ∧ p.1 ∉ X.fs ∧ ∀ v, p.2.data ≠ .cell v) : Inv { X with pn := pn' } pins σ H s :=
  { ok := ok_pn J.ok, os := J.os, bare := J.bare, base := J.base, loc := J.loc, cell := J.cell, free := J.free, freeC := J.freeC, pin := hp, hok := J.hok, len := J.len }
theorem inv_pn0 (J : Inv { X with pn := pn' } pins σ H s) (hX : X.pn = []) : Inv X pins σ H s :=
  { ok := ok_pn (X := { X with pn := pn' }) (pn' := X.pn) J.ok, os := J.os, bare := J.bare, base := J.base, loc := J.loc, cell := J.cell, free := J.free, freeC := J.freeC
    pin := fun p hp => J.pin p (List.mem_append_right _ (by rw [hX] at hp; simpa using hp)), hok := J.hok, len := J.len }
end
section
variable {X : Cx}
/-- a list comprehension while an exception is handled -/
theorem pe_lcH {elt tg iter : Expr} {ifs : List Expr} {scope : Scope} {own : List (Str × Nat)} {pos : Pos} {wi : TI} {g : TG} {tt : L2.TT} {te : TE} (hot : HotC X) (nd : X.N.Nodup) (hi : PIH X tg iter wi) (bk : BlkOk X.N X.env.scope scope own)
    (hg : ∀ (s : Shared) (H : Hp) (C : Addr) (cl : List (Str × Addr)) (fp : List Addr), PG (X.blk s H scope (compEnvC scope cl C X.env) fp) tg g)
    (ht : ∀ (s : Shared) (H : Hp) (C : Addr) (cl : List (Str × Addr)) (fp : List Addr), PTs (X.blk s H scope (compEnvC scope cl C X.env) fp) ifs tt)
    (he : ∀ (s : Shared) (H : Hp) (C : Addr) (cl : List (Str × Addr)) (fp : List Addr), PE (X.blk s H scope (compEnvC scope cl C X.env) fp) elt te)
    (hs : ∀ x, foldedSetIterable iter X.env x = pure x) : PE X (.ListComp elt [⟨tg, iter, ifs, 0⟩] scope pos) (tLc wi g tt te (own.map (·.2))) := by
  refine ⟨fun pins s0 σ H Q I0 hw => ?_⟩
  rw [eval_ListComp]
  obtain ⟨pp, hot1, hpp⟩ := hot
  have hcl : ∀ y ∈ scope.names, y.2 = .free → ∃ c, X.env.cells.lookup y.1 = some c := fun y hy ey =>
    (bk.free y hy ey).elim (fun k => I0.ok.has _ (.inl k)) (fun k => I0.ok.has _ (.inr k))
  refine wpAny_comprehension_free (use := none) rfl hs (closure_ok hcl) bk.kind (fun y hy ey => by rw [bk.uniq y hy, ey]) ?_
  refine thn (hi.run pins s0 σ H _ I0 hw) fun xv s1 hx => thn hx fun itv s2 hh => ?_
  obtain ⟨it, fp, tn, J, H2, rfl, I2, T, st2, fo2, kq⟩ := hh
  refine wpAny_newObj_type (newEnv_comp ?_) (by show 0 ≤ sizeLine; decide)
  generalize eD : s2.heap.objs.size = Da
  have nD : H2 Da = none := I2.hok.fresh (Nat.le_of_eq eD)
  obtain ⟨Wt, ⟨m0, w0⟩, turn⟩ := kq Da nD
  generalize es3 : ({ s2 with heap := s2.heap.push { cls := .type "list", data := .seq ([] : List Value).toArray } } : Shared) = s3
  have hp3 : s3.heap = s2.heap.push { cls := .type "list", data := .seq ([] : List Value).toArray } := by rw [← es3]
  have I3 : Inv X pins σ (upd H2 Da (.lst [])) s3 := by
    rw [← es3]
    exact I2.laid (t' := s2.toks) (fun b o z => Heap.get?_push_of_some _ z) (Nat.le_of_eq eD) ⟨Nat.zero_le _, [], 0, .nil, by rw [← eD]; exact Heap.get?_push_size _ rfl⟩
  have below : ∀ b ∈ fp, b < s2.heap.objs.size := fun b hb => let ⟨_, z, _⟩ := T.obj _ _ st2 b hb; Heap.lt_size z
  have fo3 : ∀ b ∈ fp, FpOk X pins (upd H2 Da (.lst [])) b ∧ b < s3.heap.objs.size := fun b hb => by
    have lt := below b hb
    refine ⟨⟨?_, (fo2 b hb).2⟩, ?_⟩
    · rw [upd_ne (by rw [← eD]; exact Nat.ne_of_lt lt)]; exact (fo2 b hb).1
    · rw [hp3, Heap.size_push]; exact Nat.lt_succ_of_lt lt
  have st3 : tn 0 s3.heap := T.keep _ _ _ st2 fun b _ o z => by rw [hp3]; exact Heap.get?_push_of_some _ z
  have I4 := block_start I3 bk nd fo3
  have qg := hg s3 (upd H2 Da (.lst [])) s3.heap.objs.size (cellsFrom (s3.heap.objs.size + 1) scope.names (cloFrom X.env.cells scope.names [])) fp
  have qt := ht s3 (upd H2 Da (.lst [])) s3.heap.objs.size (cellsFrom (s3.heap.objs.size + 1) scope.names (cloFrom X.env.cells scope.names [])) fp
  have qe := he s3 (upd H2 Da (.lst [])) s3.heap.objs.size (cellsFrom (s3.heap.objs.size + 1) scope.names (cloFrom X.env.cells scope.names [])) fp
  have hpin := I3.pin pp (List.mem_append_left _ hpp)
  have hpfp : pp.1 ∉ fp := fun hb => (fo2 pp.1 hb).2.2.2.2.2 pp (List.mem_append_left _ hpp) rfl
  show codeAny _ _ (.compStart (.ListComp elt [⟨tg, iter, ifs, 0⟩] scope pos) 0 (.ref it) (.ref Da) (compEnvC scope (cellsFrom (s3.heap.objs.size + 1) scope.names (cloFrom X.env.cells scope.names [])) s3.heap.objs.size X.env)) (compPost _ _ _ none _ (.ref Da) s3.heap.objs.size) { s3 with heap := pushCells (s3.heap.push { cls := .type "dict", data := .dict #[] }) scope.names }
  have nfp : ∀ b ∈ fp, (upd H2 Da (.lst [])) b = none := fun b hb => (fo3 b hb).1.1
  generalize ece : compEnvC scope (cellsFrom (s3.heap.objs.size + 1) scope.names (cloFrom X.env.cells scope.names [])) s3.heap.objs.size X.env = ce at I4 qg qt qe ⊢
  have loc : ce.locals = s3.heap.objs.size := by subst ece; rfl
  generalize eH3 : upd H2 Da (.lst []) = H3 at I3 I4 qg qt qe w0 nfp fo3 hpin
  generalize es4 : ({ s3 with heap := pushCells (s3.heap.push { cls := .type "dict", data := .dict #[] }) scope.names } : Shared) = s4 at I4 ⊢
  have st4 : tn 0 s4.heap := T.keep _ _ _ st3 fun b _ o z => by rw [← es4]; exact pushCells_keeps _ _ _ _ (Heap.get?_push_of_some _ z)
  -- the exception's object stands through the loop
  have pinned : ∀ {σ' : L2.St} {H' : Hp} {s' : Shared}, Inv (X.blk s3 H3 scope ce fp) [] σ' H' s' → Inv { X.blk s3 H3 scope ce fp with pn := [pp] } [] σ' H' s' := fun {σ' H' s'} J' => by
    refine inv_pn J' fun q hq => ?_
    have eq : q = pp := by simpa using hq
    subst eq
    have lt3 := Heap.lt_size hpin.1
    have nfs : q.1 ∉ (X.blk s3 H3 scope ce fp).fs := fun hm => (List.mem_cons.mp (I3.stkSub q.1 hm)).elim hpin.2.2.1 hpin.2.2.2.1
    refine ⟨J'.base.keep q.1 q.2 hpin.1 hpin.2.1 nfs hpfp, J'.base.free q.1 q.2 hpin.1 hpin.2.1 hpfp, ?_, nfs, hpin.2.2.2.2⟩
    show q.1 ≠ ce.locals
    rw [loc]; exact Nat.ne_of_lt lt3
  have hotB : HotC { X.blk s3 H3 scope ce fp with pn := [pp] } := ⟨pp, hot1, by simp⟩
  have stat : ∀ {σ' : L2.St} {H' : Hp} {s' : Shared}, Inv (X.blk s3 H3 scope ce fp) [] σ' H' s' → (∀ b ∈ fp, H' b = none) → ∀ b ∈ fp, FpOk { X.blk s3 H3 scope ce fp with pn := [pp] } [] H' b := fun {σ' H' s'} J' hn b hb =>
    ⟨hn b hb, (J'.ok.exf b hb).1, J'.ok.exfs b hb, .inl hb, fun x c z => (J'.ok.exf b hb).2 x c z, fun q hq => by
      have eq : q = pp := by simpa using hq
      subst eq
      intro z
      exact hpfp (z ▸ hb)⟩
  have loop : codeAny (model X.prog X.w) X.A (.compLoop (.ListComp elt [⟨tg, iter, ifs, 0⟩] scope pos) 0 (.ref it) (.ref Da) ce) (compPost (model X.prog X.w) X.A X.xe none (EP X pins σ Q) (.ref Da) s3.heap.objs.size) s4 := by
    refine compLoop_any (fun n s' => ∃ i H', Inv (X.blk s3 H3 scope ce fp) [] (L2.wipe σ (own.map (·.2))) H' s' ∧ tn i s'.heap ∧ (∀ b ∈ fp, H' b = none) ∧ Wt i n H') ?_ m0 ⟨0, H3, I4, st4, nfp, w0⟩
    rintro n s5 ⟨i, H5, I5, st5, n5, w5⟩
    rcases turn i n H5 w5 with ⟨stop, qq⟩ | ⟨go, Nx, hNx, step⟩
    · have td := T.done { X.blk s3 H3 scope ce fp with pn := [pp] } rfl rfl rfl hotB i [] s5 _ H5 (fun _ _ => False) (pinned I5) (stat I5 n5) st5 stop
      refine thnF td fun r s6 ⟨hr, I6'⟩ => ?_
      subst hr
      have I6 : Inv (X.blk s3 H3 scope ce fp) [] (L2.wipe σ (own.map (·.2))) H5 s6 := inv_pn0 I6' rfl
      have I7 : Inv X pins σ H5 s6 := I3.call' (ch := fp) I6.os I6.base I6.hok I6.bare fun b hb => let f := (fo3 b hb).1; ⟨f.2.2.2.1, f.2.1, f.2.2.2.2.1, f.2.2.2.2.2⟩
      have nC : H5 s3.heap.objs.size = none := by
        have z : H5 ce.locals = none := I6.free
        rwa [loc] at z
      obtain ⟨m, hn, _⟩ := I6.loc
      have hn' : s6.heap.Ns ce.locals m := hn
      rw [loc] at hn'
      obtain ⟨f0, f1, f2, f3, f4, f5⟩ := I3.fpOk (H' := H5) (Nat.le_refl _) nC
      exact ⟨m, hn', fun h'' sb => ⟨.ref Da, H5, I7.turned (t' := s6.toks) (fun b o hb z => (sb.2 b hb).trans z) f0 f1 f3 f4 f5, rfl, qq⟩⟩
    · have ti := T.item { X.blk s3 H3 scope ce fp with pn := [pp] } rfl rfl rfl hotB i [] s5 _ H5 (fun _ _ => False) (pinned I5) (stat I5 n5) st5 go
      refine thnF ti fun r s6 ⟨u, hr, h6⟩ => ?_
      subst hr
      refine thnF h6 fun _ s7 ⟨x, H7, I7p, r7, y7, st7, n7⟩ => ?_
      have I7 : Inv (X.blk s3 H3 scope ce fp) [] (L2.wipe σ (own.map (·.2))) H7 s7 := inv_pn0 I7p rfl
      have fo7 : ∀ b ∈ fp, FpOk (X.blk s3 H3 scope ce fp) [] H7 b := fun b hb => let f := stat I7 n7 b hb; ⟨f.1, f.2.1, f.2.2.1, f.2.2.2.1, f.2.2.2.2.1, fun q hq => absurd (show q ∈ ([] : List (Addr × Obj)) ++ [] from hq) (by simp)⟩
      have I7' := I7.pinned fo7 (T.obj _ _ st7)
      refine thnF (qg.run _ s7 _ H7 x u _ I7' r7 (step x H7 y7)) fun _ s8 ⟨σ8, H8, I8, hw8, q8⟩ => ?_
      refine thnF (qt.run _ s8 σ8 H8 _ I8 q8) fun b s9 ⟨H9, I9, q9⟩ => ?_
      have fin : ∀ {s' : Shared} {H' : Hp}, Inv (X.blk s3 H3 scope ce fp) ([] ++ pinsAt fp s7.heap) σ8 H' s' → Nx H' → ∃ m, m < n ∧ ∃ i H', Inv (X.blk s3 H3 scope ce fp) [] (L2.wipe σ (own.map (·.2))) H' s' ∧ tn i s'.heap ∧ (∀ b ∈ fp, H' b = none) ∧ Wt i m H' := by
        intro s' H' J' nx
        obtain ⟨m', hm, w'⟩ := hNx H' nx
        have still : ∀ b ∈ fp, ∀ o, s7.heap.get? b = some o → s'.heap.get? b = some o ∧ H' b = none := fun b hb o z =>
          let k := J'.pin (b, o) (List.mem_append_right _ (List.mem_append_right _ (mem_pinsAt hb z)))
          ⟨k.1, k.2.1⟩
        have len8 : (L2.wipe σ (own.map (·.2))).length = σ8.length := by rw [← hw8, wipe_length]
        refine ⟨m', hm, i + 1, H', (J'.unpinned (pins := [])).weak len8 (fun j v z => ?_), T.keep _ _ _ st7 fun b hb o z => (still b hb o z).1, fun b hb => ?_, w'⟩
        · rw [← hw8] at z; exact (wipe_some z).1
        · obtain ⟨o, z, _⟩ := T.obj _ _ st7 b hb
          exact (still b hb o z).2
      cases b with
      | false =>
        simp only [Bool.false_eq_true, if_false] at q9 ⊢
        exact fin I9 q9
      | true =>
        simp only [if_true] at q9 ⊢
        refine thnF (qe.run _ s9 σ8 H9 _ I9 q9) fun z s10 ⟨yv, H10, I10, r10, acc, hD10, hz10, nx⟩ => ?_
        exact app_ok (X := X.blk s3 H3 scope ce fp) I10 hD10 hz10 r10 fun s11 I11 => fin I11 nx
  exact codeAny_compStart_list loop (T.self X.A 0 _ _ _ st4 loop)
end
end TT
set_option Elab.async false
set_option linter.all false
set_option maxRecDepth 100000
set_option maxHeartbeats 2000000
/-! TS2: the def that tells an exception's classes. -/
namespace TT
open PySem PySem.Spec PyProof.Rows L2 L2H
/-! ### isinstance of the exception -/
theorem call_isX {X : Cx} {a D : Addr} {oe : Obj} (C : ExcC X.K D) (hin : (a, oe) ∈ X.pn) (hz : Zc (.ref D) none oe) (hf : ∃ vs, oe.data = .fields vs) : CallR X (.builtin "isinstance") (rIsE X.K D a) := by
  intro pins s σ H xs us Q J rv ⟨c, cv, b, exs, hcv, hk, q⟩
  subst exs
  cases rv with
  | cons r1 rv =>
    cases rv with
    | cons r2 rv =>
      cases rv
      cases r1
      cases hcv _ r2
      have stands := (J.pin (a, oe) (List.mem_append_left _ hin)).1
      obtain ⟨vs, ev⟩ := hf
      have at_ : PySem.W.InstAt s.heap a oe D none := by
        obtain ⟨k1, k2, k3, k4⟩ := oe
        obtain ⟨z1, z2⟩ := hz
        dsimp only at z1 z2 ev
        subst z1 z2 ev
        exact ⟨stands, rfl, rfl, trivial⟩
      refine PySem.W.kia_one (PySem.W.handS_kitx_exc C.hg C.hk C.hs C.hd C.ha C.hn C.ht C.hm) J.kIn at_ hk (fun z => nomatch z) fun tk => ?_
      exact ⟨.bl b, H, J.kept (t' := tk) fun _ _ z => z, rfl, q⟩
def aIsX (i : Nat) (a : Addr) (b : Bool) : AE := fun ρ M Q _ => getV ρ i = some (.ref a) ∧ Q (.bl b) M
theorem aIsX.mono {i : Nat} {a : Addr} {b : Bool} : MonoE (aIsX i a b) := fun _ _ _ _ _ _ hq _ h => ⟨h.1, hq _ _ h.2⟩
section
variable {X : Cx} {W : WX} {i : Nat} {x y : Str} {a D : Addr} {cv : Value} {v : V} {b : Bool} {p p1 p2 pos : Pos}
theorem ae_isX (c : CallR X (.builtin "isinstance") (rIsE X.K D a)) (hg : Gl X "isinstance") (hm : X.mg "isinstance" = none) (hx : AEok X W (.Name x p1) (aVar i)) (hy : PE X (.Name y p2) (tC v)) (rv : ∀ w, RelV v w → w = cv) (hk : PySem.W.kitOne X.K (.ref D) cv = some b) :
    AEok X W (.Call (.Name "isinstance" p) [.Name x p1, .Name y p2] [] pos) (aIsX i a b) := by
  refine ⟨aIsX.mono, pe_imp (pe_callB c hg hm (by decide +kernel) (pa_cons hx.pe (pa_cons hy pa_nil))) ?_⟩
  rintro σ H Q ⟨F, ρ, M, r, he, e1, q⟩
  refine ⟨F, ρ, M, r, he, ?_⟩
  unfold aVar
  rw [e1]
  intro H1 F1 v1 s1 r1
  cases (show v1 = _ from r1)
  exact ⟨v, cv, b, rfl, rv, hk, (q.step s1).here s1.r rfl⟩
end
/-! ### a comprehension over range(n) -/
section
variable {X : Cx} {W : WX} {elt tg a : Expr} {ifs : List Expr} {scope : Scope} {own : List (Str × Nat)} {pos p rpos : Pos} {ta : AA} {k : TgK} {tc : Option AE} {te : AE} {m : Bool}
theorem ae_compH (hot : HotC X) (hN : X.N.Nodup) (hgr : Gl X "range") (hmr : X.mg "range" = none) (ha : AAok X W [a] ta) (ok : BlkOk X.N X.env.scope scope own) (ho : tgIn (own.map (·.2)) k = true) (mc : ∀ t, tc = some t → MonoE t) (me : MonoE te)
    (hg : ∀ (s : Shared) (H : Hp) (C : Addr) (cl : List (Str × Addr)) (fp : List Addr), PG (X.blk s H scope (compEnvC scope cl C X.env) fp) tg (gOf X.K k))
    (hct : ∀ (s : Shared) (H : Hp) (C : Addr) (cl : List (Str × Addr)) (fp : List Addr), CondOk (X.blk s H scope (compEnvC scope cl C X.env) fp) ifs tc)
    (he : ∀ (s : Shared) (H : Hp) (C : Addr) (cl : List (Str × Addr)) (fp : List Addr), AEok (X.blk s H scope (compEnvC scope cl C X.env) fp) W0 elt te) :
    AEok X W (.ListComp elt [⟨tg, .Call (.Name "range" p) [a] [] rpos, ifs, 0⟩] scope pos) (aComp m (own.map (·.2)) (aRng ta) k tc te) := by
  have hp := ha.plain
  rw [List.all_cons, Bool.and_eq_true] at hp
  have hi : PIH X tg (.Call (.Name "range" p) [a] [] rpos) (liftI X.K (aRng ta) W) := by
    have h0 := pi_range1H (tg := tg) (p := p) (pos := rpos) hgr hmr ha.pa (star_plain hp.1)
    refine ⟨fun pins s σ H R I q => h0.run pins s σ H R I ?_⟩
    obtain ⟨F, ρ, M, r, he, q⟩ := q
    refine ⟨F, ρ, M, r, he, ha.mono _ _ _ _ _ _ (fun ds M1 h1 => ?_) (fun c M1 h1 => h1) (ha.len _ _ _ _ q)⟩
    intro H1 F1 vs s1 r1
    obtain ⟨hl, h1⟩ := h1
    unfold rngO at h1; split at h1
    · obtain ⟨v, e1, rv⟩ := reps1 r1
      cases (show v = _ from rv)
      exact ⟨_, e1, h1.1.1, h1.1.2, h1.2 _ _ _ s1 walks_range⟩
    · cases hl
    · exact h1.elim
  exact ⟨aComp.mono (aRng.mono ha.mono) mc me, pe_imp (pe_lcH (te := liftE X.K te W0) (tt := liftT X.K (cOf tc) W0) hot hN hi ok hg (fun s H C cl fp => (hct s H C cl fp).pts) (fun s H C cl fp => (he s H C cl fp).pe) (fun _ => rfl))
    (lift_comp (aRng.mono ha.mono) mc me _ fun {H F M ρ ρ' σ d v Q} a b c e f => tg_lift ho a b c e f)⟩
end
/-! ### the text of the def, known again -/
def nm : Expr → Option Str
  | .Name x _ => some x
  | _ => none
theorem nm_ok {e : Expr} {x : Str} (h : nm e = some x) : ∃ p, e = .Name x p := by
  cases e <;> first | cases h; done | (cases h; exact ⟨_, rfl⟩)
def isiOf : Expr → Option Str
  | .Call f [e1, e2] [] _ => (match decide (nm f = some ("isinstance" : Str)) && decide (nm e1 = some ("_law_e" : Str)) with
    | true => nm e2
    | false => none)
  | _ => none
theorem isiOf_ok {e : Expr} {y : Str} (h : isiOf e = some y) : ∃ p p1 p2 pos, e = .Call (.Name "isinstance" p) [.Name "_law_e" p1, .Name y p2] [] pos := by
  unfold isiOf at h
  split at h
  · split at h
    · rename_i hb
      rw [Bool.and_eq_true] at hb
      obtain ⟨p, rfl⟩ := nm_ok (of_decide_eq_true hb.1)
      obtain ⟨p1, rfl⟩ := nm_ok (of_decide_eq_true hb.2)
      obtain ⟨p2, rfl⟩ := nm_ok h
      exact ⟨_, _, _, _, rfl⟩
    · cases h
  · cases h
def isis : List Expr → Option (List Str)
  | [] => some []
  | e :: es => opt2 List.cons (isiOf e) (isis es)
def strL : List Expr → Option (List Str)
  | [] => some []
  | .Constant (.str x) _ _ :: es => (strL es).map (x :: ·)
  | _ => none
def kBody (c : CE) : List Stmt → Bool
  | [.Assign [e1] (.List es1 _) _, .Assign [e2] (.BinOp e3 .Add (.List es2 _) _) _, .Expr (.Call (.Attribute e4 ap q4) [ev] [] r4) _, .Assign [e5] (.List ws _) _,
      .Return (some (.Call (.Attribute (.Constant (.str sep) _ _) jn q6) [.ListComp (.Subscript e6 e7 _) [⟨e8, .Call e9 [.Constant (.int n) _ _] [] _, [.Subscript e10 e11 _], 0⟩] scope _] [] r6)) _] =>
    (decide (nm e1 = some ("_law_some" : Str)) && (decide (nm e2 = some ("_law_some" : Str)) && (decide (nm e3 = some ("_law_some" : Str)) && (decide (nm e4 = some ("_law_some" : Str)) && (decide (nm e5 = some ("_law_words" : Str)) && (decide (nm e6 = some ("_law_words" : Str)) && (decide (nm e7 = some ("_law_k" : Str)) && (decide (nm e8 = some ("_law_k" : Str)) && (decide (nm e9 = some ("range" : Str)) && (decide (nm e10 = some ("_law_some" : Str)) && decide (nm e11 = some ("_law_k" : Str)))))))))))) &&
    ((decide (isis es1 = some k1) && (decide (isis es2 = some k2) && (decide (isiOf ev = some ("ValueError" : Str)) && (decide (strL ws = some kW) && (decide (ap = "append") && (decide (jn = "join") && (decide (sep = "") && (decide (n = 8) && ((q4.endLine == r4.line) && (q6.endLine == r6.line)))))))))) &&
    ((c.isGl "isinstance" && (c.isGl "range" && (c.isGl "ValueError" && (c.isVis "_law_e" && (c.isVis "_law_some" && (c.isVis "_law_words" && (c.isLoc "_law_some" && (c.isLoc "_law_words" && ((k1 ++ k2).all fun y => c.isGl y))))))))) &&
    (blkC c.N c.sc scope (ownOf c.N scope.names) && (decide ((ownOf c.N scope.names).map (·.2) = [3]) && (decide (c.N = kN) &&
      (let c' : CE := { c with sc := relS scope c.sc, blk := true }; c'.isVis "_law_words" && (c'.isVis "_law_k" && (c'.isVis "_law_some" && c'.isLoc "_law_k"))))))))
  | _ => false
end TT
set_option Elab.async false
set_option linter.all false
set_option maxRecDepth 100000
set_option maxHeartbeats 4000000
/-! TS3: what that def tells. -/
namespace TT
open PySem PySem.Spec PyProof.Rows L2 L2H
structure KH (c : CE) (X : Cx) (a : Addr) (oe : Obj) (C : Str) : Prop where
  hot : HotC X
  N : X.N = c.N
  sc : X.env.scope = c.sc
  fn : ∀ x, X.fn x = true
  un : X.A.units + 64 < cLine
  isi : X.mg "isinstance" = none
  rng : X.mg "range" = none
  vex : X.mg "ValueError" = none
  exc : ExcC X.K (He.ga X.K C)
  pin : (a, oe) ∈ X.pn
  zc : Zc (.ref (He.ga X.K C)) none oe
  fs : ∃ vs, oe.data = .fields vs
  gl : ∀ y ∈ k1 ++ k2, X.mg y = some (.ref (He.ga X.K y))
  kit : ∀ y ∈ k1 ++ k2, PySem.W.kitOne X.K (.ref (He.ga X.K C)) (.ref (He.ga X.K y)) = some (decide (C = y))
  kve : PySem.W.kitOne X.K (.ref (He.ga X.K C)) (.type "ValueError") = some true
def aIss (i : Nat) (a : Addr) : List Bool → AA
  | [] => aNil
  | b :: bs => aCons (aIsX i a b) (aIss i a bs)
theorem aIss_run {i : Nat} {a : Addr} {ρ : Env} {M : Mp} {Q : List D → Mp → Prop} {E : KX} (e : getV ρ i = some (.ref a)) : ∀ {bs : List Bool}, Q (bs.map D.bl) M → aIss i a bs ρ M Q E
  | [], q => q
  | b :: bs, q => ⟨e, aIss_run (Q := fun xs M2 => Q (.bl b :: xs) M2) e (bs := bs) q⟩
section
variable {c : CE} {X : Cx} {a : Addr} {oe : Obj} {C : Str} {scope : Scope}
theorem KH.gl' (h : KH c X a oe C) {x : Str} (e : c.isGl x = true) : Gl X x ∧ okName x = true := by
  unfold CE.isGl at e; split at e
  · rename_i q; exact ⟨(by show X.env.scope.names.lookup x = _; rw [h.sc]; exact q), e⟩
  · cases e
theorem vis_of {sc : Scope} {c : CE} (hs : sc = c.sc) {x : Str} (e : c.isVis x = true) : Vis sc x ∧ okName x = true := by
  unfold CE.isVis at e
  rw [hs]
  split at e
  · rename_i q; exact ⟨.inl q, e⟩
  · rename_i q; exact ⟨.inr (.inl q), e⟩
  · rename_i q; exact ⟨.inr (.inr q), e⟩
  · cases e
theorem loc_of {X : Cx} {c : CE} (hs : X.env.scope = c.sc) (hf : c.blk = false → ∀ x, X.fn x = true) {x : Str} (e : c.isLoc x = true) : Loc X.env.scope x ∧ (X.fn x = true ∨ X.env.scope.names.lookup x = some .local) := by
  unfold CE.isLoc at e
  rw [hs]
  split at e
  · rename_i q; exact ⟨.inl q, .inr q⟩
  · rename_i q; exact ⟨.inr q, .inl (hf (by simpa using e) x)⟩
  · cases e
theorem KH.var (h : KH c X a oe C) {x : Str} {i : Nat} {p : Pos} (e : c.isVis x = true) (hi : idx c.N x = some i) : AEok X W0 (.Name x p) (aVar i) := by
  obtain ⟨v, o⟩ := vis_of h.sc e
  obtain ⟨o1, o2, o3⟩ := okName_ok o
  exact ae_var (by rw [h.N]; exact idx_ok hi) v o1 o2
theorem KH.isx (h : KH c X a oe C) (e1 : c.isVis "_law_e" = true) (hi : idx c.N "_law_e" = some 0) (g : c.isGl "isinstance" = true) {e : Expr} {y : Str} (hy : isiOf e = some y) (hg : c.isGl y = true) (hm : y ∈ k1 ++ k2) :
    AEok X W0 e (aIsX 0 a (decide (C = y))) ∧ plainE e = true := by
  obtain ⟨p, p1, p2, pos, rfl⟩ := isiOf_ok hy
  obtain ⟨q, o⟩ := h.gl' hg
  obtain ⟨o1, o2, o3⟩ := okName_ok o
  exact ⟨ae_isX (call_isX h.exc h.pin h.zc h.fs) (h.gl' g).1 h.isi (h.var e1 hi) (pe_glob (v := .ref (He.ga X.K y)) q (h.gl y hm) rfl o1) (fun w hw => hw) (h.kit y hm), rfl⟩
theorem KH.iss (h : KH c X a oe C) (e1 : c.isVis "_law_e" = true) (hi : idx c.N "_law_e" = some 0) (g : c.isGl "isinstance" = true) : ∀ {es : List Expr} {ys : List Str}, isis es = some ys → (∀ y ∈ ys, c.isGl y = true ∧ y ∈ k1 ++ k2) → AAok X W0 es (aIss 0 a (ys.map fun y => decide (C = y)))
  | [], ys, hq, _ => by cases hq; exact aa_nil
  | e :: es, ys, hq, hk => by
    obtain ⟨y, ys', h1, h2, rfl⟩ := opt2_ok hq
    have k := hk y (List.mem_cons_self ..)
    obtain ⟨b1, b2⟩ := h.isx e1 hi g h1 k.1 k.2
    exact aa_cons b2 b1 (h.iss e1 hi g h2 fun z hz => hk z (List.mem_cons_of_mem _ hz))
theorem isis_len : ∀ {es : List Expr} {ys : List Str}, isis es = some ys → es.length = ys.length
  | [], ys, h => by cases h; rfl
  | e :: es, ys, h => by
    obtain ⟨y, ys', _, h2, rfl⟩ := opt2_ok h
    simp [isis_len h2]
def T0 : Nat → Fn := fun _ => ⟨0, 0, []⟩
def aCons' : List Str → AA
  | [] => aNil
  | x :: xs => aCons (aCon (.str x)) (aCons' xs)
theorem aCons'_run {ρ : Env} {M : Mp} {E : KX} : ∀ {xs : List Str} {Q : List D → Mp → Prop}, Q (xs.map D.str) M → aCons' xs ρ M Q E
  | [], _, q => q
  | x :: xs, Q, q => aCons'_run (xs := xs) (Q := fun ds M2 => Q (.str x :: ds) M2) q
theorem strL_ok {X : Cx} : ∀ {es : List Expr} {xs : List Str}, strL es = some xs → AAok X W0 es (aCons' xs) ∧ es.length = xs.length
  | [], xs, h => by cases h; exact ⟨aa_nil, rfl⟩
  | e :: es, xs, h => by
    unfold strL at h
    split at h
    · rename_i heq; cases heq
    · rename_i x j p r heq
      cases heq
      obtain ⟨ys, h1, rfl⟩ := map_ok h
      obtain ⟨h2, h3⟩ := strL_ok h1
      exact ⟨aa_cons rfl (ae_con (d := .str x) pe_str fun _ => rfl) h2, by simp [h3]⟩
    · cases h
abbrev fl1 (C : Str) : List D := (k1.map fun y => decide (C = y)).map D.bl
abbrev fl2 (C : Str) : List D := (k2.map fun y => decide (C = y)).map D.bl
theorem flagsD : fl1 C ++ fl2 C ++ [.bl true] = (flagsOf C).map D.bl := rfl
theorem at_flag : ∀ i, i < 8 → atI ((flagsOf C).map D.bl) (i : Nat) = some (.bl ((flagsOf C).getD i false))
  | 0, _ => rfl | 1, _ => rfl | 2, _ => rfl | 3, _ => rfl | 4, _ => rfl | 5, _ => rfl | 6, _ => rfl | 7, _ => rfl
  | i + 8, h => by omega
theorem at_kW : ∀ i, i < 8 → atI (kW.map D.str) (i : Nat) = some (.str (kW.getD i ""))
  | 0, _ => rfl | 1, _ => rfl | 2, _ => rfl | 3, _ => rfl | 4, _ => rfl | 5, _ => rfl | 6, _ => rfl | 7, _ => rfl
  | i + 8, h => by omega
theorem sum_le8 (f : Nat → Str) (p : Nat → Bool) (hf : ∀ i, (f i).length ≤ 20) : (((((List.range 8).filter p).map f).map (·.length)).sum + (((List.range 8).filter p).map f).length * (0 : Nat)) ≤ 16777216 := by
  have key : ∀ l : List Nat, (((l.filter p).map f).map (·.length)).sum ≤ 20 * l.length := by
    intro l
    induction l with
    | nil => simp
    | cons x l ih =>
      have := hf x
      rw [List.filter_cons]
      split
      · simp only [List.map_cons, List.sum_cons, List.length_cons]; omega
      · simp only [List.length_cons]; omega
  have := key (List.range 8)
  simp only [List.length_range] at this
  omega
theorem kRun {A : AEnds} {M : Mp} (ow : (ownOf c.N scope.names).map (·.2) = [3]) (hq : ∀ q o, M q = none → A.rt (.str (kindsOf C)) (mset M q o)) :
    aThen (aAsg (aLst false (aIss 0 a (k1.map fun y => decide (C = y)))) (.one 1)) (aThen (aAsg (aBin (addO true) (aVar 1) (aLst false (aIss 0 a (k2.map fun y => decide (C = y))))) (.one 1))
      (aThen (aEx (aBM "list" appendO (aVar 1) (aCons (aIsX 0 a true) aNil))) (aThen (aAsg (aLst false (aCons' kW)) (.one 2))
        (aRet (aBM "str" joinO (aCon (.str "")) (aCons (aComp false ((ownOf c.N scope.names).map (·.2)) (aRng (aCons (aCon (.int 8)) aNil)) (.one 3) (some (wpE (callI T0 0) (callI T0 0) (.ix (.var 1) (.var 3)))) (wpE (callI T0 0) (callI T0 0) (.ix (.var 2) (.var 3)))) aNil)))))) A [some (.ref a), none, none, none] M := by
  rw [ow]
  show aIss 0 a _ [some (.ref a), none, none, none] M _ _
  refine aIss_run rfl ?_
  show aIss 0 a _ [some (.ref a), some (.lst (fl1 C)), none, none] M _ _
  refine aIss_run rfl ?_
  refine ⟨fl1 C, fl2 C, rfl, rfl, by show 4 + 3 ≤ sizeLine; unfold sizeLine; decide, fun q hM => ?_⟩
  show tyD (.ref q) (mset M q (.lst (fl1 C ++ fl2 C))) = some "list" ∧ aCons (aIsX 0 a true) aNil [some (.ref a), some (.ref q), none, none] (mset M q (.lst (fl1 C ++ fl2 C))) _ _
  refine ⟨by show (match mset M q (.lst (fl1 C ++ fl2 C)) q with | some (.lst _) => some "list" | some (.dct _) => some "dict" | _ => none) = _; rw [mset_same], rfl, ?_⟩
  refine ⟨q, fl1 C ++ fl2 C, .bl true, by show (match mset M q (.lst (fl1 C ++ fl2 C)) q with | some (.lst ds) => some (q, ds) | _ => none) = _; rw [mset_same], rfl, by show 7 < sizeLine; unfold sizeLine; decide, ?_⟩
  rw [mset_mset, flagsD]
  have e1 : (([some (D.ref a), none, none, none].set 1 (some (D.lst (fl1 C)))).set 1 (some (D.ref q))) = [some (.ref a), some (.ref q), none, none] := rfl
  dsimp only
  rw [e1]
  unfold aThen aAsg aLst
  refine aCons'_run ?_
  refine ⟨rfl, ?_⟩
  unfold aCons aComp aRng aCon aNil
  dsimp only
  refine ⟨by unfold small62; decide, by show 8 ≤ sizeLine; unfold sizeLine; decide, ?_⟩
  have z := vsift (T := T0) (n := 0) (ρ := [some (.ref a), some (.ref q), some (.lst (kW.map D.str)), none]) (k := .one 3) (c := .ix (.var 1) (.var 3)) (elt := .ix (.var 2) (.var 3)) (M := mset M q (.lst ((flagsOf C).map D.bl))) (G := fun _ => True)
    (K := fun acc M2 => alloc false acc M2 fun x M1 => joinO (.str "") [x] M1 A.rt) (ds := rangeD 0 8) (fun i : Nat => D.int i) (fun i => .str (kW.getD i "")) (fun i => (flagsOf C).getD i false) (List.range 8) (by simp [rangeD]) trivial ?_ ?_
  · unfold vComp at z; exact z
  · refine ⟨"", _, ((List.range 8).filter fun i => (flagsOf C).getD i false).map fun i => kW.getD i "", rfl, rfl, .inl ?_, sum_le8 _ _ fun i => ?_, hq q _ hM⟩
    · show some _ = some _
      rw [List.map_map]; rfl
    · by_cases hi : i < 8
      · have : i = 0 ∨ i = 1 ∨ i = 2 ∨ i = 3 ∨ i = 4 ∨ i = 5 ∨ i = 6 ∨ i = 7 := by omega
        rcases this with rfl | rfl | rfl | rfl | rfl | rfl | rfl | rfl <;> decide
      · rw [List.getD_eq_getElem?_getD, List.getElem?_eq_none (by show 8 ≤ i; omega)]; decide
  · intro i hi
    have hi := List.mem_range.mp hi
    refine ⟨fun Q h => ?_, fun _ Q h => ?_⟩
    · exact ⟨_, mset_same, _, at_flag i hi, h⟩
    · exact ⟨_, at_kW i hi, h⟩
theorem kBody_ok (h : KH c X a oe C) {b : List Stmt} (hb : kBody c b = true) : ∃ t, BSok X W0 b t ∧
    ∀ (A : AEnds) (M : Mp), (∀ q o, M q = none → A.rt (.str (kindsOf C)) (mset M q o)) → t A [some (.ref a), none, none, none] M := by
  unfold kBody at hb
  split at hb
  · rename_i e1 es1 pa1 pb1 e2 e3 es2 pc pd pe e4 ap q4 ev r4 pg e5 ws ph pi sep pj pk jn q6 e6 e7 pl e8 e9 n pm pn po e10 e11 pp scope pq r6 pr
    simp only [Bool.and_eq_true, decide_eq_true_eq] at hb
    obtain ⟨⟨n1, n2, n3, n4, n5, n6, n7, n8, n9, n10, n11⟩, ⟨i1, i2, i3, i4, i5, i6, i7, i8, i9, i10⟩, ⟨g1, g2, g3, v1, v2, v3, l1, l2, gk⟩, bk, ow, cN, w1, w2, w3, w4⟩ := hb
    obtain ⟨x1', rfl⟩ := nm_ok n1
    obtain ⟨x2', rfl⟩ := nm_ok n2
    obtain ⟨x3', rfl⟩ := nm_ok n3
    obtain ⟨x4', rfl⟩ := nm_ok n4
    obtain ⟨x5', rfl⟩ := nm_ok n5
    obtain ⟨x6', rfl⟩ := nm_ok n6
    obtain ⟨x7', rfl⟩ := nm_ok n7
    obtain ⟨x8', rfl⟩ := nm_ok n8
    obtain ⟨x9', rfl⟩ := nm_ok n9
    obtain ⟨x10', rfl⟩ := nm_ok n10
    obtain ⟨x11', rfl⟩ := nm_ok n11
    obtain ⟨vp, vp1, vp2, vpos, rfl⟩ := isiOf_ok i3
    subst i5 i6 i7 i8
    have hN : X.N.Nodup := by rw [h.N, cN]; decide
    have x0 : idx c.N "_law_e" = some 0 := by rw [cN]; decide
    have x1 : idx c.N "_law_some" = some 1 := by rw [cN]; decide
    have x2 : idx c.N "_law_words" = some 2 := by rw [cN]; decide
    have x3 : idx c.N "_law_k" = some 3 := by rw [cN]; decide
    have gk' : ∀ y ∈ k1 ++ k2, c.isGl y = true := fun y hy => List.all_eq_true.mp gk y hy
    obtain ⟨lo1, lo1'⟩ := loc_of h.sc (fun _ => h.fn) l1
    obtain ⟨lo2, lo2'⟩ := loc_of h.sc (fun _ => h.fn) l2
    have X1 : X.N[1]? = some ("_law_some" : Str) := by rw [h.N]; exact idx_ok x1
    have X2 : X.N[2]? = some ("_law_words" : Str) := by rw [h.N]; exact idx_ok x2
    have X3 : X.N[3]? = some ("_law_k" : Str) := by rw [h.N]; exact idx_ok x3
    have A1 := h.iss v1 x0 g1 i1 fun y hy => ⟨gk' y (List.mem_append_left _ hy), List.mem_append_left _ hy⟩
    have A2 := h.iss v1 x0 g1 i2 fun y hy => ⟨gk' y (List.mem_append_right _ hy), List.mem_append_right _ hy⟩
    obtain ⟨A4, L4⟩ := strL_ok (X := X) i4
    obtain ⟨gv, ov⟩ := h.gl' g3
    obtain ⟨ov1, ov2, ov3⟩ := okName_ok ov
    have AV : AAok X W0 [.Call (.Name "isinstance" vp) [.Name "_law_e" vp1, .Name "ValueError" vp2] [] vpos] (aCons (aIsX 0 a true) aNil) := aa_cons rfl (ae_isX (call_isX h.exc h.pin h.zc h.fs) (h.gl' g1).1 h.isi (h.var v1 x0) (pe_bltn (v := .ty "ValueError") gv h.vex (by decide +kernel) rfl ov3 ov1) (fun w hw => hw) h.kve) aa_nil
    have hblk : ∀ (s : Shared) (H : Hp) (C' : Addr) (cl : List (Str × Addr)) (fp : List Addr), (X.blk s H scope (compEnvC scope cl C' X.env) fp).env.scope = ({ c with sc := relS scope c.sc, blk := true } : CE).sc := fun _ _ _ _ _ => by
      show relabel scope X.env = relS scope c.sc; rw [← h.sc] <;> rfl
    have bvar : ∀ {x : Str} {i : Nat} {p : Pos}, ({ c with sc := relS scope c.sc, blk := true } : CE).isVis x = true → idx c.N x = some i → ∀ (s : Shared) (H : Hp) (C' : Addr) (cl : List (Str × Addr)) (fp : List Addr), AEok (X.blk s H scope (compEnvC scope cl C' X.env) fp) W0 (.Name x p) (aVar i) := fun {x i p} e hi s H C' cl fp => by
      obtain ⟨v, o⟩ := vis_of (hblk s H C' cl fp) e
      obtain ⟨o1, o2, o3⟩ := okName_ok o
      exact ae_var (by show X.N[i]? = some x; rw [h.N]; exact idx_ok hi) v o1 o2
    have hu : X.A.units + 1 < cLine := by have := h.un; omega
    have comp := ae_compH (W := W0) (m := false) (k := .one 3) (tc := some (wpE (callI T0 0) (callI T0 0) (.ix (.var 1) (.var 3)))) (te := wpE (callI T0 0) (callI T0 0) (.ix (.var 2) (.var 3))) (elt := .Subscript (.Name "_law_words" x6') (.Name "_law_k" x7') pl) (tg := .Name "_law_k" x8') (ifs := [.Subscript (.Name "_law_some" x10') (.Name "_law_k" x11') pp]) (pos := pq) (rpos := po) (p := x9') h.hot hN (h.gl' g2).1 h.rng
      (aa_cons (e := .Constant (.int 8) pm pn) rfl (ae_con (d := .int 8) pe_int fun _ => rfl) aa_nil) (own := ownOf c.N scope.names) (scope := scope) (by rw [h.N, h.sc]; exact blkOk_by bk) (by rw [ow]; rfl) (fun t e => by cases e; exact wpE_mono (callI_mono 0) _) (wpE_mono (callI_mono 0) _)
      (fun s H C' cl fp => by
        obtain ⟨q1, q2⟩ := loc_of (hblk s H C' cl fp) (fun z => by cases z) w4
        exact pg_name hN X3 q1 q2)
      (fun s H C' cl fp => cond_one (both_of rfl (ae_ix (ok_ix hu) ixO.mono (bvar w3 x1 s H C' cl fp) (bvar w2 x3 s H C' cl fp) (fun _ _ => rfl))))
      (fun s H C' cl fp => ae_ix (ok_ix hu) ixO.mono (bvar w1 x2 s H C' cl fp) (bvar w2 x3 s H C' cl fp) (fun _ _ => rfl))
    have S1 := as_set (pos := pb1) (pos' := x1') hN X1 lo1 lo1' (ae_lst (m := false) (pos := pa1) (by rw [isis_len i1]; decide) A1) (swap_plain rfl)
    have S2 := as_set (pos := pe) (pos' := x2') hN X1 lo1 lo1' (ae_op (pos := pd) (ok_add (m := true)) addO.mono (h.var (p := x3') v2 x1) (ae_lst (m := false) (pos := pc) (by rw [isis_len i2]; decide) A2)) (swap_plain rfl)
    have S4 := as_set (pos := pi) (pos' := x5') hN X2 lo2 lo2' (ae_lst (m := false) (pos := ph) (by rw [L4]; decide) A4) (swap_plain rfl)
    have S3 := as_ex (pos := pg) (ae_bm PySem.F.plainAttrs_list PySem.F.slot_list_append PySem.F.type_list_append (.inr (.inl rfl)) ok_append appendO.mono (h.var (p := x4') v2 x1) rfl AV (by show 1 < 29; decide) i9) rfl
    have S5 := as_ret (pos := pr) (ae_bm PySem.F.plainAttrs_str PySem.F.slot_str_join PySem.F.type_str_join (.inl rfl) ok_join joinO.mono (ae_con (e := .Constant (.str "") pj pk) (d := .str "") pe_str fun _ => rfl) rfl (aa_cons rfl comp aa_nil) (by show 1 < 29; decide) i10)
    refine ⟨_, bs_cons S1 (bs_cons S2 (bs_cons S3 (bs_cons S4 (bs_one S5)))), fun A M hq => ?_⟩
    exact kRun ow hq
  · cases hb
end
end TT
set_option Elab.async false
set_option linter.all false
set_option maxRecDepth 100000
set_option maxHeartbeats 4000000
/-! TS4: that def's promise. -/
namespace TT
open PySem PySem.Spec PyProof.Rows L2 L2H
section
variable {K : PySem.W.Frag} {mg : Str → Option Value} {name qual : Str} {params : Arguments} {body : List Stmt} {scope : Scope} {f : Addr} {fd : FuncData} {C : Str} {c : CE}
theorem fnK_of (Fd : FunD K name qual params body scope [] [] f fd) (S : FnScope kN ["_law_e"] scope) (hb : kBody c body = true) (hcN : c.N = kN) (hsc : c.sc = scope) (hi : mg "isinstance" = none) (hr : mg "range" = none) (hv : mg "ValueError" = none)
    (he : L2.ExcC K (He.ga K C)) (hg : ∀ y ∈ k1 ++ k2, mg y = some (.ref (He.ga K y))) (hk : ∀ y ∈ k1 ++ k2, PySem.W.kitOne K (.ref (He.ga K C)) (.ref (He.ga K y)) = some (decide (C = y))) (hve : PySem.W.kitOne K (.ref (He.ga K C)) (.type "ValueError") = some true)
    (P : Program) (w : World) (base : Heap) : FnK P w K mg base f fd C := by
  obtain ⟨oc, od, dV, kV, doc, pm, an, cdv, ct, osl, efd, lk, hcd, _, _⟩ := Fd.ex
  subst efd
  refine ⟨fun A outer s H args p Q room hot hpin hz e0 bt ⟨F, M, r, q⟩ => ?_⟩
  have inK : K.In s.heap := e0.mod.kin.keeps fun b o z => (e0.bs b o z).1
  have nol : s.heap.NoLimit := e0.mod.nolimit.keeps fun b o z => (e0.bs b o z).1
  have knd : ∀ y ∈ ([("_law_e", Value.ref p.1)] : List (Str × Value)), scope.names.lookup y.1 = some .local ∨ (scope.names.lookup y.1 = some .cell ∧ ((cellsFrom (s.heap.objs.size + 1) scope.names []).lookup y.1).isSome = true) := fun ⟨n, v⟩ hy =>
    (S.par n (List.of_mem_zip (l₁ := [("_law_e" : Str)]) (l₂ := [Value.ref p.1]) hy).1).elim .inl fun z => .inr ⟨z, PySem.W.cellsFrom_some _ _ _ (.inl z)⟩
  refine codeAny_call_function room.depth (inK _ _ lk) rfl S.co S.gen rfl (PySem.W.codeRec_of inK hcd) (bt _ _ _ _ ?_)
  refine wpAny_newFunctionEnv_cells S.kind knd fun env he' s1 x => ?_
  subst he'
  refine ⟨nol.keeps x.toInCall.keep, codeAny_func ?_⟩
  have room' : RoomH 0 (A.deeper (envOfC qual scope s.heap.objs.size f cdv)) := room.deeper _
  have kh : KH c (cxH (L2N.CX P w) P w K mg base kN qual scope f cdv A outer s H (fun _ _ _ => False) p) p.1 p.2 C :=
    { hot := ⟨p, hot, List.mem_singleton.mpr rfl⟩, N := hcN.symm, sc := hsc.symm, fn := fun _ => rfl, un := by have z := room'.un; show (A.deeper (envOfC qual scope s.heap.objs.size f cdv)).units + 64 < cLine; omega
      isi := hi, rng := hr, vex := hv, exc := he, pin := List.mem_singleton.mpr rfl, zc := hz, fs := let ⟨vs, z, _⟩ := hot.2; ⟨vs, z⟩, gl := hg, kit := hk, kve := hve }
  obtain ⟨t, ht, run⟩ := kBody_ok kh hb
  have vals : Vals [V.ref p.1] [Value.ref p.1] := .cons rfl .nil
  have J : Inv (cxH (L2N.CX P w) P w K mg base kN qual scope f cdv A outer s H (fun _ _ _ => False) p) [] (L2.start kN [.ref p.1]) H s1 := inv_startH S hpin e0 rfl vals x
  have rep : Reps K F [D.ref p.1] [V.ref p.1] := Reps.cons rfl Reps.nil
  have fin : ∀ {σ' : L2.St} {H' : Hp} {s' : Shared} {v : V} {u : Value}, Inv (cxH (L2N.CX P w) P w K mg base kN qual scope f cdv A outer s H (fun _ _ _ => False) p) [] σ' H' s' → RelV v u → Q v H' → L2.CE outer P w H s Q u s' :=
    fun {σ' H' s' v u} J' rv z => ⟨v, H', J'.os, J'.bare, J'.base, J'.hok, rv, z⟩
  refine wpAny_mono (ht.ps.run [] s1 (L2.start kN [.ref p.1]) H { nx := fun _ H' => Q .non H', rt := Q } J ⟨F, _, M, r, envR_start rep, run _ M fun q' o hq' => ?_⟩) (fun fl s' hs => ?_) fun e s' hs => hs
  · intro H' F' v st rv
    have st2 := st.trans (Step.drop st.r q')
    rw [mdel_mset hq'] at st2
    exact q _ _ _ st2 rv
  · cases fl with
    | ret u =>
      obtain ⟨v, σ', H', J', rv, z⟩ := hs
      exact fin J' rv z
    | next =>
      obtain ⟨σ', H', J', z⟩ := hs
      exact fin (v := V.non) (u := Value.none) J' rfl z
    | brk =>
      obtain ⟨_, _, _, z⟩ := hs
      exact z.elim
    | cont =>
      obtain ⟨_, _, _, z⟩ := hs
      exact z.elim
end
end TT
set_option Elab.async false
set_option linter.all false
set_option maxRecDepth 100000
set_option maxHeartbeats 0
namespace Hd
open PySem PySem.Spec PyProof.Rows L2 TT
@[irreducible] def w_worker : Str := "worker"
@[irreducible] def w_always : Str := "always"
@[irreducible] def w_fault : Str := "fault"
@[irreducible] def w_once : Str := "once"
@[irreducible] def w_one : Str := "one"
@[irreducible] def w_all : Str := "all"
@[irreducible] def w_behind : Str := "behind"
@[irreducible] def w_watcher : Str := "watcher"
@[irreducible] def w_never : Str := "never"
@[irreducible] def w_ : Str := ""
@[irreducible] def w_NoPost : Str := "NoPost"
@[irreducible] def w_NoRow : Str := "NoRow"
@[irreducible] def w_NoText : Str := "NoText"
@[irreducible] def w_Nothing : Str := "Nothing"
@[irreducible] def w_NotRunning : Str := "NotRunning"
@[irreducible] def w_NoTree : Str := "NoTree"
@[irreducible] def w_Unsettled : Str := "Unsettled"
@[irreducible] def w__ : Str := "+"
@[irreducible] def w_NoPost_ : Str := "NoPost+"
@[irreducible] def w_runs : Str := "runs"
@[irreducible] def w_off : Str := "off"
@[irreducible] def w_tick : Str := "tick"
@[irreducible] def w_words : Str := "words"
@[irreducible] def w_begun : Str := "begun"
@[irreducible] def w_rows : Str := "rows"
@[irreducible] def w_down : Str := "down"
@[irreducible] def w_stop : Str := "stop"
@[irreducible] def w_begin : Str := "begin"
@[irreducible] def w_fell : Str := "fell"
@[irreducible] def w_finished : Str := "finished"
@[irreducible] def w_gave_up : Str := "gave up"
@[irreducible] def w_passed : Str := "passed"
@[irreducible] def w_settled : Str := "settled"
@[irreducible] def w_NotRunning_ : Str := "NotRunning+"
@[irreducible] def w_Unsettled_ : Str := "Unsettled+"
@[irreducible] def w_back : Str := "back"
@[irreducible] def w_Nothing_ : Str := "Nothing+"
@[irreducible] def w_NoTree_ : Str := "NoTree+"
@[irreducible] def w_0123456789 : Str := "0123456789"
@[irreducible] def w_0 : Str := "0"
@[irreducible] def w__x : Str := "."
@[irreducible] def w__xx : Str := " "
@[irreducible] def w__xxx : Str := "\n"
@[irreducible] def w_worker_always : Str := "worker always"
@[irreducible] def w__worker_once : Str := ".worker once"
@[irreducible] def w___worker_fault : Str := "..worker fault"
@[irreducible] def w__watcher_always_one_1_5 : Str := ".watcher always one 1 5"
@[irreducible] def w_1 : Str := "1"
@[irreducible] def w_21 : Str := "21"
@[irreducible] def w_101 : Str := "101"
@[irreducible] def w_00 : Str := "00"
@[irreducible] def w_abcdefghijklmnopqrstuvwxyz_____ : Str := "abcdefghijklmnopqrstuvwxyz{|}~\n"
@[irreducible] def w________________0123456789_______ABCDEFGHIJKLMNOPQRSTUVWXYZ______ : Str := " !\"#$&'()*+,-./0123456789:;<=>?@ABCDEFGHIJKLMNOPQRSTUVWXYZ[\\]^_`"
@[irreducible] def w_NoText_ : Str := "NoText+"
@[irreducible] def w__xxxx : Str := ":"
@[irreducible] def w_none : Str := "none"
@[irreducible] def w_pass : Str := "pass"
@[irreducible] def w_ok : Str := "ok"
@[irreducible] def w_fall : Str := "fall"
@[irreducible] def w_finish : Str := "finish"
@[irreducible] def w_eases : Str := "eases"
@[irreducible] def w_room : Str := "room"
@[irreducible] def w_settle : Str := "settle"
@[irreducible] def w____ : Str := " | "
@[irreducible] def w_least : Str := "least"
@[irreducible] def w_NoRow_ : Str := "NoRow+"
@[irreducible] def w_room_ : Str := "room "
@[irreducible] def w_pass_ : Str := "pass "
@[irreducible] def w_fall_ : Str := "fall "
@[irreducible] def w_finish_ : Str := "finish "
@[irreducible] def w__1 : Str := "-1"
@[irreducible] def w_9 : Str := "9"
@[irreducible] def w_1000 : Str := "1000"
@[irreducible] def w_pass_1 : Str := "pass 1"
@[irreducible] def w_1000000 : Str := "1000000"
@[irreducible] def w_999999 : Str := "999999"
@[irreducible] def w_pass_2 : Str := "pass 2"
@[irreducible] def w_pass_1000 : Str := "pass 1000"
@[irreducible] def w_pass_1001 : Str := "pass 1001"
@[irreducible] def w_pass_0 : Str := "pass 0"
@[irreducible] def w_pass_999999999 : Str := "pass 999999999"
/-- is_whole: 0 thing -/
def b0 : List Sm := .ret (.and (.isi "int" (.var 0)) (.not (.isi "bool" (.var 0)))) :: []
/-- is_one_of: 0 thing, 1 words -/
def b1 : List Sm := .ret (.and (.isi "str" (.var 0)) (.cop .inn (.var 0) (.var 1))) :: []
/-- is_worker: 0 thing -/
def b2 : List Sm := .ret (.and (.isi "tuple" (.var 0)) (.and (.cop .eq (.bi .len [(.var 0)]) (.con (.int 2))) (.and (.cop .eq (.ix (.var 0) (.con (.int 0))) (.con (.str w_worker))) (.call 1 [(.ix (.var 0) (.con (.int 1))), (.con (.tup [(.str w_always), (.str w_fault), (.str w_once)]))])))) :: []
/-- has_form: 0 thing, 1 deep, 2 word, 3 kind, 4 way, 5 most, 6 within, 7 posts, 8 post -/
def b3_1 : List Sm := .ret (.bi .all [(.comp false [8] (.one 8) .seq [(.var 7)] [] (.call 3 [(.var 8), (.bop .sub (.var 1) (.con (.int 1)))]))]) :: []
def b3_2 : List Sm := .ret (.con (.bl false)) :: []
def b3_3 : List Sm := .ite (.or (.not (.isi "tuple" (.var 7))) (.cop .gt (.bi .len [(.var 7)]) (.con (.int 8)))) b3_2 [] :: b3_1
def b3_4 : List Sm := .ret (.con (.bl false)) :: []
def b3_5 : List Sm := .ite (.or (.not (.chn .le .le (.con (.int 0)) (.var 5) (.con (.int 20)))) (.not (.chn .le .le (.con (.int 1)) (.var 6) (.con (.int 100))))) b3_4 [] :: b3_3
def b3_6 : List Sm := .ret (.con (.bl false)) :: []
def b3_7 : List Sm := .ite (.or (.not (.call 1 [(.var 3), (.con (.tup [(.str w_always), (.str w_fault), (.str w_once)]))])) (.or (.not (.call 1 [(.var 4), (.con (.tup [(.str w_one), (.str w_all), (.str w_behind)]))])) (.or (.not (.call 0 [(.var 5)])) (.not (.call 0 [(.var 6)]))))) b3_6 [] :: b3_5
def b3_8 : List Sm := .asg (.tup [2, 3, 4, 5, 6, 7]) (.var 0) :: b3_7
def b3_9 : List Sm := .ret (.con (.bl false)) :: []
def b3_10 : List Sm := .ite (.or (.not (.isi "tuple" (.var 0))) (.or (.cop .ne (.bi .len [(.var 0)]) (.con (.int 6))) (.or (.cop .ne (.ix (.var 0) (.con (.int 0))) (.con (.str w_watcher))) (.cop .eq (.var 1) (.con (.int 0)))))) b3_9 [] :: b3_8
def b3_11 : List Sm := .ret (.con (.bl true)) :: []
def b3 : List Sm := .ite (.call 2 [(.var 0)]) b3_11 [] :: b3_10
/-- is_watcher: 0 post -/
def b4 : List Sm := .ret (.cop .eq (.ix (.var 0) (.con (.int 0))) (.con (.str w_watcher))) :: []
/-- all_posts: 0 post, 1 found, 2 one -/
def b5_1 : List Sm := .ret (.var 1) :: []
def b5_2 : List Sm := .ex (.mt .extend (.var 1) [(.call 5 [(.var 2)])]) :: []
def b5_3 : List Sm := .forr (.one 2) .seq [(.ix (.var 0) (.con (.int 5)))] b5_2 :: []
def b5_4 : List Sm := .ite (.call 4 [(.var 0)]) b5_3 [] :: b5_1
def b5 : List Sm := .asg (.one 1) (.lst true [(.var 0)]) :: b5_4
/-- is_tree: 0 thing -/
def b6 : List Sm := .ret (.and (.call 3 [(.var 0), (.con (.int 6))]) (.and (.call 4 [(.var 0)]) (.cop .le (.bi .len [(.call 5 [(.var 0)])]) (.con (.int 60))))) :: []
/-- _law_bag: 0 _law_script, 1 _law_k, 2 _law_cell, 3 _law_seed -/
def b7_1 : List Sm := .ret (.lst true [(.var 2), (.var 3)]) :: []
def b7_2 : List Sm := .ret (.lst true [(.con (.int 0)), (.var 3)]) :: []
def b7_3 : List Sm := .ite (.cop .lt (.var 2) (.bop .pow (.con (.int 10)) (.con (.int 18)))) b7_2 [] :: b7_1
def b7_4 : List Sm := .asg (.one 3) (.bop (.add false) (.con (.int 1)) (.bop .mod (.bop (.add false) (.bop (.add false) (.bop (.add false) (.bop (.mul false) (.bop .mod (.var 2) (.con (.int 2147483629))) (.con (.int 16807))) (.bop (.mul false) (.bop (.mul false) (.con (.int 40009)) (.var 1)) (.var 1))) (.bop (.mul false) (.con (.int 7919)) (.var 1))) (.con (.int 1009))) (.con (.int 2147483645)))) :: b7_3
def b7_5 : List Sm := .asg (.one 2) (.bop .mod (.ix (.var 0) (.var 1)) (.bop .pow (.con (.int 10)) (.con (.int 60)))) :: []
def b7_6 : List Sm := .ite (.cop .lt (.var 1) (.bi .len [(.var 0)])) b7_5 [] :: b7_4
def b7 : List Sm := .asg (.one 2) (.con (.int 0)) :: b7_6
/-- _law_take: 0 _law_bag_here, 1 _law_many, 2 _law_found -/
def b8_1 : List Sm := .ret (.bop .mod (.bop .fdiv (.bop .mod (.bop (.mul false) (.bop .fdiv (.ix (.var 0) (.con (.int 1))) (.con (.int 13))) (.bop (.add false) (.bop .mod (.ix (.var 0) (.con (.int 1))) (.con (.int 32749))) (.con (.int 17)))) (.con (.int 2147483629))) (.con (.int 32))) (.var 1)) :: []
def b8_2 : List Sm := .setI (.bop .mod (.bop (.mul false) (.ix (.var 0) (.con (.int 1))) (.con (.int 48271))) (.con (.int 2147483647))) (.var 0) (.con (.int 1)) :: b8_1
def b8_3 : List Sm := .ret (.var 2) :: []
def b8_4 : List Sm := .setI (.bop .fdiv (.ix (.var 0) (.con (.int 0))) (.var 1)) (.var 0) (.con (.int 0)) :: b8_3
def b8_5 : List Sm := .asg (.one 2) (.bop .mod (.ix (.var 0) (.con (.int 0))) (.var 1)) :: b8_4
def b8 : List Sm := .ite (.cop .gt (.ix (.var 0) (.con (.int 0))) (.con (.int 0))) b8_5 [] :: b8_2
/-- _law_worker: 0 _law_bag_here -/
def b9 : List Sm := .ret (.tup [(.con (.str w_worker)), (.ix (.lst false [(.con (.str w_always)), (.con (.str w_fault)), (.con (.str w_once)), (.con (.str w_always))]) (.call 8 [(.var 0), (.con (.int 4))]))]) :: []
/-- _law_watcher: 0 _law_bag_here, 1 _law_left, 2 _law_deep, 3 _law_most, 4 _law_within, 5 _law_kind, 6 _law_posts, 7 _law_turn, 8 _law_way, 9 _law_one -/
def b10_1 : List Sm := .ret (.tup [(.con (.str w_watcher)), (.var 5), (.var 8), (.var 3), (.var 4), (.bi .tup [(.var 6)])]) :: []
def b10_2 : List Sm := .asg (.one 8) (.ix (.lst false [(.con (.str w_one)), (.con (.str w_all)), (.con (.str w_behind))]) (.call 8 [(.var 0), (.con (.int 3))])) :: b10_1
def b10_3 : List Sm := .ex (.mt .append (.var 6) [(.var 9)]) :: []
def b10_4 : List Sm := .asg (.one 1) (.bop .sub (.var 1) (.bi .len [(.call 11 [(.var 9)])])) :: b10_3
def b10_5 : List Sm := .asg (.one 9) (.call 10 [(.var 0), (.bi .min2 [(.var 1), (.bop (.add false) (.con (.int 1)) (.call 8 [(.var 0), (.con (.int 20))]))]), (.bop .sub (.var 2) (.con (.int 1)))]) :: []
def b10_6 : List Sm := .ite (.and (.cop .gt (.var 2) (.con (.int 1))) (.cop .eq (.call 8 [(.var 0), (.con (.int 3))]) (.con (.int 0)))) b10_5 [] :: b10_4
def b10_7 : List Sm := .asg (.one 9) (.call 9 [(.var 0)]) :: b10_6
def b10_8 : List Sm := .ite (.cop .gt (.var 1) (.con (.int 0))) b10_7 [] :: []
def b10_9 : List Sm := .forr (.one 7) .rng [(.call 8 [(.var 0), (.ix (.lst false [(.con (.int 4)), (.con (.int 9))]) (.call 8 [(.var 0), (.con (.int 2))]))])] b10_8 :: b10_2
def b10_10 : List Sm := .asg (.one 1) (.bop .sub (.var 1) (.con (.int 1))) :: b10_9
def b10_11 : List Sm := .asg (.one 6) (.lst true []) :: b10_10
def b10_12 : List Sm := .asg (.one 5) (.ix (.lst false [(.con (.str w_always)), (.con (.str w_fault)), (.con (.str w_once)), (.con (.str w_always))]) (.call 8 [(.var 0), (.con (.int 4))])) :: b10_11
def b10_13 : List Sm := .asg (.one 4) (.ix (.lst false [(.con (.int 1)), (.con (.int 2)), (.con (.int 5)), (.con (.int 100)), (.bop (.add false) (.con (.int 1)) (.call 8 [(.var 0), (.con (.int 100))]))]) (.call 8 [(.var 0), (.con (.int 5))])) :: b10_12
def b10 : List Sm := .asg (.one 3) (.ix (.lst false [(.con (.int 0)), (.con (.int 1)), (.con (.int 2)), (.con (.int 3)), (.con (.int 20)), (.call 8 [(.var 0), (.con (.int 21))])]) (.call 8 [(.var 0), (.con (.int 6))])) :: b10_13
/-- _law_all: 0 _law_post, 1 _law_found, 2 _law_one -/
def b11_1 : List Sm := .ret (.var 1) :: []
def b11_2 : List Sm := .asg (.one 1) (.bop (.add false) (.var 1) (.call 11 [(.var 2)])) :: []
def b11_3 : List Sm := .forr (.one 2) .seq [(.ix (.var 0) (.con (.int 5)))] b11_2 :: []
def b11_4 : List Sm := .ite (.cop .eq (.ix (.var 0) (.con (.int 0))) (.con (.str w_watcher))) b11_3 [] :: b11_1
def b11 : List Sm := .asg (.one 1) (.lst false [(.var 0)]) :: b11_4
/-- _law_tree: 0 _law_bag_here -/
def b12 : List Sm := .ret (.call 10 [(.var 0), (.ix (.lst false [(.con (.int 6)), (.con (.int 12)), (.con (.int 60))]) (.call 8 [(.var 0), (.con (.int 3))])), (.ix (.lst false [(.con (.int 2)), (.con (.int 3)), (.con (.int 6))]) (.call 8 [(.var 0), (.con (.int 3))]))]) :: []
/-- _law_odd: 0 _law_bag_here, 1 _law_some -/
def b13_1 : List Sm := .ret (.ix (.var 1) (.call 8 [(.var 0), (.con (.int 26))])) :: []
def b13_2 : List Sm := .ex (.mt .append (.var 1) [(.tup [(.con (.str w_watcher)), (.con (.str w_always)), (.con (.str w_one)), (.con (.int 1)), (.con (.int 5)), (.lst false [(.tup [(.con (.str w_worker)), (.con (.str w_always))])])])]) :: b13_1
def b13_3 : List Sm := .asg (.one 1) (.bop (.add true) (.var 1) (.lst false [(.lst false [(.con (.str w_worker)), (.con (.str w_always))]), (.tup [(.con (.str w_watcher)), (.con (.str w_always)), (.con (.str w_one)), (.con (.int 1)), (.con (.int 5)), (.tup [])]), (.tup [(.con (.str w_watcher)), (.con (.str w_always))]), (.lst false [])])) :: b13_2
def b13_4 : List Sm := .asg (.one 1) (.bop (.add false) (.var 1) (.lst false [(.tup []), (.tup [(.con (.str w_worker))]), (.tup [(.con (.str w_worker)), (.con (.str w_always))]), (.tup [(.con (.str w_worker)), (.con (.str w_never))]), (.tup [(.con (.str w_worker)), (.con (.str w_always)), (.con (.int 1))])])) :: b13_3
def b13 : List Sm := .asg (.one 1) (.lst false [(.neg (.con (.int 1))), (.con (.int 0)), (.con (.int 1)), (.con (.int 8)), (.con (.int 21)), (.con (.int 101)), (.bop .pow (.con (.int 10)) (.con (.int 30))), (.con (.bl true)), (.con (.bl false)), (.con .non), (.con (.str w_)), (.con (.str w_worker)), (.con (.str w_watcher)), (.con (.str w_always)), (.con (.str w_one)), (.con (.str w_never))]) :: b13_4
/-- _law_replaced: 0 _law_bag_here, 1 _law_thing, 2 _law_deep, 3 _law_at, 4 _law_way -/
def b14_1 : List Sm := .ret (.bop (.add false) (.bop (.add false) (.slU false (.var 1) (.var 3)) (.tup [(.call 14 [(.var 0), (.ix (.var 1) (.var 3)), (.bop .sub (.var 2) (.con (.int 1)))])])) (.slL false (.var 1) (.bop (.add false) (.var 3) (.con (.int 1))))) :: []
def b14_2 : List Sm := .ret (.bi (.lst false) [(.var 1)]) :: []
def b14_3 : List Sm := .ite (.cop .eq (.var 4) (.con (.int 2))) b14_2 [] :: b14_1
def b14_4 : List Sm := .ret (.bop (.add false) (.bop (.add false) (.slU false (.var 1) (.var 3)) (.tup [(.ix (.var 1) (.var 3))])) (.slL false (.var 1) (.var 3))) :: []
def b14_5 : List Sm := .ite (.cop .eq (.var 4) (.con (.int 1))) b14_4 [] :: b14_3
def b14_6 : List Sm := .ret (.bop (.add false) (.slU false (.var 1) (.var 3)) (.slL false (.var 1) (.bop (.add false) (.var 3) (.con (.int 1))))) :: []
def b14_7 : List Sm := .ite (.cop .eq (.var 4) (.con (.int 0))) b14_6 [] :: b14_5
def b14_8 : List Sm := .asg (.one 4) (.call 8 [(.var 0), (.con (.int 9))]) :: b14_7
def b14_9 : List Sm := .asg (.one 3) (.call 8 [(.var 0), (.bi .len [(.var 1)])]) :: b14_8
def b14_10 : List Sm := .ret (.call 13 [(.var 0)]) :: []
def b14 : List Sm := .ite (.or (.cop .eq (.var 2) (.con (.int 0))) (.or (.not (.isi "tuple" (.var 1))) (.or (.cop .eq (.var 1) (.tup [])) (.cop .eq (.call 8 [(.var 0), (.con (.int 5))]) (.con (.int 0)))))) b14_10 [] :: b14_9
/-- _law_is_post: 0 _law_thing, 1 _law_deep, 2 _law_number, 3 _law_least, 4 _law_most, 5 _law_one -/
def b15_1 : List Sm := .ret (.and (.cop .lt (.bi .len [(.ix (.var 0) (.con (.int 5)))]) (.con (.int 9))) (.cop .eq (.comp false [5] (.one 5) .seq [(.ix (.var 0) (.con (.int 5)))] [(.not (.call 15 [(.var 5), (.bop .sub (.var 1) (.con (.int 1)))]))] (.var 5)) (.lst false []))) :: []
def b15_2 : List Sm := .ret (.con (.bl false)) :: []
def b15_3 : List Sm := .ite (.or (.not (.isi "int" (.var 2))) (.or (.isi "bool" (.var 2)) (.or (.cop .lt (.var 2) (.var 3)) (.cop .gt (.var 2) (.var 4))))) b15_2 [] :: []
def b15_4 : List Sm := .forr (.tup [2, 3, 4]) .seq [(.lst false [(.tup [(.ix (.var 0) (.con (.int 3))), (.con (.int 0)), (.con (.int 20))]), (.tup [(.ix (.var 0) (.con (.int 4))), (.con (.int 1)), (.con (.int 100))])])] b15_3 :: b15_1
def b15_5 : List Sm := .ret (.con (.bl false)) :: []
def b15_6 : List Sm := .ite (.or (.not (.isi "str" (.ix (.var 0) (.con (.int 2))))) (.or (.cop .nin (.ix (.var 0) (.con (.int 2))) (.lst false [(.con (.str w_one)), (.con (.str w_all)), (.con (.str w_behind))])) (.not (.isi "tuple" (.ix (.var 0) (.con (.int 5))))))) b15_5 [] :: b15_4
def b15_7 : List Sm := .ret (.con (.bl false)) :: []
def b15_8 : List Sm := .ite (.or (.cop .ne (.ix (.var 0) (.con (.int 0))) (.con (.str w_watcher))) (.or (.cop .ne (.bi .len [(.var 0)]) (.con (.int 6))) (.cop .lt (.var 1) (.con (.int 1))))) b15_7 [] :: b15_6
def b15_9 : List Sm := .ret (.cop .eq (.bi .len [(.var 0)]) (.con (.int 2))) :: []
def b15_10 : List Sm := .ite (.cop .eq (.ix (.var 0) (.con (.int 0))) (.con (.str w_worker))) b15_9 [] :: b15_8
def b15_11 : List Sm := .ret (.con (.bl false)) :: []
def b15_12 : List Sm := .ite (.or (.not (.isi "str" (.ix (.var 0) (.con (.int 1))))) (.cop .nin (.ix (.var 0) (.con (.int 1))) (.lst false [(.con (.str w_always)), (.con (.str w_fault)), (.con (.str w_once))]))) b15_11 [] :: b15_10
def b15_13 : List Sm := .ret (.con (.bl false)) :: []
def b15 : List Sm := .ite (.or (.not (.isi "tuple" (.var 0))) (.or (.cop .lt (.bi .len [(.var 0)]) (.con (.int 2))) (.not (.isi "str" (.ix (.var 0) (.con (.int 0))))))) b15_13 [] :: b15_12
/-- _law_due: 0 _law_thing -/
def b16 : List Sm := .ret (.and (.call 15 [(.var 0), (.con (.int 6))]) (.and (.cop .eq (.ix (.var 0) (.con (.int 0))) (.con (.str w_watcher))) (.cop .lt (.bi .len [(.call 11 [(.var 0)])]) (.con (.int 61))))) :: []
/-- _law_right: 0 _law_thing, 1 _law_found -/
def b17_1 : List Sm := .ret (.and (.isi "bool" (.var 1)) (.cop .eq (.var 1) (.call 16 [(.var 0)]))) :: []
def b17 : List Sm := .asg (.one 1) (.call 6 [(.var 0)]) :: b17_1
/-- _law_edges: 0 _law_bag_here, 1 _law_tree_here, 2 _law_some, 3 _law_wide, 4 _law_many, 5 _law_one, 6 _law_turn, 7 _law_number -/
def b18_1 : List Sm := .ret (.var 2) :: []
def b18_2 : List Sm := .ex (.mt .append (.var 2) [(.var 5)]) :: []
def b18_3 : List Sm := .asg (.one 5) (.bop (.add false) (.slU false (.var 1) (.con (.int 5))) (.tup [(.tup [(.var 5)])])) :: []
def b18_4 : List Sm := .forr (.one 6) .rng [(.var 4)] b18_3 :: b18_2
def b18_5 : List Sm := .asg (.one 5) (.bop (.add false) (.slU false (.var 1) (.con (.int 5))) (.tup [(.tup [])])) :: b18_4
def b18_6 : List Sm := .forr (.one 4) .seq [(.lst false [(.con (.int 5)), (.con (.int 6))])] b18_5 :: b18_1
def b18_7 : List Sm := .ex (.mt .append (.var 2) [(.bop (.add false) (.slU false (.var 1) (.con (.int 5))) (.tup [(.bop (.add false) (.bop (.mul false) (.tup [(.bop (.add false) (.slU false (.var 1) (.con (.int 5))) (.tup [(.bop (.mul false) (.tup [(.tup [(.con (.str w_worker)), (.con (.str w_fault))])]) (.con (.int 8)))]))]) (.con (.int 6))) (.tup [(.bop (.add false) (.slU false (.var 3) (.con (.int 5))) (.tup [(.slU false (.ix (.var 3) (.con (.int 5))) (.con (.int 5)))]))]))]))]) :: b18_6
def b18_8 : List Sm := .ex (.mt .append (.var 2) [(.bop (.add false) (.slU false (.var 1) (.con (.int 5))) (.tup [(.bop (.add false) (.bop (.mul false) (.tup [(.bop (.add false) (.slU false (.var 1) (.con (.int 5))) (.tup [(.bop (.mul false) (.tup [(.tup [(.con (.str w_worker)), (.con (.str w_fault))])]) (.con (.int 8)))]))]) (.con (.int 6))) (.tup [(.bop (.add false) (.slU false (.var 3) (.con (.int 5))) (.tup [(.slU false (.ix (.var 3) (.con (.int 5))) (.con (.int 4)))]))]))]))]) :: b18_7
def b18_9 : List Sm := .ex (.mt .append (.var 2) [(.bop (.add false) (.slU false (.var 1) (.con (.int 5))) (.tup [(.bop (.add false) (.bop (.mul false) (.tup [(.var 3)]) (.con (.int 7))) (.tup [(.bop (.add false) (.slU false (.var 1) (.con (.int 5))) (.tup [(.bop (.mul false) (.tup [(.tup [(.con (.str w_worker)), (.con (.str w_once))])]) (.con (.int 9)))]))]))]))]) :: b18_8
def b18_10 : List Sm := .ex (.mt .append (.var 2) [(.bop (.add false) (.slU false (.var 1) (.con (.int 5))) (.tup [(.bop (.add false) (.bop (.mul false) (.tup [(.var 3)]) (.con (.int 8))) (.tup [(.tup [(.con (.str w_worker)), (.con (.str w_once))])]))]))]) :: b18_9
def b18_11 : List Sm := .asg (.one 2) (.bop (.add true) (.var 2) (.comp false [7] (.one 7) .seq [(.lst false [(.con (.int 7)), (.con (.int 8))])] [] (.bop (.add false) (.slU false (.var 1) (.con (.int 5))) (.tup [(.bop (.mul false) (.tup [(.var 3)]) (.var 7))])))) :: b18_10
def b18_12 : List Sm := .asg (.one 3) (.bop (.add false) (.slU false (.var 1) (.con (.int 5))) (.tup [(.bop (.mul false) (.tup [(.tup [(.con (.str w_worker)), (.con (.str w_once))])]) (.con (.int 6)))])) :: b18_11
def b18_13 : List Sm := .asg (.one 2) (.bop (.add false) (.var 2) (.comp false [7] (.one 7) .seq [(.lst false [(.con (.int 0)), (.con (.int 7)), (.con (.int 8)), (.con (.int 9))])] [] (.bop (.add false) (.slU false (.var 1) (.con (.int 5))) (.tup [(.bop (.mul false) (.tup [(.call 9 [(.var 0)])]) (.var 7))])))) :: b18_12
def b18_14 : List Sm := .asg (.one 2) (.bop (.add false) (.var 2) (.comp false [7] (.one 7) .seq [(.lst false [(.con (.int 0)), (.con (.int 1)), (.con (.int 100)), (.con (.int 101))])] [] (.bop (.add false) (.bop (.add false) (.slU false (.var 1) (.con (.int 4))) (.tup [(.var 7)])) (.slL false (.var 1) (.con (.int 5)))))) :: b18_13
def b18 : List Sm := .asg (.one 2) (.comp false [7] (.one 7) .seq [(.lst false [(.neg (.con (.int 1))), (.con (.int 0)), (.con (.int 20)), (.con (.int 21))])] [] (.bop (.add false) (.bop (.add false) (.slU false (.var 1) (.con (.int 3))) (.tup [(.var 7)])) (.slL false (.var 1) (.con (.int 4))))) :: b18_14
/-- law: 0 _law_script, 1 _law_k, 2 _law_bag_here, 3 _law_tree_here, 4 _law_thing, 5 _law_one -/
def b19_1 : List Sm := .ret (.con (.bl true)) :: []
def b19_2 : List Sm := .ret (.con (.bl false)) :: []
def b19_3 : List Sm := .ite (.cop .ne (.comp false [5] (.one 5) .seq [(.call 18 [(.var 2), (.var 3)])] [(.not (.call 17 [(.var 5)]))] (.var 5)) (.lst false [])) b19_2 [] :: []
def b19_4 : List Sm := .ret (.con (.bl false)) :: []
def b19_5 : List Sm := .ite (.or (.not (.call 17 [(.var 4)])) (.not (.call 17 [(.call 13 [(.var 2)])]))) b19_4 [] :: b19_3
def b19_6 : List Sm := .asg (.one 4) (.call 14 [(.var 2), (.var 4), (.con (.int 6))]) :: []
def b19_7 : List Sm := .ite (.cop .eq (.call 8 [(.var 2), (.con (.int 3))]) (.con (.int 0))) b19_6 [] :: b19_5
def b19_8 : List Sm := .asg (.one 4) (.call 14 [(.var 2), (.var 3), (.con (.int 6))]) :: b19_7
def b19_9 : List Sm := .ret (.con (.bl false)) :: []
def b19_10 : List Sm := .ite (.cop .isn (.call 6 [(.var 3)]) (.con (.bl true))) b19_9 [] :: b19_8
def b19_11 : List Sm := .asg (.one 3) (.call 12 [(.var 2)]) :: b19_10
def b19_12 : List Sm := .asg (.one 2) (.call 7 [(.var 0), (.var 1)]) :: b19_11
def b19 : List Sm := .forr (.one 1) .rng [(.bop (.add false) (.bi .min2 [(.bi .len [(.var 0)]), (.con (.int 63))]) (.con (.int 2)))] b19_12 :: b19_1
def tab0 : List (Nat × Fn) := [(0, ⟨1, 1, b0⟩), (1, ⟨2, 2, b1⟩), (2, ⟨1, 1, b2⟩), (3, ⟨2, 9, b3⟩), (4, ⟨1, 1, b4⟩), (5, ⟨1, 3, b5⟩), (6, ⟨1, 1, b6⟩), (7, ⟨2, 4, b7⟩), (8, ⟨2, 3, b8⟩), (9, ⟨1, 1, b9⟩), (10, ⟨3, 10, b10⟩), (11, ⟨1, 3, b11⟩), (12, ⟨1, 1, b12⟩), (13, ⟨1, 2, b13⟩), (14, ⟨3, 5, b14⟩), (15, ⟨2, 6, b15⟩), (16, ⟨1, 1, b16⟩), (17, ⟨1, 2, b17⟩), (18, ⟨2, 8, b18⟩), (19, ⟨1, 6, b19⟩)]
def tab : List (Nat × Fn) := tab0
def T (j : Nat) : Fn := (tab.lookup j).getD ⟨0, 0, []⟩
theorem T0 : T 0 = ⟨1, 1, b0⟩ := rfl
theorem T1 : T 1 = ⟨2, 2, b1⟩ := rfl
theorem T2 : T 2 = ⟨1, 1, b2⟩ := rfl
theorem T3 : T 3 = ⟨2, 9, b3⟩ := rfl
theorem T4 : T 4 = ⟨1, 1, b4⟩ := rfl
theorem T5 : T 5 = ⟨1, 3, b5⟩ := rfl
theorem T6 : T 6 = ⟨1, 1, b6⟩ := rfl
theorem T7 : T 7 = ⟨2, 4, b7⟩ := rfl
theorem T8 : T 8 = ⟨2, 3, b8⟩ := rfl
theorem T9 : T 9 = ⟨1, 1, b9⟩ := rfl
theorem T10 : T 10 = ⟨3, 10, b10⟩ := rfl
theorem T11 : T 11 = ⟨1, 3, b11⟩ := rfl
theorem T12 : T 12 = ⟨1, 1, b12⟩ := rfl
theorem T13 : T 13 = ⟨1, 2, b13⟩ := rfl
theorem T14 : T 14 = ⟨3, 5, b14⟩ := rfl
theorem T15 : T 15 = ⟨2, 6, b15⟩ := rfl
theorem T16 : T 16 = ⟨1, 1, b16⟩ := rfl
theorem T17 : T 17 = ⟨1, 2, b17⟩ := rfl
theorem T18 : T 18 = ⟨2, 8, b18⟩ := rfl
theorem T19 : T 19 = ⟨1, 6, b19⟩ := rfl
end Hd
set_option Elab.async false
set_option linter.all false
set_option maxRecDepth 100000
set_option maxHeartbeats 0
namespace Hd
open PySem PySem.Spec PyProof.Rows L2 TT
def ce0 : CE := { g := cg, N := ["thing"], sc := defScope (top 8), blk := false, hint := [], mt := [] }
theorem c0 : compSs 60 ce0 (defBody (top 8)) = some b0 := by kernel_rfl
theorem s0 : FnScope ce0.N (ps 0) (defScope (top 8)) := ⟨rfl, rfl, rfl, by decide +kernel, rfl, by decide +kernel, by decide +kernel⟩
theorem d0 {K : PySem.W.Frag} (c : SaysC fa fn cg.cons ks K) : DefB K cg (T 0) (fAt K ats 0) (ps 0) := by
  obtain ⟨fd, F⟩ := c.d.def_ 0 (d := dd0) rfl
  exact ⟨fd, ⟨⟨_, _, _, _, _, ce0.N, 60, ce0.hint, ce0.mt, F, s0, rfl, rfl, c0⟩⟩, F.bindsN (fun _ _ _ _ _ _ us hl => match us, hl with | [_], _ => rfl), F.kp, F.bindsA (fun _ _ _ _ _ _ us hl => match us, hl with | [_], _ => rfl)⟩
def ce1 : CE := { g := cg, N := ["thing", "words"], sc := defScope (top 9), blk := false, hint := [], mt := [] }
theorem c1 : compSs 60 ce1 (defBody (top 9)) = some b1 := by kernel_rfl
theorem s1 : FnScope ce1.N (ps 1) (defScope (top 9)) := ⟨rfl, rfl, rfl, by decide +kernel, rfl, by decide +kernel, by decide +kernel⟩
theorem d1 {K : PySem.W.Frag} (c : SaysC fa fn cg.cons ks K) : DefB K cg (T 1) (fAt K ats 1) (ps 1) := by
  obtain ⟨fd, F⟩ := c.d.def_ 1 (d := dd1) rfl
  exact ⟨fd, ⟨⟨_, _, _, _, _, ce1.N, 60, ce1.hint, ce1.mt, F, s1, rfl, rfl, c1⟩⟩, F.bindsN (fun _ _ _ _ _ _ us hl => match us, hl with | [_, _], _ => rfl), F.kp, F.bindsA (fun _ _ _ _ _ _ us hl => match us, hl with | [_, _], _ => rfl)⟩
def ce2 : CE := { g := cg, N := ["thing"], sc := defScope (top 10), blk := false, hint := [], mt := [] }
theorem c2 : compSs 60 ce2 (defBody (top 10)) = some b2 := by kernel_rfl
theorem s2 : FnScope ce2.N (ps 2) (defScope (top 10)) := ⟨rfl, rfl, rfl, by decide +kernel, rfl, by decide +kernel, by decide +kernel⟩
theorem d2 {K : PySem.W.Frag} (c : SaysC fa fn cg.cons ks K) : DefB K cg (T 2) (fAt K ats 2) (ps 2) := by
  obtain ⟨fd, F⟩ := c.d.def_ 2 (d := dd2) rfl
  exact ⟨fd, ⟨⟨_, _, _, _, _, ce2.N, 60, ce2.hint, ce2.mt, F, s2, rfl, rfl, c2⟩⟩, F.bindsN (fun _ _ _ _ _ _ us hl => match us, hl with | [_], _ => rfl), F.kp, F.bindsA (fun _ _ _ _ _ _ us hl => match us, hl with | [_], _ => rfl)⟩
def ce3 : CE := { g := cg, N := ["thing", "deep", "word", "kind", "way", "most", "within", "posts", "post"], sc := defScope (top 11), blk := false, hint := [], mt := [] }
theorem c3 : compSs 60 ce3 (defBody (top 11)) = some b3 := by kernel_rfl
theorem s3 : FnScope ce3.N (ps 3) (defScope (top 11)) := ⟨rfl, rfl, rfl, by decide +kernel, rfl, by decide +kernel, by decide +kernel⟩
theorem d3 {K : PySem.W.Frag} (c : SaysC fa fn cg.cons ks K) : DefB K cg (T 3) (fAt K ats 3) (ps 3) := by
  obtain ⟨fd, F⟩ := c.d.def_ 3 (d := dd3) rfl
  exact ⟨fd, ⟨⟨_, _, _, _, _, ce3.N, 60, ce3.hint, ce3.mt, F, s3, rfl, rfl, c3⟩⟩, F.bindsN (fun _ _ _ _ _ _ us hl => match us, hl with | [_, _], _ => rfl), F.kp, F.bindsA (fun _ _ _ _ _ _ us hl => match us, hl with | [_, _], _ => rfl)⟩
def ce4 : CE := { g := cg, N := ["post"], sc := defScope (top 12), blk := false, hint := [], mt := [] }
theorem c4 : compSs 60 ce4 (defBody (top 12)) = some b4 := by kernel_rfl
theorem s4 : FnScope ce4.N (ps 4) (defScope (top 12)) := ⟨rfl, rfl, rfl, by decide +kernel, rfl, by decide +kernel, by decide +kernel⟩
theorem d4 {K : PySem.W.Frag} (c : SaysC fa fn cg.cons ks K) : DefB K cg (T 4) (fAt K ats 4) (ps 4) := by
  obtain ⟨fd, F⟩ := c.d.def_ 4 (d := dd4) rfl
  exact ⟨fd, ⟨⟨_, _, _, _, _, ce4.N, 60, ce4.hint, ce4.mt, F, s4, rfl, rfl, c4⟩⟩, F.bindsN (fun _ _ _ _ _ _ us hl => match us, hl with | [_], _ => rfl), F.kp, F.bindsA (fun _ _ _ _ _ _ us hl => match us, hl with | [_], _ => rfl)⟩
def ce5 : CE := { g := cg, N := ["post", "found", "one"], sc := defScope (top 13), blk := false, hint := [], mt := [(31, 12)] }
theorem c5 : compSs 60 ce5 (defBody (top 13)) = some b5 := by kernel_rfl
theorem s5 : FnScope ce5.N (ps 5) (defScope (top 13)) := ⟨rfl, rfl, rfl, by decide +kernel, rfl, by decide +kernel, by decide +kernel⟩
theorem d5 {K : PySem.W.Frag} (c : SaysC fa fn cg.cons ks K) : DefB K cg (T 5) (fAt K ats 5) (ps 5) := by
  obtain ⟨fd, F⟩ := c.d.def_ 5 (d := dd5) rfl
  exact ⟨fd, ⟨⟨_, _, _, _, _, ce5.N, 60, ce5.hint, ce5.mt, F, s5, rfl, rfl, c5⟩⟩, F.bindsN (fun _ _ _ _ _ _ us hl => match us, hl with | [_], _ => rfl), F.kp, F.bindsA (fun _ _ _ _ _ _ us hl => match us, hl with | [_], _ => rfl)⟩
def ce6 : CE := { g := cg, N := ["thing"], sc := defScope (top 14), blk := false, hint := [], mt := [] }
theorem c6 : compSs 60 ce6 (defBody (top 14)) = some b6 := by kernel_rfl
theorem s6 : FnScope ce6.N (ps 6) (defScope (top 14)) := ⟨rfl, rfl, rfl, by decide +kernel, rfl, by decide +kernel, by decide +kernel⟩
theorem d6 {K : PySem.W.Frag} (c : SaysC fa fn cg.cons ks K) : DefB K cg (T 6) (fAt K ats 6) (ps 6) := by
  obtain ⟨fd, F⟩ := c.d.def_ 6 (d := dd6) rfl
  exact ⟨fd, ⟨⟨_, _, _, _, _, ce6.N, 60, ce6.hint, ce6.mt, F, s6, rfl, rfl, c6⟩⟩, F.bindsN (fun _ _ _ _ _ _ us hl => match us, hl with | [_], _ => rfl), F.kp, F.bindsA (fun _ _ _ _ _ _ us hl => match us, hl with | [_], _ => rfl)⟩
def ce7 : CE := { g := cg, N := ["_law_script", "_law_k", "_law_cell", "_law_seed"], sc := defScope (top 16), blk := false, hint := [], mt := [(45, 15), (46, 11)] }
theorem c7 : compSs 60 ce7 (defBody (top 16)) = some b7 := by kernel_rfl
theorem s7 : FnScope ce7.N (ps 7) (defScope (top 16)) := ⟨rfl, rfl, rfl, by decide +kernel, rfl, by decide +kernel, by decide +kernel⟩
theorem d7 {K : PySem.W.Frag} (c : SaysC fa fn cg.cons ks K) : DefB K cg (T 7) (fAt K ats 7) (ps 7) := by
  obtain ⟨fd, F⟩ := c.d.def_ 7 (d := dd7) rfl
  exact ⟨fd, ⟨⟨_, _, _, _, _, ce7.N, 60, ce7.hint, ce7.mt, F, s7, rfl, rfl, c7⟩⟩, F.bindsN (fun _ _ _ _ _ _ us hl => match us, hl with | [_, _], _ => rfl), F.kp, F.bindsA (fun _ _ _ _ _ _ us hl => match us, hl with | [_, _], _ => rfl)⟩
def ce8 : CE := { g := cg, N := ["_law_bag_here", "_law_many", "_law_found"], sc := defScope (top 17), blk := false, hint := [], mt := [] }
theorem c8 : compSs 60 ce8 (defBody (top 17)) = some b8 := by kernel_rfl
theorem s8 : FnScope ce8.N (ps 8) (defScope (top 17)) := ⟨rfl, rfl, rfl, by decide +kernel, rfl, by decide +kernel, by decide +kernel⟩
theorem d8 {K : PySem.W.Frag} (c : SaysC fa fn cg.cons ks K) : DefB K cg (T 8) (fAt K ats 8) (ps 8) := by
  obtain ⟨fd, F⟩ := c.d.def_ 8 (d := dd8) rfl
  exact ⟨fd, ⟨⟨_, _, _, _, _, ce8.N, 60, ce8.hint, ce8.mt, F, s8, rfl, rfl, c8⟩⟩, F.bindsN (fun _ _ _ _ _ _ us hl => match us, hl with | [_, _], _ => rfl), F.kp, F.bindsA (fun _ _ _ _ _ _ us hl => match us, hl with | [_, _], _ => rfl)⟩
def ce9 : CE := { g := cg, N := ["_law_bag_here"], sc := defScope (top 18), blk := false, hint := [], mt := [] }
theorem c9 : compSs 60 ce9 (defBody (top 18)) = some b9 := by kernel_rfl
theorem s9 : FnScope ce9.N (ps 9) (defScope (top 18)) := ⟨rfl, rfl, rfl, by decide +kernel, rfl, by decide +kernel, by decide +kernel⟩
theorem d9 {K : PySem.W.Frag} (c : SaysC fa fn cg.cons ks K) : DefB K cg (T 9) (fAt K ats 9) (ps 9) := by
  obtain ⟨fd, F⟩ := c.d.def_ 9 (d := dd9) rfl
  exact ⟨fd, ⟨⟨_, _, _, _, _, ce9.N, 60, ce9.hint, ce9.mt, F, s9, rfl, rfl, c9⟩⟩, F.bindsN (fun _ _ _ _ _ _ us hl => match us, hl with | [_], _ => rfl), F.kp, F.bindsA (fun _ _ _ _ _ _ us hl => match us, hl with | [_], _ => rfl)⟩
def ce10 : CE := { g := cg, N := ["_law_bag_here", "_law_left", "_law_deep", "_law_most", "_law_within", "_law_kind", "_law_posts", "_law_turn", "_law_way", "_law_one"], sc := defScope (top 19), blk := false, hint := [], mt := [(60, 17)] }
theorem c10 : compSs 60 ce10 (defBody (top 19)) = some b10 := by kernel_rfl
theorem s10 : FnScope ce10.N (ps 10) (defScope (top 19)) := ⟨rfl, rfl, rfl, by decide +kernel, rfl, by decide +kernel, by decide +kernel⟩
theorem d10 {K : PySem.W.Frag} (c : SaysC fa fn cg.cons ks K) : DefB K cg (T 10) (fAt K ats 10) (ps 10) := by
  obtain ⟨fd, F⟩ := c.d.def_ 10 (d := dd10) rfl
  exact ⟨fd, ⟨⟨_, _, _, _, _, ce10.N, 60, ce10.hint, ce10.mt, F, s10, rfl, rfl, c10⟩⟩, F.bindsN (fun _ _ _ _ _ _ us hl => match us, hl with | [_, _, _], _ => rfl), F.kp, F.bindsA (fun _ _ _ _ _ _ us hl => match us, hl with | [_, _, _], _ => rfl)⟩
def ce11 : CE := { g := cg, N := ["_law_post", "_law_found", "_law_one"], sc := defScope (top 20), blk := false, hint := [], mt := [] }
theorem c11 : compSs 60 ce11 (defBody (top 20)) = some b11 := by kernel_rfl
theorem s11 : FnScope ce11.N (ps 11) (defScope (top 20)) := ⟨rfl, rfl, rfl, by decide +kernel, rfl, by decide +kernel, by decide +kernel⟩
theorem d11 {K : PySem.W.Frag} (c : SaysC fa fn cg.cons ks K) : DefB K cg (T 11) (fAt K ats 11) (ps 11) := by
  obtain ⟨fd, F⟩ := c.d.def_ 11 (d := dd11) rfl
  exact ⟨fd, ⟨⟨_, _, _, _, _, ce11.N, 60, ce11.hint, ce11.mt, F, s11, rfl, rfl, c11⟩⟩, F.bindsN (fun _ _ _ _ _ _ us hl => match us, hl with | [_], _ => rfl), F.kp, F.bindsA (fun _ _ _ _ _ _ us hl => match us, hl with | [_], _ => rfl)⟩
def ce12 : CE := { g := cg, N := ["_law_bag_here"], sc := defScope (top 21), blk := false, hint := [], mt := [] }
theorem c12 : compSs 60 ce12 (defBody (top 21)) = some b12 := by kernel_rfl
theorem s12 : FnScope ce12.N (ps 12) (defScope (top 21)) := ⟨rfl, rfl, rfl, by decide +kernel, rfl, by decide +kernel, by decide +kernel⟩
theorem d12 {K : PySem.W.Frag} (c : SaysC fa fn cg.cons ks K) : DefB K cg (T 12) (fAt K ats 12) (ps 12) := by
  obtain ⟨fd, F⟩ := c.d.def_ 12 (d := dd12) rfl
  exact ⟨fd, ⟨⟨_, _, _, _, _, ce12.N, 60, ce12.hint, ce12.mt, F, s12, rfl, rfl, c12⟩⟩, F.bindsN (fun _ _ _ _ _ _ us hl => match us, hl with | [_], _ => rfl), F.kp, F.bindsA (fun _ _ _ _ _ _ us hl => match us, hl with | [_], _ => rfl)⟩
def ce13 : CE := { g := cg, N := ["_law_bag_here", "_law_some"], sc := defScope (top 22), blk := false, hint := [], mt := [(82, 16)] }
theorem c13 : compSs 60 ce13 (defBody (top 22)) = some b13 := by kernel_rfl
theorem s13 : FnScope ce13.N (ps 13) (defScope (top 22)) := ⟨rfl, rfl, rfl, by decide +kernel, rfl, by decide +kernel, by decide +kernel⟩
theorem d13 {K : PySem.W.Frag} (c : SaysC fa fn cg.cons ks K) : DefB K cg (T 13) (fAt K ats 13) (ps 13) := by
  obtain ⟨fd, F⟩ := c.d.def_ 13 (d := dd13) rfl
  exact ⟨fd, ⟨⟨_, _, _, _, _, ce13.N, 60, ce13.hint, ce13.mt, F, s13, rfl, rfl, c13⟩⟩, F.bindsN (fun _ _ _ _ _ _ us hl => match us, hl with | [_], _ => rfl), F.kp, F.bindsA (fun _ _ _ _ _ _ us hl => match us, hl with | [_], _ => rfl)⟩
def ce14 : CE := { g := cg, N := ["_law_bag_here", "_law_thing", "_law_deep", "_law_at", "_law_way"], sc := defScope (top 23), blk := false, hint := [], mt := [] }
theorem c14 : compSs 60 ce14 (defBody (top 23)) = some b14 := by kernel_rfl
theorem s14 : FnScope ce14.N (ps 14) (defScope (top 23)) := ⟨rfl, rfl, rfl, by decide +kernel, rfl, by decide +kernel, by decide +kernel⟩
theorem d14 {K : PySem.W.Frag} (c : SaysC fa fn cg.cons ks K) : DefB K cg (T 14) (fAt K ats 14) (ps 14) := by
  obtain ⟨fd, F⟩ := c.d.def_ 14 (d := dd14) rfl
  exact ⟨fd, ⟨⟨_, _, _, _, _, ce14.N, 60, ce14.hint, ce14.mt, F, s14, rfl, rfl, c14⟩⟩, F.bindsN (fun _ _ _ _ _ _ us hl => match us, hl with | [_, _, _], _ => rfl), F.kp, F.bindsA (fun _ _ _ _ _ _ us hl => match us, hl with | [_, _, _], _ => rfl)⟩
def ce15 : CE := { g := cg, N := ["_law_thing", "_law_deep", "_law_number", "_law_least", "_law_most", "_law_one"], sc := defScope (top 24), blk := false, hint := [], mt := [] }
theorem c15 : compSs 60 ce15 (defBody (top 24)) = some b15 := by kernel_rfl
theorem s15 : FnScope ce15.N (ps 15) (defScope (top 24)) := ⟨rfl, rfl, rfl, by decide +kernel, rfl, by decide +kernel, by decide +kernel⟩
theorem d15 {K : PySem.W.Frag} (c : SaysC fa fn cg.cons ks K) : DefB K cg (T 15) (fAt K ats 15) (ps 15) := by
  obtain ⟨fd, F⟩ := c.d.def_ 15 (d := dd15) rfl
  exact ⟨fd, ⟨⟨_, _, _, _, _, ce15.N, 60, ce15.hint, ce15.mt, F, s15, rfl, rfl, c15⟩⟩, F.bindsN (fun _ _ _ _ _ _ us hl => match us, hl with | [_, _], _ => rfl), F.kp, F.bindsA (fun _ _ _ _ _ _ us hl => match us, hl with | [_, _], _ => rfl)⟩
def ce16 : CE := { g := cg, N := ["_law_thing"], sc := defScope (top 25), blk := false, hint := [], mt := [] }
theorem c16 : compSs 60 ce16 (defBody (top 25)) = some b16 := by kernel_rfl
theorem s16 : FnScope ce16.N (ps 16) (defScope (top 25)) := ⟨rfl, rfl, rfl, by decide +kernel, rfl, by decide +kernel, by decide +kernel⟩
theorem d16 {K : PySem.W.Frag} (c : SaysC fa fn cg.cons ks K) : DefB K cg (T 16) (fAt K ats 16) (ps 16) := by
  obtain ⟨fd, F⟩ := c.d.def_ 16 (d := dd16) rfl
  exact ⟨fd, ⟨⟨_, _, _, _, _, ce16.N, 60, ce16.hint, ce16.mt, F, s16, rfl, rfl, c16⟩⟩, F.bindsN (fun _ _ _ _ _ _ us hl => match us, hl with | [_], _ => rfl), F.kp, F.bindsA (fun _ _ _ _ _ _ us hl => match us, hl with | [_], _ => rfl)⟩
def ce17 : CE := { g := cg, N := ["_law_thing", "_law_found"], sc := defScope (top 26), blk := false, hint := [], mt := [] }
theorem c17 : compSs 60 ce17 (defBody (top 26)) = some b17 := by kernel_rfl
theorem s17 : FnScope ce17.N (ps 17) (defScope (top 26)) := ⟨rfl, rfl, rfl, by decide +kernel, rfl, by decide +kernel, by decide +kernel⟩
theorem d17 {K : PySem.W.Frag} (c : SaysC fa fn cg.cons ks K) : DefB K cg (T 17) (fAt K ats 17) (ps 17) := by
  obtain ⟨fd, F⟩ := c.d.def_ 17 (d := dd17) rfl
  exact ⟨fd, ⟨⟨_, _, _, _, _, ce17.N, 60, ce17.hint, ce17.mt, F, s17, rfl, rfl, c17⟩⟩, F.bindsN (fun _ _ _ _ _ _ us hl => match us, hl with | [_], _ => rfl), F.kp, F.bindsA (fun _ _ _ _ _ _ us hl => match us, hl with | [_], _ => rfl)⟩
def ce18 : CE := { g := cg, N := ["_law_bag_here", "_law_tree_here", "_law_some", "_law_wide", "_law_many", "_law_one", "_law_turn", "_law_number"], sc := defScope (top 27), blk := false, hint := [], mt := [(122, 16)] }
theorem c18 : compSs 60 ce18 (defBody (top 27)) = some b18 := by kernel_rfl
theorem s18 : FnScope ce18.N (ps 18) (defScope (top 27)) := ⟨rfl, rfl, rfl, by decide +kernel, rfl, by decide +kernel, by decide +kernel⟩
theorem d18 {K : PySem.W.Frag} (c : SaysC fa fn cg.cons ks K) : DefB K cg (T 18) (fAt K ats 18) (ps 18) := by
  obtain ⟨fd, F⟩ := c.d.def_ 18 (d := dd18) rfl
  exact ⟨fd, ⟨⟨_, _, _, _, _, ce18.N, 60, ce18.hint, ce18.mt, F, s18, rfl, rfl, c18⟩⟩, F.bindsN (fun _ _ _ _ _ _ us hl => match us, hl with | [_, _], _ => rfl), F.kp, F.bindsA (fun _ _ _ _ _ _ us hl => match us, hl with | [_, _], _ => rfl)⟩
def ce19 : CE := { g := cg, N := ["_law_script", "_law_k", "_law_bag_here", "_law_tree_here", "_law_thing", "_law_one"], sc := defScope (top 28), blk := false, hint := [], mt := [] }
theorem c19 : compSs 60 ce19 (defBody (top 28)) = some b19 := by kernel_rfl
theorem s19 : FnScope ce19.N (ps 19) (defScope (top 28)) := ⟨rfl, rfl, rfl, by decide +kernel, rfl, by decide +kernel, by decide +kernel⟩
theorem d19 {K : PySem.W.Frag} (c : SaysC fa fn cg.cons ks K) : DefB K cg (T 19) (fAt K ats 19) (ps 19) := by
  obtain ⟨fd, F⟩ := c.d.def_ 19 (d := dd19) rfl
  exact ⟨fd, ⟨⟨_, _, _, _, _, ce19.N, 60, ce19.hint, ce19.mt, F, s19, rfl, rfl, c19⟩⟩, F.bindsN (fun _ _ _ _ _ _ us hl => match us, hl with | [_], _ => rfl), F.kp, F.bindsA (fun _ _ _ _ _ _ us hl => match us, hl with | [_], _ => rfl)⟩
theorem dAll {K : PySem.W.Frag} (c : SaysC fa fn cg.cons ks K) : ∀ j ∈ ats.map (·.1), DefB K cg (T j) (fAt K ats j) (ps j) :=
  show ∀ j ∈ [0, 1, 2, 3, 4, 5, 6, 7, 8, 9, 10, 11, 12, 13, 14, 15, 16, 17, 18, 19], _ from (all_cons (d0 c) (all_cons (d1 c) (all_cons (d2 c) (all_cons (d3 c) (all_cons (d4 c) (all_cons (d5 c) (all_cons (d6 c) (all_cons (d7 c) (all_cons (d8 c) (all_cons (d9 c) (all_cons (d10 c) (all_cons (d11 c) (all_cons (d12 c) (all_cons (d13 c) (all_cons (d14 c) (all_cons (d15 c) (all_cons (d16 c) (all_cons (d17 c) (all_cons (d18 c) (all_cons (d19 c) all_nil))))))))))))))))))))
theorem ck : chk cg fa cg.cons ats = true := by kernel_rfl
end Hd
set_option Elab.async false
set_option linter.all false
set_option maxRecDepth 100000
set_option maxHeartbeats 1000000
set_option pp.maxSteps 1200
/-! P0: bags. -/
namespace TT
theorem ei {α : Type} {p q : α → Prop} (w : α) (h : p w) (k : q w) : ∃ x, p x ∧ q x := ⟨w, h, k⟩
theorem vlit_t {P Q : Prop} (h : P) : vTest true P Q := vif_t rfl h
theorem vlit_f {P Q : Prop} (h : Q) : vTest false P Q := vif_f rfl h
end TT
namespace Hd
open PySem PySem.Spec PyProof.Rows L2 TT
set_option pp.deepTerms false
set_option pp.deepTerms.threshold 4
local macro_rules | `(tactic| walk_at "m") => `(tactic| first | with_reducible exact mset_same | with_reducible assumption | (with_reducible refine Eq.trans (mset_ne ?_) ?_; (first | assumption | (apply Ne.symm; assumption)); walk_at "m"))
local macro_rules | `(tactic| walk_at "c") => `(tactic| first | trivial | omega | assumption | (refine' ei _ ?_ ?_; rotate_left; (focus (walk_at "m")); rfl) | (refine And.intro ?_ ?_ <;> first | omega | decide | assumption | exact isiC_of rfl | exact isiC_of (by assumption) | exact isiC_lst (by assumption)) | (refine Or.inr ?_; constructor <;> omega) | (refine Or.inl ?_; constructor <;> omega) | decide)
local macro_rules | `(tactic| walk_at "s") => `(tactic| first | (refine' ei _ ?_ ?_; rotate_left; (focus (first | walk_at "m" | rfl)); walk_at "s") | (refine And.intro ?_ ?_; (focus (walk_at "c")); walk_at "s") | (refine vlit_t ?_; walk_at "s") | (refine vlit_f ?_; walk_at "s") | (try conv => whnf))
local macro_rules | `(tactic| walk_at "t") => `(tactic| first | (refine vif_t rfl ?_; walk_at "s") | (refine vif_f rfl ?_; walk_at "s") | (refine vif_t (by decide +kernel) ?_; walk_at "s") | (refine vif_f (by decide +kernel) ?_; walk_at "s"))
/-! ### what stands in memory -/
theorem mset_none {M : Mp} {a b : Addr} {o : MO} (h : mset M b o a = none) : a ≠ b ∧ M a = none := by
  unfold mset at h; split at h
  · cases h
  · rename_i e; exact ⟨e, h⟩
theorem mdel_ne {M : Mp} {a b : Addr} {o : MO} (h : a ≠ b) : mdel (mset M b o) a = mset (mdel M a) b o := by
  funext x
  show (if x = a then none else if x = b then some o else M x) = if x = b then some o else if x = a then none else M x
  by_cases h1 : x = a
  · subst h1; rw [if_pos rfl, if_neg h, if_pos rfl]
  · rw [if_neg h1, if_neg h1]
theorem at_nat {xs : List D} {k : Nat} : atI xs (k : Int) = xs[k]? := by
  unfold atI ixN
  by_cases h : k < xs.length
  · rw [if_pos (by omega), if_pos (by omega)] <;> rfl
  · rw [if_pos (by omega), if_neg (by omega), List.getElem?_eq_none (by omega)] <;> rfl
section
variable {N : Nat} {M : Mp} {Q : KQ} {X : KX} {b : Addr} {c s : Int}
def bag (c s : Int) : MO := .lst [.int c, .int s]
def SmallI (m : Int) : Prop := 0 < m ∧ m.natAbs.log2 < 9000
theorem smallI {m : Int} (h0 : 0 < m) (h1 : m < 1073741824) : SmallI m := ⟨h0, by
  by_cases h : m.natAbs = 0
  · omega
  · have := (Nat.log2_lt h (k := 30)).mpr (by omega); omega⟩
theorem sp_take {m : Int} (hN : 1 ≤ N) (hm : SmallI m) (q : ∀ v c' s', 0 ≤ v → v < m → Q (.int v) (mset M b (bag c' s'))) : callI T N 8 [.ref b, .int m] (mset M b (bag c s)) Q X := by
  have h0 := hm.1
  have hw : CDivW c m := hm
  refine call_v (N := N) (n := N - 1) (np := 2) (nn := 3) (b := b8) (ρ := [some (.ref b), some (.int m), none]) (by omega) T8 rfl rfl ?_
  walk_at "s"
  refine vifp (fun h => ?_) (fun h => ?_)
  · walk_at "s"
    refine ve ?_
    rw [mset_mset]
    exact q _ _ _ (Int.emod_nonneg _ (by omega)) (Int.emod_lt_of_pos _ h0)
  · walk_at "s"
    refine ve ?_
    rw [mset_mset]
    exact q _ _ _ (Int.emod_nonneg _ (by omega)) (Int.emod_lt_of_pos _ h0)
theorem sp_bag {ns : List Int} {k : Nat} (hN : 1 ≤ N) (hk : k ≤ 10000) (q : ∀ b c s, M b = none → Q (.ref b) (mset M b (bag c s))) : callI T N 7 [.scr ns, .int (k : Nat)] M Q X := by
  refine call_v (N := N) (n := N - 1) (np := 2) (nn := 4) (b := b7) (ρ := [some (.scr ns), some (.int (k : Nat)), none, none]) (by omega) T7 rfl rfl ?_
  walk_at "s"
  refine vifp (fun h => ?_) (fun h => ?_)
  · have e : atI (ns.map D.int) (k : Nat) = some (.int ns[k]) := by
      rw [at_nat, List.getElem?_map, List.getElem?_eq_getElem (by omega)] <;> rfl
    refine ei _ e ?_
    walk_at "s"
    refine vif (fun _ => ?_) (fun _ => ?_) <;> (walk_at "s"; intro a ha; walk_at "s"; exact ve (q _ _ _ ha))
  · walk_at "s"
    intro a ha
    walk_at "s"
    exact ve (q _ _ _ ha)
end
end Hd
set_option Elab.async false
set_option linter.all false
set_option maxRecDepth 100000
set_option maxHeartbeats 1000000
set_option pp.maxSteps 1200
/-! P1: posts, trees; how the laws draw them. -/
namespace Hd
open PySem PySem.Spec PyProof.Rows L2 TT
set_option pp.deepTerms false
set_option pp.deepTerms.threshold 4
local macro_rules | `(tactic| walk_at "m") => `(tactic| first | with_reducible exact mset_same | with_reducible assumption | (with_reducible refine Eq.trans (mset_ne ?_) ?_; (first | assumption | (apply Ne.symm; assumption)); walk_at "m"))
local macro_rules | `(tactic| walk_at "c") => `(tactic| first | trivial | omega | assumption | (refine' ei _ ?_ ?_; rotate_left; (focus (walk_at "m")); rfl) | (refine And.intro ?_ ?_ <;> first | omega | decide | assumption | exact isiC_of rfl | exact isiC_of (by assumption) | exact isiC_lst (by assumption)) | (refine Or.inr ?_; constructor <;> omega) | (refine Or.inl ?_; constructor <;> omega) | decide)
local macro_rules | `(tactic| walk_at "s") => `(tactic| first | (refine' ei _ ?_ ?_; rotate_left; (focus (first | walk_at "m" | rfl)); walk_at "s") | (refine And.intro ?_ ?_; (focus (walk_at "c")); walk_at "s") | (refine vlit_t ?_; walk_at "s") | (refine vlit_f ?_; walk_at "s") | (try conv => whnf))
local macro_rules | `(tactic| walk_at "t") => `(tactic| first | (refine vif_t rfl ?_; walk_at "s") | (refine vif_f rfl ?_; walk_at "s") | (refine vif_t (by decide +kernel) ?_; walk_at "s") | (refine vif_f (by decide +kernel) ?_; walk_at "s"))
inductive Kd where
  | always | fault | once
  deriving DecidableEq
inductive Wy where
  | one | all | behind
  deriving DecidableEq
def Kd.s : Kd → Str
  | .always => w_always
  | .fault => w_fault
  | .once => w_once
def Wy.s : Wy → Str
  | .one => w_one
  | .all => w_all
  | .behind => w_behind
inductive P where
  | wk (k : Kd)
  | wt (k : Kd) (y : Wy) (m w : Int) (ps : List P)
def P.kind : P → Kd
  | .wk k => k
  | .wt k _ _ _ _ => k
def P.kids : P → List P
  | .wk _ => []
  | .wt _ _ _ _ ps => ps
def P.isT : P → Bool
  | .wk _ => false
  | .wt .. => true
mutual
def P.d : P → D
  | .wk k => .tup [.str w_worker, .str k.s]
  | .wt k y m w ps => .tup [.str w_watcher, .str k.s, .str y.s, .int m, .int w, .tup (P.ds ps)]
def P.ds : List P → List D
  | [] => []
  | p :: ps => p.d :: P.ds ps
end
theorem P.ds_eq : ∀ ps : List P, P.ds ps = ps.map P.d
  | [] => rfl
  | p :: ps => by unfold P.ds; rw [P.ds_eq ps]; rfl
mutual
def P.all : P → List P
  | .wk k => [.wk k]
  | .wt k y m w ps => .wt k y m w ps :: P.alls ps
def P.alls : List P → List P
  | [] => []
  | p :: ps => p.all ++ P.alls ps
end
def P.size (p : P) : Nat := p.all.length
theorem P.alls_append : ∀ ps qs : List P, P.alls (ps ++ qs) = P.alls ps ++ P.alls qs
  | [], qs => rfl
  | p :: ps, qs => by
    show p.all ++ P.alls (ps ++ qs) = (p.all ++ P.alls ps) ++ P.alls qs
    rw [P.alls_append ps qs, List.append_assoc]
mutual
def P.ok : Nat → P → Bool
  | _, .wk _ => true
  | k, .wt _ _ m w ps => (match k with
    | 0 => false
    | k + 1 => decide (0 ≤ m ∧ m ≤ 20 ∧ 1 ≤ w ∧ w ≤ 100 ∧ ps.length ≤ 8) && P.oks k ps)
def P.oks : Nat → List P → Bool
  | _, [] => true
  | k, p :: ps => p.ok k && P.oks k ps
end
theorem P.oks_iff {k : Nat} : ∀ {ps : List P}, P.oks k ps = true ↔ ∀ p ∈ ps, p.ok k = true
  | [] => by simp [P.oks]
  | p :: ps => by simp only [P.oks, Bool.and_eq_true, P.oks_iff (ps := ps), List.forall_mem_cons]
theorem P.ok_wt {k : Nat} {kd : Kd} {y : Wy} {m w : Int} {ps : List P} : (P.wt kd y m w ps).ok (k + 1) = true ↔ (0 ≤ m ∧ m ≤ 20 ∧ 1 ≤ w ∧ w ≤ 100 ∧ ps.length ≤ 8) ∧ ∀ p ∈ ps, p.ok k = true := by
  simp only [P.ok, Bool.and_eq_true, decide_eq_true_eq, P.oks_iff]
theorem P.ok_wt' {k : Nat} {kd : Kd} {y : Wy} {m w : Int} {ps : List P} (h : (P.wt kd y m w ps).ok k = true) : ∃ j, k = j + 1 ∧ (0 ≤ m ∧ m ≤ 20 ∧ 1 ≤ w ∧ w ≤ 100 ∧ ps.length ≤ 8) ∧ ∀ p ∈ ps, p.ok j = true := by
  cases k with
  | zero => simp only [P.ok] at h; cases h
  | succ k => exact ⟨k, rfl, P.ok_wt.mp h⟩
theorem strOk_k (k : Kd) : PyData.strOk k.s = true := by cases k <;> decide +kernel
theorem strOk_y (k : Wy) : PyData.strOk k.s = true := by cases k <;> decide +kernel
mutual
theorem P.ok_mono : ∀ {k k' : Nat} (p : P), p.ok k = true → k ≤ k' → p.ok k' = true
  | _, _, .wk _, _, _ => by simp only [P.ok]
  | k, k', .wt _ _ m w ps, h, hk => by
    obtain ⟨j, rfl, h1, h2⟩ := P.ok_wt' h
    obtain ⟨j', rfl⟩ : ∃ j', k' = j' + 1 := ⟨k' - 1, by omega⟩
    exact P.ok_wt.mpr ⟨h1, P.oks_iff.mp (P.oks_mono ps (P.oks_iff.mpr h2) (by omega))⟩
theorem P.oks_mono : ∀ {k k' : Nat} (ps : List P), P.oks k ps = true → k ≤ k' → P.oks k' ps = true
  | _, _, [], _, _ => by simp only [P.oks]
  | k, k', p :: ps, h, hk => by
    simp only [P.oks, Bool.and_eq_true] at h ⊢
    exact ⟨P.ok_mono p h.1 hk, P.oks_mono ps h.2 hk⟩
end
mutual
theorem P.okd : ∀ {k : Nat} (p : P), p.ok k = true → okD (2 * k + 1) p.d = true
  | k, .wk kd, _ => by simp only [P.d, okD, okDs, Bool.and_true, Bool.and_eq_true]; exact ⟨by decide +kernel, strOk_k kd⟩
  | k, .wt kd y m w ps, h => by
    obtain ⟨j, rfl, h1, h2⟩ := P.ok_wt' h
    have h3 := P.okds ps (P.oks_iff.mpr h2)
    have e : 2 * (j + 1) + 1 = (2 * j + 1) + 1 + 1 := by omega
    rw [e]
    simp only [P.d, okD, okDs, Bool.and_true, Bool.and_eq_true, true_and]
    exact ⟨by decide +kernel, strOk_k kd, strOk_y y, h3⟩
theorem P.okds : ∀ {k : Nat} (ps : List P), P.oks k ps = true → okDs (2 * k + 1) (P.ds ps) = true
  | _, [], _ => by simp only [P.ds, okDs]
  | k, p :: ps, h => by
    simp only [P.oks, Bool.and_eq_true] at h
    simp only [P.ds, okDs, Bool.and_eq_true]
    exact ⟨P.okd p h.1, P.okds ps h.2⟩
end
def manyP : Nat → Nat
  | 0 => 1
  | k + 1 => 1 + 8 * manyP k
theorem manyP_le : ∀ {k : Nat}, k ≤ 6 → manyP k ≤ 299593
  | 0, _ => by decide
  | 1, _ => by decide
  | 2, _ => by decide
  | 3, _ => by decide
  | 4, _ => by decide
  | 5, _ => by decide
  | 6, _ => by decide
  | k + 7, h => by omega
mutual
theorem P.size_le : ∀ {k : Nat} (p : P), p.ok k = true → p.all.length ≤ manyP k
  | k, .wk _, _ => by simp only [P.all, List.length_singleton]; cases k <;> simp [manyP]
  | k, .wt _ _ _ _ ps, h => by
    obtain ⟨j, rfl, h1, h2⟩ := P.ok_wt' h
    have h3 := P.sizes_le ps (P.oks_iff.mpr h2)
    have h4 : ps.length * manyP j ≤ 8 * manyP j := Nat.mul_le_mul_right _ h1.2.2.2.2
    simp only [P.all, List.length_cons, manyP]; omega
theorem P.sizes_le : ∀ {k : Nat} (ps : List P), P.oks k ps = true → (P.alls ps).length ≤ ps.length * manyP k
  | _, [], _ => by simp [P.alls]
  | k, p :: ps, h => by
    simp only [P.oks, Bool.and_eq_true] at h
    have h1 := P.size_le p h.1
    have h2 := P.sizes_le ps h.2
    simp only [P.alls, List.length_append, List.length_cons, Nat.add_mul]; omega
end
theorem P.sz {k : Nat} {p : P} (h : p.ok k = true) (hk : k ≤ 6) : p.all.length ≤ 299593 := Nat.le_trans (P.size_le p h) (manyP_le hk)
theorem P.szs {k : Nat} {ps : List P} (h : ∀ p ∈ ps, p.ok k = true) (hk : k ≤ 6) (hl : ps.length ≤ 8) : (P.alls ps).length ≤ 2396744 := by
  have h1 := P.sizes_le ps (P.oks_iff.mpr h)
  have h2 := Nat.mul_le_mul_right (manyP k) hl
  have h3 := manyP_le hk
  omega
section
variable {N : Nat} {M : Mp} {Q : KQ} {X : KX} {b : Addr} {c s : Int}
theorem at_kd {v : Int} (h0 : 0 ≤ v) (h1 : v < 4) : ∃ k : Kd, atI [D.str w_always, .str w_fault, .str w_once, .str w_always] v = some (.str k.s) := by
  have hv : v = 0 ∨ v = 1 ∨ v = 2 ∨ v = 3 := by omega
  rcases hv with rfl | rfl | rfl | rfl
  · exact ⟨.always, rfl⟩
  · exact ⟨.fault, rfl⟩
  · exact ⟨.once, rfl⟩
  · exact ⟨.always, rfl⟩
theorem at_wy {v : Int} (h0 : 0 ≤ v) (h1 : v < 3) : ∃ k : Wy, atI [D.str w_one, .str w_all, .str w_behind] v = some (.str k.s) := by
  have hv : v = 0 ∨ v = 1 ∨ v = 2 := by omega
  rcases hv with rfl | rfl | rfl
  · exact ⟨.one, rfl⟩
  · exact ⟨.all, rfl⟩
  · exact ⟨.behind, rfl⟩
theorem sp_law_worker (hN : 2 ≤ N) (q : ∀ k c' s', Q (P.wk k).d (mset M b (bag c' s'))) : callI T N 9 [.ref b] (mset M b (bag c s)) Q X := by
  refine call_v (N := N) (n := N - 1) (np := 1) (nn := 1) (b := b9) (ρ := [some (.ref b)]) (by omega) T9 rfl rfl ?_
  walk_at "s"
  refine sp_take (by omega) (smallI (by decide) (by decide)) fun v c' s' h0 h1 => ?_
  walk_at "s"
  obtain ⟨k, e⟩ := at_kd h0 h1
  refine ei _ e ?_
  walk_at "s"
  exact ve (q k _ _)
theorem alls_one (kd : Kd) : (P.wk kd).all = [.wk kd] := by simp only [P.all]
theorem alls_cons {kd : Kd} {y : Wy} {m w : Int} {ps : List P} : (P.wt kd y m w ps).all = .wt kd y m w ps :: P.alls ps := by simp only [P.all]
theorem acc_len {acc q ps : List P} {p : P} {qs : List P} (e : acc ++ P.alls (p :: qs) = P.alls ps) : acc.length + p.all.length ≤ (P.alls ps).length := by
  have := congrArg List.length e
  simp only [P.alls, List.length_append] at this
  omega
theorem sp_law_all : ∀ (k : Nat) {N : Nat} {M : Mp} {Q : KQ} {X : KX} {p : P}, p.ok k = true → k ≤ 6 → k + 1 ≤ N → Q (.lst (p.all.map P.d)) M → callI T N 11 [p.d] M Q X := by
  intro k
  induction k with
  | zero => ?_
  | succ k ih => ?_
  all_goals
    intro N M Q X p hp hk hN q
    cases p with
    | wk kd => ?_
    | wt kd y m w ps => ?_
  · refine call_v (N := N) (n := N - 1) (np := 1) (nn := 3) (b := b11) (ρ := [some ((P.wk kd).d), none, none]) (by omega) T11 rfl rfl ?_
    walk_at "s"
    try walk_at "t"
    exact ve (by rw [alls_one] at q; exact q)
  · obtain ⟨j, e, _⟩ := P.ok_wt' hp
    cases e
  · refine call_v (N := N) (n := N - 1) (np := 1) (nn := 3) (b := b11) (ρ := [some ((P.wk kd).d), none, none]) (by omega) T11 rfl rfl ?_
    walk_at "s"
    try walk_at "t"
    exact ve (by rw [alls_one] at q; exact q)
  · obtain ⟨h1, h2⟩ := P.ok_wt.mp hp
    have hz := P.szs h2 (by omega) h1.2.2.2.2
    refine call_v (N := N) (n := N - 1) (np := 1) (nn := 3) (b := b11) (ρ := [some ((P.wt kd y m w ps).d), none, none]) (by omega) T11 rfl rfl ?_
    walk_at "s"
    try walk_at "t"
    refine vfor P.d (fun qs ρ M' => ∃ acc o, ρ = [some (P.wt kd y m w ps).d, some (.lst ((P.wt kd y m w ps).d :: acc.map P.d)), o] ∧ M' = M ∧ acc ++ P.alls qs = P.alls ps ∧ ∀ p ∈ qs, p.ok k = true)
      ps (P.ds_eq ps) ⟨[], none, rfl, rfl, rfl, h2⟩ (fun _ _ _ _ => trivial) ?_ ?_
    · rintro ρ M' ⟨acc, o, rfl, rfl, e, _⟩
      walk_at "s"
      refine ve ?_
      rw [alls_cons] at q
      rw [show acc = P.alls ps by simpa [P.alls] using e]
      exact q
    · rintro p qs ρ M' ⟨acc, o, rfl, rfl, e, h3⟩
      obtain ⟨h4, h5⟩ := List.forall_mem_cons.mp h3
      have hl := acc_len (q := []) e
      walk_at "s"
      refine ih h4 (by omega) (by omega) ?_
      walk_at "s"
      refine And.intro (by simp [sizeLine]; omega) ?_
      walk_at "s"
      exact vd ⟨acc ++ p.all, some p.d, by simp, rfl, by rw [← e]; simp [P.alls], h5⟩
theorem sp_is_watcher {p : P} (hN : 1 ≤ N) (q : Q (.bl p.isT) M) : callI T N 4 [p.d] M Q X := by
  cases p with
  | wk kd =>
    refine call_v (N := N) (n := N - 1) (np := 1) (nn := 1) (b := b4) (ρ := [some ((P.wk kd).d)]) (by omega) T4 rfl rfl ?_
    walk_at "s"
    rw [show notB false (decide (w_worker = w_watcher)) = false by decide +kernel]
    exact ve q
  | wt kd y m w ps =>
    refine call_v (N := N) (n := N - 1) (np := 1) (nn := 1) (b := b4) (ρ := [some ((P.wt kd y m w ps).d)]) (by omega) T4 rfl rfl ?_
    walk_at "s"
    rw [show notB false (decide (w_watcher = w_watcher)) = true by decide +kernel]
    exact ve q
theorem sub_same {a : Addr} {ds : List D} : (D.ref a).sub a ds = .lst ds := by
  show (if a = a then D.lst ds else .ref a) = .lst ds
  rw [if_pos rfl]
theorem sp_all_posts : ∀ (k : Nat) {N : Nat} {M : Mp} {Q : KQ} {X : KX} {p : P}, p.ok k = true → k ≤ 6 → k + 2 ≤ N → Q (.lst (p.all.map P.d)) M → callI T N 5 [p.d] M Q X := by
  intro k
  induction k with
  | zero => ?_
  | succ k ih => ?_
  all_goals
    intro N M Q X p hp hk hN q
    cases p with
    | wk kd => ?_
    | wt kd y m w ps => ?_
  · refine call_v (N := N) (n := N - 1) (np := 1) (nn := 3) (b := b5) (ρ := [some ((P.wk kd).d), none, none]) (by omega) T5 rfl rfl ?_
    walk_at "s"
    intro a ha
    walk_at "s"
    refine sp_is_watcher (by omega) ?_
    walk_at "s"
    try walk_at "t"
    refine ve_freeze a mset_same ?_
    rw [sub_same, mdel_mset ha]
    exact ve (by rw [alls_one] at q; exact q)
  · obtain ⟨j, e, _⟩ := P.ok_wt' hp
    cases e
  · refine call_v (N := N) (n := N - 1) (np := 1) (nn := 3) (b := b5) (ρ := [some ((P.wk kd).d), none, none]) (by omega) T5 rfl rfl ?_
    walk_at "s"
    intro a ha
    walk_at "s"
    refine sp_is_watcher (by omega) ?_
    walk_at "s"
    try walk_at "t"
    refine ve_freeze a mset_same ?_
    rw [sub_same, mdel_mset ha]
    exact ve (by rw [alls_one] at q; exact q)
  · obtain ⟨h1, h2⟩ := P.ok_wt.mp hp
    have hz := P.szs h2 (by omega) h1.2.2.2.2
    refine call_v (N := N) (n := N - 1) (np := 1) (nn := 3) (b := b5) (ρ := [some ((P.wt kd y m w ps).d), none, none]) (by omega) T5 rfl rfl ?_
    walk_at "s"
    intro a ha
    walk_at "s"
    refine sp_is_watcher (by omega) ?_
    walk_at "s"
    try walk_at "t"
    refine vfor P.d (fun qs ρ M' => ∃ acc o, ρ = [some (P.wt kd y m w ps).d, some (.ref a), o] ∧ M' = mset M a (.lst ((P.wt kd y m w ps).d :: acc.map P.d)) ∧ acc ++ P.alls qs = P.alls ps ∧ ∀ p ∈ qs, p.ok k = true)
      ps (P.ds_eq ps) ⟨[], none, rfl, rfl, rfl, h2⟩ (fun _ _ _ _ => trivial) ?_ ?_
    · rintro ρ M' ⟨acc, o, rfl, rfl, e, _⟩
      walk_at "s"
      refine ve_freeze a mset_same ?_
      rw [sub_same, mdel_mset ha]
      refine ve ?_
      rw [alls_cons] at q
      rw [show acc = P.alls ps by simpa [P.alls] using e]
      exact q
    · rintro p qs ρ M' ⟨acc, o, rfl, rfl, e, h3⟩
      obtain ⟨h4, h5⟩ := List.forall_mem_cons.mp h3
      have hl := acc_len (q := []) e
      walk_at "s"
      refine ih h4 (by omega) (by omega) ?_
      walk_at "s"
      refine And.intro (by simp [sizeLine]; omega) ?_
      walk_at "s"
      exact vd ⟨acc ++ p.all, some p.d, by simp, by rw [mset_mset]; simp, by rw [← e]; simp [P.alls], h5⟩
structure PW (j : Nat) (left : Int) (p : P) : Prop where
  ok : p.ok (j + 1) = true
  many : (p.all.length : Int) ≤ left
  isT : p.isT = true
def SpW (j : Nat) : Prop := ∀ {N : Nat} {M : Mp} {Q : KQ} {X : KX} {b : Addr} {c s left : Int}, j + 3 ≤ N → 1 ≤ left → left ≤ 1000 → (∀ p c' s', PW j left p → Q p.d (mset M b (bag c' s'))) → callI T N 10 [.ref b, .int left, .int ((j : Int) + 1)] (mset M b (bag c s)) Q X
theorem small_of {v : Int} (h : v = 0 ∨ v = 1 ∨ v = 2 ∨ v = 3 ∨ v = 4 ∨ v = 5) {a : Int} (h0 : 0 ≤ a) (h1 : a < 21) : ∃ m, atI [D.int 0, .int 1, .int 2, .int 3, .int 20, .int a] v = some (.int m) ∧ 0 ≤ m ∧ m ≤ 20 := by
  rcases h with rfl | rfl | rfl | rfl | rfl | rfl
  · exact ⟨0, rfl, by decide, by decide⟩
  · exact ⟨1, rfl, by decide, by decide⟩
  · exact ⟨2, rfl, by decide, by decide⟩
  · exact ⟨3, rfl, by decide, by decide⟩
  · exact ⟨20, rfl, by decide, by decide⟩
  · exact ⟨a, rfl, h0, by omega⟩
theorem within_of {v : Int} (h : v = 0 ∨ v = 1 ∨ v = 2 ∨ v = 3 ∨ v = 4) {a : Int} (h0 : 0 ≤ a) (h1 : a < 100) : ∃ m, atI [D.int 1, .int 2, .int 5, .int 100, .int (1 + a)] v = some (.int m) ∧ 1 ≤ m ∧ m ≤ 100 := by
  rcases h with rfl | rfl | rfl | rfl | rfl
  · exact ⟨1, rfl, by decide, by decide⟩
  · exact ⟨2, rfl, by decide, by decide⟩
  · exact ⟨5, rfl, by decide, by decide⟩
  · exact ⟨100, rfl, by decide, by decide⟩
  · exact ⟨1 + a, rfl, by omega, by omega⟩
theorem nine_of {v : Int} (h : v = 0 ∨ v = 1) : ∃ m, atI [D.int 4, .int 9] v = some (.int m) ∧ 0 < m ∧ m ≤ 9 := by
  rcases h with rfl | rfl
  · exact ⟨4, rfl, by decide, by decide⟩
  · exact ⟨9, rfl, by decide, by decide⟩
def IW (M : Mp) (b a : Addr) (j : Nat) (m w : Int) (kd : Kd) (left : Int) (ds : List Int) (ρ : TT.Env) (M' : Mp) : Prop := ∃ left' acc o7 o9 c s, ρ = [some (.ref b), some (.int left'), some (.int ((j : Int) + 1)), some (.int m), some (.int w), some (.str kd.s), some (.ref a), o7, none, o9] ∧ M' = mset (mset M a (.lst (acc.map P.d))) b (bag c s) ∧ 0 ≤ left' ∧ ((P.alls acc).length : Int) + left' = left - 1 ∧ acc.length + ds.length ≤ 8 ∧ ∀ p ∈ acc, p.ok j = true
theorem spw_step (j : Nat) (hj : j ≤ 5) (ih : ∀ i, j = i + 1 → SpW i) : SpW j := by
  intro N M Q X b c s left hN hl1 hl2 q
  refine call_v (N := N) (n := N - 1) (np := 3) (nn := 10) (b := b10) (ρ := [some (.ref b), some (.int left), some (.int ((j : Int) + 1)), none, none, none, none, none, none, none]) (by omega) T10 rfl rfl ?_
  walk_at "s"
  refine sp_take (by omega) (smallI (by decide) (by decide)) fun v c s h0 h1 => ?_
  walk_at "s"
  refine sp_take (by omega) (smallI (by decide) (by decide)) fun v' c s h0' h1' => ?_
  walk_at "s"
  obtain ⟨m, e, hm⟩ := small_of (v := v') (by omega) h0 h1
  refine ei _ e ?_
  walk_at "s"
  refine sp_take (by omega) (smallI (by decide) (by decide)) fun v c s h0 h1 => ?_
  walk_at "s"
  refine sp_take (by omega) (smallI (by decide) (by decide)) fun v' c s h0' h1' => ?_
  walk_at "s"
  obtain ⟨w, e, hw⟩ := within_of (v := v') (by omega) h0 h1
  refine ei _ e ?_
  walk_at "s"
  refine sp_take (by omega) (smallI (by decide) (by decide)) fun v c s h0 h1 => ?_
  walk_at "s"
  obtain ⟨kd, e⟩ := at_kd h0 h1
  refine ei _ e ?_
  walk_at "s"
  intro a ha
  obtain ⟨hab, hMa⟩ := mset_none ha
  rw [mset_comm (fun e => hab e.symm)]
  walk_at "s"
  refine sp_take (by omega) (smallI (by decide) (by decide)) fun v c s h0 h1 => ?_
  walk_at "s"
  obtain ⟨i, e, hi⟩ := nine_of (v := v) (by omega)
  refine ei _ e ?_
  walk_at "s"
  refine sp_take (by omega) (smallI (by omega) (by omega)) fun r c s h0 h1 => ?_
  walk_at "s"
  refine vfor (fun i : Int => D.int i) (IW M b a j m w kd left)
    ((List.range r.toNat).map fun i => (0 : Int) + (i : Nat)) (by unfold rangeD; rw [List.map_map]; rfl) ⟨left - 1, [], none, none, c, s, rfl, rfl, by omega, by simp [P.alls], by simp; omega, fun _ h => nomatch h⟩ (fun _ _ _ _ => trivial) ?_ ?_
  · rintro ρ M' ⟨left', acc, o7, o9, c, s, rfl, rfl, hl', hL, hn, hacc⟩
    walk_at "s"
    refine sp_take (by omega) (smallI (by decide) (by decide)) fun v c s h0 h1 => ?_
    walk_at "s"
    obtain ⟨y, e⟩ := at_wy h0 h1
    refine ei _ e ?_
    walk_at "s"
    refine ve_drop a ?_
    rw [mdel_ne hab, mdel_mset hMa, ← P.ds_eq]
    have hp : (P.wt kd y m w acc).ok (j + 1) = true := P.ok_wt.mpr ⟨⟨hm.1, hm.2, hw.1, hw.2, by simpa using hn⟩, hacc⟩
    refine ve (q (P.wt kd y m w acc) _ _ ⟨hp, ?_, rfl⟩)
    rw [alls_cons, List.length_cons]; omega
  · rintro x ds ρ M' ⟨left', acc, o7, o9, c, s, rfl, rfl, hl', hL, hn, hacc⟩
    walk_at "s"
    refine vifp (fun hpos => ?pos) (fun hneg => ?neg)
    case neg =>
      walk_at "s"
      exact vd ⟨left', acc, some (.int x), o9, c, s, rfl, rfl, hl', hL, by simp at hn ⊢; omega, hacc⟩
    have tail : ∀ (rt : KQ) (ex : Str → TT.Env → Mp → Prop) (p : P) (c s : Int), p.ok j = true → (p.all.length : Int) ≤ left' →
        vB (callI T (N - 1)) b10_4 { nx := vdn (IW M b a j m w kd left ds), rt := rt, ex := ex } [some (.ref b), some (.int left'), some (.int ((j : Int) + 1)), some (.int m), some (.int w), some (.str kd.s), some (.ref a), some (.int x), none, some p.d] (mset (mset M a (.lst (acc.map P.d))) b (bag c s)) := fun rt ex p c s h1 h2 => by
      have ea : mset (mset M a (.lst (acc.map P.d))) b (bag c s) a = some (.lst (acc.map P.d)) := by rw [mset_ne hab]; exact mset_same
      simp at hn
      walk_at "s"
      refine sp_law_all j h1 (by omega) (by omega) ?_
      walk_at "s"
      refine And.intro (by simp [sizeLine]; omega) ?_
      walk_at "s"
      rw [mset_comm (fun e => hab e.symm), mset_mset]
      refine vd ⟨_, acc ++ [p], _, _, c, s, rfl, by simp, ?_, ?_, ?_, ?_⟩
      · simp; omega
      · rw [P.alls_append]; simp [P.alls]; omega
      · simp; omega
      · intro p' hp'
        rcases List.mem_append.mp hp' with h | h
        · exact hacc p' h
        · rw [List.mem_singleton] at h; subst h; exact h1
    walk_at "s"
    refine sp_law_worker (by omega) fun kd' c s => ?_
    have hok : ∀ k, (P.wk kd').ok k = true := fun k => by simp only [P.ok]
    walk_at "s"
    refine vifp (fun hj1 => ?_) (fun _ => ?_)
    · walk_at "s"
      refine sp_take (by omega) (smallI (by decide) (by decide)) fun v c s h0 h1 => ?_
      walk_at "s"
      refine vif (fun hv => ?_) (fun _ => ?_)
      · walk_at "s"
        refine sp_take (by omega) (smallI (by decide) (by decide)) fun v c s h0 h1 => ?_
        walk_at "s"
        obtain ⟨i, rfl⟩ : ∃ i, j = i + 1 := ⟨j - 1, by omega⟩
        rw [show ((i + 1 : Nat) : Int) + 1 - 1 = (i : Int) + 1 by omega]
        refine ih i rfl (by omega) ?_ ?_ fun p c s hp => ?_
        · split <;> omega
        · split <;> omega
        walk_at "s"
        exact tail _ _ p c s hp.ok (Int.le_trans hp.many (by split <;> omega))
      · exact tail _ _ (.wk kd') c s (hok j) (by rw [alls_one]; simp; omega)
    · refine vlit_f ?_
      exact tail _ _ (.wk kd') c s (hok j) (by rw [alls_one]; simp; omega)
theorem spw : ∀ j, j ≤ 5 → SpW j
  | 0, h => spw_step 0 h fun i e => by omega
  | j + 1, h => spw_step (j + 1) h fun i e => by cases e; exact spw j (by omega)
theorem sp_law_tree (hN : 9 ≤ N) (q : ∀ (p : P) c' s', p.ok 6 = true → p.all.length ≤ 60 → p.isT = true → Q p.d (mset M b (bag c' s'))) : callI T N 12 [.ref b] (mset M b (bag c s)) Q X := by
  refine call_v (N := N) (n := N - 1) (np := 1) (nn := 1) (b := b12) (ρ := [some (.ref b)]) (by omega) T12 rfl rfl ?_
  walk_at "s"
  refine sp_take (by omega) (smallI (by decide) (by decide)) fun v c s h0 h1 => ?_
  walk_at "s"
  have hl : ∃ l, atI [D.int 6, .int 12, .int 60] v = some (.int l) ∧ 1 ≤ l ∧ l ≤ 60 := by
    have : v = 0 ∨ v = 1 ∨ v = 2 := by omega
    rcases this with rfl | rfl | rfl
    · exact ⟨6, rfl, by decide, by decide⟩
    · exact ⟨12, rfl, by decide, by decide⟩
    · exact ⟨60, rfl, by decide, by decide⟩
  obtain ⟨l, e, hl⟩ := hl
  refine ei _ e ?_
  walk_at "s"
  refine sp_take (by omega) (smallI (by decide) (by decide)) fun v c s h0 h1 => ?_
  walk_at "s"
  have hk : ∃ k : Nat, atI [D.int 2, .int 3, .int 6] v = some (.int ((k : Int) + 1)) ∧ k ≤ 5 := by
    have : v = 0 ∨ v = 1 ∨ v = 2 := by omega
    rcases this with rfl | rfl | rfl
    · exact ⟨1, rfl, by decide⟩
    · exact ⟨2, rfl, by decide⟩
    · exact ⟨5, rfl, by decide⟩
  obtain ⟨k, e, hk⟩ := hk
  refine ei _ e ?_
  walk_at "s"
  refine spw k hk (by omega) hl.1 (by omega) fun p c s hp => ?_
  have h6 := P.ok_mono p hp.ok (show k + 1 ≤ 6 by omega)
  have := hp.many
  exact ve (q p c s h6 (by omega) hp.isT)
end
end Hd
set_option Elab.async false
set_option linter.all false
set_option maxRecDepth 100000
set_option maxHeartbeats 1000000
set_option pp.maxSteps 1200
/-! P2: numbers of posts. -/
namespace Hd
open PySem PySem.Spec PyProof.Rows L2 TT
set_option pp.deepTerms false
set_option pp.deepTerms.threshold 4
local macro_rules | `(tactic| walk_at "m") => `(tactic| first | with_reducible exact mset_same | with_reducible assumption | (with_reducible refine Eq.trans (mset_ne ?_) ?_; (first | assumption | (apply Ne.symm; assumption)); walk_at "m"))
local macro_rules | `(tactic| walk_at "c") => `(tactic| first | trivial | omega | assumption | (refine' ei _ ?_ ?_; rotate_left; (focus (walk_at "m")); rfl) | (refine And.intro ?_ ?_ <;> first | omega | decide | assumption | exact isiC_of rfl | exact isiC_of (by assumption) | exact isiC_lst (by assumption)) | (refine Or.inr ?_; constructor <;> omega) | (refine Or.inl ?_; constructor <;> omega) | decide)
local macro_rules | `(tactic| walk_at "s") => `(tactic| first | (refine' ei _ ?_ ?_; rotate_left; (focus (first | walk_at "m" | rfl)); walk_at "s") | (refine And.intro ?_ ?_; (focus (walk_at "c")); walk_at "s") | (refine vlit_t ?_; walk_at "s") | (refine vlit_f ?_; walk_at "s") | (try conv => whnf))
local macro_rules | `(tactic| walk_at "t") => `(tactic| first | (refine vif_t rfl ?_; walk_at "s") | (refine vif_f rfl ?_; walk_at "s") | (refine vif_t (by decide +kernel) ?_; walk_at "s") | (refine vif_f (by decide +kernel) ?_; walk_at "s"))
def enumN {α : Type} : Nat → List α → List (Nat × α)
  | _, [] => []
  | k, x :: xs => (k, x) :: enumN (k + 1) xs
/-- the numbers of posts in order, the first one n -/
def kidsAt : Nat → List P → List Nat
  | _, [] => []
  | n, p :: ps => n :: kidsAt (n + p.size) ps
def rowOf (n : Nat) (p : P) : List Nat := kidsAt (n + 1) p.kids
def nums (r : List Nat) : List D := r.map fun i => .int (i : Nat)
def row (r : List Nat) : D := .tup (nums r)
def rowsF (k : Nat) (ps : List P) : List (List Nat) := (enumN k ps).map fun q => rowOf q.1 q.2
mutual
theorem P.ok_all : ∀ {k : Nat} (p : P), p.ok k = true → ∀ x ∈ p.all, x.ok k = true
  | k, .wk kd, h, x, hx => by
    rw [alls_one, List.mem_singleton] at hx; subst hx; exact h
  | k, .wt kd y m w ps, h, x, hx => by
    rw [alls_cons, List.mem_cons] at hx
    rcases hx with rfl | hx
    · exact h
    · obtain ⟨j, rfl, _, h2⟩ := P.ok_wt' h
      exact P.ok_mono _ (P.ok_alls ps h2 x hx) (Nat.le_succ _)
theorem P.ok_alls : ∀ {k : Nat} (ps : List P), (∀ p ∈ ps, p.ok k = true) → ∀ x ∈ P.alls ps, x.ok k = true
  | k, [], _, x, hx => by simp [P.alls] at hx
  | k, p :: ps, h, x, hx => by
    simp only [P.alls, List.mem_append] at hx
    rcases hx with hx | hx
    · exact P.ok_all p (h p (List.mem_cons_self ..)) x hx
    · exact P.ok_alls ps (fun q hq => h q (List.mem_cons_of_mem _ hq)) x hx
end
section
variable {N : Nat} {M : Mp} {Q : KQ} {X : KX}
end
end Hd
set_option Elab.async false
set_option linter.all false
set_option maxRecDepth 100000
set_option maxHeartbeats 1000000
set_option pp.maxSteps 1200
/-! P3: the law's own list of posts. -/
namespace Hd
open PySem PySem.Spec PyProof.Rows L2 TT
set_option pp.deepTerms false
set_option pp.deepTerms.threshold 4
local macro_rules | `(tactic| walk_at "m") => `(tactic| first | with_reducible exact mset_same | with_reducible assumption | (with_reducible refine Eq.trans (mset_ne ?_) ?_; (first | assumption | (apply Ne.symm; assumption)); walk_at "m"))
local macro_rules | `(tactic| walk_at "c") => `(tactic| first | trivial | omega | assumption | (refine' ei _ ?_ ?_; rotate_left; (focus (walk_at "m")); rfl) | (refine And.intro ?_ ?_ <;> first | omega | decide | assumption | exact isiC_of rfl | exact isiC_of (by assumption) | exact isiC_lst (by assumption)) | (refine Or.inr ?_; constructor <;> omega) | (refine Or.inl ?_; constructor <;> omega) | decide)
local macro_rules | `(tactic| walk_at "s") => `(tactic| first | (refine' ei _ ?_ ?_; rotate_left; (focus (first | walk_at "m" | rfl)); walk_at "s") | (refine And.intro ?_ ?_; (focus (walk_at "c")); walk_at "s") | (refine vlit_t ?_; walk_at "s") | (refine vlit_f ?_; walk_at "s") | (try conv => whnf))
local macro_rules | `(tactic| walk_at "t") => `(tactic| first | (refine vif_t rfl ?_; walk_at "s") | (refine vif_f rfl ?_; walk_at "s") | (refine vif_t (by decide +kernel) ?_; walk_at "s") | (refine vif_f (by decide +kernel) ?_; walk_at "s"))
/-! ### several handles -/
/-- all are frozen, the first one first -/
def subs (hs : List (Addr × List D)) (d : D) : D := hs.foldl (fun d h => d.sub h.1 h.2) d
mutual
theorem sub_ok : ∀ {k : Nat} {a : Addr} {ds : List D} (d : D), okD k d = true → d.sub a ds = d
  | _, _, _, .non, _ => rfl
  | _, _, _, .bl _, _ => rfl
  | _, _, _, .int _, _ => rfl
  | _, _, _, .str _, _ => rfl
  | k, a, ds, .tup xs, h => by
    cases k with
    | zero => simp only [okD] at h; cases h
    | succ k => simp only [okD] at h; simp only [D.sub, subs_ok xs h]
  | k, a, ds, .lst xs, h => by
    cases k with
    | zero => simp only [okD] at h; cases h
    | succ k => simp only [okD] at h; simp only [D.sub, subs_ok xs h]
  | _, _, _, .scr _, _ => rfl
  | _, _, _, .ref _, h => by simp only [okD] at h; cases h
theorem subs_ok : ∀ {k : Nat} {a : Addr} {ds : List D} (xs : List D), okDs k xs = true → Ds.sub a ds xs = xs
  | _, _, _, [], _ => rfl
  | k, a, ds, x :: xs, h => by
    simp only [okDs, Bool.and_eq_true] at h
    simp only [Ds.sub, sub_ok x h.1, subs_ok xs h.2]
end
/-! ### entries -/
structure Ent where
  p : P
  up : Option Nat
  row : List Nat
def upD : Option Nat → D
  | none => .non
  | some i => .int (i : Nat)
def Ent.d (e : Ent) : D := .lst [e.p.d, upD e.up, .lst (nums e.row)]
mutual
def ents : Nat → Option Nat → P → List Ent
  | n, up, .wk k => [⟨.wk k, up, []⟩]
  | n, up, .wt k y m w ps => ⟨.wt k y m w ps, up, kidsAt (n + 1) ps⟩ :: entsL (n + 1) n ps
def entsL : Nat → Nat → List P → List Ent
  | _, _, [] => []
  | n, up, p :: ps => ents n (some up) p ++ entsL (n + p.size) up ps
end
mutual
theorem ents_p : ∀ (p : P) (n : Nat) (up : Option Nat), (ents n up p).map (·.p) = p.all
  | .wk k, n, up => by simp only [ents, P.all, List.map_cons, List.map_nil]
  | .wt k y m w ps, n, up => by simp only [ents, P.all, List.map_cons, entsL_p ps]
theorem entsL_p : ∀ (ps : List P) (n up : Nat), (entsL n up ps).map (·.p) = P.alls ps
  | [], _, _ => by simp only [entsL, P.alls, List.map_nil]
  | p :: ps, n, up => by simp only [entsL, P.alls, List.map_append, ents_p p, entsL_p ps]
end
theorem ents_len {p : P} {n : Nat} {up : Option Nat} : (ents n up p).length = p.size := by rw [← List.length_map (f := (·.p)), ents_p]; rfl
/-- the entries of what waits, the first one numbered k -/
def entsW : Nat → List (P × Option Nat) → List Ent
  | _, [] => []
  | k, (p, u) :: r => ents k u p ++ entsW (k + p.size) r
/-- the numbers that those of post i get that wait -/
def numsW (i : Nat) : Nat → List (P × Option Nat) → List Nat
  | _, [] => []
  | k, (p, u) :: r => (if u = some i then [k] else []) ++ numsW i (k + p.size) r
end Hd
set_option Elab.async false
set_option linter.all false
set_option maxRecDepth 100000
set_option maxHeartbeats 1000000
set_option pp.maxSteps 1200
/-! P4: what _law_posts tells. -/
namespace Hd
open PySem PySem.Spec PyProof.Rows L2 TT
set_option pp.deepTerms false
set_option pp.deepTerms.threshold 4
local macro_rules | `(tactic| walk_at "m") => `(tactic| first | with_reducible exact mset_same | with_reducible assumption | (with_reducible refine Eq.trans (mset_ne ?_) ?_; (first | assumption | (apply Ne.symm; assumption)); walk_at "m"))
local macro_rules | `(tactic| walk_at "c") => `(tactic| first | trivial | omega | assumption | (refine' ei _ ?_ ?_; rotate_left; (focus (walk_at "m")); rfl) | (refine And.intro ?_ ?_ <;> first | omega | decide | assumption | exact isiC_of rfl | exact isiC_of (by assumption) | exact isiC_lst (by assumption)) | (refine Or.inr ?_; constructor <;> omega) | (refine Or.inl ?_; constructor <;> omega) | decide)
local macro_rules | `(tactic| walk_at "s") => `(tactic| first | (refine' ei _ ?_ ?_; rotate_left; (focus (first | walk_at "m" | rfl)); walk_at "s") | (refine And.intro ?_ ?_; (focus (walk_at "c")); walk_at "s") | (refine vlit_t ?_; walk_at "s") | (refine vlit_f ?_; walk_at "s") | (try conv => whnf))
local macro_rules | `(tactic| walk_at "t") => `(tactic| first | (refine vif_t rfl ?_; walk_at "s") | (refine vif_f rfl ?_; walk_at "s") | (refine vif_t (by decide +kernel) ?_; walk_at "s") | (refine vif_f (by decide +kernel) ?_; walk_at "s"))
theorem Ds_sub_map {a : Addr} {ds : List D} : ∀ xs : List D, Ds.sub a ds xs = xs.map (D.sub a ds)
  | [] => by simp only [Ds.sub, List.map_nil]
  | x :: xs => by simp only [Ds.sub, List.map_cons, Ds_sub_map xs]
theorem subs_lst : ∀ (hs : List (Addr × List D)) (xs : List D), subs hs (.lst xs) = .lst (xs.map (subs hs))
  | [], xs => by
    show D.lst xs = .lst (xs.map fun d => d)
    rw [List.map_id']
  | (a, ds) :: r, xs => by
    show subs r ((D.lst xs).sub a ds) = _
    simp only [D.sub, Ds_sub_map]
    rw [subs_lst r, List.map_map]
    rfl
theorem subs_okd {k : Nat} {d : D} (h : okD k d = true) : ∀ hs : List (Addr × List D), subs hs d = d
  | [] => rfl
  | (a, ds) :: r => by
    show subs r (d.sub a ds) = d
    rw [sub_ok d h, subs_okd h r]
theorem subs_ref {a : Addr} {ds : List D} (hd : okD 5 (.lst ds) = true) : ∀ {hs : List (Addr × List D)}, (hs.map (·.1)).Nodup → (a, ds) ∈ hs → subs hs (.ref a) = .lst ds
  | (b, es) :: r, hn, h => by
    simp only [List.map_cons, List.nodup_cons] at hn
    show subs r ((D.ref a).sub b es) = .lst ds
    by_cases e : a = b
    · subst e
      rcases List.mem_cons.mp h with e | h2
      · cases e
        rw [sub_same, subs_okd hd]
      · exact absurd (List.mem_map.mpr ⟨(a, ds), h2, rfl⟩) hn.1
    · rcases List.mem_cons.mp h with e2 | h2
      · cases e2; exact absurd rfl e
      · have : (D.ref a).sub b es = .ref a := by show (if a = b then D.lst es else .ref a) = _; rw [if_neg e]
        rw [this]
        exact subs_ref hd hn.2 h2
theorem okd_nums (r : List Nat) : okD 5 (.lst (nums r)) = true := by
  simp only [okD, okDs_iff, nums, List.mem_map]
  rintro x ⟨i, _, rfl⟩
  simp only [okD]
theorem okd_up (u : Option Nat) : okD 5 (upD u) = true := by cases u <;> simp only [upD, okD]
structure Dn where
  e : Ent
  a : Addr
  r : List Nat
def dnM (dn : List Dn) : List (Addr × MO) := dn.reverse.map fun x => (x.a, .lst (nums x.r))
def dnF (dn : List Dn) : List D := dn.map fun x => .lst [x.e.p.d, upD x.e.up, .ref x.a]
structure IP (t : P) (M : Mp) (f w : Addr) (W : List (P × Option Nat)) (dn : List Dn) : Prop where
  nd : (dn.map (·.a)).Nodup
  fr : ∀ x ∈ dn, M x.a = none ∧ x.a ≠ f ∧ x.a ≠ w
  fw : f ≠ w
  Mf : M f = none
  Mw : M w = none
  all : dn.map (·.e) ++ entsW dn.length W = ents 0 none t
  rows : ∀ (i : Nat) x, dn[i]? = some x → x.r ++ numsW i dn.length W = x.e.row
  ok : ∀ y ∈ W, y.1.ok 6 = true ∧ ∀ u, y.2 = some u → u < dn.length
  okd : ∀ x ∈ dn, x.e.p.ok 6 = true
theorem dnM_fst {dn : List Dn} : (dnM dn).map (·.1) = (dn.map (·.a)).reverse := by
  unfold dnM; rw [List.map_map, List.map_reverse]; rfl
theorem IP.nd' {t : P} {M : Mp} {f w : Addr} {W : List (P × Option Nat)} {dn : List Dn} (h : IP t M f w W dn) : ((dnM dn).map (·.1)).Nodup := by
  rw [dnM_fst]; exact List.pairwise_reverse.mpr (List.Pairwise.imp Ne.symm h.nd)
theorem eqD_nil {xs : List D} : eqD (.lst xs) (.lst []) = xs.isEmpty := by
  cases xs with
  | nil => rfl
  | cons x xs => rfl
theorem P.size_kids (p : P) : p.size = (P.alls p.kids).length + 1 := by
  cases p with
  | wk kd => simp [P.size, alls_one, P.kids, P.alls]
  | wt kd y m w ps => simp [P.size, alls_cons, P.kids]
theorem ents_eq (k : Nat) (u : Option Nat) (p : P) : ents k u p = ⟨p, u, rowOf k p⟩ :: entsL (k + 1) k p.kids := by
  cases p with
  | wk kd => simp [ents, rowOf, P.kids, kidsAt, entsL]
  | wt kd y m w ps => simp [ents, rowOf, P.kids]
theorem entsW_le : ∀ (W : List (P × Option Nat)) (k : Nat), W.length ≤ (entsW k W).length
  | [], _ => by simp [entsW]
  | (p, u) :: r, k => by
    have := entsW_le r (k + p.size)
    simp only [entsW, List.length_cons, List.length_append, ents_eq]
    omega
theorem IP.sz {t : P} {M : Mp} {f w : Addr} {W : List (P × Option Nat)} {dn : List Dn} (h : IP t M f w W dn) : dn.length + W.length ≤ (ents 0 none t).length := by
  have h1 := congrArg List.length h.all
  have h2 := entsW_le W dn.length
  rw [List.length_append, List.length_map] at h1
  omega
def dnH (dn : List Dn) : List (Addr × List D) := dn.reverse.map fun x => (x.a, nums x.r)
theorem dnH_fst (dn : List Dn) : (dnH dn).map (·.1) = (dnM dn).map (·.1) := by
  unfold dnM dnH; rw [List.map_map, List.map_map]; rfl
theorem IP.fin {t : P} {M : Mp} {f w : Addr} {dn : List Dn} (h : IP t M f w [] dn) : subs (dnH dn) (.lst (dnF dn)) = .lst ((ents 0 none t).map Ent.d) := by
  have hn : ((dnH dn).map (·.1)).Nodup := by rw [dnH_fst]; exact h.nd'
  have e : dn.map (·.e) = ents 0 none t := by simpa [entsW] using h.all
  rw [subs_lst, ← e, dnF, List.map_map, List.map_map]
  congr 1
  refine List.map_congr_left fun x hx => ?_
  obtain ⟨i, hi⟩ := List.getElem?_of_mem hx
  have er : x.r = x.e.row := by simpa [numsW] using h.rows i x hi
  show subs (dnH dn) (.lst [x.e.p.d, upD x.e.up, .ref x.a]) = Ent.d x.e
  rw [subs_lst]
  simp only [List.map_cons, List.map_nil]
  rw [subs_okd (P.okd _ (h.okd x hx)), subs_okd (okd_up _), subs_ref (okd_nums x.r) hn (List.mem_map.mpr ⟨x, by simpa using hx, rfl⟩), er]
  rfl
section
variable {N : Nat} {M : Mp} {Q : KQ} {X : KX}
end
section
variable {N : Nat} {M : Mp} {Q : KQ} {X : KX}
end
end Hd
set_option Elab.async false
set_option linter.all false
set_option maxRecDepth 100000
set_option maxHeartbeats 1000000
set_option pp.maxSteps 1200
/-! P5: how a moment is settled, in plain numbers. -/
namespace Hd
open PySem PySem.Spec PyProof.Rows L2 TT
inductive Wd where
  | runs | fell | fin | down | off
  deriving DecidableEq
def Wd.s : Wd → Str
  | .runs => w_runs
  | .fell => w_fell
  | .fin => w_finished
  | .down => w_down
  | .off => w_off
inductive Rt where
  | stop | bgn | gave | off
  deriving DecidableEq
def Rt.s : Rt → Str
  | .stop => w_stop
  | .bgn => w_begin
  | .gave => w_gave_up
  | .off => w_off
abbrev Rw := Rt × Nat
abbrev Pr := Int × Int
structure St where
  w : Nat → Wd
  g : Nat → List Pr
  r : List Rw
def updF {α : Type} (i : Nat) (x : α) (f : Nat → α) : Nat → α := fun j => if j = i then x else f j
def fillF {α : Type} (lo k : Nat) (x : α) (f : Nat → α) : Nat → α := fun j => if lo ≤ j ∧ j < lo + k then x else f j
theorem updF_same {α : Type} {i : Nat} {x : α} {f : Nat → α} : updF i x f i = x := if_pos rfl
theorem updF_ne {α : Type} {i j : Nat} {x : α} {f : Nat → α} (h : j ≠ i) : updF i x f j = f j := if_neg h
/-- the rows of what is stopped: of so many posts from a number on those that run, the greatest number first -/
def stops (n k : Nat) (w : Nat → Wd) : List Rw := ((List.range' n k).reverse.filter fun i => decide (w i = .runs)).map fun i => (Rt.stop, i)
def bgns (n k : Nat) : List Rw := (List.range' n k).map fun i => (Rt.bgn, i)
def stopS (n k : Nat) (s : St) : St := ⟨fillF n k .down s.w, fillF n k [] s.g, s.r ++ stops n k s.w⟩
def beginS (n k : Nat) (s : St) : St := ⟨fillF n k .runs s.w, fillF n k [] s.g, s.r ++ bgns n k⟩
def giveS (n k : Nat) (s : St) : St := ⟨updF n .fell (fillF n k .down s.w), fillF n k [] s.g, s.r ++ (stops (n + 1) (k - 1) s.w ++ [(.gave, n)])⟩
def kidsN : Nat → List P → List (Nat × P)
  | _, [] => []
  | n, p :: ps => (n, p) :: kidsN (n + p.size) ps
theorem P.size_pos (p : P) : 0 < p.size := by rw [P.size_kids]; omega
theorem kidsN_mem : ∀ {ps : List P} {n : Nat} {x : Nat × P}, x ∈ kidsN n ps → n ≤ x.1 ∧ x.1 + x.2.size ≤ n + (P.alls ps).length
  | p :: ps, n, x, h => by
    simp only [kidsN, List.mem_cons] at h
    simp only [P.alls, List.length_append]
    rcases h with rfl | h
    · exact ⟨Nat.le_refl _, by show n + p.all.length ≤ _; omega⟩
    · have := kidsN_mem h
      have e : p.size = p.all.length := rfl
      omega
def Disj (ks : List (Nat × P)) : Prop := ks.Pairwise fun x y => x.1 + x.2.size ≤ y.1
def laid (w : Wd) : Bool := decide (w = .fell) || decide (w = .fin)
def offed (k : Kd) (w : Wd) : Bool := decide (k = .once) || (decide (k = .fault) && decide (w = .fin))
def isOff (w : Nat → Wd) (x : Nat × P) : Bool := laid (w x.1) && offed x.2.kind (w x.1)
def isAg (w : Nat → Wd) (x : Nat × P) : Bool := laid (w x.1) && !offed x.2.kind (w x.1)
def markOne (s : St) (x : Nat × P) : St := ⟨updF x.1 .off s.w, s.g, s.r ++ [(.off, x.1)]⟩
def markOff (xs : List (Nat × P)) (s : St) : St := xs.foldl markOne s
def someOf (y : Wy) (w : Nat → Wd) (ks ag : List (Nat × P)) : List (Nat × P) := match y with
  | .one => ag
  | .all => ks.filter fun x => decide (w x.1 ≠ .off)
  | .behind => (ks.filter fun x => decide (w x.1 ≠ .off)).filter fun x => decide ((ag.headD (0, .wk .once)).1 ≤ x.1)
def stopOne (s : St) (x : Nat × P) : St := if s.w x.1 = .runs then
    (if x.2.kind = .once then ⟨updF x.1 .off (stopS x.1 x.2.size s).w, (stopS x.1 x.2.size s).g, (stopS x.1 x.2.size s).r⟩ else stopS x.1 x.2.size s)
  else s
def beginOne (s : St) (x : Nat × P) : St := beginS x.1 x.2.size s
def isLeft (w : Nat → Wd) (x : Nat × P) : Bool := !(decide (w x.1 = .runs) && decide (x.2.kind = .once))
def againS (some : List (Nat × P)) (s : St) : St := (some.filter (isLeft s.w)).foldl beginOne (some.reverse.foldl stopOne s)
def total (l : List Pr) : Int := (l.map (·.2)).sum
def bump (tick many : Int) (l : List Pr) : List Pr := match l.getLast? with
  | none => [(tick, many)]
  | some z => if z.1 = tick then l.dropLast ++ [(tick, many + z.2)] else l ++ [(tick, many)]
def own (tick : Int) (n : Nat) (y : Wy) (m : Int) (ps : List P) (s : St) : St :=
  let ks := kidsN (n + 1) ps
  let ag := ks.filter (isAg s.w)
  let s2 := markOff (ks.filter (isOff s.w)) s
  if ag = [] then s2 else
  let many : Int := if y = .one then (ag.length : Nat) else 1
  if m < total (s2.g n) + many then giveS n ((P.alls ps).length + 1) s2
  else againS (someOf y s2.w ks ag) ⟨s2.w, updF n (bump tick many (s2.g n)) s2.g, s2.r⟩
mutual
def settle (tick : Int) : Nat → P → St → St
  | _, .wk _, s => s
  | n, .wt _ y m _ ps, s => own tick n y m ps (settles tick (n + 1) ps s)
def settles (tick : Int) : Nat → List P → St → St
  | _, [], s => s
  | n, q :: qs, s => settles tick (n + q.size) qs (if q.isT = true ∧ s.w n = .runs then settle tick n q s else s)
end
def moment (tick : Int) (t : P) (s : St) : St := if s.w 0 = .runs then
    (if (settle tick 0 t s).w 0 = .fell then ⟨updF 0 .down (settle tick 0 t s).w, (settle tick 0 t s).g, (settle tick 0 t s).r⟩ else settle tick 0 t s)
  else s
/-! ### what is untouched -/
def Fr (lo k : Nat) (s s' : St) : Prop := ∀ j, j < lo ∨ lo + k ≤ j → s'.w j = s.w j ∧ s'.g j = s.g j
theorem Fr.trans {lo k : Nat} {s s' s2 : St} (h1 : Fr lo k s s') (h2 : Fr lo k s' s2) : Fr lo k s s2 := fun j hj => ⟨(h2 j hj).1.trans (h1 j hj).1, (h2 j hj).2.trans (h1 j hj).2⟩
theorem Fr.wide {lo k lo' k' : Nat} {s s' : St} (h : Fr lo k s s') (h1 : lo' ≤ lo) (h2 : lo + k ≤ lo' + k') : Fr lo' k' s s' := fun j hj => h j (by omega)
end Hd
set_option Elab.async false
set_option linter.all false
set_option maxRecDepth 100000
set_option maxHeartbeats 1000000
set_option pp.maxSteps 1200
/-! P6: two ways of beginning again do the same; what holds of a settling. -/
namespace Hd
open PySem PySem.Spec PyProof.Rows L2 TT
theorem Disj.filter {ks : List (Nat × P)} (p : Nat × P → Bool) (h : Disj ks) : Disj (ks.filter p) := List.Pairwise.filter p h
/-- the heads of what is stopped: two states that differ at heads of what is begun only -/
structure Re (hs : List Nat) (s s' : St) : Prop where
  r : s.r = s'.r
  g : s.g = s'.g
  w : ∀ j, s.w j = s'.w j ∨ j ∈ hs
/-! ### what always holds -/
structure Good (tick within : Int) (l : List Pr) : Prop where
  up : l.Pairwise fun a b => a.1 < b.1
  le : ∀ q ∈ l, q.1 ≤ tick
  gt : ∀ q ∈ l, tick - within < q.1
theorem Good.nil {tick within : Int} : Good tick within [] := ⟨List.Pairwise.nil, (fun _ h => nomatch h), (fun _ h => nomatch h)⟩
mutual
def Inv (tick : Int) (s : St) : Nat → P → Prop
  | _, .wk _ => True
  | n, .wt _ _ _ w ps => (s.w n ≠ .runs → ∀ j, n ≤ j → j < n + ((P.alls ps).length + 1) → s.w j ≠ .runs) ∧ Good tick w (s.g n) ∧ Invs tick s (n + 1) ps
def Invs (tick : Int) (s : St) : Nat → List P → Prop
  | _, [] => True
  | n, q :: qs => Inv tick s n q ∧ Invs tick s (n + q.size) qs
end
theorem P.size_wt {k : Kd} {y : Wy} {m w : Int} {ps : List P} : (P.wt k y m w ps).size = (P.alls ps).length + 1 := by simp [P.size, alls_cons]
mutual
theorem Inv.congr {tick : Int} {s s' : St} : ∀ {p : P} {n : Nat}, (∀ j, n ≤ j → j < n + p.size → s'.w j = s.w j ∧ s'.g j = s.g j) → Inv tick s n p → Inv tick s' n p
  | .wk k, n, _, _ => by simp only [Inv]
  | .wt k y m w ps, n, h, hi => by
    rw [P.size_wt] at h
    simp only [Inv] at hi ⊢
    have h0 := h n (Nat.le_refl _) (by omega)
    refine ⟨fun hn j h1 h2 => ?_, by rw [h0.2]; exact hi.2.1, Invs.congr (fun j h1 h2 => h j (by omega) (by omega)) hi.2.2⟩
    rw [(h j h1 h2).1]; rw [h0.1] at hn; exact hi.1 hn j h1 h2
theorem Invs.congr {tick : Int} {s s' : St} : ∀ {ps : List P} {n : Nat}, (∀ j, n ≤ j → j < n + (P.alls ps).length → s'.w j = s.w j ∧ s'.g j = s.g j) → Invs tick s n ps → Invs tick s' n ps
  | [], n, _, _ => by simp only [Invs]
  | q :: qs, n, h, hi => by
    simp only [P.alls, List.length_append] at h
    simp only [Invs] at hi ⊢
    have e : q.size = q.all.length := rfl
    exact ⟨Inv.congr (fun j h1 h2 => h j h1 (by omega)) hi.1, Invs.congr (fun j h1 h2 => h j (by omega) (by omega)) hi.2⟩
end
end Hd
set_option Elab.async false
set_option linter.all false
set_option maxRecDepth 100000
set_option maxHeartbeats 1000000
set_option pp.maxSteps 1200
/-! P7: what a settling keeps. -/
namespace Hd
open PySem PySem.Spec PyProof.Rows L2 TT
mutual
theorem Inv.same {tick : Int} {s s' : St} : ∀ {p : P} {n : Nat}, (∀ j, n ≤ j → j < n + p.size → (s'.w j = .runs ↔ s.w j = .runs) ∧ s'.g j = s.g j) → Inv tick s n p → Inv tick s' n p
  | .wk k, n, _, _ => by simp only [Inv]
  | .wt k y m w ps, n, h, hi => by
    rw [P.size_wt] at h
    simp only [Inv] at hi ⊢
    have h0 := h n (Nat.le_refl _) (by omega)
    refine ⟨fun hn j h1 h2 => ?_, by rw [h0.2]; exact hi.2.1, Invs.same (fun j h1 h2 => h j (by omega) (by omega)) hi.2.2⟩
    rw [Ne, (h j h1 h2).1]; rw [Ne, h0.1] at hn; exact hi.1 hn j h1 h2
theorem Invs.same {tick : Int} {s s' : St} : ∀ {ps : List P} {n : Nat}, (∀ j, n ≤ j → j < n + (P.alls ps).length → (s'.w j = .runs ↔ s.w j = .runs) ∧ s'.g j = s.g j) → Invs tick s n ps → Invs tick s' n ps
  | [], n, _, _ => by simp only [Invs]
  | q :: qs, n, h, hi => by
    simp only [P.alls, List.length_append] at h
    simp only [Invs] at hi ⊢
    have e : q.size = q.all.length := rfl
    exact ⟨Inv.same (fun j h1 h2 => h j h1 (by omega)) hi.1, Invs.same (fun j h1 h2 => h j (by omega) (by omega)) hi.2⟩
end
mutual
def Quiet (w : Nat → Wd) : Nat → P → Prop
  | _, .wk _ => True
  | n, .wt _ _ _ _ ps => Quiets w (n + 1) ps
def Quiets (w : Nat → Wd) : Nat → List P → Prop
  | _, [] => True
  | n, q :: qs => (laid (w n) = false ∧ (w n = .runs → Quiet w n q)) ∧ Quiets w (n + q.size) qs
end
mutual
theorem Quiet.congr {w w' : Nat → Wd} : ∀ {p : P} {n : Nat}, (∀ j, n ≤ j → j < n + p.size → w' j = w j) → Quiet w n p → Quiet w' n p
  | .wk k, n, _, _ => by simp only [Quiet]
  | .wt k y m v ps, n, h, hi => by
    rw [P.size_wt] at h
    simp only [Quiet] at hi ⊢
    exact Quiets.congr (fun j h1 h2 => h j (by omega) (by omega)) hi
theorem Quiets.congr {w w' : Nat → Wd} : ∀ {ps : List P} {n : Nat}, (∀ j, n ≤ j → j < n + (P.alls ps).length → w' j = w j) → Quiets w n ps → Quiets w' n ps
  | [], n, _, _ => by simp only [Quiets]
  | q :: qs, n, h, hi => by
    simp only [P.alls, List.length_append] at h
    have hq := q.size_pos
    have e : q.size = q.all.length := rfl
    simp only [Quiets] at hi ⊢
    rw [h n (Nat.le_refl _) (by omega)]
    exact ⟨⟨hi.1.1, fun hr => Quiet.congr (fun j h1 h2 => h j h1 (by omega)) (hi.1.2 hr)⟩, Quiets.congr (fun j h1 h2 => h j (by omega) (by omega)) hi.2⟩
end
/-! ### folds over posts apart -/
def Apart (ks : List (Nat × P)) : Prop := ks.Pairwise fun x y => x.1 + x.2.size ≤ y.1 ∨ y.1 + y.2.size ≤ x.1
theorem Disj.apart {ks : List (Nat × P)} (h : Disj ks) : Apart ks := List.Pairwise.imp (fun h => .inl h) h
theorem Apart.reverse {ks : List (Nat × P)} (h : Apart ks) : Apart ks.reverse := List.pairwise_reverse.mpr (List.Pairwise.imp (fun h => h.symm) h)
/-! ### one watcher's own part -/
structure After (tick : Int) (n : Nat) (p : P) (s s' : St) : Prop where
  fr : Fr n p.size s s'
  inv : Inv tick s' n p
  w : s'.w n = .runs ∨ s'.w n = .fell
  quiet : s'.w n = .runs → Quiet s'.w n p
end Hd
set_option Elab.async false
set_option linter.all false
set_option maxRecDepth 100000
set_option maxHeartbeats 1000000
set_option pp.maxSteps 1200
/-! P8: settlings, moments, marks, ticks: what they keep. -/
namespace Hd
open PySem PySem.Spec PyProof.Rows L2 TT
/-! ### rows ahead -/
/-! ### how many rows -/
/-! ### moments, marks, ticks -/
mutual
theorem Inv.mark {tick : Int} {s : St} {x : Wd} (hx : x ≠ .runs) : ∀ {p : P} {n j : Nat} {kd : Kd}, p.all[j]? = some (.wk kd) → Inv tick s n p → Inv tick ⟨updF (n + j) x s.w, s.g, s.r⟩ n p
  | .wk k, n, j, kd, _, _ => by simp only [Inv]
  | .wt k y m w ps, n, j, kd, h, hi => by
    rw [alls_cons] at h
    cases j with
    | zero => cases h
    | succ j =>
      rw [List.getElem?_cons_succ] at h
      simp only [Inv] at hi ⊢
      have hm := Invs.mark hx (n := n + 1) h hi.2.2
      rw [show n + (j + 1) = n + 1 + j by omega]
      refine ⟨fun hn i h1 h2 => ?_, hi.2.1, hm⟩
      rw [updF_ne (by omega)] at hn
      by_cases e : i = n + 1 + j
      · rw [e, updF_same]; exact hx
      · rw [updF_ne e]; exact hi.1 hn i h1 h2
theorem Invs.mark {tick : Int} {s : St} {x : Wd} (hx : x ≠ .runs) : ∀ {ps : List P} {n j : Nat} {kd : Kd}, (P.alls ps)[j]? = some (.wk kd) → Invs tick s n ps → Invs tick ⟨updF (n + j) x s.w, s.g, s.r⟩ n ps
  | [], n, j, kd, _, _ => by simp only [Invs]
  | q :: qs, n, j, kd, h, hi => by
    have e : q.size = q.all.length := rfl
    simp only [P.alls] at h
    simp only [Invs] at hi ⊢
    by_cases hj : j < q.all.length
    · rw [List.getElem?_append_left hj] at h
      exact ⟨Inv.mark hx h hi.1, Invs.congr (fun i h1 h2 => ⟨updF_ne (by omega), rfl⟩) hi.2⟩
    · rw [List.getElem?_append_right (by omega)] at h
      have h2 := Invs.mark hx (n := n + q.size) h hi.2
      rw [show n + q.size + (j - q.all.length) = n + j by omega] at h2
      exact ⟨Inv.congr (fun i h1 h2 => ⟨updF_ne (by omega), rfl⟩) hi.1, h2⟩
end
end Hd
set_option Elab.async false
set_option linter.all false
set_option maxRecDepth 100000
set_option maxHeartbeats 1000000
set_option pp.maxSteps 1200
/-! P9: how stands lie in memory; where posts stand. -/
namespace Hd
open PySem PySem.Spec PyProof.Rows L2 TT
/-! ### lists of words, of what was begun, of rows -/
def pairD (q : Pr) : D := .tup [.int q.1, .int q.2]
def pairsD (l : List Pr) : D := .tup (l.map pairD)
def rowD (x : Rw) : D := .tup [.str x.1.s, .int (x.2 : Nat)]
@[irreducible] def wordsD (L : Nat) (w : Nat → Wd) : List D := (List.range L).map fun i => D.str (w i).s
@[irreducible] def begD (L : Nat) (g : Nat → List Pr) : List D := (List.range L).map fun i => pairsD (g i)
@[irreducible] def rowsD (r : List Rw) : List D := r.map rowD
theorem map_range_set {α : Type} {L n : Nat} {f : Nat → α} {x : α} (h : n < L) : ((List.range L).map f).set n x = (List.range L).map (updF n x f) := by
  refine List.ext_getElem? fun i => ?_
  rw [List.getElem?_set]
  by_cases hi : n = i
  · subst hi
    rw [if_pos rfl, if_pos (by simpa using h), List.getElem?_map, List.getElem?_range h]
    show some x = some (updF n x f n)
    rw [updF_same]
  · rw [if_neg hi, List.getElem?_map, List.getElem?_map]
    by_cases hL : i < L
    · rw [List.getElem?_range hL]
      show some (f i) = some (updF n x f i)
      rw [updF_ne (fun e => hi e.symm)]
    · rw [List.getElem?_eq_none (by simpa using hL)]; rfl
theorem words_len {L : Nat} {w : Nat → Wd} : (wordsD L w).length = L := by unfold wordsD; simp
theorem beg_len {L : Nat} {w : Nat → List Pr} : (begD L w).length = L := by unfold begD; simp
theorem rows_len {r : List Rw} : (rowsD r).length = r.length := by unfold rowsD; simp
theorem rows_lt {r : List Rw} (h : r.length < 16777216) : (rowsD r).length < sizeLine := by rw [rows_len]; exact h
theorem at_words {L n : Nat} {w : Nat → Wd} (h : n < L) : atI (wordsD L w) (n : Nat) = some (.str (w n).s) := by
  unfold wordsD; rw [at_nat, List.getElem?_map, List.getElem?_range h]; rfl
theorem at_begun {L n : Nat} {g : Nat → List Pr} (h : n < L) : atI (begD L g) (n : Nat) = some (pairsD (g n)) := by
  unfold begD; rw [at_nat, List.getElem?_map, List.getElem?_range h]; rfl
theorem ix_nat {L n : Nat} (h : n < L) : ixN L (n : Nat) = some n := by
  unfold ixN; rw [if_pos (by omega), if_pos (by omega)]; rfl
theorem ix_words {L n : Nat} {w : Nat → Wd} (h : n < L) : ixN (wordsD L w).length (n : Nat) = some n := by rw [words_len]; exact ix_nat h
theorem ix_begun {L n : Nat} {g : Nat → List Pr} (h : n < L) : ixN (begD L g).length (n : Nat) = some n := by rw [beg_len]; exact ix_nat h
theorem at_words0 {L : Nat} {w : Nat → Wd} (h : 0 < L) : atI (wordsD L w) 0 = some (.str (w 0).s) := at_words (n := 0) h
theorem ix_words0 {L : Nat} {w : Nat → Wd} (h : 0 < L) : ixN (wordsD L w).length 0 = some 0 := ix_words (n := 0) h
theorem words_set {L n : Nat} {w : Nat → Wd} {x : Wd} (h : n < L) : (wordsD L w).set n (.str x.s) = wordsD L (updF n x w) := by
  unfold wordsD
  rw [map_range_set h]
  refine List.map_congr_left fun i _ => ?_
  unfold updF; split <;> rfl
theorem beg_set {L n : Nat} {g : Nat → List Pr} {x : List Pr} (h : n < L) : (begD L g).set n (pairsD x) = begD L (updF n x g) := by
  unfold begD
  rw [map_range_set h]
  refine List.map_congr_left fun i _ => ?_
  unfold updF; split <;> rfl
theorem rows_snoc {r : List Rw} {x : Rw} : rowsD r ++ [rowD x] = rowsD (r ++ [x]) := by unfold rowsD; simp
/-! ### three handles -/
@[irreducible] def mem3 (M : Mp) (w g r : Addr) (L : Nat) (s : St) : Mp := mset (mset (mset M w (.lst (wordsD L s.w))) g (.lst (begD L s.g))) r (.lst (rowsD s.r))
structure A3 (w g r : Addr) : Prop where
  wg : w ≠ g
  wr : w ≠ r
  gr : g ≠ r
theorem A3.gw {M : Mp} {w g r : Addr} {L : Nat} {s : St} (h : A3 w g r) : mem3 M w g r L s w = some (.lst (wordsD L s.w)) := by
  unfold mem3; rw [mset_ne h.wr, mset_ne h.wg, mset_same]
theorem A3.gg {M : Mp} {w g r : Addr} {L : Nat} {s : St} (h : A3 w g r) : mem3 M w g r L s g = some (.lst (begD L s.g)) := by
  unfold mem3; rw [mset_ne h.gr, mset_same]
theorem A3.gr' {M : Mp} {w g r : Addr} {L : Nat} {s : St} : mem3 M w g r L s r = some (.lst (rowsD s.r)) := by
  unfold mem3; rw [mset_same]
theorem mem3_o {M : Mp} {w g r a : Addr} {L : Nat} {s : St} (h1 : a ≠ w) (h2 : a ≠ g) (h3 : a ≠ r) : mem3 M w g r L s a = M a := by
  unfold mem3; rw [mset_ne h3, mset_ne h2, mset_ne h1]
theorem A3.sw {M : Mp} {w g r : Addr} {L n : Nat} {s : St} (h : A3 w g r) {c : Str} (x : Wd) (hn : n < L) (e : c = x.s) : mset (mem3 M w g r L s) w (.lst ((wordsD L s.w).set n (.str c))) = mem3 M w g r L ⟨updF n x s.w, s.g, s.r⟩ := by
  subst e
  unfold mem3
  rw [words_set hn, mset_comm (fun e => h.wr e.symm), mset_comm (fun e => h.wg e.symm), mset_mset]
theorem A3.sg {M : Mp} {w g r : Addr} {L n : Nat} {s : St} (h : A3 w g r) {c : List D} (x : List Pr) (hn : n < L) (e : c = x.map pairD) : mset (mem3 M w g r L s) g (.lst ((begD L s.g).set n (.tup c))) = mem3 M w g r L ⟨s.w, updF n x s.g, s.r⟩ := by
  subst e
  unfold mem3
  rw [show (begD L s.g).set n (.tup (x.map pairD)) = begD L (updF n x s.g) from beg_set hn, mset_comm (fun e => h.gr e.symm), mset_mset]
theorem sr {M : Mp} {w g r : Addr} {L n : Nat} {s : St} {c : Str} (x : Rt) (e : c = x.s) : mset (mem3 M w g r L s) r (.lst (rowsD s.r ++ [.tup [.str c, .int (n : Nat)]])) = mem3 M w g r L ⟨s.w, s.g, s.r ++ [(x, n)]⟩ := by
  subst e
  unfold mem3
  rw [mset_mset, show rowsD s.r ++ [.tup [.str x.s, .int (n : Nat)]] = rowsD (s.r ++ [(x, n)]) from rows_snoc (x := (x, n))]
section
variable {M : Mp} {w g r : Addr} {L n : Nat} {s : St}
theorem A3.sw_down (h : A3 w g r) (hn : n < L) : mset (mem3 M w g r L s) w (.lst ((wordsD L s.w).set n (.str w_down))) = mem3 M w g r L ⟨updF n .down s.w, s.g, s.r⟩ := h.sw .down hn rfl
theorem A3.sw_runs (h : A3 w g r) (hn : n < L) : mset (mem3 M w g r L s) w (.lst ((wordsD L s.w).set n (.str w_runs))) = mem3 M w g r L ⟨updF n .runs s.w, s.g, s.r⟩ := h.sw .runs hn rfl
theorem A3.sw_off (h : A3 w g r) (hn : n < L) : mset (mem3 M w g r L s) w (.lst ((wordsD L s.w).set n (.str w_off))) = mem3 M w g r L ⟨updF n .off s.w, s.g, s.r⟩ := h.sw .off hn rfl
theorem A3.sw_fell (h : A3 w g r) (hn : n < L) : mset (mem3 M w g r L s) w (.lst ((wordsD L s.w).set n (.str w_fell))) = mem3 M w g r L ⟨updF n .fell s.w, s.g, s.r⟩ := h.sw .fell hn rfl
theorem A3.sw_fin (h : A3 w g r) (hn : n < L) : mset (mem3 M w g r L s) w (.lst ((wordsD L s.w).set n (.str w_finished))) = mem3 M w g r L ⟨updF n .fin s.w, s.g, s.r⟩ := h.sw .fin hn rfl
theorem A3.sg_nil (h : A3 w g r) (hn : n < L) : mset (mem3 M w g r L s) g (.lst ((begD L s.g).set n (.tup []))) = mem3 M w g r L ⟨s.w, updF n [] s.g, s.r⟩ := h.sg [] hn rfl
theorem A3.sr_stop (_ : A3 w g r) : mset (mem3 M w g r L s) r (.lst (rowsD s.r ++ [.tup [.str w_stop, .int (n : Nat)]])) = mem3 M w g r L ⟨s.w, s.g, s.r ++ [(.stop, n)]⟩ := sr .stop rfl
theorem A3.sr_bgn (_ : A3 w g r) : mset (mem3 M w g r L s) r (.lst (rowsD s.r ++ [.tup [.str w_begin, .int (n : Nat)]])) = mem3 M w g r L ⟨s.w, s.g, s.r ++ [(.bgn, n)]⟩ := sr .bgn rfl
theorem A3.sr_gave (_ : A3 w g r) : mset (mem3 M w g r L s) r (.lst (rowsD s.r ++ [.tup [.str w_gave_up, .int (n : Nat)]])) = mem3 M w g r L ⟨s.w, s.g, s.r ++ [(.gave, n)]⟩ := sr .gave rfl
theorem A3.sr_off (_ : A3 w g r) : mset (mem3 M w g r L s) r (.lst (rowsD s.r ++ [.tup [.str w_off, .int (n : Nat)]])) = mem3 M w g r L ⟨s.w, s.g, s.r ++ [(.off, n)]⟩ := sr .off rfl
end
theorem mem3_set {M : Mp} {w g r a : Addr} {L : Nat} {s : St} {o : MO} (h1 : a ≠ w) (h2 : a ≠ g) (h3 : a ≠ r) : mset (mem3 M w g r L s) a o = mem3 (mset M a o) w g r L s := by
  unfold mem3
  rw [mset_comm (fun e => h3 e.symm), mset_comm (fun e => h2 e.symm), mset_comm (fun e => h1 e.symm)]
/-! ### what the law keeps -/
@[irreducible] def nowK (tick : Int) (w g r : Addr) : List (Key × D) := [(.inr w_tick, .int tick), (.inr w_words, .ref w), (.inr w_begun, .ref g), (.inr w_rows, .ref r)]
theorem getK_hit {k : Key} {d : D} {r : List (Key × D)} : getK ((k, d) :: r) k = some d := by
  unfold getK; simp
theorem getK_miss {k k' : Key} {d : D} {r : List (Key × D)} (h : k' ≠ k) : getK ((k', d) :: r) k = getK r k := by
  unfold getK; rw [List.find?_cons_of_neg (by simpa using h)]
theorem now_tick {tick : Int} {w g r : Addr} : getK (nowK tick w g r) (.inr w_tick) = some (.int tick) := by unfold nowK; rw [getK_hit]
theorem now_words {tick : Int} {w g r : Addr} : getK (nowK tick w g r) (.inr w_words) = some (.ref w) := by unfold nowK; rw [getK_miss (k' := .inr w_tick) (k := .inr w_words) (by decide +kernel), getK_hit]
theorem now_begun {tick : Int} {w g r : Addr} : getK (nowK tick w g r) (.inr w_begun) = some (.ref g) := by unfold nowK; rw [getK_miss (k' := .inr w_tick) (k := .inr w_begun) (by decide +kernel), getK_miss (k' := .inr w_words) (k := .inr w_begun) (by decide +kernel), getK_hit]
theorem now_rows {tick : Int} {w g r : Addr} : getK (nowK tick w g r) (.inr w_rows) = some (.ref r) := by unfold nowK; rw [getK_miss (k' := .inr w_tick) (k := .inr w_rows) (by decide +kernel), getK_miss (k' := .inr w_words) (k := .inr w_rows) (by decide +kernel), getK_miss (k' := .inr w_begun) (k := .inr w_rows) (by decide +kernel), getK_hit]
structure Nw (M : Mp) (a w g r : Addr) (tick : Int) : Prop where
  at_ : M a = some (.dct (nowK tick w g r))
  aw : a ≠ w
  ag : a ≠ g
  ar : a ≠ r
  a3 : A3 w g r
section
variable {M : Mp} {a w g r : Addr} {L : Nat} {s : St} {tick : Int}
theorem Nw.now (h : Nw M a w g r tick) : mem3 M w g r L s a = some (.dct (nowK tick w g r)) := (mem3_o h.aw h.ag h.ar).trans h.at_
theorem Nw.gw (h : Nw M a w g r tick) : mem3 M w g r L s w = some (.lst (wordsD L s.w)) := h.a3.gw
theorem Nw.gg (h : Nw M a w g r tick) : mem3 M w g r L s g = some (.lst (begD L s.g)) := h.a3.gg
theorem Nw.gr (_ : Nw M a w g r tick) : mem3 M w g r L s r = some (.lst (rowsD s.r)) := A3.gr'
structure Fresh (M : Mp) (f w g r : Addr) : Prop where
  w : f ≠ w
  g : f ≠ g
  r : f ≠ r
  no : M f = none
end
/-! ### what the program keeps -/
@[irreducible] def momF (t : P) (tick : Int) (w g r : Addr) : List (Str × D) := [("plan", t.d), ("posts", .lst (t.all.map P.d)), ("rows_of", .lst ((rowsF 0 t.all).map row)), ("at", .int tick), ("words", .ref w), ("begun", .ref g), ("done", .ref r)]
section
variable {t : P} {tick : Int} {w g r : Addr}
theorem mom_plan : (momF t tick w g r).lookup ("plan" : Str) = some t.d := by unfold momF; rfl
theorem mom_posts : (momF t tick w g r).lookup ("posts" : Str) = some (.lst (t.all.map P.d)) := by unfold momF; rfl
theorem mom_rows_of : (momF t tick w g r).lookup ("rows_of" : Str) = some (.lst ((rowsF 0 t.all).map row)) := by unfold momF; rfl
theorem mom_at : (momF t tick w g r).lookup ("at" : Str) = some (.int tick) := by unfold momF; rfl
theorem mom_words : (momF t tick w g r).lookup ("words" : Str) = some (.ref w) := by unfold momF; rfl
theorem mom_begun : (momF t tick w g r).lookup ("begun" : Str) = some (.ref g) := by unfold momF; rfl
theorem mom_done : (momF t tick w g r).lookup ("done" : Str) = some (.ref r) := by unfold momF; rfl
end
structure Mw (M : Mp) (a w g r : Addr) (t : P) (tick : Int) : Prop where
  at_ : M a = some (.ins "Moment" (momF t tick w g r))
  aw : a ≠ w
  ag : a ≠ g
  ar : a ≠ r
  a3 : A3 w g r
section
variable {M : Mp} {a w g r : Addr} {L : Nat} {s : St} {t : P} {tick : Int}
theorem Mw.mo (h : Mw M a w g r t tick) : mem3 M w g r L s a = some (.ins "Moment" (momF t tick w g r)) := (mem3_o h.aw h.ag h.ar).trans h.at_
theorem Mw.gw (h : Mw M a w g r t tick) : mem3 M w g r L s w = some (.lst (wordsD L s.w)) := h.a3.gw
theorem Mw.gg (h : Mw M a w g r t tick) : mem3 M w g r L s g = some (.lst (begD L s.g)) := h.a3.gg
theorem Mw.gr (_ : Mw M a w g r t tick) : mem3 M w g r L s r = some (.lst (rowsD s.r)) := A3.gr'
end
/-! ### a post in a tree -/
def Sub (t : P) (n : Nat) (p : P) : Prop := ∃ l r, t.all = l ++ p.all ++ r ∧ l.length = n
theorem P.all_head (p : P) : ∃ l, p.all = p :: l := by
  cases p with
  | wk k => exact ⟨[], alls_one k⟩
  | wt k y m w ps => exact ⟨_, alls_cons⟩
theorem Sub.get {t p : P} {n : Nat} (h : Sub t n p) : t.all[n]? = some p := by
  obtain ⟨l, r, e, hl⟩ := h
  obtain ⟨q, hq⟩ := p.all_head
  rw [e, hq, ← hl, List.append_assoc, List.getElem?_append_right (Nat.le_refl _), Nat.sub_self]
  rfl
theorem Sub.le {t p : P} {n : Nat} (h : Sub t n p) : n + p.size ≤ t.size := by
  obtain ⟨l, r, e, hl⟩ := h
  unfold P.size
  rw [e, List.length_append, List.length_append]; omega
theorem subs_kids {t : P} : ∀ (ps : List P) (n : Nat), (∃ l r, t.all = l ++ P.alls ps ++ r ∧ l.length = n) → ∀ x ∈ kidsN n ps, Sub t x.1 x.2
  | q :: qs, n, ⟨l, r, e, hl⟩, x, hx => by
    simp only [kidsN, List.mem_cons] at hx
    rcases hx with rfl | hx
    · exact ⟨l, P.alls qs ++ r, by rw [e]; simp only [P.alls, List.append_assoc], hl⟩
    · exact subs_kids qs _ ⟨l ++ q.all, r, by rw [e]; simp only [P.alls, List.append_assoc], by rw [List.length_append, hl]; rfl⟩ x hx
theorem Sub.kids {t : P} {n : Nat} {k : Kd} {y : Wy} {m w : Int} {ps : List P} (h : Sub t n (.wt k y m w ps)) : ∀ x ∈ kidsN (n + 1) ps, Sub t x.1 x.2 := by
  obtain ⟨l, r, e, hl⟩ := h
  refine subs_kids ps _ ⟨l ++ [.wt k y m w ps], r, ?_, by rw [List.length_append, hl]; rfl⟩
  rw [e, alls_cons]; simp
theorem at_post {t p : P} {n : Nat} (h : Sub t n p) : atI (t.all.map P.d) (n : Nat) = some p.d := by
  rw [at_nat, List.getElem?_map, h.get]; rfl
theorem enumN_get {α : Type} : ∀ {xs : List α} {k i : Nat} {x : α}, xs[i]? = some x → (enumN k xs)[i]? = some (k + i, x)
  | y :: ys, k, 0, x, h => by
    rw [List.getElem?_cons_zero] at h; cases h; rfl
  | y :: ys, k, i + 1, x, h => by
    rw [List.getElem?_cons_succ] at h
    show (enumN (k + 1) ys)[i]? = _
    rw [enumN_get h, show k + 1 + i = k + (i + 1) by omega]
theorem at_rowsF {t p : P} {n : Nat} (h : Sub t n p) : atI ((rowsF 0 t.all).map row) (n : Nat) = some (row (rowOf n p)) := by
  rw [at_nat, rowsF, List.map_map, List.getElem?_map, enumN_get h.get, Nat.zero_add]; rfl
mutual
theorem ents_at : ∀ {p : P} {n i : Nat} {up : Option Nat} {e : Ent}, (ents n up p)[i]? = some e → e.row = rowOf (n + i) e.p
  | .wk k, n, i, up, e, h => by
    simp only [ents] at h
    cases i with
    | zero => cases h; rfl
    | succ i => cases h
  | .wt k y m w ps, n, i, up, e, h => by
    simp only [ents] at h
    cases i with
    | zero => cases h; rfl
    | succ i =>
      rw [List.getElem?_cons_succ] at h
      rw [entsL_at h, show n + 1 + i = n + (i + 1) by omega]
theorem entsL_at : ∀ {ps : List P} {n i up : Nat} {e : Ent}, (entsL n up ps)[i]? = some e → e.row = rowOf (n + i) e.p
  | [], n, i, up, e, h => by simp [entsL] at h
  | p :: ps, n, i, up, e, h => by
    simp only [entsL] at h
    by_cases hi : i < (ents n (some up) p).length
    · rw [List.getElem?_append_left hi] at h
      exact ents_at h
    · rw [List.getElem?_append_right (by omega)] at h
      rw [entsL_at h]
      rw [ents_len] at hi ⊢
      rw [show n + p.size + (i - p.size) = n + i by omega]
end
def upAt (t : P) (n : Nat) : D := match (ents 0 none t)[n]? with
  | some e => upD e.up
  | none => .non
@[irreducible] def entsD (t : P) : List D := (ents 0 none t).map Ent.d
theorem at_ent {t p : P} {n : Nat} (h : Sub t n p) : atI (entsD t) (n : Nat) = some (.lst [p.d, upAt t n, .lst (nums (rowOf n p))]) := by
  unfold entsD upAt
  rw [at_nat, List.getElem?_map]
  have h1 := h.get
  rw [← ents_p t 0 none, List.getElem?_map] at h1
  cases he : (ents 0 none t)[n]? with
  | none => rw [he] at h1; cases h1
  | some e =>
    rw [he] at h1
    have h2 : e.p = p := by simpa using h1
    have h3 := ents_at he
    rw [Nat.zero_add, h2] at h3
    show some (D.lst [e.p.d, upD e.up, .lst (nums e.row)]) = _
    rw [h2, h3]
end Hd
set_option Elab.async false
set_option linter.all false
set_option maxRecDepth 100000
set_option maxHeartbeats 1000000
set_option pp.maxSteps 1200
/-! PA: the law's own defs: what is in a post, stopped, begun. -/
namespace Hd
open PySem PySem.Spec PyProof.Rows L2 TT
local macro_rules | `(tactic| walk_at "m") => `(tactic| first | with_reducible exact mset_same | with_reducible assumption | (with_reducible refine' Nw.now ?_; rotate_right; assumption) | (with_reducible refine' Nw.gw ?_; rotate_right; assumption) | (with_reducible refine' Nw.gg ?_; rotate_right; assumption) | (with_reducible refine' Nw.gr ?_; rotate_right; assumption) | (with_reducible refine' Mw.mo ?_; rotate_right; assumption) | (with_reducible refine' Mw.gw ?_; rotate_right; assumption) | (with_reducible refine' Mw.gg ?_; rotate_right; assumption) | (with_reducible refine' Mw.gr ?_; rotate_right; assumption) | with_reducible exact now_tick | with_reducible exact now_words | with_reducible exact now_begun | with_reducible exact now_rows | with_reducible exact mom_plan | with_reducible exact mom_posts | with_reducible exact mom_rows_of | with_reducible exact mom_at | with_reducible exact mom_words | with_reducible exact mom_begun | with_reducible exact mom_done | (with_reducible refine at_words0 ?_; omega) | (with_reducible refine ix_words0 ?_; omega) | (with_reducible refine at_words ?_; (try dsimp only); omega) | (with_reducible refine at_begun ?_; (try dsimp only); omega) | (with_reducible refine ix_words ?_; (try dsimp only); omega) | (with_reducible refine ix_begun ?_; (try dsimp only); omega) | (with_reducible refine' at_ent ?_; rotate_right; assumption) | (with_reducible refine' at_post ?_; rotate_right; assumption) | (with_reducible refine' at_rowsF ?_; rotate_right; assumption) | (with_reducible refine Eq.trans (mem3_o ?_ ?_ ?_) ?_; assumption; assumption; assumption; walk_at "m") | (with_reducible refine Eq.trans (mset_ne ?_) ?_; (first | assumption | (apply Ne.symm; assumption)); walk_at "m"))
local macro_rules | `(tactic| walk_at "c") => `(tactic| first | trivial | omega | assumption | (refine rows_lt ?_; (try dsimp only); omega) | (unfold momF; rfl) | (refine' ei _ ?_ ?_; rotate_left; (focus (walk_at "m")); rfl) | (refine And.intro ?_ ?_ <;> first | omega | decide | assumption | exact isiC_of rfl | exact isiC_of (by assumption) | exact isiC_lst (by assumption)) | (refine Or.inr ?_; constructor <;> omega) | (refine Or.inl ?_; constructor <;> omega) | decide)
local macro_rules | `(tactic| walk_at "w") => `(tactic| first | rw [A3.sw_down (by assumption) (by omega)] | rw [A3.sw_runs (by assumption) (by omega)] | rw [A3.sw_off (by assumption) (by omega)] | rw [A3.sw_fell (by assumption) (by omega)] | rw [A3.sw_fin (by assumption) (by omega)] | rw [A3.sg_nil (by assumption) (by omega)] | rw [A3.sr_stop (by assumption)] | rw [A3.sr_bgn (by assumption)] | rw [A3.sr_gave (by assumption)] | rw [A3.sr_off (by assumption)] | rw [mem3_set (by assumption) (by assumption) (by assumption), mset_mset] | rw [mem3_set (by assumption) (by assumption) (by assumption)])
local macro_rules | `(tactic| walk_at "s") => `(tactic| first | (refine' ei _ ?_ ?_; rotate_left; (focus (first | walk_at "m" | rfl)); walk_at "s") | (refine And.intro ?_ ?_; (focus (walk_at "c")); walk_at "s") | (refine vlit_t ?_; walk_at "s") | (refine vlit_f ?_; walk_at "s") | (walk_at "w"; walk_at "s") | (try conv => whnf))
local macro_rules | `(tactic| walk_at "t") => `(tactic| first | (refine vif_t rfl ?_; walk_at "s") | (refine vif_f rfl ?_; walk_at "s") | (refine vif_t (by decide +kernel) ?_; walk_at "s") | (refine vif_f (by decide +kernel) ?_; walk_at "s"))
section
variable {N : Nat} {M : Mp} {Q : KQ} {X : KX}
end
end Hd
set_option Elab.async false
set_option linter.all false
set_option maxRecDepth 100000
set_option maxHeartbeats 1000000
set_option pp.maxSteps 1200
/-! PB: the law's own defs: what is begun; what fell. -/
namespace Hd
open PySem PySem.Spec PyProof.Rows L2 TT
local macro_rules | `(tactic| walk_at "m") => `(tactic| first | with_reducible exact mset_same | with_reducible assumption | (with_reducible refine' Nw.now ?_; rotate_right; assumption) | (with_reducible refine' Nw.gw ?_; rotate_right; assumption) | (with_reducible refine' Nw.gg ?_; rotate_right; assumption) | (with_reducible refine' Nw.gr ?_; rotate_right; assumption) | (with_reducible refine' Mw.mo ?_; rotate_right; assumption) | (with_reducible refine' Mw.gw ?_; rotate_right; assumption) | (with_reducible refine' Mw.gg ?_; rotate_right; assumption) | (with_reducible refine' Mw.gr ?_; rotate_right; assumption) | with_reducible exact now_tick | with_reducible exact now_words | with_reducible exact now_begun | with_reducible exact now_rows | with_reducible exact mom_plan | with_reducible exact mom_posts | with_reducible exact mom_rows_of | with_reducible exact mom_at | with_reducible exact mom_words | with_reducible exact mom_begun | with_reducible exact mom_done | (with_reducible refine at_words0 ?_; omega) | (with_reducible refine ix_words0 ?_; omega) | (with_reducible refine at_words ?_; (try dsimp only); omega) | (with_reducible refine at_begun ?_; (try dsimp only); omega) | (with_reducible refine ix_words ?_; (try dsimp only); omega) | (with_reducible refine ix_begun ?_; (try dsimp only); omega) | (with_reducible refine' at_ent ?_; rotate_right; assumption) | (with_reducible refine' at_post ?_; rotate_right; assumption) | (with_reducible refine' at_rowsF ?_; rotate_right; assumption) | (with_reducible refine Eq.trans (mem3_o ?_ ?_ ?_) ?_; assumption; assumption; assumption; walk_at "m") | (with_reducible refine Eq.trans (mset_ne ?_) ?_; (first | assumption | (apply Ne.symm; assumption)); walk_at "m"))
local macro_rules | `(tactic| walk_at "c") => `(tactic| first | trivial | omega | assumption | (refine rows_lt ?_; (try dsimp only); omega) | (unfold momF; rfl) | (refine' ei _ ?_ ?_; rotate_left; (focus (walk_at "m")); rfl) | (refine And.intro ?_ ?_ <;> first | omega | decide | assumption | exact isiC_of rfl | exact isiC_of (by assumption) | exact isiC_lst (by assumption)) | (refine Or.inr ?_; constructor <;> omega) | (refine Or.inl ?_; constructor <;> omega) | decide)
local macro_rules | `(tactic| walk_at "w") => `(tactic| first | rw [A3.sw_down (by assumption) (by omega)] | rw [A3.sw_runs (by assumption) (by omega)] | rw [A3.sw_off (by assumption) (by omega)] | rw [A3.sw_fell (by assumption) (by omega)] | rw [A3.sw_fin (by assumption) (by omega)] | rw [A3.sg_nil (by assumption) (by omega)] | rw [A3.sr_stop (by assumption)] | rw [A3.sr_bgn (by assumption)] | rw [A3.sr_gave (by assumption)] | rw [A3.sr_off (by assumption)] | rw [mem3_set (by assumption) (by assumption) (by assumption), mset_mset] | rw [mem3_set (by assumption) (by assumption) (by assumption)])
local macro_rules | `(tactic| walk_at "s") => `(tactic| first | (refine' ei _ ?_ ?_; rotate_left; (focus (first | walk_at "m" | rfl)); walk_at "s") | (refine And.intro ?_ ?_; (focus (walk_at "c")); walk_at "s") | (refine vlit_t ?_; walk_at "s") | (refine vlit_f ?_; walk_at "s") | (walk_at "w"; walk_at "s") | (try conv => whnf))
local macro_rules | `(tactic| walk_at "t") => `(tactic| first | (refine vif_t rfl ?_; walk_at "s") | (refine vif_f rfl ?_; walk_at "s") | (refine vif_t (by decide +kernel) ?_; walk_at "s") | (refine vif_f (by decide +kernel) ?_; walk_at "s"))
/-! ### what fell or finished -/
end Hd
set_option Elab.async false
set_option linter.all false
set_option maxRecDepth 100000
set_option maxHeartbeats 1000000
set_option pp.maxSteps 1200
/-! PC: the law's own defs: what fell. -/
namespace Hd
open PySem PySem.Spec PyProof.Rows L2 TT
local macro_rules | `(tactic| walk_at "m") => `(tactic| first | with_reducible exact mset_same | with_reducible assumption | (with_reducible refine' Nw.now ?_; rotate_right; assumption) | (with_reducible refine' Nw.gw ?_; rotate_right; assumption) | (with_reducible refine' Nw.gg ?_; rotate_right; assumption) | (with_reducible refine' Nw.gr ?_; rotate_right; assumption) | (with_reducible refine' Mw.mo ?_; rotate_right; assumption) | (with_reducible refine' Mw.gw ?_; rotate_right; assumption) | (with_reducible refine' Mw.gg ?_; rotate_right; assumption) | (with_reducible refine' Mw.gr ?_; rotate_right; assumption) | with_reducible exact now_tick | with_reducible exact now_words | with_reducible exact now_begun | with_reducible exact now_rows | with_reducible exact mom_plan | with_reducible exact mom_posts | with_reducible exact mom_rows_of | with_reducible exact mom_at | with_reducible exact mom_words | with_reducible exact mom_begun | with_reducible exact mom_done | (with_reducible refine at_words0 ?_; omega) | (with_reducible refine ix_words0 ?_; omega) | (with_reducible refine at_words ?_; (try dsimp only); omega) | (with_reducible refine at_begun ?_; (try dsimp only); omega) | (with_reducible refine ix_words ?_; (try dsimp only); omega) | (with_reducible refine ix_begun ?_; (try dsimp only); omega) | (with_reducible refine' at_ent ?_; rotate_right; assumption) | (with_reducible refine' at_post ?_; rotate_right; assumption) | (with_reducible refine' at_rowsF ?_; rotate_right; assumption) | (with_reducible refine Eq.trans (mem3_o ?_ ?_ ?_) ?_; assumption; assumption; assumption; walk_at "m") | (with_reducible refine Eq.trans (mset_ne ?_) ?_; (first | assumption | (apply Ne.symm; assumption)); walk_at "m"))
local macro_rules | `(tactic| walk_at "c") => `(tactic| first | trivial | omega | assumption | (refine rows_lt ?_; (try dsimp only); omega) | (unfold momF; rfl) | (refine' ei _ ?_ ?_; rotate_left; (focus (walk_at "m")); rfl) | (refine And.intro ?_ ?_ <;> first | omega | decide | assumption | exact isiC_of rfl | exact isiC_of (by assumption) | exact isiC_lst (by assumption)) | (refine Or.inr ?_; constructor <;> omega) | (refine Or.inl ?_; constructor <;> omega) | decide)
local macro_rules | `(tactic| walk_at "w") => `(tactic| first | rw [A3.sw_down (by assumption) (by omega)] | rw [A3.sw_runs (by assumption) (by omega)] | rw [A3.sw_off (by assumption) (by omega)] | rw [A3.sw_fell (by assumption) (by omega)] | rw [A3.sw_fin (by assumption) (by omega)] | rw [A3.sg_nil (by assumption) (by omega)] | rw [A3.sr_stop (by assumption)] | rw [A3.sr_bgn (by assumption)] | rw [A3.sr_gave (by assumption)] | rw [A3.sr_off (by assumption)] | rw [mem3_set (by assumption) (by assumption) (by assumption), mset_mset] | rw [mem3_set (by assumption) (by assumption) (by assumption)])
local macro_rules | `(tactic| walk_at "s") => `(tactic| first | (refine' ei _ ?_ ?_; rotate_left; (focus (first | walk_at "m" | rfl)); walk_at "s") | (refine And.intro ?_ ?_; (focus (walk_at "c")); walk_at "s") | (refine vlit_t ?_; walk_at "s") | (refine vlit_f ?_; walk_at "s") | (walk_at "w"; walk_at "s") | (try conv => whnf))
local macro_rules | `(tactic| walk_at "t") => `(tactic| first | (refine vif_t rfl ?_; walk_at "s") | (refine vif_f rfl ?_; walk_at "s") | (refine vif_t (by decide +kernel) ?_; walk_at "s") | (refine vif_f (by decide +kernel) ?_; walk_at "s"))
section
variable {N : Nat} {M : Mp} {Q : KQ} {X : KX}
end
end Hd
set_option Elab.async false
set_option linter.all false
set_option maxRecDepth 100000
set_option maxHeartbeats 1000000
set_option pp.maxSteps 1200
/-! PD: the law's own defs: what is begun again. -/
namespace Hd
open PySem PySem.Spec PyProof.Rows L2 TT
local macro_rules | `(tactic| walk_at "m") => `(tactic| first | with_reducible exact mset_same | with_reducible assumption | (with_reducible refine' Nw.now ?_; rotate_right; assumption) | (with_reducible refine' Nw.gw ?_; rotate_right; assumption) | (with_reducible refine' Nw.gg ?_; rotate_right; assumption) | (with_reducible refine' Nw.gr ?_; rotate_right; assumption) | (with_reducible refine' Mw.mo ?_; rotate_right; assumption) | (with_reducible refine' Mw.gw ?_; rotate_right; assumption) | (with_reducible refine' Mw.gg ?_; rotate_right; assumption) | (with_reducible refine' Mw.gr ?_; rotate_right; assumption) | with_reducible exact now_tick | with_reducible exact now_words | with_reducible exact now_begun | with_reducible exact now_rows | with_reducible exact mom_plan | with_reducible exact mom_posts | with_reducible exact mom_rows_of | with_reducible exact mom_at | with_reducible exact mom_words | with_reducible exact mom_begun | with_reducible exact mom_done | (with_reducible refine at_words0 ?_; omega) | (with_reducible refine ix_words0 ?_; omega) | (with_reducible refine at_words ?_; (try dsimp only); omega) | (with_reducible refine at_begun ?_; (try dsimp only); omega) | (with_reducible refine ix_words ?_; (try dsimp only); omega) | (with_reducible refine ix_begun ?_; (try dsimp only); omega) | (with_reducible refine' at_ent ?_; rotate_right; assumption) | (with_reducible refine' at_post ?_; rotate_right; assumption) | (with_reducible refine' at_rowsF ?_; rotate_right; assumption) | (with_reducible refine Eq.trans (mem3_o ?_ ?_ ?_) ?_; assumption; assumption; assumption; walk_at "m") | (with_reducible refine Eq.trans (mset_ne ?_) ?_; (first | assumption | (apply Ne.symm; assumption)); walk_at "m"))
local macro_rules | `(tactic| walk_at "c") => `(tactic| first | trivial | omega | assumption | (refine rows_lt ?_; (try dsimp only); omega) | (unfold momF; rfl) | (refine' ei _ ?_ ?_; rotate_left; (focus (walk_at "m")); rfl) | (refine And.intro ?_ ?_ <;> first | omega | decide | assumption | exact isiC_of rfl | exact isiC_of (by assumption) | exact isiC_lst (by assumption)) | (refine Or.inr ?_; constructor <;> omega) | (refine Or.inl ?_; constructor <;> omega) | decide)
local macro_rules | `(tactic| walk_at "w") => `(tactic| first | rw [A3.sw_down (by assumption) (by omega)] | rw [A3.sw_runs (by assumption) (by omega)] | rw [A3.sw_off (by assumption) (by omega)] | rw [A3.sw_fell (by assumption) (by omega)] | rw [A3.sw_fin (by assumption) (by omega)] | rw [A3.sg_nil (by assumption) (by omega)] | rw [A3.sr_stop (by assumption)] | rw [A3.sr_bgn (by assumption)] | rw [A3.sr_gave (by assumption)] | rw [A3.sr_off (by assumption)] | rw [mem3_set (by assumption) (by assumption) (by assumption), mset_mset] | rw [mem3_set (by assumption) (by assumption) (by assumption)])
local macro_rules | `(tactic| walk_at "s") => `(tactic| first | (refine' ei _ ?_ ?_; rotate_left; (focus (first | walk_at "m" | rfl)); walk_at "s") | (refine And.intro ?_ ?_; (focus (walk_at "c")); walk_at "s") | (refine vlit_t ?_; walk_at "s") | (refine vlit_f ?_; walk_at "s") | (walk_at "w"; walk_at "s") | (try conv => whnf))
local macro_rules | `(tactic| walk_at "t") => `(tactic| first | (refine vif_t rfl ?_; walk_at "s") | (refine vif_f rfl ?_; walk_at "s") | (refine vif_t (by decide +kernel) ?_; walk_at "s") | (refine vif_f (by decide +kernel) ?_; walk_at "s"))
section
variable {N : Nat} {M : Mp} {Q : KQ} {X : KX}
end
end Hd
set_option Elab.async false
set_option linter.all false
set_option maxRecDepth 100000
set_option maxHeartbeats 1000000
set_option pp.maxSteps 1200
/-! PE: the law's own defs: what is begun again; a settling. -/
namespace Hd
open PySem PySem.Spec PyProof.Rows L2 TT
local macro_rules | `(tactic| walk_at "m") => `(tactic| first | with_reducible exact mset_same | with_reducible assumption | (with_reducible refine' Nw.now ?_; rotate_right; assumption) | (with_reducible refine' Nw.gw ?_; rotate_right; assumption) | (with_reducible refine' Nw.gg ?_; rotate_right; assumption) | (with_reducible refine' Nw.gr ?_; rotate_right; assumption) | (with_reducible refine' Mw.mo ?_; rotate_right; assumption) | (with_reducible refine' Mw.gw ?_; rotate_right; assumption) | (with_reducible refine' Mw.gg ?_; rotate_right; assumption) | (with_reducible refine' Mw.gr ?_; rotate_right; assumption) | with_reducible exact now_tick | with_reducible exact now_words | with_reducible exact now_begun | with_reducible exact now_rows | with_reducible exact mom_plan | with_reducible exact mom_posts | with_reducible exact mom_rows_of | with_reducible exact mom_at | with_reducible exact mom_words | with_reducible exact mom_begun | with_reducible exact mom_done | (with_reducible refine at_words0 ?_; omega) | (with_reducible refine ix_words0 ?_; omega) | (with_reducible refine at_words ?_; (try dsimp only); omega) | (with_reducible refine at_begun ?_; (try dsimp only); omega) | (with_reducible refine ix_words ?_; (try dsimp only); omega) | (with_reducible refine ix_begun ?_; (try dsimp only); omega) | (with_reducible refine' at_ent ?_; rotate_right; assumption) | (with_reducible refine' at_post ?_; rotate_right; assumption) | (with_reducible refine' at_rowsF ?_; rotate_right; assumption) | (with_reducible refine Eq.trans (mem3_o ?_ ?_ ?_) ?_; assumption; assumption; assumption; walk_at "m") | (with_reducible refine Eq.trans (mset_ne ?_) ?_; (first | assumption | (apply Ne.symm; assumption)); walk_at "m"))
local macro_rules | `(tactic| walk_at "c") => `(tactic| first | trivial | omega | assumption | (refine rows_lt ?_; (try dsimp only); omega) | (unfold momF; rfl) | (refine' ei _ ?_ ?_; rotate_left; (focus (walk_at "m")); rfl) | (refine And.intro ?_ ?_ <;> first | omega | decide | assumption | exact isiC_of rfl | exact isiC_of (by assumption) | exact isiC_lst (by assumption)) | (refine Or.inr ?_; constructor <;> omega) | (refine Or.inl ?_; constructor <;> omega) | decide)
local macro_rules | `(tactic| walk_at "w") => `(tactic| first | rw [A3.sw_down (by assumption) (by omega)] | rw [A3.sw_runs (by assumption) (by omega)] | rw [A3.sw_off (by assumption) (by omega)] | rw [A3.sw_fell (by assumption) (by omega)] | rw [A3.sw_fin (by assumption) (by omega)] | rw [A3.sg_nil (by assumption) (by omega)] | rw [A3.sr_stop (by assumption)] | rw [A3.sr_bgn (by assumption)] | rw [A3.sr_gave (by assumption)] | rw [A3.sr_off (by assumption)] | rw [mem3_set (by assumption) (by assumption) (by assumption), mset_mset] | rw [mem3_set (by assumption) (by assumption) (by assumption)])
local macro_rules | `(tactic| walk_at "s") => `(tactic| first | (refine' ei _ ?_ ?_; rotate_left; (focus (first | walk_at "m" | rfl)); walk_at "s") | (refine And.intro ?_ ?_; (focus (walk_at "c")); walk_at "s") | (refine vlit_t ?_; walk_at "s") | (refine vlit_f ?_; walk_at "s") | (walk_at "w"; walk_at "s") | (try conv => whnf))
local macro_rules | `(tactic| walk_at "t") => `(tactic| first | (refine vif_t rfl ?_; walk_at "s") | (refine vif_f rfl ?_; walk_at "s") | (refine vif_t (by decide +kernel) ?_; walk_at "s") | (refine vif_f (by decide +kernel) ?_; walk_at "s"))
section
variable {N : Nat} {M : Mp} {Q : KQ} {X : KX}
end
end Hd
set_option Elab.async false
set_option linter.all false
set_option maxRecDepth 100000
set_option maxHeartbeats 1000000
set_option pp.maxSteps 1200
/-! PF: the law's own settling. -/
namespace Hd
open PySem PySem.Spec PyProof.Rows L2 TT
local macro_rules | `(tactic| walk_at "m") => `(tactic| first | with_reducible exact mset_same | with_reducible assumption | (with_reducible refine' Nw.now ?_; rotate_right; assumption) | (with_reducible refine' Nw.gw ?_; rotate_right; assumption) | (with_reducible refine' Nw.gg ?_; rotate_right; assumption) | (with_reducible refine' Nw.gr ?_; rotate_right; assumption) | (with_reducible refine' Mw.mo ?_; rotate_right; assumption) | (with_reducible refine' Mw.gw ?_; rotate_right; assumption) | (with_reducible refine' Mw.gg ?_; rotate_right; assumption) | (with_reducible refine' Mw.gr ?_; rotate_right; assumption) | with_reducible exact now_tick | with_reducible exact now_words | with_reducible exact now_begun | with_reducible exact now_rows | with_reducible exact mom_plan | with_reducible exact mom_posts | with_reducible exact mom_rows_of | with_reducible exact mom_at | with_reducible exact mom_words | with_reducible exact mom_begun | with_reducible exact mom_done | (with_reducible refine at_words0 ?_; omega) | (with_reducible refine ix_words0 ?_; omega) | (with_reducible refine at_words ?_; (try dsimp only); omega) | (with_reducible refine at_begun ?_; (try dsimp only); omega) | (with_reducible refine ix_words ?_; (try dsimp only); omega) | (with_reducible refine ix_begun ?_; (try dsimp only); omega) | (with_reducible refine' at_ent ?_; rotate_right; assumption) | (with_reducible refine' at_post ?_; rotate_right; assumption) | (with_reducible refine' at_rowsF ?_; rotate_right; assumption) | (with_reducible refine Eq.trans (mem3_o ?_ ?_ ?_) ?_; assumption; assumption; assumption; walk_at "m") | (with_reducible refine Eq.trans (mset_ne ?_) ?_; (first | assumption | (apply Ne.symm; assumption)); walk_at "m"))
local macro_rules | `(tactic| walk_at "c") => `(tactic| first | trivial | omega | assumption | (refine rows_lt ?_; (try dsimp only); omega) | (unfold momF; rfl) | (refine' ei _ ?_ ?_; rotate_left; (focus (walk_at "m")); rfl) | (refine And.intro ?_ ?_ <;> first | omega | decide | assumption | exact isiC_of rfl | exact isiC_of (by assumption) | exact isiC_lst (by assumption)) | (refine Or.inr ?_; constructor <;> omega) | (refine Or.inl ?_; constructor <;> omega) | decide)
local macro_rules | `(tactic| walk_at "w") => `(tactic| first | rw [A3.sw_down (by assumption) (by omega)] | rw [A3.sw_runs (by assumption) (by omega)] | rw [A3.sw_off (by assumption) (by omega)] | rw [A3.sw_fell (by assumption) (by omega)] | rw [A3.sw_fin (by assumption) (by omega)] | rw [A3.sg_nil (by assumption) (by omega)] | rw [A3.sr_stop (by assumption)] | rw [A3.sr_bgn (by assumption)] | rw [A3.sr_gave (by assumption)] | rw [A3.sr_off (by assumption)] | rw [mem3_set (by assumption) (by assumption) (by assumption), mset_mset] | rw [mem3_set (by assumption) (by assumption) (by assumption)])
local macro_rules | `(tactic| walk_at "s") => `(tactic| first | (refine' ei _ ?_ ?_; rotate_left; (focus (first | walk_at "m" | rfl)); walk_at "s") | (refine And.intro ?_ ?_; (focus (walk_at "c")); walk_at "s") | (refine vlit_t ?_; walk_at "s") | (refine vlit_f ?_; walk_at "s") | (walk_at "w"; walk_at "s") | (try conv => whnf))
local macro_rules | `(tactic| walk_at "t") => `(tactic| first | (refine vif_t rfl ?_; walk_at "s") | (refine vif_f rfl ?_; walk_at "s") | (refine vif_t (by decide +kernel) ?_; walk_at "s") | (refine vif_f (by decide +kernel) ?_; walk_at "s"))
section
variable {N : Nat} {M : Mp} {Q : KQ} {X : KX}
end
end Hd
set_option Elab.async false
set_option linter.all false
set_option maxRecDepth 100000
set_option maxHeartbeats 1000000
set_option pp.maxSteps 1200
/-! PG: the program's orders; what a moment stops and begins. -/
namespace Hd
open PySem PySem.Spec PyProof.Rows L2 TT
local macro_rules | `(tactic| walk_at "m") => `(tactic| first | with_reducible exact mset_same | with_reducible assumption | (with_reducible refine' Nw.now ?_; rotate_right; assumption) | (with_reducible refine' Nw.gw ?_; rotate_right; assumption) | (with_reducible refine' Nw.gg ?_; rotate_right; assumption) | (with_reducible refine' Nw.gr ?_; rotate_right; assumption) | (with_reducible refine' Mw.mo ?_; rotate_right; assumption) | (with_reducible refine' Mw.gw ?_; rotate_right; assumption) | (with_reducible refine' Mw.gg ?_; rotate_right; assumption) | (with_reducible refine' Mw.gr ?_; rotate_right; assumption) | with_reducible exact now_tick | with_reducible exact now_words | with_reducible exact now_begun | with_reducible exact now_rows | with_reducible exact mom_plan | with_reducible exact mom_posts | with_reducible exact mom_rows_of | with_reducible exact mom_at | with_reducible exact mom_words | with_reducible exact mom_begun | with_reducible exact mom_done | (with_reducible refine at_words0 ?_; omega) | (with_reducible refine ix_words0 ?_; omega) | (with_reducible refine at_words ?_; (try dsimp only); omega) | (with_reducible refine at_begun ?_; (try dsimp only); omega) | (with_reducible refine ix_words ?_; (try dsimp only); omega) | (with_reducible refine ix_begun ?_; (try dsimp only); omega) | (with_reducible refine' at_ent ?_; rotate_right; assumption) | (with_reducible refine' at_post ?_; rotate_right; assumption) | (with_reducible refine' at_rowsF ?_; rotate_right; assumption) | (with_reducible refine Eq.trans (mem3_o ?_ ?_ ?_) ?_; assumption; assumption; assumption; walk_at "m") | (with_reducible refine Eq.trans (mset_ne ?_) ?_; (first | assumption | (apply Ne.symm; assumption)); walk_at "m"))
local macro_rules | `(tactic| walk_at "c") => `(tactic| first | trivial | omega | assumption | (refine rows_lt ?_; (try dsimp only); omega) | (unfold momF; rfl) | (refine' ei _ ?_ ?_; rotate_left; (focus (walk_at "m")); rfl) | (refine And.intro ?_ ?_ <;> first | omega | decide | assumption | exact isiC_of rfl | exact isiC_of (by assumption) | exact isiC_lst (by assumption)) | (refine Or.inr ?_; constructor <;> omega) | (refine Or.inl ?_; constructor <;> omega) | decide)
local macro_rules | `(tactic| walk_at "w") => `(tactic| first | rw [A3.sw_down (by assumption) (by omega)] | rw [A3.sw_runs (by assumption) (by omega)] | rw [A3.sw_off (by assumption) (by omega)] | rw [A3.sw_fell (by assumption) (by omega)] | rw [A3.sw_fin (by assumption) (by omega)] | rw [A3.sg_nil (by assumption) (by omega)] | rw [A3.sr_stop (by assumption)] | rw [A3.sr_bgn (by assumption)] | rw [A3.sr_gave (by assumption)] | rw [A3.sr_off (by assumption)] | rw [mem3_set (by assumption) (by assumption) (by assumption), mset_mset] | rw [mem3_set (by assumption) (by assumption) (by assumption)])
local macro_rules | `(tactic| walk_at "s") => `(tactic| first | (refine' ei _ ?_ ?_; rotate_left; (focus (first | walk_at "m" | rfl)); walk_at "s") | (refine And.intro ?_ ?_; (focus (walk_at "c")); walk_at "s") | (refine vlit_t ?_; walk_at "s") | (refine vlit_f ?_; walk_at "s") | (walk_at "w"; walk_at "s") | (try conv => whnf))
local macro_rules | `(tactic| walk_at "t") => `(tactic| first | (refine vif_t rfl ?_; walk_at "s") | (refine vif_f rfl ?_; walk_at "s") | (refine vif_t (by decide +kernel) ?_; walk_at "s") | (refine vif_f (by decide +kernel) ?_; walk_at "s"))
theorem cut_lo {xs : List D} {i : Nat} : TT.cutD xs (some (i : Nat)) none = xs.drop i := by
  unfold TT.cutD
  rw [HT.sIx_nat, HT.sIx_none]
  by_cases h : i ≤ xs.length
  · rw [Nat.min_eq_left h, List.take_of_length_le (by rw [List.length_drop]; omega)]
  · rw [Nat.min_eq_right (by omega), List.drop_length, List.drop_eq_nil_of_le (by omega), List.take_nil]
theorem cut_hi {xs : List D} {i : Nat} : TT.cutD xs none (some (i : Nat)) = xs.take i := by
  unfold TT.cutD
  rw [HT.sIx_nat, HT.sIx_none, List.drop_zero, Nat.sub_zero]
  by_cases h : i ≤ xs.length
  · rw [Nat.min_eq_left h]
  · rw [Nat.min_eq_right (by omega), List.take_of_length_le (by omega), List.take_of_length_le (by omega)]
section
variable {N : Nat} {M : Mp} {Q : KQ} {X : KX}
theorem Sub.ok {t p : P} {n k : Nat} (h : Sub t n p) (ht : t.ok k = true) : p.ok k = true := P.ok_all t ht p (List.mem_of_getElem? h.get)
/-- what a moment has to do with -/
structure Mo (M : Mp) (a w g r : Addr) (t : P) (tick : Int) (L : Nat) : Prop where
  mw : Mw M a w g r t tick
  sz : t.size = L
  ok : t.ok 6 = true
  le : L ≤ 1000
section
variable {a w g r : Addr} {t p : P} {tick : Int} {L n : Nat} {s : St}
end
end
end Hd
set_option Elab.async false
set_option linter.all false
set_option maxRecDepth 100000
set_option maxHeartbeats 1000000
set_option pp.maxSteps 1200
/-! PH: what a moment gives up, what it begins again. -/
namespace Hd
open PySem PySem.Spec PyProof.Rows L2 TT
local macro_rules | `(tactic| walk_at "m") => `(tactic| first | with_reducible exact mset_same | with_reducible assumption | (with_reducible refine' Nw.now ?_; rotate_right; assumption) | (with_reducible refine' Nw.gw ?_; rotate_right; assumption) | (with_reducible refine' Nw.gg ?_; rotate_right; assumption) | (with_reducible refine' Nw.gr ?_; rotate_right; assumption) | (with_reducible refine' Mw.mo ?_; rotate_right; assumption) | (with_reducible refine' Mw.gw ?_; rotate_right; assumption) | (with_reducible refine' Mw.gg ?_; rotate_right; assumption) | (with_reducible refine' Mw.gr ?_; rotate_right; assumption) | with_reducible exact now_tick | with_reducible exact now_words | with_reducible exact now_begun | with_reducible exact now_rows | with_reducible exact mom_plan | with_reducible exact mom_posts | with_reducible exact mom_rows_of | with_reducible exact mom_at | with_reducible exact mom_words | with_reducible exact mom_begun | with_reducible exact mom_done | (with_reducible refine at_words0 ?_; omega) | (with_reducible refine ix_words0 ?_; omega) | (with_reducible refine at_words ?_; (try dsimp only); omega) | (with_reducible refine at_begun ?_; (try dsimp only); omega) | (with_reducible refine ix_words ?_; (try dsimp only); omega) | (with_reducible refine ix_begun ?_; (try dsimp only); omega) | (with_reducible refine' at_ent ?_; rotate_right; assumption) | (with_reducible refine' at_post ?_; rotate_right; assumption) | (with_reducible refine' at_rowsF ?_; rotate_right; assumption) | (with_reducible refine Eq.trans (mem3_o ?_ ?_ ?_) ?_; assumption; assumption; assumption; walk_at "m") | (with_reducible refine Eq.trans (mset_ne ?_) ?_; (first | assumption | (apply Ne.symm; assumption)); walk_at "m"))
local macro_rules | `(tactic| walk_at "c") => `(tactic| first | trivial | omega | assumption | (refine rows_lt ?_; (try dsimp only); omega) | (unfold momF; rfl) | (refine' ei _ ?_ ?_; rotate_left; (focus (walk_at "m")); rfl) | (refine And.intro ?_ ?_ <;> first | omega | decide | assumption | exact isiC_of rfl | exact isiC_of (by assumption) | exact isiC_lst (by assumption)) | (refine Or.inr ?_; constructor <;> omega) | (refine Or.inl ?_; constructor <;> omega) | decide)
local macro_rules | `(tactic| walk_at "w") => `(tactic| first | rw [A3.sw_down (by assumption) (by omega)] | rw [A3.sw_runs (by assumption) (by omega)] | rw [A3.sw_off (by assumption) (by omega)] | rw [A3.sw_fell (by assumption) (by omega)] | rw [A3.sw_fin (by assumption) (by omega)] | rw [A3.sg_nil (by assumption) (by omega)] | rw [A3.sr_stop (by assumption)] | rw [A3.sr_bgn (by assumption)] | rw [A3.sr_gave (by assumption)] | rw [A3.sr_off (by assumption)] | rw [mem3_set (by assumption) (by assumption) (by assumption), mset_mset] | rw [mem3_set (by assumption) (by assumption) (by assumption)])
local macro_rules | `(tactic| walk_at "s") => `(tactic| first | (refine' ei _ ?_ ?_; rotate_left; (focus (first | walk_at "m" | rfl)); walk_at "s") | (refine And.intro ?_ ?_; (focus (walk_at "c")); walk_at "s") | (refine vlit_t ?_; walk_at "s") | (refine vlit_f ?_; walk_at "s") | (walk_at "w"; walk_at "s") | (try conv => whnf))
local macro_rules | `(tactic| walk_at "t") => `(tactic| first | (refine vif_t rfl ?_; walk_at "s") | (refine vif_f rfl ?_; walk_at "s") | (refine vif_t (by decide +kernel) ?_; walk_at "s") | (refine vif_f (by decide +kernel) ?_; walk_at "s"))
section
variable {N : Nat} {M : Mp} {Q : KQ} {X : KX} {a w g r : Addr} {t p : P} {tick : Int} {L n : Nat} {s : St}
end
end Hd
set_option Elab.async false
set_option linter.all false
set_option maxRecDepth 100000
set_option maxHeartbeats 1000000
set_option pp.maxSteps 1200
/-! PI: what a moment begins again, what it finds struck. -/
namespace Hd
open PySem PySem.Spec PyProof.Rows L2 TT
local macro_rules | `(tactic| walk_at "m") => `(tactic| first | with_reducible exact mset_same | with_reducible assumption | (with_reducible refine' Nw.now ?_; rotate_right; assumption) | (with_reducible refine' Nw.gw ?_; rotate_right; assumption) | (with_reducible refine' Nw.gg ?_; rotate_right; assumption) | (with_reducible refine' Nw.gr ?_; rotate_right; assumption) | (with_reducible refine' Mw.mo ?_; rotate_right; assumption) | (with_reducible refine' Mw.gw ?_; rotate_right; assumption) | (with_reducible refine' Mw.gg ?_; rotate_right; assumption) | (with_reducible refine' Mw.gr ?_; rotate_right; assumption) | with_reducible exact now_tick | with_reducible exact now_words | with_reducible exact now_begun | with_reducible exact now_rows | with_reducible exact mom_plan | with_reducible exact mom_posts | with_reducible exact mom_rows_of | with_reducible exact mom_at | with_reducible exact mom_words | with_reducible exact mom_begun | with_reducible exact mom_done | (with_reducible refine at_words0 ?_; omega) | (with_reducible refine ix_words0 ?_; omega) | (with_reducible refine at_words ?_; (try dsimp only); omega) | (with_reducible refine at_begun ?_; (try dsimp only); omega) | (with_reducible refine ix_words ?_; (try dsimp only); omega) | (with_reducible refine ix_begun ?_; (try dsimp only); omega) | (with_reducible refine' at_ent ?_; rotate_right; assumption) | (with_reducible refine' at_post ?_; rotate_right; assumption) | (with_reducible refine' at_rowsF ?_; rotate_right; assumption) | (with_reducible refine Eq.trans (mem3_o ?_ ?_ ?_) ?_; assumption; assumption; assumption; walk_at "m") | (with_reducible refine Eq.trans (mset_ne ?_) ?_; (first | assumption | (apply Ne.symm; assumption)); walk_at "m"))
local macro_rules | `(tactic| walk_at "c") => `(tactic| first | trivial | omega | assumption | (refine rows_lt ?_; (try dsimp only); omega) | (unfold momF; rfl) | (refine' ei _ ?_ ?_; rotate_left; (focus (walk_at "m")); rfl) | (refine And.intro ?_ ?_ <;> first | omega | decide | assumption | exact isiC_of rfl | exact isiC_of (by assumption) | exact isiC_lst (by assumption)) | (refine Or.inr ?_; constructor <;> omega) | (refine Or.inl ?_; constructor <;> omega) | decide)
local macro_rules | `(tactic| walk_at "w") => `(tactic| first | rw [A3.sw_down (by assumption) (by omega)] | rw [A3.sw_runs (by assumption) (by omega)] | rw [A3.sw_off (by assumption) (by omega)] | rw [A3.sw_fell (by assumption) (by omega)] | rw [A3.sw_fin (by assumption) (by omega)] | rw [A3.sg_nil (by assumption) (by omega)] | rw [A3.sr_stop (by assumption)] | rw [A3.sr_bgn (by assumption)] | rw [A3.sr_gave (by assumption)] | rw [A3.sr_off (by assumption)] | rw [mem3_set (by assumption) (by assumption) (by assumption), mset_mset] | rw [mem3_set (by assumption) (by assumption) (by assumption)])
local macro_rules | `(tactic| walk_at "s") => `(tactic| first | (refine' ei _ ?_ ?_; rotate_left; (focus (first | walk_at "m" | rfl)); walk_at "s") | (refine And.intro ?_ ?_; (focus (walk_at "c")); walk_at "s") | (refine vlit_t ?_; walk_at "s") | (refine vlit_f ?_; walk_at "s") | (walk_at "w"; walk_at "s") | (try conv => whnf))
local macro_rules | `(tactic| walk_at "t") => `(tactic| first | (refine vif_t rfl ?_; walk_at "s") | (refine vif_f rfl ?_; walk_at "s") | (refine vif_t (by decide +kernel) ?_; walk_at "s") | (refine vif_f (by decide +kernel) ?_; walk_at "s"))
section
variable {N : Nat} {M : Mp} {Q : KQ} {X : KX} {a w g r : Addr} {t p : P} {tick : Int} {L n : Nat} {s : St}
end
end Hd
set_option Elab.async false
set_option linter.all false
set_option maxRecDepth 100000
set_option maxHeartbeats 1000000
set_option pp.maxSteps 1200
/-! PJ: what a moment finds struck; how it settles. -/
namespace Hd
open PySem PySem.Spec PyProof.Rows L2 TT
local macro_rules | `(tactic| walk_at "m") => `(tactic| first | with_reducible exact mset_same | with_reducible assumption | (with_reducible refine' Nw.now ?_; rotate_right; assumption) | (with_reducible refine' Nw.gw ?_; rotate_right; assumption) | (with_reducible refine' Nw.gg ?_; rotate_right; assumption) | (with_reducible refine' Nw.gr ?_; rotate_right; assumption) | (with_reducible refine' Mw.mo ?_; rotate_right; assumption) | (with_reducible refine' Mw.gw ?_; rotate_right; assumption) | (with_reducible refine' Mw.gg ?_; rotate_right; assumption) | (with_reducible refine' Mw.gr ?_; rotate_right; assumption) | with_reducible exact now_tick | with_reducible exact now_words | with_reducible exact now_begun | with_reducible exact now_rows | with_reducible exact mom_plan | with_reducible exact mom_posts | with_reducible exact mom_rows_of | with_reducible exact mom_at | with_reducible exact mom_words | with_reducible exact mom_begun | with_reducible exact mom_done | (with_reducible refine at_words0 ?_; omega) | (with_reducible refine ix_words0 ?_; omega) | (with_reducible refine at_words ?_; (try dsimp only); omega) | (with_reducible refine at_begun ?_; (try dsimp only); omega) | (with_reducible refine ix_words ?_; (try dsimp only); omega) | (with_reducible refine ix_begun ?_; (try dsimp only); omega) | (with_reducible refine' at_ent ?_; rotate_right; assumption) | (with_reducible refine' at_post ?_; rotate_right; assumption) | (with_reducible refine' at_rowsF ?_; rotate_right; assumption) | (with_reducible refine Eq.trans (mem3_o ?_ ?_ ?_) ?_; assumption; assumption; assumption; walk_at "m") | (with_reducible refine Eq.trans (mset_ne ?_) ?_; (first | assumption | (apply Ne.symm; assumption)); walk_at "m"))
local macro_rules | `(tactic| walk_at "c") => `(tactic| first | trivial | omega | assumption | (refine rows_lt ?_; (try dsimp only); omega) | (unfold momF; rfl) | (refine' ei _ ?_ ?_; rotate_left; (focus (walk_at "m")); rfl) | (refine And.intro ?_ ?_ <;> first | omega | decide | assumption | exact isiC_of rfl | exact isiC_of (by assumption) | exact isiC_lst (by assumption)) | (refine Or.inr ?_; constructor <;> omega) | (refine Or.inl ?_; constructor <;> omega) | decide)
local macro_rules | `(tactic| walk_at "w") => `(tactic| first | rw [A3.sw_down (by assumption) (by omega)] | rw [A3.sw_runs (by assumption) (by omega)] | rw [A3.sw_off (by assumption) (by omega)] | rw [A3.sw_fell (by assumption) (by omega)] | rw [A3.sw_fin (by assumption) (by omega)] | rw [A3.sg_nil (by assumption) (by omega)] | rw [A3.sr_stop (by assumption)] | rw [A3.sr_bgn (by assumption)] | rw [A3.sr_gave (by assumption)] | rw [A3.sr_off (by assumption)] | rw [mem3_set (by assumption) (by assumption) (by assumption), mset_mset] | rw [mem3_set (by assumption) (by assumption) (by assumption)])
local macro_rules | `(tactic| walk_at "s") => `(tactic| first | (refine' ei _ ?_ ?_; rotate_left; (focus (first | walk_at "m" | rfl)); walk_at "s") | (refine And.intro ?_ ?_; (focus (walk_at "c")); walk_at "s") | (refine vlit_t ?_; walk_at "s") | (refine vlit_f ?_; walk_at "s") | (walk_at "w"; walk_at "s") | (try conv => whnf))
local macro_rules | `(tactic| walk_at "t") => `(tactic| first | (refine vif_t rfl ?_; walk_at "s") | (refine vif_f rfl ?_; walk_at "s") | (refine vif_t (by decide +kernel) ?_; walk_at "s") | (refine vif_f (by decide +kernel) ?_; walk_at "s"))
section
variable {N : Nat} {M : Mp} {Q : KQ} {X : KX} {a w g r : Addr} {t p : P} {tick : Int} {L n : Nat} {s : St}
end
end Hd
set_option Elab.async false
set_option linter.all false
set_option maxRecDepth 100000
set_option maxHeartbeats 1000000
set_option pp.maxSteps 1200
/-! PK: how a moment settles. -/
namespace Hd
open PySem PySem.Spec PyProof.Rows L2 TT
local macro_rules | `(tactic| walk_at "m") => `(tactic| first | with_reducible exact mset_same | with_reducible assumption | (with_reducible refine' Nw.now ?_; rotate_right; assumption) | (with_reducible refine' Nw.gw ?_; rotate_right; assumption) | (with_reducible refine' Nw.gg ?_; rotate_right; assumption) | (with_reducible refine' Nw.gr ?_; rotate_right; assumption) | (with_reducible refine' Mw.mo ?_; rotate_right; assumption) | (with_reducible refine' Mw.gw ?_; rotate_right; assumption) | (with_reducible refine' Mw.gg ?_; rotate_right; assumption) | (with_reducible refine' Mw.gr ?_; rotate_right; assumption) | with_reducible exact now_tick | with_reducible exact now_words | with_reducible exact now_begun | with_reducible exact now_rows | with_reducible exact mom_plan | with_reducible exact mom_posts | with_reducible exact mom_rows_of | with_reducible exact mom_at | with_reducible exact mom_words | with_reducible exact mom_begun | with_reducible exact mom_done | (with_reducible refine at_words0 ?_; omega) | (with_reducible refine ix_words0 ?_; omega) | (with_reducible refine at_words ?_; (try dsimp only); omega) | (with_reducible refine at_begun ?_; (try dsimp only); omega) | (with_reducible refine ix_words ?_; (try dsimp only); omega) | (with_reducible refine ix_begun ?_; (try dsimp only); omega) | (with_reducible refine' at_ent ?_; rotate_right; assumption) | (with_reducible refine' at_post ?_; rotate_right; assumption) | (with_reducible refine' at_rowsF ?_; rotate_right; assumption) | (with_reducible refine Eq.trans (mem3_o ?_ ?_ ?_) ?_; assumption; assumption; assumption; walk_at "m") | (with_reducible refine Eq.trans (mset_ne ?_) ?_; (first | assumption | (apply Ne.symm; assumption)); walk_at "m"))
local macro_rules | `(tactic| walk_at "c") => `(tactic| first | trivial | omega | assumption | (refine rows_lt ?_; (try dsimp only); omega) | (unfold momF; rfl) | (refine' ei _ ?_ ?_; rotate_left; (focus (walk_at "m")); rfl) | (refine And.intro ?_ ?_ <;> first | omega | decide | assumption | exact isiC_of rfl | exact isiC_of (by assumption) | exact isiC_lst (by assumption)) | (refine Or.inr ?_; constructor <;> omega) | (refine Or.inl ?_; constructor <;> omega) | decide)
local macro_rules | `(tactic| walk_at "w") => `(tactic| first | rw [A3.sw_down (by assumption) (by omega)] | rw [A3.sw_runs (by assumption) (by omega)] | rw [A3.sw_off (by assumption) (by omega)] | rw [A3.sw_fell (by assumption) (by omega)] | rw [A3.sw_fin (by assumption) (by omega)] | rw [A3.sg_nil (by assumption) (by omega)] | rw [A3.sr_stop (by assumption)] | rw [A3.sr_bgn (by assumption)] | rw [A3.sr_gave (by assumption)] | rw [A3.sr_off (by assumption)] | rw [mem3_set (by assumption) (by assumption) (by assumption), mset_mset] | rw [mem3_set (by assumption) (by assumption) (by assumption)])
local macro_rules | `(tactic| walk_at "s") => `(tactic| first | (refine' ei _ ?_ ?_; rotate_left; (focus (first | walk_at "m" | rfl)); walk_at "s") | (refine And.intro ?_ ?_; (focus (walk_at "c")); walk_at "s") | (refine vlit_t ?_; walk_at "s") | (refine vlit_f ?_; walk_at "s") | (walk_at "w"; walk_at "s") | (try conv => whnf))
local macro_rules | `(tactic| walk_at "t") => `(tactic| first | (refine vif_t rfl ?_; walk_at "s") | (refine vif_f rfl ?_; walk_at "s") | (refine vif_t (by decide +kernel) ?_; walk_at "s") | (refine vif_f (by decide +kernel) ?_; walk_at "s"))
section
variable {N : Nat} {M : Mp} {Q : KQ} {X : KX} {a w g r : Addr} {t p : P} {tick : Int} {L n : Nat} {s : St}
end
end Hd
set_option Elab.async false
set_option linter.all false
set_option maxRecDepth 100000
set_option maxHeartbeats 1000000
set_option pp.maxSteps 1200
/-! PL: moments made; stands settled. -/
namespace Hd
open PySem PySem.Spec PyProof.Rows L2 TT
local macro_rules | `(tactic| walk_at "m") => `(tactic| first | with_reducible exact mset_same | with_reducible assumption | (with_reducible refine' Nw.now ?_; rotate_right; assumption) | (with_reducible refine' Nw.gw ?_; rotate_right; assumption) | (with_reducible refine' Nw.gg ?_; rotate_right; assumption) | (with_reducible refine' Nw.gr ?_; rotate_right; assumption) | (with_reducible refine' Mw.mo ?_; rotate_right; assumption) | (with_reducible refine' Mw.gw ?_; rotate_right; assumption) | (with_reducible refine' Mw.gg ?_; rotate_right; assumption) | (with_reducible refine' Mw.gr ?_; rotate_right; assumption) | with_reducible exact now_tick | with_reducible exact now_words | with_reducible exact now_begun | with_reducible exact now_rows | with_reducible exact mom_plan | with_reducible exact mom_posts | with_reducible exact mom_rows_of | with_reducible exact mom_at | with_reducible exact mom_words | with_reducible exact mom_begun | with_reducible exact mom_done | (with_reducible refine at_words0 ?_; omega) | (with_reducible refine ix_words0 ?_; omega) | (with_reducible refine at_words ?_; (try dsimp only); omega) | (with_reducible refine at_begun ?_; (try dsimp only); omega) | (with_reducible refine ix_words ?_; (try dsimp only); omega) | (with_reducible refine ix_begun ?_; (try dsimp only); omega) | (with_reducible refine' at_ent ?_; rotate_right; assumption) | (with_reducible refine' at_post ?_; rotate_right; assumption) | (with_reducible refine' at_rowsF ?_; rotate_right; assumption) | (with_reducible refine Eq.trans (mem3_o ?_ ?_ ?_) ?_; assumption; assumption; assumption; walk_at "m") | (with_reducible refine Eq.trans (mset_ne ?_) ?_; (first | assumption | (apply Ne.symm; assumption)); walk_at "m"))
local macro_rules | `(tactic| walk_at "c") => `(tactic| first | trivial | omega | assumption | (refine rows_lt ?_; (try dsimp only); omega) | (unfold momF; rfl) | (refine' ei _ ?_ ?_; rotate_left; (focus (walk_at "m")); rfl) | (refine And.intro ?_ ?_ <;> first | omega | decide | assumption | exact isiC_of rfl | exact isiC_of (by assumption) | exact isiC_lst (by assumption)) | (refine Or.inr ?_; constructor <;> omega) | (refine Or.inl ?_; constructor <;> omega) | decide)
local macro_rules | `(tactic| walk_at "w") => `(tactic| first | rw [A3.sw_down (by assumption) (by omega)] | rw [A3.sw_runs (by assumption) (by omega)] | rw [A3.sw_off (by assumption) (by omega)] | rw [A3.sw_fell (by assumption) (by omega)] | rw [A3.sw_fin (by assumption) (by omega)] | rw [A3.sg_nil (by assumption) (by omega)] | rw [A3.sr_stop (by assumption)] | rw [A3.sr_bgn (by assumption)] | rw [A3.sr_gave (by assumption)] | rw [A3.sr_off (by assumption)] | rw [mem3_set (by assumption) (by assumption) (by assumption), mset_mset] | rw [mem3_set (by assumption) (by assumption) (by assumption)])
local macro_rules | `(tactic| walk_at "s") => `(tactic| first | (refine' ei _ ?_ ?_; rotate_left; (focus (first | walk_at "m" | rfl)); walk_at "s") | (refine And.intro ?_ ?_; (focus (walk_at "c")); walk_at "s") | (refine vlit_t ?_; walk_at "s") | (refine vlit_f ?_; walk_at "s") | (walk_at "w"; walk_at "s") | (try conv => whnf))
local macro_rules | `(tactic| walk_at "t") => `(tactic| first | (refine vif_t rfl ?_; walk_at "s") | (refine vif_f rfl ?_; walk_at "s") | (refine vif_t (by decide +kernel) ?_; walk_at "s") | (refine vif_f (by decide +kernel) ?_; walk_at "s"))
section
variable {N : Nat} {M : Mp} {Q : KQ} {X : KX} {a w g r : Addr} {t p : P} {tick : Int} {L n : Nat} {s : St}
theorem putA_lt {f : Str} {d : D} : ∀ {fs : List (Str × D)} {m : Nat}, fs.length < m → (putA f d fs).length < m + 1
  | [], m, h => by show 1 < m + 1; simp at h; omega
  | (g, x) :: r, m, h => by
    unfold putA
    split
    · simp at h ⊢; omega
    · obtain ⟨k, rfl⟩ : ∃ k, m = k + 1 := ⟨m - 1, by simp at h; omega⟩
      have := putA_lt (f := f) (d := d) (fs := r) (m := k) (by simp at h; omega)
      simp; omega
local macro_rules | `(tactic| walk_at "p") => `(tactic| (refine And.intro (by repeat (first | exact Nat.zero_lt_succ _ | refine putA_lt ?_)) ?_; walk_at "s"))
end
end Hd
set_option Elab.async false
set_option linter.all false
set_option maxRecDepth 100000
set_option maxHeartbeats 1000000
set_option pp.maxSteps 1200
/-! PM: stands settled. -/
namespace Hd
open PySem PySem.Spec PyProof.Rows L2 TT
local macro_rules | `(tactic| walk_at "m") => `(tactic| first | with_reducible exact mset_same | with_reducible assumption | (with_reducible refine' Nw.now ?_; rotate_right; assumption) | (with_reducible refine' Nw.gw ?_; rotate_right; assumption) | (with_reducible refine' Nw.gg ?_; rotate_right; assumption) | (with_reducible refine' Nw.gr ?_; rotate_right; assumption) | (with_reducible refine' Mw.mo ?_; rotate_right; assumption) | (with_reducible refine' Mw.gw ?_; rotate_right; assumption) | (with_reducible refine' Mw.gg ?_; rotate_right; assumption) | (with_reducible refine' Mw.gr ?_; rotate_right; assumption) | with_reducible exact now_tick | with_reducible exact now_words | with_reducible exact now_begun | with_reducible exact now_rows | with_reducible exact mom_plan | with_reducible exact mom_posts | with_reducible exact mom_rows_of | with_reducible exact mom_at | with_reducible exact mom_words | with_reducible exact mom_begun | with_reducible exact mom_done | (with_reducible refine at_words0 ?_; omega) | (with_reducible refine ix_words0 ?_; omega) | (with_reducible refine at_words ?_; (try dsimp only); omega) | (with_reducible refine at_begun ?_; (try dsimp only); omega) | (with_reducible refine ix_words ?_; (try dsimp only); omega) | (with_reducible refine ix_begun ?_; (try dsimp only); omega) | (with_reducible refine' at_ent ?_; rotate_right; assumption) | (with_reducible refine' at_post ?_; rotate_right; assumption) | (with_reducible refine' at_rowsF ?_; rotate_right; assumption) | (with_reducible refine Eq.trans (mem3_o ?_ ?_ ?_) ?_; assumption; assumption; assumption; walk_at "m") | (with_reducible refine Eq.trans (mset_ne ?_) ?_; (first | assumption | (apply Ne.symm; assumption)); walk_at "m"))
local macro_rules | `(tactic| walk_at "c") => `(tactic| first | trivial | omega | assumption | (refine rows_lt ?_; (try dsimp only); omega) | (unfold momF; rfl) | (refine' ei _ ?_ ?_; rotate_left; (focus (walk_at "m")); rfl) | (refine And.intro ?_ ?_ <;> first | omega | decide | assumption | exact isiC_of rfl | exact isiC_of (by assumption) | exact isiC_lst (by assumption)) | (refine Or.inr ?_; constructor <;> omega) | (refine Or.inl ?_; constructor <;> omega) | decide)
local macro_rules | `(tactic| walk_at "w") => `(tactic| first | rw [A3.sw_down (by assumption) (by omega)] | rw [A3.sw_runs (by assumption) (by omega)] | rw [A3.sw_off (by assumption) (by omega)] | rw [A3.sw_fell (by assumption) (by omega)] | rw [A3.sw_fin (by assumption) (by omega)] | rw [A3.sg_nil (by assumption) (by omega)] | rw [A3.sr_stop (by assumption)] | rw [A3.sr_bgn (by assumption)] | rw [A3.sr_gave (by assumption)] | rw [A3.sr_off (by assumption)] | rw [mem3_set (by assumption) (by assumption) (by assumption), mset_mset] | rw [mem3_set (by assumption) (by assumption) (by assumption)])
local macro_rules | `(tactic| walk_at "s") => `(tactic| first | (refine' ei _ ?_ ?_; rotate_left; (focus (first | walk_at "m" | rfl)); walk_at "s") | (refine And.intro ?_ ?_; (focus (walk_at "c")); walk_at "s") | (refine vlit_t ?_; walk_at "s") | (refine vlit_f ?_; walk_at "s") | (walk_at "w"; walk_at "s") | (try conv => whnf))
local macro_rules | `(tactic| walk_at "t") => `(tactic| first | (refine vif_t rfl ?_; walk_at "s") | (refine vif_f rfl ?_; walk_at "s") | (refine vif_t (by decide +kernel) ?_; walk_at "s") | (refine vif_f (by decide +kernel) ?_; walk_at "s"))
section
variable {N : Nat} {M : Mp} {Q : KQ} {X : KX} {a w g r : Addr} {t p : P} {tick : Int} {L n : Nat} {s : St}
end
end Hd
set_option Elab.async false
set_option linter.all false
set_option maxRecDepth 100000
set_option maxHeartbeats 1000000
set_option pp.maxSteps 1200
/-! PN: first stands, marks; the law's own stands and moments. -/
namespace Hd
open PySem PySem.Spec PyProof.Rows L2 TT
local macro_rules | `(tactic| walk_at "m") => `(tactic| first | with_reducible exact mset_same | with_reducible assumption | (with_reducible refine' Nw.now ?_; rotate_right; assumption) | (with_reducible refine' Nw.gw ?_; rotate_right; assumption) | (with_reducible refine' Nw.gg ?_; rotate_right; assumption) | (with_reducible refine' Nw.gr ?_; rotate_right; assumption) | (with_reducible refine' Mw.mo ?_; rotate_right; assumption) | (with_reducible refine' Mw.gw ?_; rotate_right; assumption) | (with_reducible refine' Mw.gg ?_; rotate_right; assumption) | (with_reducible refine' Mw.gr ?_; rotate_right; assumption) | with_reducible exact now_tick | with_reducible exact now_words | with_reducible exact now_begun | with_reducible exact now_rows | with_reducible exact mom_plan | with_reducible exact mom_posts | with_reducible exact mom_rows_of | with_reducible exact mom_at | with_reducible exact mom_words | with_reducible exact mom_begun | with_reducible exact mom_done | (with_reducible refine at_words0 ?_; omega) | (with_reducible refine ix_words0 ?_; omega) | (with_reducible refine at_words ?_; (try dsimp only); omega) | (with_reducible refine at_begun ?_; (try dsimp only); omega) | (with_reducible refine ix_words ?_; (try dsimp only); omega) | (with_reducible refine ix_begun ?_; (try dsimp only); omega) | (with_reducible refine' at_ent ?_; rotate_right; assumption) | (with_reducible refine' at_post ?_; rotate_right; assumption) | (with_reducible refine' at_rowsF ?_; rotate_right; assumption) | (with_reducible refine Eq.trans (mem3_o ?_ ?_ ?_) ?_; assumption; assumption; assumption; walk_at "m") | (with_reducible refine Eq.trans (mset_ne ?_) ?_; (first | assumption | (apply Ne.symm; assumption)); walk_at "m"))
local macro_rules | `(tactic| walk_at "c") => `(tactic| first | trivial | omega | assumption | (refine rows_lt ?_; (try dsimp only); omega) | (unfold momF; rfl) | (refine' ei _ ?_ ?_; rotate_left; (focus (walk_at "m")); rfl) | (refine And.intro ?_ ?_ <;> first | omega | decide | assumption | exact isiC_of rfl | exact isiC_of (by assumption) | exact isiC_lst (by assumption)) | (refine Or.inr ?_; constructor <;> omega) | (refine Or.inl ?_; constructor <;> omega) | decide)
local macro_rules | `(tactic| walk_at "w") => `(tactic| first | rw [A3.sw_down (by assumption) (by omega)] | rw [A3.sw_runs (by assumption) (by omega)] | rw [A3.sw_off (by assumption) (by omega)] | rw [A3.sw_fell (by assumption) (by omega)] | rw [A3.sw_fin (by assumption) (by omega)] | rw [A3.sg_nil (by assumption) (by omega)] | rw [A3.sr_stop (by assumption)] | rw [A3.sr_bgn (by assumption)] | rw [A3.sr_gave (by assumption)] | rw [A3.sr_off (by assumption)] | rw [mem3_set (by assumption) (by assumption) (by assumption), mset_mset] | rw [mem3_set (by assumption) (by assumption) (by assumption)])
local macro_rules | `(tactic| walk_at "s") => `(tactic| first | (refine' ei _ ?_ ?_; rotate_left; (focus (first | walk_at "m" | rfl)); walk_at "s") | (refine And.intro ?_ ?_; (focus (walk_at "c")); walk_at "s") | (refine vlit_t ?_; walk_at "s") | (refine vlit_f ?_; walk_at "s") | (walk_at "w"; walk_at "s") | (try conv => whnf))
local macro_rules | `(tactic| walk_at "t") => `(tactic| first | (refine vif_t rfl ?_; walk_at "s") | (refine vif_f rfl ?_; walk_at "s") | (refine vif_t (by decide +kernel) ?_; walk_at "s") | (refine vif_f (by decide +kernel) ?_; walk_at "s"))
theorem rep_flat {α : Type} (x : α) : ∀ n : Nat, (List.replicate n [x]).flatten = List.replicate n x
  | 0 => rfl
  | n + 1 => by rw [List.replicate_succ, List.flatten_cons, rep_flat x n, List.replicate_succ]; rfl
def w0 : Nat → Wd := fun _ => .runs
section
variable {N : Nat} {M : Mp} {Q : KQ} {X : KX} {a w g r : Addr} {t p : P} {tick : Int} {L n : Nat} {s : St}
end
end Hd
set_option Elab.async false
set_option linter.all false
set_option maxRecDepth 100000
set_option maxHeartbeats 1000000
set_option pp.maxSteps 1200
/-! PO: posts by number; workers that run; marks. -/
namespace Hd
open PySem PySem.Spec PyProof.Rows L2 TT
local macro_rules | `(tactic| walk_at "m") => `(tactic| first | with_reducible exact mset_same | with_reducible assumption | (with_reducible refine' Nw.now ?_; rotate_right; assumption) | (with_reducible refine' Nw.gw ?_; rotate_right; assumption) | (with_reducible refine' Nw.gg ?_; rotate_right; assumption) | (with_reducible refine' Nw.gr ?_; rotate_right; assumption) | (with_reducible refine' Mw.mo ?_; rotate_right; assumption) | (with_reducible refine' Mw.gw ?_; rotate_right; assumption) | (with_reducible refine' Mw.gg ?_; rotate_right; assumption) | (with_reducible refine' Mw.gr ?_; rotate_right; assumption) | with_reducible exact now_tick | with_reducible exact now_words | with_reducible exact now_begun | with_reducible exact now_rows | with_reducible exact mom_plan | with_reducible exact mom_posts | with_reducible exact mom_rows_of | with_reducible exact mom_at | with_reducible exact mom_words | with_reducible exact mom_begun | with_reducible exact mom_done | (with_reducible refine at_words0 ?_; omega) | (with_reducible refine ix_words0 ?_; omega) | (with_reducible refine at_words ?_; (try dsimp only); omega) | (with_reducible refine at_begun ?_; (try dsimp only); omega) | (with_reducible refine ix_words ?_; (try dsimp only); omega) | (with_reducible refine ix_begun ?_; (try dsimp only); omega) | (with_reducible refine' at_ent ?_; rotate_right; assumption) | (with_reducible refine' at_post ?_; rotate_right; assumption) | (with_reducible refine' at_rowsF ?_; rotate_right; assumption) | (with_reducible refine Eq.trans (mem3_o ?_ ?_ ?_) ?_; assumption; assumption; assumption; walk_at "m") | (with_reducible refine Eq.trans (mset_ne ?_) ?_; (first | assumption | (apply Ne.symm; assumption)); walk_at "m"))
local macro_rules | `(tactic| walk_at "c") => `(tactic| first | trivial | omega | assumption | (refine rows_lt ?_; (try dsimp only); omega) | (unfold momF; rfl) | (refine' ei _ ?_ ?_; rotate_left; (focus (walk_at "m")); rfl) | (refine And.intro ?_ ?_ <;> first | omega | decide | assumption | exact isiC_of rfl | exact isiC_of (by assumption) | exact isiC_lst (by assumption)) | (refine Or.inr ?_; constructor <;> omega) | (refine Or.inl ?_; constructor <;> omega) | decide)
local macro_rules | `(tactic| walk_at "w") => `(tactic| first | rw [A3.sw_down (by assumption) (by omega)] | rw [A3.sw_runs (by assumption) (by omega)] | rw [A3.sw_off (by assumption) (by omega)] | rw [A3.sw_fell (by assumption) (by omega)] | rw [A3.sw_fin (by assumption) (by omega)] | rw [A3.sg_nil (by assumption) (by omega)] | rw [A3.sr_stop (by assumption)] | rw [A3.sr_bgn (by assumption)] | rw [A3.sr_gave (by assumption)] | rw [A3.sr_off (by assumption)] | rw [mem3_set (by assumption) (by assumption) (by assumption), mset_mset] | rw [mem3_set (by assumption) (by assumption) (by assumption)])
local macro_rules | `(tactic| walk_at "s") => `(tactic| first | (refine' ei _ ?_ ?_; rotate_left; (focus (first | walk_at "m" | rfl)); walk_at "s") | (refine And.intro ?_ ?_; (focus (walk_at "c")); walk_at "s") | (refine vlit_t ?_; walk_at "s") | (refine vlit_f ?_; walk_at "s") | (walk_at "w"; walk_at "s") | (try conv => whnf))
local macro_rules | `(tactic| walk_at "t") => `(tactic| first | (refine vif_t rfl ?_; walk_at "s") | (refine vif_f rfl ?_; walk_at "s") | (refine vif_t (by decide +kernel) ?_; walk_at "s") | (refine vif_f (by decide +kernel) ?_; walk_at "s"))
mutual
theorem P.sub_at : ∀ {p q : P} {i : Nat}, p.all[i]? = some q → ∃ l r, p.all = l ++ q.all ++ r ∧ l.length = i
  | .wk k, q, i, h => by
    rw [alls_one] at h
    cases i with
    | zero => cases h; exact ⟨[], [], by simp [alls_one], rfl⟩
    | succ i => cases h
  | .wt k y m w ps, q, i, h => by
    rw [alls_cons] at h
    cases i with
    | zero => cases h; exact ⟨[], [], by simp, rfl⟩
    | succ i =>
      rw [List.getElem?_cons_succ] at h
      obtain ⟨l, r, e, hl⟩ := P.subs_at h
      exact ⟨.wt k y m w ps :: l, r, by rw [alls_cons, e]; rfl, by simp [hl]⟩
theorem P.subs_at : ∀ {ps : List P} {q : P} {i : Nat}, (P.alls ps)[i]? = some q → ∃ l r, P.alls ps = l ++ q.all ++ r ∧ l.length = i
  | [], q, i, h => by simp [P.alls] at h
  | p :: ps, q, i, h => by
    simp only [P.alls] at h ⊢
    by_cases hi : i < p.all.length
    · rw [List.getElem?_append_left hi] at h
      obtain ⟨l, r, e, hl⟩ := P.sub_at h
      exact ⟨l, r ++ P.alls ps, by rw [e]; simp, hl⟩
    · rw [List.getElem?_append_right (by omega)] at h
      obtain ⟨l, r, e, hl⟩ := P.subs_at h
      exact ⟨p.all ++ l, r, by rw [e]; simp, by rw [List.length_append, hl]; omega⟩
end
theorem Sub.of {t p : P} {i : Nat} (h : t.all[i]? = some p) : Sub t i p := by
  obtain ⟨l, r, e, hl⟩ := P.sub_at h
  exact ⟨l, r, e, hl⟩
theorem Sub.some {t : P} {i : Nat} (h : i < t.size) : ∃ p, Sub t i p := ⟨t.all[i]'h, Sub.of (List.getElem?_eq_getElem h)⟩
theorem range0 {L : Nat} : rangeD 0 L = (List.range L).map fun k => D.int (k : Nat) := by
  unfold rangeD
  refine List.map_congr_left fun i _ => ?_
  show D.int (0 + (i : Nat)) = _
  rw [Int.zero_add]
section
variable {N : Nat} {M : Mp} {Q : KQ} {X : KX} {a w g r : Addr} {t p : P} {tick : Int} {L n : Nat} {s : St}
end
end Hd
set_option Elab.async false
set_option linter.all false
set_option maxRecDepth 100000
set_option maxHeartbeats 1000000
set_option pp.maxSteps 1200
/-! PP: one moment settled (k06). -/
namespace Hd
open PySem PySem.Spec PyProof.Rows L2 TT
local macro_rules | `(tactic| walk_at "m") => `(tactic| first | with_reducible exact mset_same | with_reducible assumption | (with_reducible refine' Nw.now ?_; rotate_right; assumption) | (with_reducible refine' Nw.gw ?_; rotate_right; assumption) | (with_reducible refine' Nw.gg ?_; rotate_right; assumption) | (with_reducible refine' Nw.gr ?_; rotate_right; assumption) | (with_reducible refine' Mw.mo ?_; rotate_right; assumption) | (with_reducible refine' Mw.gw ?_; rotate_right; assumption) | (with_reducible refine' Mw.gg ?_; rotate_right; assumption) | (with_reducible refine' Mw.gr ?_; rotate_right; assumption) | with_reducible exact now_tick | with_reducible exact now_words | with_reducible exact now_begun | with_reducible exact now_rows | with_reducible exact mom_plan | with_reducible exact mom_posts | with_reducible exact mom_rows_of | with_reducible exact mom_at | with_reducible exact mom_words | with_reducible exact mom_begun | with_reducible exact mom_done | (with_reducible refine at_words0 ?_; omega) | (with_reducible refine ix_words0 ?_; omega) | (with_reducible refine at_words ?_; (try dsimp only); omega) | (with_reducible refine at_begun ?_; (try dsimp only); omega) | (with_reducible refine ix_words ?_; (try dsimp only); omega) | (with_reducible refine ix_begun ?_; (try dsimp only); omega) | (with_reducible refine' at_ent ?_; rotate_right; assumption) | (with_reducible refine' at_post ?_; rotate_right; assumption) | (with_reducible refine' at_rowsF ?_; rotate_right; assumption) | (with_reducible refine Eq.trans (mem3_o ?_ ?_ ?_) ?_; assumption; assumption; assumption; walk_at "m") | (with_reducible refine Eq.trans (mset_ne ?_) ?_; (first | assumption | (apply Ne.symm; assumption)); walk_at "m"))
local macro_rules | `(tactic| walk_at "c") => `(tactic| first | trivial | omega | assumption | (refine rows_lt ?_; (try dsimp only); omega) | (unfold momF; rfl) | (refine' ei _ ?_ ?_; rotate_left; (focus (walk_at "m")); rfl) | (refine And.intro ?_ ?_ <;> first | omega | decide | assumption | exact isiC_of rfl | exact isiC_of (by assumption) | exact isiC_lst (by assumption)) | (refine Or.inr ?_; constructor <;> omega) | (refine Or.inl ?_; constructor <;> omega) | decide)
local macro_rules | `(tactic| walk_at "w") => `(tactic| first | rw [A3.sw_down (by assumption) (by omega)] | rw [A3.sw_runs (by assumption) (by omega)] | rw [A3.sw_off (by assumption) (by omega)] | rw [A3.sw_fell (by assumption) (by omega)] | rw [A3.sw_fin (by assumption) (by omega)] | rw [A3.sg_nil (by assumption) (by omega)] | rw [A3.sr_stop (by assumption)] | rw [A3.sr_bgn (by assumption)] | rw [A3.sr_gave (by assumption)] | rw [A3.sr_off (by assumption)] | rw [mem3_set (by assumption) (by assumption) (by assumption), mset_mset] | rw [mem3_set (by assumption) (by assumption) (by assumption)])
local macro_rules | `(tactic| walk_at "s") => `(tactic| first | (refine' ei _ ?_ ?_; rotate_left; (focus (first | walk_at "m" | rfl)); walk_at "s") | (refine And.intro ?_ ?_; (focus (walk_at "c")); walk_at "s") | (refine vlit_t ?_; walk_at "s") | (refine vlit_f ?_; walk_at "s") | (walk_at "w"; walk_at "s") | (try conv => whnf))
local macro_rules | `(tactic| walk_at "t") => `(tactic| first | (refine vif_t rfl ?_; walk_at "s") | (refine vif_f rfl ?_; walk_at "s") | (refine vif_t (by decide +kernel) ?_; walk_at "s") | (refine vif_f (by decide +kernel) ?_; walk_at "s"))
section
variable {N : Nat} {M : Mp} {Q : KQ} {X : KX} {a w g r b : Addr} {t p : P} {tick c s : Int} {L n : Nat} {st : St}
/-- a bag beside what the law keeps -/
structure Bg (M : Mp) (a b w g r : Addr) : Prop where
  w : b ≠ w
  g : b ≠ g
  r : b ≠ r
  a : b ≠ a
end
end Hd
set_option Elab.async false
set_option linter.all false
set_option maxRecDepth 100000
set_option maxHeartbeats 1000000
set_option pp.maxSteps 1200
/-! PQ: ticks that pass. -/
namespace Hd
open PySem PySem.Spec PyProof.Rows L2 TT
local macro_rules | `(tactic| walk_at "m") => `(tactic| first | with_reducible exact mset_same | with_reducible assumption | (with_reducible refine' Nw.now ?_; rotate_right; assumption) | (with_reducible refine' Nw.gw ?_; rotate_right; assumption) | (with_reducible refine' Nw.gg ?_; rotate_right; assumption) | (with_reducible refine' Nw.gr ?_; rotate_right; assumption) | (with_reducible refine' Mw.mo ?_; rotate_right; assumption) | (with_reducible refine' Mw.gw ?_; rotate_right; assumption) | (with_reducible refine' Mw.gg ?_; rotate_right; assumption) | (with_reducible refine' Mw.gr ?_; rotate_right; assumption) | with_reducible exact now_tick | with_reducible exact now_words | with_reducible exact now_begun | with_reducible exact now_rows | with_reducible exact mom_plan | with_reducible exact mom_posts | with_reducible exact mom_rows_of | with_reducible exact mom_at | with_reducible exact mom_words | with_reducible exact mom_begun | with_reducible exact mom_done | (with_reducible refine at_words0 ?_; omega) | (with_reducible refine ix_words0 ?_; omega) | (with_reducible refine at_words ?_; (try dsimp only); omega) | (with_reducible refine at_begun ?_; (try dsimp only); omega) | (with_reducible refine ix_words ?_; (try dsimp only); omega) | (with_reducible refine ix_begun ?_; (try dsimp only); omega) | (with_reducible refine' at_ent ?_; rotate_right; assumption) | (with_reducible refine' at_post ?_; rotate_right; assumption) | (with_reducible refine' at_rowsF ?_; rotate_right; assumption) | (with_reducible refine Eq.trans (mem3_o ?_ ?_ ?_) ?_; assumption; assumption; assumption; walk_at "m") | (with_reducible refine Eq.trans (mset_ne ?_) ?_; (first | assumption | (apply Ne.symm; assumption)); walk_at "m"))
local macro_rules | `(tactic| walk_at "c") => `(tactic| first | trivial | omega | assumption | (refine rows_lt ?_; (try dsimp only); omega) | (unfold momF; rfl) | (refine' ei _ ?_ ?_; rotate_left; (focus (walk_at "m")); rfl) | (refine And.intro ?_ ?_ <;> first | omega | decide | assumption | exact isiC_of rfl | exact isiC_of (by assumption) | exact isiC_lst (by assumption)) | (refine Or.inr ?_; constructor <;> omega) | (refine Or.inl ?_; constructor <;> omega) | decide)
local macro_rules | `(tactic| walk_at "w") => `(tactic| first | rw [A3.sw_down (by assumption) (by omega)] | rw [A3.sw_runs (by assumption) (by omega)] | rw [A3.sw_off (by assumption) (by omega)] | rw [A3.sw_fell (by assumption) (by omega)] | rw [A3.sw_fin (by assumption) (by omega)] | rw [A3.sg_nil (by assumption) (by omega)] | rw [A3.sr_stop (by assumption)] | rw [A3.sr_bgn (by assumption)] | rw [A3.sr_gave (by assumption)] | rw [A3.sr_off (by assumption)] | rw [mem3_set (by assumption) (by assumption) (by assumption), mset_mset] | rw [mem3_set (by assumption) (by assumption) (by assumption)])
local macro_rules | `(tactic| walk_at "s") => `(tactic| first | (refine' ei _ ?_ ?_; rotate_left; (focus (first | walk_at "m" | rfl)); walk_at "s") | (refine And.intro ?_ ?_; (focus (walk_at "c")); walk_at "s") | (refine vlit_t ?_; walk_at "s") | (refine vlit_f ?_; walk_at "s") | (walk_at "w"; walk_at "s") | (try conv => whnf))
local macro_rules | `(tactic| walk_at "t") => `(tactic| first | (refine vif_t rfl ?_; walk_at "s") | (refine vif_f rfl ?_; walk_at "s") | (refine vif_t (by decide +kernel) ?_; walk_at "s") | (refine vif_f (by decide +kernel) ?_; walk_at "s"))
section
variable {N : Nat} {M : Mp} {Q : KQ} {X : KX} {a w g r : Addr} {t p : P} {tick d : Int} {L n : Nat} {s : St}
end
end Hd
set_option Elab.async false
set_option linter.all false
set_option maxRecDepth 100000
set_option maxHeartbeats 1000000
set_option pp.maxSteps 1200
/-! PR: the law's own ticks; deeds. -/
namespace Hd
open PySem PySem.Spec PyProof.Rows L2 TT
local macro_rules | `(tactic| walk_at "m") => `(tactic| first | with_reducible exact mset_same | with_reducible assumption | (with_reducible refine' Nw.now ?_; rotate_right; assumption) | (with_reducible refine' Nw.gw ?_; rotate_right; assumption) | (with_reducible refine' Nw.gg ?_; rotate_right; assumption) | (with_reducible refine' Nw.gr ?_; rotate_right; assumption) | (with_reducible refine' Mw.mo ?_; rotate_right; assumption) | (with_reducible refine' Mw.gw ?_; rotate_right; assumption) | (with_reducible refine' Mw.gg ?_; rotate_right; assumption) | (with_reducible refine' Mw.gr ?_; rotate_right; assumption) | with_reducible exact now_tick | with_reducible exact now_words | with_reducible exact now_begun | with_reducible exact now_rows | with_reducible exact mom_plan | with_reducible exact mom_posts | with_reducible exact mom_rows_of | with_reducible exact mom_at | with_reducible exact mom_words | with_reducible exact mom_begun | with_reducible exact mom_done | (with_reducible refine at_words0 ?_; omega) | (with_reducible refine ix_words0 ?_; omega) | (with_reducible refine at_words ?_; (try dsimp only); omega) | (with_reducible refine at_begun ?_; (try dsimp only); omega) | (with_reducible refine ix_words ?_; (try dsimp only); omega) | (with_reducible refine ix_begun ?_; (try dsimp only); omega) | (with_reducible refine' at_ent ?_; rotate_right; assumption) | (with_reducible refine' at_post ?_; rotate_right; assumption) | (with_reducible refine' at_rowsF ?_; rotate_right; assumption) | (with_reducible refine Eq.trans (mem3_o ?_ ?_ ?_) ?_; assumption; assumption; assumption; walk_at "m") | (with_reducible refine Eq.trans (mset_ne ?_) ?_; (first | assumption | (apply Ne.symm; assumption)); walk_at "m"))
local macro_rules | `(tactic| walk_at "c") => `(tactic| first | trivial | omega | assumption | (refine rows_lt ?_; (try dsimp only); omega) | (unfold momF; rfl) | (refine' ei _ ?_ ?_; rotate_left; (focus (walk_at "m")); rfl) | (refine And.intro ?_ ?_ <;> first | omega | decide | assumption | exact isiC_of rfl | exact isiC_of (by assumption) | exact isiC_lst (by assumption)) | (refine Or.inr ?_; constructor <;> omega) | (refine Or.inl ?_; constructor <;> omega) | decide)
local macro_rules | `(tactic| walk_at "w") => `(tactic| first | rw [A3.sw_down (by assumption) (by omega)] | rw [A3.sw_runs (by assumption) (by omega)] | rw [A3.sw_off (by assumption) (by omega)] | rw [A3.sw_fell (by assumption) (by omega)] | rw [A3.sw_fin (by assumption) (by omega)] | rw [A3.sg_nil (by assumption) (by omega)] | rw [A3.sr_stop (by assumption)] | rw [A3.sr_bgn (by assumption)] | rw [A3.sr_gave (by assumption)] | rw [A3.sr_off (by assumption)] | rw [mem3_set (by assumption) (by assumption) (by assumption), mset_mset] | rw [mem3_set (by assumption) (by assumption) (by assumption)])
local macro_rules | `(tactic| walk_at "s") => `(tactic| first | (refine' ei _ ?_ ?_; rotate_left; (focus (first | walk_at "m" | rfl)); walk_at "s") | (refine And.intro ?_ ?_; (focus (walk_at "c")); walk_at "s") | (refine vlit_t ?_; walk_at "s") | (refine vlit_f ?_; walk_at "s") | (walk_at "w"; walk_at "s") | (try conv => whnf))
local macro_rules | `(tactic| walk_at "t") => `(tactic| first | (refine vif_t rfl ?_; walk_at "s") | (refine vif_f rfl ?_; walk_at "s") | (refine vif_t (by decide +kernel) ?_; walk_at "s") | (refine vif_f (by decide +kernel) ?_; walk_at "s"))
section
variable {N : Nat} {M : Mp} {Q : KQ} {X : KX} {a w g r : Addr} {t p : P} {tick d : Int} {L n : Nat} {s : St}
/-! ### deeds -/
inductive Deed where
  | mark (x : Wd) (n : Nat)
  | settle
  | pass (d : Int)
variable {b : Addr} {c e : Int}
end
end Hd
set_option Elab.async false
set_option linter.all false
set_option maxRecDepth 100000
set_option maxHeartbeats 1000000
set_option pp.maxSteps 1200
/-! PS: deeds done. -/
namespace Hd
open PySem PySem.Spec PyProof.Rows L2 TT
local macro_rules | `(tactic| walk_at "m") => `(tactic| first | with_reducible exact mset_same | with_reducible assumption | (with_reducible refine' Nw.now ?_; rotate_right; assumption) | (with_reducible refine' Nw.gw ?_; rotate_right; assumption) | (with_reducible refine' Nw.gg ?_; rotate_right; assumption) | (with_reducible refine' Nw.gr ?_; rotate_right; assumption) | (with_reducible refine' Mw.mo ?_; rotate_right; assumption) | (with_reducible refine' Mw.gw ?_; rotate_right; assumption) | (with_reducible refine' Mw.gg ?_; rotate_right; assumption) | (with_reducible refine' Mw.gr ?_; rotate_right; assumption) | with_reducible exact now_tick | with_reducible exact now_words | with_reducible exact now_begun | with_reducible exact now_rows | with_reducible exact mom_plan | with_reducible exact mom_posts | with_reducible exact mom_rows_of | with_reducible exact mom_at | with_reducible exact mom_words | with_reducible exact mom_begun | with_reducible exact mom_done | (with_reducible refine at_words0 ?_; omega) | (with_reducible refine ix_words0 ?_; omega) | (with_reducible refine at_words ?_; (try dsimp only); omega) | (with_reducible refine at_begun ?_; (try dsimp only); omega) | (with_reducible refine ix_words ?_; (try dsimp only); omega) | (with_reducible refine ix_begun ?_; (try dsimp only); omega) | (with_reducible refine' at_ent ?_; rotate_right; assumption) | (with_reducible refine' at_post ?_; rotate_right; assumption) | (with_reducible refine' at_rowsF ?_; rotate_right; assumption) | (with_reducible refine Eq.trans (mem3_o ?_ ?_ ?_) ?_; assumption; assumption; assumption; walk_at "m") | (with_reducible refine Eq.trans (mset_ne ?_) ?_; (first | assumption | (apply Ne.symm; assumption)); walk_at "m"))
local macro_rules | `(tactic| walk_at "c") => `(tactic| first | trivial | omega | assumption | (refine rows_lt ?_; (try dsimp only); omega) | (unfold momF; rfl) | (refine' ei _ ?_ ?_; rotate_left; (focus (walk_at "m")); rfl) | (refine And.intro ?_ ?_ <;> first | omega | decide | assumption | exact isiC_of rfl | exact isiC_of (by assumption) | exact isiC_lst (by assumption)) | (refine Or.inr ?_; constructor <;> omega) | (refine Or.inl ?_; constructor <;> omega) | decide)
local macro_rules | `(tactic| walk_at "w") => `(tactic| first | rw [A3.sw_down (by assumption) (by omega)] | rw [A3.sw_runs (by assumption) (by omega)] | rw [A3.sw_off (by assumption) (by omega)] | rw [A3.sw_fell (by assumption) (by omega)] | rw [A3.sw_fin (by assumption) (by omega)] | rw [A3.sg_nil (by assumption) (by omega)] | rw [A3.sr_stop (by assumption)] | rw [A3.sr_bgn (by assumption)] | rw [A3.sr_gave (by assumption)] | rw [A3.sr_off (by assumption)] | rw [mem3_set (by assumption) (by assumption) (by assumption), mset_mset] | rw [mem3_set (by assumption) (by assumption) (by assumption)])
local macro_rules | `(tactic| walk_at "s") => `(tactic| first | (refine' ei _ ?_ ?_; rotate_left; (focus (first | walk_at "m" | rfl)); walk_at "s") | (refine And.intro ?_ ?_; (focus (walk_at "c")); walk_at "s") | (refine vlit_t ?_; walk_at "s") | (refine vlit_f ?_; walk_at "s") | (walk_at "w"; walk_at "s") | (try conv => whnf))
local macro_rules | `(tactic| walk_at "t") => `(tactic| first | (refine vif_t rfl ?_; walk_at "s") | (refine vif_f rfl ?_; walk_at "s") | (refine vif_t (by decide +kernel) ?_; walk_at "s") | (refine vif_f (by decide +kernel) ?_; walk_at "s"))
section
variable {N : Nat} {M : Mp} {Q : KQ} {X : KX} {a w g r b : Addr} {t p : P} {tick : Int} {L n : Nat} {s : St} {dd : Deed}
end
end Hd
set_option Elab.async false
set_option linter.all false
set_option maxRecDepth 100000
set_option maxHeartbeats 1000000
set_option pp.maxSteps 1200
/-! PT: whole stories (k07). -/
namespace Hd
open PySem PySem.Spec PyProof.Rows L2 TT
local macro_rules | `(tactic| walk_at "m") => `(tactic| first | with_reducible exact mset_same | with_reducible assumption | (with_reducible refine' Nw.now ?_; rotate_right; assumption) | (with_reducible refine' Nw.gw ?_; rotate_right; assumption) | (with_reducible refine' Nw.gg ?_; rotate_right; assumption) | (with_reducible refine' Nw.gr ?_; rotate_right; assumption) | (with_reducible refine' Mw.mo ?_; rotate_right; assumption) | (with_reducible refine' Mw.gw ?_; rotate_right; assumption) | (with_reducible refine' Mw.gg ?_; rotate_right; assumption) | (with_reducible refine' Mw.gr ?_; rotate_right; assumption) | with_reducible exact now_tick | with_reducible exact now_words | with_reducible exact now_begun | with_reducible exact now_rows | with_reducible exact mom_plan | with_reducible exact mom_posts | with_reducible exact mom_rows_of | with_reducible exact mom_at | with_reducible exact mom_words | with_reducible exact mom_begun | with_reducible exact mom_done | (with_reducible refine at_words0 ?_; omega) | (with_reducible refine ix_words0 ?_; omega) | (with_reducible refine at_words ?_; (try dsimp only); omega) | (with_reducible refine at_begun ?_; (try dsimp only); omega) | (with_reducible refine ix_words ?_; (try dsimp only); omega) | (with_reducible refine ix_begun ?_; (try dsimp only); omega) | (with_reducible refine' at_ent ?_; rotate_right; assumption) | (with_reducible refine' at_post ?_; rotate_right; assumption) | (with_reducible refine' at_rowsF ?_; rotate_right; assumption) | (with_reducible refine Eq.trans (mem3_o ?_ ?_ ?_) ?_; assumption; assumption; assumption; walk_at "m") | (with_reducible refine Eq.trans (mset_ne ?_) ?_; (first | assumption | (apply Ne.symm; assumption)); walk_at "m"))
local macro_rules | `(tactic| walk_at "c") => `(tactic| first | trivial | omega | assumption | (refine rows_lt ?_; (try dsimp only); omega) | (unfold momF; rfl) | (refine' ei _ ?_ ?_; rotate_left; (focus (walk_at "m")); rfl) | (refine And.intro ?_ ?_ <;> first | omega | decide | assumption | exact isiC_of rfl | exact isiC_of (by assumption) | exact isiC_lst (by assumption)) | (refine Or.inr ?_; constructor <;> omega) | (refine Or.inl ?_; constructor <;> omega) | decide)
local macro_rules | `(tactic| walk_at "w") => `(tactic| first | rw [A3.sw_down (by assumption) (by omega)] | rw [A3.sw_runs (by assumption) (by omega)] | rw [A3.sw_off (by assumption) (by omega)] | rw [A3.sw_fell (by assumption) (by omega)] | rw [A3.sw_fin (by assumption) (by omega)] | rw [A3.sg_nil (by assumption) (by omega)] | rw [A3.sr_stop (by assumption)] | rw [A3.sr_bgn (by assumption)] | rw [A3.sr_gave (by assumption)] | rw [A3.sr_off (by assumption)] | rw [mem3_set (by assumption) (by assumption) (by assumption), mset_mset] | rw [mem3_set (by assumption) (by assumption) (by assumption)])
local macro_rules | `(tactic| walk_at "s") => `(tactic| first | (refine' ei _ ?_ ?_; rotate_left; (focus (first | walk_at "m" | rfl)); walk_at "s") | (refine And.intro ?_ ?_; (focus (walk_at "c")); walk_at "s") | (refine vlit_t ?_; walk_at "s") | (refine vlit_f ?_; walk_at "s") | (walk_at "w"; walk_at "s") | (try conv => whnf))
local macro_rules | `(tactic| walk_at "t") => `(tactic| first | (refine vif_t rfl ?_; walk_at "s") | (refine vif_f rfl ?_; walk_at "s") | (refine vif_t (by decide +kernel) ?_; walk_at "s") | (refine vif_f (by decide +kernel) ?_; walk_at "s"))
section
variable {N : Nat} {M : Mp} {Q : KQ} {X : KX} {a w g r b : Addr} {t p : P} {tick c e : Int} {L n : Nat} {s : St} {dd : Deed}
end
end Hd
set_option Elab.async false
set_option linter.all false
set_option maxRecDepth 100000
set_option maxHeartbeats 1000000
set_option pp.maxSteps 1200
/-! PU: trees are trees. -/
namespace Hd
open PySem PySem.Spec PyProof.Rows L2 TT
local macro_rules | `(tactic| walk_at "m") => `(tactic| first | with_reducible exact mset_same | with_reducible assumption | (with_reducible refine' Nw.now ?_; rotate_right; assumption) | (with_reducible refine' Nw.gw ?_; rotate_right; assumption) | (with_reducible refine' Nw.gg ?_; rotate_right; assumption) | (with_reducible refine' Nw.gr ?_; rotate_right; assumption) | (with_reducible refine' Mw.mo ?_; rotate_right; assumption) | (with_reducible refine' Mw.gw ?_; rotate_right; assumption) | (with_reducible refine' Mw.gg ?_; rotate_right; assumption) | (with_reducible refine' Mw.gr ?_; rotate_right; assumption) | with_reducible exact now_tick | with_reducible exact now_words | with_reducible exact now_begun | with_reducible exact now_rows | with_reducible exact mom_plan | with_reducible exact mom_posts | with_reducible exact mom_rows_of | with_reducible exact mom_at | with_reducible exact mom_words | with_reducible exact mom_begun | with_reducible exact mom_done | (with_reducible refine at_words0 ?_; omega) | (with_reducible refine ix_words0 ?_; omega) | (with_reducible refine at_words ?_; (try dsimp only); omega) | (with_reducible refine at_begun ?_; (try dsimp only); omega) | (with_reducible refine ix_words ?_; (try dsimp only); omega) | (with_reducible refine ix_begun ?_; (try dsimp only); omega) | (with_reducible refine' at_ent ?_; rotate_right; assumption) | (with_reducible refine' at_post ?_; rotate_right; assumption) | (with_reducible refine' at_rowsF ?_; rotate_right; assumption) | (with_reducible refine Eq.trans (mem3_o ?_ ?_ ?_) ?_; assumption; assumption; assumption; walk_at "m") | (with_reducible refine Eq.trans (mset_ne ?_) ?_; (first | assumption | (apply Ne.symm; assumption)); walk_at "m"))
local macro_rules | `(tactic| walk_at "c") => `(tactic| first | trivial | omega | assumption | (refine rows_lt ?_; (try dsimp only); omega) | (unfold momF; rfl) | (refine' ei _ ?_ ?_; rotate_left; (focus (walk_at "m")); rfl) | (refine And.intro ?_ ?_ <;> first | omega | decide | assumption | exact isiC_of rfl | exact isiC_of (by assumption) | exact isiC_lst (by assumption)) | (refine Or.inr ?_; constructor <;> omega) | (refine Or.inl ?_; constructor <;> omega) | decide)
local macro_rules | `(tactic| walk_at "w") => `(tactic| first | rw [A3.sw_down (by assumption) (by omega)] | rw [A3.sw_runs (by assumption) (by omega)] | rw [A3.sw_off (by assumption) (by omega)] | rw [A3.sw_fell (by assumption) (by omega)] | rw [A3.sw_fin (by assumption) (by omega)] | rw [A3.sg_nil (by assumption) (by omega)] | rw [A3.sr_stop (by assumption)] | rw [A3.sr_bgn (by assumption)] | rw [A3.sr_gave (by assumption)] | rw [A3.sr_off (by assumption)] | rw [mem3_set (by assumption) (by assumption) (by assumption), mset_mset] | rw [mem3_set (by assumption) (by assumption) (by assumption)])
local macro_rules | `(tactic| walk_at "s") => `(tactic| first | (refine' ei _ ?_ ?_; rotate_left; (focus (first | walk_at "m" | rfl)); walk_at "s") | (refine And.intro ?_ ?_; (focus (walk_at "c")); walk_at "s") | (refine vlit_t ?_; walk_at "s") | (refine vlit_f ?_; walk_at "s") | (walk_at "w"; walk_at "s") | (try conv => whnf))
local macro_rules | `(tactic| walk_at "t") => `(tactic| first | (refine vif_t rfl ?_; walk_at "s") | (refine vif_f rfl ?_; walk_at "s") | (refine vif_t (by decide +kernel) ?_; walk_at "s") | (refine vif_f (by decide +kernel) ?_; walk_at "s"))
section
variable {N : Nat} {M : Mp} {Q : KQ} {X : KX} {t p : P} {k : Nat}
theorem in_kinds {k : Kd} : inD (.str k.s) [.str w_always, .str w_fault, .str w_once] = true := by cases k <;> decide +kernel
theorem in_ways {y : Wy} : inD (.str y.s) [.str w_one, .str w_all, .str w_behind] = true := by cases y <;> decide +kernel
theorem sp_is_kind {kd : Kd} (hN : 1 ≤ N) (q : Q (.bl true) M) : callI T N 1 [.str kd.s, .tup [.str w_always, .str w_fault, .str w_once]] M Q X := by
  refine call_v (N := N) (n := N - 1) (np := 2) (nn := 2) (b := b1) (ρ := [some (.str kd.s), some (.tup [.str w_always, .str w_fault, .str w_once])]) (by omega) T1 rfl rfl ?_
  walk_at "s"
  rw [show notB false (inD (.str kd.s) [.str w_always, .str w_fault, .str w_once]) = true from in_kinds]
  exact ve q
theorem sp_is_way {y : Wy} (hN : 1 ≤ N) (q : Q (.bl true) M) : callI T N 1 [.str y.s, .tup [.str w_one, .str w_all, .str w_behind]] M Q X := by
  refine call_v (N := N) (n := N - 1) (np := 2) (nn := 2) (b := b1) (ρ := [some (.str y.s), some (.tup [.str w_one, .str w_all, .str w_behind])]) (by omega) T1 rfl rfl ?_
  walk_at "s"
  rw [show notB false (inD (.str y.s) [.str w_one, .str w_all, .str w_behind]) = true from in_ways]
  exact ve q
theorem sp_is_whole {i : Int} (hN : 1 ≤ N) (q : Q (.bl true) M) : callI T N 0 [.int i] M Q X := by
  refine call_v (N := N) (n := N - 1) (np := 1) (nn := 1) (b := b0) (ρ := [some (.int i)]) (by omega) T0 rfl rfl ?_
  walk_at "s"
  exact ve q
theorem sp_is_worker_t {p : P} (hN : 2 ≤ N) (q : Q (.bl (!p.isT)) M) : callI T N 2 [p.d] M Q X := by
  cases p with
  | wk kd =>
    refine call_v (N := N) (n := N - 1) (np := 1) (nn := 1) (b := b2) (ρ := [some ((P.wk kd).d)]) (by omega) T2 rfl rfl ?_
    walk_at "s"
    try walk_at "t"
    refine sp_is_kind (by omega) ?_
    exact ve q
  | wt kd y m w ps =>
    refine call_v (N := N) (n := N - 1) (np := 1) (nn := 1) (b := b2) (ρ := [some ((P.wt kd y m w ps).d)]) (by omega) T2 rfl rfl ?_
    walk_at "s"
    try walk_at "t"
    exact ve q
theorem sp_has_form : ∀ (k : Nat) {N : Nat} {M : Mp} {Q : KQ} {X : KX} {p : P}, p.ok k = true → k ≤ 6 → k + 3 ≤ N → Q (.bl true) M → callI T N 3 [p.d, .int (k : Nat)] M Q X := by
  intro k
  induction k with
  | zero => ?_
  | succ k ih => ?_
  all_goals
    intro N M Q X p hp hk hN q
    cases p with
    | wk kd => ?_
    | wt kd y m w ps => ?_
  · refine call_v (N := N) (n := N - 1) (np := 2) (nn := 9) (b := b3) (ρ := [some ((P.wk kd).d), some (.int ((0 : Nat) : Int)), none, none, none, none, none, none, none]) (by omega) T3 rfl rfl ?_
    walk_at "s"
    refine sp_is_worker_t (by omega) ?_
    walk_at "s"
    try walk_at "t"
    exact ve q
  · obtain ⟨j, e, _⟩ := P.ok_wt' hp
    cases e
  · refine call_v (N := N) (n := N - 1) (np := 2) (nn := 9) (b := b3) (ρ := [some ((P.wk kd).d), some (.int ((k + 1 : Nat) : Int)), none, none, none, none, none, none, none]) (by omega) T3 rfl rfl ?_
    walk_at "s"
    refine sp_is_worker_t (by omega) ?_
    walk_at "s"
    try walk_at "t"
    exact ve q
  · obtain ⟨h1, h2⟩ := P.ok_wt.mp hp
    refine call_v (N := N) (n := N - 1) (np := 2) (nn := 9) (b := b3) (ρ := [some ((P.wt kd y m w ps).d), some (.int ((k + 1 : Nat) : Int)), none, none, none, none, none, none, none]) (by omega) T3 rfl rfl ?_
    walk_at "s"
    refine sp_is_worker_t (by omega) ?_
    walk_at "s"
    walk_at "t"
    refine sp_is_kind (by omega) ?_
    walk_at "s"
    refine sp_is_way (by omega) ?_
    walk_at "s"
    refine sp_is_whole (by omega) ?_
    walk_at "s"
    refine sp_is_whole (by omega) ?_
    walk_at "s"
    refine vifp (fun _ => ?_) (fun hc => (hc (by omega)).elim)
    walk_at "s"
    refine vif_f (show (!decide (m ≤ 20)) = false by rw [decide_eq_true h1.2.1]; rfl) ?_
    walk_at "s"
    refine vifp (fun _ => ?_) (fun hc => (hc (by omega)).elim)
    walk_at "s"
    refine vif_f (show (!decide (w ≤ 100)) = false by rw [decide_eq_true h1.2.2.2.1]; rfl) ?_
    walk_at "s"
    refine vifp (fun hc => absurd hc (by rw [P.ds_eq, List.length_map]; omega)) (fun _ => ?_)
    walk_at "s"
    refine And.intro (by rw [P.ds_eq, List.length_map]; unfold sizeLine; omega) ?_
    walk_at "s"
    refine vmap P.d (fun _ => D.bl true) ps (P.ds_eq ps) trivial ?_ (fun x hx Q h => ?_)
    rotate_left
    · walk_at "s"
      rw [show ((k + 1 : Nat) : Int) - 1 = (k : Nat) by omega]
      exact ih (h2 x hx) (by omega) (by omega) h
    walk_at "s"
    refine ei (ps.map fun _ => true) (by rw [List.map_map]; rfl) ?_
    walk_at "s"
    rw [show (ps.map fun _ => true).all id = true by rw [List.all_eq_true]; intro x hx; obtain ⟨_, _, rfl⟩ := List.mem_map.mp hx; rfl]
    exact ve q
theorem sp_is_tree (ht : t.ok 6 = true) (hT : t.isT = true) (hz : t.size ≤ 60) (hN : 10 ≤ N) (q : Q (.bl true) M) : callI T N 6 [t.d] M Q X := by
  refine call_v (N := N) (n := N - 1) (np := 1) (nn := 1) (b := b6) (ρ := [some (t.d)]) (by omega) T6 rfl rfl ?_
  walk_at "s"
  refine sp_has_form 6 ht (by omega) (by omega) ?_
  walk_at "s"
  refine sp_is_watcher (by omega) ?_
  rw [hT]
  walk_at "s"
  refine sp_all_posts 6 ht (by omega) (by omega) ?_
  walk_at "s"
  rw [List.length_map, show decide (((t.all.length : Nat) : Int) ≤ 60) = true from decide_eq_true (by unfold P.size at hz; omega)]
  exact ve q
end
end Hd
set_option Elab.async false
set_option linter.all false
set_option maxRecDepth 100000
set_option maxHeartbeats 1000000
set_option pp.maxSteps 1200
/-! PV: yards. -/
namespace Hd
open PySem PySem.Spec PyProof.Rows L2 TT
@[irreducible] def yardF (t : P) (now : D) (h : Addr) : List (Str × D) := [("plan", t.d), ("now", now), ("ahead", .ref h)]
theorem yard_plan {t : P} {now : D} {h : Addr} : (yardF t now h).lookup ("plan" : Str) = some t.d := by unfold yardF; rfl
theorem yard_now {t : P} {now : D} {h : Addr} : (yardF t now h).lookup ("now" : Str) = some now := by unfold yardF; rfl
theorem yard_ahead {t : P} {now : D} {h : Addr} : (yardF t now h).lookup ("ahead" : Str) = some (.ref h) := by unfold yardF; rfl
theorem yard_put {t : P} {now d : D} {h : Addr} : putA "now" d (yardF t now h) = yardF t d h := by unfold yardF; rfl
@[irreducible] def memY (M : Mp) (y h : Addr) (t : P) (now : D) (as : List D) : Mp := mset (mset M h (.lst as)) y (.ins "Yard" (yardF t now h))
section
variable {M : Mp} {y h a : Addr} {t : P} {now : D} {as : List D}
theorem memY_y : memY M y h t now as y = some (.ins "Yard" (yardF t now h)) := by unfold memY; exact mset_same
theorem memY_h (e : h ≠ y) : memY M y h t now as h = some (.lst as) := by unfold memY; rw [mset_ne e, mset_same]
theorem memY_o (e : a ≠ y) (e2 : a ≠ h) : memY M y h t now as a = M a := by unfold memY; rw [mset_ne e, mset_ne e2]
theorem memY_sh {bs : List D} (e : h ≠ y) : mset (memY M y h t now as) h (.lst bs) = memY M y h t now bs := by
  unfold memY; rw [mset_comm (fun z => e z.symm), mset_mset]
theorem memY_sy {d : D} : mset (memY M y h t now as) y (.ins "Yard" (putA "now" d (yardF t now h))) = memY M y h t d as := by
  unfold memY; rw [mset_mset, yard_put]
end
local macro_rules | `(tactic| walk_at "m") => `(tactic| first | with_reducible exact mset_same | with_reducible assumption | (with_reducible refine' Nw.now ?_; rotate_right; assumption) | (with_reducible refine' Nw.gw ?_; rotate_right; assumption) | (with_reducible refine' Nw.gg ?_; rotate_right; assumption) | (with_reducible refine' Nw.gr ?_; rotate_right; assumption) | (with_reducible refine' Mw.mo ?_; rotate_right; assumption) | (with_reducible refine' Mw.gw ?_; rotate_right; assumption) | (with_reducible refine' Mw.gg ?_; rotate_right; assumption) | (with_reducible refine' Mw.gr ?_; rotate_right; assumption) | with_reducible exact memY_y | (with_reducible refine memY_h ?_; assumption) | with_reducible exact yard_plan | with_reducible exact yard_now | with_reducible exact yard_ahead | with_reducible exact now_tick | with_reducible exact now_words | with_reducible exact now_begun | with_reducible exact now_rows | with_reducible exact mom_plan | with_reducible exact mom_posts | with_reducible exact mom_rows_of | with_reducible exact mom_at | with_reducible exact mom_words | with_reducible exact mom_begun | with_reducible exact mom_done | (with_reducible refine at_words0 ?_; omega) | (with_reducible refine ix_words0 ?_; omega) | (with_reducible refine at_words ?_; (try dsimp only); omega) | (with_reducible refine at_begun ?_; (try dsimp only); omega) | (with_reducible refine ix_words ?_; (try dsimp only); omega) | (with_reducible refine ix_begun ?_; (try dsimp only); omega) | (with_reducible refine' at_ent ?_; rotate_right; assumption) | (with_reducible refine' at_post ?_; rotate_right; assumption) | (with_reducible refine' at_rowsF ?_; rotate_right; assumption) | (with_reducible refine Eq.trans (memY_o ?_ ?_) ?_; assumption; assumption; walk_at "m") | (with_reducible refine Eq.trans (mem3_o ?_ ?_ ?_) ?_; assumption; assumption; assumption; walk_at "m") | (with_reducible refine Eq.trans (mset_ne ?_) ?_; (first | assumption | (apply Ne.symm; assumption)); walk_at "m"))
local macro_rules | `(tactic| walk_at "c") => `(tactic| first | trivial | omega | assumption | (refine rows_lt ?_; (try dsimp only); omega) | (unfold momF; rfl) | (unfold yardF; rfl) | (refine' ei _ ?_ ?_; rotate_left; (focus (walk_at "m")); rfl) | (refine And.intro ?_ ?_ <;> first | omega | decide | assumption | exact isiC_of rfl | exact isiC_of (by assumption) | exact isiC_lst (by assumption)) | (refine Or.inr ?_; constructor <;> omega) | (refine Or.inl ?_; constructor <;> omega) | decide)
local macro_rules | `(tactic| walk_at "w") => `(tactic| first | rw [A3.sw_down (by assumption) (by omega)] | rw [A3.sw_runs (by assumption) (by omega)] | rw [A3.sw_off (by assumption) (by omega)] | rw [A3.sw_fell (by assumption) (by omega)] | rw [A3.sw_fin (by assumption) (by omega)] | rw [A3.sg_nil (by assumption) (by omega)] | rw [A3.sr_stop (by assumption)] | rw [A3.sr_bgn (by assumption)] | rw [A3.sr_gave (by assumption)] | rw [A3.sr_off (by assumption)] | rw [memY_sh (by assumption)] | rw [memY_sy] | rw [mem3_set (by assumption) (by assumption) (by assumption), mset_mset] | rw [mem3_set (by assumption) (by assumption) (by assumption)])
local macro_rules | `(tactic| walk_at "s") => `(tactic| first | (refine' ei _ ?_ ?_; rotate_left; (focus (first | walk_at "m" | rfl)); walk_at "s") | (refine And.intro ?_ ?_; (focus (walk_at "c")); walk_at "s") | (refine vlit_t ?_; walk_at "s") | (refine vlit_f ?_; walk_at "s") | (walk_at "w"; walk_at "s") | (try conv => whnf))
local macro_rules | `(tactic| walk_at "t") => `(tactic| first | (refine vif_t rfl ?_; walk_at "s") | (refine vif_f rfl ?_; walk_at "s") | (refine vif_t (by decide +kernel) ?_; walk_at "s") | (refine vif_f (by decide +kernel) ?_; walk_at "s"))

local macro_rules | `(tactic| walk_at "p") => `(tactic| (refine And.intro (by repeat (first | exact Nat.zero_lt_succ _ | refine putA_lt ?_)) ?_; walk_at "s"))
section
variable {N : Nat} {M : Mp} {Q : KQ} {X : KX} {y h : Addr} {t p : P} {tick d : Int} {L n : Nat} {s : St} {dd : Deed} {as : List D} {now row st : D}
end
end Hd
set_option Elab.async false
set_option linter.all false
set_option maxRecDepth 100000
set_option maxHeartbeats 1000000
set_option pp.maxSteps 1200
/-! R1: refusals of marks. -/
namespace Hd
open PySem PySem.Spec PyProof.Rows L2 TT
local macro_rules | `(tactic| walk_at "m") => `(tactic| first | with_reducible exact mset_same | with_reducible assumption | (with_reducible refine' Nw.now ?_; rotate_right; assumption) | (with_reducible refine' Nw.gw ?_; rotate_right; assumption) | (with_reducible refine' Nw.gg ?_; rotate_right; assumption) | (with_reducible refine' Nw.gr ?_; rotate_right; assumption) | (with_reducible refine' Mw.mo ?_; rotate_right; assumption) | (with_reducible refine' Mw.gw ?_; rotate_right; assumption) | (with_reducible refine' Mw.gg ?_; rotate_right; assumption) | (with_reducible refine' Mw.gr ?_; rotate_right; assumption) | with_reducible exact now_tick | with_reducible exact now_words | with_reducible exact now_begun | with_reducible exact now_rows | with_reducible exact mom_plan | with_reducible exact mom_posts | with_reducible exact mom_rows_of | with_reducible exact mom_at | with_reducible exact mom_words | with_reducible exact mom_begun | with_reducible exact mom_done | (with_reducible refine at_words0 ?_; omega) | (with_reducible refine ix_words0 ?_; omega) | (with_reducible refine at_words ?_; (try dsimp only); omega) | (with_reducible refine at_begun ?_; (try dsimp only); omega) | (with_reducible refine ix_words ?_; (try dsimp only); omega) | (with_reducible refine ix_begun ?_; (try dsimp only); omega) | (with_reducible refine' at_ent ?_; rotate_right; assumption) | (with_reducible refine' at_post ?_; rotate_right; assumption) | (with_reducible refine' at_rowsF ?_; rotate_right; assumption) | (with_reducible refine Eq.trans (mem3_o ?_ ?_ ?_) ?_; assumption; assumption; assumption; walk_at "m") | (with_reducible refine Eq.trans (mset_ne ?_) ?_; (first | assumption | (apply Ne.symm; assumption)); walk_at "m"))
local macro_rules | `(tactic| walk_at "c") => `(tactic| first | trivial | omega | assumption | (refine rows_lt ?_; (try dsimp only); omega) | (unfold momF; rfl) | (refine' ei _ ?_ ?_; rotate_left; (focus (walk_at "m")); rfl) | (refine And.intro ?_ ?_ <;> first | omega | decide | assumption | exact isiC_of rfl | exact isiC_of (by assumption) | exact isiC_lst (by assumption)) | (refine Or.inr ?_; constructor <;> omega) | (refine Or.inl ?_; constructor <;> omega) | decide)
local macro_rules | `(tactic| walk_at "w") => `(tactic| first | rw [A3.sw_down (by assumption) (by omega)] | rw [A3.sw_runs (by assumption) (by omega)] | rw [A3.sw_off (by assumption) (by omega)] | rw [A3.sw_fell (by assumption) (by omega)] | rw [A3.sw_fin (by assumption) (by omega)] | rw [A3.sg_nil (by assumption) (by omega)] | rw [A3.sr_stop (by assumption)] | rw [A3.sr_bgn (by assumption)] | rw [A3.sr_gave (by assumption)] | rw [A3.sr_off (by assumption)] | rw [mem3_set (by assumption) (by assumption) (by assumption), mset_mset] | rw [mem3_set (by assumption) (by assumption) (by assumption)])
local macro_rules | `(tactic| walk_at "s") => `(tactic| first | (refine' ei _ ?_ ?_; rotate_left; (focus (first | walk_at "m" | rfl)); walk_at "s") | (refine And.intro ?_ ?_; (focus (walk_at "c")); walk_at "s") | (refine vlit_t ?_; walk_at "s") | (refine vlit_f ?_; walk_at "s") | (walk_at "w"; walk_at "s") | (try conv => whnf))
local macro_rules | `(tactic| walk_at "t") => `(tactic| first | (refine vif_t rfl ?_; walk_at "s") | (refine vif_f rfl ?_; walk_at "s") | (refine vif_t (by decide +kernel) ?_; walk_at "s") | (refine vif_f (by decide +kernel) ?_; walk_at "s"))
section
variable {N : Nat} {M : Mp} {Q : KQ} {X : KX} {t p : P} {tick : Int} {L n : Nat} {s : St} {m : Int}
end
end Hd
set_option Elab.async false
set_option linter.all false
set_option maxRecDepth 100000
set_option maxHeartbeats 1000000
set_option pp.maxSteps 1200
/-! RH: yards: back, runs, is_up, tree, book. -/
namespace Hd
open PySem PySem.Spec PyProof.Rows L2 TT
local macro_rules | `(tactic| walk_at "m") => `(tactic| first | with_reducible exact mset_same | with_reducible assumption | (with_reducible refine' Nw.now ?_; rotate_right; assumption) | (with_reducible refine' Nw.gw ?_; rotate_right; assumption) | (with_reducible refine' Nw.gg ?_; rotate_right; assumption) | (with_reducible refine' Nw.gr ?_; rotate_right; assumption) | (with_reducible refine' Mw.mo ?_; rotate_right; assumption) | (with_reducible refine' Mw.gw ?_; rotate_right; assumption) | (with_reducible refine' Mw.gg ?_; rotate_right; assumption) | (with_reducible refine' Mw.gr ?_; rotate_right; assumption) | with_reducible exact memY_y | (with_reducible refine memY_h ?_; assumption) | with_reducible exact yard_plan | with_reducible exact yard_now | with_reducible exact yard_ahead | with_reducible exact now_tick | with_reducible exact now_words | with_reducible exact now_begun | with_reducible exact now_rows | with_reducible exact mom_plan | with_reducible exact mom_posts | with_reducible exact mom_rows_of | with_reducible exact mom_at | with_reducible exact mom_words | with_reducible exact mom_begun | with_reducible exact mom_done | (with_reducible refine at_words0 ?_; omega) | (with_reducible refine ix_words0 ?_; omega) | (with_reducible refine at_words ?_; (try dsimp only); omega) | (with_reducible refine at_begun ?_; (try dsimp only); omega) | (with_reducible refine ix_words ?_; (try dsimp only); omega) | (with_reducible refine ix_begun ?_; (try dsimp only); omega) | (with_reducible refine' at_ent ?_; rotate_right; assumption) | (with_reducible refine' at_post ?_; rotate_right; assumption) | (with_reducible refine' at_rowsF ?_; rotate_right; assumption) | (with_reducible refine Eq.trans (memY_o ?_ ?_) ?_; assumption; assumption; walk_at "m") | (with_reducible refine Eq.trans (mem3_o ?_ ?_ ?_) ?_; assumption; assumption; assumption; walk_at "m") | (with_reducible refine Eq.trans (mset_ne ?_) ?_; (first | assumption | (apply Ne.symm; assumption)); walk_at "m"))
local macro_rules | `(tactic| walk_at "c") => `(tactic| first | trivial | omega | assumption | (refine rows_lt ?_; (try dsimp only); omega) | (unfold momF; rfl) | (unfold yardF; rfl) | (refine' ei _ ?_ ?_; rotate_left; (focus (walk_at "m")); rfl) | (refine And.intro ?_ ?_ <;> first | omega | decide | assumption | exact isiC_of rfl | exact isiC_of (by assumption) | exact isiC_lst (by assumption)) | (refine Or.inr ?_; constructor <;> omega) | (refine Or.inl ?_; constructor <;> omega) | decide)
local macro_rules | `(tactic| walk_at "w") => `(tactic| first | rw [A3.sw_down (by assumption) (by omega)] | rw [A3.sw_runs (by assumption) (by omega)] | rw [A3.sw_off (by assumption) (by omega)] | rw [A3.sw_fell (by assumption) (by omega)] | rw [A3.sw_fin (by assumption) (by omega)] | rw [A3.sg_nil (by assumption) (by omega)] | rw [A3.sr_stop (by assumption)] | rw [A3.sr_bgn (by assumption)] | rw [A3.sr_gave (by assumption)] | rw [A3.sr_off (by assumption)] | rw [memY_sh (by assumption)] | rw [memY_sy] | rw [mem3_set (by assumption) (by assumption) (by assumption), mset_mset] | rw [mem3_set (by assumption) (by assumption) (by assumption)])
local macro_rules | `(tactic| walk_at "s") => `(tactic| first | (refine' ei _ ?_ ?_; rotate_left; (focus (first | walk_at "m" | rfl)); walk_at "s") | (refine And.intro ?_ ?_; (focus (walk_at "c")); walk_at "s") | (refine vlit_t ?_; walk_at "s") | (refine vlit_f ?_; walk_at "s") | (walk_at "w"; walk_at "s") | (try conv => whnf))
local macro_rules | `(tactic| walk_at "t") => `(tactic| first | (refine vif_t rfl ?_; walk_at "s") | (refine vif_f rfl ?_; walk_at "s") | (refine vif_t (by decide +kernel) ?_; walk_at "s") | (refine vif_f (by decide +kernel) ?_; walk_at "s"))

local macro_rules | `(tactic| walk_at "p") => `(tactic| (refine And.intro (by repeat (first | exact Nat.zero_lt_succ _ | refine putA_lt ?_)) ?_; walk_at "s"))
section
variable {N : Nat} {M : Mp} {Q : KQ} {X : KX} {y h : Addr} {t p : P} {tick d m : Int} {n : Nat} {s : St} {as : List D} {now row st : D}
end
end Hd
set_option Elab.async false
set_option linter.all false
set_option maxRecDepth 100000
set_option maxHeartbeats 1000000
set_option pp.maxSteps 1200
/-! R8: what is not tended within what does not run: nothing laid there. -/
namespace Hd
open PySem PySem.Spec PyProof.Rows L2 TT
mutual
def Cl (w : Nat → Wd) : Nat → P → Prop
  | _, .wk _ => True
  | n, .wt _ _ _ _ ps => (w n ≠ .runs → ∀ j, n < j → j < n + ((P.alls ps).length + 1) → laid (w j) = false) ∧ Cls w (n + 1) ps
def Cls (w : Nat → Wd) : Nat → List P → Prop
  | _, [] => True
  | n, q :: qs => Cl w n q ∧ Cls w (n + q.size) qs
end
mutual
theorem Cl.congr {w w' : Nat → Wd} : ∀ {p : P} {n : Nat}, (∀ j, n ≤ j → j < n + p.size → w' j = w j) → Cl w n p → Cl w' n p
  | .wk k, n, _, _ => by simp only [Cl]
  | .wt k y m v ps, n, h, hi => by
    rw [P.size_wt] at h
    simp only [Cl] at hi ⊢
    refine ⟨fun hn j h1 h2 => ?_, Cls.congr (fun j h1 h2 => h j (by omega) (by omega)) hi.2⟩
    rw [h n (Nat.le_refl _) (by omega)] at hn
    rw [h j (by omega) h2]
    exact hi.1 hn j h1 h2
theorem Cls.congr {w w' : Nat → Wd} : ∀ {ps : List P} {n : Nat}, (∀ j, n ≤ j → j < n + (P.alls ps).length → w' j = w j) → Cls w n ps → Cls w' n ps
  | [], n, _, _ => by simp only [Cls]
  | q :: qs, n, h, hi => by
    simp only [P.alls, List.length_append] at h
    have e : q.size = q.all.length := rfl
    simp only [Cls] at hi ⊢
    exact ⟨Cl.congr (fun j h1 h2 => h j h1 (by omega)) hi.1, Cls.congr (fun j h1 h2 => h j (by omega) (by omega)) hi.2⟩
end
theorem Disj.two {ks : List (Nat × P)} (h : Disj ks) {x y : Nat × P} (hx : x ∈ ks) (hy : y ∈ ks) : x = y ∨ x.1 + x.2.size ≤ y.1 ∨ y.1 + y.2.size ≤ x.1 := by
  induction ks with
  | nil => cases hx
  | cons z zs ih =>
    obtain ⟨h3, h4⟩ := List.pairwise_cons.mp h
    rcases List.mem_cons.mp hx with e1 | h1 <;> rcases List.mem_cons.mp hy with e2 | h2
    · exact .inl (e1.trans e2.symm)
    · exact .inr (.inl (e1 ▸ h3 y h2))
    · exact .inr (.inr (e2 ▸ h3 x h1))
    · exact ih h4 h1 h2
mutual
theorem Cl.mark {tick : Int} {s : St} {x : Wd} : ∀ {p : P} {n j : Nat} {kd : Kd}, p.all[j]? = some (.wk kd) → s.w (n + j) = .runs → Inv tick s n p → Cl s.w n p → Cl (updF (n + j) x s.w) n p
  | .wk k, n, j, kd, _, _, _, _ => by simp only [Cl]
  | .wt k y m w ps, n, j, kd, h, hr, hi, hc => by
    rw [alls_cons] at h
    cases j with
    | zero => cases h
    | succ j =>
      rw [List.getElem?_cons_succ] at h
      simp only [Inv] at hi
      simp only [Cl] at hc ⊢
      rw [show n + (j + 1) = n + 1 + j by omega] at hr ⊢
      have hm := Cls.mark (x := x) (n := n + 1) h hr hi.2.2 hc.2
      refine ⟨fun hn i h1 h2 => ?_, hm⟩
      rw [updF_ne (by omega)] at hn
      have hj := (List.getElem?_eq_some_iff.mp h).1
      exact absurd hr (hi.1 hn (n + 1 + j) (by omega) (by omega))
theorem Cls.mark {tick : Int} {s : St} {x : Wd} : ∀ {ps : List P} {n j : Nat} {kd : Kd}, (P.alls ps)[j]? = some (.wk kd) → s.w (n + j) = .runs → Invs tick s n ps → Cls s.w n ps → Cls (updF (n + j) x s.w) n ps
  | [], n, j, kd, _, _, _, _ => by simp only [Cls]
  | q :: qs, n, j, kd, h, hr, hi, hc => by
    have e : q.size = q.all.length := rfl
    simp only [P.alls] at h
    simp only [Invs] at hi
    simp only [Cls] at hc ⊢
    by_cases hj : j < q.all.length
    · rw [List.getElem?_append_left hj] at h
      exact ⟨Cl.mark h hr hi.1 hc.1, Cls.congr (fun i h1 h2 => updF_ne (by omega)) hc.2⟩
    · rw [List.getElem?_append_right (by omega)] at h
      have h2 := Cls.mark (x := x) (n := n + q.size) h (by rw [show n + q.size + (j - q.all.length) = n + j by omega]; exact hr) hi.2 hc.2
      rw [show n + q.size + (j - q.all.length) = n + j by omega] at h2
      exact ⟨Cl.congr (fun i h1 h2 => updF_ne (by omega)) hc.1, h2⟩
end
/-- what a story keeps besides -/
structure Nl (t : P) (s : St) : Prop where
  cl : Cl s.w 0 t
  root : laid (s.w 0) = false
end Hd
set_option Elab.async false
set_option linter.all false
set_option maxRecDepth 100000
set_option maxHeartbeats 1000000
set_option pp.maxSteps 1200
/-! R9: ticks refused while something is not settled; two waits as one. -/
namespace Hd
open PySem PySem.Spec PyProof.Rows L2 TT
local macro_rules | `(tactic| walk_at "m") => `(tactic| first | with_reducible exact mset_same | with_reducible assumption | (with_reducible refine' Nw.now ?_; rotate_right; assumption) | (with_reducible refine' Nw.gw ?_; rotate_right; assumption) | (with_reducible refine' Nw.gg ?_; rotate_right; assumption) | (with_reducible refine' Nw.gr ?_; rotate_right; assumption) | (with_reducible refine' Mw.mo ?_; rotate_right; assumption) | (with_reducible refine' Mw.gw ?_; rotate_right; assumption) | (with_reducible refine' Mw.gg ?_; rotate_right; assumption) | (with_reducible refine' Mw.gr ?_; rotate_right; assumption) | with_reducible exact memY_y | (with_reducible refine memY_h ?_; assumption) | with_reducible exact yard_plan | with_reducible exact yard_now | with_reducible exact yard_ahead | with_reducible exact now_tick | with_reducible exact now_words | with_reducible exact now_begun | with_reducible exact now_rows | with_reducible exact mom_plan | with_reducible exact mom_posts | with_reducible exact mom_rows_of | with_reducible exact mom_at | with_reducible exact mom_words | with_reducible exact mom_begun | with_reducible exact mom_done | (with_reducible refine at_words0 ?_; omega) | (with_reducible refine ix_words0 ?_; omega) | (with_reducible refine at_words ?_; (try dsimp only); omega) | (with_reducible refine at_begun ?_; (try dsimp only); omega) | (with_reducible refine ix_words ?_; (try dsimp only); omega) | (with_reducible refine ix_begun ?_; (try dsimp only); omega) | (with_reducible refine' at_ent ?_; rotate_right; assumption) | (with_reducible refine' at_post ?_; rotate_right; assumption) | (with_reducible refine' at_rowsF ?_; rotate_right; assumption) | (with_reducible refine Eq.trans (memY_o ?_ ?_) ?_; assumption; assumption; walk_at "m") | (with_reducible refine Eq.trans (mem3_o ?_ ?_ ?_) ?_; assumption; assumption; assumption; walk_at "m") | (with_reducible refine Eq.trans (mset_ne ?_) ?_; (first | assumption | (apply Ne.symm; assumption)); walk_at "m"))
local macro_rules | `(tactic| walk_at "c") => `(tactic| first | trivial | omega | assumption | (refine rows_lt ?_; (try dsimp only); omega) | (unfold momF; rfl) | (unfold yardF; rfl) | (refine' ei _ ?_ ?_; rotate_left; (focus (walk_at "m")); rfl) | (refine And.intro ?_ ?_ <;> first | omega | decide | assumption | exact isiC_of rfl | exact isiC_of (by assumption) | exact isiC_lst (by assumption)) | (refine Or.inr ?_; constructor <;> omega) | (refine Or.inl ?_; constructor <;> omega) | decide)
local macro_rules | `(tactic| walk_at "w") => `(tactic| first | rw [A3.sw_down (by assumption) (by omega)] | rw [A3.sw_runs (by assumption) (by omega)] | rw [A3.sw_off (by assumption) (by omega)] | rw [A3.sw_fell (by assumption) (by omega)] | rw [A3.sw_fin (by assumption) (by omega)] | rw [A3.sg_nil (by assumption) (by omega)] | rw [A3.sr_stop (by assumption)] | rw [A3.sr_bgn (by assumption)] | rw [A3.sr_gave (by assumption)] | rw [A3.sr_off (by assumption)] | rw [memY_sh (by assumption)] | rw [memY_sy] | rw [mem3_set (by assumption) (by assumption) (by assumption), mset_mset] | rw [mem3_set (by assumption) (by assumption) (by assumption)])
local macro_rules | `(tactic| walk_at "s") => `(tactic| first | (refine' ei _ ?_ ?_; rotate_left; (focus (first | walk_at "m" | rfl)); walk_at "s") | (refine And.intro ?_ ?_; (focus (walk_at "c")); walk_at "s") | (refine vlit_t ?_; walk_at "s") | (refine vlit_f ?_; walk_at "s") | (walk_at "w"; walk_at "s") | (try conv => whnf))
local macro_rules | `(tactic| walk_at "t") => `(tactic| first | (refine vif_t rfl ?_; walk_at "s") | (refine vif_f rfl ?_; walk_at "s") | (refine vif_t (by decide +kernel) ?_; walk_at "s") | (refine vif_f (by decide +kernel) ?_; walk_at "s"))

local macro_rules | `(tactic| walk_at "p") => `(tactic| (refine And.intro (by repeat (first | exact Nat.zero_lt_succ _ | refine putA_lt ?_)) ?_; walk_at "s"))
section
variable {N : Nat} {M : Mp} {Q : KQ} {X : KX} {t p : P} {tick d : Int} {L n : Nat} {s : St}
end
end Hd
set_option Elab.async false
set_option linter.all false
set_option maxRecDepth 100000
set_option maxHeartbeats 1000000
set_option pp.maxSteps 1200
/-! RI: deeds told to a yard that are refused (k11). -/
namespace Hd
open PySem PySem.Spec PyProof.Rows L2 TT
local macro_rules | `(tactic| walk_at "m") => `(tactic| first | with_reducible exact mset_same | with_reducible assumption | (with_reducible refine' Nw.now ?_; rotate_right; assumption) | (with_reducible refine' Nw.gw ?_; rotate_right; assumption) | (with_reducible refine' Nw.gg ?_; rotate_right; assumption) | (with_reducible refine' Nw.gr ?_; rotate_right; assumption) | (with_reducible refine' Mw.mo ?_; rotate_right; assumption) | (with_reducible refine' Mw.gw ?_; rotate_right; assumption) | (with_reducible refine' Mw.gg ?_; rotate_right; assumption) | (with_reducible refine' Mw.gr ?_; rotate_right; assumption) | with_reducible exact memY_y | (with_reducible refine memY_h ?_; assumption) | with_reducible exact yard_plan | with_reducible exact yard_now | with_reducible exact yard_ahead | with_reducible exact now_tick | with_reducible exact now_words | with_reducible exact now_begun | with_reducible exact now_rows | with_reducible exact mom_plan | with_reducible exact mom_posts | with_reducible exact mom_rows_of | with_reducible exact mom_at | with_reducible exact mom_words | with_reducible exact mom_begun | with_reducible exact mom_done | (with_reducible refine at_words0 ?_; omega) | (with_reducible refine ix_words0 ?_; omega) | (with_reducible refine at_words ?_; (try dsimp only); omega) | (with_reducible refine at_begun ?_; (try dsimp only); omega) | (with_reducible refine ix_words ?_; (try dsimp only); omega) | (with_reducible refine ix_begun ?_; (try dsimp only); omega) | (with_reducible refine' at_ent ?_; rotate_right; assumption) | (with_reducible refine' at_post ?_; rotate_right; assumption) | (with_reducible refine' at_rowsF ?_; rotate_right; assumption) | (with_reducible refine Eq.trans (memY_o ?_ ?_) ?_; assumption; assumption; walk_at "m") | (with_reducible refine Eq.trans (mem3_o ?_ ?_ ?_) ?_; assumption; assumption; assumption; walk_at "m") | (with_reducible refine Eq.trans (mset_ne ?_) ?_; (first | assumption | (apply Ne.symm; assumption)); walk_at "m"))
local macro_rules | `(tactic| walk_at "c") => `(tactic| first | trivial | omega | assumption | (refine rows_lt ?_; (try dsimp only); omega) | (unfold momF; rfl) | (unfold yardF; rfl) | (refine' ei _ ?_ ?_; rotate_left; (focus (walk_at "m")); rfl) | (refine And.intro ?_ ?_ <;> first | omega | decide | assumption | exact isiC_of rfl | exact isiC_of (by assumption) | exact isiC_lst (by assumption)) | (refine Or.inr ?_; constructor <;> omega) | (refine Or.inl ?_; constructor <;> omega) | decide)
local macro_rules | `(tactic| walk_at "w") => `(tactic| first | rw [A3.sw_down (by assumption) (by omega)] | rw [A3.sw_runs (by assumption) (by omega)] | rw [A3.sw_off (by assumption) (by omega)] | rw [A3.sw_fell (by assumption) (by omega)] | rw [A3.sw_fin (by assumption) (by omega)] | rw [A3.sg_nil (by assumption) (by omega)] | rw [A3.sr_stop (by assumption)] | rw [A3.sr_bgn (by assumption)] | rw [A3.sr_gave (by assumption)] | rw [A3.sr_off (by assumption)] | rw [memY_sh (by assumption)] | rw [memY_sy] | rw [mem3_set (by assumption) (by assumption) (by assumption), mset_mset] | rw [mem3_set (by assumption) (by assumption) (by assumption)])
local macro_rules | `(tactic| walk_at "s") => `(tactic| first | (refine' ei _ ?_ ?_; rotate_left; (focus (first | walk_at "m" | rfl)); walk_at "s") | (refine And.intro ?_ ?_; (focus (walk_at "c")); walk_at "s") | (refine vlit_t ?_; walk_at "s") | (refine vlit_f ?_; walk_at "s") | (walk_at "w"; walk_at "s") | (try conv => whnf))
local macro_rules | `(tactic| walk_at "t") => `(tactic| first | (refine vif_t rfl ?_; walk_at "s") | (refine vif_f rfl ?_; walk_at "s") | (refine vif_t (by decide +kernel) ?_; walk_at "s") | (refine vif_f (by decide +kernel) ?_; walk_at "s"))

local macro_rules | `(tactic| walk_at "p") => `(tactic| (refine And.intro (by repeat (first | exact Nat.zero_lt_succ _ | refine putA_lt ?_)) ?_; walk_at "s"))
section
variable {N : Nat} {M : Mp} {Q : KQ} {X : KX} {y h : Addr} {t p : P} {tick d m : Int} {n : Nat} {s : St} {as : List D} {now : D} {x : Wd} {dd : Deed}
end
end Hd
set_option Elab.async false
set_option linter.all false
set_option maxRecDepth 100000
set_option maxHeartbeats 1000000
set_option pp.maxSteps 1200
/-! R6: watchers by number. -/
namespace Hd
open PySem PySem.Spec PyProof.Rows L2 TT
local macro_rules | `(tactic| walk_at "m") => `(tactic| first | with_reducible exact mset_same | with_reducible assumption | (with_reducible refine' Nw.now ?_; rotate_right; assumption) | (with_reducible refine' Nw.gw ?_; rotate_right; assumption) | (with_reducible refine' Nw.gg ?_; rotate_right; assumption) | (with_reducible refine' Nw.gr ?_; rotate_right; assumption) | (with_reducible refine' Mw.mo ?_; rotate_right; assumption) | (with_reducible refine' Mw.gw ?_; rotate_right; assumption) | (with_reducible refine' Mw.gg ?_; rotate_right; assumption) | (with_reducible refine' Mw.gr ?_; rotate_right; assumption) | with_reducible exact now_tick | with_reducible exact now_words | with_reducible exact now_begun | with_reducible exact now_rows | with_reducible exact mom_plan | with_reducible exact mom_posts | with_reducible exact mom_rows_of | with_reducible exact mom_at | with_reducible exact mom_words | with_reducible exact mom_begun | with_reducible exact mom_done | (with_reducible refine at_words0 ?_; omega) | (with_reducible refine ix_words0 ?_; omega) | (with_reducible refine at_words ?_; (try dsimp only); omega) | (with_reducible refine at_begun ?_; (try dsimp only); omega) | (with_reducible refine ix_words ?_; (try dsimp only); omega) | (with_reducible refine ix_begun ?_; (try dsimp only); omega) | (with_reducible refine' at_ent ?_; rotate_right; assumption) | (with_reducible refine' at_post ?_; rotate_right; assumption) | (with_reducible refine' at_rowsF ?_; rotate_right; assumption) | (with_reducible refine Eq.trans (mem3_o ?_ ?_ ?_) ?_; assumption; assumption; assumption; walk_at "m") | (with_reducible refine Eq.trans (mset_ne ?_) ?_; (first | assumption | (apply Ne.symm; assumption)); walk_at "m"))
local macro_rules | `(tactic| walk_at "c") => `(tactic| first | trivial | omega | assumption | (refine rows_lt ?_; (try dsimp only); omega) | (unfold momF; rfl) | (refine' ei _ ?_ ?_; rotate_left; (focus (walk_at "m")); rfl) | (refine And.intro ?_ ?_ <;> first | omega | decide | assumption | exact isiC_of rfl | exact isiC_of (by assumption) | exact isiC_lst (by assumption)) | (refine Or.inr ?_; constructor <;> omega) | (refine Or.inl ?_; constructor <;> omega) | decide)
local macro_rules | `(tactic| walk_at "w") => `(tactic| first | rw [A3.sw_down (by assumption) (by omega)] | rw [A3.sw_runs (by assumption) (by omega)] | rw [A3.sw_off (by assumption) (by omega)] | rw [A3.sw_fell (by assumption) (by omega)] | rw [A3.sw_fin (by assumption) (by omega)] | rw [A3.sg_nil (by assumption) (by omega)] | rw [A3.sr_stop (by assumption)] | rw [A3.sr_bgn (by assumption)] | rw [A3.sr_gave (by assumption)] | rw [A3.sr_off (by assumption)] | rw [mem3_set (by assumption) (by assumption) (by assumption), mset_mset] | rw [mem3_set (by assumption) (by assumption) (by assumption)])
local macro_rules | `(tactic| walk_at "s") => `(tactic| first | (refine' ei _ ?_ ?_; rotate_left; (focus (first | walk_at "m" | rfl)); walk_at "s") | (refine And.intro ?_ ?_; (focus (walk_at "c")); walk_at "s") | (refine vlit_t ?_; walk_at "s") | (refine vlit_f ?_; walk_at "s") | (walk_at "w"; walk_at "s") | (try conv => whnf))
local macro_rules | `(tactic| walk_at "t") => `(tactic| first | (refine vif_t rfl ?_; walk_at "s") | (refine vif_f rfl ?_; walk_at "s") | (refine vif_t (by decide +kernel) ?_; walk_at "s") | (refine vif_f (by decide +kernel) ?_; walk_at "s"))
end Hd
set_option Elab.async false
set_option linter.all false
set_option maxRecDepth 100000
set_option maxHeartbeats 1000000
set_option pp.maxSteps 1200
/-! R7: posts by number, what a post leans on. -/
namespace Hd
open PySem PySem.Spec PyProof.Rows L2 TT
local macro_rules | `(tactic| walk_at "m") => `(tactic| first | with_reducible exact mset_same | with_reducible assumption | (with_reducible refine' Nw.now ?_; rotate_right; assumption) | (with_reducible refine' Nw.gw ?_; rotate_right; assumption) | (with_reducible refine' Nw.gg ?_; rotate_right; assumption) | (with_reducible refine' Nw.gr ?_; rotate_right; assumption) | (with_reducible refine' Mw.mo ?_; rotate_right; assumption) | (with_reducible refine' Mw.gw ?_; rotate_right; assumption) | (with_reducible refine' Mw.gg ?_; rotate_right; assumption) | (with_reducible refine' Mw.gr ?_; rotate_right; assumption) | with_reducible exact now_tick | with_reducible exact now_words | with_reducible exact now_begun | with_reducible exact now_rows | with_reducible exact mom_plan | with_reducible exact mom_posts | with_reducible exact mom_rows_of | with_reducible exact mom_at | with_reducible exact mom_words | with_reducible exact mom_begun | with_reducible exact mom_done | (with_reducible refine at_words0 ?_; omega) | (with_reducible refine ix_words0 ?_; omega) | (with_reducible refine at_words ?_; (try dsimp only); omega) | (with_reducible refine at_begun ?_; (try dsimp only); omega) | (with_reducible refine ix_words ?_; (try dsimp only); omega) | (with_reducible refine ix_begun ?_; (try dsimp only); omega) | (with_reducible refine' at_ent ?_; rotate_right; assumption) | (with_reducible refine' at_post ?_; rotate_right; assumption) | (with_reducible refine' at_rowsF ?_; rotate_right; assumption) | (with_reducible refine Eq.trans (mem3_o ?_ ?_ ?_) ?_; assumption; assumption; assumption; walk_at "m") | (with_reducible refine Eq.trans (mset_ne ?_) ?_; (first | assumption | (apply Ne.symm; assumption)); walk_at "m"))
local macro_rules | `(tactic| walk_at "c") => `(tactic| first | trivial | omega | assumption | (refine rows_lt ?_; (try dsimp only); omega) | (unfold momF; rfl) | (refine' ei _ ?_ ?_; rotate_left; (focus (walk_at "m")); rfl) | (refine And.intro ?_ ?_ <;> first | omega | decide | assumption | exact isiC_of rfl | exact isiC_of (by assumption) | exact isiC_lst (by assumption)) | (refine Or.inr ?_; constructor <;> omega) | (refine Or.inl ?_; constructor <;> omega) | decide)
local macro_rules | `(tactic| walk_at "w") => `(tactic| first | rw [A3.sw_down (by assumption) (by omega)] | rw [A3.sw_runs (by assumption) (by omega)] | rw [A3.sw_off (by assumption) (by omega)] | rw [A3.sw_fell (by assumption) (by omega)] | rw [A3.sw_fin (by assumption) (by omega)] | rw [A3.sg_nil (by assumption) (by omega)] | rw [A3.sr_stop (by assumption)] | rw [A3.sr_bgn (by assumption)] | rw [A3.sr_gave (by assumption)] | rw [A3.sr_off (by assumption)] | rw [mem3_set (by assumption) (by assumption) (by assumption), mset_mset] | rw [mem3_set (by assumption) (by assumption) (by assumption)])
local macro_rules | `(tactic| walk_at "s") => `(tactic| first | (refine' ei _ ?_ ?_; rotate_left; (focus (first | walk_at "m" | rfl)); walk_at "s") | (refine And.intro ?_ ?_; (focus (walk_at "c")); walk_at "s") | (refine vlit_t ?_; walk_at "s") | (refine vlit_f ?_; walk_at "s") | (walk_at "w"; walk_at "s") | (try conv => whnf))
local macro_rules | `(tactic| walk_at "t") => `(tactic| first | (refine vif_t rfl ?_; walk_at "s") | (refine vif_f rfl ?_; walk_at "s") | (refine vif_t (by decide +kernel) ?_; walk_at "s") | (refine vif_f (by decide +kernel) ?_; walk_at "s"))
section
variable {N : Nat} {M : Mp} {Q : KQ} {X : KX} {t p : P} {n : Nat} {m : Int}
end
end Hd
set_option Elab.async false
set_option linter.all false
set_option maxRecDepth 100000
set_option maxHeartbeats 1000000
set_option pp.maxSteps 1200
/-! RC: no post of a watcher that runs is down; so behind a settling a stand is upheld. -/
namespace Hd
open PySem PySem.Spec PyProof.Rows L2 TT
mutual
def Un (w : Nat → Wd) : Nat → P → Prop
  | _, .wk _ => True
  | n, .wt _ _ _ _ ps => (w n = .runs → ∀ x ∈ kidsN (n + 1) ps, w x.1 ≠ .down) ∧ Uns w (n + 1) ps
def Uns (w : Nat → Wd) : Nat → List P → Prop
  | _, [] => True
  | n, q :: qs => Un w n q ∧ Uns w (n + q.size) qs
end
theorem kid_in {ps : List P} {n : Nat} {x : Nat × P} (hx : x ∈ kidsN n ps) : n ≤ x.1 ∧ x.1 < n + (P.alls ps).length := by
  have := kidsN_mem hx
  have := x.2.size_pos
  omega
mutual
theorem Un.congr {w w' : Nat → Wd} : ∀ {p : P} {n : Nat}, (∀ j, n ≤ j → j < n + p.size → w' j = w j) → Un w n p → Un w' n p
  | .wk k, n, _, _ => by simp only [Un]
  | .wt k y m v ps, n, h, hi => by
    rw [P.size_wt] at h
    simp only [Un] at hi ⊢
    refine ⟨fun hn x hx => ?_, Uns.congr (fun j h1 h2 => h j (by omega) (by omega)) hi.2⟩
    have hk := kid_in hx
    rw [h n (Nat.le_refl _) (by omega)] at hn
    rw [h x.1 (by omega) (by omega)]
    exact hi.1 hn x hx
theorem Uns.congr {w w' : Nat → Wd} : ∀ {ps : List P} {n : Nat}, (∀ j, n ≤ j → j < n + (P.alls ps).length → w' j = w j) → Uns w n ps → Uns w' n ps
  | [], n, _, _ => by simp only [Uns]
  | q :: qs, n, h, hi => by
    simp only [P.alls, List.length_append] at h
    have e : q.size = q.all.length := rfl
    simp only [Uns] at hi ⊢
    exact ⟨Un.congr (fun j h1 h2 => h j h1 (by omega)) hi.1, Uns.congr (fun j h1 h2 => h j (by omega) (by omega)) hi.2⟩
end
mutual
theorem Un.runs {w : Nat → Wd} : ∀ {p : P} {n : Nat}, (∀ j, n ≤ j → j < n + p.size → w j = .runs) → Un w n p
  | .wk k, n, _ => by simp only [Un]
  | .wt k y m v ps, n, h => by
    rw [P.size_wt] at h
    simp only [Un]
    refine ⟨fun _ x hx => ?_, Uns.runs fun j h1 h2 => h j (by omega) (by omega)⟩
    have hk := kid_in hx
    rw [h x.1 (by omega) (by omega)]; decide
theorem Uns.runs {w : Nat → Wd} : ∀ {ps : List P} {n : Nat}, (∀ j, n ≤ j → j < n + (P.alls ps).length → w j = .runs) → Uns w n ps
  | [], n, _ => by simp only [Uns]
  | q :: qs, n, h => by
    simp only [P.alls, List.length_append] at h
    have e : q.size = q.all.length := rfl
    simp only [Uns]
    exact ⟨Un.runs fun j h1 h2 => h j h1 (by omega), Uns.runs fun j h1 h2 => h j (by omega) (by omega)⟩
end
mutual
theorem Un.mark {w : Nat → Wd} {x : Wd} (hx : x ≠ .down) : ∀ {p : P} {n j : Nat} {kd : Kd}, p.all[j]? = some (.wk kd) → Un w n p → Un (updF (n + j) x w) n p
  | .wk k, n, j, kd, _, _ => by simp only [Un]
  | .wt k y m v ps, n, j, kd, h, hc => by
    rw [alls_cons] at h
    cases j with
    | zero => cases h
    | succ j =>
      rw [List.getElem?_cons_succ] at h
      simp only [Un] at hc ⊢
      rw [show n + (j + 1) = n + 1 + j by omega]
      refine ⟨fun hn z hz => ?_, Uns.mark hx (n := n + 1) h hc.2⟩
      rw [updF_ne (by omega)] at hn
      by_cases e : z.1 = n + 1 + j
      · rw [e, updF_same]; exact hx
      · rw [updF_ne e]; exact hc.1 hn z hz
theorem Uns.mark {w : Nat → Wd} {x : Wd} (hx : x ≠ .down) : ∀ {ps : List P} {n j : Nat} {kd : Kd}, (P.alls ps)[j]? = some (.wk kd) → Uns w n ps → Uns (updF (n + j) x w) n ps
  | [], n, j, kd, _, _ => by simp only [Uns]
  | q :: qs, n, j, kd, h, hc => by
    have e : q.size = q.all.length := rfl
    simp only [P.alls] at h
    simp only [Uns] at hc ⊢
    by_cases hj : j < q.all.length
    · rw [List.getElem?_append_left hj] at h
      exact ⟨Un.mark hx h hc.1, Uns.congr (fun i h1 h2 => updF_ne (by omega)) hc.2⟩
    · rw [List.getElem?_append_right (by omega)] at h
      have h2 := Uns.mark hx (n := n + q.size) h hc.2
      rw [show n + q.size + (j - q.all.length) = n + j by omega] at h2
      exact ⟨Un.congr (fun i h1 h2 => updF_ne (by omega)) hc.1, h2⟩
end
mutual
theorem Un.at_ {tick : Int} {s : St} : ∀ {p q : P} {n i : Nat}, p.all[i]? = some q → Inv tick s n p → Un s.w n p → Inv tick s (n + i) q ∧ Un s.w (n + i) q
  | .wk k, q, n, i, h, hi, hu => by
    rw [alls_one] at h
    cases i with
    | zero => cases h; exact ⟨hi, hu⟩
    | succ i => cases h
  | .wt k y m w ps, q, n, i, h, hi, hu => by
    rw [alls_cons] at h
    cases i with
    | zero => cases h; exact ⟨hi, hu⟩
    | succ i =>
      rw [List.getElem?_cons_succ] at h
      simp only [Inv] at hi
      simp only [Un] at hu
      rw [show n + (i + 1) = n + 1 + i by omega]
      exact Uns.at_ h hi.2.2 hu.2
theorem Uns.at_ {tick : Int} {s : St} : ∀ {ps : List P} {q : P} {n i : Nat}, (P.alls ps)[i]? = some q → Invs tick s n ps → Uns s.w n ps → Inv tick s (n + i) q ∧ Un s.w (n + i) q
  | [], q, n, i, h, _, _ => by simp [P.alls] at h
  | p :: ps, q, n, i, h, hi, hu => by
    have e : p.size = p.all.length := rfl
    simp only [P.alls] at h
    simp only [Invs] at hi
    simp only [Uns] at hu
    by_cases hj : i < p.all.length
    · rw [List.getElem?_append_left hj] at h
      exact Un.at_ h hi.1 hu.1
    · rw [List.getElem?_append_right (by omega)] at h
      have h2 := Uns.at_ (n := n + p.size) h hi.2 hu.2
      rw [show n + p.size + (i - p.all.length) = n + i by omega] at h2
      exact h2
end
end Hd
set_option Elab.async false
set_option linter.all false
set_option maxRecDepth 100000
set_option maxHeartbeats 1000000
set_option pp.maxSteps 1200
/-! RD: upheld, here and by the law. -/
namespace Hd
open PySem PySem.Spec PyProof.Rows L2 TT
local macro_rules | `(tactic| walk_at "m") => `(tactic| first | with_reducible exact mset_same | with_reducible assumption | (with_reducible refine' Nw.now ?_; rotate_right; assumption) | (with_reducible refine' Nw.gw ?_; rotate_right; assumption) | (with_reducible refine' Nw.gg ?_; rotate_right; assumption) | (with_reducible refine' Nw.gr ?_; rotate_right; assumption) | (with_reducible refine' Mw.mo ?_; rotate_right; assumption) | (with_reducible refine' Mw.gw ?_; rotate_right; assumption) | (with_reducible refine' Mw.gg ?_; rotate_right; assumption) | (with_reducible refine' Mw.gr ?_; rotate_right; assumption) | with_reducible exact memY_y | (with_reducible refine memY_h ?_; assumption) | with_reducible exact yard_plan | with_reducible exact yard_now | with_reducible exact yard_ahead | with_reducible exact now_tick | with_reducible exact now_words | with_reducible exact now_begun | with_reducible exact now_rows | with_reducible exact mom_plan | with_reducible exact mom_posts | with_reducible exact mom_rows_of | with_reducible exact mom_at | with_reducible exact mom_words | with_reducible exact mom_begun | with_reducible exact mom_done | (with_reducible refine at_words0 ?_; omega) | (with_reducible refine ix_words0 ?_; omega) | (with_reducible refine at_words ?_; (try dsimp only); omega) | (with_reducible refine at_begun ?_; (try dsimp only); omega) | (with_reducible refine ix_words ?_; (try dsimp only); omega) | (with_reducible refine ix_begun ?_; (try dsimp only); omega) | (with_reducible refine' at_ent ?_; rotate_right; assumption) | (with_reducible refine' at_post ?_; rotate_right; assumption) | (with_reducible refine' at_rowsF ?_; rotate_right; assumption) | (with_reducible refine Eq.trans (memY_o ?_ ?_) ?_; assumption; assumption; walk_at "m") | (with_reducible refine Eq.trans (mem3_o ?_ ?_ ?_) ?_; assumption; assumption; assumption; walk_at "m") | (with_reducible refine Eq.trans (mset_ne ?_) ?_; (first | assumption | (apply Ne.symm; assumption)); walk_at "m"))
local macro_rules | `(tactic| walk_at "c") => `(tactic| first | trivial | omega | assumption | (refine rows_lt ?_; (try dsimp only); omega) | (unfold momF; rfl) | (unfold yardF; rfl) | (refine' ei _ ?_ ?_; rotate_left; (focus (walk_at "m")); rfl) | (refine And.intro ?_ ?_ <;> first | omega | decide | assumption | exact isiC_of rfl | exact isiC_of (by assumption) | exact isiC_lst (by assumption)) | (refine Or.inr ?_; constructor <;> omega) | (refine Or.inl ?_; constructor <;> omega) | decide)
local macro_rules | `(tactic| walk_at "w") => `(tactic| first | rw [A3.sw_down (by assumption) (by omega)] | rw [A3.sw_runs (by assumption) (by omega)] | rw [A3.sw_off (by assumption) (by omega)] | rw [A3.sw_fell (by assumption) (by omega)] | rw [A3.sw_fin (by assumption) (by omega)] | rw [A3.sg_nil (by assumption) (by omega)] | rw [A3.sr_stop (by assumption)] | rw [A3.sr_bgn (by assumption)] | rw [A3.sr_gave (by assumption)] | rw [A3.sr_off (by assumption)] | rw [memY_sh (by assumption)] | rw [memY_sy] | rw [mem3_set (by assumption) (by assumption) (by assumption), mset_mset] | rw [mem3_set (by assumption) (by assumption) (by assumption)])
local macro_rules | `(tactic| walk_at "s") => `(tactic| first | (refine' ei _ ?_ ?_; rotate_left; (focus (first | walk_at "m" | rfl)); walk_at "s") | (refine And.intro ?_ ?_; (focus (walk_at "c")); walk_at "s") | (refine vlit_t ?_; walk_at "s") | (refine vlit_f ?_; walk_at "s") | (walk_at "w"; walk_at "s") | (try conv => whnf))
local macro_rules | `(tactic| walk_at "t") => `(tactic| first | (refine vif_t rfl ?_; walk_at "s") | (refine vif_f rfl ?_; walk_at "s") | (refine vif_t (by decide +kernel) ?_; walk_at "s") | (refine vif_f (by decide +kernel) ?_; walk_at "s"))

local macro_rules | `(tactic| walk_at "p") => `(tactic| (refine And.intro (by repeat (first | exact Nat.zero_lt_succ _ | refine putA_lt ?_)) ?_; walk_at "s"))
section
variable {N : Nat} {M : Mp} {Q : KQ} {X : KX} {t p : P} {tick d : Int} {L n : Nat} {s : St} {a w g r : Addr}
end
end Hd
set_option Elab.async false
set_option linter.all false
set_option maxRecDepth 100000
set_option maxHeartbeats 1000000
set_option pp.maxSteps 1200
/-! RJ: what is due of a deed told to a yard (k11). -/
namespace Hd
open PySem PySem.Spec PyProof.Rows L2 TT
local macro_rules | `(tactic| walk_at "m") => `(tactic| first | with_reducible exact mset_same | with_reducible assumption | (with_reducible refine' Nw.now ?_; rotate_right; assumption) | (with_reducible refine' Nw.gw ?_; rotate_right; assumption) | (with_reducible refine' Nw.gg ?_; rotate_right; assumption) | (with_reducible refine' Nw.gr ?_; rotate_right; assumption) | (with_reducible refine' Mw.mo ?_; rotate_right; assumption) | (with_reducible refine' Mw.gw ?_; rotate_right; assumption) | (with_reducible refine' Mw.gg ?_; rotate_right; assumption) | (with_reducible refine' Mw.gr ?_; rotate_right; assumption) | with_reducible exact memY_y | (with_reducible refine memY_h ?_; assumption) | with_reducible exact yard_plan | with_reducible exact yard_now | with_reducible exact yard_ahead | with_reducible exact now_tick | with_reducible exact now_words | with_reducible exact now_begun | with_reducible exact now_rows | with_reducible exact mom_plan | with_reducible exact mom_posts | with_reducible exact mom_rows_of | with_reducible exact mom_at | with_reducible exact mom_words | with_reducible exact mom_begun | with_reducible exact mom_done | (with_reducible refine at_words0 ?_; omega) | (with_reducible refine ix_words0 ?_; omega) | (with_reducible refine at_words ?_; (try dsimp only); omega) | (with_reducible refine at_begun ?_; (try dsimp only); omega) | (with_reducible refine ix_words ?_; (try dsimp only); omega) | (with_reducible refine ix_begun ?_; (try dsimp only); omega) | (with_reducible refine' at_ent ?_; rotate_right; assumption) | (with_reducible refine' at_post ?_; rotate_right; assumption) | (with_reducible refine' at_rowsF ?_; rotate_right; assumption) | (with_reducible refine Eq.trans (memY_o ?_ ?_) ?_; assumption; assumption; walk_at "m") | (with_reducible refine Eq.trans (mem3_o ?_ ?_ ?_) ?_; assumption; assumption; assumption; walk_at "m") | (with_reducible refine Eq.trans (mset_ne ?_) ?_; (first | assumption | (apply Ne.symm; assumption)); walk_at "m"))
local macro_rules | `(tactic| walk_at "c") => `(tactic| first | trivial | omega | assumption | (refine rows_lt ?_; (try dsimp only); omega) | (unfold momF; rfl) | (unfold yardF; rfl) | (refine' ei _ ?_ ?_; rotate_left; (focus (walk_at "m")); rfl) | (refine And.intro ?_ ?_ <;> first | omega | decide | assumption | exact isiC_of rfl | exact isiC_of (by assumption) | exact isiC_lst (by assumption)) | (refine Or.inr ?_; constructor <;> omega) | (refine Or.inl ?_; constructor <;> omega) | decide)
local macro_rules | `(tactic| walk_at "w") => `(tactic| first | rw [A3.sw_down (by assumption) (by omega)] | rw [A3.sw_runs (by assumption) (by omega)] | rw [A3.sw_off (by assumption) (by omega)] | rw [A3.sw_fell (by assumption) (by omega)] | rw [A3.sw_fin (by assumption) (by omega)] | rw [A3.sg_nil (by assumption) (by omega)] | rw [A3.sr_stop (by assumption)] | rw [A3.sr_bgn (by assumption)] | rw [A3.sr_gave (by assumption)] | rw [A3.sr_off (by assumption)] | rw [memY_sh (by assumption)] | rw [memY_sy] | rw [mem3_set (by assumption) (by assumption) (by assumption), mset_mset] | rw [mem3_set (by assumption) (by assumption) (by assumption)])
local macro_rules | `(tactic| walk_at "s") => `(tactic| first | (refine' ei _ ?_ ?_; rotate_left; (focus (first | walk_at "m" | rfl)); walk_at "s") | (refine And.intro ?_ ?_; (focus (walk_at "c")); walk_at "s") | (refine vlit_t ?_; walk_at "s") | (refine vlit_f ?_; walk_at "s") | (walk_at "w"; walk_at "s") | (try conv => whnf))
local macro_rules | `(tactic| walk_at "t") => `(tactic| first | (refine vif_t rfl ?_; walk_at "s") | (refine vif_f rfl ?_; walk_at "s") | (refine vif_t (by decide +kernel) ?_; walk_at "s") | (refine vif_f (by decide +kernel) ?_; walk_at "s"))

local macro_rules | `(tactic| walk_at "p") => `(tactic| (refine And.intro (by repeat (first | exact Nat.zero_lt_succ _ | refine putA_lt ?_)) ?_; walk_at "s"))
section
variable {N : Nat} {M : Mp} {Q : KQ} {X : KX} {t p : P} {tick d m : Int} {n : Nat} {s : St} {x : Wd} {a w g r : Addr}
end
end Hd
set_option Elab.async false
set_option linter.all false
set_option maxRecDepth 100000
set_option maxHeartbeats 1000000
set_option pp.maxSteps 1200
/-! R2: prices. -/
namespace Hd
open PySem PySem.Spec PyProof.Rows L2 TT
local macro_rules | `(tactic| walk_at "m") => `(tactic| first | with_reducible exact mset_same | with_reducible assumption | (with_reducible refine' Nw.now ?_; rotate_right; assumption) | (with_reducible refine' Nw.gw ?_; rotate_right; assumption) | (with_reducible refine' Nw.gg ?_; rotate_right; assumption) | (with_reducible refine' Nw.gr ?_; rotate_right; assumption) | (with_reducible refine' Mw.mo ?_; rotate_right; assumption) | (with_reducible refine' Mw.gw ?_; rotate_right; assumption) | (with_reducible refine' Mw.gg ?_; rotate_right; assumption) | (with_reducible refine' Mw.gr ?_; rotate_right; assumption) | with_reducible exact now_tick | with_reducible exact now_words | with_reducible exact now_begun | with_reducible exact now_rows | with_reducible exact mom_plan | with_reducible exact mom_posts | with_reducible exact mom_rows_of | with_reducible exact mom_at | with_reducible exact mom_words | with_reducible exact mom_begun | with_reducible exact mom_done | (with_reducible refine at_words0 ?_; omega) | (with_reducible refine ix_words0 ?_; omega) | (with_reducible refine at_words ?_; (try dsimp only); omega) | (with_reducible refine at_begun ?_; (try dsimp only); omega) | (with_reducible refine ix_words ?_; (try dsimp only); omega) | (with_reducible refine ix_begun ?_; (try dsimp only); omega) | (with_reducible refine' at_ent ?_; rotate_right; assumption) | (with_reducible refine' at_post ?_; rotate_right; assumption) | (with_reducible refine' at_rowsF ?_; rotate_right; assumption) | (with_reducible refine Eq.trans (mem3_o ?_ ?_ ?_) ?_; assumption; assumption; assumption; walk_at "m") | (with_reducible refine Eq.trans (mset_ne ?_) ?_; (first | assumption | (apply Ne.symm; assumption)); walk_at "m"))
local macro_rules | `(tactic| walk_at "c") => `(tactic| first | trivial | omega | assumption | (refine rows_lt ?_; (try dsimp only); omega) | (unfold momF; rfl) | (refine' ei _ ?_ ?_; rotate_left; (focus (walk_at "m")); rfl) | (refine And.intro ?_ ?_ <;> first | omega | decide | assumption | exact isiC_of rfl | exact isiC_of (by assumption) | exact isiC_lst (by assumption)) | (refine Or.inr ?_; constructor <;> omega) | (refine Or.inl ?_; constructor <;> omega) | decide)
local macro_rules | `(tactic| walk_at "w") => `(tactic| first | rw [A3.sw_down (by assumption) (by omega)] | rw [A3.sw_runs (by assumption) (by omega)] | rw [A3.sw_off (by assumption) (by omega)] | rw [A3.sw_fell (by assumption) (by omega)] | rw [A3.sw_fin (by assumption) (by omega)] | rw [A3.sg_nil (by assumption) (by omega)] | rw [A3.sr_stop (by assumption)] | rw [A3.sr_bgn (by assumption)] | rw [A3.sr_gave (by assumption)] | rw [A3.sr_off (by assumption)] | rw [mem3_set (by assumption) (by assumption) (by assumption), mset_mset] | rw [mem3_set (by assumption) (by assumption) (by assumption)])
local macro_rules | `(tactic| walk_at "s") => `(tactic| first | (refine' ei _ ?_ ?_; rotate_left; (focus (first | walk_at "m" | rfl)); walk_at "s") | (refine And.intro ?_ ?_; (focus (walk_at "c")); walk_at "s") | (refine vlit_t ?_; walk_at "s") | (refine vlit_f ?_; walk_at "s") | (walk_at "w"; walk_at "s") | (try conv => whnf))
local macro_rules | `(tactic| walk_at "t") => `(tactic| first | (refine vif_t rfl ?_; walk_at "s") | (refine vif_f rfl ?_; walk_at "s") | (refine vif_t (by decide +kernel) ?_; walk_at "s") | (refine vif_f (by decide +kernel) ?_; walk_at "s"))
mutual
def P.price : P → Option Int
  | .wk _ => some 1
  | .wt _ _ m _ ps => (P.prices ps).min?.map fun l => (m + 1) * l
def P.prices : List P → List Int
  | [] => []
  | p :: ps => if p.kind = .once then P.prices ps else (match p.price with
    | some v => v :: P.prices ps
    | none => P.prices ps)
end
section
variable {N : Nat} {M : Mp} {Q : KQ} {X : KX} {t p : P} {n : Nat} {m : Int}
end
end Hd
set_option Elab.async false
set_option linter.all false
set_option maxRecDepth 100000
set_option maxHeartbeats 1000000
set_option pp.maxSteps 1200
/-! R3: papers of prices. -/
namespace Hd
open PySem PySem.Spec PyProof.Rows L2 TT
local macro_rules | `(tactic| walk_at "m") => `(tactic| first | with_reducible exact mset_same | with_reducible assumption | (with_reducible refine' Nw.now ?_; rotate_right; assumption) | (with_reducible refine' Nw.gw ?_; rotate_right; assumption) | (with_reducible refine' Nw.gg ?_; rotate_right; assumption) | (with_reducible refine' Nw.gr ?_; rotate_right; assumption) | (with_reducible refine' Mw.mo ?_; rotate_right; assumption) | (with_reducible refine' Mw.gw ?_; rotate_right; assumption) | (with_reducible refine' Mw.gg ?_; rotate_right; assumption) | (with_reducible refine' Mw.gr ?_; rotate_right; assumption) | with_reducible exact now_tick | with_reducible exact now_words | with_reducible exact now_begun | with_reducible exact now_rows | with_reducible exact mom_plan | with_reducible exact mom_posts | with_reducible exact mom_rows_of | with_reducible exact mom_at | with_reducible exact mom_words | with_reducible exact mom_begun | with_reducible exact mom_done | (with_reducible refine at_words0 ?_; omega) | (with_reducible refine ix_words0 ?_; omega) | (with_reducible refine at_words ?_; (try dsimp only); omega) | (with_reducible refine at_begun ?_; (try dsimp only); omega) | (with_reducible refine ix_words ?_; (try dsimp only); omega) | (with_reducible refine ix_begun ?_; (try dsimp only); omega) | (with_reducible refine' at_ent ?_; rotate_right; assumption) | (with_reducible refine' at_post ?_; rotate_right; assumption) | (with_reducible refine' at_rowsF ?_; rotate_right; assumption) | (with_reducible refine Eq.trans (mem3_o ?_ ?_ ?_) ?_; assumption; assumption; assumption; walk_at "m") | (with_reducible refine Eq.trans (mset_ne ?_) ?_; (first | assumption | (apply Ne.symm; assumption)); walk_at "m"))
local macro_rules | `(tactic| walk_at "c") => `(tactic| first | trivial | omega | assumption | (refine rows_lt ?_; (try dsimp only); omega) | (unfold momF; rfl) | (refine' ei _ ?_ ?_; rotate_left; (focus (walk_at "m")); rfl) | (refine And.intro ?_ ?_ <;> first | omega | decide | assumption | exact isiC_of rfl | exact isiC_of (by assumption) | exact isiC_lst (by assumption)) | (refine Or.inr ?_; constructor <;> omega) | (refine Or.inl ?_; constructor <;> omega) | decide)
local macro_rules | `(tactic| walk_at "w") => `(tactic| first | rw [A3.sw_down (by assumption) (by omega)] | rw [A3.sw_runs (by assumption) (by omega)] | rw [A3.sw_off (by assumption) (by omega)] | rw [A3.sw_fell (by assumption) (by omega)] | rw [A3.sw_fin (by assumption) (by omega)] | rw [A3.sg_nil (by assumption) (by omega)] | rw [A3.sr_stop (by assumption)] | rw [A3.sr_bgn (by assumption)] | rw [A3.sr_gave (by assumption)] | rw [A3.sr_off (by assumption)] | rw [mem3_set (by assumption) (by assumption) (by assumption), mset_mset] | rw [mem3_set (by assumption) (by assumption) (by assumption)])
local macro_rules | `(tactic| walk_at "s") => `(tactic| first | (refine' ei _ ?_ ?_; rotate_left; (focus (first | walk_at "m" | rfl)); walk_at "s") | (refine And.intro ?_ ?_; (focus (walk_at "c")); walk_at "s") | (refine vlit_t ?_; walk_at "s") | (refine vlit_f ?_; walk_at "s") | (walk_at "w"; walk_at "s") | (try conv => whnf))
local macro_rules | `(tactic| walk_at "t") => `(tactic| first | (refine vif_t rfl ?_; walk_at "s") | (refine vif_f rfl ?_; walk_at "s") | (refine vif_t (by decide +kernel) ?_; walk_at "s") | (refine vif_f (by decide +kernel) ?_; walk_at "s"))
def isTup : D → Bool
  | .tup _ => true
  | _ => false
section
variable {N : Nat} {M : Mp} {Q : KQ} {X : KX} {t p : P} {n : Nat} {m : Int}
theorem isT_int : ∀ x : D, isT "int" x = (match x with
    | .int _ => true
    | .bl _ => true
    | _ => false)
  | .non => rfl | .bl _ => rfl | .int _ => rfl | .str _ => rfl | .tup _ => rfl | .lst _ => rfl | .scr _ => rfl | .ref _ => rfl
theorem isT_bool : ∀ x : D, isT "bool" x = (match x with
    | .bl _ => true
    | _ => false)
  | .non => rfl | .bl _ => rfl | .int _ => rfl | .str _ => rfl | .tup _ => rfl | .lst _ => rfl | .scr _ => rfl | .ref _ => rfl
theorem isT_str : ∀ x : D, isT "str" x = (match x with
    | .str _ => true
    | _ => false)
  | .non => rfl | .bl _ => rfl | .int _ => rfl | .str _ => rfl | .tup _ => rfl | .lst _ => rfl | .scr _ => rfl | .ref _ => rfl
theorem isT_tuple : ∀ x : D, isT "tuple" x = isTup x
  | .non => rfl | .bl _ => rfl | .int _ => rfl | .str _ => rfl | .tup _ => rfl | .lst _ => rfl | .scr _ => rfl | .ref _ => rfl
end
end Hd
set_option Elab.async false
set_option linter.all false
set_option maxRecDepth 100000
set_option maxHeartbeats 1000000
set_option pp.maxSteps 1200
/-! RK: things that are no trees, as a yard's (k11). -/
namespace Hd
open PySem PySem.Spec PyProof.Rows L2 TT
local macro_rules | `(tactic| walk_at "m") => `(tactic| first | with_reducible exact mset_same | with_reducible assumption | (with_reducible refine' Nw.now ?_; rotate_right; assumption) | (with_reducible refine' Nw.gw ?_; rotate_right; assumption) | (with_reducible refine' Nw.gg ?_; rotate_right; assumption) | (with_reducible refine' Nw.gr ?_; rotate_right; assumption) | (with_reducible refine' Mw.mo ?_; rotate_right; assumption) | (with_reducible refine' Mw.gw ?_; rotate_right; assumption) | (with_reducible refine' Mw.gg ?_; rotate_right; assumption) | (with_reducible refine' Mw.gr ?_; rotate_right; assumption) | with_reducible exact memY_y | (with_reducible refine memY_h ?_; assumption) | with_reducible exact yard_plan | with_reducible exact yard_now | with_reducible exact yard_ahead | with_reducible exact now_tick | with_reducible exact now_words | with_reducible exact now_begun | with_reducible exact now_rows | with_reducible exact mom_plan | with_reducible exact mom_posts | with_reducible exact mom_rows_of | with_reducible exact mom_at | with_reducible exact mom_words | with_reducible exact mom_begun | with_reducible exact mom_done | (with_reducible refine at_words0 ?_; omega) | (with_reducible refine ix_words0 ?_; omega) | (with_reducible refine at_words ?_; (try dsimp only); omega) | (with_reducible refine at_begun ?_; (try dsimp only); omega) | (with_reducible refine ix_words ?_; (try dsimp only); omega) | (with_reducible refine ix_begun ?_; (try dsimp only); omega) | (with_reducible refine' at_ent ?_; rotate_right; assumption) | (with_reducible refine' at_post ?_; rotate_right; assumption) | (with_reducible refine' at_rowsF ?_; rotate_right; assumption) | (with_reducible refine Eq.trans (memY_o ?_ ?_) ?_; assumption; assumption; walk_at "m") | (with_reducible refine Eq.trans (mem3_o ?_ ?_ ?_) ?_; assumption; assumption; assumption; walk_at "m") | (with_reducible refine Eq.trans (mset_ne ?_) ?_; (first | assumption | (apply Ne.symm; assumption)); walk_at "m"))
local macro_rules | `(tactic| walk_at "c") => `(tactic| first | trivial | omega | assumption | (refine rows_lt ?_; (try dsimp only); omega) | (unfold momF; rfl) | (unfold yardF; rfl) | (refine' ei _ ?_ ?_; rotate_left; (focus (walk_at "m")); rfl) | (refine And.intro ?_ ?_ <;> first | omega | decide | assumption | exact isiC_of rfl | exact isiC_of (by assumption) | exact isiC_lst (by assumption)) | (refine Or.inr ?_; constructor <;> omega) | (refine Or.inl ?_; constructor <;> omega) | decide)
local macro_rules | `(tactic| walk_at "w") => `(tactic| first | rw [A3.sw_down (by assumption) (by omega)] | rw [A3.sw_runs (by assumption) (by omega)] | rw [A3.sw_off (by assumption) (by omega)] | rw [A3.sw_fell (by assumption) (by omega)] | rw [A3.sw_fin (by assumption) (by omega)] | rw [A3.sg_nil (by assumption) (by omega)] | rw [A3.sr_stop (by assumption)] | rw [A3.sr_bgn (by assumption)] | rw [A3.sr_gave (by assumption)] | rw [A3.sr_off (by assumption)] | rw [memY_sh (by assumption)] | rw [memY_sy] | rw [mem3_set (by assumption) (by assumption) (by assumption), mset_mset] | rw [mem3_set (by assumption) (by assumption) (by assumption)])
local macro_rules | `(tactic| walk_at "s") => `(tactic| first | (refine' ei _ ?_ ?_; rotate_left; (focus (first | walk_at "m" | rfl)); walk_at "s") | (refine And.intro ?_ ?_; (focus (walk_at "c")); walk_at "s") | (refine vlit_t ?_; walk_at "s") | (refine vlit_f ?_; walk_at "s") | (walk_at "w"; walk_at "s") | (try conv => whnf))
local macro_rules | `(tactic| walk_at "t") => `(tactic| first | (refine vif_t rfl ?_; walk_at "s") | (refine vif_f rfl ?_; walk_at "s") | (refine vif_t (by decide +kernel) ?_; walk_at "s") | (refine vif_f (by decide +kernel) ?_; walk_at "s"))

local macro_rules | `(tactic| walk_at "p") => `(tactic| (refine And.intro (by repeat (first | exact Nat.zero_lt_succ _ | refine putA_lt ?_)) ?_; walk_at "s"))
section
variable {N : Nat} {M : Mp} {Q : KQ} {X : KX} {d : D} {k : Int}
end
end Hd
set_option Elab.async false
set_option linter.all false
set_option maxRecDepth 100000
set_option maxHeartbeats 1000000
set_option pp.maxSteps 1200
/-! RF: what is due of a paper, as the law has it (k16). -/
namespace Hd
open PySem PySem.Spec PyProof.Rows L2 TT
local macro_rules | `(tactic| walk_at "m") => `(tactic| first | with_reducible exact mset_same | with_reducible assumption | (with_reducible refine' Nw.now ?_; rotate_right; assumption) | (with_reducible refine' Nw.gw ?_; rotate_right; assumption) | (with_reducible refine' Nw.gg ?_; rotate_right; assumption) | (with_reducible refine' Nw.gr ?_; rotate_right; assumption) | (with_reducible refine' Mw.mo ?_; rotate_right; assumption) | (with_reducible refine' Mw.gw ?_; rotate_right; assumption) | (with_reducible refine' Mw.gg ?_; rotate_right; assumption) | (with_reducible refine' Mw.gr ?_; rotate_right; assumption) | with_reducible exact memY_y | (with_reducible refine memY_h ?_; assumption) | with_reducible exact yard_plan | with_reducible exact yard_now | with_reducible exact yard_ahead | with_reducible exact now_tick | with_reducible exact now_words | with_reducible exact now_begun | with_reducible exact now_rows | with_reducible exact mom_plan | with_reducible exact mom_posts | with_reducible exact mom_rows_of | with_reducible exact mom_at | with_reducible exact mom_words | with_reducible exact mom_begun | with_reducible exact mom_done | (with_reducible refine at_words0 ?_; omega) | (with_reducible refine ix_words0 ?_; omega) | (with_reducible refine at_words ?_; (try dsimp only); omega) | (with_reducible refine at_begun ?_; (try dsimp only); omega) | (with_reducible refine ix_words ?_; (try dsimp only); omega) | (with_reducible refine ix_begun ?_; (try dsimp only); omega) | (with_reducible refine' at_ent ?_; rotate_right; assumption) | (with_reducible refine' at_post ?_; rotate_right; assumption) | (with_reducible refine' at_rowsF ?_; rotate_right; assumption) | (with_reducible refine Eq.trans (memY_o ?_ ?_) ?_; assumption; assumption; walk_at "m") | (with_reducible refine Eq.trans (mem3_o ?_ ?_ ?_) ?_; assumption; assumption; assumption; walk_at "m") | (with_reducible refine Eq.trans (mset_ne ?_) ?_; (first | assumption | (apply Ne.symm; assumption)); walk_at "m"))
local macro_rules | `(tactic| walk_at "c") => `(tactic| first | trivial | omega | assumption | (refine rows_lt ?_; (try dsimp only); omega) | (unfold momF; rfl) | (unfold yardF; rfl) | (refine' ei _ ?_ ?_; rotate_left; (focus (walk_at "m")); rfl) | (refine And.intro ?_ ?_ <;> first | omega | decide | assumption | exact isiC_of rfl | exact isiC_of (by assumption) | exact isiC_lst (by assumption)) | (refine Or.inr ?_; constructor <;> omega) | (refine Or.inl ?_; constructor <;> omega) | decide)
local macro_rules | `(tactic| walk_at "w") => `(tactic| first | rw [A3.sw_down (by assumption) (by omega)] | rw [A3.sw_runs (by assumption) (by omega)] | rw [A3.sw_off (by assumption) (by omega)] | rw [A3.sw_fell (by assumption) (by omega)] | rw [A3.sw_fin (by assumption) (by omega)] | rw [A3.sg_nil (by assumption) (by omega)] | rw [A3.sr_stop (by assumption)] | rw [A3.sr_bgn (by assumption)] | rw [A3.sr_gave (by assumption)] | rw [A3.sr_off (by assumption)] | rw [memY_sh (by assumption)] | rw [memY_sy] | rw [mem3_set (by assumption) (by assumption) (by assumption), mset_mset] | rw [mem3_set (by assumption) (by assumption) (by assumption)])
local macro_rules | `(tactic| walk_at "s") => `(tactic| first | (refine' ei _ ?_ ?_; rotate_left; (focus (first | walk_at "m" | rfl)); walk_at "s") | (refine And.intro ?_ ?_; (focus (walk_at "c")); walk_at "s") | (refine vlit_t ?_; walk_at "s") | (refine vlit_f ?_; walk_at "s") | (walk_at "w"; walk_at "s") | (try conv => whnf))
local macro_rules | `(tactic| walk_at "t") => `(tactic| first | (refine vif_t rfl ?_; walk_at "s") | (refine vif_f rfl ?_; walk_at "s") | (refine vif_t (by decide +kernel) ?_; walk_at "s") | (refine vif_f (by decide +kernel) ?_; walk_at "s"))

local macro_rules | `(tactic| walk_at "p") => `(tactic| (refine And.intro (by repeat (first | exact Nat.zero_lt_succ _ | refine putA_lt ?_)) ?_; walk_at "s"))
section
variable {N : Nat} {M : Mp} {Q : KQ} {X : KX} {t p : P} {n : Nat} {m : Int}
end
end Hd
set_option Elab.async false
set_option linter.all false
set_option maxRecDepth 100000
set_option maxHeartbeats 1000000
set_option pp.maxSteps 1200
/-! R4: the told paper holds. -/
namespace Hd
open PySem PySem.Spec PyProof.Rows L2 TT
end Hd
set_option Elab.async false
set_option linter.all false
set_option maxRecDepth 100000
set_option maxHeartbeats 1000000
set_option pp.maxSteps 1200
/-! RG: papers spoilt (k16). -/
namespace Hd
open PySem PySem.Spec PyProof.Rows L2 TT
local macro_rules | `(tactic| walk_at "m") => `(tactic| first | with_reducible exact mset_same | with_reducible assumption | (with_reducible refine' Nw.now ?_; rotate_right; assumption) | (with_reducible refine' Nw.gw ?_; rotate_right; assumption) | (with_reducible refine' Nw.gg ?_; rotate_right; assumption) | (with_reducible refine' Nw.gr ?_; rotate_right; assumption) | (with_reducible refine' Mw.mo ?_; rotate_right; assumption) | (with_reducible refine' Mw.gw ?_; rotate_right; assumption) | (with_reducible refine' Mw.gg ?_; rotate_right; assumption) | (with_reducible refine' Mw.gr ?_; rotate_right; assumption) | with_reducible exact memY_y | (with_reducible refine memY_h ?_; assumption) | with_reducible exact yard_plan | with_reducible exact yard_now | with_reducible exact yard_ahead | with_reducible exact now_tick | with_reducible exact now_words | with_reducible exact now_begun | with_reducible exact now_rows | with_reducible exact mom_plan | with_reducible exact mom_posts | with_reducible exact mom_rows_of | with_reducible exact mom_at | with_reducible exact mom_words | with_reducible exact mom_begun | with_reducible exact mom_done | (with_reducible refine at_words0 ?_; omega) | (with_reducible refine ix_words0 ?_; omega) | (with_reducible refine at_words ?_; (try dsimp only); omega) | (with_reducible refine at_begun ?_; (try dsimp only); omega) | (with_reducible refine ix_words ?_; (try dsimp only); omega) | (with_reducible refine ix_begun ?_; (try dsimp only); omega) | (with_reducible refine' at_ent ?_; rotate_right; assumption) | (with_reducible refine' at_post ?_; rotate_right; assumption) | (with_reducible refine' at_rowsF ?_; rotate_right; assumption) | (with_reducible refine Eq.trans (memY_o ?_ ?_) ?_; assumption; assumption; walk_at "m") | (with_reducible refine Eq.trans (mem3_o ?_ ?_ ?_) ?_; assumption; assumption; assumption; walk_at "m") | (with_reducible refine Eq.trans (mset_ne ?_) ?_; (first | assumption | (apply Ne.symm; assumption)); walk_at "m"))
local macro_rules | `(tactic| walk_at "c") => `(tactic| first | trivial | omega | assumption | (refine rows_lt ?_; (try dsimp only); omega) | (unfold momF; rfl) | (unfold yardF; rfl) | (refine' ei _ ?_ ?_; rotate_left; (focus (walk_at "m")); rfl) | (refine And.intro ?_ ?_ <;> first | omega | decide | assumption | exact isiC_of rfl | exact isiC_of (by assumption) | exact isiC_lst (by assumption)) | (refine Or.inr ?_; constructor <;> omega) | (refine Or.inl ?_; constructor <;> omega) | decide)
local macro_rules | `(tactic| walk_at "w") => `(tactic| first | rw [A3.sw_down (by assumption) (by omega)] | rw [A3.sw_runs (by assumption) (by omega)] | rw [A3.sw_off (by assumption) (by omega)] | rw [A3.sw_fell (by assumption) (by omega)] | rw [A3.sw_fin (by assumption) (by omega)] | rw [A3.sg_nil (by assumption) (by omega)] | rw [A3.sr_stop (by assumption)] | rw [A3.sr_bgn (by assumption)] | rw [A3.sr_gave (by assumption)] | rw [A3.sr_off (by assumption)] | rw [memY_sh (by assumption)] | rw [memY_sy] | rw [mem3_set (by assumption) (by assumption) (by assumption), mset_mset] | rw [mem3_set (by assumption) (by assumption) (by assumption)])
local macro_rules | `(tactic| walk_at "s") => `(tactic| first | (refine' ei _ ?_ ?_; rotate_left; (focus (first | walk_at "m" | rfl)); walk_at "s") | (refine And.intro ?_ ?_; (focus (walk_at "c")); walk_at "s") | (refine vlit_t ?_; walk_at "s") | (refine vlit_f ?_; walk_at "s") | (walk_at "w"; walk_at "s") | (try conv => whnf))
local macro_rules | `(tactic| walk_at "t") => `(tactic| first | (refine vif_t rfl ?_; walk_at "s") | (refine vif_f rfl ?_; walk_at "s") | (refine vif_t (by decide +kernel) ?_; walk_at "s") | (refine vif_f (by decide +kernel) ?_; walk_at "s"))

local macro_rules | `(tactic| walk_at "p") => `(tactic| (refine And.intro (by repeat (first | exact Nat.zero_lt_succ _ | refine putA_lt ?_)) ?_; walk_at "s"))
section
variable {N : Nat} {M : Mp} {Q : KQ} {X : KX} {t p : P} {n : Nat} {m : Int} {b : Addr} {c e : Int}
theorem cut_mem {ps : List D} {lo hi : Option Int} {x : D} (h : x ∈ TT.cutD ps lo hi) : x ∈ ps := by
  unfold TT.cutD at h
  exact List.mem_of_mem_drop (List.mem_of_mem_take h)
end
end Hd
set_option Elab.async false
set_option linter.all false
set_option maxRecDepth 100000
set_option maxHeartbeats 1000000
set_option pp.maxSteps 1200
/-! KK: what is a tree, of anything (k01). -/
namespace Hd
open PySem PySem.Spec PyProof.Rows L2 TT
local macro_rules | `(tactic| walk_at "m") => `(tactic| first | with_reducible exact mset_same | with_reducible assumption | (with_reducible refine' Nw.now ?_; rotate_right; assumption) | (with_reducible refine' Nw.gw ?_; rotate_right; assumption) | (with_reducible refine' Nw.gg ?_; rotate_right; assumption) | (with_reducible refine' Nw.gr ?_; rotate_right; assumption) | (with_reducible refine' Mw.mo ?_; rotate_right; assumption) | (with_reducible refine' Mw.gw ?_; rotate_right; assumption) | (with_reducible refine' Mw.gg ?_; rotate_right; assumption) | (with_reducible refine' Mw.gr ?_; rotate_right; assumption) | with_reducible exact memY_y | (with_reducible refine memY_h ?_; assumption) | with_reducible exact yard_plan | with_reducible exact yard_now | with_reducible exact yard_ahead | with_reducible exact now_tick | with_reducible exact now_words | with_reducible exact now_begun | with_reducible exact now_rows | with_reducible exact mom_plan | with_reducible exact mom_posts | with_reducible exact mom_rows_of | with_reducible exact mom_at | with_reducible exact mom_words | with_reducible exact mom_begun | with_reducible exact mom_done | (with_reducible refine at_words0 ?_; omega) | (with_reducible refine ix_words0 ?_; omega) | (with_reducible refine at_words ?_; (try dsimp only); omega) | (with_reducible refine at_begun ?_; (try dsimp only); omega) | (with_reducible refine ix_words ?_; (try dsimp only); omega) | (with_reducible refine ix_begun ?_; (try dsimp only); omega) | (with_reducible refine' at_ent ?_; rotate_right; assumption) | (with_reducible refine' at_post ?_; rotate_right; assumption) | (with_reducible refine' at_rowsF ?_; rotate_right; assumption) | (with_reducible refine Eq.trans (memY_o ?_ ?_) ?_; assumption; assumption; walk_at "m") | (with_reducible refine Eq.trans (mem3_o ?_ ?_ ?_) ?_; assumption; assumption; assumption; walk_at "m") | (with_reducible refine Eq.trans (mset_ne ?_) ?_; (first | assumption | (apply Ne.symm; assumption)); walk_at "m"))
local macro_rules | `(tactic| walk_at "c") => `(tactic| first | trivial | omega | assumption | (refine rows_lt ?_; (try dsimp only); omega) | (unfold momF; rfl) | (unfold yardF; rfl) | (refine' ei _ ?_ ?_; rotate_left; (focus (walk_at "m")); rfl) | (refine And.intro ?_ ?_ <;> first | omega | decide | assumption | exact isiC_of rfl | exact isiC_of (by assumption) | exact isiC_lst (by assumption)) | (refine Or.inr ?_; constructor <;> omega) | (refine Or.inl ?_; constructor <;> omega) | decide)
local macro_rules | `(tactic| walk_at "w") => `(tactic| first | rw [A3.sw_down (by assumption) (by omega)] | rw [A3.sw_runs (by assumption) (by omega)] | rw [A3.sw_off (by assumption) (by omega)] | rw [A3.sw_fell (by assumption) (by omega)] | rw [A3.sw_fin (by assumption) (by omega)] | rw [A3.sg_nil (by assumption) (by omega)] | rw [A3.sr_stop (by assumption)] | rw [A3.sr_bgn (by assumption)] | rw [A3.sr_gave (by assumption)] | rw [A3.sr_off (by assumption)] | rw [memY_sh (by assumption)] | rw [memY_sy] | rw [mem3_set (by assumption) (by assumption) (by assumption), mset_mset] | rw [mem3_set (by assumption) (by assumption) (by assumption)])
local macro_rules | `(tactic| walk_at "s") => `(tactic| first | (refine' ei _ ?_ ?_; rotate_left; (focus (first | walk_at "m" | rfl)); walk_at "s") | (refine And.intro ?_ ?_; (focus (walk_at "c")); walk_at "s") | (refine vlit_t ?_; walk_at "s") | (refine vlit_f ?_; walk_at "s") | (walk_at "w"; walk_at "s") | (try conv => whnf))
local macro_rules | `(tactic| walk_at "t") => `(tactic| first | (refine vif_t rfl ?_; walk_at "s") | (refine vif_f rfl ?_; walk_at "s") | (refine vif_t (by decide +kernel) ?_; walk_at "s") | (refine vif_f (by decide +kernel) ?_; walk_at "s"))

local macro_rules | `(tactic| walk_at "p") => `(tactic| (refine And.intro (by repeat (first | exact Nat.zero_lt_succ _ | refine putA_lt ?_)) ?_; walk_at "s"))
def zWhole : D → Bool
  | .int _ => true
  | _ => false
def zOne (ws : List Str) : D → Bool
  | .str s => ws.contains s
  | _ => false
theorem ok_nref {k : Nat} {x : D} (h : okD k x = true) : notRef x = true := by
  cases x <;> first | rfl | (unfold okD at h; cases h)
theorem flat_strs : ∀ ws : List Str, (ws.map D.str).all flatD = true
  | [] => rfl
  | _ :: ws => by rw [List.map_cons, List.all_cons, flat_strs ws]; rfl
theorem inD_strs {s : Str} : ∀ ws : List Str, inD (.str s) (ws.map D.str) = ws.contains s
  | [] => rfl
  | w :: ws => by
    have e : inD (.str s) ((w :: ws).map D.str) = ((w == s) || inD (.str s) (ws.map D.str)) := rfl
    rw [e, inD_strs ws, List.contains_cons]
    congr 1
    by_cases h : w = s
    · subst h; simp
    · rw [beq_eq_false_iff_ne.mpr h, beq_eq_false_iff_ne.mpr (fun e => h e.symm)]
def zKinds : List Str := [w_always, w_fault, w_once]
def zWays : List Str := [w_one, w_all, w_behind]
def zIs (s : Str) : D → Bool
  | .str z => decide (z = s)
  | _ => false
def zWorker : D → Bool
  | .tup [a, b] => zIs w_worker a && zOne zKinds b
  | _ => false
theorem ok_tup {k : Nat} {xs : List D} (h : okD k (.tup xs) = true) : okDs (k - 1) xs = true := by
  unfold okD at h
  cases k with
  | zero => cases h
  | succ k => exact h
theorem ok_cons {k : Nat} {x : D} {xs : List D} : okDs k (x :: xs) = true ↔ okD k x = true ∧ okDs k xs = true := by
  have e : okDs k (x :: xs) = (okD k x && okDs k xs) := by cases xs <;> simp [okDs]
  rw [e, Bool.and_eq_true]
theorem zIs_eq {s : Str} {d : D} (h : zIs s d = true) : d = .str s := by
  cases d <;> first | (cases h; done) | (rw [of_decide_eq_true h])
section
variable {N : Nat} {M : Mp} {Q : KQ} {X : KX}
theorem sp_is_whole_g {x : D} (hx : okD 60 x = true) (hN : 1 ≤ N) (q : Q (.bl (zWhole x)) M) : callI T N 0 [x] M Q X := by
  have hnr := ok_nref hx
  refine call_v (N := N) (n := N - 1) (np := 1) (nn := 1) (b := b0) (ρ := [some (x)]) (by omega) T0 rfl rfl ?_
  walk_at "s"
  rw [isT_int]
  cases x with
  | int i =>
    refine vif_t rfl ?_
    walk_at "s"
    rw [isT_bool]
    exact ve q
  | bl b =>
    refine vif_t rfl ?_
    walk_at "s"
    rw [isT_bool]
    exact ve q
  | ref => cases hnr
  | _ =>
    refine vif_f rfl ?_
    exact ve q
theorem sp_is_one_of_g {x : D} {ws : List Str} (hx : okD 60 x = true) (hN : 1 ≤ N) (q : Q (.bl (zOne ws x)) M) : callI T N 1 [x, .tup (ws.map .str)] M Q X := by
  have hnr := ok_nref hx
  refine call_v (N := N) (n := N - 1) (np := 2) (nn := 2) (b := b1) (ρ := [some (x), some (.tup (ws.map .str))]) (by omega) T1 rfl rfl ?_
  walk_at "s"
  rw [isT_str]
  cases x with
  | str s =>
    refine vif_t rfl ?_
    walk_at "s"
    refine And.intro ⟨rfl, flat_strs ws⟩ ?_
    rw [inD_strs]
    exact ve q
  | ref => cases hnr
  | _ =>
    refine vif_f rfl ?_
    exact ve q
theorem sp_is_worker_g {x : D} (hx : okD 60 x = true) (hN : 2 ≤ N) (q : Q (.bl (zWorker x)) M) : callI T N 2 [x] M Q X := by
  have hnr := ok_nref hx
  refine call_v (N := N) (n := N - 1) (np := 1) (nn := 1) (b := b2) (ρ := [some (x)]) (by omega) T2 rfl rfl ?_
  walk_at "s"
  rw [isT_tuple]
  cases x with
  | tup xs =>
    refine vif_t rfl ?_
    walk_at "s"
    match xs, hx, q with
    | [a, b], hx, q =>
      have hd := ok_tup hx
      simp only [ok_cons] at hd
      walk_at "s"
      have e : zWorker (.tup [a, b]) = (zIs w_worker a && zOne zKinds b) := rfl
      rw [e] at q
      by_cases h : zIs w_worker a = true
      · rw [h] at q
        obtain rfl := zIs_eq h
        refine vif_t (by decide +kernel) ?_
        walk_at "s"
        refine sp_is_one_of_g (ws := zKinds) (okD_mono b hd.2.1 (by omega)) (by omega) ?_
        exact ve q
      · rw [Bool.not_eq_true] at h
        rw [h] at q
        cases a with
        | str s =>
          refine vif_f h ?_
          exact ve q
        | ref => cases hd.1
        | _ =>
          refine And.intro ⟨okD_mono _ hd.1 (by omega), by decide +kernel⟩ ?_
          refine vif_f rfl ?_
          exact ve q
    | [], hx, q => exact vif_f rfl (ve q)
    | [_], hx, q => exact vif_f rfl (ve q)
    | _ :: _ :: _ :: r, hx, q => exact vif_f (by rw [decide_eq_false (by simp only [List.length_cons]; omega)]; rfl) (ve q)
  | ref => cases hnr
  | _ =>
    refine vif_f rfl ?_
    exact ve q
def zR (lo hi : Int) : D → Bool
  | .int i => decide (lo ≤ i) && decide (i ≤ hi)
  | _ => false
def tupL : D → List D
  | .tup xs => xs
  | _ => []
def zFormW (p : D → Bool) : D → Bool
  | .tup [w, kind, way, most, within, posts] => zIs w_watcher w && (zOne zKinds kind && (zOne zWays way && (zWhole most && (zWhole within && (zR 0 20 most && (zR 1 100 within && (isTup posts && (decide ((tupL posts).length ≤ 8) && (tupL posts).all p))))))))
  | _ => false
def zForm : Nat → D → Bool
  | 0, d => zWorker d
  | k + 1, d => zWorker d || zFormW (zForm k) d
theorem zFormW_6 {p : D → Bool} {w kind way most within posts : D} : zFormW p (.tup [w, kind, way, most, within, posts]) = (zIs w_watcher w && (zOne zKinds kind && (zOne zWays way && (zWhole most && (zWhole within && (zR 0 20 most && (zR 1 100 within && (isTup posts && (decide ((tupL posts).length ≤ 8) && (tupL posts).all p))))))))) := rfl
theorem zFormW_n {p : D → Bool} {xs : List D} (h : xs.length ≠ 6) : zFormW p (.tup xs) = false := by
  match xs, h with
  | [], _ => rfl
  | [_], _ => rfl
  | [_, _], _ => rfl
  | [_, _, _], _ => rfl
  | [_, _, _, _], _ => rfl
  | [_, _, _, _, _], _ => rfl
  | [_, _, _, _, _, _], h => exact absurd rfl h
  | _ :: _ :: _ :: _ :: _ :: _ :: _ :: _, _ => rfl
theorem len6 {xs : List D} (h : xs.length = 6) : ∃ a b c d e f, xs = [a, b, c, d, e, f] := by
  match xs, h with
  | [a, b, c, d, e, f], _ => exact ⟨a, b, c, d, e, f, rfl⟩
theorem zW_tup {d : D} (h : isTup d = false) : zWorker d = false ∧ ∀ p, zFormW p d = false := by
  cases d <;> first | exact ⟨rfl, fun _ => rfl⟩ | cases h
theorem sp_has_form_g : ∀ (k : Nat) {N : Nat} {M : Mp} {Q : KQ} {X : KX} {d : D}, okD 60 d = true → k ≤ 6 → k + 3 ≤ N → Q (.bl (zForm k d)) M → callI T N 3 [d, .int (k : Nat)] M Q X := by
  intro k
  induction k with
  | zero => ?_
  | succ k ih => ?_
  all_goals
    intro N M Q X d hd hk hN q
    have hnr := ok_nref hd
  · refine call_v (N := N) (n := N - 1) (np := 2) (nn := 9) (b := b3) (ρ := [some (d), some (.int ((0 : Nat) : Int)), none, none, none, none, none, none, none]) (by omega) T3 rfl rfl ?_
    walk_at "s"
    refine sp_is_worker_g hd (by omega) ?_
    have e : zForm 0 d = zWorker d := rfl
    rw [e] at q
    by_cases hw : zWorker d = true
    · rw [hw] at q ⊢
      walk_at "s"
      exact ve q
    · rw [Bool.not_eq_true] at hw
      rw [hw] at q ⊢
      walk_at "s"
      rw [isT_tuple]
      by_cases ht : isTup d = true
      · rw [ht]
        obtain ⟨xs, rfl⟩ : ∃ xs, d = .tup xs := by cases d <;> first | exact ⟨_, rfl⟩ | cases ht
        refine vif_f rfl ?_
        walk_at "s"
        by_cases h6 : xs.length = 6
        · obtain ⟨a, b, c, d, e, f, rfl⟩ := len6 h6
          refine vif_f rfl ?_
          have hx := ok_tup hd
          simp only [ok_cons] at hx
          walk_at "s"
          by_cases hz : zIs w_watcher a = true
          · obtain rfl := zIs_eq hz
            refine vif_f (by decide +kernel) ?_
            walk_at "s"
            exact ve q
          · rw [Bool.not_eq_true] at hz
            cases a with
            | str s =>
              refine vif_t (by rw [show decide (s = w_watcher) = false from hz]; rfl) ?_
              walk_at "s"
              exact ve q
            | ref => cases hx.1
            | _ =>
              refine And.intro ⟨okD_mono _ hx.1 (by omega), by decide +kernel⟩ ?_
              refine vif_t rfl ?_
              walk_at "s"
              exact ve q
        · refine vif_t (by rw [decide_eq_false (by omega)]; rfl) ?_
          walk_at "s"
          exact ve q
      · rw [Bool.not_eq_true] at ht
        rw [ht]
        refine vif_t rfl ?_
        walk_at "s"
        exact ve q
  · have e0 : zForm (k + 1) d = (zWorker d || zFormW (zForm k) d) := rfl
    rw [e0] at q
    refine call_v (N := N) (n := N - 1) (np := 2) (nn := 9) (b := b3) (ρ := [some (d), some (.int ((k + 1 : Nat) : Int)), none, none, none, none, none, none, none]) (by omega) T3 rfl rfl ?_
    walk_at "s"
    refine sp_is_worker_g hd (by omega) ?_
    by_cases hw : zWorker d = true
    · rw [hw] at q ⊢
      walk_at "s"
      exact ve q
    rw [Bool.not_eq_true] at hw
    rw [hw, Bool.false_or] at q
    rw [hw]
    walk_at "s"
    rw [isT_tuple]
    by_cases ht : isTup d = true
    · rw [ht]
      obtain ⟨xs, rfl⟩ : ∃ xs, d = .tup xs := by cases d <;> first | exact ⟨_, rfl⟩ | cases ht
      refine vif_f rfl ?_
      walk_at "s"
      by_cases h6 : xs.length = 6
      · obtain ⟨a, b, c, d, e, f, rfl⟩ := len6 h6
        refine vif_f rfl ?_
        have hx := ok_tup hd
        simp only [ok_cons] at hx
        obtain ⟨x1, x2, x3, x4, x5, x6, -⟩ := hx
        have y1 := okD_mono a x1 (show 60 - 1 ≤ 60 by omega)
        have y2 := okD_mono b x2 (show 60 - 1 ≤ 60 by omega)
        have y3 := okD_mono c x3 (show 60 - 1 ≤ 60 by omega)
        have y4 := okD_mono d x4 (show 60 - 1 ≤ 60 by omega)
        have y5 := okD_mono e x5 (show 60 - 1 ≤ 60 by omega)
        have y6 := okD_mono f x6 (show 60 - 1 ≤ 60 by omega)
        rw [zFormW_6] at q
        walk_at "s"
        by_cases hz : zIs w_watcher a = true
        · rw [hz, Bool.true_and] at q
          obtain rfl := zIs_eq hz
          refine vif_f (by decide +kernel) ?_
          walk_at "s"
          refine sp_is_one_of_g (ws := zKinds) y2 (by omega) ?_
          by_cases hb : zOne zKinds b = true
          rotate_left
          · rw [Bool.not_eq_true] at hb
            rw [hb] at q ⊢
            walk_at "s"
            exact ve q
          rw [hb, Bool.true_and] at q
          rw [hb]
          walk_at "s"
          refine sp_is_one_of_g (ws := zWays) y3 (by omega) ?_
          by_cases hc : zOne zWays c = true
          rotate_left
          · rw [Bool.not_eq_true] at hc
            rw [hc] at q ⊢
            walk_at "s"
            exact ve q
          rw [hc, Bool.true_and] at q
          rw [hc]
          walk_at "s"
          refine sp_is_whole_g y4 (by omega) ?_
          by_cases hd4 : zWhole d = true
          rotate_left
          · rw [Bool.not_eq_true] at hd4
            rw [hd4] at q ⊢
            walk_at "s"
            exact ve q
          rw [hd4, Bool.true_and] at q
          rw [hd4]
          walk_at "s"
          refine sp_is_whole_g y5 (by omega) ?_
          by_cases he : zWhole e = true
          rotate_left
          · rw [Bool.not_eq_true] at he
            rw [he] at q ⊢
            walk_at "s"
            exact ve q
          rw [he, Bool.true_and] at q
          rw [he]
          walk_at "s"
          obtain ⟨most, rfl⟩ : ∃ i, d = .int i := by cases d <;> first | exact ⟨_, rfl⟩ | cases hd4
          obtain ⟨within, rfl⟩ : ∃ i, e = .int i := by cases e <;> first | exact ⟨_, rfl⟩ | cases he
          have qf : zR 0 20 (.int most) = false ∨ zR 1 100 (.int within) = false → Q (.bl false) M := fun h => by
            rcases h with h | h
            · rw [h, Bool.false_and] at q; exact q
            · rw [h, Bool.false_and, Bool.and_false] at q; exact q
          have qt : zR 0 20 (.int most) = true → zR 1 100 (.int within) = true → Q (.bl (isTup f && (decide ((tupL f).length ≤ 8) && (tupL f).all (zForm k)))) M := fun h1 h2 => by
            rw [h1, h2, Bool.true_and, Bool.true_and] at q; exact q
          clear q
          simp only [zR] at qf qt
          walk_at "s"
          refine vifp (fun h1 => ?_) (fun h1 => ?_)
          rotate_left
          · walk_at "s"
            exact ve (qf (.inl (by rw [decide_eq_false h1]; rfl)))
          rw [decide_eq_true h1, Bool.true_and] at qf qt
          walk_at "s"
          by_cases h2 : most ≤ 20
          rotate_left
          · rw [decide_eq_false h2] at qf ⊢
            walk_at "s"
            exact ve (qf (.inl rfl))
          rw [decide_eq_true h2] at qf qt ⊢
          walk_at "s"
          refine vifp (fun h3 => ?_) (fun h3 => ?_)
          rotate_left
          · walk_at "s"
            exact ve (qf (.inr (by rw [decide_eq_false h3]; rfl)))
          rw [decide_eq_true h3, Bool.true_and] at qf qt
          walk_at "s"
          by_cases h4 : within ≤ 100
          rotate_left
          · rw [decide_eq_false h4] at qf ⊢
            walk_at "s"
            exact ve (qf (.inr rfl))
          rw [decide_eq_true h4] at qf qt ⊢
          have q := qt rfl rfl
          clear qt qf
          have hnf := ok_nref y6
          walk_at "s"
          rw [isT_tuple]
          by_cases htf : isTup f = true
          rotate_left
          · rw [Bool.not_eq_true] at htf
            rw [htf] at q ⊢
            refine vif_t rfl ?_
            walk_at "s"
            exact ve q
          rw [htf]
          obtain ⟨ps, rfl⟩ : ∃ xs, f = .tup xs := by cases f <;> first | exact ⟨_, rfl⟩ | cases htf
          rw [htf, Bool.true_and, show tupL (.tup ps) = ps from rfl] at q
          refine vif_f rfl ?_
          walk_at "s"
          by_cases h8 : ps.length ≤ 8
          rotate_left
          · rw [decide_eq_false h8] at q
            refine vif_t (decide_eq_true (by omega)) ?_
            walk_at "s"
            exact ve q
          rw [decide_eq_true h8, Bool.true_and] at q
          refine vif_f (decide_eq_false (by omega)) ?_
          walk_at "s"
          refine And.intro (by unfold sizeLine; omega) ?_
          walk_at "s"
          have hps := ok_tup y6
          refine vmap (fun z : D => z) (fun z => .bl (zForm k z)) ps (by rw [List.map_id']) trivial ?_ ?_
          rotate_left
          · intro z hz Q hq
            walk_at "s"
            rw [show ((k + 1 : Nat) : Int) - 1 = (k : Nat) by omega]
            exact ih (okD_mono z (okDs_iff.mp hps z hz) (by omega)) (by omega) (by omega) hq
          walk_at "s"
          refine ⟨ps.map (zForm k), by rw [List.map_map]; rfl, ?_⟩
          have ea : (ps.map (zForm k)).all id = ps.all (zForm k) := by rw [List.all_map]; rfl
          rw [ea]
          exact ve q
        · rw [Bool.not_eq_true] at hz
          rw [hz] at q
          cases a with
          | str s =>
            refine vif_t (by rw [show decide (s = w_watcher) = false from hz]; rfl) ?_
            walk_at "s"
            exact ve q
          | ref => cases x1
          | _ =>
            refine And.intro ⟨okD_mono _ x1 (by omega), by decide +kernel⟩ ?_
            refine vif_t rfl ?_
            walk_at "s"
            exact ve q
      · rw [zFormW_n h6] at q
        refine vif_t (by rw [decide_eq_false (by omega)]; rfl) ?_
        walk_at "s"
        exact ve q
    · rw [Bool.not_eq_true] at ht
      rw [(zW_tup ht).2] at q
      rw [ht]
      refine vif_t rfl ?_
      walk_at "s"
      exact ve q
end
end Hd
set_option Elab.async false
set_option linter.all false
set_option maxRecDepth 100000
set_option maxHeartbeats 1000000
set_option pp.maxSteps 1200
/-! KL: the law's own form of a post (k01). -/
namespace Hd
open PySem PySem.Spec PyProof.Rows L2 TT
local macro_rules | `(tactic| walk_at "m") => `(tactic| first | with_reducible exact mset_same | with_reducible assumption | (with_reducible refine' Nw.now ?_; rotate_right; assumption) | (with_reducible refine' Nw.gw ?_; rotate_right; assumption) | (with_reducible refine' Nw.gg ?_; rotate_right; assumption) | (with_reducible refine' Nw.gr ?_; rotate_right; assumption) | (with_reducible refine' Mw.mo ?_; rotate_right; assumption) | (with_reducible refine' Mw.gw ?_; rotate_right; assumption) | (with_reducible refine' Mw.gg ?_; rotate_right; assumption) | (with_reducible refine' Mw.gr ?_; rotate_right; assumption) | with_reducible exact memY_y | (with_reducible refine memY_h ?_; assumption) | with_reducible exact yard_plan | with_reducible exact yard_now | with_reducible exact yard_ahead | with_reducible exact now_tick | with_reducible exact now_words | with_reducible exact now_begun | with_reducible exact now_rows | with_reducible exact mom_plan | with_reducible exact mom_posts | with_reducible exact mom_rows_of | with_reducible exact mom_at | with_reducible exact mom_words | with_reducible exact mom_begun | with_reducible exact mom_done | (with_reducible refine at_words0 ?_; omega) | (with_reducible refine ix_words0 ?_; omega) | (with_reducible refine at_words ?_; (try dsimp only); omega) | (with_reducible refine at_begun ?_; (try dsimp only); omega) | (with_reducible refine ix_words ?_; (try dsimp only); omega) | (with_reducible refine ix_begun ?_; (try dsimp only); omega) | (with_reducible refine' at_ent ?_; rotate_right; assumption) | (with_reducible refine' at_post ?_; rotate_right; assumption) | (with_reducible refine' at_rowsF ?_; rotate_right; assumption) | (with_reducible refine Eq.trans (memY_o ?_ ?_) ?_; assumption; assumption; walk_at "m") | (with_reducible refine Eq.trans (mem3_o ?_ ?_ ?_) ?_; assumption; assumption; assumption; walk_at "m") | (with_reducible refine Eq.trans (mset_ne ?_) ?_; (first | assumption | (apply Ne.symm; assumption)); walk_at "m"))
local macro_rules | `(tactic| walk_at "c") => `(tactic| first | trivial | omega | assumption | (refine rows_lt ?_; (try dsimp only); omega) | (unfold momF; rfl) | (unfold yardF; rfl) | (refine' ei _ ?_ ?_; rotate_left; (focus (walk_at "m")); rfl) | (refine And.intro ?_ ?_ <;> first | omega | decide | assumption | exact isiC_of rfl | exact isiC_of (by assumption) | exact isiC_lst (by assumption)) | (refine Or.inr ?_; constructor <;> omega) | (refine Or.inl ?_; constructor <;> omega) | decide)
local macro_rules | `(tactic| walk_at "w") => `(tactic| first | rw [A3.sw_down (by assumption) (by omega)] | rw [A3.sw_runs (by assumption) (by omega)] | rw [A3.sw_off (by assumption) (by omega)] | rw [A3.sw_fell (by assumption) (by omega)] | rw [A3.sw_fin (by assumption) (by omega)] | rw [A3.sg_nil (by assumption) (by omega)] | rw [A3.sr_stop (by assumption)] | rw [A3.sr_bgn (by assumption)] | rw [A3.sr_gave (by assumption)] | rw [A3.sr_off (by assumption)] | rw [memY_sh (by assumption)] | rw [memY_sy] | rw [mem3_set (by assumption) (by assumption) (by assumption), mset_mset] | rw [mem3_set (by assumption) (by assumption) (by assumption)])
local macro_rules | `(tactic| walk_at "s") => `(tactic| first | (refine' ei _ ?_ ?_; rotate_left; (focus (first | walk_at "m" | rfl)); walk_at "s") | (refine And.intro ?_ ?_; (focus (walk_at "c")); walk_at "s") | (refine vlit_t ?_; walk_at "s") | (refine vlit_f ?_; walk_at "s") | (walk_at "w"; walk_at "s") | (try conv => whnf))
local macro_rules | `(tactic| walk_at "t") => `(tactic| first | (refine vif_t rfl ?_; walk_at "s") | (refine vif_f rfl ?_; walk_at "s") | (refine vif_t (by decide +kernel) ?_; walk_at "s") | (refine vif_f (by decide +kernel) ?_; walk_at "s"))

local macro_rules | `(tactic| walk_at "p") => `(tactic| (refine And.intro (by repeat (first | exact Nat.zero_lt_succ _ | refine putA_lt ?_)) ?_; walk_at "s"))
theorem zOne_kind {d : D} (h : zOne zKinds d = true) : ∃ kd : Kd, d = .str kd.s := by
  cases d with
  | str s =>
    have h : zKinds.contains s = true := h
    unfold zKinds at h
    simp only [List.contains_cons, List.contains_nil, Bool.or_false, Bool.or_eq_true, beq_iff_eq] at h
    rcases h with h | h | h
    · exact ⟨.always, by rw [h]; rfl⟩
    · exact ⟨.fault, by rw [h]; rfl⟩
    · exact ⟨.once, by rw [h]; rfl⟩
  | _ => cases h
theorem zOne_way {d : D} (h : zOne zWays d = true) : ∃ y : Wy, d = .str y.s := by
  cases d with
  | str s =>
    have h : zWays.contains s = true := h
    unfold zWays at h
    simp only [List.contains_cons, List.contains_nil, Bool.or_false, Bool.or_eq_true, beq_iff_eq] at h
    rcases h with h | h | h
    · exact ⟨.one, by rw [h]; rfl⟩
    · exact ⟨.all, by rw [h]; rfl⟩
    · exact ⟨.behind, by rw [h]; rfl⟩
  | _ => cases h
theorem zWorker_P {k : Nat} {d : D} (h : zWorker d = true) : ∃ p : P, p.ok k = true ∧ d = p.d := by
  unfold zWorker at h
  split at h
  · rw [Bool.and_eq_true] at h
    obtain ⟨kd, rfl⟩ := zOne_kind h.2
    rw [zIs_eq h.1]
    exact ⟨.wk kd, by simp only [P.ok], rfl⟩
  · cases h
theorem list_P {k : Nat} : ∀ {ds : List D}, (∀ d ∈ ds, ∃ p : P, p.ok k = true ∧ d = p.d) → ∃ ps : List P, (∀ p ∈ ps, p.ok k = true) ∧ ds = ps.map P.d
  | [], _ => ⟨[], (fun _ h => by cases h), rfl⟩
  | d :: ds, h => by
    obtain ⟨h1, h2⟩ := List.forall_mem_cons.mp h
    obtain ⟨p, hp, rfl⟩ := h1
    obtain ⟨ps, hps, rfl⟩ := list_P h2
    exact ⟨p :: ps, List.forall_mem_cons.mpr ⟨hp, hps⟩, rfl⟩
/-- what has the form is a post -/
theorem zForm_P : ∀ {k : Nat} {d : D}, zForm k d = true → ∃ p : P, p.ok k = true ∧ d = p.d
  | 0, d, h => zWorker_P h
  | k + 1, d, h => by
    have h : (zWorker d || zFormW (zForm k) d) = true := h
    rw [Bool.or_eq_true] at h
    rcases h with h | h
    · exact zWorker_P h
    · unfold zFormW at h
      split at h
      · rename_i w kind way most within posts _
        simp only [Bool.and_eq_true] at h
        obtain ⟨h1, h2, h3, h4, h5, h6, h7, h8, h9, h10⟩ := h
        obtain ⟨kd, rfl⟩ := zOne_kind h2
        obtain ⟨y, rfl⟩ := zOne_way h3
        rw [zIs_eq h1]
        obtain ⟨m, rfl⟩ : ∃ i, most = .int i := by cases most <;> first | exact ⟨_, rfl⟩ | cases h4
        obtain ⟨v, rfl⟩ : ∃ i, within = .int i := by cases within <;> first | exact ⟨_, rfl⟩ | cases h5
        obtain ⟨ds, rfl⟩ : ∃ i, posts = .tup i := by cases posts <;> first | exact ⟨_, rfl⟩ | cases h8
        have h10 : ds.all (zForm k) = true := h10
        obtain ⟨ps, hps, rfl⟩ := list_P fun d hd => zForm_P (List.all_eq_true.mp h10 d hd)
        have h9 := of_decide_eq_true h9
        have h9 : (ps.map P.d).length ≤ 8 := h9
        rw [List.length_map] at h9
        simp only [zR, Bool.and_eq_true, decide_eq_true_eq] at h6 h7
        refine ⟨.wt kd y m v ps, P.ok_wt.mpr ⟨⟨h6.1, h6.2, h7.1, h7.2, h9⟩, hps⟩, ?_⟩
        rw [← P.ds_eq]; rfl
      · cases h
/-- the form, of what begins with two texts -/
theorem zForm_two {k : Nat} {a b : D} {r : List D} (h : zForm k (.tup (a :: b :: r)) = true) : zOne zKinds b = true ∧ ((zIs w_worker a = true ∧ r = []) ∨ (zIs w_watcher a = true ∧ r.length = 4 ∧ 0 < k)) := by
  have hw : zWorker (.tup (a :: b :: r)) = true → zOne zKinds b = true ∧ zIs w_worker a = true ∧ r = [] := fun h => by
    cases r with
    | nil =>
      have h : (zIs w_worker a && zOne zKinds b) = true := h
      rw [Bool.and_eq_true] at h
      exact ⟨h.2, h.1, rfl⟩
    | cons c r => cases h
  cases k with
  | zero => exact ⟨(hw h).1, .inl (hw h).2⟩
  | succ k =>
    have h : (zWorker (.tup (a :: b :: r)) || zFormW (zForm k) (.tup (a :: b :: r))) = true := h
    rw [Bool.or_eq_true] at h
    rcases h with h | h
    · exact ⟨(hw h).1, .inl (hw h).2⟩
    · by_cases h4 : r.length = 4
      · obtain ⟨c, d, e, f, rfl⟩ : ∃ c d e f, r = [c, d, e, f] := by
          match r, h4 with
          | [c, d, e, f], _ => exact ⟨c, d, e, f, rfl⟩
        rw [zFormW_6] at h
        simp only [Bool.and_eq_true] at h
        exact ⟨h.2.1, .inr ⟨h.1, rfl, Nat.succ_pos k⟩⟩
      · rw [zFormW_n (by simp only [List.length_cons]; omega)] at h
        cases h
theorem at_c0 {a b : D} {r : List D} : atI (a :: b :: r) 0 = some a := at_nat (k := 0)
theorem at_c1 {a b : D} {r : List D} : atI (a :: b :: r) 1 = some b := at_nat (k := 1)
theorem zForm_short {k : Nat} {xs : List D} (h : xs.length < 2) : zForm k (.tup xs) = true → False := fun e => by
  obtain ⟨p, hp, e2⟩ := zForm_P e
  cases p with
  | wk kd => cases e2; simp only [List.length_cons, List.length_nil] at h; omega
  | wt kd y m w ps => cases e2; simp only [List.length_cons, List.length_nil] at h; omega
theorem zForm_six {j : Nat} {b c d e f : D} (h2 : zOne zKinds b = true) : zForm (j + 1) (.tup [.str w_watcher, b, c, d, e, f]) = (zOne zWays c && (zWhole d && (zWhole e && (zR 0 20 d && (zR 1 100 e && (isTup f && (decide ((tupL f).length ≤ 8) && (tupL f).all (zForm j)))))))) := by
  have e1 : zForm (j + 1) (.tup [.str w_watcher, b, c, d, e, f]) = (zWorker (.tup [.str w_watcher, b, c, d, e, f]) || zFormW (zForm j) (.tup [.str w_watcher, b, c, d, e, f])) := rfl
  have e2 : zIs w_watcher (.str w_watcher) = true := by decide +kernel
  rw [e1, zFormW_6, h2, e2, Bool.true_and, Bool.true_and]; rfl
section
variable {N : Nat} {M : Mp} {Q : KQ} {X : KX}
theorem sp_is_post_g : ∀ (k : Nat) {N : Nat} {M : Mp} {Q : KQ} {X : KX} {d : D}, okD 60 d = true → k ≤ 6 → k + 2 ≤ N → Q (.bl (zForm k d)) M → callI T N 15 [d, .int (k : Nat)] M Q X := by
  intro k
  induction k using Nat.strongRecOn with
  | _ k ih => ?_
  intro N M Q X d hd hk hN q
  have hnr := ok_nref hd
  refine call_v (N := N) (n := N - 1) (np := 2) (nn := 6) (b := b15) (ρ := [some (d), some (.int (k : Nat)), none, none, none, none]) (by omega) T15 rfl rfl ?_
  walk_at "s"
  rw [isT_tuple]
  by_cases ht : isTup d = true
  rotate_left
  · rw [Bool.not_eq_true] at ht
    have e : zForm k d = false := by
      cases k with
      | zero => exact (zW_tup ht).1
      | succ k => show (zWorker d || zFormW (zForm k) d) = false; rw [(zW_tup ht).1, (zW_tup ht).2]; rfl
    rw [e] at q
    rw [ht]
    refine vif_t rfl ?_
    walk_at "s"
    exact ve q
  rw [ht]
  obtain ⟨xs, rfl⟩ : ∃ xs, d = .tup xs := by cases d <;> first | exact ⟨_, rfl⟩ | cases ht
  refine vif_f rfl ?_
  walk_at "s"
  have nf : (zForm k (.tup xs) = true → False) → Q (.bl false) M := fun h => by
    have e : zForm k (.tup xs) = false := by rw [← Bool.not_eq_true]; exact h
    rw [e] at q; exact q
  by_cases hl : xs.length < 2
  · refine vif_t (decide_eq_true (by omega)) ?_
    walk_at "s"
    exact ve (nf (zForm_short hl))
  refine vif_f (decide_eq_false (by omega)) ?_
  obtain ⟨a, b, r, rfl⟩ : ∃ a b r, xs = a :: b :: r := by
    match xs, hl with
    | a :: b :: r, _ => exact ⟨a, b, r, rfl⟩
    | [_], h => simp at h
    | [], h => simp at h
  have hx := ok_tup hd
  rw [ok_cons, ok_cons] at hx
  obtain ⟨x1, x2, xr⟩ := hx
  have na := ok_nref x1
  have nb := ok_nref x2
  walk_at "s"
  refine ⟨_, at_c0, ?_⟩
  walk_at "s"
  rw [isT_str]
  cases a with
  | str sa => ?_
  | ref => cases na
  | _ =>
    refine vif_t rfl ?_
    walk_at "s"
    refine ve (nf fun h => ?_)
    rcases (zForm_two h).2 with ⟨h, _⟩ | ⟨h, _⟩ <;> cases h
  refine vif_f rfl ?_
  walk_at "s"
  refine ⟨_, at_c1, ?_⟩
  walk_at "s"
  rw [isT_str]
  cases b with
  | str sb => ?_
  | ref => cases nb
  | _ =>
    refine vif_t rfl ?_
    walk_at "s"
    refine ve (nf fun h => ?_)
    cases (zForm_two h).1
  refine vif_f rfl ?_
  walk_at "s"
  refine ⟨_, at_c1, ?_⟩
  walk_at "s"
  rw [show inD (.str sb) [D.str w_always, D.str w_fault, D.str w_once] = zOne zKinds (.str sb) from inD_strs zKinds]
  by_cases hb : zOne zKinds (.str sb) = true
  rotate_left
  · rw [Bool.not_eq_true] at hb
    rw [hb]
    refine vif_t rfl ?_
    walk_at "s"
    refine ve (nf fun h => ?_)
    rw [(zForm_two h).1] at hb
    cases hb
  rw [hb]
  refine vif_f rfl ?_
  walk_at "s"
  refine ⟨_, at_c0, ?_⟩
  walk_at "s"
  by_cases hsw : sa = w_worker
  · subst hsw
    refine vif_t (by decide +kernel) ?_
    walk_at "s"
    cases r with
    | nil =>
      have e : zForm k (.tup [.str w_worker, .str sb]) = true := by
        have e1 : zWorker (.tup [.str w_worker, .str sb]) = true := by
          show (zIs w_worker (.str w_worker) && zOne zKinds (.str sb)) = true
          rw [hb]; decide +kernel
        cases k with
        | zero => exact e1
        | succ k => show (zWorker _ || _) = true; rw [e1]; rfl
      rw [e] at q
      exact ve q
    | cons c r =>
      refine ve ?_
      show Q (.bl (decide (((r.length + 1 + 1 + 1 : Nat) : Int) = 2))) M
      rw [decide_eq_false (by omega)]
      refine nf fun h => ?_
      rcases (zForm_two h).2 with ⟨_, h⟩ | ⟨h, _⟩
      · cases h
      · exact absurd (of_decide_eq_true h) (by decide +kernel)
  refine vif_f (decide_eq_false hsw) ?_
  walk_at "s"
  refine ⟨_, at_c0, ?_⟩
  walk_at "s"
  by_cases hsv : sa = w_watcher
  rotate_left
  · refine vif_t (by rw [decide_eq_false hsv]; rfl) ?_
    walk_at "s"
    refine ve (nf fun h => ?_)
    rcases (zForm_two h).2 with ⟨h, _⟩ | ⟨h, _⟩
    · exact hsw (of_decide_eq_true h)
    · exact hsv (of_decide_eq_true h)
  subst hsv
  refine vif_f (by decide +kernel) ?_
  walk_at "s"
  by_cases h4 : r.length = 4
  rotate_left
  · refine vif_t (by rw [decide_eq_false (by simp only [List.length_cons]; omega)]; rfl) ?_
    walk_at "s"
    refine ve (nf fun h => ?_)
    rcases (zForm_two h).2 with ⟨h, _⟩ | ⟨_, h, _⟩
    · exact hsw (of_decide_eq_true h)
    · exact h4 h
  obtain ⟨c, d, e, f, rfl⟩ : ∃ c d e f, r = [c, d, e, f] := by
    match r, h4 with
    | [c, d, e, f], _ => exact ⟨c, d, e, f, rfl⟩
  refine vif_f rfl ?_
  walk_at "s"
  by_cases hk1 : k = 0
  · subst hk1
    refine vif_t (decide_eq_true (by omega)) ?_
    walk_at "s"
    refine ve (nf fun h => ?_)
    rcases (zForm_two h).2 with ⟨h, _⟩ | ⟨_, _, h⟩
    · exact hsw (of_decide_eq_true h)
    · omega
  refine vif_f (decide_eq_false (by omega)) ?_
  obtain ⟨j, rfl⟩ : ∃ j, k = j + 1 := ⟨k - 1, by omega⟩
  rw [zForm_six hb] at q
  clear nf
  simp only [ok_cons] at xr
  obtain ⟨x3, x4, x5, x6, -⟩ := xr
  have y3 := okD_mono c x3 (show 60 - 1 ≤ 60 by omega)
  have y4 := okD_mono d x4 (show 60 - 1 ≤ 60 by omega)
  have y5 := okD_mono e x5 (show 60 - 1 ≤ 60 by omega)
  have y6 := okD_mono f x6 (show 60 - 1 ≤ 60 by omega)
  have n3 := ok_nref y3
  have n4 := ok_nref y4
  have n5 := ok_nref y5
  have n6 := ok_nref y6
  walk_at "s"
  rw [isT_str]
  cases c with
  | str sc => ?_
  | ref => cases n3
  | _ =>
    refine vif_t rfl ?_
    walk_at "s"
    exact ve q
  refine vif_f rfl ?_
  walk_at "s"
  rw [show inD (.str sc) [D.str w_one, D.str w_all, D.str w_behind] = zOne zWays (.str sc) from inD_strs zWays]
  by_cases hc : zOne zWays (.str sc) = true
  rotate_left
  · rw [Bool.not_eq_true] at hc
    rw [hc] at q ⊢
    refine vif_t rfl ?_
    walk_at "s"
    exact ve q
  rw [hc, Bool.true_and] at q
  rw [hc]
  refine vif_f rfl ?_
  walk_at "s"
  rw [isT_tuple]
  by_cases htf : isTup f = true
  rotate_left
  · rw [Bool.not_eq_true] at htf
    rw [htf] at q ⊢
    simp only [Bool.false_and, Bool.and_false] at q
    walk_at "s"
    exact ve q
  rw [htf, Bool.true_and] at q
  rw [htf]
  obtain ⟨ps, rfl⟩ : ∃ xs, f = .tup xs := by cases f <;> first | exact ⟨_, rfl⟩ | cases htf
  rw [show tupL (.tup ps) = ps from rfl] at q
  walk_at "s"
  have eq1 : (zWhole d && (zWhole e && (zR 0 20 d && (zR 1 100 e && (decide (ps.length ≤ 8) && ps.all (zForm j)))))) = (([(d, (0 : Int), (20 : Int)), (e, 1, 100)].all fun x => zWhole x.1 && zR x.2.1 x.2.2 x.1) && (decide (ps.length ≤ 8) && ps.all (zForm j))) := by
    simp only [List.all_cons, List.all_nil, Bool.and_true]
    cases zWhole d <;> cases zWhole e <;> cases zR 0 20 d <;> cases zR 1 100 e <;> rfl
  rw [eq1] at q
  have mid : ∀ xs : List (D × Int × Int), (∀ x ∈ xs, x ∈ [(d, (0 : Int), (20 : Int)), (e, 1, 100)]) → ∀ x ∈ xs, notRef x.1 = true := fun xs h x hx => by
    have := h x hx
    simp only [List.mem_cons, List.not_mem_nil, or_false] at this
    rcases this with rfl | rfl
    · exact n4
    · exact n5
  refine vfor (fun x : D × Int × Int => D.tup [x.1, .int x.2.1, .int x.2.2]) (fun xs ρ M' => ∃ o2 o3 o4, M' = M ∧ ρ = [some (.tup [.str w_watcher, .str sb, .str sc, d, e, .tup ps]), some (.int ((j + 1 : Nat) : Int)), o2, o3, o4, none] ∧ Q (.bl ((xs.all fun x => zWhole x.1 && zR x.2.1 x.2.2 x.1) && (decide (ps.length ≤ 8) && ps.all (zForm j)))) M ∧ ∀ x ∈ xs, notRef x.1 = true)
    [(d, 0, 20), (e, 1, 100)] rfl ⟨_, _, _, rfl, rfl, q, mid _ fun x h => h⟩ (fun _ _ _ _ => trivial) ?_ ?_
  · rintro ρ M' ⟨o2, o3, o4, rfl, rfl, q, -⟩
    rw [List.all_nil, Bool.true_and] at q
    walk_at "s"
    by_cases h8 : ps.length ≤ 8
    rotate_left
    · rw [decide_eq_false h8, Bool.false_and] at q
      refine vif_f (decide_eq_false (by omega)) ?_
      exact ve q
    rw [decide_eq_true h8, Bool.true_and] at q
    refine vif_t (decide_eq_true (by omega)) ?_
    walk_at "s"
    refine And.intro (by unfold sizeLine; omega) ?_
    walk_at "s"
    have hps := okDs_iff.mp (ok_tup y6)
    refine vsift (fun z : D => z) (fun z : D => z) (fun z => !zForm j z) ps (by rw [List.map_id']) trivial ?_ ?_
    rotate_left
    · intro z hz
      refine And.intro (fun Q h => ?_) (fun _ Q h => ?_)
      · walk_at "s"
        rw [show ((j + 1 : Nat) : Int) - 1 = (j : Nat) by omega]
        exact ih j (by omega) (okD_mono z (hps z hz) (by omega)) (by omega) (by omega) h
      · walk_at "s"
        exact h
    have okf : okD 64 (.lst (ps.filter fun z => !zForm j z)) = true := by
      show okDs 63 _ = true
      exact okDs_iff.mpr fun z hz => okD_mono z (hps z (List.mem_filter.mp hz).1) (by omega)
    rw [List.map_id']
    walk_at "s"
    rw [eqD_nil]
    have ef : (ps.filter fun z => !zForm j z).isEmpty = ps.all (zForm j) := by
      rw [Bool.eq_iff_iff, List.isEmpty_iff, List.filter_eq_nil_iff, List.all_eq_true]
      simp
    rw [ef]
    exact ve q
  rintro ⟨x, lo, hi⟩ xs ρ M' ⟨o2, o3, o4, rfl, rfl, q, hr⟩
  obtain ⟨hr1, hr2⟩ := List.forall_mem_cons.mp hr
  have hr1 : notRef x = true := hr1
  rw [List.all_cons] at q
  walk_at "s"
  rw [isT_int]
  have bad : (zWhole x && zR lo hi x) = false → Q (.bl false) M' := fun h => by
    rw [h, Bool.false_and, Bool.false_and] at q; exact q
  cases x with
  | int i =>
    refine vif_f rfl ?_
    walk_at "s"
    refine vifp (fun h1 => ?_) (fun h1 => ?_)
    · have h1 : i < lo := h1
      walk_at "s"
      exact ve (bad (by simp only [zWhole, zR]; rw [decide_eq_false (by omega)]; rfl))
    have h1 : ¬ i < lo := h1
    walk_at "s"
    refine vifp (fun h2 => ?_) (fun h2 => ?_)
    · have h2 : hi < i := h2
      walk_at "s"
      exact ve (bad (by simp only [zWhole, zR]; rw [decide_eq_false (show ¬ i ≤ hi by omega)]; simp))
    have h2 : ¬ hi < i := h2
    walk_at "s"
    have e1 : (zWhole (.int i) && zR lo hi (.int i)) = true := by simp only [zWhole, zR]; rw [decide_eq_true (show lo ≤ i by omega), decide_eq_true (show i ≤ hi by omega)]; rfl
    rw [e1, Bool.true_and] at q
    exact vd ⟨_, _, _, rfl, rfl, q, hr2⟩
  | bl b =>
    refine vif_f rfl ?_
    walk_at "s"
    exact ve (bad rfl)
  | ref => cases hr1
  | _ =>
    refine vif_t rfl ?_
    walk_at "s"
    exact ve (bad rfl)
theorem sp_is_tree_no {d : D} (hd : okD 60 d = true) (hf : zForm 6 d = false) (hN : 11 ≤ N) (q : Q (.bl false) M) : callI T N 6 [d] M Q X := by
  refine call_v (N := N) (n := N - 1) (np := 1) (nn := 1) (b := b6) (ρ := [some (d)]) (by omega) T6 rfl rfl ?_
  walk_at "s"
  refine sp_has_form_g 6 hd (by omega) (by omega) ?_
  rw [hf]
  walk_at "s"
  exact ve q
theorem sp_due_no {d : D} (hd : okD 60 d = true) (hf : zForm 6 d = false) (hN : 11 ≤ N) (q : Q (.bl false) M) : callI T N 16 [d] M Q X := by
  refine call_v (N := N) (n := N - 1) (np := 1) (nn := 1) (b := b16) (ρ := [some (d)]) (by omega) T16 rfl rfl ?_
  walk_at "s"
  refine sp_is_post_g 6 hd (by omega) (by omega) ?_
  rw [hf]
  walk_at "s"
  exact ve q
theorem sp_is_tree_p {p : P} (hd : okD 60 p.d = true) (hf : zForm 6 p.d = true) (hp : p.ok 6 = true) (hN : 12 ≤ N) (q : Q (.bl (p.isT && decide (p.size ≤ 60))) M) : callI T N 6 [p.d] M Q X := by
  refine call_v (N := N) (n := N - 1) (np := 1) (nn := 1) (b := b6) (ρ := [some (p.d)]) (by omega) T6 rfl rfl ?_
  walk_at "s"
  refine sp_has_form_g 6 hd (by omega) (by omega) ?_
  rw [hf]
  walk_at "s"
  refine sp_is_watcher (by omega) ?_
  by_cases ht : p.isT = true
  · rw [ht] at q ⊢
    walk_at "s"
    refine sp_all_posts 6 hp (by omega) (by omega) ?_
    walk_at "s"
    rw [show ((p.all.map P.d).length : Int) = ((p.size : Nat) : Int) by rw [List.length_map]; rfl]
    rw [show decide (((p.size : Nat) : Int) ≤ 60) = decide (p.size ≤ 60) from decide_eq_decide.mpr (by omega)]
    exact ve q
  · rw [Bool.not_eq_true] at ht
    rw [ht] at q ⊢
    walk_at "s"
    exact ve q
theorem sp_due_p {p : P} (hd : okD 60 p.d = true) (hf : zForm 6 p.d = true) (hp : p.ok 6 = true) (hN : 12 ≤ N) (q : Q (.bl (p.isT && decide (p.size ≤ 60))) M) : callI T N 16 [p.d] M Q X := by
  refine call_v (N := N) (n := N - 1) (np := 1) (nn := 1) (b := b16) (ρ := [some (p.d)]) (by omega) T16 rfl rfl ?_
  walk_at "s"
  refine sp_is_post_g 6 hd (by omega) (by omega) ?_
  rw [hf]
  walk_at "s"
  cases p with
  | wk kd =>
    walk_at "s"
    refine vif_f (by decide +kernel) ?_
    exact ve q
  | wt kd y m w ps =>
    walk_at "s"
    refine vif_t (by decide +kernel) ?_
    walk_at "s"
    refine sp_law_all 6 hp (by omega) (by omega) ?_
    walk_at "s"
    rw [show (((P.wt kd y m w ps).all.map P.d).length : Int) = (((P.wt kd y m w ps).size : Nat) : Int) by rw [List.length_map]; rfl]
    rw [show decide ((((P.wt kd y m w ps).size : Nat) : Int) < 61) = decide ((P.wt kd y m w ps).size ≤ 60) from decide_eq_decide.mpr (by omega)]
    exact ve q
theorem sp_right_g {d : D} (hd : okD 60 d = true) (hN : 14 ≤ N) (q : Q (.bl true) M) : callI T N 17 [d] M Q X := by
  have key : ∀ r : Bool, (∀ (N : Nat) (M : Mp) (Q : KQ) (X : KX), 12 ≤ N → Q (.bl r) M → callI T N 6 [d] M Q X) → (∀ (N : Nat) (M : Mp) (Q : KQ) (X : KX), 12 ≤ N → Q (.bl r) M → callI T N 16 [d] M Q X) → callI T N 17 [d] M Q X := by
    intro r h1 h2
    refine call_v (N := N) (n := N - 1) (np := 1) (nn := 2) (b := b17) (ρ := [some (d), none]) (by omega) T17 rfl rfl ?_
    walk_at "s"
    refine h1 _ _ _ _ (by omega) ?_
    walk_at "s"
    refine h2 _ _ _ _ (by omega) ?_
    walk_at "s"
    rw [decide_eq_true rfl]
    exact ve q
  by_cases hf : zForm 6 d = true
  · obtain ⟨p, hp, rfl⟩ := zForm_P hf
    exact key _ (fun _ _ _ _ hN q => sp_is_tree_p hd hf hp hN q) (fun _ _ _ _ hN q => sp_due_p hd hf hp hN q)
  · rw [Bool.not_eq_true] at hf
    exact key false (fun _ _ _ _ hN q => sp_is_tree_no hd hf (by omega) q) (fun _ _ _ _ hN q => sp_due_no hd hf (by omega) q)
end
end Hd
set_option Elab.async false
set_option linter.all false
set_option maxRecDepth 100000
set_option maxHeartbeats 1000000
set_option pp.maxSteps 1200
/-! KM: things put otherwise, at any depth (k01). -/
namespace Hd
open PySem PySem.Spec PyProof.Rows L2 TT
local macro_rules | `(tactic| walk_at "m") => `(tactic| first | with_reducible exact mset_same | with_reducible assumption | (with_reducible refine' Nw.now ?_; rotate_right; assumption) | (with_reducible refine' Nw.gw ?_; rotate_right; assumption) | (with_reducible refine' Nw.gg ?_; rotate_right; assumption) | (with_reducible refine' Nw.gr ?_; rotate_right; assumption) | (with_reducible refine' Mw.mo ?_; rotate_right; assumption) | (with_reducible refine' Mw.gw ?_; rotate_right; assumption) | (with_reducible refine' Mw.gg ?_; rotate_right; assumption) | (with_reducible refine' Mw.gr ?_; rotate_right; assumption) | with_reducible exact memY_y | (with_reducible refine memY_h ?_; assumption) | with_reducible exact yard_plan | with_reducible exact yard_now | with_reducible exact yard_ahead | with_reducible exact now_tick | with_reducible exact now_words | with_reducible exact now_begun | with_reducible exact now_rows | with_reducible exact mom_plan | with_reducible exact mom_posts | with_reducible exact mom_rows_of | with_reducible exact mom_at | with_reducible exact mom_words | with_reducible exact mom_begun | with_reducible exact mom_done | (with_reducible refine at_words0 ?_; omega) | (with_reducible refine ix_words0 ?_; omega) | (with_reducible refine at_words ?_; (try dsimp only); omega) | (with_reducible refine at_begun ?_; (try dsimp only); omega) | (with_reducible refine ix_words ?_; (try dsimp only); omega) | (with_reducible refine ix_begun ?_; (try dsimp only); omega) | (with_reducible refine' at_ent ?_; rotate_right; assumption) | (with_reducible refine' at_post ?_; rotate_right; assumption) | (with_reducible refine' at_rowsF ?_; rotate_right; assumption) | (with_reducible refine Eq.trans (memY_o ?_ ?_) ?_; assumption; assumption; walk_at "m") | (with_reducible refine Eq.trans (mem3_o ?_ ?_ ?_) ?_; assumption; assumption; assumption; walk_at "m") | (with_reducible refine Eq.trans (mset_ne ?_) ?_; (first | assumption | (apply Ne.symm; assumption)); walk_at "m"))
local macro_rules | `(tactic| walk_at "c") => `(tactic| first | trivial | omega | assumption | (refine rows_lt ?_; (try dsimp only); omega) | (unfold momF; rfl) | (unfold yardF; rfl) | (refine' ei _ ?_ ?_; rotate_left; (focus (walk_at "m")); rfl) | (refine And.intro ?_ ?_ <;> first | omega | decide | assumption | exact isiC_of rfl | exact isiC_of (by assumption) | exact isiC_lst (by assumption)) | (refine Or.inr ?_; constructor <;> omega) | (refine Or.inl ?_; constructor <;> omega) | decide)
local macro_rules | `(tactic| walk_at "w") => `(tactic| first | rw [A3.sw_down (by assumption) (by omega)] | rw [A3.sw_runs (by assumption) (by omega)] | rw [A3.sw_off (by assumption) (by omega)] | rw [A3.sw_fell (by assumption) (by omega)] | rw [A3.sw_fin (by assumption) (by omega)] | rw [A3.sg_nil (by assumption) (by omega)] | rw [A3.sr_stop (by assumption)] | rw [A3.sr_bgn (by assumption)] | rw [A3.sr_gave (by assumption)] | rw [A3.sr_off (by assumption)] | rw [memY_sh (by assumption)] | rw [memY_sy] | rw [mem3_set (by assumption) (by assumption) (by assumption), mset_mset] | rw [mem3_set (by assumption) (by assumption) (by assumption)])
local macro_rules | `(tactic| walk_at "s") => `(tactic| first | (refine' ei _ ?_ ?_; rotate_left; (focus (first | walk_at "m" | rfl)); walk_at "s") | (refine And.intro ?_ ?_; (focus (walk_at "c")); walk_at "s") | (refine vlit_t ?_; walk_at "s") | (refine vlit_f ?_; walk_at "s") | (walk_at "w"; walk_at "s") | (try conv => whnf))
local macro_rules | `(tactic| walk_at "t") => `(tactic| first | (refine vif_t rfl ?_; walk_at "s") | (refine vif_f rfl ?_; walk_at "s") | (refine vif_t (by decide +kernel) ?_; walk_at "s") | (refine vif_f (by decide +kernel) ?_; walk_at "s"))

local macro_rules | `(tactic| walk_at "p") => `(tactic| (refine And.intro (by repeat (first | exact Nat.zero_lt_succ _ | refine putA_lt ?_)) ?_; walk_at "s"))
mutual
/-- deep at most k, wide at most B -/
def gd (B : Nat) : Nat → D → Bool
  | _, .non => true
  | _, .bl _ => true
  | _, .int _ => true
  | _, .str x => PyData.strOk x
  | k, .tup xs => (match k with
    | 0 => false
    | k + 1 => decide (xs.length ≤ B) && gds B k xs)
  | k, .lst xs => (match k with
    | 0 => false
    | k + 1 => decide (xs.length ≤ B) && gds B k xs)
  | _, .scr _ => false
  | _, .ref _ => false
def gds (B : Nat) : Nat → List D → Bool
  | _, [] => true
  | k, x :: xs => gd B k x && gds B k xs
end
theorem gds_iff {B k : Nat} : ∀ {xs : List D}, gds B k xs = true ↔ ∀ x ∈ xs, gd B k x = true
  | [] => by simp [gds]
  | x :: xs => by simp only [gds, Bool.and_eq_true, gds_iff (xs := xs), List.forall_mem_cons]
theorem gd_tup {B k : Nat} {xs : List D} : gd B (k + 1) (.tup xs) = true ↔ xs.length ≤ B ∧ ∀ x ∈ xs, gd B k x = true := by
  simp only [gd, Bool.and_eq_true, decide_eq_true_eq, gds_iff]
theorem gd_lst {B k : Nat} {xs : List D} : gd B (k + 1) (.lst xs) = true ↔ xs.length ≤ B ∧ ∀ x ∈ xs, gd B k x = true := by
  simp only [gd, Bool.and_eq_true, decide_eq_true_eq, gds_iff]
mutual
theorem gd_mono {B B' : Nat} (hB : B ≤ B') : ∀ {k k' : Nat} (d : D), gd B k d = true → k ≤ k' → gd B' k' d = true
  | _, _, .non, _, _ => by simp only [gd]
  | _, _, .bl _, _, _ => by simp only [gd]
  | _, _, .int _, _, _ => by simp only [gd]
  | _, _, .str x, h, _ => by simp only [gd] at h ⊢; exact h
  | k, k', .tup xs, h, hk => by
    cases k with
    | zero => simp only [gd] at h; cases h
    | succ k => cases k' with
      | zero => omega
      | succ k' =>
        simp only [gd, Bool.and_eq_true, decide_eq_true_eq] at h ⊢
        exact ⟨Nat.le_trans h.1 hB, gds_mono hB xs h.2 (by omega)⟩
  | k, k', .lst xs, h, hk => by
    cases k with
    | zero => simp only [gd] at h; cases h
    | succ k => cases k' with
      | zero => omega
      | succ k' =>
        simp only [gd, Bool.and_eq_true, decide_eq_true_eq] at h ⊢
        exact ⟨Nat.le_trans h.1 hB, gds_mono hB xs h.2 (by omega)⟩
  | _, _, .scr _, h, _ => by simp only [gd] at h; cases h
  | _, _, .ref _, h, _ => by simp only [gd] at h; cases h
theorem gds_mono {B B' : Nat} (hB : B ≤ B') : ∀ {k k' : Nat} (xs : List D), gds B k xs = true → k ≤ k' → gds B' k' xs = true
  | _, _, [], _, _ => by simp only [gds]
  | k, k', x :: xs, h, hk => by
    simp only [gds, Bool.and_eq_true] at h ⊢
    exact ⟨gd_mono hB x h.1 hk, gds_mono hB xs h.2 hk⟩
end
mutual
theorem gd_ok {B : Nat} : ∀ {k : Nat} (d : D), gd B k d = true → okD k d = true
  | _, .non, _ => by simp only [okD]
  | _, .bl _, _ => by simp only [okD]
  | _, .int _, _ => by simp only [okD]
  | _, .str x, h => by simp only [gd] at h; simp only [okD]; exact h
  | k, .tup xs, h => by
    cases k with
    | zero => simp only [gd] at h; cases h
    | succ k =>
      simp only [gd, Bool.and_eq_true] at h
      simp only [okD]
      exact gds_ok xs h.2
  | k, .lst xs, h => by
    cases k with
    | zero => simp only [gd] at h; cases h
    | succ k =>
      simp only [gd, Bool.and_eq_true] at h
      simp only [okD]
      exact gds_ok xs h.2
  | _, .scr _, h => by simp only [gd] at h; cases h
  | _, .ref _, h => by simp only [gd] at h; cases h
theorem gds_ok {B : Nat} : ∀ {k : Nat} (xs : List D), gds B k xs = true → okDs k xs = true
  | _, [], _ => by simp only [okDs]
  | k, x :: xs, h => by
    simp only [gds, Bool.and_eq_true] at h
    simp only [okDs, Bool.and_eq_true]
    exact ⟨gd_ok x h.1, gds_ok xs h.2⟩
end
theorem gd_P : ∀ (k : Nat) {p : P}, p.ok k = true → gd 8 (2 * k + 1) p.d = true
  | k, .wk kd, _ => by
    show gd 8 (2 * k + 1) (.tup [.str w_worker, .str kd.s]) = true
    rw [gd_tup]
    refine ⟨by simp, fun x hx => ?_⟩
    simp only [List.mem_cons, List.not_mem_nil, or_false] at hx
    rcases hx with rfl | rfl
    · simp only [gd]; decide +kernel
    · simp only [gd]; exact strOk_k kd
  | k, .wt kd y m w ps, h => by
    obtain ⟨j, rfl, h1, h2⟩ := P.ok_wt' h
    show gd 8 (2 * (j + 1) + 1) (.tup [.str w_watcher, .str kd.s, .str y.s, .int m, .int w, .tup (P.ds ps)]) = true
    rw [gd_tup]
    refine ⟨by simp, fun x hx => ?_⟩
    simp only [List.mem_cons, List.not_mem_nil, or_false] at hx
    rcases hx with rfl | rfl | rfl | rfl | rfl | rfl
    · simp only [gd]; decide +kernel
    · simp only [gd]; exact strOk_k kd
    · simp only [gd]; exact strOk_y y
    · simp only [gd]
    · simp only [gd]
    · rw [show 2 * (j + 1) = (2 * j + 1) + 1 by omega, gd_tup, P.ds_eq, List.length_map]
      refine ⟨h1.2.2.2.2, fun x hx => ?_⟩
      obtain ⟨p, hp, rfl⟩ := List.mem_map.mp hx
      exact gd_P j (h2 p hp)
termination_by k => k
decreasing_by omega
section
variable {N : Nat} {M : Mp} {Q : KQ} {X : KX} {b : Addr} {c e : Int}
theorem at_exG {f : D → Bool} {L : List D} {v : Int} {K : D → Prop} (hall : L.all f = true) (h0 : 0 ≤ v) (h1 : v < (L.length : Int)) (k : ∀ d, f d = true → K d) : ∃ d, atI L v = some d ∧ K d := by
  obtain ⟨i, rfl⟩ : ∃ i : Nat, v = (i : Nat) := ⟨v.toNat, by omega⟩
  have hi : i < L.length := by omega
  refine ⟨L[i], by rw [at_nat, List.getElem?_eq_getElem hi], k _ (List.all_eq_true.mp hall _ (List.getElem_mem hi))⟩
theorem sp_odd_g (hN : 2 ≤ N) (q : ∀ d c' e', gd 8 6 d = true → Q d (mset M b (bag c' e'))) : callI T N 13 [.ref b] (mset M b (bag c e)) Q X := by
  refine call_v (N := N) (n := N - 1) (np := 1) (nn := 2) (b := b13) (ρ := [some (.ref b), none]) (by omega) T13 rfl rfl ?_
  walk_at "s"
  intro a ha
  obtain ⟨hab, hMa⟩ := mset_none ha
  rw [mset_comm (fun e => hab e.symm)]
  walk_at "s"
  rw [mset_comm (a := b) (b := a) (fun e => hab e.symm), mset_mset]
  refine sp_take (by omega) (smallI (by decide) (by decide)) fun v c' e' v0 v1 => ?_
  walk_at "s"
  refine at_exG (f := gd 8 6) (by decide +kernel) v0 v1 fun d hd => ?_
  refine ve_drop a ?_
  rw [mdel_ne hab, mdel_mset hMa]
  exact ve (q d _ _ hd)
theorem cutl_lo {xs : List D} {v : Nat} (h : v ≤ xs.length) : (TT.cutD xs none (some (v : Nat))).length = v := by rw [cut_hi, List.length_take]; omega
theorem cutl_hi {xs : List D} {v : Nat} : (TT.cutD xs (some (v : Nat)) none).length = xs.length - v := by rw [cut_lo, List.length_drop]
theorem sp_replaced_g {B : Nat} (hB : 8 ≤ B) (hB2 : B ≤ 1000) : ∀ (m : Nat) {N : Nat} {M : Mp} {Q : KQ} {X : KX} {b : Addr} {c e : Int} {k : Nat} {d : D}, gd B k d = true → k ≤ 50 → m + 4 ≤ N → (∀ d c' e', gd (B + 1) (k + 6) d = true → Q d (mset M b (bag c' e'))) → callI T N 14 [.ref b, d, .int (m : Nat)] (mset M b (bag c e)) Q X := by
  intro m
  induction m with
  | zero =>
    intro N M Q X b c e k d hd hk hN q
    have hnr := ok_nref (gd_ok d hd)
    refine call_v (N := N) (n := N - 1) (np := 3) (nn := 5) (b := b14) (ρ := [some (.ref b), some (d), some (.int ((0 : Nat) : Int)), none, none]) (by omega) T14 rfl rfl ?_
    walk_at "s"
    exact sp_odd_g (by omega) fun d c e h => ve (q _ _ _ (gd_mono (by omega) d h (by omega)))
  | succ m ih =>
    intro N M Q X b c e k d hd hk hN q
    have hok := gd_ok d hd
    have hnr := ok_nref hok
    refine call_v (N := N) (n := N - 1) (np := 3) (nn := 5) (b := b14) (ρ := [some (.ref b), some (d), some (.int ((m + 1 : Nat) : Int)), none, none]) (by omega) T14 rfl rfl ?_
    walk_at "s"
    rw [isT_tuple]
    by_cases ht : isTup d = true
    rotate_left
    · rw [Bool.not_eq_true] at ht
      rw [ht]
      refine vif_t rfl ?_
      walk_at "s"
      exact sp_odd_g (by omega) fun d c e h => ve (q _ _ _ (gd_mono (by omega) d h (by omega)))
    rw [ht]
    obtain ⟨ps, rfl⟩ : ∃ xs, d = .tup xs := by cases d <;> first | exact ⟨_, rfl⟩ | cases ht
    refine vif_f rfl ?_
    have hok64 := okD_mono _ hok (show k ≤ 64 by omega)
    walk_at "s"
    have e0 : eqD (.tup ps) (.tup []) = decide (ps = []) := by cases ps <;> rfl
    rw [e0]
    by_cases hps0 : ps = []
    · refine vif_t (decide_eq_true hps0) ?_
      walk_at "s"
      exact sp_odd_g (by omega) fun d c e h => ve (q _ _ _ (gd_mono (by omega) d h (by omega)))
    refine vif_f (decide_eq_false hps0) ?_
    have hpos : 0 < ps.length := by cases ps with | nil => exact absurd rfl hps0 | cons => simp
    obtain ⟨k, rfl⟩ : ∃ k', k = k' + 1 := by
      cases k with
      | zero => simp only [gd] at hd; cases hd
      | succ k => exact ⟨k, rfl⟩
    obtain ⟨hl, hx⟩ := gd_tup.mp hd
    have up : ∀ y ∈ ps, gd (B + 1) (k + 6) y = true := fun y hy => gd_mono (by omega) y (hx y hy) (by omega)
    have fine : ∀ (ys : List D) (c e : Int), ys.length ≤ B + 1 → (∀ y ∈ ys, gd (B + 1) (k + 6) y = true) → Q (.tup ys) (mset M b (bag c e)) := fun ys c e h1 h2 => q _ _ _ (by rw [show k + 1 + 6 = (k + 6) + 1 by omega, gd_tup]; exact ⟨h1, h2⟩)
    walk_at "s"
    refine sp_take (by omega) (smallI (by decide) (by decide)) fun v c e v0 v1 => ?_
    walk_at "s"
    refine vifp (fun h => ?_) (fun h => ?_)
    · walk_at "s"
      exact sp_odd_g (by omega) fun d c e h => ve (q _ _ _ (gd_mono (by omega) d h (by omega)))
    walk_at "s"
    refine sp_take (by omega) (smallI (by omega) (by omega)) fun at_ c e a0 a1 => ?_
    walk_at "s"
    refine sp_take (by omega) (smallI (by decide) (by decide)) fun way c e w0 w1 => ?_
    obtain ⟨i, rfl⟩ : ∃ i : Nat, at_ = (i : Nat) := ⟨at_.toNat, by omega⟩
    have hi : i < ps.length := by omega
    have hat : atI ps (i : Nat) = some ps[i] := by rw [at_nat, List.getElem?_eq_getElem hi]
    have ei : ((i : Nat) : Int) + 1 = ((i + 1 : Nat) : Int) := by omega
    have l1 := cutl_lo (xs := ps) (v := i) (by omega)
    have l2 := cutl_hi (xs := ps) (v := i)
    have l3 := cutl_hi (xs := ps) (v := i + 1)
    walk_at "s"
    refine vifp (fun h0 => ?_) (fun h0 => ?_)
    · walk_at "s"
      rw [ei]
      refine And.intro (by rw [l1, l3]; unfold sizeLine; omega) ?_
      refine ve (fine _ _ _ (by rw [List.length_append, l1, l3]; omega) fun x hx => ?_)
      rcases List.mem_append.mp hx with h | h
      · exact up x (cut_mem h)
      · exact up x (cut_mem h)
    walk_at "s"
    refine vifp (fun h1 => ?_) (fun h1 => ?_)
    · walk_at "s"
      refine And.intro (by rw [l1]; show _ ≤ 2 ^ 24; simp only [List.length_singleton]; omega) ?_
      walk_at "s"
      refine And.intro (by rw [List.length_append, l1, l2]; show _ ≤ 2 ^ 24; simp only [List.length_singleton]; omega) ?_
      refine ve (fine _ _ _ (by rw [List.length_append, List.length_append, l1, l2]; simp only [List.length_singleton]; omega) fun x hx => ?_)
      rcases List.mem_append.mp hx with h | h
      · rcases List.mem_append.mp h with h | h
        · exact up x (cut_mem h)
        · rw [List.mem_singleton.mp h]; exact up _ (List.getElem_mem hi)
      · exact up x (cut_mem h)
    walk_at "s"
    refine vifp (fun h2 => ?_) (fun h2 => ?_)
    · walk_at "s"
      refine ve (q _ _ _ ?_)
      rw [show k + 1 + 6 = (k + 6) + 1 by omega, gd_lst]
      exact ⟨by omega, up⟩
    walk_at "s"
    rw [show ((m + 1 : Nat) : Int) - 1 = (m : Nat) by omega]
    refine ih (hx _ (List.getElem_mem hi)) (by omega) (by omega) fun d c e hd' => ?_
    walk_at "s"
    refine And.intro (by rw [l1]; show _ ≤ 2 ^ 24; simp only [List.length_singleton]; omega) ?_
    walk_at "s"
    rw [ei]
    refine And.intro (by rw [List.length_append, l1, l3]; show _ ≤ 2 ^ 24; simp only [List.length_singleton]; omega) ?_
    refine ve (fine _ _ _ (by rw [List.length_append, List.length_append, l1, l3]; simp only [List.length_singleton]; omega) fun x hx => ?_)
    rcases List.mem_append.mp hx with h | h
    · rcases List.mem_append.mp h with h | h
      · exact up x (cut_mem h)
      · rw [List.mem_singleton.mp h]; exact hd'
    · exact up x (cut_mem h)
end
end Hd
set_option Elab.async false
set_option linter.all false
set_option maxRecDepth 100000
set_option maxHeartbeats 1000000
set_option pp.maxSteps 1200
/-! KN: things at the bounds (k01). -/
namespace Hd
open PySem PySem.Spec PyProof.Rows L2 TT
local macro_rules | `(tactic| walk_at "m") => `(tactic| first | with_reducible exact mset_same | with_reducible assumption | (with_reducible refine' Nw.now ?_; rotate_right; assumption) | (with_reducible refine' Nw.gw ?_; rotate_right; assumption) | (with_reducible refine' Nw.gg ?_; rotate_right; assumption) | (with_reducible refine' Nw.gr ?_; rotate_right; assumption) | (with_reducible refine' Mw.mo ?_; rotate_right; assumption) | (with_reducible refine' Mw.gw ?_; rotate_right; assumption) | (with_reducible refine' Mw.gg ?_; rotate_right; assumption) | (with_reducible refine' Mw.gr ?_; rotate_right; assumption) | with_reducible exact memY_y | (with_reducible refine memY_h ?_; assumption) | with_reducible exact yard_plan | with_reducible exact yard_now | with_reducible exact yard_ahead | with_reducible exact now_tick | with_reducible exact now_words | with_reducible exact now_begun | with_reducible exact now_rows | with_reducible exact mom_plan | with_reducible exact mom_posts | with_reducible exact mom_rows_of | with_reducible exact mom_at | with_reducible exact mom_words | with_reducible exact mom_begun | with_reducible exact mom_done | (with_reducible refine at_words0 ?_; omega) | (with_reducible refine ix_words0 ?_; omega) | (with_reducible refine at_words ?_; (try dsimp only); omega) | (with_reducible refine at_begun ?_; (try dsimp only); omega) | (with_reducible refine ix_words ?_; (try dsimp only); omega) | (with_reducible refine ix_begun ?_; (try dsimp only); omega) | (with_reducible refine' at_ent ?_; rotate_right; assumption) | (with_reducible refine' at_post ?_; rotate_right; assumption) | (with_reducible refine' at_rowsF ?_; rotate_right; assumption) | (with_reducible refine Eq.trans (memY_o ?_ ?_) ?_; assumption; assumption; walk_at "m") | (with_reducible refine Eq.trans (mem3_o ?_ ?_ ?_) ?_; assumption; assumption; assumption; walk_at "m") | (with_reducible refine Eq.trans (mset_ne ?_) ?_; (first | assumption | (apply Ne.symm; assumption)); walk_at "m"))
local macro_rules | `(tactic| walk_at "c") => `(tactic| first | trivial | omega | assumption | (refine rows_lt ?_; (try dsimp only); omega) | (unfold momF; rfl) | (unfold yardF; rfl) | (refine' ei _ ?_ ?_; rotate_left; (focus (walk_at "m")); rfl) | (refine And.intro ?_ ?_ <;> first | omega | decide | assumption | exact isiC_of rfl | exact isiC_of (by assumption) | exact isiC_lst (by assumption)) | (refine Or.inr ?_; constructor <;> omega) | (refine Or.inl ?_; constructor <;> omega) | decide)
local macro_rules | `(tactic| walk_at "w") => `(tactic| first | rw [A3.sw_down (by assumption) (by omega)] | rw [A3.sw_runs (by assumption) (by omega)] | rw [A3.sw_off (by assumption) (by omega)] | rw [A3.sw_fell (by assumption) (by omega)] | rw [A3.sw_fin (by assumption) (by omega)] | rw [A3.sg_nil (by assumption) (by omega)] | rw [A3.sr_stop (by assumption)] | rw [A3.sr_bgn (by assumption)] | rw [A3.sr_gave (by assumption)] | rw [A3.sr_off (by assumption)] | rw [memY_sh (by assumption)] | rw [memY_sy] | rw [mem3_set (by assumption) (by assumption) (by assumption), mset_mset] | rw [mem3_set (by assumption) (by assumption) (by assumption)])
local macro_rules | `(tactic| walk_at "s") => `(tactic| first | (refine' ei _ ?_ ?_; rotate_left; (focus (first | walk_at "m" | rfl)); walk_at "s") | (refine And.intro ?_ ?_; (focus (walk_at "c")); walk_at "s") | (refine vlit_t ?_; walk_at "s") | (refine vlit_f ?_; walk_at "s") | (walk_at "w"; walk_at "s") | (try conv => whnf))
local macro_rules | `(tactic| walk_at "t") => `(tactic| first | (refine vif_t rfl ?_; walk_at "s") | (refine vif_f rfl ?_; walk_at "s") | (refine vif_t (by decide +kernel) ?_; walk_at "s") | (refine vif_f (by decide +kernel) ?_; walk_at "s"))

local macro_rules | `(tactic| walk_at "p") => `(tactic| (refine And.intro (by repeat (first | exact Nat.zero_lt_succ _ | refine putA_lt ?_)) ?_; walk_at "s"))
theorem k3 {w kind way most within posts : D} : TT.cutD [w, kind, way, most, within, posts] none (some 3) = [w, kind, way] := cut_hi (i := 3)
theorem k4 {w kind way most within posts : D} : TT.cutD [w, kind, way, most, within, posts] none (some 4) = [w, kind, way, most] := cut_hi (i := 4)
theorem k5 {w kind way most within posts : D} : TT.cutD [w, kind, way, most, within, posts] none (some 5) = [w, kind, way, most, within] := cut_hi (i := 5)
theorem k4' {w kind way most within posts : D} : TT.cutD [w, kind, way, most, within, posts] (some 4) none = [within, posts] := cut_lo (i := 4)
theorem k5' {w kind way most within posts : D} : TT.cutD [w, kind, way, most, within, posts] (some 5) none = [posts] := cut_lo (i := 5)
theorem okT {k : Nat} {xs : List D} (h : ∀ x ∈ xs, okD k x = true) : okD (k + 1) (.tup xs) = true := by simp only [okD]; exact okDs_iff.mpr h
theorem okI {k : Nat} {i : Int} : okD k (.int i) = true := by simp only [okD]
theorem okRep {k n : Nat} {x : D} (h : okD k x = true) : okD (k + 1) (.tup (List.replicate n x)) = true := okT fun y hy => by rw [List.eq_of_mem_replicate hy]; exact h
theorem okWk {k : Nat} {kd : Kd} : okD (k + 1) (P.wk kd).d = true := by
  show okD (k + 1) (.tup [.str w_worker, .str kd.s]) = true
  refine okT fun x hx => ?_
  simp only [List.mem_cons, List.not_mem_nil, or_false] at hx
  rcases hx with rfl | rfl
  · simp only [okD]; decide +kernel
  · simp only [okD]; exact strOk_k kd
theorem mset3 {M : Mp} {a b : Addr} {x y z : MO} (h : a ≠ b) : mset (mset (mset M a x) b y) a z = mset (mset M a z) b y := by
  rw [mset_comm (a := b) (b := a) (fun e => h e.symm), mset_mset]
theorem ok_snoc {L : List D} {x : D} (h : ∀ d ∈ L, okD 60 d = true) (hx : okD 60 x = true) : ∀ d ∈ L ++ [x], okD 60 d = true := fun d hd => by
  rcases List.mem_append.mp hd with hd | hd
  · exact h d hd
  · rw [List.mem_singleton.mp hd]; exact hx
structure Wf (w kind way most within posts : D) : Prop where
  w : okD 20 w = true
  kind : okD 20 kind = true
  way : okD 20 way = true
  most : okD 20 most = true
  within : okD 20 within = true
  posts : okD 20 posts = true
theorem Wf.t6 {w kind way most within posts a b c : D} (h : Wf w kind way most within posts) {k : Nat} (hk : 20 ≤ k) (ha : okD k a = true) (hb : okD k b = true) (hc : okD k c = true) : okD (k + 1) (.tup [w, kind, way, a, b, c]) = true := okT fun x hx => by
  simp only [List.mem_cons, List.not_mem_nil, or_false] at hx
  rcases hx with rfl | rfl | rfl | rfl | rfl | rfl
  · exact okD_mono _ h.w hk
  · exact okD_mono _ h.kind hk
  · exact okD_mono _ h.way hk
  · exact ha
  · exact hb
  · exact hc
section
variable {N : Nat} {M : Mp} {Q : KQ} {X : KX} {b : Addr} {c e : Int}
theorem sp_edges {w kind way most within posts : D} (t : Wf w kind way most within posts) (hN : 6 ≤ N) (q : ∀ ds c e, (∀ d ∈ ds, okD 60 d = true) → ds.length ≤ 1000 → Q (.lst ds) (mset M b (bag c e))) : callI T N 18 [.ref b, .tup [w, kind, way, most, within, posts]] (mset M b (bag c e)) Q X := by
  refine call_v (N := N) (n := N - 1) (np := 2) (nn := 8) (b := b18) (ρ := [some (.ref b), some (.tup [w, kind, way, most, within, posts]), none, none, none, none, none, none]) (by omega) T18 rfl rfl ?_
  walk_at "s"
  refine vmap (fun i : Int => D.int i) (fun i => .tup [w, kind, way, .int i, within, posts]) [-1, 0, 20, 21] rfl trivial ?_ ?_
  rotate_left
  · intro i hi Q h
    walk_at "s"
    rw [k3]
    refine And.intro (by simp [sizeLine]) ?_
    walk_at "s"
    rw [k4']
    refine And.intro (by simp [sizeLine]) ?_
    exact h
  obtain ⟨L1, e1, o1, n1⟩ : ∃ L, L = List.map (fun i : Int => D.tup [w, kind, way, D.int i, within, posts]) [-1, 0, 20, 21] ∧ (∀ d ∈ L, okD 60 d = true) ∧ L.length = 4 := ⟨_, rfl, fun d hd => by
    obtain ⟨i, _, rfl⟩ := List.mem_map.mp hd
    exact okD_mono _ (t.t6 (Nat.le_refl _) okI t.within t.posts) (by omega), rfl⟩
  rw [← e1]
  walk_at "s"
  refine vmap (fun i : Int => D.int i) (fun i => .tup [w, kind, way, most, .int i, posts]) [0, 1, 100, 101] rfl trivial ?_ ?_
  rotate_left
  · intro i hi Q h
    walk_at "s"
    rw [k4]
    refine And.intro (by simp [sizeLine]) ?_
    walk_at "s"
    rw [k5']
    refine And.intro (by simp [sizeLine]) ?_
    exact h
  obtain ⟨L2, e2, o2, n2⟩ : ∃ L, L = List.map (fun i : Int => D.tup [w, kind, way, most, D.int i, posts]) [0, 1, 100, 101] ∧ (∀ d ∈ L, okD 60 d = true) ∧ L.length = 4 := ⟨_, rfl, fun d hd => by
    obtain ⟨i, _, rfl⟩ := List.mem_map.mp hd
    exact okD_mono _ (t.t6 (Nat.le_refl _) t.most okI t.posts) (by omega), rfl⟩
  rw [← e2]
  walk_at "s"
  refine And.intro (by rw [n1, n2]; simp [sizeLine]) ?_
  walk_at "s"
  refine vcomp (fun i : Int => D.int i) (fun xs acc M' => (∃ c e, M' = mset M b (bag c e)) ∧ (∀ d ∈ acc, okD 60 d = true) ∧ acc.length + xs.length = 4 ∧ ∀ i ∈ xs, 0 ≤ i ∧ i ≤ 9) [0, 7, 8, 9] rfl ⟨⟨_, _, rfl⟩, fun _ h => (by cases h), rfl, by decide⟩ (fun _ _ _ _ => trivial) ?_ ?_
  rotate_left
  · rintro i xs acc M' ⟨⟨c, e, rfl⟩, oa, na, hi⟩
    obtain ⟨hi1, hi2⟩ := List.forall_mem_cons.mp hi
    walk_at "s"
    rw [k5]
    refine sp_law_worker (by omega) fun kd c e => ?_
    walk_at "s"
    refine And.intro ⟨by omega, by omega, by simp⟩ ?_
    rw [rep_flat]
    walk_at "s"
    refine And.intro (by simp [sizeLine]) ?_
    refine ⟨⟨_, _, rfl⟩, fun d hd => ?_, by rw [List.length_append, List.length_singleton]; rw [List.length_cons] at na; omega, hi2⟩
    rcases List.mem_append.mp hd with hd | hd
    · exact oa d hd
    · rw [List.mem_singleton.mp hd]
      exact okD_mono _ (t.t6 (Nat.le_refl _) t.most t.within (okRep (k := 19) okWk)) (by omega)
  rintro L3 M' ⟨⟨c, e, rfl⟩, o3, n3, -⟩
  rw [List.length_nil, Nat.add_zero] at n3
  walk_at "s"
  refine And.intro (by rw [List.length_append, n1, n2, n3]; simp [sizeLine]) ?_
  obtain ⟨L4, e4, o4, n4⟩ : ∃ L, L = L1 ++ L2 ++ L3 ∧ (∀ d ∈ L, okD 60 d = true) ∧ L.length = 12 := ⟨_, rfl, fun d hd => by
    rcases List.mem_append.mp hd with hd | hd
    · rcases List.mem_append.mp hd with hd | hd
      · exact o1 d hd
      · exact o2 d hd
    · exact o3 d hd, by rw [List.length_append, List.length_append, n1, n2, n3]⟩
  rw [← e4]
  walk_at "s"
  rw [k5]
  refine And.intro (by simp [sizeLine]) ?_
  have okwo : okD 19 (D.tup [.str w_worker, .str w_once]) = true := okWk (k := 18) (kd := .once)
  have okwf : okD 19 (D.tup [.str w_worker, .str w_fault]) = true := okWk (k := 18) (kd := .fault)
  rw [show Int.toNat 6 = 6 from rfl, rep_flat]
  obtain ⟨W, eW, oW, nW⟩ : ∃ W : List D, W = List.replicate 6 (D.tup [.str w_worker, .str w_once]) ∧ (∀ d ∈ W, okD 19 d = true) ∧ W.length = 6 := ⟨_, rfl, fun d hd => by rw [List.eq_of_mem_replicate hd]; exact okwo, rfl⟩
  rw [← eW]
  have hwide : okD 21 (.tup [w, kind, way, most, within, .tup W]) = true := t.t6 (Nat.le_refl _) t.most t.within (okT (k := 19) oW)
  have mk : ∀ (k : Nat) (xs : List D), 20 ≤ k + 1 → k ≤ 40 → (∀ d ∈ xs, okD k d = true) → okD (k + 2) (.tup [w, kind, way, most, within, .tup xs]) = true := fun k xs hk hk2 h => t.t6 hk (okD_mono _ t.most hk) (okD_mono _ t.within hk) (okT h)
  walk_at "s"
  rw [show ([w, kind, way, most, within] ++ [D.tup W] : List D) = [w, kind, way, most, within, .tup W] from rfl]
  refine vmap (fun i : Int => D.int i) (fun i => .tup [w, kind, way, most, within, .tup (List.replicate i.toNat (.tup [w, kind, way, most, within, .tup W]))]) [7, 8] rfl trivial ?_ ?_
  rotate_left
  · intro i hi Q h
    have hi : 0 ≤ i ∧ i ≤ 9 := by
      simp only [List.mem_cons, List.not_mem_nil, or_false] at hi
      omega
    walk_at "s"
    rw [k5]
    refine And.intro ⟨by omega, by omega, by simp⟩ ?_
    rw [rep_flat]
    walk_at "s"
    refine And.intro (by simp [sizeLine]) ?_
    exact h
  obtain ⟨L5, e5, o5, n5⟩ : ∃ L, L = List.map (fun i : Int => D.tup [w, kind, way, most, within, .tup (List.replicate i.toNat (.tup [w, kind, way, most, within, .tup W]))]) [7, 8] ∧ (∀ d ∈ L, okD 60 d = true) ∧ L.length = 2 := ⟨_, rfl, fun d hd => by
    obtain ⟨i, _, rfl⟩ := List.mem_map.mp hd
    exact okD_mono _ (mk 21 _ (by omega) (by omega) fun d hd => by rw [List.eq_of_mem_replicate hd]; exact hwide) (by omega), rfl⟩
  rw [← e5]
  walk_at "s"
  refine And.intro (by rw [n4, n5]; simp [sizeLine]) ?_
  intro a ha
  obtain ⟨hab, hMa⟩ := mset_none ha
  rw [mset_comm (fun e => hab e.symm)]
  obtain ⟨L6, e6, o6, n6⟩ : ∃ L, L = L4 ++ L5 ∧ (∀ d ∈ L, okD 60 d = true) ∧ L.length = 14 := ⟨_, rfl, fun d hd => by
    rcases List.mem_append.mp hd with hd | hd
    · exact o4 d hd
    · exact o5 d hd, by rw [List.length_append, n4, n5]⟩
  rw [← e6]
  walk_at "s"
  refine And.intro ⟨by omega, by omega, by simp⟩ ?_
  rw [rep_flat]
  walk_at "s"
  refine And.intro (by simp [sizeLine]) ?_
  walk_at "s"
  rw [k5]
  refine And.intro (by simp [sizeLine]) ?_
  walk_at "s"
  refine And.intro (by rw [n6]; simp [sizeLine]) ?_
  rw [mset3 hab]
  have rep : ∀ (k m : Nat) (x : D), okD k x = true → ∀ d ∈ List.replicate m x, okD k d = true := fun k m x h d hd => by rw [List.eq_of_mem_replicate hd]; exact h
  have snoc : ∀ (k : Nat) (L : List D) (x : D), (∀ d ∈ L, okD k d = true) → okD k x = true → ∀ d ∈ L ++ [x], okD k d = true := fun k L x h hx d hd => by
    rcases List.mem_append.mp hd with hd | hd
    · exact h d hd
    · rw [List.mem_singleton.mp hd]; exact hx
  have o7 := ok_snoc o6 (okD_mono _ (mk 21 (List.replicate 8 (.tup [w, kind, way, most, within, .tup W]) ++ [.tup [.str w_worker, .str w_once]]) (by omega) (by omega) (snoc _ _ _ (rep _ _ _ hwide) (okD_mono _ okwo (by omega)))) (show 21 + 2 ≤ 60 by omega))
  have n7 : (L6 ++ [D.tup [w, kind, way, most, within, .tup (List.replicate 8 (.tup [w, kind, way, most, within, .tup W]) ++ [.tup [.str w_worker, .str w_once]])]]).length = 15 := by rw [List.length_append, n6]; rfl
  rw [show (L6 ++ [D.tup ([w, kind, way, most, within] ++ [D.tup (List.replicate (Int.toNat 8) (D.tup [w, kind, way, most, within, D.tup W]) ++ [D.tup [D.str w_worker, D.str w_once]])])]) = L6 ++ [D.tup [w, kind, way, most, within, .tup (List.replicate 8 (.tup [w, kind, way, most, within, .tup W]) ++ [.tup [.str w_worker, .str w_once]])]] from rfl]
  generalize (L6 ++ [D.tup [w, kind, way, most, within, .tup (List.replicate 8 (.tup [w, kind, way, most, within, .tup W]) ++ [.tup [.str w_worker, .str w_once]])]]) = L7 at *
  walk_at "s"
  refine And.intro ⟨by omega, by omega, by simp⟩ ?_
  rw [rep_flat]
  walk_at "s"
  rw [rep_flat, k5]
  refine And.intro (by simp [sizeLine]) ?_
  walk_at "s"
  refine And.intro (by simp [sizeLine]) ?_
  walk_at "s"
  refine And.intro (by simp [sizeLine]) ?_
  walk_at "s"
  refine And.intro (by rw [n7]; simp [sizeLine]) ?_
  rw [mset3 hab]
  obtain ⟨X2, eX2, oX2⟩ : ∃ X2 : D, X2 = .tup [w, kind, way, most, within, .tup (List.replicate 7 (.tup [w, kind, way, most, within, .tup W]) ++ [.tup [w, kind, way, most, within, .tup (List.replicate 9 (.tup [.str w_worker, .str w_once]))]])] ∧ okD 60 X2 = true :=
    ⟨_, rfl, okD_mono _ (mk 21 _ (by omega) (by omega) (snoc _ _ _ (rep _ _ _ hwide) (mk 19 _ (by omega) (by omega) (rep _ _ _ okwo)))) (show 21 + 2 ≤ 60 by omega)⟩
  rw [show (L7 ++ [D.tup ([w, kind, way, most, within] ++ [D.tup (List.replicate (Int.toNat 7) (D.tup [w, kind, way, most, within, D.tup W]) ++ [D.tup ([w, kind, way, most, within] ++ [D.tup (List.replicate (Int.toNat 9) (D.tup [D.str w_worker, D.str w_once]))])])])]) = L7 ++ [X2] by rw [eX2]; rfl]
  have o8 := ok_snoc o7 oX2
  have n8 : (L7 ++ [X2]).length = 16 := by rw [List.length_append, n7]; rfl
  generalize L7 ++ [X2] = L8 at *
  clear eX2 oX2 o7 n7
  walk_at "s"
  rw [rep_flat, k5]
  refine And.intro (by simp [sizeLine]) ?_
  walk_at "s"
  refine And.intro ⟨by omega, by omega, by simp⟩ ?_
  rw [rep_flat]
  walk_at "s"
  rw [k5]
  refine And.intro (by simp [sizeLine]) ?_
  walk_at "s"
  refine And.intro (by simp [sizeLine]) ?_
  walk_at "s"
  refine And.intro (by simp [sizeLine]) ?_
  walk_at "s"
  refine And.intro (by rw [n8]; simp [sizeLine]) ?_
  rw [mset3 hab]
  obtain ⟨X9, eX, oX⟩ : ∃ X : D, X = .tup [w, kind, way, most, within, .tup (List.replicate 6 (.tup [w, kind, way, most, within, .tup (List.replicate 8 (.tup [.str w_worker, .str w_fault]))]) ++ [.tup [w, kind, way, most, within, .tup (TT.cutD W none (some 4))]])] ∧ okD 60 X = true :=
    ⟨_, rfl, okD_mono _ (mk 21 _ (by omega) (by omega) (snoc _ _ _ (rep _ _ _ (mk 19 _ (by omega) (by omega) (rep _ _ _ okwf))) (mk 19 _ (by omega) (by omega) fun d hd => oW d (cut_mem hd)))) (show 21 + 2 ≤ 60 by omega)⟩
  rw [show (L8 ++ [D.tup ([w, kind, way, most, within] ++ [D.tup (List.replicate (Int.toNat 6) (D.tup ([w, kind, way, most, within] ++ [D.tup (List.replicate (Int.toNat 8) (D.tup [D.str w_worker, D.str w_fault]))])) ++ [D.tup ([w, kind, way, most, within] ++ [D.tup (TT.cutD W none (some 4))])])])]) = L8 ++ [X9] by rw [eX]; rfl]
  have o9 := ok_snoc o8 oX
  have n9 : (L8 ++ [X9]).length = 17 := by rw [List.length_append, n8]; rfl
  generalize L8 ++ [X9] = L9 at *
  clear eX oX o8 n8
  walk_at "s"
  rw [rep_flat, k5]
  refine And.intro (by simp [sizeLine]) ?_
  walk_at "s"
  refine And.intro ⟨by omega, by omega, by simp⟩ ?_
  rw [rep_flat]
  walk_at "s"
  rw [k5]
  refine And.intro (by simp [sizeLine]) ?_
  walk_at "s"
  refine And.intro (by simp [sizeLine]) ?_
  walk_at "s"
  refine And.intro (by simp [sizeLine]) ?_
  walk_at "s"
  refine And.intro (by rw [n9]; simp [sizeLine]) ?_
  rw [mset3 hab]
  obtain ⟨X10, eX, oX⟩ : ∃ X : D, X = .tup [w, kind, way, most, within, .tup (List.replicate 6 (.tup [w, kind, way, most, within, .tup (List.replicate 8 (.tup [.str w_worker, .str w_fault]))]) ++ [.tup [w, kind, way, most, within, .tup (TT.cutD W none (some 5))]])] ∧ okD 60 X = true :=
    ⟨_, rfl, okD_mono _ (mk 21 _ (by omega) (by omega) (snoc _ _ _ (rep _ _ _ (mk 19 _ (by omega) (by omega) (rep _ _ _ okwf))) (mk 19 _ (by omega) (by omega) fun d hd => oW d (cut_mem hd)))) (show 21 + 2 ≤ 60 by omega)⟩
  rw [show (L9 ++ [D.tup ([w, kind, way, most, within] ++ [D.tup (List.replicate (Int.toNat 6) (D.tup ([w, kind, way, most, within] ++ [D.tup (List.replicate (Int.toNat 8) (D.tup [D.str w_worker, D.str w_fault]))])) ++ [D.tup ([w, kind, way, most, within] ++ [D.tup (TT.cutD W none (some 5))])])])]) = L9 ++ [X10] by rw [eX]; rfl]
  have o10 := ok_snoc o9 oX
  have n10 : (L9 ++ [X10]).length = 18 := by rw [List.length_append, n9]; rfl
  generalize L9 ++ [X10] = L10 at *
  clear eX oX o9 n9
  walk_at "s"
  refine vfor (fun i : Int => D.int i) (fun xs ρ M' => ∃ L o4 o5 o6, ρ = [some (.ref b), some (.tup [w, kind, way, most, within, posts]), some (.ref a), some (.tup [w, kind, way, most, within, .tup W]), o4, o5, o6, none] ∧ M' = mset (mset M a (.lst L)) b (bag c e) ∧ (∀ d ∈ L, okD 60 d = true) ∧ L.length + xs.length = 20 ∧ ∀ i ∈ xs, 0 ≤ i ∧ i ≤ 6)
    [5, 6] rfl ⟨L10, none, none, none, rfl, rfl, o10, by rw [n10]; rfl, by decide⟩ (fun _ _ _ _ => trivial) ?_ ?_
  · rintro ρ M' ⟨L, o4, o5, o6, rfl, rfl, oL, nL, -⟩
    rw [List.length_nil, Nat.add_zero] at nL
    walk_at "s"
    refine ve_freeze a (ds := L) (by rw [mset_ne hab]; exact mset_same) ?_
    rw [sub_same, mdel_ne hab, mdel_mset hMa]
    exact ve (q L c e oL (by omega))
  rintro i xs ρ M' ⟨L, o4, o5, o6, rfl, rfl, oL, nL, hi⟩
  obtain ⟨hi1, hi2⟩ := List.forall_mem_cons.mp hi
  rw [List.length_cons] at nL
  walk_at "s"
  rw [k5]
  refine And.intro (by simp [sizeLine]) ?_
  walk_at "s"
  have hi0 : 0 ≤ i ∧ i ≤ 6 := hi1
  refine vfor (fun d : D => d) (fun ts ρ M' => ∃ y j o6, M' = mset (mset M a (.lst L)) b (bag c e) ∧ ρ = [some (.ref b), some (.tup [w, kind, way, most, within, posts]), some (.ref a), some (.tup [w, kind, way, most, within, .tup W]), some (.int i), some y, o6, none] ∧ okD (21 + 2 * j) y = true ∧ j + ts.length ≤ 6)
    (rangeD 0 i.toNat) (by rw [List.map_id']) ⟨_, 0, _, rfl, rfl, mk 19 [] (by omega) (by omega) (fun _ h => (by cases h)), by rw [rangeD_length]; omega⟩ (fun _ _ _ _ => trivial) ?_ ?_
  · rintro ρ M' ⟨y, j, o6, rfl, rfl, oy, hj⟩
    have hj : j + 0 ≤ 6 := hj
    walk_at "s"
    refine And.intro (by show _ < 2 ^ 24; omega) ?_
    rw [mset3 hab]
    exact vd ⟨L ++ [y], _, _, _, rfl, rfl, ok_snoc oL (okD_mono _ oy (by omega)), by rw [List.length_append, List.length_singleton]; omega, hi2⟩
  · rintro z ts ρ M' ⟨y, j, o6, rfl, rfl, oy, hj⟩
    rw [List.length_cons] at hj
    walk_at "s"
    rw [k5]
    refine And.intro (by simp [sizeLine]) ?_
    exact vd ⟨_, j + 1, _, rfl, rfl, by rw [show 21 + 2 * (j + 1) = (21 + 2 * j) + 2 by omega]; exact mk _ [y] (by omega) (by omega) (fun d hd => by rw [List.mem_singleton.mp hd]; exact oy), by omega⟩
end
end Hd
set_option Elab.async false
set_option linter.all false
set_option maxRecDepth 100000
set_option maxHeartbeats 1000000
set_option pp.maxSteps 1200
/-! L01: what is a tree (k01). -/
namespace Hd
open PySem PySem.Spec PyProof.Rows L2 TT
local macro_rules | `(tactic| walk_at "m") => `(tactic| first | with_reducible exact mset_same | with_reducible assumption | (with_reducible refine' Nw.now ?_; rotate_right; assumption) | (with_reducible refine' Nw.gw ?_; rotate_right; assumption) | (with_reducible refine' Nw.gg ?_; rotate_right; assumption) | (with_reducible refine' Nw.gr ?_; rotate_right; assumption) | (with_reducible refine' Mw.mo ?_; rotate_right; assumption) | (with_reducible refine' Mw.gw ?_; rotate_right; assumption) | (with_reducible refine' Mw.gg ?_; rotate_right; assumption) | (with_reducible refine' Mw.gr ?_; rotate_right; assumption) | with_reducible exact memY_y | (with_reducible refine memY_h ?_; assumption) | with_reducible exact yard_plan | with_reducible exact yard_now | with_reducible exact yard_ahead | with_reducible exact now_tick | with_reducible exact now_words | with_reducible exact now_begun | with_reducible exact now_rows | with_reducible exact mom_plan | with_reducible exact mom_posts | with_reducible exact mom_rows_of | with_reducible exact mom_at | with_reducible exact mom_words | with_reducible exact mom_begun | with_reducible exact mom_done | (with_reducible refine at_words0 ?_; omega) | (with_reducible refine ix_words0 ?_; omega) | (with_reducible refine at_words ?_; (try dsimp only); omega) | (with_reducible refine at_begun ?_; (try dsimp only); omega) | (with_reducible refine ix_words ?_; (try dsimp only); omega) | (with_reducible refine ix_begun ?_; (try dsimp only); omega) | (with_reducible refine' at_ent ?_; rotate_right; assumption) | (with_reducible refine' at_post ?_; rotate_right; assumption) | (with_reducible refine' at_rowsF ?_; rotate_right; assumption) | (with_reducible refine Eq.trans (memY_o ?_ ?_) ?_; assumption; assumption; walk_at "m") | (with_reducible refine Eq.trans (mem3_o ?_ ?_ ?_) ?_; assumption; assumption; assumption; walk_at "m") | (with_reducible refine Eq.trans (mset_ne ?_) ?_; (first | assumption | (apply Ne.symm; assumption)); walk_at "m"))
local macro_rules | `(tactic| walk_at "c") => `(tactic| first | trivial | omega | assumption | (refine rows_lt ?_; (try dsimp only); omega) | (unfold momF; rfl) | (unfold yardF; rfl) | (refine' ei _ ?_ ?_; rotate_left; (focus (walk_at "m")); rfl) | (refine And.intro ?_ ?_ <;> first | omega | decide | assumption | exact isiC_of rfl | exact isiC_of (by assumption) | exact isiC_lst (by assumption)) | (refine Or.inr ?_; constructor <;> omega) | (refine Or.inl ?_; constructor <;> omega) | decide)
local macro_rules | `(tactic| walk_at "w") => `(tactic| first | rw [A3.sw_down (by assumption) (by omega)] | rw [A3.sw_runs (by assumption) (by omega)] | rw [A3.sw_off (by assumption) (by omega)] | rw [A3.sw_fell (by assumption) (by omega)] | rw [A3.sw_fin (by assumption) (by omega)] | rw [A3.sg_nil (by assumption) (by omega)] | rw [A3.sr_stop (by assumption)] | rw [A3.sr_bgn (by assumption)] | rw [A3.sr_gave (by assumption)] | rw [A3.sr_off (by assumption)] | rw [memY_sh (by assumption)] | rw [memY_sy] | rw [mem3_set (by assumption) (by assumption) (by assumption), mset_mset] | rw [mem3_set (by assumption) (by assumption) (by assumption)])
local macro_rules | `(tactic| walk_at "s") => `(tactic| first | (refine' ei _ ?_ ?_; rotate_left; (focus (first | walk_at "m" | rfl)); walk_at "s") | (refine And.intro ?_ ?_; (focus (walk_at "c")); walk_at "s") | (refine vlit_t ?_; walk_at "s") | (refine vlit_f ?_; walk_at "s") | (walk_at "w"; walk_at "s") | (try conv => whnf))
local macro_rules | `(tactic| walk_at "t") => `(tactic| first | (refine vif_t rfl ?_; walk_at "s") | (refine vif_f rfl ?_; walk_at "s") | (refine vif_t (by decide +kernel) ?_; walk_at "s") | (refine vif_f (by decide +kernel) ?_; walk_at "s"))

local macro_rules | `(tactic| walk_at "p") => `(tactic| (refine And.intro (by repeat (first | exact Nat.zero_lt_succ _ | refine putA_lt ?_)) ?_; walk_at "s"))
theorem wf_of {p : P} (hp : p.ok 6 = true) (hT : p.isT = true) : ∃ w kind way most within posts, p.d = .tup [w, kind, way, most, within, posts] ∧ Wf w kind way most within posts := by
  have h := gd_P 6 hp
  cases p with
  | wk kd => cases hT
  | wt kd y m v ps =>
    refine ⟨_, _, _, _, _, _, rfl, ?_⟩
    have h : gd 8 (12 + 1) (.tup [.str w_watcher, .str kd.s, .str y.s, .int m, .int v, .tup (P.ds ps)]) = true := h
    have hx := (gd_tup.mp h).2
    have ok : ∀ x ∈ [D.str w_watcher, .str kd.s, .str y.s, .int m, .int v, .tup (P.ds ps)], okD 20 x = true := fun x h => okD_mono _ (gd_ok x (hx x h)) (by omega)
    simp only [List.forall_mem_cons] at ok
    exact ⟨ok.1, ok.2.1, ok.2.2.1, ok.2.2.2.1, ok.2.2.2.2.1, ok.2.2.2.2.2.1⟩
section
variable {N : Nat} {M : Mp} {Q : KQ} {X : KX} {b : Addr} {c e : Int}
theorem cell01 {ns : List Int} {kk : Nat} {p2 p3 p4 p5 : Option D} {A : AEnds} (hl : ns.length ≤ 63) (hk : kk ≤ 100) (hN : 55 ≤ N)
    (q : ∀ M' p2 p3 p4 p5, A.nx [some (.scr ns), some (.int (kk : Nat)), p2, p3, p4, p5] M') :
    vB (callI T (N - 1)) b19_12 A [some (.scr ns), some (.int (kk : Nat)), p2, p3, p4, p5] M := by
  walk_at "s"
  refine sp_bag (by omega) (by omega) fun b c e hb => ?_
  walk_at "s"
  refine sp_law_tree (by omega) fun p c e hp hz hT => ?_
  obtain ⟨w, kind, way, most, within, posts, ed, wf⟩ := wf_of hp hT
  have gP := gd_P 6 hp
  walk_at "s"
  refine sp_is_tree hp hT hz (by omega) ?_
  walk_at "s"
  refine sp_replaced_g (B := 8) (by omega) (by omega) 6 gP (by omega) (by omega) fun d c e hd => ?_
  walk_at "s"
  refine sp_take (by omega) (smallI (by decide) (by decide)) fun v c e v0 v1 => ?_
  have fin : ∀ (d : D) (c e : Int), okD 60 d = true → vB (callI T (N - 1)) b19_5 A [some (.scr ns), some (.int (kk : Nat)), some (.ref b), some p.d, some d, p5] (mset M b (bag c e)) := by
    intro d c e ho
    walk_at "s"
    refine sp_right_g ho (by omega) ?_
    walk_at "s"
    refine sp_odd_g (by omega) fun d2 c e hd2 => ?_
    walk_at "s"
    refine sp_right_g (okD_mono _ (gd_ok d2 hd2) (by omega)) (by omega) ?_
    walk_at "s"
    rw [ed]
    refine sp_edges wf (by omega) fun ds c e ods nds => ?_
    rw [← ed]
    walk_at "s"
    refine And.intro (by unfold sizeLine; omega) ?_
    walk_at "s"
    refine vsift (fun z : D => z) (fun z : D => z) (fun _ => false) ds (by rw [List.map_id']) trivial ?_ ?_
    rotate_left
    · intro z hz
      refine And.intro (fun Q h => ?_) (fun h _ => (nomatch h))
      walk_at "s"
      refine sp_right_g (ods z hz) (by omega) ?_
      exact h
    have e0 : (ds.filter fun _ => false) = [] := by rw [List.filter_eq_nil_iff]; exact fun _ _ h => nomatch h
    rw [e0]
    have okn : okD 64 (.lst ([] : List D)) = true := by decide +kernel
    rw [show List.map (fun z : D => z) [] = ([] : List D) from rfl]
    walk_at "s"
    exact q _ _ _ _ _
  walk_at "s"
  refine vifp (fun h => ?_) (fun h => ?_)
  · walk_at "s"
    refine sp_replaced_g (B := 9) (by omega) (by omega) 6 hd (by omega) (by omega) fun d c e hd => ?_
    walk_at "s"
    exact fin d c e (okD_mono _ (gd_ok d hd) (by omega))
  · exact fin d c e (okD_mono _ (gd_ok d hd) (by omega))
theorem sp_law_1 {ns : List Int} (hl : ns.length ≤ 63) (hN : 60 ≤ N) (q : ∀ M, Q (.bl true) M) : callI T N 19 [.scr ns] M Q X := by
  refine call_v (N := N) (n := N - 1) (np := 1) (nn := 6) (b := b19) (ρ := [some (.scr ns), none, none, none, none, none]) (by omega) T19 rfl rfl ?_
  walk_at "s"
  have hmm : ((if (63 : Int) < ns.length then 63 else (ns.length : Int)) + 2).toNat ≤ 65 := by split <;> omega
  generalize ((if (63 : Int) < ns.length then 63 else (ns.length : Int)) + 2).toNat = mm at *
  refine vfor (fun k : Nat => D.int (k : Nat)) (fun ks ρ M' => ∃ o1 o2 o3 o4 o5, ρ = [some (.scr ns), o1, o2, o3, o4, o5] ∧ ∀ k ∈ ks, k ≤ 100)
    (List.range mm) range0 ⟨none, none, none, none, none, rfl, fun k hk => by have := List.mem_range.mp hk; omega⟩ (fun _ _ _ _ => trivial) ?_ ?_
  · rintro ρ M' ⟨o1, o2, o3, o4, o5, rfl, _⟩
    walk_at "s"
    exact ve (q _)
  rintro k ks ρ M' ⟨o1, o2, o3, o4, o5, rfl, hk⟩
  obtain ⟨hk1, hk2⟩ := List.forall_mem_cons.mp hk
  refine cell01 hl hk1 (by omega) fun M' p2 p3 p4 p5 => ?_
  refine vd ?_
  exact ⟨_, _, _, _, _, rfl, hk2⟩
end
end Hd
set_option Elab.async false
set_option linter.all false
set_option maxRecDepth 100000
set_option maxHeartbeats 1000000
set_option pp.maxSteps 1200
namespace Hd
open PySem PySem.Spec PyProof.Rows L2 TT
theorem main : LawOk T 60 19 := fun ns hl Q q => sp_law_1 hl (by decide) q
end Hd
set_option Elab.async false
set_option linter.all false
set_option maxRecDepth 100000
set_option maxHeartbeats 0
open PySem PySem.W PySem.Calls PyProof.Rows
theorem PySem.Challenge.cw_tendtree_k01_what_is_a_tree_holds : PySem.Challenge.rw_tendtree_k01_what_is_a_tree.Holds := by
  w_on; o_law
  refine HandSHeadRun.head_any (r := OpenLaw.row PySem.Challenge.rw_tendtree_k01_what_is_a_tree) (q := view (OpenLaw.row PySem.Challenge.rw_tendtree_k01_what_is_a_tree).prog [28]) (H := Hd.hk) (ob := Hd.ob) (M := 12000) (loose := Hd.loose) (d := HandSHeadRun.topDef (OpenLaw.row PySem.Challenge.rw_tendtree_k01_what_is_a_tree).prog 28) (kwd := []) Hd.ob_eq
    (by kernel_rfl) (fun s => by kernel_rfl) Hd.run (by kernel_rfl) (by kernel_rfl) (by kernel_rfl) (by rfl) (by first | assumption | decide +kernel) (by decide +kernel) ⟨rfl, rfl, rfl, rfl, rfl, by decide +kernel⟩ ?hw ?hc
  case hw => w_witness2
  case hc =>
    refine L2.walk_ofE (l := PySem.Challenge.rw_tendtree_k01_what_is_a_tree) (n := 63) (k := 2 * 60) (x := "_law_script") (CX := L2.CX0) rfl (by decide) (by kernel_rfl) ⟨rfl, by decide, by decide⟩ ?F (fun _ _ _ _ z => z)
    intro w mg fa h Y G hmg0
    obtain ⟨K, KX, c⟩ := Y
    have hmg : mg ("law" : PySem.Str) = some (.ref fa) := by
      have e : (HandSHeadRun.topDef (OpenLaw.row PySem.Challenge.rw_tendtree_k01_what_is_a_tree).prog 28).name = ("law" : PySem.Str) := by kernel_rfl
      rw [← e]
      exact hmg0
    obtain ⟨fd, pf⟩ := TT.PF.of KX G c Hd.ck (fun h => by cases h) (Hd.dAll c)
    have e := hmg.symm.trans (He.glo_ok KX G (c.fact (f := .glo "law") (TT.hasFa_ok (by decide +kernel))))
    cases e
    have L := fun (base : Heap) => TT.law_end (P := (PySem.Challenge.rw_tendtree_k01_what_is_a_tree).prog) (w := w) (base := base) Hd.main (pf.calls 60 19 (by decide))
    exact ⟨K, fd 19, fun vs H Q _ => TT.liftF K (TT.callI Hd.T 60 19) vs H Q (fun _ _ _ => False), KX, fun s u => pf.ba 19 (by decide) s [u] rfl, (L default).2, fun base _ _ => (L base).1⟩
