import PyProof.Rows.All
import Wide.All
import OpenK.AllK
import Wide.FinOn
import HandS.CallSlots
import HandS.Codes
import HandS.Defaults
import HandS.ExcField
import HandS.ExcInit
import HandS.ForExc
import HandS.ForMost
import HandS.Head0
import HandS.Head1
import HandS.Head2
import HandS.HeadEnd
import HandS.HeadHook1
import HandS.HeadHook2
import HandS.IsInst
import HandS.More
import HandS.RaiseMore
import HandS.SetKeys
import HandS.SortInts
import HandS.StrMore
import HandS.TupLen
import HandS.Wide
import HandS.WideMore
import HandS.WordsExc
import KE.KStateDown
import PySem.Challenge.RW_skewhouse_k23_who_stands_against
set_option Elab.async false
set_option linter.all false
set_option maxRecDepth 100000
set_option maxHeartbeats 0
namespace SK
open PySem PySem.Spec PyProof.Rows L2

inductive Fg where | sh | ow | tm
  deriving DecidableEq
inductive Kd where | lst | tup | ktup | dic (ks : List Key) | dit (ks : List (List Key)) | ins (C : Str) (ns : List Str)
  deriving DecidableEq
inductive D where | non | bl (b : Bool) | int (i : Int) | str (s : Str) | ty (n : String) | cls (c : Str) | nd (f : Fg) (k : Kd) (xs : List D)

/-- the written part and the module's names -/
def Kd.Ok : Kd → Prop
  | .dic ks => ks.Nodup
  | .dit ks => ks.Nodup
  | _ => True
structure Cb where
  K : PySem.W.Frag
  mg : Str → Option Value
/-- with what is lent for the time of a call -/
structure Cn extends Cb where
  T : Hp
mutual
def D.noTm : D → Bool
  | .nd .tm _ _ => false
  | .nd _ _ xs => D.noTms xs
  | _ => true
def D.noTms : List D → Bool
  | [] => true
  | d :: ds => d.noTm && D.noTms ds
end

def Cont (C : Cb) (G : Hp) (a : Addr) : Kd → List V → Prop
  | .lst, vs => SqL C.K G a vs
  | .tup, vs => G a = some (.tup vs)
  | .ktup, vs => SqT C.K G a vs
  | .dic ks, vs => ∃ kvs : List (Key × V), Rd G a (.dK kvs) ∧ kvs.map Prod.fst = ks ∧ kvs.map Prod.snd = vs
  | .dit ks, vs => ∃ kvs : List (List Key × V), Rd G a (.dT kvs) ∧ kvs.map Prod.fst = ks ∧ kvs.map Prod.snd = vs
  | .ins c ns, vs => ∃ (Ca dx : Addr) (fs : List (Str × V)), C.mg c = some (.ref Ca) ∧ G a = some (.ins Ca dx fs) ∧ fs.map Prod.fst = ns ∧ fs.map Prod.snd = vs
def ContO (C : Cb) (H : Hp) (a : Addr) : Kd → List V → Prop
  | .lst, vs => H a = some (.lst vs)
  | .tup, vs => H a = some (.tup vs)
  | .ktup, vs => False
  | .dic ks, vs => ∃ kvs : List (Key × V), H a = some (.dK kvs) ∧ kvs.map Prod.fst = ks ∧ kvs.map Prod.snd = vs
  | .dit ks, vs => ∃ kvs : List (List Key × V), H a = some (.dT kvs) ∧ kvs.map Prod.fst = ks ∧ kvs.map Prod.snd = vs
  | .ins c ns, vs => ∃ (Ca dx : Addr) (fs : List (Str × V)), C.mg c = some (.ref Ca) ∧ H a = some (.ins Ca dx fs) ∧ fs.map Prod.fst = ns ∧ fs.map Prod.snd = vs
section
variable {C : Cb} {F G H H' F' : Hp} {a : Addr} {k : Kd} {vs : List V}
theorem Same.rd {G G' : Hp} {a : Addr} {u : HO} (e : Same G G') (h : Rd G a u) : Rd G' a u := by
  rcases h with h | ⟨o, h⟩
  · exact .inl (e _ _ h)
  · exact .inr ⟨o, e _ _ h⟩
theorem Same.sqt {K : PySem.W.Frag} {H H' : Hp} {a : Addr} {xs : List V} (e : Same H H') (h : SqT K H a xs) : SqT K H' a xs := by
  rcases h with h | h
  · exact .inl (Same.rd e h)
  · exact .inr h
theorem Same.sql {K : PySem.W.Frag} {H H' : Hp} {a : Addr} {xs : List V} (e : Same H H') (h : SqL K H a xs) : SqL K H' a xs := by
  rcases h with h | h
  · exact .inl (Same.rd e h)
  · exact .inr h
theorem ContO.cont (h : ContO C H a k vs) : Cont C H a k vs := by
  cases k with
  | lst => exact .inl (.inl h)
  | tup => exact h
  | ktup => exact h.elim
  | dic ks => obtain ⟨kvs, e, h1, h2⟩ := h; exact ⟨kvs, .inl e, h1, h2⟩
  | dit ks => obtain ⟨kvs, e, h1, h2⟩ := h; exact ⟨kvs, .inl e, h1, h2⟩
  | ins c ns => exact h
theorem Cont.mono (s : Same G F) (h : Cont C G a k vs) : Cont C F a k vs := by
  cases k with
  | lst => exact Same.sql s h
  | tup => exact s _ _ h
  | ktup => exact Same.sqt s h
  | dic ks => obtain ⟨kvs, e, h1, h2⟩ := h; exact ⟨kvs, Same.rd s e, h1, h2⟩
  | dit ks => obtain ⟨kvs, e, h1, h2⟩ := h; exact ⟨kvs, Same.rd s e, h1, h2⟩
  | ins c ns => obtain ⟨Ca, dx, fs, m, e, h1, h2⟩ := h; exact ⟨Ca, dx, fs, m, s _ _ e, h1, h2⟩
theorem ContO.congr (e : H' a = H a) (h : ContO C H a k vs) : ContO C H' a k vs := by
  cases k <;> first | exact h.elim | (simp only [ContO] at h ⊢; rw [e]; exact h)
theorem ContO.alive (h : ContO C H a k vs) : ∃ o, H a = some o := by
  cases k with
  | lst => exact ⟨_, h⟩
  | tup => exact ⟨_, h⟩
  | ktup => exact h.elim
  | dic ks => obtain ⟨kvs, e, _⟩ := h; exact ⟨_, e⟩
  | dit ks => obtain ⟨kvs, e, _⟩ := h; exact ⟨_, e⟩
  | ins c ns => obtain ⟨Ca, dx, fs, m, e, _⟩ := h; exact ⟨_, e⟩
end

mutual
/-- v is d: what is marked sh lies in F for ever; what is marked ow is owned, its addresses are S -/
inductive Own (C : Cn) (F H : Hp) : V → D → List Addr → Prop
  | non : Own C F H .non .non []
  | bl (b : Bool) : Own C F H (.bl b) (.bl b) []
  | int (i : Int) : Own C F H (.int i) (.int i) []
  | str (s : Str) : Own C F H (.str s) (.str s) []
  | ty (n : String) : Own C F H (.ty n) (.ty n) []
  | cls {c : Str} {a : Addr} : C.mg c = some (.ref a) → Own C F H (.ref a) (.cls c) []
  | sh {a : Addr} {k : Kd} {vs : List V} {ds : List D} : Cont C.toCb F a k vs → D.noTms ds = true → Owns C F H vs ds [] → Own C F H (.ref a) (.nd .sh k ds) []
  | tm {a : Addr} {k : Kd} {vs : List V} {ds : List D} : Cont C.toCb C.T a k vs → Owns C F H vs ds [] → Own C F H (.ref a) (.nd .tm k ds) []
  | ow {a : Addr} {k : Kd} {vs : List V} {ds : List D} {S : List Addr} : ContO C.toCb H a k vs → F a = none → (C.T a = none ∧ k.Ok) → a ∉ S → Owns C F H vs ds S → Own C F H (.ref a) (.nd .ow k ds) (a :: S)
inductive Owns (C : Cn) (F H : Hp) : List V → List D → List Addr → Prop
  | nil : Owns C F H [] [] []
  | cons {v : V} {d : D} {vs : List V} {ds : List D} {S T U : List Addr} : Own C F H v d S → Owns C F H vs ds T → (∀ a ∈ S, a ∉ T) → U = S ++ T → Owns C F H (v :: vs) (d :: ds) U
end

section
variable {C : Cn} {F H F' H' : Hp}
mutual
theorem Own.frame (sf : Same F F') : ∀ {v : V} {d : D} {S : List Addr}, Own C F H v d S → (∀ a ∈ S, H' a = H a) → (∀ a ∈ S, F' a = none) → Own C F' H' v d S
  | _, _, _, .non, _, _ => .non
  | _, _, _, .bl b, _, _ => .bl b
  | _, _, _, .int b, _, _ => .int b
  | _, _, _, .str b, _, _ => .str b
  | _, _, _, .ty b, _, _ => .ty b
  | _, _, _, .cls b, _, _ => .cls b
  | _, _, _, .sh c nt os, h1, h2 => .sh (c.mono sf) nt (Owns.frame sf os (fun _ h => nomatch h) (fun _ h => nomatch h))
  | _, _, _, .tm c os, h1, h2 => .tm c (Owns.frame sf os (fun _ h => nomatch h) (fun _ h => nomatch h))
  | _, _, _, .ow c fn tn ni os, h1, h2 => .ow (c.congr (h1 _ List.mem_cons_self)) (h2 _ List.mem_cons_self) tn ni (Owns.frame sf os (fun b hb => h1 b (List.mem_cons_of_mem _ hb)) (fun b hb => h2 b (List.mem_cons_of_mem _ hb)))
theorem Owns.frame (sf : Same F F') : ∀ {vs : List V} {ds : List D} {S : List Addr}, Owns C F H vs ds S → (∀ a ∈ S, H' a = H a) → (∀ a ∈ S, F' a = none) → Owns C F' H' vs ds S
  | _, _, _, .nil, _, _ => .nil
  | _, _, _, .cons o os dj e, h1, h2 => .cons (Own.frame sf o (fun b hb => h1 b (by rw [e]; exact List.mem_append_left _ hb)) (fun b hb => h2 b (by rw [e]; exact List.mem_append_left _ hb)))
      (Owns.frame sf os (fun b hb => h1 b (by rw [e]; exact List.mem_append_right _ hb)) (fun b hb => h2 b (by rw [e]; exact List.mem_append_right _ hb))) dj e
end
mutual
theorem Own.alive : ∀ {v : V} {d : D} {S : List Addr}, Own C F H v d S → ∀ a ∈ S, F a = none ∧ C.T a = none ∧ ∃ o, H a = some o
  | _, _, _, .non, _, h => nomatch h
  | _, _, _, .bl b, _, h => nomatch h
  | _, _, _, .int b, _, h => nomatch h
  | _, _, _, .str b, _, h => nomatch h
  | _, _, _, .ty b, _, h => nomatch h
  | _, _, _, .cls b, _, h => nomatch h
  | _, _, _, .sh c _ os, _, h => nomatch h
  | _, _, _, .tm c os, _, h => nomatch h
  | _, _, _, .ow c fn tn ni os, b, h => by
    rcases List.mem_cons.mp h with e | h
    · subst e; exact ⟨fn, tn.1, c.alive⟩
    · exact Owns.alive os b h
theorem Owns.alive : ∀ {vs : List V} {ds : List D} {S : List Addr}, Owns C F H vs ds S → ∀ a ∈ S, F a = none ∧ C.T a = none ∧ ∃ o, H a = some o
  | _, _, _, .nil, _, h => nomatch h
  | _, _, _, .cons o os dj e, b, h => by
    rw [e] at h
    rcases List.mem_append.mp h with h | h
    · exact Own.alive o b h
    · exact Owns.alive os b h
end
end

/-! freezing -/
mutual
def D.shr : D → D
  | .nd _ k xs => .nd .sh k (D.shrs xs)
  | d => d
def D.shrs : List D → List D
  | [] => []
  | d :: ds => d.shr :: D.shrs ds
end
theorem shrs_map : ∀ ds : List D, D.shrs ds = ds.map D.shr
  | [] => rfl
  | d :: ds => by rw [D.shrs, shrs_map ds]; rfl
/-- F with the objects at T as they stand in H -/
def frz (F H : Hp) (T : List Addr) : Hp := fun a => match F a with
  | some o => some o
  | none => if a ∈ T then H a else none
section
variable {C : Cn} {F H F' H' : Hp} {T : List Addr}
theorem frz_le : Same F (frz F H T) := fun a o e => by unfold frz; rw [e]
theorem frz_in (s : Same F H) : Same (frz F H T) H := fun a o e => by
  unfold frz at e
  cases q : F a with
  | some u => rw [q] at e; cases e; exact s _ _ q
  | none =>
    rw [q] at e
    simp only at e
    split at e
    · exact e
    · cases e
theorem frz_at {a : Addr} (n : F a = none) (h : a ∈ T) : frz F H T a = H a := by
  unfold frz; rw [n]; simp only [h, if_true]
theorem frz_out {a : Addr} (h : a ∉ T) : frz F H T a = F a := by
  unfold frz
  cases q : F a with
  | some u => rfl
  | none => simp only [h, if_false]
mutual
theorem noTm_shr : ∀ d : D, d.shr.noTm = true
  | .nd f k xs => by rw [D.shr, D.noTm]; exact noTms_shrs xs; intro z; cases z
  | .non => rfl
  | .bl _ => rfl
  | .int _ => rfl
  | .str _ => rfl
  | .ty _ => rfl
  | .cls _ => rfl
theorem noTms_shrs : ∀ ds : List D, D.noTms (D.shrs ds) = true
  | [] => rfl
  | d :: ds => by rw [D.shrs, D.noTms, noTm_shr d, noTms_shrs ds]; rfl
end
mutual
theorem Own.freeze : ∀ {v : V} {d : D} {S : List Addr}, Own C F H v d S → (∀ a ∈ S, a ∈ T) → d.noTm = true → Own C (frz F H T) H v d.shr []
  | _, _, _, .non, _, _ => .non
  | _, _, _, .bl b, _, _ => .bl b
  | _, _, _, .int b, _, _ => .int b
  | _, _, _, .str b, _, _ => .str b
  | _, _, _, .ty b, _, _ => .ty b
  | _, _, _, .cls b, _, _ => .cls b
  | _, _, _, .sh c nt os, h, z => .sh (c.mono frz_le) (noTms_shrs _) (Owns.freeze os (fun _ h => nomatch h) nt)
  | _, _, _, .tm c os, h, z => nomatch z
  | _, _, _, .ow c fn tn ni os, h, z => .sh ((c.congr (H' := frz F H T) (frz_at fn (h _ List.mem_cons_self))).cont) (noTms_shrs _) (Owns.freeze os (fun b hb => h b (List.mem_cons_of_mem _ hb)) (by rw [D.noTm] at z; exact z; intro z; cases z))
theorem Owns.freeze : ∀ {vs : List V} {ds : List D} {S : List Addr}, Owns C F H vs ds S → (∀ a ∈ S, a ∈ T) → D.noTms ds = true → Owns C (frz F H T) H vs (D.shrs ds) []
  | _, _, _, .nil, _, _ => .nil
  | _, _, _, .cons o os dj e, h, z => by
    rw [D.noTms, Bool.and_eq_true] at z
    exact .cons (Own.freeze o (fun b hb => h b (by rw [e]; exact List.mem_append_left _ hb)) z.1) (Owns.freeze os (fun b hb => h b (by rw [e]; exact List.mem_append_right _ hb)) z.2) (fun _ z => nomatch z) rfl
end
mutual
theorem Own.shr_id : ∀ {v : V} {d : D}, Own C F H v d [] → d.noTm = true → d.shr = d
  | _, _, .non, _ => rfl
  | _, _, .bl b, _ => rfl
  | _, _, .int b, _ => rfl
  | _, _, .str b, _ => rfl
  | _, _, .ty b, _ => rfl
  | _, _, .cls b, _ => rfl
  | _, _, .sh c nt os, z => by rw [D.shr, Owns.shr_id os nt]
  | _, _, .tm c os, z => nomatch z
theorem Owns.shr_id : ∀ {vs : List V} {ds : List D}, Owns C F H vs ds [] → D.noTms ds = true → D.shrs ds = ds
  | _, _, .nil, _ => rfl
  | _, _, .cons (S := S) (T := T) o os dj e, z => by
    have e1 : S = [] := (List.append_eq_nil_iff.mp e.symm).1
    have e2 : T = [] := (List.append_eq_nil_iff.mp e.symm).2
    subst e1 e2
    rw [D.noTms, Bool.and_eq_true] at z
    rw [D.shrs, Own.shr_id o z.1, Owns.shr_id os z.2]
end
/-- the head is owned -/
def D.hd : D → Bool
  | .nd .ow _ _ => true
  | _ => false
theorem Own.nil_of {v : V} {d : D} {S : List Addr} (o : Own C F H v d S) (h : d.hd = false) : S = [] := by
  cases o with
  | ow c fn tn ni os => cases h
  | _ => rfl
end
end SK

namespace SK
open PySem PySem.Spec PyProof.Rows L2

abbrev Gm := List (Option D)
abbrev Fp := Nat → List Addr
/-- the addresses of all slots -/
def Fp.at (φ : Fp) (a : Addr) : Prop := ∃ i, a ∈ φ i
structure Rep (C : Cn) (F H : Hp) (σ : L2.St) (Γ : Gm) (φ : Fp) : Prop where
  le : Same F H
  leT : Same C.T H
  len : σ.length = Γ.length
  get : ∀ (i : Nat) (d : D), Γ[i]? = some (some d) → ∃ v, σ[i]? = some (some v) ∧ Own C F H v d (φ i)
  dis : ∀ i j a, a ∈ φ i → a ∈ φ j → i = j
  emp : ∀ i, φ i ≠ [] → ∃ d, Γ[i]? = some (some d)
structure Step (C : Cn) (F H : Hp) (S : Addr → Prop) (F' H' : Hp) (S' : Addr → Prop) : Prop where
  le : Same F F'
  le' : Same F' H'
  leT : Same C.T H'
  keep : ∀ a o, ¬ S a → H a = some o → H' a = some o
  dom : ∀ a, H' a = none → H a = none
  newF : ∀ a o, F' a = some o → F a = some o ∨ H a = none ∨ S a
  newS : ∀ a, S' a → S a ∨ H a = none
theorem some_ne {α : Type} {x : Option α} {y : α} (h : x = some y) : ¬ x = none := fun e => by rw [h] at e; cases e
section
variable {C : Cn} {F H F' H' F1 H1 F2 H2 : Hp} {S S' S1 S2 T : Addr → Prop} {σ : L2.St} {Γ : Gm} {φ φ' : Fp}
theorem Step.refl (h : Same F H) (h2 : Same C.T H) : Step C F H S F H S := ⟨Same.refl F, h, h2, fun _ _ _ e => e, fun _ e => e, fun _ _ e => .inl e, fun _ h => .inl h⟩
theorem Step.trans (a : Step C F H S F1 H1 S1) (b : Step C F1 H1 S1 F2 H2 S2) : Step C F H S F2 H2 S2 := by
  refine ⟨a.le.trans b.le, b.le', b.leT, fun x o n e => ?_, fun x e => a.dom x (b.dom x e), fun x o e => ?_, fun x h => ?_⟩
  · refine b.keep x o (fun h => ?_) (a.keep x o n e)
    rcases a.newS x h with z | z
    · exact n z
    · rw [e] at z; cases z
  · rcases b.newF x o e with z | z | z
    · exact a.newF x o z
    · exact .inr (.inl (a.dom x z))
    · rcases a.newS x z with z | z
      · exact .inr (.inr z)
      · exact .inr (.inl z)
  · rcases b.newS x h with z | z
    · exact a.newS x z
    · exact .inr (a.dom x z)
/-- a wider footprint -/
theorem Step.wide (a : Step C F H S F' H' S') (T : Addr → Prop) : Step C F H (fun x => S x ∨ T x) F' H' (fun x => S' x ∨ T x) :=
  ⟨a.le, a.le', a.leT, fun x o n e => a.keep x o (fun z => n (.inl z)) e, a.dom, fun x o e => (a.newF x o e).elim .inl fun z => z.elim (fun z => .inr (.inl z)) fun z => .inr (.inr (.inl z)),
    fun x h => h.elim (fun z => (a.newS x z).elim (fun z => .inl (.inl z)) .inr) fun z => .inl (.inr z)⟩
theorem Step.imp (a : Step C F H S F' H' S') (h1 : ∀ x, S x → S1 x) (h2 : ∀ x, S2 x → S' x ∨ S1 x) : Step C F H S1 F' H' S2 :=
  ⟨a.le, a.le', a.leT, fun x o n e => a.keep x o (fun z => n (h1 x z)) e, a.dom, fun x o e => (a.newF x o e).elim .inl fun z => z.elim (fun z => .inr (.inl z)) fun z => .inr (.inr (h1 x z)),
    fun x h => (h2 x h).elim (fun z => (a.newS x z).elim (fun z => .inl (h1 x z)) .inr) .inl⟩
theorem Step.same (a : Step C F H (fun _ => False) F' H' S') : Same H H' := fun x o e => a.keep x o (fun z => z) e
/-- what is not in the footprint stays -/
theorem Own.step {v : V} {d : D} {U : List Addr} (o : Own C F H v d U) (a : Step C F H S F' H' S') (n : ∀ x ∈ U, ¬ S x) : Own C F' H' v d U := by
  refine o.frame a.le (fun x hx => ?_) (fun x hx => ?_)
  · obtain ⟨_, _, w, e⟩ := o.alive x hx
    rw [a.keep x w (n x hx) e, e]
  · obtain ⟨f, _, w, e⟩ := o.alive x hx
    cases q : F' x with
    | none => rfl
    | some z =>
      rcases a.newF x z q with z | z | z
      · rw [f] at z; cases z
      · rw [e] at z; cases z
      · exact absurd z (n x hx)
theorem Owns.step {v : List V} {d : List D} {U : List Addr} (o : Owns C F H v d U) (a : Step C F H S F' H' S') (n : ∀ x ∈ U, ¬ S x) : Owns C F' H' v d U := by
  refine o.frame a.le (fun x hx => ?_) (fun x hx => ?_)
  · obtain ⟨_, _, w, e⟩ := o.alive x hx
    rw [a.keep x w (n x hx) e, e]
  · obtain ⟨f, _, w, e⟩ := o.alive x hx
    cases q : F' x with
    | none => rfl
    | some z =>
      rcases a.newF x z q with z | z | z
      · rw [f] at z; cases z
      · rw [e] at z; cases z
      · exact absurd z (n x hx)
/-- a disjoint thing stays disjoint -/
theorem Step.dis {U : List Addr} (a : Step C F H S F' H' S') (al : ∀ x ∈ U, ∃ o, H x = some o) (n : ∀ x ∈ U, ¬ S x) : ∀ x ∈ U, ¬ S' x := fun x hx h => by
  rcases a.newS x h with z | z
  · exact n x hx z
  · obtain ⟨o, e⟩ := al x hx
    rw [e] at z; cases z
theorem Rep.alive (r : Rep C F H σ Γ φ) {x : Addr} (h : φ.at x) : F x = none ∧ C.T x = none ∧ ∃ o, H x = some o := by
  obtain ⟨i, hi⟩ := h
  obtain ⟨d, e⟩ := r.emp i (fun z => by rw [z] at hi; cases hi)
  obtain ⟨v, _, o⟩ := r.get i d e
  exact o.alive x hi
theorem Rep.step (r : Rep C F H σ Γ φ) (a : Step C F H S F' H' S') (n : ∀ x, φ.at x → ¬ S x) : Rep C F' H' σ Γ φ :=
  ⟨a.le', a.leT, r.len, fun i d e => let ⟨v, h1, h2⟩ := r.get i d e; ⟨v, h1, h2.step a fun x hx => n x ⟨i, hx⟩⟩, r.dis, r.emp⟩
/-- slot i gets a value -/
theorem Rep.set {i : Nat} {v : V} {d : D} {U : List Addr} (r : Rep C F H σ Γ φ) (hi : i < Γ.length) (o : Own C F H v d U) (n : ∀ x ∈ U, ¬ φ.at x) :
    Rep C F H (σ.set i (some v)) (Γ.set i (some d)) (fun j => if j = i then U else φ j) where
  le := r.le
  leT := r.leT
  len := by simp [r.len]
  get := fun j e hj => by
    by_cases hji : j = i
    · subst hji
      rw [List.getElem?_set_self hi] at hj
      cases hj
      refine ⟨v, ?_, by simpa using o⟩
      rw [List.getElem?_set_self (by rw [r.len]; exact hi)]
    · rw [List.getElem?_set_ne (Ne.symm hji)] at hj
      obtain ⟨w, h1, h2⟩ := r.get j e hj
      refine ⟨w, ?_, by simpa [hji] using h2⟩
      rw [List.getElem?_set_ne (Ne.symm hji)]
      exact h1
  dis := fun j k a h1 h2 => by
    by_cases hj : j = i <;> by_cases hk : k = i <;> simp only [hj, hk, if_true, if_false] at h1 h2
    · rw [hj, hk]
    · exact absurd ⟨k, h2⟩ (n a h1)
    · exact absurd ⟨j, h1⟩ (n a h2)
    · exact r.dis j k a h1 h2
  emp := fun j h => by
    by_cases hj : j = i
    · subst hj; exact ⟨d, List.getElem?_set_self hi⟩
    · simp only [hj, if_false] at h
      obtain ⟨e, he⟩ := r.emp j h
      exact ⟨e, by rw [List.getElem?_set_ne (Ne.symm hj)]; exact he⟩
/-- slot i forgotten in Γ (σ may hold anything there) -/
theorem Rep.drop {i : Nat} {z : Option V} (r : Rep C F H σ Γ φ) : Rep C F H (σ.set i z) (Γ.set i none) (fun j => if j = i then [] else φ j) where
  le := r.le
  leT := r.leT
  len := by simp [r.len]
  get := fun j e hj => by
    by_cases hji : j = i
    · subst hji
      rw [List.getElem?_set] at hj
      simp only [if_true] at hj
      split at hj <;> cases hj
    · rw [List.getElem?_set_ne (Ne.symm hji)] at hj
      obtain ⟨w, h1, h2⟩ := r.get j e hj
      refine ⟨w, ?_, by simpa [hji] using h2⟩
      rw [List.getElem?_set_ne (Ne.symm hji)]
      exact h1
  dis := fun j k a h1 h2 => by
    by_cases hj : j = i <;> by_cases hk : k = i <;> simp only [hj, hk, if_true, if_false] at h1 h2
    · rw [hj, hk]
    · cases h1
    · cases h2
    · exact r.dis j k a h1 h2
  emp := fun j h => by
    by_cases hj : j = i
    · simp [hj] at h
    · simp only [hj, if_false] at h
      obtain ⟨e, he⟩ := r.emp j h
      exact ⟨e, by rw [List.getElem?_set_ne (Ne.symm hj)]; exact he⟩
theorem set_same_val {α : Type} {σ : List α} {i : Nat} {x : α} (h : σ[i]? = some x) : σ.set i x = σ := by
  refine List.ext_getElem? fun j => ?_
  by_cases hj : j = i
  · subst hj
    rw [List.getElem?_set_self (List.getElem?_eq_some_iff.mp h).1, h]
  · rw [List.getElem?_set_ne (Ne.symm hj)]
/-- slot i gets other data at the same value -/
theorem Rep.put {i : Nat} {v : V} {d : D} {U : List Addr} (r : Rep C F H σ Γ φ) (hv : σ[i]? = some (some v)) (o : Own C F H v d U) (n : ∀ x ∈ U, ∀ j, j ≠ i → x ∉ φ j) :
    Rep C F H σ (Γ.set i (some d)) (fun j => if j = i then U else φ j) := by
  have hi : i < Γ.length := by rw [← r.len]; exact (List.getElem?_eq_some_iff.mp hv).1
  have q := (r.drop (i := i) (z := some v)).set (i := i) (v := v) (d := d) (U := U) (by simpa using hi) o (fun x hx ⟨j, hj⟩ => by
    by_cases hji : j = i
    · simp [hji] at hj
    · simp only [hji, if_false] at hj
      exact n x hx j hji hj)
  rw [List.set_set, List.set_set, set_same_val hv] at q
  have e : (fun j => if j = i then U else if j = i then [] else φ j) = fun j => if j = i then U else φ j := by
    funext j; by_cases h : j = i <;> simp [h]
  rw [e] at q
  exact q
/-- slot i emptied, at the same value -/
theorem Rep.gone {i : Nat} (r : Rep C F H σ Γ φ) : Rep C F H σ (Γ.set i none) (fun j => if j = i then [] else φ j) := by
  have q := r.drop (i := i) (z := (σ[i]?).getD none)
  by_cases hi : i < σ.length
  · have e : σ[i]? = some ((σ[i]?).getD none) := by rw [List.getElem?_eq_getElem hi]; rfl
    rw [set_same_val e] at q
    exact q
  · have e1 : σ.set i ((σ[i]?).getD none) = σ := List.set_eq_of_length_le (by omega)
    rw [e1] at q
    exact q
end
end SK

namespace SK
open PySem PySem.Spec L2

/-! ### readings -/
abbrev NoA : Addr → Prop := fun _ => False
abbrev Grow (C : Cn) (F H F' H' : Hp) : Prop := Step C F H NoA F' H' NoA
/-- an exception: its class's name, its fields -/
structure Xc where
  cls : Str
  fs : Option (List Str × List D)
inductive Oc (α : Type) where | ok (a : α) (Γ : Gm) | ex (x : Xc) (Γ : Gm)
inductive Fw where | nx | rt (d : D) | bk | ct
def Xrep (C : Cn) (F H : Hp) (x : Xc) (cls : Value) (dd : Option Addr) (U : List Addr) : Prop :=
  ∃ Ca, C.mg x.cls = some (.ref Ca) ∧ cls = .ref Ca ∧ match x.fs with
    | none => dd = none ∧ U = []
    | some (ns, ds) => ∃ a fs, dd = some a ∧ H a = some (.xd fs) ∧ fs.map Prod.fst = ns ∧ Owns C F H (fs.map Prod.snd) ds U
def tQ (C : Cb) (f : Gm → Option D) : TE := fun σ H Q => ∃ T F Γ φ d, Rep ⟨C, T⟩ F H σ Γ φ ∧ f Γ = some d ∧
  ∀ v F' H' U, Grow ⟨C, T⟩ F H F' H' → Own ⟨C, T⟩ F' H' v d U → (∀ x ∈ U, φ.at x) → Q v H'
def tQT (C : Cb) (f : Gm → Option Bool) : TT := fun σ H Q => ∃ T F Γ φ d, Rep ⟨C, T⟩ F H σ Γ φ ∧ f Γ = some d ∧
  ∀ F' H', Grow ⟨C, T⟩ F H F' H' → Q d H'
abbrev OwnL (C : Cn) (F H : Hp) (φ : Fp) : List V → List D → Prop := Paired fun v d => ∃ U, Own C F H v d U ∧ ∀ x ∈ U, φ.at x
def tQA (C : Cb) (f : Gm → Option (List D)) : TA := fun σ H Q => ∃ T F Γ φ d, Rep ⟨C, T⟩ F H σ Γ φ ∧ f Γ = some d ∧
  ∀ vs F' H', Grow ⟨C, T⟩ F H F' H' → OwnL ⟨C, T⟩ F' H' φ vs d → Q vs H'
/-- a value that is its own -/
def tL (C : Cb) (W : WX) (f : Gm → Option (Oc D)) : TE := fun σ H Q => ∃ T F Γ φ o, Rep ⟨C, T⟩ F H σ Γ φ ∧ f Γ = some o ∧ match o with
  | .ok d Γ' => ∀ v F' H' φ' U, Step ⟨C, T⟩ F H φ.at F' H' (fun x => φ'.at x ∨ x ∈ U) → Rep ⟨C, T⟩ F' H' σ Γ' φ' → Own ⟨C, T⟩ F' H' v d U → (∀ x ∈ U, ¬ φ'.at x) → Q v H'
  | .ex x Γ' => ∀ cls dd F' H' φ' U, Step ⟨C, T⟩ F H φ.at F' H' (fun x => φ'.at x ∨ x ∈ U) → Rep ⟨C, T⟩ F' H' σ Γ' φ' → Xrep ⟨C, T⟩ F' H' x cls dd U → (∀ x ∈ U, ¬ φ'.at x) → W cls dd σ H'
def tLT (C : Cb) (W : WX) (f : Gm → Option (Oc Bool)) : TT := fun σ H Q => ∃ T F Γ φ o, Rep ⟨C, T⟩ F H σ Γ φ ∧ f Γ = some o ∧ match o with
  | .ok d Γ' => ∀ F' H' φ', Step ⟨C, T⟩ F H φ.at F' H' φ'.at → Rep ⟨C, T⟩ F' H' σ Γ' φ' → Q d H'
  | .ex x Γ' => ∀ cls dd F' H' φ' U, Step ⟨C, T⟩ F H φ.at F' H' (fun x => φ'.at x ∨ x ∈ U) → Rep ⟨C, T⟩ F' H' σ Γ' φ' → Xrep ⟨C, T⟩ F' H' x cls dd U → (∀ x ∈ U, ¬ φ'.at x) → W cls dd σ H'
/-- the slots in ms hold the same value -/
def Pin (ms : List Nat) (σ σ' : L2.St) : Prop := ∀ i ∈ ms, σ'[i]? = σ[i]?
def tPost (C : Cb) (T : Hp) (W : WX) (ms : List Nat) (E : Ends) (σ : L2.St) (F H : Hp) (φ : Fp) (o : Oc Fw) : Prop := match o with
  | .ok .nx Γ' => ∀ σ' F' H' φ', Pin ms σ σ' → Step ⟨C, T⟩ F H φ.at F' H' φ'.at → Rep ⟨C, T⟩ F' H' σ' Γ' φ' → E.nx σ' H'
  | .ok .bk Γ' => ∀ σ' F' H' φ', Pin ms σ σ' → Step ⟨C, T⟩ F H φ.at F' H' φ'.at → Rep ⟨C, T⟩ F' H' σ' Γ' φ' → E.bk σ' H'
  | .ok .ct Γ' => ∀ σ' F' H' φ', Pin ms σ σ' → Step ⟨C, T⟩ F H φ.at F' H' φ'.at → Rep ⟨C, T⟩ F' H' σ' Γ' φ' → E.ct σ' H'
  | .ok (.rt d) Γ' => ∀ v σ' F' H' φ' U, Pin ms σ σ' → Step ⟨C, T⟩ F H φ.at F' H' (fun x => φ'.at x ∨ x ∈ U) → Rep ⟨C, T⟩ F' H' σ' Γ' φ' → Own ⟨C, T⟩ F' H' v d U → (∀ x ∈ U, ¬ φ'.at x) → E.rt v H'
  | .ex x Γ' => ∀ cls dd σ' F' H' φ' U, Pin ms σ σ' → Step ⟨C, T⟩ F H φ.at F' H' (fun x => φ'.at x ∨ x ∈ U) → Rep ⟨C, T⟩ F' H' σ' Γ' φ' → Xrep ⟨C, T⟩ F' H' x cls dd U → (∀ x ∈ U, ¬ φ'.at x) → W cls dd σ' H'
def tS (C : Cb) (W : WX) (ms : List Nat) (g : Gm → Option (Oc Fw)) : TS := fun E σ H => ∃ T F Γ φ o, Rep ⟨C, T⟩ F H σ Γ φ ∧ g Γ = some o ∧ tPost C T W ms E σ F H φ o

theorem pe_imp {X : Cx} {e : Expr} {t t' : TE} (h : PE X e t) (i : ∀ σ H Q, t' σ H Q → t σ H Q) : PE X e t' := ⟨fun pins s σ H Q I q => h.run pins s σ H Q I (i σ H Q q)⟩
theorem pt_imp {X : Cx} {e : Expr} {t t' : TT} (h : PT X e t) (i : ∀ σ H Q, t' σ H Q → t σ H Q) : PT X e t' := ⟨fun pins s σ H Q I q => h.run pins s σ H Q I (i σ H Q q)⟩
theorem pw_imp {X : Cx} {e : Expr} {t t' : TT} (h : PW X e t) (i : ∀ σ H Q, t' σ H Q → t σ H Q) : PW X e t' := ⟨fun w pins s σ H Q I q => h.run w pins s σ H Q I (i σ H Q q)⟩
theorem pa_imp {X : Cx} {e : List Expr} {t t' : TA} (h : PA X e t) (i : ∀ σ H Q, t' σ H Q → t σ H Q) : PA X e t' := ⟨fun w pins s σ H Q I q => h.run w pins s σ H Q I (i σ H Q q)⟩
theorem ps_imp {X : Cx} {e : Stmt} {t t' : TS} (h : PS X e t) (i : ∀ E σ H, t' E σ H → t E σ H) : PS X e t' := ⟨fun pins s σ H E I q => h.run pins s σ H E I (i E σ H q)⟩
theorem pss_imp {X : Cx} {e : List Stmt} {t t' : TS} (h : PSs X e t) (i : ∀ E σ H, t' E σ H → t E σ H) : PSs X e t' := ⟨fun pins s σ H E I q => h.run pins s σ H E I (i E σ H q)⟩
theorem pe_or2 {X : Cx} {e : Expr} {t t' : TE} (h : PE X e t) (h' : PE X e t') : PE X e (fun σ H Q => t σ H Q ∨ t' σ H Q) :=
  ⟨fun pins s σ H Q I q => q.elim (h.run pins s σ H Q I) (h'.run pins s σ H Q I)⟩
theorem pt_or2 {X : Cx} {e : Expr} {t t' : TT} (h : PT X e t) (h' : PT X e t') : PT X e (fun σ H Q => t σ H Q ∨ t' σ H Q) :=
  ⟨fun pins s σ H Q I q => q.elim (h.run pins s σ H Q I) (h'.run pins s σ H Q I)⟩
theorem ps_or2 {X : Cx} {e : Stmt} {t t' : TS} (h : PS X e t) (h' : PS X e t') : PS X e (fun σ H Q => t σ H Q ∨ t' σ H Q) :=
  ⟨fun pins s σ H Q I q => q.elim (h.run pins s σ H Q I) (h'.run pins s σ H Q I)⟩

abbrev Cx.cn (X : Cx) : Cb := ⟨X.K, X.mg⟩
abbrev PQ (X : Cx) (e : Expr) (f : Gm → Option D) : Prop := PE X e (tQ (Cx.cn X) f)
abbrev PQT (X : Cx) (e : Expr) (f : Gm → Option Bool) : Prop := PT X e (tQT (Cx.cn X) f)
abbrev PQW (X : Cx) (e : Expr) (f : Gm → Option Bool) : Prop := PW X e (tQT (Cx.cn X) f)
abbrev PQA (X : Cx) (e : List Expr) (f : Gm → Option (List D)) : Prop := PA X e (tQA (Cx.cn X) f)
abbrev PL (X : Cx) (W : WX) (e : Expr) (f : Gm → Option (Oc D)) : Prop := PE X e (tL (Cx.cn X) W f)
abbrev PLT (X : Cx) (W : WX) (e : Expr) (f : Gm → Option (Oc Bool)) : Prop := PT X e (tLT (Cx.cn X) W f)
abbrev PB (X : Cx) (W : WX) (ms : List Nat) (e : Stmt) (g : Gm → Option (Oc Fw)) : Prop := PS X e (tS (Cx.cn X) W ms g)
abbrev PBs (X : Cx) (W : WX) (ms : List Nat) (e : List Stmt) (g : Gm → Option (Oc Fw)) : Prop := PSs X e (tS (Cx.cn X) W ms g)

/-! ### small helps -/
section
variable {C : Cn} {F H F' H' F1 H1 : Hp} {σ : L2.St} {Γ : Gm} {φ : Fp}
theorem Rep.grow (r : Rep C F H σ Γ φ) (a : Grow C F H F' H') : Rep C F' H' σ Γ φ := r.step a fun _ _ z => z
theorem Own.grow {v : V} {d : D} {U : List Addr} (o : Own C F H v d U) (a : Grow C F H F' H') : Own C F' H' v d U := o.step a fun _ _ z => z
theorem OwnL.grow : ∀ {vs : List V} {ds : List D}, OwnL C F H φ vs ds → Grow C F H F' H' → OwnL C F' H' φ vs ds
  | _, _, .nil, _ => .nil
  | _, _, .cons ⟨U, o, h⟩ r, a => .cons ⟨U, o.grow a, h⟩ (OwnL.grow r a)
theorem bind_some {α β : Type} {x : Option α} {f : α → Option β} {b : β} (h : x.bind f = some b) : ∃ a, x = some a ∧ f a = some b := by
  cases x with
  | none => cases h
  | some a => exact ⟨a, rfl, h⟩
/-- a new object, seen for ever -/
theorem grow_new {p : Addr} {o : HO} (s : Same F H) (st : Same C.T H) (n : H p = none) : Grow C F H (upd F p o) (upd H p o) := by
  have nF : F p = none := by
    cases q : F p with
    | none => rfl
    | some u => rw [s p u q] at n; cases n
  refine ⟨fun a u e => ?_, fun a u e => ?_, fun a u e => ?_, fun a u _ e => ?_, fun a e => ?_, fun a u e => ?_, fun _ z => z.elim⟩
  · rw [upd_ne (ne_of_none e nF)]; exact e
  · by_cases h : a = p
    · subst h; rw [upd_same] at e ⊢; exact e
    · rw [upd_ne h] at e ⊢; exact s _ _ e
  · rw [upd_ne (ne_of_none (st _ _ e) n)]; exact st _ _ e
  · rw [upd_ne (ne_of_none e n)]; exact e
  · by_cases h : a = p
    · subst h; exact n
    · rw [upd_ne h] at e; exact e
  · by_cases h : a = p
    · subst h; exact .inr (.inl n)
    · rw [upd_ne h] at e; exact .inl e
end

/-! ### quiet: names, constants -/
section
variable {X : Cx}
def qV (i : Nat) : Gm → Option D := fun Γ => Γ[i]?.join
def qC (d : D) : Gm → Option D := fun _ => some d
theorem pq_v (i : Nat) {x : Str} {pos : Pos} (hN : X.N[i]? = some x := by rfl) (hv : Vis X.env.scope x := by first | exact Or.inl rfl | exact Or.inr (Or.inl rfl) | exact Or.inr (Or.inr rfl)) (hd : (x == ("__debug__" : Str)) = false := by decide)
    (hcd : (x == ("__classdict__" : Str)) = false := by decide) : PQ X (.Name x pos) (qV i) := by
  refine pe_imp (pe_var hN hv hd hcd) fun σ H Q ⟨T, F, Γ, φ, d, r, e, q⟩ => ?_
  have e' : Γ[i]? = some (some d) := by
    unfold qV at e
    cases h : Γ[i]? with
    | none => rw [h] at e; cases e
    | some o => rw [h] at e; cases o with
      | none => cases e
      | some u => cases e; rfl
  obtain ⟨v, h1, h2⟩ := r.get i d e'
  exact ⟨v, h1, q v F H (φ i) (Step.refl r.le r.leT) h2 fun x hx => ⟨i, hx⟩⟩
theorem q_const {e : Expr} {v : V} {d : D} (h : PE X e (tC v)) (o : ∀ T F H, Own ⟨Cx.cn X, T⟩ F H v d []) : PQ X e (qC d) :=
  pe_imp h fun σ H Q ⟨T, F, Γ, φ, d', r, e, q⟩ => by
    cases e
    exact q v F H [] (Step.refl r.le r.leT) (o T F H) (fun _ z => nomatch z)
theorem pq_int {i j pos} : PQ X (.Constant (.int i) j pos) (qC (.int i)) := q_const pe_int fun _ _ _ => .int i
theorem pq_bl {i j pos} : PQ X (.Constant (.bool i) j pos) (qC (.bl i)) := q_const pe_bl fun _ _ _ => .bl i
theorem pq_non {j pos} : PQ X (.Constant .none j pos) (qC .non) := q_const pe_non fun _ _ _ => .non
theorem pq_str {i j pos} : PQ X (.Constant (.str i) j pos) (qC (.str i)) := q_const pe_str fun _ _ _ => .str i

/-! ### operators by values -/
/-- r, on values that are a and b, gives what g says -/
def RQ2 (B : Cb) (r : R2) (g : D → D → Option D) : Prop := ∀ (T F H : Hp) (x y : V) (a b d : D) (Ua Ub : List Addr) (Q : VK), Same F H → Same T H → Own ⟨B, T⟩ F H x a Ua → Own ⟨B, T⟩ F H y b Ub → g a b = some d →
  (∀ v F' H' U, Grow ⟨B, T⟩ F H F' H' → Own ⟨B, T⟩ F' H' v d U → (∀ z ∈ U, z ∈ Ua ∨ z ∈ Ub) → Q v H') → r x y H Q
def q2 (g : D → D → Option D) (fa fb : Gm → Option D) : Gm → Option D := fun Γ => (fa Γ).bind fun a => (fb Γ).bind fun b => g a b
theorem q2_imp {C : Cb} {r : R2} {g : D → D → Option D} {fa fb : Gm → Option D} (hr : RQ2 C r g) (σ : L2.St) (H : Hp) (Q : VK) (h : tQ C (q2 g fa fb) σ H Q) : tOp r (tQ C fa) (tQ C fb) σ H Q := by
  obtain ⟨T, F, Γ, φ, d, rp, e, q⟩ := h
  obtain ⟨a, ea, e⟩ := bind_some e
  obtain ⟨b, eb, e⟩ := bind_some e
  refine ⟨T, F, Γ, φ, a, rp, ea, fun v F1 H1 U g1 o1 u1 => ⟨T, F1, Γ, φ, b, rp.grow g1, eb, fun w F2 H2 U' g2 o2 u2 => ?_⟩⟩
  refine hr T F2 H2 v w a b d U U' Q g2.le' g2.leT (o1.grow g2) o2 e fun z F3 H3 U3 g3 o3 u3 => q z F3 H3 U3 ((g1.trans g2).trans g3) o3 fun x hx => (u3 x hx).elim (u1 x) (u2 x)
theorem pq_op {op : Operator} {r : R2} {g : D → D → Option D} {a b : Expr} {pos : Pos} {fa fb : Gm → Option D} (ho : OpR X (binaryOp op) r) (hr : RQ2 (Cx.cn X) r g) (ha : PQ X a fa) (hb : PQ X b fb) : PQ X (.BinOp a op b pos) (q2 g fa fb) :=
  pe_imp (pe_op ho ha hb) fun _ _ _ h => q2_imp hr _ _ _ h
theorem pq_cmp {op : CmpOp} {r : R2} {g : D → D → Option D} {a b : Expr} {pos : Pos} {fa fb : Gm → Option D} (ho : OpR X (compareOp op) r) (hr : RQ2 (Cx.cn X) r g) (ha : PQ X a fa) (hb : PQ X b fb) (hm : behindInMarks op b = false) : PQ X (.Compare a [op] [b] pos) (q2 g fa fb) :=
  pe_imp (pe_cmpR ho ha hb hm) fun _ _ _ h => q2_imp hr _ _ _ h
theorem pq_ix {r : R2} {g : D → D → Option D} {a b : Expr} {pos : Pos} {fa fb : Gm → Option D} (ho : IxR X r) (hr : RQ2 (Cx.cn X) r g) (ha : PQ X a fa) (hb : PQ X b fb) (hs : PlainIx b) : PQ X (.Subscript a b pos) (q2 g fa fb) :=
  pe_imp (pe_ix ho ha hb hs) fun _ _ _ h => q2_imp hr _ _ _ h
def RQ1 (B : Cb) (r : V → Hp → VK → Prop) (g : D → Option D) : Prop := ∀ (T F H : Hp) (x : V) (a d : D) (Ua : List Addr) (Q : VK), Same F H → Same T H → Own ⟨B, T⟩ F H x a Ua → g a = some d →
  (∀ v F' H' U, Grow ⟨B, T⟩ F H F' H' → Own ⟨B, T⟩ F' H' v d U → (∀ z ∈ U, z ∈ Ua) → Q v H') → r x H Q
def q1 (g : D → Option D) (fa : Gm → Option D) : Gm → Option D := fun Γ => (fa Γ).bind g
theorem q1_imp {C : Cb} {r : V → Hp → VK → Prop} {g : D → Option D} {fa : Gm → Option D} (hr : RQ1 C r g) (σ : L2.St) (H : Hp) (Q : VK) (h : tQ C (q1 g fa) σ H Q) : tQ C fa σ H (fun x H1 => r x H1 Q) := by
  obtain ⟨T, F, Γ, φ, d, rp, e, q⟩ := h
  obtain ⟨a, ea, e⟩ := bind_some e
  refine ⟨T, F, Γ, φ, a, rp, ea, fun v F1 H1 U g1 o1 u1 => ?_⟩
  exact hr T F1 H1 v a d U Q g1.le' g1.leT o1 e fun z F3 H3 U3 g3 o3 u3 => q z F3 H3 U3 (g1.trans g3) o3 fun x hx => u1 x (u3 x hx)
theorem pq_un {op : UnaryOp} {r : V → Hp → VK → Prop} {g : D → Option D} {a : Expr} {pos : Pos} {fa : Gm → Option D} (ho : UnR X (unaryOp op) r) (hr : RQ1 (Cx.cn X) r g) (ha : PQ X a fa) : PQ X (.UnaryOp op a pos) (q1 g fa) :=
  pe_imp (pe_un ho ha) fun _ _ _ h => q1_imp hr _ _ _ h

/-! ints -/
def dI (g : Int → Int → Option D) : D → D → Option D
  | .int i, .int j => g i j
  | _, _ => none
theorem own_int {C : Cn} {F H : Hp} {x : V} {i : Int} {U : List Addr} (o : Own C F H x (.int i) U) : x = .int i ∧ U = [] := by cases o; exact ⟨rfl, rfl⟩
theorem own_bl {C : Cn} {F H : Hp} {x : V} {i : Bool} {U : List Addr} (o : Own C F H x (.bl i) U) : x = .bl i ∧ U = [] := by cases o; exact ⟨rfl, rfl⟩
theorem own_str {C : Cn} {F H : Hp} {x : V} {i : Str} {U : List Addr} (o : Own C F H x (.str i) U) : x = .str i ∧ U = [] := by cases o; exact ⟨rfl, rfl⟩
theorem own_non {C : Cn} {F H : Hp} {x : V} {U : List Addr} (o : Own C F H x .non U) : x = .non ∧ U = [] := by cases o; exact ⟨rfl, rfl⟩
theorem own_nd {C : Cn} {F H : Hp} {x : V} {f : Fg} {k : Kd} {ds : List D} {U : List Addr} (sm : Same F H) (st : Same C.T H) (o : Own C F H x (.nd f k ds) U) : ∃ a vs U', x = .ref a ∧ Cont C.toCb H a k vs ∧ Owns C F H vs ds U' ∧ (∀ z ∈ U', z ∈ U) := by
  cases o with
  | sh c nt os => exact ⟨_, _, _, rfl, c.mono sm, os, fun _ h => h⟩
  | tm c os => exact ⟨_, _, _, rfl, c.mono st, os, fun _ h => h⟩
  | ow c fn tn ni os => exact ⟨_, _, _, rfl, c.cont, os, fun _ h => List.mem_cons_of_mem _ h⟩
theorem rq_I0 {C : Cb} (g : Int → Int → Int) : RQ2 C (rI0 fun i j => .int (g i j)) (dI fun i j => some (.int (g i j))) := by
  intro T F H x y a b d Ua Ub Q sm st o1 o2 e q
  cases a <;> cases b <;> simp only [dI] at e <;> try cases e
  obtain ⟨rfl, _⟩ := own_int o1
  obtain ⟨rfl, _⟩ := own_int o2
  exact ⟨_, _, rfl, rfl, q _ F H [] (Step.refl sm st) (.int _) (fun _ z => nomatch z)⟩
theorem rq_B0 {C : Cb} (g : Int → Int → Bool) : RQ2 C (rI0 fun i j => .bl (g i j)) (dI fun i j => some (.bl (g i j))) := by
  intro T F H x y a b d Ua Ub Q sm st o1 o2 e q
  cases a <;> cases b <;> simp only [dI] at e <;> try cases e
  obtain ⟨rfl, _⟩ := own_int o1
  obtain ⟨rfl, _⟩ := own_int o2
  exact ⟨_, _, rfl, rfl, q _ F H [] (Step.refl sm st) (.bl _) (fun _ z => nomatch z)⟩
theorem rq_IC {C : Cb} (P : Int → Int → Prop) [∀ i j, Decidable (P i j)] (P' : Int → Int → Prop) (h : ∀ i j, P i j → P' i j) (g : Int → Int → Int) : RQ2 C (rI P' fun i j => .int (g i j)) (dI fun i j => if P i j then some (.int (g i j)) else none) := by
  intro T F H x y a b d Ua Ub Q sm st o1 o2 e q
  cases a <;> cases b <;> simp only [dI] at e <;> try cases e
  obtain ⟨rfl, _⟩ := own_int o1
  obtain ⟨rfl, _⟩ := own_int o2
  split at e
  · rename_i i j hp
    cases e
    exact ⟨_, _, rfl, rfl, h _ _ hp, q _ F H [] (Step.refl sm st) (.int _) (fun _ z => nomatch z)⟩
  · cases e
end
end SK

namespace SK
open PySem PySem.Spec L2

/-! ### facts about what is owned -/
section
variable {C : Cn} {F H F' H' : Hp}
theorem Owns.len : ∀ {vs : List V} {ds : List D} {S : List Addr}, Owns C F H vs ds S → vs.length = ds.length
  | _, _, _, .nil => rfl
  | _, _, _, .cons _ os _ _ => by simp [Owns.len os]
theorem Owns.get : ∀ {vs : List V} {ds : List D} {S : List Addr} {i : Nat} {d : D}, Owns C F H vs ds S → ds[i]? = some d → ∃ v U, vs[i]? = some v ∧ Own C F H v d U ∧ ∀ x ∈ U, x ∈ S
  | _, _, _, _, _, .nil, h => by simp at h
  | _, _, _, 0, _, .cons (S := S) o os _ e, h => by
    simp at h; subst h
    exact ⟨_, S, rfl, o, fun x hx => by rw [e]; exact List.mem_append_left _ hx⟩
  | _, _, _, i + 1, d, .cons o os _ e, h => by
    obtain ⟨v, U, h1, h2, h3⟩ := Owns.get (i := i) (d := d) os (by simpa using h)
    exact ⟨v, U, by simpa using h1, h2, fun x hx => by rw [e]; exact List.mem_append_right _ (h3 x hx)⟩
/-- the elements of what lies for ever -/
theorem Owns.all_nil : ∀ {vs : List V} {ds : List D} {S : List Addr}, Owns C F H vs ds S → (∀ d ∈ ds, d.hd = false) → S = []
  | _, _, _, .nil, _ => rfl
  | _, _, _, .cons o os _ e, h => by
    rw [e, o.nil_of (h _ List.mem_cons_self), Owns.all_nil os (fun d hd => h d (List.mem_cons_of_mem _ hd))]; rfl
theorem OwnL.owns {φ : Fp} : ∀ {vs : List V} {ds : List D}, OwnL C F H φ vs ds → (∀ d ∈ ds, d.hd = false) → Owns C F H vs ds []
  | _, _, .nil, _ => .nil
  | _, _, .cons ⟨U, o, _⟩ r, h => by
    have e := o.nil_of (h _ List.mem_cons_self)
    subst e
    exact .cons o (OwnL.owns r fun d hd => h d (List.mem_cons_of_mem _ hd)) (fun _ z => nomatch z) rfl
/-- a sequence that stands, cut or arranged: still data -/
theorem Owns.sub {vs : List V} {ds : List D} (o : Owns C F H vs ds []) : ∀ {js : List Nat}, (∀ j ∈ js, j < ds.length) → Owns C F H (js.filterMap (vs[·]?)) (js.filterMap (ds[·]?)) []
  | [], _ => .nil
  | j :: js, h => by
    have hj := h j List.mem_cons_self
    obtain ⟨v, U, e1, o1, s1⟩ := o.get (i := j) (List.getElem?_eq_getElem hj)
    have e : U = [] := List.eq_nil_iff_forall_not_mem.mpr fun x hx => nomatch s1 x hx
    subst e
    rw [List.filterMap_cons, e1, List.filterMap_cons, List.getElem?_eq_getElem hj]
    exact .cons o1 (Owns.sub o fun k hk => h k (List.mem_cons_of_mem _ hk)) (fun _ z => nomatch z) rfl
theorem Owns.append0 : ∀ {vs ws : List V} {ds es : List D}, Owns C F H vs ds [] → Owns C F H ws es [] → Owns C F H (vs ++ ws) (ds ++ es) []
  | _, _, _, _, .nil, r => r
  | _, _, _, _, .cons (S := S) (T := T) o os _ e, r => by
    have e1 : S = [] := (List.append_eq_nil_iff.mp e.symm).1
    have e2 : T = [] := (List.append_eq_nil_iff.mp e.symm).2
    subst e1 e2
    exact .cons o (Owns.append0 os r) (fun _ z => nomatch z) rfl
theorem Owns.drop0 : ∀ (n : Nat) {vs : List V} {ds : List D}, Owns C F H vs ds [] → Owns C F H (vs.drop n) (ds.drop n) []
  | 0, _, _, o => o
  | _ + 1, _, _, .nil => .nil
  | n + 1, _, _, .cons (S := S) (T := T) o os _ e => by
    have e2 : T = [] := (List.append_eq_nil_iff.mp e.symm).2
    subst e2
    exact Owns.drop0 n os
theorem Owns.take0 : ∀ (n : Nat) {vs : List V} {ds : List D}, Owns C F H vs ds [] → Owns C F H (vs.take n) (ds.take n) []
  | 0, _, _, o => .nil
  | _ + 1, _, _, .nil => .nil
  | n + 1, _, _, .cons (S := S) (T := T) o os _ e => by
    have e1 : S = [] := (List.append_eq_nil_iff.mp e.symm).1
    have e2 : T = [] := (List.append_eq_nil_iff.mp e.symm).2
    subst e1 e2
    exact .cons o (Owns.take0 n os) (fun _ z => nomatch z) rfl
theorem Owns.ints : ∀ {vs : List V} {ns : List Int} {S : List Addr}, Owns C F H vs (ns.map D.int) S → vs = ns.map V.int
  | _, [], _, .nil => rfl
  | _, n :: ns, _, .cons o os _ e => by rw [(own_int o).1, Owns.ints os]; rfl
theorem Owns.of_ints (F H : Hp) : ∀ ns : List Int, Owns C F H (ns.map V.int) (ns.map D.int) []
  | [] => .nil
  | n :: ns => .cons (.int n) (Owns.of_ints F H ns) (fun _ z => nomatch z) rfl
theorem Owns.strs : ∀ {vs : List V} {ns : List Str} {S : List Addr}, Owns C F H vs (ns.map D.str) S → vs = ns.map V.str
  | _, [], _, .nil => rfl
  | _, n :: ns, _, .cons o os _ e => by rw [(own_str o).1, Owns.strs os]; rfl
theorem Owns.of_strs (F H : Hp) : ∀ ns : List Str, Owns C F H (ns.map V.str) (ns.map D.str) []
  | [] => .nil
  | n :: ns => .cons (.str n) (Owns.of_strs F H ns) (fun _ z => nomatch z) rfl
/-- a new sequence of what lies for ever -/
theorem own_new_lst {F H : Hp} {p : Addr} {vs : List V} {ds : List D} (s : Same F H) (st : Same C.T H) (n : H p = none) (nt : D.noTms ds = true) (o : Owns C F H vs ds []) :
    Own C (upd F p (.lst vs)) (upd H p (.lst vs)) (.ref p) (.nd .sh .lst ds) [] :=
  .sh (.inl (.inl upd_same)) nt (o.step (grow_new s st n) (fun _ z => nomatch z))
theorem own_new_tup {F H : Hp} {p : Addr} {vs : List V} {ds : List D} (s : Same F H) (st : Same C.T H) (n : H p = none) (nt : D.noTms ds = true) (o : Owns C F H vs ds []) :
    Own C (upd F p (.tup vs)) (upd H p (.tup vs)) (.ref p) (.nd .sh .tup ds) [] :=
  .sh upd_same nt (o.step (grow_new s st n) (fun _ z => nomatch z))
theorem own_sh_seq {F H : Hp} {a : V} {k : Kd} {ds : List D} {U : List Addr} (o : Own C F H a (.nd .sh k ds) U) : ∃ p vs, a = .ref p ∧ Cont C.toCb F p k vs ∧ D.noTms ds = true ∧ Owns C F H vs ds [] := by
  cases o with
  | sh c nt os => exact ⟨_, _, rfl, c, nt, os⟩
end

/-! ### arguments -/
section
variable {X : Cx} {C : Cn}
def qNil : Gm → Option (List D) := fun _ => some []
def qCons (f : Gm → Option D) (g : Gm → Option (List D)) : Gm → Option (List D) := fun Γ => (f Γ).bind fun a => (g Γ).bind fun b => some (a :: b)
theorem pqa_nil : PQA X [] qNil := pa_imp pa_nil fun σ H Q ⟨T, F, Γ, φ, d, r, e, q⟩ => by
  cases e
  exact q [] F H (Step.refl r.le r.leT) .nil
theorem pqa_cons {e : Expr} {es : List Expr} {f : Gm → Option D} {g : Gm → Option (List D)} (h : PQ X e f) (hs : PQA X es g)
    (h1 : starEach (e :: es) X.env = (false, eval e X.env) :: starEach es X.env := by rfl) : PQA X (e :: es) (qCons f g) := pa_imp (pa_cons h hs h1) fun σ H Q ⟨T, F, Γ, φ, d, r, e, q⟩ => by
  obtain ⟨a, ea, e⟩ := bind_some e
  obtain ⟨b, eb, e⟩ := bind_some e
  cases e
  exact ⟨T, F, Γ, φ, a, r, ea, fun v F1 H1 U g1 o1 u1 => ⟨T, F1, Γ, φ, b, r.grow g1, eb, fun vs F2 H2 g2 os => q _ F2 H2 (g1.trans g2) (.cons ⟨U, o1.grow g2, u1⟩ os)⟩⟩
end
end SK

namespace SK
open PySem PySem.Spec L2
section
variable {X : Cx} {C : Cn}

/-! ### displays -/
def D.all0 (ds : List D) : Bool := ds.all fun d => !d.hd
theorem all0_iff {ds : List D} (h : D.all0 ds = true) : ∀ d ∈ ds, d.hd = false := fun d hd => by
  have := List.all_eq_true.mp h d hd
  simpa using this
def mkSeq (k : Kd) (ds : List D) : Option D := if D.all0 ds = true ∧ D.noTms ds = true ∧ ds.length ≤ 100000 then some (.nd .sh k ds) else none
def qSeq (k : Kd) (g : Gm → Option (List D)) : Gm → Option D := fun Γ => (g Γ).bind (mkSeq k)
theorem mkSeq_some {k : Kd} {ds : List D} {d : D} (h : mkSeq k ds = some d) : (∀ d ∈ ds, d.hd = false) ∧ D.noTms ds = true ∧ ds.length ≤ sizeLine ∧ d = .nd .sh k ds := by
  unfold mkSeq at h
  split at h
  · rename_i hc
    cases h
    exact ⟨all0_iff hc.1, hc.2.1, Nat.le_trans hc.2.2 (by decide), rfl⟩
  · cases h
theorem OwnL.len {C : Cn} {F H : Hp} {φ : Fp} : ∀ {vs : List V} {ds : List D}, OwnL C F H φ vs ds → vs.length = ds.length
  | _, _, .nil => rfl
  | _, _, .cons _ r => by simp [OwnL.len r]
theorem pq_tup {es : List Expr} {x1 : Nat} {pos : Pos} {g : Gm → Option (List D)} (h : PQA X es g) : PQ X (.Tuple es x1 pos) (qSeq .tup g) :=
  pe_imp (pe_tup h) fun σ H Q ⟨T, F, Γ, φ, d, r, e, q⟩ => by
    obtain ⟨ds, ea, e⟩ := bind_some e
    obtain ⟨h1, nt, h2, rfl⟩ := mkSeq_some e
    refine ⟨T, F, Γ, φ, ds, r, ea, fun vs F1 H1 g1 os => ⟨by rw [os.len]; exact h2, fun p np => ?_⟩⟩
    exact q _ _ _ [] (g1.trans (grow_new g1.le' g1.leT np)) (own_new_tup g1.le' g1.leT np nt (os.owns h1)) (fun _ z => nomatch z)
theorem pq_lst {es : List Expr} {pos : Pos} {g : Gm → Option (List D)} (h : PQA X es g) : PQ X (.List es pos) (qSeq .lst g) :=
  pe_imp (pe_lst h) fun σ H Q ⟨T, F, Γ, φ, d, r, e, q⟩ => by
    obtain ⟨ds, ea, e⟩ := bind_some e
    obtain ⟨h1, nt, h2, rfl⟩ := mkSeq_some e
    refine ⟨T, F, Γ, φ, ds, r, ea, fun vs F1 H1 g1 os => ⟨by rw [os.len]; exact h2, fun p np => ?_⟩⟩
    exact q _ _ _ [] (g1.trans (grow_new g1.le' g1.leT np)) (own_new_lst g1.le' g1.leT np nt (os.owns h1)) (fun _ z => nomatch z)

/-! ### subscripts -/
def D.key : D → Option Key
  | .int i => some (.inl i)
  | .str s => some (.inr s)
  | _ => none
def D.tkey : D → Option (List Key)
  | .nd _ .tup ds => ds.mapM D.key
  | _ => none
def dlook {κ α : Type} [DecidableEq κ] (ks : List κ) (ds : List α) (k : κ) : Option α := ((ks.zip ds).find? fun p => decide (p.1 = k)).map (·.2)
def dSub : D → D → Option D
  | .nd _ .lst ds, .int i => atI ds i
  | .nd _ .tup ds, .int i => atI ds i
  | .nd _ .ktup ds, .int i => atI ds i
  | .str s, .int i => if s.length ≤ 100000 then (atI s.cps.toList i).map fun c => .str ⟨#[c]⟩ else none
  | .nd _ (.dic ks) ds, k => (D.key k).bind (dlook ks ds)
  | .nd _ (.dit ks) ds, k => (D.tkey k).bind (dlook ks ds)
  | _, _ => none
theorem atI_own {F H : Hp} {vs : List V} {ds : List D} {S : List Addr} {i : Int} {d : D} (o : Owns C F H vs ds S) (h : atI ds i = some d) : ∃ v U, atI vs i = some v ∧ Own C F H v d U ∧ ∀ x ∈ U, x ∈ S := by
  unfold atI at h ⊢
  obtain ⟨j, e1, e2⟩ := bind_some h
  obtain ⟨v, U, h1, h2, h3⟩ := o.get e2
  exact ⟨v, U, by rw [o.len, e1]; exact h1, h2, h3⟩
theorem key_own {F H : Hp} {y : V} {k : D} {κ : Key} {U : List Addr} (o : Own C F H y k U) (h : k.key = some κ) : y = kV κ ∧ U = [] := by
  cases k <;> simp only [D.key] at h <;> cases h
  · obtain ⟨e, z⟩ := own_int o; exact ⟨e, z⟩
  · obtain ⟨e, z⟩ := own_str o; exact ⟨e, z⟩
theorem keys_own {F H : Hp} : ∀ {vs : List V} {ds : List D} {S : List Addr} {ks : List Key}, Owns C F H vs ds S → ds.mapM D.key = some ks → vs = ks.map kV
  | _, _, _, _, .nil, h => by
    simp at h; subst h; rfl
  | _, _, _, _, .cons (d := d) (ds := ds) o os _ _, h => by
    rw [List.mapM_cons] at h
    obtain ⟨k, e1, h⟩ := bind_some h
    obtain ⟨ks', e2, h⟩ := bind_some h
    cases h
    rw [(key_own o e1).1, keys_own os e2]; rfl
theorem dlook_own {κ : Type} [DecidableEq κ] {F H : Hp} : ∀ {kvs : List (κ × V)} {ds : List D} {S : List Addr} {k : κ}, Owns C F H (kvs.map Prod.snd) ds S →
    match dlook (kvs.map Prod.fst) ds k with
    | some d => ∃ v U, valV kvs k = some v ∧ Own C F H v d U ∧ ∀ x ∈ U, x ∈ S
    | none => valV kvs k = none
  | [], _, _, k, .nil => by simp [dlook, valV]
  | (k', v) :: kvs, d :: ds, _, k, .cons (S := S) o os _ e => by
    have ih := dlook_own (k := k) os
    unfold dlook valV at ih ⊢
    simp only [List.map_cons, List.zip_cons_cons, List.find?_cons]
    by_cases hk : k' = k
    · simp only [hk, decide_true]
      exact ⟨v, S, rfl, o, fun x hx => by rw [e]; exact List.mem_append_left _ hx⟩
    · simp only [hk, decide_false]
      revert ih
      cases (((kvs.map Prod.fst).zip ds).find? fun p => decide (p.1 = k)) with
      | none => exact fun ih => ih
      | some p => exact fun ⟨w, U, h1, h2, h3⟩ => ⟨w, U, h1, h2, fun x hx => by rw [e]; exact List.mem_append_right _ (h3 x hx)⟩
/-- a tuple as a key stands as an object of H -/
theorem tkey_own {F H : Hp} {y : V} {k : D} {κ : List Key} {U : List Addr} (sm : Same F H) (st : Same C.T H) (o : Own C F H y k U) (h : k.tkey = some κ) : ∃ b, y = .ref b ∧ H b = some (.tup (κ.map kV)) := by
  cases k with
  | nd f k ds =>
    cases k <;> simp only [D.tkey] at h <;> try cases h
    obtain ⟨a, vs, U', rfl, c, os, _⟩ := own_nd sm st o
    exact ⟨a, rfl, by rw [← keys_own os h]; exact c⟩
  | _ => cases h
/-- the value r gives for these two -/
def RQv (B : Cb) (r : R2) (a b d : D) : Prop := ∀ (T F H : Hp) (x y : V) (Ua Ub : List Addr) (Q : VK), Same F H → Same T H → Own ⟨B, T⟩ F H x a Ua → Own ⟨B, T⟩ F H y b Ub →
  (∀ v F' H' U, Grow ⟨B, T⟩ F H F' H' → Own ⟨B, T⟩ F' H' v d U → (∀ z ∈ U, z ∈ Ua ∨ z ∈ Ub) → Q v H') → r x y H Q
theorem q2v {C : Cb} {r : R2} {a b d : D} {fa fb : Gm → Option D} {σ : L2.St} {H T F : Hp} {Γ : Gm} {φ : Fp} {Q : VK} (rp : Rep ⟨C, T⟩ F H σ Γ φ) (ea : fa Γ = some a) (eb : fb Γ = some b) (hr : RQv C r a b d)
    (q : ∀ v F' H' U, Grow ⟨C, T⟩ F H F' H' → Own ⟨C, T⟩ F' H' v d U → (∀ x ∈ U, φ.at x) → Q v H') : tOp r (tQ C fa) (tQ C fb) σ H Q :=
  ⟨T, F, Γ, φ, a, rp, ea, fun v F1 H1 U g1 o1 u1 => ⟨T, F1, Γ, φ, b, rp.grow g1, eb, fun w F2 H2 U' g2 o2 u2 =>
    hr T F2 H2 v w U U' Q g2.le' g2.leT (o1.grow g2) o2 fun z F3 H3 U3 g3 o3 u3 => q z F3 H3 U3 ((g1.trans g2).trans g3) o3 fun x hx => (u3 x hx).elim (u1 x) (u2 x)⟩⟩
def rDGet : R2 := fun x y H Q => ∃ a v, x = .ref a ∧ DGet H a y (some v) ∧ Q v H
theorem rqv_ixL {C : Cb} {f : Fg} {ds : List D} {i : Int} {d : D} (h : atI ds i = some d) : RQv C (rIx C.K) (.nd f .lst ds) (.int i) d := by
  intro T F H x y Ua Ub Q sm st o1 o2 q
  obtain ⟨a, vs, U', rfl, c, os, hu⟩ := own_nd sm st o1
  obtain ⟨rfl, _⟩ := own_int o2
  obtain ⟨v, U, h1, h2, h3⟩ := atI_own os h
  exact .inl ⟨a, vs, i, v, rfl, rfl, c, h1, q v F H U (Step.refl sm st) h2 fun z hz => .inl (hu z (h3 z hz))⟩
theorem rqv_ixT {C : Cb} {f : Fg} {ds : List D} {i : Int} {d : D} (h : atI ds i = some d) : RQv C (rIx C.K) (.nd f .tup ds) (.int i) d := by
  intro T F H x y Ua Ub Q sm st o1 o2 q
  obtain ⟨a, vs, U', rfl, c, os, hu⟩ := own_nd sm st o1
  obtain ⟨rfl, _⟩ := own_int o2
  obtain ⟨v, U, h1, h2, h3⟩ := atI_own os h
  exact .inr (.inl ⟨a, vs, i, v, rfl, rfl, .of c, h1, q v F H U (Step.refl sm st) h2 fun z hz => .inl (hu z (h3 z hz))⟩)
theorem rqv_ixK {C : Cb} {f : Fg} {ds : List D} {i : Int} {d : D} (h : atI ds i = some d) : RQv C (rIx C.K) (.nd f .ktup ds) (.int i) d := by
  intro T F H x y Ua Ub Q sm st o1 o2 q
  obtain ⟨a, vs, U', rfl, c, os, hu⟩ := own_nd sm st o1
  obtain ⟨rfl, _⟩ := own_int o2
  obtain ⟨v, U, h1, h2, h3⟩ := atI_own os h
  exact .inr (.inl ⟨a, vs, i, v, rfl, rfl, c, h1, q v F H U (Step.refl sm st) h2 fun z hz => .inl (hu z (h3 z hz))⟩)
theorem rqv_ixS {C : Cb} {s : Str} {i : Int} {d : D} (h : (if s.length ≤ 100000 then (atI s.cps.toList i).map fun c => D.str ⟨#[c]⟩ else none) = some d) : RQv C (rIx C.K) (.str s) (.int i) d := by
  intro T F H x y Ua Ub Q sm st o1 o2 q
  obtain ⟨rfl, _⟩ := own_str o1
  obtain ⟨rfl, _⟩ := own_int o2
  split at h
  · rename_i hl
    cases e : atI s.cps.toList i with
    | none => rw [e] at h; cases h
    | some c =>
      rw [e] at h; cases h
      exact .inr (.inr ⟨s, i, c, rfl, rfl, Nat.le_trans hl (by decide), e, q _ F H [] (Step.refl sm st) (.str _) fun _ z => nomatch z⟩)
  · cases h
theorem dget_own {F H : Hp} {f : Fg} {ks : List Key} {ds : List D} {k : D} {x y : V} {Ua Ub : List Addr} {κ : Key} (sm : Same F H) (st : Same C.T H) (o1 : Own C F H x (.nd f (.dic ks) ds) Ua) (o2 : Own C F H y k Ub) (hk : k.key = some κ) :
    ∃ a o, x = .ref a ∧ DGet H a y o ∧ IsD H a ∧ match dlook ks ds κ with
      | some d => ∃ v U, o = some v ∧ Own C F H v d U ∧ ∀ z ∈ U, z ∈ Ua
      | none => o = none := by
  obtain ⟨a, vs, U', rfl, ⟨kvs, e, h1, h2⟩, os, hu⟩ := own_nd sm st o1
  obtain ⟨rfl, _⟩ := key_own o2 hk
  subst h1 h2
  have q := dlook_own (k := κ) os
  refine ⟨a, valV kvs κ, rfl, .inl ⟨kvs, κ, e, rfl, rfl⟩, .inl ⟨kvs, e⟩, ?_⟩
  revert q
  cases dlook (kvs.map Prod.fst) ds κ with
  | none => exact fun q => q
  | some d => exact fun ⟨v, U, h1, h2, h3⟩ => ⟨v, U, h1, h2, fun z hz => hu z (h3 z hz)⟩
theorem dget_ownT {F H : Hp} {f : Fg} {ks : List (List Key)} {ds : List D} {k : D} {x y : V} {Ua Ub : List Addr} {κ : List Key} (sm : Same F H) (st : Same C.T H) (o1 : Own C F H x (.nd f (.dit ks) ds) Ua) (o2 : Own C F H y k Ub) (hk : k.tkey = some κ) :
    ∃ a o, x = .ref a ∧ DGet H a y o ∧ IsD H a ∧ match dlook ks ds κ with
      | some d => ∃ v U, o = some v ∧ Own C F H v d U ∧ ∀ z ∈ U, z ∈ Ua
      | none => o = none := by
  obtain ⟨a, vs, U', rfl, ⟨kvs, e, h1, h2⟩, os, hu⟩ := own_nd sm st o1
  obtain ⟨b, rfl, hb⟩ := tkey_own sm st o2 hk
  subst h1 h2
  have q := dlook_own (k := κ) os
  refine ⟨a, valV kvs κ, rfl, .inr ⟨kvs, κ, b, e, rfl, hb, rfl⟩, .inr ⟨kvs, e⟩, ?_⟩
  revert q
  cases dlook (kvs.map Prod.fst) ds κ with
  | none => exact fun q => q
  | some d => exact fun ⟨v, U, h1, h2, h3⟩ => ⟨v, U, h1, h2, fun z hz => hu z (h3 z hz)⟩
theorem rqv_get {C : Cb} {f : Fg} {ks : List Key} {ds : List D} {k d : D} (h : (D.key k).bind (dlook ks ds) = some d) : RQv C rDGet (.nd f (.dic ks) ds) k d := by
  intro T F H x y Ua Ub Q sm st o1 o2 q
  obtain ⟨κ, hk, h⟩ := bind_some h
  obtain ⟨a, o, e1, e2, _, e3⟩ := dget_own sm st o1 o2 hk
  rw [h] at e3
  obtain ⟨v, U, rfl, h2, h3⟩ := e3
  exact ⟨a, v, e1, e2, q v F H U (Step.refl sm st) h2 fun z hz => .inl (h3 z hz)⟩
theorem rqv_getT {C : Cb} {f : Fg} {ks : List (List Key)} {ds : List D} {k d : D} (h : (D.tkey k).bind (dlook ks ds) = some d) : RQv C rDGet (.nd f (.dit ks) ds) k d := by
  intro T F H x y Ua Ub Q sm st o1 o2 q
  obtain ⟨κ, hk, h⟩ := bind_some h
  obtain ⟨a, o, e1, e2, _, e3⟩ := dget_ownT sm st o1 o2 hk
  rw [h] at e3
  obtain ⟨v, U, rfl, h2, h3⟩ := e3
  exact ⟨a, v, e1, e2, q v F H U (Step.refl sm st) h2 fun z hz => .inl (h3 z hz)⟩
theorem pq_sub {a b : Expr} {pos : Pos} {fa fb : Gm → Option D} (hu : X.A.units + 1 < cLine) (ha : PQ X a fa) (hb : PQ X b fb) (hs : PlainIx b) (hn : NoSl b) : PQ X (.Subscript a b pos) (q2 dSub fa fb) := by
  refine pe_imp (pe_or2 (pe_ix ix_seq ha hb hs) (pe_dget hu ha hb hn)) fun σ H Q ⟨T, F, Γ, φ, d, r, e, q⟩ => ?_
  obtain ⟨da, ea, e⟩ := bind_some e
  obtain ⟨db, eb, e⟩ := bind_some e
  unfold dSub at e
  split at e
  · exact .inl (q2v r ea eb (rqv_ixL e) q)
  · exact .inl (q2v r ea eb (rqv_ixT e) q)
  · exact .inl (q2v r ea eb (rqv_ixK e) q)
  · exact .inl (q2v r ea eb (rqv_ixS e) q)
  · exact .inr (q2v (r := rDGet) r ea eb (rqv_get e) q)
  · exact .inr (q2v (r := rDGet) r ea eb (rqv_getT e) q)
  · cases e
end
end SK

namespace SK
open PySem PySem.Spec L2
section
variable {X : Cx} {C : Cn}

/-! ### equality -/
mutual
def D.py : D → Option PyData
  | .non => some .none
  | .bl b => some (.bool b)
  | .int i => some (.int i)
  | .str s => some (.str s)
  | .nd _ .lst ds => (D.pys ds).map .list
  | .nd _ .tup ds => (D.pys ds).map .tuple
  | .nd _ .ktup ds => (D.pys ds).map .tuple
  | _ => none
def D.pys : List D → Option (List PyData)
  | [] => some []
  | d :: ds => (D.py d).bind fun x => (D.pys ds).map fun xs => x :: xs
end
theorem map_some {α β : Type} {x : Option α} {f : α → β} {b : β} (h : x.map f = some b) : ∃ a, x = some a ∧ f a = b := by
  cases x with
  | none => cases h
  | some a => exact ⟨a, rfl, Option.some.inj h⟩
section
variable {F H : Hp}
mutual
theorem Own.dp (sm : Same F H) (st : Same C.T H) : ∀ {v : V} {d : D} {S : List Addr} {p : PyData}, Own C F H v d S → d.py = some p → Dp C.K H v p
  | _, _, _, _, .non, h => by rw [D.py] at h; cases h; exact .non
  | _, _, _, _, .bl b, h => by rw [D.py] at h; cases h; exact .bl b
  | _, _, _, _, .int b, h => by rw [D.py] at h; cases h; exact .int b
  | _, _, _, _, .str b, h => by rw [D.py] at h; cases h; exact .str b
  | _, _, _, _, .ty b, h => by rw [D.py] at h <;> first | cases h | (intros; intro z; cases z)
  | _, _, _, _, .cls b, h => by rw [D.py] at h <;> first | cases h | (intros; intro z; cases z)
  | _, _, _, _, .sh (k := k) c _ os, h => by
    cases k with
    | lst => rw [D.py] at h; obtain ⟨xs, e, rfl⟩ := map_some h; exact .lst (Same.sql sm c) (Owns.dp sm st os e)
    | tup => rw [D.py] at h; obtain ⟨xs, e, rfl⟩ := map_some h; exact .tup (SqT.of (sm _ _ c)) (Owns.dp sm st os e)
    | ktup => rw [D.py] at h; obtain ⟨xs, e, rfl⟩ := map_some h; exact .tup (Same.sqt sm c) (Owns.dp sm st os e)
    | dic ks => rw [D.py] at h <;> first | cases h | (intros; intro z; cases z)
    | dit ks => rw [D.py] at h <;> first | cases h | (intros; intro z; cases z)
    | ins a b => rw [D.py] at h <;> first | cases h | (intros; intro z; cases z)
  | _, _, _, _, .tm (k := k) c os, h => by
    cases k with
    | lst => rw [D.py] at h; obtain ⟨xs, e, rfl⟩ := map_some h; exact .lst (Same.sql st c) (Owns.dp sm st os e)
    | tup => rw [D.py] at h; obtain ⟨xs, e, rfl⟩ := map_some h; exact .tup (SqT.of (st _ _ c)) (Owns.dp sm st os e)
    | ktup => rw [D.py] at h; obtain ⟨xs, e, rfl⟩ := map_some h; exact .tup (Same.sqt st c) (Owns.dp sm st os e)
    | dic ks => rw [D.py] at h <;> first | cases h | (intros; intro z; cases z)
    | dit ks => rw [D.py] at h <;> first | cases h | (intros; intro z; cases z)
    | ins a b => rw [D.py] at h <;> first | cases h | (intros; intro z; cases z)
  | _, _, _, _, .ow (k := k) c fn tn ni os, h => by
    cases k with
    | lst => rw [D.py] at h; obtain ⟨xs, e, rfl⟩ := map_some h; exact .lst (SqL.of c) (Owns.dp sm st os e)
    | tup => rw [D.py] at h; obtain ⟨xs, e, rfl⟩ := map_some h; exact .tup (SqT.of c) (Owns.dp sm st os e)
    | ktup => exact c.elim
    | dic ks => rw [D.py] at h <;> first | cases h | (intros; intro z; cases z)
    | dit ks => rw [D.py] at h <;> first | cases h | (intros; intro z; cases z)
    | ins a b => rw [D.py] at h <;> first | cases h | (intros; intro z; cases z)
theorem Owns.dp (sm : Same F H) (st : Same C.T H) : ∀ {vs : List V} {ds : List D} {S : List Addr} {ps : List PyData}, Owns C F H vs ds S → D.pys ds = some ps → DpAll C.K H vs ps
  | _, _, _, _, .nil, h => by rw [D.pys] at h; cases h; exact .nil
  | _, _, _, _, .cons o os _ _, h => by
    rw [D.pys] at h
    obtain ⟨x, e1, h⟩ := bind_some h
    obtain ⟨xs, e2, rfl⟩ := map_some h
    exact .cons (Own.dp sm st o e1) (Owns.dp sm st os e2)
end
end
def dEq (a b : D) : Option D := (a.py).bind fun x => (b.py).bind fun y => if SeqAt.shaped x = true ∧ SeqAt.shaped y = true then some (.bl (PyData.eqv x y)) else none
def dNe (a b : D) : Option D := (a.py).bind fun x => (b.py).bind fun y => if SeqAt.shaped x = true ∧ SeqAt.shaped y = true then some (.bl (!PyData.eqv x y)) else none
theorem rq_eq {C : Cb} : RQ2 C (rEqD C.K) dEq := by
  intro T F H x y a b d Ua Ub Q sm st o1 o2 e q
  obtain ⟨p, e1, e⟩ := bind_some e
  obtain ⟨r, e2, e⟩ := bind_some e
  split at e
  · rename_i hs
    cases e
    exact ⟨p, r, o1.dp sm st e1, o2.dp sm st e2, hs.1, hs.2, q _ F H [] (Step.refl sm st) (.bl _) fun _ z => nomatch z⟩
  · cases e
theorem rq_ne {C : Cb} : RQ2 C (rNeD C.K) dNe := by
  intro T F H x y a b d Ua Ub Q sm st o1 o2 e q
  obtain ⟨p, e1, e⟩ := bind_some e
  obtain ⟨r, e2, e⟩ := bind_some e
  split at e
  · rename_i hs
    cases e
    exact ⟨p, r, o1.dp sm st e1, o2.dp sm st e2, hs.1, hs.2, q _ F H [] (Step.refl sm st) (.bl _) fun _ z => nomatch z⟩
  · cases e

/-! ### is None -/
def D.isN : D → Bool
  | .non => true
  | _ => false
theorem isN_own {F H : Hp} {v : V} {d : D} {S : List Addr} (o : Own C F H v d S) : decide (v = .non) = d.isN := by
  cases o <;> simp [D.isN]
def dIs : D → D → Option D
  | a, .non => some (.bl a.isN)
  | _, _ => none
def dIsNot : D → D → Option D
  | a, .non => some (.bl (!a.isN))
  | _, _ => none
theorem rq_is {C : Cb} : RQ2 C (fun x y H Q => y = .non ∧ Q (.bl (decide (x = .non))) H) dIs := by
  intro T F H x y a b d Ua Ub Q sm st o1 o2 e q
  cases b <;> simp only [dIs] at e <;> try cases e
  rw [isN_own o1]
  exact ⟨(own_non o2).1, q _ F H [] (Step.refl sm st) (.bl _) fun _ z => nomatch z⟩
theorem rq_isnot {C : Cb} : RQ2 C (fun x y H Q => y = .non ∧ Q (.bl (!decide (x = .non))) H) dIsNot := by
  intro T F H x y a b d Ua Ub Q sm st o1 o2 e q
  cases b <;> simp only [dIsNot] at e <;> try cases e
  rw [isN_own o1]
  exact ⟨(own_non o2).1, q _ F H [] (Step.refl sm st) (.bl _) fun _ z => nomatch z⟩

/-! ### in -/
def D.sv : D → Option V
  | .non => some .non
  | .bl b => some (.bl b)
  | .int i => some (.int i)
  | .str s => some (.str s)
  | _ => none
theorem sv_own {F H : Hp} {v w : V} {d : D} {S : List Addr} (o : Own C F H v d S) (h : d.sv = some w) : v = w ∧ flatV w = true := by
  cases o <;> simp only [D.sv] at h <;> cases h <;> exact ⟨rfl, rfl⟩
theorem svs_own {F H : Hp} : ∀ {vs ws : List V} {ds : List D} {S : List Addr}, Owns C F H vs ds S → ds.mapM D.sv = some ws → vs = ws ∧ ws.all flatV = true
  | _, _, _, _, .nil, h => by
    simp at h; subst h; exact ⟨rfl, rfl⟩
  | _, _, _, _, .cons o os _ _, h => by
    rw [List.mapM_cons] at h
    obtain ⟨k, e1, h⟩ := bind_some h
    obtain ⟨ks', e2, h⟩ := bind_some h
    cases h
    obtain ⟨rfl, f1⟩ := sv_own o e1
    obtain ⟨rfl, f2⟩ := svs_own os e2
    exact ⟨rfl, by rw [List.all_cons, f1, f2]; rfl⟩
def inSeq (a : D) (ds : List D) : Option Bool := (a.sv).bind fun x => (ds.mapM D.sv).map fun xs => inV x xs
def dIn : D → D → Option Bool
  | a, .nd _ .lst ds => inSeq a ds
  | a, .nd _ .tup ds => inSeq a ds
  | a, .nd _ .ktup ds => inSeq a ds
  | a, .nd _ (.dic ks) ds => (D.key a).map fun k => (dlook ks ds k).isSome
  | a, .nd _ (.dit ks) ds => (D.tkey a).map fun k => (dlook ks ds k).isSome
  | .str a, .str b => some (!(Builtin.Str.occurrences b a 0 b.length 1).isEmpty)
  | _, _ => none
def rDIn (neg : Bool) : R2 := fun y x H Q => ∃ a o, x = .ref a ∧ DGet H a y o ∧ Q (.bl (if neg then !o.isSome else o.isSome)) H
theorem rqv_inSeq {C : Cb} {neg : Bool} {f : Fg} {k : Kd} {a : D} {ds : List D} {b : Bool} (hk : k = .lst ∨ k = .tup ∨ k = .ktup) (h : inSeq a ds = some b) : RQv C (rIn C.K neg) a (.nd f k ds) (.bl (if neg then !b else b)) := by
  intro T F H x y Ua Ub Q sm st o1 o2 q
  obtain ⟨w, e1, h⟩ := bind_some h
  obtain ⟨ws, e2, rfl⟩ := map_some h
  obtain ⟨p, vs, U', rfl, c, os, hu⟩ := own_nd sm st o2
  obtain ⟨rfl, f1⟩ := sv_own o1 e1
  obtain ⟨rfl, f2⟩ := svs_own os e2
  have hc : SqL C.K H p vs ∨ SqT C.K H p vs := by
    rcases hk with rfl | rfl | rfl
    · exact .inl c
    · exact .inr (.of c)
    · exact .inr c
  exact ⟨p, vs, rfl, hc, f1, f2, q _ F H [] (Step.refl sm st) (.bl _) fun _ z => nomatch z⟩
theorem rqv_inDic {C : Cb} {neg : Bool} {f : Fg} {ks : List Key} {a : D} {ds : List D} {κ : Key} (h : a.key = some κ) : RQv C (rDIn neg) a (.nd f (.dic ks) ds) (.bl (if neg then !(dlook ks ds κ).isSome else (dlook ks ds κ).isSome)) := by
  intro T F H x y Ua Ub Q sm st o1 o2 q
  obtain ⟨p, o, e1, e2, _, e3⟩ := dget_own sm st o2 o1 h
  have e4 : o.isSome = (dlook ks ds κ).isSome := by
    revert e3
    cases dlook ks ds κ with
    | none => rintro rfl; rfl
    | some d => rintro ⟨v, U, rfl, _⟩; rfl
  refine ⟨p, o, e1, e2, ?_⟩
  rw [e4]
  exact q _ F H [] (Step.refl sm st) (.bl _) fun _ z => nomatch z
theorem rqv_inDit {C : Cb} {neg : Bool} {f : Fg} {ks : List (List Key)} {a : D} {ds : List D} {κ : List Key} (h : a.tkey = some κ) : RQv C (rDIn neg) a (.nd f (.dit ks) ds) (.bl (if neg then !(dlook ks ds κ).isSome else (dlook ks ds κ).isSome)) := by
  intro T F H x y Ua Ub Q sm st o1 o2 q
  obtain ⟨p, o, e1, e2, _, e3⟩ := dget_ownT sm st o2 o1 h
  have e4 : o.isSome = (dlook ks ds κ).isSome := by
    revert e3
    cases dlook ks ds κ with
    | none => rintro rfl; rfl
    | some d => rintro ⟨v, U, rfl, _⟩; rfl
  refine ⟨p, o, e1, e2, ?_⟩
  rw [e4]
  exact q _ F H [] (Step.refl sm st) (.bl _) fun _ z => nomatch z
def dInB (neg : Bool) (a b : D) : Option D := (dIn a b).map fun r => .bl (if neg then !r else r)
theorem rqv_inStr {C : Cb} {s t : Str} : RQv C (fun x y H Q => ∃ i j, x = .str i ∧ y = .str j ∧ Q (.bl (!(Builtin.Str.occurrences j i 0 j.length 1).isEmpty)) H) (.str s) (.str t) (.bl (!(Builtin.Str.occurrences t s 0 t.length 1).isEmpty)) := by
  intro T F H x y Ua Ub Q sm st o1 o2 q
  exact ⟨s, t, (own_str o1).1, (own_str o2).1, q _ F H [] (Step.refl sm st) (.bl _) fun _ z => nomatch z⟩
theorem rqv_ninStr {C : Cb} {s t : Str} : RQv C (fun x y H Q => ∃ i j, x = .str i ∧ y = .str j ∧ Q (.bl (!(!(Builtin.Str.occurrences j i 0 j.length 1).isEmpty))) H) (.str s) (.str t) (.bl (!(!(Builtin.Str.occurrences t s 0 t.length 1).isEmpty))) := by
  intro T F H x y Ua Ub Q sm st o1 o2 q
  exact ⟨s, t, (own_str o1).1, (own_str o2).1, q _ F H [] (Step.refl sm st) (.bl _) fun _ z => nomatch z⟩
theorem pq_in {a b : Expr} {pos : Pos} {fa fb : Gm → Option D} (hu : X.A.units + 1 < cLine) (ha : PQ X a fa) (hb : PQ X b fb) (hm : behindInMarks .In b = false) : PQ X (.Compare a [.In] [b] pos) (q2 (dInB false) fa fb) := by
  refine pe_imp (pe_or2 (pe_cmpR op_in_seq ha hb hm) (pe_or2 (pe_cmp (pc_din hu ha hb) hm) (pe_cmpR op_in_str ha hb hm))) fun σ H Q ⟨T, F, Γ, φ, d, r, e, q⟩ => ?_
  obtain ⟨da, ea, e⟩ := bind_some e
  obtain ⟨db, eb, e⟩ := bind_some e
  unfold dInB at e
  obtain ⟨rb, e2, hd⟩ := map_some e
  clear e
  subst hd
  have e := e2
  clear e2
  unfold dIn at e
  split at e
  · exact .inl (q2v r ea eb (rqv_inSeq (neg := false) (.inl rfl) e) q)
  · exact .inl (q2v r ea eb (rqv_inSeq (neg := false) (.inr (.inl rfl)) e) q)
  · exact .inl (q2v r ea eb (rqv_inSeq (neg := false) (.inr (.inr rfl)) e) q)
  · obtain ⟨κ, hk, rfl⟩ := map_some e
    exact .inr (.inl (q2v (r := rDIn false) r ea eb (rqv_inDic (neg := false) hk) q))
  · obtain ⟨κ, hk, rfl⟩ := map_some e
    exact .inr (.inl (q2v (r := rDIn false) r ea eb (rqv_inDit (neg := false) hk) q))
  · cases e
    exact .inr (.inr (q2v r ea eb rqv_inStr q))
  · cases e
theorem pq_nin {a b : Expr} {pos : Pos} {fa fb : Gm → Option D} (hu : X.A.units + 1 < cLine) (ha : PQ X a fa) (hb : PQ X b fb) (hm : behindInMarks .NotIn b = false) : PQ X (.Compare a [.NotIn] [b] pos) (q2 (dInB true) fa fb) := by
  refine pe_imp (pe_or2 (pe_cmpR op_notIn_seq ha hb hm) (pe_or2 (pe_cmp (pc_dnotin hu ha hb) hm) (pe_cmpR op_notin_str ha hb hm))) fun σ H Q ⟨T, F, Γ, φ, d, r, e, q⟩ => ?_
  obtain ⟨da, ea, e⟩ := bind_some e
  obtain ⟨db, eb, e⟩ := bind_some e
  unfold dInB at e
  obtain ⟨rb, e2, hd⟩ := map_some e
  clear e
  subst hd
  have e := e2
  clear e2
  unfold dIn at e
  split at e
  · exact .inl (q2v r ea eb (rqv_inSeq (neg := true) (.inl rfl) e) q)
  · exact .inl (q2v r ea eb (rqv_inSeq (neg := true) (.inr (.inl rfl)) e) q)
  · exact .inl (q2v r ea eb (rqv_inSeq (neg := true) (.inr (.inr rfl)) e) q)
  · obtain ⟨κ, hk, rfl⟩ := map_some e
    exact .inr (.inl (q2v (r := rDIn true) r ea eb (rqv_inDic (neg := true) hk) q))
  · obtain ⟨κ, hk, rfl⟩ := map_some e
    exact .inr (.inl (q2v (r := rDIn true) r ea eb (rqv_inDit (neg := true) hk) q))
  · cases e
    exact .inr (.inr (q2v r ea eb rqv_ninStr q))
  · cases e

/-! ### fields, get, slices -/
def dFld (n : Str) : D → Option D
  | .nd _ (.ins _ ns) ds => dlook ns ds n
  | _ => none
theorem fs_lookup : ∀ (fs : List (Str × V)) (n : Str), fs.lookup n = valV fs n
  | [], n => rfl
  | (k, v) :: r, n => by
    unfold valV
    by_cases h : n = k
    · subst h
      simp [List.lookup, List.find?_cons]
    · have h2 : ¬ k = n := fun e => h e.symm
      have hb : (n == k) = false := beq_eq_false_iff_ne.mpr h
      simp only [List.lookup, hb, List.find?_cons, h2, decide_false]
      exact fs_lookup r n
/-- the named classes may be read at these names -/
structure ClsF (C : Cb) (c : Str) (ns : List Str) : Prop where
  ex : ∃ Ca, C.mg c = some (.ref Ca) ∧ Cls C.K Ca ∧ ∀ n ∈ ns, NoAttr C.K Ca n
theorem fld_own {F H : Hp} {f : Fg} {c n : Str} {ns ms : List Str} {ds : List D} {d : D} {v : V} {S : List Addr} (sm : Same F H) (st : Same C.T H) (T : ClsF C.toCb c ms) (hn : n ∈ ms) (o : Own C F H v (.nd f (.ins c ns) ds) S) (h : dlook ns ds n = some d) :
    ∃ a Ca dx fs w U, v = .ref a ∧ H a = some (.ins Ca dx fs) ∧ Cls C.K Ca ∧ NoAttr C.K Ca n ∧ fs.lookup n = some w ∧ Own C F H w d U ∧ ∀ z ∈ U, z ∈ S := by
  obtain ⟨a, vs, U', rfl, ⟨Ca, dx, fs, m, e, h1, h2⟩, os, hu⟩ := own_nd sm st o
  obtain ⟨Ca', m', cl, na⟩ := T.ex
  rw [m] at m'; cases m'
  subst h1 h2
  have q := dlook_own (k := n) os
  rw [h] at q
  obtain ⟨w, U, q1, q2, q3⟩ := q
  exact ⟨a, Ca, dx, fs, w, U, rfl, e, cl, na n hn, by rw [fs_lookup]; exact q1, q2, fun z hz => hu z (q3 z hz)⟩
/-- e.n; cs: the classes that e may be of -/
def dFldC (cs : List Str) (n : Str) : D → Option D
  | .nd _ (.ins c ns) ds => if c ∈ cs then dlook ns ds n else none
  | _ => none
theorem pq_fld {e : Expr} {n : Str} {pos : Pos} {fa : Gm → Option D} {cs : List Str} {ms : List Str} (hT : ∀ c ∈ cs, ClsF (Cx.cn X) c ms) (hn : n ∈ ms) (ha : PQ X e fa) (hb : attributeBase e n X.env (eval e X.env) = eval e X.env) : PQ X (.Attribute e n pos) (q1 (dFldC cs n) fa) := by
  refine pe_imp (pe_fld ha hb) fun σ H Q ⟨T, F, Γ, φ, d, r, e, q⟩ => ?_
  obtain ⟨da, ea, e⟩ := bind_some e
  unfold dFldC at e
  split at e
  · split at e
    · rename_i hc
      refine ⟨T, F, Γ, φ, _, r, ea, fun v F1 H1 U g1 o1 u1 => ?_⟩
      obtain ⟨a, Ca, dx, fs, w, U2, h1, h2, h3, h4, h5, h6, h7⟩ := fld_own g1.le' g1.leT (hT _ hc) hn o1 e
      exact ⟨a, Ca, dx, fs, w, h1, h2, h3, h4, h5, q w F1 H1 U2 g1 h6 fun z hz => u1 z (h7 z hz)⟩
    · cases e
  · cases e
end
end SK

namespace SK
open PySem PySem.Spec L2
section
variable {X : Cx} {C : Cn}

/-! ### slices -/
def tQO (C : Cb) (f : Gm → Option (Option Int)) : TO := fun σ H Q => ∃ T F Γ φ d, Rep ⟨C, T⟩ F H σ Γ φ ∧ f Γ = some d ∧ ∀ F' H', Grow ⟨C, T⟩ F H F' H' → Q d H'
def qONone : Gm → Option (Option Int) := fun _ => some none
def asInt : D → Option (Option Int)
  | .int i => some (some i)
  | _ => none
def qOSome (f : Gm → Option D) : Gm → Option (Option Int) := fun Γ => (f Γ).bind asInt
theorem po_imp {o : Option Expr} {t t' : TO} (h : PO X o t) (i : ∀ σ H Q, t' σ H Q → t σ H Q) : PO X o t' := ⟨fun pins s σ H Q I q => h.run pins s σ H Q I (i σ H Q q)⟩
theorem pqo_none : PO X none (tQO (Cx.cn X) qONone) := po_imp po_none fun σ H Q ⟨T, F, Γ, φ, d, r, e, q⟩ => by
  cases e
  exact q F H (Step.refl r.le r.leT)
theorem pqo_some {e : Expr} {f : Gm → Option D} (h : PQ X e f) : PO X (some e) (tQO (Cx.cn X) (qOSome f)) := po_imp (po_some h) fun σ H Q ⟨T, F, Γ, φ, d, r, e, q⟩ => by
  obtain ⟨a, ea, e⟩ := bind_some e
  cases a <;> simp only [asInt] at e <;> cases e
  refine ⟨T, F, Γ, φ, _, r, ea, fun v F1 H1 U g1 o1 u1 => ⟨_, (own_int o1).1, q F1 H1 g1⟩⟩
theorem noTms_ints : ∀ ns : List Int, D.noTms (ns.map D.int) = true
  | [] => rfl
  | n :: ns => by rw [List.map_cons, D.noTms, noTms_ints ns]; rfl
theorem noTms_mem : ∀ {ds : List D}, D.noTms ds = true ↔ ∀ d ∈ ds, d.noTm = true
  | [] => by simp [D.noTms]
  | d :: ds => by rw [D.noTms, Bool.and_eq_true, noTms_mem (ds := ds)]; simp
def cutD (ds : List D) (lo hi : Option Int) : List D := (ds.drop (HT.sIx ds.length 0 lo)).take (HT.sIx ds.length ds.length hi - HT.sIx ds.length 0 lo)
def dCut (a : D) (lo hi : Option Int) : Option D := match a with
  | .nd .sh .lst ds => some (.nd .sh .lst (cutD ds lo hi))
  | .str s => if s.length ≤ 100000 then some (.str (cutS s lo hi)) else none
  | _ => none
def qSl (fa : Gm → Option D) (fl fh : Gm → Option (Option Int)) : Gm → Option D := fun Γ => (fa Γ).bind fun a => (fl Γ).bind fun l => (fh Γ).bind fun h => dCut a l h
theorem pq_slice {e : Expr} {lo hi : Option Expr} {p2 pos : Pos} {fa : Gm → Option D} {fl fh : Gm → Option (Option Int)} (ha : PQ X e fa) (hl : PO X lo (tQO (Cx.cn X) fl)) (hh : PO X hi (tQO (Cx.cn X) fh)) : PQ X (.Subscript e (.Slice lo hi none p2) pos) (qSl fa fl fh) := by
  refine pe_imp (pe_slice (sl_list.or sl_str) ha hl hh) fun σ H Q ⟨T, F, Γ, φ, d, r, e, q⟩ => ?_
  obtain ⟨a, ea, e⟩ := bind_some e
  obtain ⟨l, el, e⟩ := bind_some e
  obtain ⟨h, eh, e⟩ := bind_some e
  refine ⟨T, F, Γ, φ, a, r, ea, fun v F1 H1 U g1 o1 u1 => ⟨T, F1, Γ, φ, l, r.grow g1, el, fun F2 H2 g2 => ⟨T, F2, Γ, φ, h, (r.grow g1).grow g2, eh, fun F3 H3 g3 => ?_⟩⟩⟩
  have o3 := (o1.grow g2).grow g3
  have g := (g1.trans g2).trans g3
  unfold dCut at e
  split at e
  · cases e
    cases o3 with
    | sh c nt os =>
      refine .inl ⟨_, _, rfl, Same.sql g3.le' c, fun p np => ?_⟩
      refine q _ _ _ [] (g.trans (grow_new g3.le' g3.leT np)) (own_new_lst g3.le' g3.leT np (noTms_mem.mpr fun d hd => noTms_mem.mp nt d (List.mem_of_mem_drop (List.mem_of_mem_take hd))) ?_) fun _ z => nomatch z
      unfold cutV cutD
      rw [os.len]
      exact (os.drop0 _).take0 _
  · split at e
    · rename_i hl
      cases e
      exact .inr ⟨_, (own_str o3).1, Nat.le_trans hl (by decide), q _ _ _ [] g (.str _) fun _ z => nomatch z⟩
    · cases e
  · cases e

/-! ### built-in functions -/
def RQN (B : Cb) (r : List V → Hp → VK → Prop) (g : List D → Option D) : Prop := ∀ (T F H : Hp) (φ : Fp) (vs : List V) (ds : List D) (d : D) (Q : VK), Same F H → Same T H → OwnL ⟨B, T⟩ F H φ vs ds → g ds = some d →
  (∀ v F' H' U, Grow ⟨B, T⟩ F H F' H' → Own ⟨B, T⟩ F' H' v d U → (∀ z ∈ U, φ.at z) → Q v H') → r vs H Q
def qN (g : List D → Option D) (fa : Gm → Option (List D)) : Gm → Option D := fun Γ => (fa Γ).bind g
theorem qN_imp {C : Cb} {r : List V → Hp → VK → Prop} {g : List D → Option D} {fa : Gm → Option (List D)} (hr : RQN C r g) (σ : L2.St) (H : Hp) (Q : VK) (h : tQ C (qN g fa) σ H Q) : tCB r (tQA C fa) σ H Q := by
  obtain ⟨T, F, Γ, φ, d, rp, e, q⟩ := h
  obtain ⟨ds, ea, e⟩ := bind_some e
  exact ⟨T, F, Γ, φ, ds, rp, ea, fun vs F1 H1 g1 os => hr T F1 H1 φ vs ds d Q g1.le' g1.leT os e fun v F2 H2 U g2 o2 u2 => q v F2 H2 U (g1.trans g2) o2 u2⟩
theorem pq_callB {x : Str} {id : String} {r : List V → Hp → VK → Prop} {g : List D → Option D} {p pos : Pos} {e : Expr} {es : List Expr} {fa : Gm → Option (List D)} (hc : CallR X (.builtin id) r) (hr : RQN (Cx.cn X) r g) (hg : Gl X x) (hm : X.mg x = none) (hv : bootBuiltins x = some (.builtin id)) (ha : PQA X (e :: es) fa)
    (hn : x ≠ "__name__" := by decide) (hdb : (x == ("__debug__" : Str)) = false := by decide) (he : starEach (e :: es) X.env = (false, eval e X.env) :: starEach es X.env := by rfl) (hpl : (backTo pos (starEach es X.env)).any (·.1) = false := by rfl) :
    PQ X (.Call (.Name x p) (e :: es) [] pos) (qN g fa) := pe_imp (pe_callB hc hg hm hv ha hn hdb he hpl) fun _ _ _ h => qN_imp hr _ _ _ h
theorem pq_callTy {x : Str} {T : String} {r : List V → Hp → VK → Prop} {g : List D → Option D} {p pos : Pos} {e : Expr} {es : List Expr} {fa : Gm → Option (List D)} (hc : CallR X (.type T) r) (hr : RQN (Cx.cn X) r g) (hg : Gl X x) (hm : X.mg x = none) (hv : bootBuiltins x = some (.type T)) (ha : PQA X (e :: es) fa)
    (hn : x ≠ "__name__" := by decide) (hdb : (x == ("__debug__" : Str)) = false := by decide) (he : starEach (e :: es) X.env = (false, eval e X.env) :: starEach es X.env := by rfl) (hpl : (backTo pos (starEach es X.env)).any (·.1) = false := by rfl) :
    PQ X (.Call (.Name x p) (e :: es) [] pos) (qN g fa) := pe_imp (pe_callTy hc hg hm hv ha hn hdb he hpl) fun _ _ _ h => qN_imp hr _ _ _ h
theorem ownL1 {F H : Hp} {φ : Fp} {vs : List V} {d : D} (h : OwnL C F H φ vs [d]) : ∃ v U, vs = [v] ∧ Own C F H v d U ∧ ∀ x ∈ U, φ.at x := by
  cases h with
  | cons a r => cases r; obtain ⟨U, o, u⟩ := a; exact ⟨_, U, rfl, o, u⟩
theorem ownL2 {F H : Hp} {φ : Fp} {vs : List V} {d e : D} (h : OwnL C F H φ vs [d, e]) : ∃ v w U U', vs = [v, w] ∧ Own C F H v d U ∧ Own C F H w e U' ∧ (∀ x ∈ U, φ.at x) ∧ ∀ x ∈ U', φ.at x := by
  cases h with
  | cons a r =>
    obtain ⟨v, U, rfl, o, u⟩ := ownL1 r
    obtain ⟨U0, o0, u0⟩ := a
    exact ⟨_, _, U0, U, rfl, o0, o, u0, u⟩
def bMax : List D → Option D
  | [.int i, .int j] => some (.int (max i j))
  | _ => none
def bMin : List D → Option D
  | [.int i, .int j] => some (.int (min i j))
  | _ => none
theorem rqn_max {C : Cb} : RQN C (fun xs H Q => ∃ i j, xs = [.int i, .int j] ∧ Q (.int (if j > i then j else i)) H) bMax := by
  intro T F H φ vs ds d Q sm st os e q
  unfold bMax at e
  split at e
  · rename_i i j
    cases e
    obtain ⟨v, w, U, U', rfl, o1, o2, _, _⟩ := ownL2 os
    refine ⟨_, _, by rw [(own_int o1).1, (own_int o2).1], ?_⟩
    have : (if j > i then j else i) = max i j := by
      rw [Int.max_def]; split <;> split <;> omega
    rw [this]
    exact q _ F H [] (Step.refl sm st) (.int _) fun _ z => nomatch z
  · cases e
theorem rqn_min {C : Cb} : RQN C (fun xs H Q => ∃ i j, xs = [.int i, .int j] ∧ Q (.int (if j < i then j else i)) H) bMin := by
  intro T F H φ vs ds d Q sm st os e q
  unfold bMin at e
  split at e
  · rename_i i j
    cases e
    obtain ⟨v, w, U, U', rfl, o1, o2, _, _⟩ := ownL2 os
    refine ⟨_, _, by rw [(own_int o1).1, (own_int o2).1], ?_⟩
    have : (if j < i then j else i) = min i j := by
      rw [Int.min_def]; split <;> split <;> omega
    rw [this]
    exact q _ F H [] (Step.refl sm st) (.int _) fun _ z => nomatch z
  · cases e
def bLen : List D → Option D
  | [.str s] => if s.length ≤ 100000 then some (.int s.length) else none
  | [.nd _ .lst ds] => some (.int ds.length)
  | [.nd _ .tup ds] => some (.int ds.length)
  | _ => none
theorem rqn_len {C : Cb} : RQN C (fun xs H Q => ∃ x n, xs = [x] ∧ LenV C.K x H n ∧ Q (.int n) H) bLen := by
  intro T F H φ vs ds d Q sm st os e q
  unfold bLen at e
  split at e
  · split at e
    · rename_i hl
      cases e
      obtain ⟨v, U, rfl, o1, _⟩ := ownL1 os
      obtain ⟨rfl, _⟩ := own_str o1
      exact ⟨_, _, rfl, ⟨Nat.le_trans hl (by decide), rfl⟩, q _ F H [] (Step.refl sm st) (.int _) fun _ z => nomatch z⟩
    · cases e
  · cases e
    obtain ⟨v, U, rfl, o1, _⟩ := ownL1 os
    obtain ⟨a, ws, U', rfl, c, os', _⟩ := own_nd sm st o1
    exact ⟨_, _, rfl, .inl ⟨ws, c, os'.len.symm⟩, q _ F H [] (Step.refl sm st) (.int _) fun _ z => nomatch z⟩
  · cases e
    obtain ⟨v, U, rfl, o1, _⟩ := ownL1 os
    obtain ⟨a, ws, U', rfl, c, os', _⟩ := own_nd sm st o1
    exact ⟨_, _, rfl, .inr ⟨ws, .of c, os'.len.symm⟩, q _ F H [] (Step.refl sm st) (.int _) fun _ z => nomatch z⟩
  · cases e
/-- ints, sorted -/
def isort (ns : List Int) : List Int := ns.mergeSort (fun a b => decide (a ≤ b))
theorem isort_perm (ns : List Int) : (isort ns).Perm ns := List.mergeSort_perm ..
theorem isort_pw (ns : List Int) : (isort ns).Pairwise (· ≤ ·) := by
  have h := List.pairwise_mergeSort (le := fun a b : Int => decide (a ≤ b)) (fun a b c h1 h2 => by simp at *; omega) (fun a b => by simp; omega) ns
  exact h.imp fun h => by simpa using h
theorem sorted_unique : ∀ {l₁ l₂ : List Int}, l₁.Perm l₂ → l₁.Pairwise (· ≤ ·) → l₂.Pairwise (· ≤ ·) → l₁ = l₂ := fun h h1 h2 => h.eq_of_pairwise (fun a b _ _ h3 h4 => by omega) h1 h2
def D.ints : List D → Option (List Int)
  | [] => some []
  | .int i :: ds => (D.ints ds).map fun xs => i :: xs
  | _ => none
theorem ints_map : ∀ {ds : List D} {ns : List Int}, D.ints ds = some ns → ds = ns.map D.int
  | [], _, h => by rw [D.ints] at h; cases h; rfl
  | .int i :: ds, ns, h => by
    rw [D.ints] at h
    obtain ⟨xs, e, rfl⟩ := map_some h
    rw [ints_map e]; rfl
  | .non :: _, _, h => by simp [D.ints] at h
  | .bl _ :: _, _, h => by simp [D.ints] at h
  | .str _ :: _, _, h => by simp [D.ints] at h
  | .ty _ :: _, _, h => by simp [D.ints] at h
  | .cls _ :: _, _, h => by simp [D.ints] at h
  | .nd _ _ _ :: _, _, h => by simp [D.ints] at h
@[simp] theorem ints_of : ∀ ns : List Int, D.ints (ns.map D.int) = some ns
  | [] => rfl
  | n :: ns => by rw [List.map_cons, D.ints, ints_of ns]; rfl
def keyInts : List Key → Option (List Int)
  | [] => some []
  | .inl i :: ks => (keyInts ks).map fun xs => i :: xs
  | .inr _ :: _ => none
theorem keyInts_map : ∀ {ks : List Key} {ns : List Int}, keyInts ks = some ns → ks = ns.map Sum.inl
  | [], _, h => by rw [keyInts] at h; cases h; rfl
  | .inl i :: ds, ns, h => by
    rw [keyInts] at h
    obtain ⟨xs, e, rfl⟩ := map_some h
    rw [keyInts_map e]; rfl
  | .inr _ :: _, _, h => by simp [keyInts] at h
@[simp] theorem keyInts_of : ∀ ns : List Int, keyInts (ns.map Sum.inl) = some ns
  | [] => rfl
  | n :: ns => by rw [List.map_cons, keyInts, keyInts_of ns]; rfl
def shInts (ns : List Int) : D := .nd .sh .lst (ns.map D.int)
def bSorted : List D → Option D
  | [.nd _ .lst ds] => (D.ints ds).map fun ns => shInts (isort ns)
  | [.nd _ (.dic ks) _] => (keyInts ks).bind fun ns => if ns.length < 64 then some (shInts (isort ns)) else none
  | _ => none
theorem rqn_sorted {C : Cb} : RQN C (fun xs H Q => rSortedI C.K xs H Q ∨ (∃ (a : Addr) (kvs : List (Key × V)) (ks : List Int), xs = [.ref a] ∧ Rd H a (.dK kvs) ∧ kvs.map (·.1) = ks.map Sum.inl ∧ ks.length < 64 ∧ ∀ (ys : List Int) (p : Addr), ys.Perm ks → ys.Pairwise (· ≤ ·) → H p = none → Q (.ref p) (upd H p (.lst (ys.map V.int))))) bSorted := by
  intro T F H φ vs ds d Q sm st os e q
  have fin : ∀ (ns ys : List Int) (p : Addr), ys.Perm ns → ys.Pairwise (· ≤ ·) → H p = none → d = shInts (isort ns) → Q (.ref p) (upd H p (.lst (ys.map V.int))) := fun ns ys p hp hw np hd => by
    have : ys = isort ns := sorted_unique (hp.trans (isort_perm ns).symm) hw (isort_pw ns)
    subst this hd
    exact q _ _ _ [] (grow_new sm st np) (own_new_lst sm st np (noTms_ints _) (Owns.of_ints _ _ _)) fun _ z => nomatch z
  unfold bSorted at e
  split at e
  · obtain ⟨ns, e1, rfl⟩ := map_some e
    obtain ⟨v, U, rfl, o1, _⟩ := ownL1 os
    obtain ⟨a, ws, U', rfl, c, os', _⟩ := own_nd sm st o1
    rw [ints_map e1] at os'
    have := os'.ints
    subst this
    exact .inl ⟨a, ns, rfl, c, fun ys p h1 h2 np => fin ns ys p h1 h2 np rfl⟩
  · obtain ⟨ns, e1, e⟩ := bind_some e
    split at e
    · rename_i hl
      cases e
      obtain ⟨v, U, rfl, o1, _⟩ := ownL1 os
      obtain ⟨a, ws, U', rfl, ⟨kvs, c, h1, h2⟩, os', _⟩ := own_nd sm st o1
      exact .inr ⟨a, kvs, ns, rfl, c, by rw [← keyInts_map e1]; exact h1, hl, fun ys p h1 h2 np => fin ns ys p h1 h2 np rfl⟩
    · cases e
  · cases e
/-! isinstance of a built-in type that is written -/
def D.tyN : D → Option String
  | .non => some "NoneType"
  | .bl _ => some "bool"
  | .int _ => some "int"
  | .str _ => some "str"
  | .nd _ .lst _ => some "list"
  | .nd _ .tup _ => some "tuple"
  | .nd _ (.dic _) _ => some "dict"
  | _ => none
def dIsi (T : String) (d : D) : Option D := (d.tyN).bind fun t => (kitB t T).map .bl
theorem tyX_own {F H : Hp} {v : V} {d : D} {S : List Addr} {t : String} (sm : Same F H) (st : Same C.T H) (o : Own C F H v d S) (h : d.tyN = some t) : TyX C.K H v (.type t) := by
  cases d with
  | non => cases h; rw [(own_non o).1]; exact .base .non
  | bl b => cases h; rw [(own_bl o).1]; exact .base (.bl b)
  | int b => cases h; rw [(own_int o).1]; exact .base (.int b)
  | str b => cases h; rw [(own_str o).1]; exact .base (.str b)
  | ty _ => cases h
  | cls _ => cases h
  | nd f k ds =>
    obtain ⟨a, vs, U', rfl, c, os, _⟩ := own_nd sm st o
    cases k with
    | lst =>
      cases h
      rcases c with (c | ⟨ob, c⟩) | ⟨ob, its, n, c, cl, _⟩
      · exact .base (.lst c)
      · exact .base (.frz c)
      · exact .kList c cl
    | tup => cases h; exact .base (.tup c)
    | ktup => cases h
    | dic ks =>
      cases h
      obtain ⟨kvs, c | ⟨ob, c⟩, _⟩ := c
      · exact .base (.dK c)
      · exact .fDict c
    | dit ks => cases h
    | ins a b => cases h
theorem pq_isi {e : Expr} {T : String} {t : Str} {p p2 pos : Pos} {fa : Gm → Option D} (hg : Gl X "isinstance") (hm : X.mg "isinstance" = none) (hgT : Gl X t) (hmT : X.mg t = none) (hvT : bootBuiltins t = some (.type T)) (ha : PQ X e fa)
    (he1 : starEach [e, .Name t p2] X.env = (false, eval e X.env) :: starEach [.Name t p2] X.env := by rfl) (he2 : starEach [.Name t p2] X.env = (false, eval (.Name t p2) X.env) :: starEach [] X.env := by rfl)
    (hpl : (backTo pos (starEach [.Name t p2] X.env)).any (·.1) = false := by rfl) (hnn : t ≠ "__name__" := by decide) (hdt : (t == ("__debug__" : Str)) = false := by decide) :
    PQ X (.Call (.Name "isinstance" p) [e, .Name t p2] [] pos) (q1 (dIsi T) fa) := by
  have hT : PE X (.Name t p2) (tC (.ty T)) := pe_bltn hgT hmT hvT rfl hnn hdt
  refine pe_imp (pe_callB call_isi hg hm (by decide +kernel) (pa_cons ha (pa_cons hT pa_nil he2) he1) (by decide) (by decide) he1 hpl) fun σ H Q ⟨Th, F, Γ, φ, d, r, e, q⟩ => ?_
  obtain ⟨a, ea, e⟩ := bind_some e
  obtain ⟨t', e1, e⟩ := bind_some e
  obtain ⟨b, e2, rfl⟩ := map_some e
  refine ⟨Th, F, Γ, φ, a, r, ea, fun v F1 H1 U g1 o1 u1 => ?_⟩
  exact ⟨v, _, .type t', .type T, b, rfl, .ty T, tyX_own g1.le' g1.leT o1 e1, kit_ty e2, q _ F1 H1 [] g1 (.bl b) fun _ z => nomatch z⟩

/-! ### d.get -/
def dGet2 (a k z : D) : Option D := match a with
  | .nd _ (.dic ks) ds => (D.key k).map fun κ => (dlook ks ds κ).getD z
  | .nd _ (.dit ks) ds => (D.tkey k).map fun κ => (dlook ks ds κ).getD z
  | _ => none
def q3 (g : D → D → D → Option D) (fa fb fc : Gm → Option D) : Gm → Option D := fun Γ => (fa Γ).bind fun a => (fb Γ).bind fun b => (fc Γ).bind fun c => g a b c
theorem pq_get2 {o e f : Expr} {apos cpos : Pos} {fa fb fc : Gm → Option D} (hu : X.A.units + 1 < cLine) (ho : PQ X o fa) (he : PQ X e fb) (hf : PQ X f fc) (m : M2 X o "get" apos e f cpos) : PQ X (.Call (.Attribute o "get" apos) [e, f] [] cpos) (q3 dGet2 fa fb fc) := by
  refine pe_imp (pe_dget2 hu ho he hf m) fun σ H Q ⟨T, F, Γ, φ, d, r, e, q⟩ => ?_
  obtain ⟨a, ea, e⟩ := bind_some e
  obtain ⟨b, eb, e⟩ := bind_some e
  obtain ⟨c, ec, e⟩ := bind_some e
  refine ⟨T, F, Γ, φ, a, r, ea, fun v F1 H1 U1 g1 o1 u1 => ?_⟩
  unfold dGet2 at e
  split at e
  · obtain ⟨κ, hk, rfl⟩ := map_some e
    obtain ⟨p, vs, U', rfl, cc, os, hu'⟩ := own_nd g1.le' g1.leT o1
    refine ⟨p, rfl, by obtain ⟨kvs, c, _⟩ := cc; exact .inl ⟨kvs, c⟩, T, F1, Γ, φ, b, r.grow g1, eb, fun w F2 H2 U2 g2 o2 u2 => ⟨T, F2, Γ, φ, c, (r.grow g1).grow g2, ec, fun z F3 H3 U3 g3 o3 u3 => ?_⟩⟩
    obtain ⟨p', oo, e1, e2, _, e3⟩ := dget_own g3.le' g3.leT ((o1.grow g2).grow g3) (o2.grow g3) hk
    cases e1
    refine ⟨oo, e2, ?_⟩
    cases hd : dlook _ _ κ with
    | none =>
      rw [hd] at e3
      subst e3
      rw [hd] at q
      exact q z F3 H3 U3 ((g1.trans g2).trans g3) o3 u3
    | some dd =>
      rw [hd] at e3
      obtain ⟨v', U4, rfl, h2, h3⟩ := e3
      rw [hd] at q
      exact q v' F3 H3 U4 ((g1.trans g2).trans g3) h2 fun x hx => u1 x (h3 x hx)
  · obtain ⟨κ, hk, rfl⟩ := map_some e
    obtain ⟨p, vs, U', rfl, cc, os, hu'⟩ := own_nd g1.le' g1.leT o1
    refine ⟨p, rfl, by obtain ⟨kvs, c, _⟩ := cc; exact .inr ⟨kvs, c⟩, T, F1, Γ, φ, b, r.grow g1, eb, fun w F2 H2 U2 g2 o2 u2 => ⟨T, F2, Γ, φ, c, (r.grow g1).grow g2, ec, fun z F3 H3 U3 g3 o3 u3 => ?_⟩⟩
    obtain ⟨p', oo, e1, e2, _, e3⟩ := dget_ownT g3.le' g3.leT ((o1.grow g2).grow g3) (o2.grow g3) hk
    cases e1
    refine ⟨oo, e2, ?_⟩
    cases hd : dlook _ _ κ with
    | none =>
      rw [hd] at e3
      subst e3
      rw [hd] at q
      exact q z F3 H3 U3 ((g1.trans g2).trans g3) o3 u3
    | some dd =>
      rw [hd] at e3
      obtain ⟨v', U4, rfl, h2, h3⟩ := e3
      rw [hd] at q
      exact q v' F3 H3 U4 ((g1.trans g2).trans g3) h2 fun x hx => u1 x (h3 x hx)
  · cases e

/-! ### tests -/
def asBl : D → Option Bool
  | .bl b => some b
  | _ => none
def qB (f : Gm → Option D) : Gm → Option Bool := fun Γ => (f Γ).bind asBl
theorem pqt_val {e : Expr} {f : Gm → Option D} (h : PQ X e f) (he : ∀ whole, isTrue e X.env whole = (do let v ← whole; standAt e.pos; holding [v] (truthy v)) := by intro _; rfl) : PQT X e (qB f) :=
  pt_imp (pt_val h he) fun σ H Q ⟨T, F, Γ, φ, d, r, e, q⟩ => by
    obtain ⟨a, ea, e⟩ := bind_some e
    cases a <;> simp only [asBl] at e <;> cases e
    exact ⟨T, F, Γ, φ, _, r, ea, fun v F1 H1 U g1 o1 u1 => ⟨_, (own_bl o1).1, q F1 H1 g1⟩⟩
/-- a comparison as a test -/
theorem pqt_cmp {op : CmpOp} {a b : Expr} {pos : Pos} {r : R2} {g : D → D → Option D} {fa fb : Gm → Option D} (ho : OpR X (compareOp op) r) (hr : RQ2 (Cx.cn X) r g) (ha : PQ X a fa) (hb : PQ X b fb) (hm : behindInMarks op b = false) : PQT X (.Compare a [op] [b] pos) (qB (q2 g fa fb)) :=
  pt_imp (pt_cmpR ho ha hb hm) fun σ H Q ⟨T, F, Γ, φ, d, r, e, q⟩ => by
    obtain ⟨dd, ea, e⟩ := bind_some e
    cases dd <;> simp only [asBl] at e <;> cases e
    exact q2_imp hr σ H _ ⟨T, F, Γ, φ, _, r, ea, fun v F1 H1 U g1 o1 u1 => ⟨_, (own_bl o1).1, q F1 H1 g1⟩⟩
def qAnd (f g : Gm → Option Bool) : Gm → Option Bool := fun Γ => (f Γ).bind fun a => if a = true then g Γ else some false
def qOr (f g : Gm → Option Bool) : Gm → Option Bool := fun Γ => (f Γ).bind fun a => if a = true then some true else g Γ
def qNot (f : Gm → Option Bool) : Gm → Option Bool := fun Γ => (f Γ).map fun a => !a
theorem pqw_and1 {a : Expr} {pos : Pos} {f : Gm → Option Bool} (h : PQT X a f) : PQW X (.BoolOp .And [a] pos) f := pw_and1 h
theorem pqw_or1 {a : Expr} {pos : Pos} {f : Gm → Option Bool} (h : PQT X a f) : PQW X (.BoolOp .Or [a] pos) f := pw_or1 h
theorem pqw_and {a b : Expr} {rest : List Expr} {pos : Pos} {f g : Gm → Option Bool} (h : PQT X a f) (h2 : PQW X (.BoolOp .And (b :: rest) pos) g) : PQW X (.BoolOp .And (a :: b :: rest) pos) (qAnd f g) :=
  pw_imp (pw_and h h2) fun σ H Q ⟨T, F, Γ, φ, d, r, e, q⟩ => by
    obtain ⟨a, ea, e⟩ := bind_some e
    refine ⟨T, F, Γ, φ, a, r, ea, fun F1 H1 g1 => ?_⟩
    cases a with
    | true => exact ⟨T, F1, Γ, φ, d, r.grow g1, e, fun F2 H2 g2 => q F2 H2 (g1.trans g2)⟩
    | false => cases e; exact q F1 H1 g1
theorem pqw_or {a b : Expr} {rest : List Expr} {pos : Pos} {f g : Gm → Option Bool} (h : PQT X a f) (h2 : PQW X (.BoolOp .Or (b :: rest) pos) g) : PQW X (.BoolOp .Or (a :: b :: rest) pos) (qOr f g) :=
  pw_imp (pw_or h h2) fun σ H Q ⟨T, F, Γ, φ, d, r, e, q⟩ => by
    obtain ⟨a, ea, e⟩ := bind_some e
    refine ⟨T, F, Γ, φ, a, r, ea, fun F1 H1 g1 => ?_⟩
    cases a with
    | false => exact ⟨T, F1, Γ, φ, d, r.grow g1, e, fun F2 H2 g2 => q F2 H2 (g1.trans g2)⟩
    | true => cases e; exact q F1 H1 g1
theorem pqt_not {a : Expr} {pos : Pos} {f : Gm → Option Bool} (h : PQT X a f) : PQT X (.UnaryOp .Not a pos) (qNot f) :=
  pt_imp (pt_not h) fun σ H Q ⟨T, F, Γ, φ, d, r, e, q⟩ => by
    obtain ⟨a, ea, rfl⟩ := map_some e
    exact ⟨T, F, Γ, φ, a, r, ea, fun F1 H1 g1 => q F1 H1 g1⟩
/-- truth of any value -/
def dTru : D → Option Bool
  | .non => some false
  | .bl b => some b
  | .int i => some (i != 0)
  | .nd _ .lst ds => some (!ds.isEmpty)
  | .nd _ .tup ds => some (!ds.isEmpty)
  | .str s => if s.length ≤ 100000 then some ((s.length : Int) != 0) else none
  | _ => none
def qTru (f : Gm → Option D) : Gm → Option Bool := fun Γ => (f Γ).bind dTru
theorem isEmpty_len {α β : Type} : ∀ {xs : List α} {ys : List β}, xs.length = ys.length → xs.isEmpty = ys.isEmpty
  | [], [], _ => rfl
  | _ :: _, _ :: _, _ => rfl
  | [], _ :: _, h => by cases h
  | _ :: _, [], h => by cases h
theorem tru_own {F H : Hp} {v : V} {d : D} {S : List Addr} {b : Bool} (sm : Same F H) (st : Same C.T H) (o : Own C F H v d S) (h : dTru d = some b) : TruV C.K v H b := by
  unfold dTru at h
  split at h
  · cases h; rw [(own_non o).1]; rfl
  · cases h; rw [(own_bl o).1]; rfl
  · cases h; rw [(own_int o).1]; rfl
  · cases h
    obtain ⟨a, vs, U', rfl, c, os, _⟩ := own_nd sm st o
    exact .inl ⟨vs, c, by rw [isEmpty_len os.len]⟩
  · cases h
    obtain ⟨a, vs, U', rfl, c, os, _⟩ := own_nd sm st o
    exact .inr (.inl ⟨vs, .of c, by rw [isEmpty_len os.len]⟩)
  · split at h
    · rename_i hl
      cases h; rw [(own_str o).1]; exact ⟨Nat.le_trans hl (by decide), rfl⟩
    · cases h
  · cases h
theorem pqt_tru {e : Expr} {f : Gm → Option D} (h : PQ X e f) (he : ∀ whole, isTrue e X.env whole = (do let v ← whole; standAt e.pos; holding [v] (truthy v)) := by intro _; rfl) : PQT X e (qTru f) :=
  pt_imp (pt_truth h he) fun σ H Q ⟨T, F, Γ, φ, d, r, e, q⟩ => by
    obtain ⟨a, ea, e⟩ := bind_some e
    exact ⟨T, F, Γ, φ, a, r, ea, fun v F1 H1 U g1 o1 u1 => ⟨d, tru_own g1.le' g1.leT o1 e, q F1 H1 g1⟩⟩
end
end SK

namespace SK
open PySem PySem.Spec L2
open PyProof.Rows (envOfC)

/-! ### functions -/
inductive FR where | ret (d : D) (outs : List D) | exc (x : Xc) (outs : List D)
abbrev Arg (C : Cn) (F H : Hp) (vs : List V) (ds : List D) (ψ : Fp) : Prop := Rep C F H (vs.map some) (ds.map some) ψ
def pick (ms : List Nat) (vs : List V) : List V := ms.map fun i => vs.getD i .non
def spD (B : Cb) (ms : List Nat) (fn : List D → Option FR) : Sp := fun vs H Q E => ∃ T F ds ψ r, Arg ⟨B, T⟩ F H vs ds ψ ∧ fn ds = some r ∧ match r with
  | .ret d outs => ∀ v F' H' ψ' U, Step ⟨B, T⟩ F H ψ.at F' H' (fun x => ψ'.at x ∨ x ∈ U) → Own ⟨B, T⟩ F' H' v d U → (∀ x ∈ U, ¬ ψ'.at x) → Arg ⟨B, T⟩ F' H' (pick ms vs) outs ψ' → Q v H'
  | .exc x outs => ∀ cls dd F' H' ψ' U, Step ⟨B, T⟩ F H ψ.at F' H' (fun x => ψ'.at x ∨ x ∈ U) → Xrep ⟨B, T⟩ F' H' x cls dd U → (∀ x ∈ U, ¬ ψ'.at x) → Arg ⟨B, T⟩ F' H' (pick ms vs) outs ψ' → E cls dd H'
def outsOf (ms : List Nat) (Γ : Gm) : Option (List D) := ms.mapM fun i => Γ[i]?.join
def endOf (ms : List Nat) : Oc Fw → Option FR
  | .ok .nx Γ => (outsOf ms Γ).map (.ret .non)
  | .ok (.rt d) Γ => (outsOf ms Γ).map (.ret d)
  | .ex x Γ => (outsOf ms Γ).map (.exc x)
  | _ => none
/-- a def of n parameters and m further slots -/
def fnOf (n m : Nat) (ms : List Nat) (g : Gm → Option (Oc Fw)) : List D → Option FR := fun ds =>
  if ds.length = n then (g (ds.map some ++ List.replicate m none)).bind (endOf ms) else none

theorem mapM_get {α β : Type} {f : α → Option β} : ∀ {xs : List α} {ys : List β}, xs.mapM f = some ys → xs.length = ys.length ∧ ∀ (j : Nat) (y : β), ys[j]? = some y → ∃ x, xs[j]? = some x ∧ f x = some y
  | [], ys, h => by
    simp at h; subst h; exact ⟨rfl, fun j y h => by simp at h⟩
  | x :: xs, ys, h => by
    rw [List.mapM_cons] at h
    obtain ⟨y0, e1, h⟩ := bind_some h
    obtain ⟨ys', e2, h⟩ := bind_some h
    cases h
    obtain ⟨l, g⟩ := mapM_get e2
    refine ⟨by simp [l], fun j y hj => ?_⟩
    cases j with
    | zero => simp at hj; subst hj; exact ⟨x, rfl, e1⟩
    | succ j => simpa using g j y (by simpa using hj)
section
variable {B : Cb} {T F H F' H' : Hp}
/-- the mutable parameters behind the body -/
theorem args_back {N : Nat} {ms : List Nat} {vs : List V} {outs : List D} {σ' : L2.St} {Γ' : Gm} {φ' : Fp} (hn : ms.Nodup) (hms : ∀ i ∈ ms, i < vs.length) (pin : Pin ms (vs.map some ++ List.replicate N none) σ')
    (r : Rep ⟨B, T⟩ F' H' σ' Γ' φ') (h : outsOf ms Γ' = some outs) : Arg ⟨B, T⟩ F' H' (pick ms vs) outs (fun j => match ms[j]? with | some i => φ' i | none => []) := by
  obtain ⟨hl, hg⟩ := mapM_get h
  refine ⟨r.le, r.leT, by simp [pick, hl], fun j d hj => ?_, fun i j a h1 h2 => ?_, fun j hj => ?_⟩
  · rw [List.getElem?_map] at hj
    obtain ⟨d', e1, e2⟩ := map_some hj
    cases e2
    obtain ⟨i, e3, e4⟩ := hg j d e1
    have e5 : Γ'[i]? = some (some d) := by
      cases q : Γ'[i]? with
      | none => rw [q] at e4; cases e4
      | some o => rw [q] at e4; simp at e4; rw [e4]
    obtain ⟨v, h1, h2⟩ := r.get i d e5
    have hi : i ∈ ms := List.mem_of_getElem? e3
    have p := pin i hi
    rw [h1] at p
    have hlt := hms i hi
    rw [List.getElem?_append_left (by simpa using hlt), List.getElem?_map, List.getElem?_eq_getElem hlt] at p
    have ev : v = vs[i] := by simpa using p
    refine ⟨v, ?_, by simpa [e3] using h2⟩
    rw [List.getElem?_map]
    unfold pick
    rw [List.getElem?_map, e3]
    simp [List.getD, List.getElem?_eq_getElem hlt, ev]
  · cases e1 : ms[i]? with
    | none => simp [e1] at h1
    | some i' =>
      cases e2 : ms[j]? with
      | none => simp [e2] at h2
      | some j' =>
        simp only [e1] at h1
        simp only [e2] at h2
        have := r.dis i' j' a h1 h2
        subst this
        exact (List.getElem?_inj (by exact (List.getElem?_eq_some_iff.mp e1).1) hn).mp (e1.trans e2.symm)
  · cases e1 : ms[j]? with
    | none => simp [e1] at hj
    | some i =>
      have : j < outs.length := by rw [← hl]; exact (List.getElem?_eq_some_iff.mp e1).1
      exact ⟨outs[j], by simp [List.getElem?_map, List.getElem?_eq_getElem this]⟩
theorem at_back {ms : List Nat} {φ' : Fp} {x : Addr} (h : Fp.at (fun j => match ms[j]? with | some i => φ' i | none => []) x) : φ'.at x := by
  obtain ⟨j, hj⟩ := h
  cases e : ms[j]? with
  | none => simp [e] at hj
  | some i => simp only [e] at hj; exact ⟨i, hj⟩
end
/-- what is needed of a call of a def by its name -/
structure Fne (P : Program) (w : World) (K : PySem.W.Frag) (mg : Str → Option Value) (base : Heap) (x : Str) (k : Nat) (ps : List Str) (ms : List Nat) (fn : List D → Option FR) : Prop where
  ex : ∃ f fd, FnOk P w K mg base (L2.CX P w) k f fd ps (spD ⟨K, mg⟩ ms fn) ∧ mg x = some (.ref f) ∧ PySem.W.keepIn K (.ref f) = true ∧ Binds K fd ps []
section
variable {P : Program} {w : World} {K : PySem.W.Frag} {mg : Str → Option Value} {base : Heap} {x qual : Str} {params : Arguments} {body : List Stmt} {scope : Scope} {f : Addr} {fd : FuncData}
theorem fnd_ok {N ps : List Str} {k : Nat} {ms : List Nat} {g : Gm → Option (Oc Fw)} (F : FunD K x qual params body scope [] [] f fd) (S : FnScope N ps scope) (n m : Nat) (hn : ms.Nodup) (hms : ∀ i ∈ ms, i < n) (hp : ps.length = n) (hN : N.length = n + m)
    (hb : ∀ (cdv : Value) (A : Around) (outer : List Env) (s : Shared) (H : Hp) (E : XK), Room k (A.deeper (envOfC qual scope s.heap.objs.size f cdv)) →
      PBs (cxOf (L2.CX P w) P w K mg base N qual scope f cdv A outer s H E) (fun cls d _ H => E cls d H) ms body g) :
    FnOk P w K mg base (L2.CX P w) (k + 1) f fd ps (spD ⟨K, mg⟩ ms (fnOf n m ms g)) := by
  have len : ∀ vs H Q E, spD ⟨K, mg⟩ ms (fnOf n m ms g) vs H Q E → vs.length = ps.length := fun vs H Q E ⟨T, F, ds, ψ, r, a, e, _⟩ => by
    unfold fnOf at e
    split at e
    · rename_i hl
      have := a.len
      simp at this
      omega
    · cases e
  refine F.ok S len fun cdv A outer s H vs Q E hr h => ⟨_, hb cdv A outer s H E hr, ?_⟩
  have lv := len _ _ _ _ h
  obtain ⟨T, F0, ds, ψ, r, a, e, q⟩ := h
  unfold fnOf at e
  split at e
  case isFalse => cases e
  rename_i hl
  obtain ⟨o, e1, e2⟩ := bind_some e
  have est : L2.start N vs = vs.map some ++ List.replicate m none := by
    unfold L2.start
    rw [hN, lv, hp]
    congr 2
    omega
  have rep : Rep ⟨⟨K, mg⟩, T⟩ F0 H (L2.start N vs) (ds.map some ++ List.replicate m none) ψ := by
    rw [est]
    refine ⟨a.le, a.leT, by have := a.len; simp at this ⊢; omega, fun i d hi => ?_, a.dis, fun i hi => ?_⟩
    · by_cases hlt : i < ds.length
      · rw [List.getElem?_append_left (by simpa using hlt)] at hi
        obtain ⟨v, h1, h2⟩ := a.get i d hi
        refine ⟨v, ?_, h2⟩
        rw [List.getElem?_append_left (by have := a.len; simp at this ⊢; omega)]
        exact h1
      · rw [List.getElem?_append_right (by simpa using hlt), List.getElem?_replicate] at hi
        split at hi <;> cases hi
    · obtain ⟨d, hd⟩ := a.emp i hi
      refine ⟨d, ?_⟩
      rw [List.getElem?_append_left (by exact (List.getElem?_eq_some_iff.mp hd).1)]
      exact hd
  have hms' : ∀ i ∈ ms, i < vs.length := fun i hi => by rw [lv, hp]; exact hms i hi
  refine ⟨T, F0, _, ψ, o, rep, e1, ?_⟩
  cases o with
  | ok fw Γ' =>
    cases fw with
    | nx =>
      obtain ⟨outs, e3, rfl⟩ := map_some e2
      intro σ' F' H' φ' pin st rp
      rw [est] at pin
      exact q _ F' H' _ [] (st.imp (fun _ h => h) fun x h => .inl (h.elim at_back fun z => nomatch z)) .non (fun _ z => nomatch z) (args_back hn hms' pin rp e3)
    | rt d =>
      obtain ⟨outs, e3, rfl⟩ := map_some e2
      intro v σ' F' H' φ' U pin st rp ow dj
      rw [est] at pin
      exact q v F' H' _ U (st.imp (fun _ h => h) fun x h => .inl (h.elim (fun z => .inl (at_back z)) .inr)) ow (fun x hx z => dj x hx (at_back z)) (args_back hn hms' pin rp e3)
    | bk => cases e2
    | ct => cases e2
  | ex xc Γ' =>
    obtain ⟨outs, e3, rfl⟩ := map_some e2
    intro cls dd σ' F' H' φ' U pin st rp ow dj
    rw [est] at pin
    exact q cls dd F' H' _ U (st.imp (fun _ h => h) fun x h => .inl (h.elim (fun z => .inl (at_back z)) .inr)) ow (fun x hx z => dj x hx (at_back z)) (args_back hn hms' pin rp e3)
end

/-! ### a quiet call -/
section
variable {X : Cx}
def qFn (fn : List D → Option FR) (fa : Gm → Option (List D)) : Gm → Option D := fun Γ => (fa Γ).bind fun ds => if D.all0 ds = true then match fn ds with
  | some (.ret d _) => if d.noTm = true then some d.shr else none
  | _ => none
  else none
theorem ownL_arg {C : Cn} {F H : Hp} {φ : Fp} (s : Same F H) (st : Same C.T H) : ∀ {vs : List V} {ds : List D}, OwnL C F H φ vs ds → (∀ d ∈ ds, d.hd = false) → Arg C F H vs ds (fun _ => []) := fun {vs ds} h h0 => by
  have o := OwnL.owns h h0
  refine { le := s, leT := st, len := by simp [o.len], get := fun i d hi => ?_, dis := (fun _ _ _ z => nomatch z), emp := fun _ z => absurd rfl z }
  rw [List.getElem?_map] at hi
  obtain ⟨d', e1, e2⟩ := map_some hi
  cases e2
  obtain ⟨v, U, h1, h2, h3⟩ := o.get e1
  have e : U = [] := List.eq_nil_iff_forall_not_mem.mpr fun x hx => nomatch h3 x hx
  subst e
  exact ⟨v, by rw [List.getElem?_map, h1]; rfl, h2⟩
/-- freezing a result -/
theorem grow_frz {C : Cn} {F H F' H' : Hp} {U : List Addr} {S S0 : Addr → Prop} (st : Step C F H S0 F' H' (fun x => S x ∨ x ∈ U)) (h0 : ∀ x, S0 x → False) : Grow C F H (frz F' H' U) H' := by
  refine ⟨st.le.trans frz_le, frz_in st.le', st.leT, fun a o n e => st.keep a o (fun z => h0 a z) e, st.dom, fun a o e => ?_, fun _ z => z.elim⟩
  by_cases ha : a ∈ U
  · rcases st.newS a (.inr ha) with z | z
    · exact (h0 a z).elim
    · exact .inr (.inl z)
  · rw [frz_out ha] at e
    rcases st.newF a o e with z | z | z
    · exact .inl z
    · exact .inr (.inl z)
    · exact (h0 a z).elim
theorem pq_fn {x : Str} {k : Nat} {ps : List Str} {ms : List Nat} {fn : List D → Option FR} {p pos : Pos} {e : Expr} {es : List Expr} {fa : Gm → Option (List D)} (T : Fne X.prog X.w X.K X.mg X.base x k ps ms fn) (hr : Room k X.A) (hg : Gl X x) (ha : PQA X (e :: es) fa)
    {W : WX} (tk : Takes X W)
    (hdb : (x == ("__debug__" : Str)) = false := by decide) (he : starEach (e :: es) X.env = (false, eval e X.env) :: starEach es X.env := by rfl) (hpl : (backTo pos (starEach es X.env)).any (·.1) = false := by rfl) : PQ X (.Call (.Name x p) (e :: es) [] pos) (qFn fn fa) := by
  obtain ⟨f, fd, ok, hm, kp, b⟩ := T.ex
  refine pe_imp (pe_callS (E := WE W) ok hr hg hm kp b (fun σ => passAt tk σ) ha hdb he hpl) fun σ H Q ⟨T, F, Γ, φ, d, r, e, q⟩ => ?_
  obtain ⟨ds, ea, e⟩ := bind_some e
  split at e
  case isFalse => cases e
  rename_i h0
  split at e
  case h_2 => cases e
  rename_i d' outs hfn
  split at e
  case isFalse => cases e
  rename_i nt
  cases e
  refine ⟨T, F, Γ, φ, ds, r, ea, fun vs F1 H1 g1 os => ⟨T, F1, ds, fun _ => [], _, ownL_arg g1.le' g1.leT os (all0_iff h0), hfn, ?_⟩⟩
  intro v F2 H2 ψ' U st ow dj ar
  have g2 := grow_frz st (fun x ⟨i, z⟩ => nomatch z)
  exact q v _ H2 [] (g1.trans g2) (ow.freeze (fun _ h => h) nt) fun _ z => nomatch z
end
end SK

namespace SK
open PySem PySem.Spec L2
open PyProof.Rows (envOfC)

/-! ### lending for the time of a call -/
mutual
def D.tmr : D → D
  | .nd .ow k xs => .nd .tm k (D.tmrs xs)
  | d => d
def D.tmrs : List D → List D
  | [] => []
  | d :: ds => d.tmr :: D.tmrs ds
end
section
variable {B : Cb} {T T' F H F' H' : Hp}
theorem noTm_hd : ∀ {d : D}, d.noTm = true → True := fun _ => trivial
mutual
theorem Own.monoT (st : Same T T') : ∀ {v : V} {d : D} {S : List Addr}, Own ⟨B, T⟩ F H v d S → (∀ a ∈ S, T' a = none) → Own ⟨B, T'⟩ F H v d S
  | _, _, _, .non, _ => .non
  | _, _, _, .bl b, _ => .bl b
  | _, _, _, .int b, _ => .int b
  | _, _, _, .str b, _ => .str b
  | _, _, _, .ty b, _ => .ty b
  | _, _, _, .cls b, _ => .cls b
  | _, _, _, .sh c nt os, h => .sh c nt (Owns.monoT st os (fun _ z => nomatch z))
  | _, _, _, .tm c os, h => .tm (c.mono st) (Owns.monoT st os (fun _ z => nomatch z))
  | _, _, _, .ow c fn tn ni os, h => .ow c fn ⟨h _ List.mem_cons_self, tn.2⟩ ni (Owns.monoT st os (fun b hb => h b (List.mem_cons_of_mem _ hb)))
theorem Owns.monoT (st : Same T T') : ∀ {vs : List V} {ds : List D} {S : List Addr}, Owns ⟨B, T⟩ F H vs ds S → (∀ a ∈ S, T' a = none) → Owns ⟨B, T'⟩ F H vs ds S
  | _, _, _, .nil, _ => .nil
  | _, _, _, .cons o os dj e, h => .cons (Own.monoT st o (fun b hb => h b (by rw [e]; exact List.mem_append_left _ hb))) (Owns.monoT st os (fun b hb => h b (by rw [e]; exact List.mem_append_right _ hb))) dj e
end
mutual
theorem Own.unT (st : Same T T') : ∀ {v : V} {d : D} {S : List Addr}, Own ⟨B, T'⟩ F H v d S → d.noTm = true → Own ⟨B, T⟩ F H v d S
  | _, _, _, .non, _ => .non
  | _, _, _, .bl b, _ => .bl b
  | _, _, _, .int b, _ => .int b
  | _, _, _, .str b, _ => .str b
  | _, _, _, .ty b, _ => .ty b
  | _, _, _, .cls b, _ => .cls b
  | _, _, _, .sh c nt os, h => .sh c nt (Owns.unT st os nt)
  | _, _, _, .tm c os, h => nomatch h
  | _, _, _, .ow c fn tn ni os, h => .ow c fn ⟨Same.free st tn.1, tn.2⟩ ni (Owns.unT st os (by rw [D.noTm] at h; exact h; intro z; cases z))
theorem Owns.unT (st : Same T T') : ∀ {vs : List V} {ds : List D} {S : List Addr}, Owns ⟨B, T'⟩ F H vs ds S → D.noTms ds = true → Owns ⟨B, T⟩ F H vs ds S
  | _, _, _, .nil, _ => .nil
  | _, _, _, .cons o os dj e, h => by
    rw [D.noTms, Bool.and_eq_true] at h
    exact .cons (Own.unT st o h.1) (Owns.unT st os h.2) dj e
end
mutual
theorem Own.lend (st : Same T T') : ∀ {v : V} {d : D} {S : List Addr}, Own ⟨B, T⟩ F H v d S → (∀ a ∈ S, T' a = H a) → Own ⟨B, T'⟩ F H v d.tmr []
  | _, _, _, .non, _ => .non
  | _, _, _, .bl b, _ => .bl b
  | _, _, _, .int b, _ => .int b
  | _, _, _, .str b, _ => .str b
  | _, _, _, .ty b, _ => .ty b
  | _, _, _, .cls b, _ => .cls b
  | _, _, _, .sh c nt os, h => .sh c nt (Owns.monoT st os (fun _ z => nomatch z))
  | _, _, _, .tm c os, h => .tm (c.mono st) (Owns.monoT st os (fun _ z => nomatch z))
  | _, _, _, .ow c fn tn ni os, h => .tm ((c.congr (h _ List.mem_cons_self)).cont) (Owns.lend st os (fun b hb => h b (List.mem_cons_of_mem _ hb)))
theorem Owns.lend (st : Same T T') : ∀ {vs : List V} {ds : List D} {S : List Addr}, Owns ⟨B, T⟩ F H vs ds S → (∀ a ∈ S, T' a = H a) → Owns ⟨B, T'⟩ F H vs (D.tmrs ds) []
  | _, _, _, .nil, _ => .nil
  | _, _, _, .cons o os dj e, h => .cons (Own.lend st o (fun b hb => h b (by rw [e]; exact List.mem_append_left _ hb))) (Owns.lend st os (fun b hb => h b (by rw [e]; exact List.mem_append_right _ hb))) (fun _ z => nomatch z) rfl
end
theorem Step.unT {S S' : Addr → Prop} (st : Same T T') (a : Step ⟨B, T'⟩ F H S F' H' S') : Step ⟨B, T⟩ F H S F' H' S' :=
  ⟨a.le, a.le', st.trans a.leT, a.keep, a.dom, a.newF, a.newS⟩
theorem Xrep.unT {x : Xc} {cls : Value} {dd : Option Addr} {U : List Addr} (st : Same T T') (a : Xrep ⟨B, T'⟩ F H x cls dd U) (h : ∀ ns ds, x.fs = some (ns, ds) → D.noTms ds = true) : Xrep ⟨B, T⟩ F H x cls dd U := by
  obtain ⟨Ca, h1, h2, h3⟩ := a
  refine ⟨Ca, h1, h2, ?_⟩
  cases e : x.fs with
  | none => rw [e] at h3; exact h3
  | some p =>
    obtain ⟨ns, ds⟩ := p
    rw [e] at h3
    obtain ⟨a, fs, e1, e2, e3, os⟩ := h3
    exact ⟨a, fs, e1, e2, e3, os.unT st (h ns ds e)⟩
end

/-! ### arguments that may be lent -/
inductive AV where | val (d : D) | slot (i : Nat)
structure AVs (C : Cn) (F H : Hp) (σ : L2.St) (vs : List V) (avs : List AV) (τ : Fp) : Prop where
  len : vs.length = avs.length
  val : ∀ (j : Nat) (d : D), avs[j]? = some (.val d) → ∃ v, vs[j]? = some v ∧ Own C F H v d (τ j)
  slot : ∀ (j i : Nat), avs[j]? = some (.slot i) → ∃ v, vs[j]? = some v ∧ σ[i]? = some (some v) ∧ τ j = []
  dis : ∀ i j a, a ∈ τ i → a ∈ τ j → i = j
  emp : ∀ j, τ j ≠ [] → ∃ d, avs[j]? = some (.val d)
theorem AVs.alive {C : Cn} {F H : Hp} {σ : L2.St} {vs : List V} {avs : List AV} {τ : Fp} (a : AVs C F H σ vs avs τ) {x : Addr} (h : τ.at x) : F x = none ∧ C.T x = none ∧ ∃ o, H x = some o := by
  obtain ⟨j, hj⟩ := h
  obtain ⟨d, hd⟩ := a.emp j (fun z => by rw [z] at hj; cases hj)
  obtain ⟨v, _, o⟩ := a.val j d hd
  exact o.alive x hj
def tLV (C : Cb) (W : WX) (f : Gm → Option (Oc AV)) : TE := fun σ H Q => ∃ T F Γ φ o, Rep ⟨C, T⟩ F H σ Γ φ ∧ f Γ = some o ∧ match o with
  | .ok av Γ' => ∀ v F' H' φ' U, Step ⟨C, T⟩ F H φ.at F' H' (fun x => φ'.at x ∨ x ∈ U) → Rep ⟨C, T⟩ F' H' σ Γ' φ' → (match av with
      | .val d => Own ⟨C, T⟩ F' H' v d U
      | .slot i => σ[i]? = some (some v) ∧ U = []) → (∀ x ∈ U, ¬ φ'.at x) → Q v H'
  | .ex x Γ' => ∀ cls dd F' H' φ' U, Step ⟨C, T⟩ F H φ.at F' H' (fun x => φ'.at x ∨ x ∈ U) → Rep ⟨C, T⟩ F' H' σ Γ' φ' → Xrep ⟨C, T⟩ F' H' x cls dd U → (∀ x ∈ U, ¬ φ'.at x) → W cls dd σ H'
def tLA (C : Cb) (W : WX) (f : Gm → Option (Oc (List AV))) : TA := fun σ H Q => ∃ T F Γ φ o, Rep ⟨C, T⟩ F H σ Γ φ ∧ f Γ = some o ∧ match o with
  | .ok avs Γ' => ∀ vs F' H' φ' τ, Step ⟨C, T⟩ F H φ.at F' H' (fun x => φ'.at x ∨ τ.at x) → Rep ⟨C, T⟩ F' H' σ Γ' φ' → AVs ⟨C, T⟩ F' H' σ vs avs τ → (∀ x, τ.at x → ¬ φ'.at x) → Q vs H'
  | .ex x Γ' => ∀ cls dd F' H' φ' U, Step ⟨C, T⟩ F H φ.at F' H' (fun x => φ'.at x ∨ x ∈ U) → Rep ⟨C, T⟩ F' H' σ Γ' φ' → Xrep ⟨C, T⟩ F' H' x cls dd U → (∀ x ∈ U, ¬ φ'.at x) → W cls dd σ H'
abbrev PLV (X : Cx) (W : WX) (e : Expr) (f : Gm → Option (Oc AV)) : Prop := PE X e (tLV (Cx.cn X) W f)
abbrev PLA (X : Cx) (W : WX) (e : List Expr) (f : Gm → Option (Oc (List AV))) : Prop := PA X e (tLA (Cx.cn X) W f)
def Oc.bind {α β : Type} (x : Option (Oc α)) (f : α → Gm → Option (Oc β)) : Option (Oc β) := match x with
  | some (.ok a Γ) => f a Γ
  | some (.ex x Γ) => some (.ex x Γ)
  | none => none
/-- quiet, then owned: a value that is not owned by the slots -/
def lQ (f : Gm → Option D) : Gm → Option (Oc D) := fun Γ => (f Γ).bind fun d => if d.hd = true then none else some (.ok d Γ)
def vQ (f : Gm → Option D) : Gm → Option (Oc AV) := fun Γ => (f Γ).bind fun d => if d.hd = true then none else some (.ok (.val d) Γ)
def vL (f : Gm → Option (Oc D)) : Gm → Option (Oc AV) := fun Γ => Oc.bind (f Γ) fun d Γ' => some (.ok (.val d) Γ')
/-- a name: lent where it is owned -/
def vN (i : Nat) : Gm → Option (Oc AV) := fun Γ => (Γ[i]?.join).bind fun d => if d.hd = true then some (.ok (.slot i) Γ) else some (.ok (.val d) Γ)
def aNil : Gm → Option (Oc (List AV)) := fun Γ => some (.ok [] Γ)
def aCons (f : Gm → Option (Oc AV)) (g : Gm → Option (Oc (List AV))) : Gm → Option (Oc (List AV)) := fun Γ => Oc.bind (f Γ) fun a Γ1 => Oc.bind (g Γ1) fun as Γ2 => some (.ok (a :: as) Γ2)
section
variable {X : Cx} {W : WX}
theorem Grow.step {C : Cn} {F H F' H' : Hp} {S S' : Addr → Prop} (g : Grow C F H F' H') (h : ∀ x, S' x → S x) : Step C F H S F' H' S' := g.imp (fun _ z => z.elim) fun x hx => .inr (h x hx)
theorem hd_nil {C : Cn} {F H : Hp} {v : V} {d : D} {U : List Addr} (o : Own C F H v d U) (h : ¬ d.hd = true) : U = [] := o.nil_of (by cases q : d.hd with | true => exact absurd q h | false => rfl)
theorem pl_q {e : Expr} {f : Gm → Option D} (h : PQ X e f) : PL X W e (lQ f) := pe_imp h fun σ H Q ⟨T, F, Γ, φ, d, r, e, q⟩ => by
  obtain ⟨a, ea, e⟩ := bind_some e
  split at e
  · cases e
  · rename_i hh
    cases e
    refine ⟨T, F, Γ, φ, a, r, ea, fun v F1 H1 U g1 o1 u1 => ?_⟩
    have := hd_nil o1 hh
    subst this
    exact q v F1 H1 φ [] (g1.step fun x h => h.elim id fun z => nomatch z) (r.grow g1) o1 fun _ z => nomatch z
theorem plv_q {e : Expr} {f : Gm → Option D} (h : PQ X e f) : PLV X W e (vQ f) := pe_imp h fun σ H Q ⟨T, F, Γ, φ, d, r, e, q⟩ => by
  obtain ⟨a, ea, e⟩ := bind_some e
  split at e
  · cases e
  · rename_i hh
    cases e
    refine ⟨T, F, Γ, φ, a, r, ea, fun v F1 H1 U g1 o1 u1 => ?_⟩
    have := hd_nil o1 hh
    subst this
    exact q v F1 H1 φ [] (g1.step fun x h => h.elim id fun z => nomatch z) (r.grow g1) o1 fun _ z => nomatch z
theorem plv_l {e : Expr} {f : Gm → Option (Oc D)} (h : PL X W e f) : PLV X W e (vL f) := pe_imp h fun σ H Q ⟨T, F, Γ, φ, o, r, e, q⟩ => by
  unfold vL at e
  cases ho : f Γ with
  | none => rw [ho] at e; cases e
  | some oc =>
    rw [ho] at e
    cases oc with
    | ok d Γ' => cases e; exact ⟨T, F, Γ, φ, _, r, ho, fun v F' H' φ' U st rp ow dj => q v F' H' φ' U st rp ow dj⟩
    | ex x Γ' => cases e; exact ⟨T, F, Γ, φ, _, r, ho, q⟩
theorem plv_n (i : Nat) {x : Str} {pos : Pos} (hN : X.N[i]? = some x := by rfl) (hv : Vis X.env.scope x := by first | exact Or.inl rfl | exact Or.inr (Or.inl rfl) | exact Or.inr (Or.inr rfl)) (hd : (x == ("__debug__" : Str)) = false := by decide)
    (hcd : (x == ("__classdict__" : Str)) = false := by decide) : PLV X W (.Name x pos) (vN i) := pe_imp (pe_var hN hv hd hcd) fun σ H Q ⟨T, F, Γ, φ, o, r, e, q⟩ => by
  obtain ⟨d, ed, e⟩ := bind_some e
  have e' : Γ[i]? = some (some d) := by
    cases h : Γ[i]? with
    | none => rw [h] at ed; cases ed
    | some o => rw [h] at ed; simp at ed; rw [ed]
  obtain ⟨v, h1, h2⟩ := r.get i d e'
  split at e
  · cases e
    exact ⟨v, h1, q v F H φ [] ((Step.refl (S := φ.at) r.le r.leT).imp (fun _ h => h) fun x h => h.elim .inl fun z => nomatch z) r ⟨h1, rfl⟩ fun _ z => nomatch z⟩
  · rename_i hh
    cases e
    have := hd_nil h2 hh
    rw [this] at h2
    exact ⟨v, h1, q v F H φ [] ((Step.refl (S := φ.at) r.le r.leT).imp (fun _ h => h) fun x h => h.elim .inl fun z => nomatch z) r h2 fun _ z => nomatch z⟩
theorem pla_nil : PLA X W [] aNil := pa_imp pa_nil fun σ H Q ⟨T, F, Γ, φ, o, r, e, q⟩ => by
  cases e
  exact q [] F H φ (fun _ => []) ((Step.refl (S := φ.at) r.le r.leT).imp (fun _ h => h) fun x h => h.elim .inl fun ⟨_, z⟩ => nomatch z) r ⟨rfl, fun j d h => by simp at h, fun j d h => by simp at h, (fun _ _ _ z => nomatch z), fun _ z => absurd rfl z⟩ fun x ⟨_, z⟩ => nomatch z
theorem pla_cons {e : Expr} {es : List Expr} {f : Gm → Option (Oc AV)} {g : Gm → Option (Oc (List AV))} (h : PLV X W e f) (hs : PLA X W es g)
    (h1 : starEach (e :: es) X.env = (false, eval e X.env) :: starEach es X.env := by rfl) : PLA X W (e :: es) (aCons f g) := pa_imp (pa_cons h hs h1) fun σ H Q ⟨T, F, Γ, φ, o, r, e, q⟩ => by
  unfold aCons at e
  cases ho : f Γ with
  | none => rw [ho] at e; cases e
  | some oc =>
    rw [ho] at e
    cases oc with
    | ex x Γ' => cases e; exact ⟨T, F, Γ, φ, _, r, ho, q⟩
    | ok av Γ1 =>
      refine ⟨T, F, Γ, φ, _, r, ho, fun v F1 H1 φ1 U st1 r1 ow dj => ?_⟩
      have al : ∀ x ∈ U, ∃ o, H1 x = some o := fun x hx => by
        cases av with
        | val d => exact ((show Own ⟨Cx.cn X, T⟩ F1 H1 v d U from ow).alive x hx).2.2
        | slot i => rw [ow.2] at hx; cases hx
      simp only [Oc.bind] at e
      cases ho2 : g Γ1 with
      | none => rw [ho2] at e; cases e
      | some oc2 =>
        rw [ho2] at e
        cases oc2 with
        | ex x Γ' =>
          cases e
          refine ⟨T, F1, Γ1, φ1, _, r1, ho2, fun cls dd F2 H2 φ2 U2 st2 r2 xr dj2 => q cls dd F2 H2 φ2 U2 ((st1.imp (fun _ h => h) fun x h => .inl (.inl h)).trans st2) r2 xr dj2⟩
        | ok avs Γ2 =>
          cases e
          refine ⟨T, F1, Γ1, φ1, _, r1, ho2, fun vs F2 H2 φ2 τ st2 r2 as dj2 => ?_⟩
          have dU : ∀ x ∈ U, ¬ (φ2.at x ∨ τ.at x) := st2.dis al dj
          have st2' : Step ⟨Cx.cn X, T⟩ F1 H1 (fun x => φ1.at x ∨ x ∈ U) F2 H2 (fun x => (φ2.at x ∨ τ.at x) ∨ x ∈ U) := st2.wide (fun x => x ∈ U)
          refine q (v :: vs) F2 H2 φ2 (fun j => match j with | 0 => U | j + 1 => τ j) ((st1.trans st2').imp (fun _ h => h) fun x h => ?_) r2 ⟨by simp [as.len], fun j d hj => ?_, fun j i hj => ?_, fun i j a h1 h2 => ?_, fun j hj => ?_⟩ (fun x ⟨j, hj⟩ hx => ?_)
          · rcases h with h | ⟨j, hj⟩
            · exact .inl (.inl (.inl h))
            · cases j with
              | zero => exact .inl (.inr hj)
              | succ j => exact .inl (.inl (.inr ⟨j, hj⟩))
          · cases j with
            | zero =>
              simp at hj; subst hj
              exact ⟨v, rfl, (show Own ⟨Cx.cn X, T⟩ F1 H1 v d U from ow).step st2 dj⟩
            | succ j => simpa using as.val j d (by simpa using hj)
          · cases j with
            | zero =>
              simp at hj; subst hj
              exact ⟨v, rfl, ow.1, ow.2⟩
            | succ j => simpa using as.slot j i (by simpa using hj)
          · cases i with
            | zero => cases j with
              | zero => rfl
              | succ j => exact absurd (.inr ⟨j, h2⟩) (dU a h1)
            | succ i => cases j with
              | zero => exact absurd (.inr ⟨i, h1⟩) (dU a h2)
              | succ j => rw [as.dis i j a h1 h2]
          · cases j with
            | zero => cases av with
              | val d => exact ⟨d, rfl⟩
              | slot i => exact absurd ow.2 hj
            | succ j => simpa using as.emp j hj
          · cases j with
            | zero => exact dU x hj (.inl hx)
            | succ j => exact dj2 x ⟨j, hj⟩ hx
end

/-! ### the call -/
def argD (ms : List Nat) (Γ : Gm) : Nat → List AV → Option (List D)
  | _, [] => some []
  | j, .val d :: r => (argD ms Γ (j + 1) r).map fun ds => d :: ds
  | j, .slot i :: r => (Γ[i]?.join).bind fun d => (argD ms Γ (j + 1) r).map fun ds => (if j ∈ ms then d else d.tmr) :: ds
def slotsOf : List AV → List Nat
  | [] => []
  | .val _ :: r => slotsOf r
  | .slot i :: r => i :: slotsOf r
def clr (avs : List AV) : List Nat → Gm → Gm
  | [], Γ => Γ
  | m :: ms, Γ => match avs[m]? with
    | some (.slot i) => clr avs ms (Γ.set i none)
    | _ => clr avs ms Γ
def back (avs : List AV) : List Nat → List D → Gm → Gm
  | m :: ms, o :: outs, Γ => match avs[m]? with
    | some (.slot i) => back avs ms outs (Γ.set i (some o))
    | _ => back avs ms outs Γ
  | _, _, Γ => Γ
def Xc.ok (x : Xc) : Bool := match x.fs with
  | none => true
  | some (_, ds) => D.noTms ds
def callF (fn : List D → Option FR) (ms : List Nat) (avs : List AV) (Γ : Gm) : Option (Oc D) :=
  if (slotsOf avs).Nodup then (argD ms Γ 0 avs).bind fun ds => (fn ds).bind fun r => match r with
    | .ret d outs => if d.noTm = true ∧ D.noTms outs = true then some (.ok d (back avs ms outs (clr avs ms Γ))) else none
    | .exc x outs => if x.ok = true ∧ D.noTms outs = true then some (.ex x (back avs ms outs (clr avs ms Γ))) else none
  else none
section
variable {C : Cn} {F H : Hp} {σ : L2.St} {avs : List AV}
theorem argD_get {ms : List Nat} {Γ : Gm} : ∀ {avs : List AV} {j0 : Nat} {ds : List D}, argD ms Γ j0 avs = some ds → ds.length = avs.length ∧ ∀ (j : Nat) (av : AV), avs[j]? = some av → match av with
    | .val d => ds[j]? = some d
    | .slot i => ∃ d, Γ[i]? = some (some d) ∧ ds[j]? = some (if j0 + j ∈ ms then d else d.tmr)
  | [], _, _, h => by rw [argD] at h; cases h; exact ⟨rfl, fun j av h => by simp at h⟩
  | .val d :: r, j0, ds, h => by
    rw [argD] at h
    obtain ⟨ds', e, rfl⟩ := map_some h
    obtain ⟨l, g⟩ := argD_get e
    refine ⟨by simp [l], fun j av hj => ?_⟩
    cases j with
    | zero => simp at hj; subst hj; rfl
    | succ j =>
      have q := g j av (by simpa using hj)
      cases av with
      | val d => simpa using q
      | slot i => obtain ⟨d, h1, h2⟩ := q; exact ⟨d, h1, by rw [show j0 + (j + 1) = j0 + 1 + j by omega]; simpa using h2⟩
  | .slot i :: r, j0, ds, h => by
    rw [argD] at h
    obtain ⟨d, e0, h⟩ := bind_some h
    obtain ⟨ds', e, rfl⟩ := map_some h
    obtain ⟨l, g⟩ := argD_get e
    refine ⟨by simp [l], fun j av hj => ?_⟩
    cases j with
    | zero =>
      simp at hj; subst hj
      refine ⟨d, ?_, by simp⟩
      cases q : Γ[i]? with
      | none => rw [q] at e0; cases e0
      | some o => rw [q] at e0; simp at e0; rw [e0]
    | succ j =>
      have q := g j av (by simpa using hj)
      cases av with
      | val d => simpa using q
      | slot i => obtain ⟨d, h1, h2⟩ := q; exact ⟨d, h1, by rw [show j0 + (j + 1) = j0 + 1 + j by omega]; simpa using h2⟩
theorem slotsOf_mem {i : Nat} : ∀ {avs : List AV}, i ∈ slotsOf avs ↔ ∃ j : Nat, avs[j]? = some (AV.slot i)
  | [] => by simp [slotsOf]
  | .val d :: r => by
    rw [slotsOf, slotsOf_mem]
    constructor
    · rintro ⟨j, h⟩; exact ⟨j + 1, by simpa using h⟩
    · rintro ⟨j, h⟩
      cases j with
      | zero => simp at h
      | succ j => exact ⟨j, by simpa using h⟩
  | .slot k :: r => by
    rw [slotsOf, List.mem_cons, slotsOf_mem]
    constructor
    · rintro (rfl | ⟨j, h⟩)
      · exact ⟨0, rfl⟩
      · exact ⟨j + 1, by simpa using h⟩
    · rintro ⟨j, h⟩
      cases j with
      | zero => simp at h; exact .inl h.symm
      | succ j => exact .inr ⟨j, by simpa using h⟩
theorem slots_inj : ∀ {avs : List AV} {i j k : Nat}, (slotsOf avs).Nodup → avs[j]? = some (.slot i) → avs[k]? = some (.slot i) → j = k
  | [], _, _, _, _, h, _ => by simp at h
  | .val d :: r, i, j, k, hn, h1, h2 => by
    cases j with
    | zero => simp at h1
    | succ j => cases k with
      | zero => simp at h2
      | succ k => exact congrArg (· + 1) (slots_inj (avs := r) (i := i) hn (by simpa using h1) (by simpa using h2))
  | .slot a :: r, i, j, k, hn, h1, h2 => by
    rw [slotsOf, List.nodup_cons] at hn
    cases j with
    | zero => cases k with
      | zero => rfl
      | succ k =>
        simp at h1
        subst h1
        exact absurd (slotsOf_mem.mpr ⟨k, by simpa using h2⟩) hn.1
    | succ j => cases k with
      | zero =>
        simp at h2
        subst h2
        exact absurd (slotsOf_mem.mpr ⟨j, by simpa using h1⟩) hn.1
      | succ k => exact congrArg (· + 1) (slots_inj (avs := r) (i := i) hn.2 (by simpa using h1) (by simpa using h2))
theorem rep_clr : ∀ (ms : List Nat) (Γ : Gm) (φ : Fp), Rep C F H σ Γ φ → ∃ φ0, Rep C F H σ (clr avs ms Γ) φ0 ∧ (∀ i x, x ∈ φ0 i → x ∈ φ i) ∧ ∀ m i, m ∈ ms → avs[m]? = some (.slot i) → φ0 i = []
  | [], Γ, φ, r => ⟨φ, r, fun _ _ h => h, fun _ _ h => nomatch h⟩
  | m :: ms, Γ, φ, r => by
    rw [clr]
    cases e : avs[m]? with
    | none =>
      obtain ⟨φ0, r0, h1, h2⟩ := rep_clr ms Γ φ r
      refine ⟨φ0, r0, h1, fun m' i hm ha => ?_⟩
      rcases List.mem_cons.mp hm with rfl | hm
      · rw [e] at ha; cases ha
      · exact h2 m' i hm ha
    | some av => cases av with
      | val d =>
        obtain ⟨φ0, r0, h1, h2⟩ := rep_clr ms Γ φ r
        refine ⟨φ0, r0, h1, fun m' i hm ha => ?_⟩
        rcases List.mem_cons.mp hm with rfl | hm
        · rw [e] at ha; cases ha
        · exact h2 m' i hm ha
      | slot k =>
        obtain ⟨φ0, r0, h1, h2⟩ := rep_clr ms (Γ.set k none) _ (r.gone (i := k))
        refine ⟨φ0, r0, fun i x hx => ?_, fun m' i hm ha => ?_⟩
        · have := h1 i x hx
          by_cases hi : i = k
          · simp [hi] at this
          · simpa [hi] using this
        · rcases List.mem_cons.mp hm with rfl | hm
          · rw [e] at ha; cases ha
            refine List.eq_nil_iff_forall_not_mem.mpr fun x hx => ?_
            have := h1 k x hx
            simp at this
          · exact h2 m' i hm ha
theorem rep_back : ∀ (ms : List Nat) (outs : List D) (Γ : Gm) (φ χ : Fp), Rep C F H σ Γ φ → ms.length = outs.length →
    (∀ t m i, ms[t]? = some m → avs[m]? = some (.slot i) → ∃ v d, outs[t]? = some d ∧ σ[i]? = some (some v) ∧ Own C F H v d (χ t)) → (∀ t x, x ∈ χ t → ¬ φ.at x) → (∀ s t x, x ∈ χ s → x ∈ χ t → s = t) →
    ∃ φ2, Rep C F H σ (back avs ms outs Γ) φ2 ∧ ∀ x, φ2.at x → φ.at x ∨ χ.at x
  | [], _, Γ, φ, χ, r, _, _, _, _ => ⟨φ, by cases ‹List D› <;> exact r, fun _ h => .inl h⟩
  | m :: ms, [], _, _, _, _, h, _, _, _ => by cases h
  | m :: ms, o :: outs, Γ, φ, χ, r, hl, hg, hd, hx => by
    rw [back]
    have skip : (∀ i, avs[m]? ≠ some (.slot i)) → ∃ φ2, Rep C F H σ (back avs ms outs Γ) φ2 ∧ ∀ x, φ2.at x → φ.at x ∨ χ.at x := fun hn => by
      obtain ⟨φ2, r2, h2⟩ := rep_back ms outs Γ φ (fun t => χ (t + 1)) r (by simpa using hl) (fun t m' i h1 h2 => by simpa using hg (t + 1) m' i (by simpa using h1) h2) (fun t x h => hd (t + 1) x h) (fun s t x h1 h2 => by simpa using hx (s + 1) (t + 1) x h1 h2)
      exact ⟨φ2, r2, fun x h => (h2 x h).elim .inl fun ⟨t, z⟩ => .inr ⟨t + 1, z⟩⟩
    cases e : avs[m]? with
    | none => exact skip fun i h => by rw [e] at h; cases h
    | some av => cases av with
      | val d => exact skip fun i h => by rw [e] at h; cases h
      | slot k =>
        obtain ⟨v, d, e1, e2, ow⟩ := hg 0 m k rfl e
        simp at e1
        subst e1
        have r1 := r.put e2 ow (fun x hx0 j _ hj => hd 0 x hx0 ⟨j, hj⟩)
        obtain ⟨φ2, r2, h2⟩ := rep_back ms outs (Γ.set k (some o)) _ (fun t => χ (t + 1)) r1 (by simpa using hl) (fun t m' i h1 h2 => by simpa using hg (t + 1) m' i (by simpa using h1) h2) (fun t x h ⟨j, hj⟩ => by
          by_cases hk : j = k
          · simp only [hk, if_true] at hj
            have := hx 0 (t + 1) x hj h
            omega
          · simp only [hk, if_false] at hj
            exact hd (t + 1) x h ⟨j, hj⟩) (fun s t x h1 h2 => by simpa using hx (s + 1) (t + 1) x h1 h2)
        refine ⟨φ2, r2, fun x h => ?_⟩
        rcases h2 x h with ⟨j, hj⟩ | ⟨t, z⟩
        · by_cases hk : j = k
          · simp only [hk, if_true] at hj
            exact .inr ⟨0, hj⟩
          · simp only [hk, if_false] at hj
            exact .inl ⟨j, hj⟩
        · exact .inr ⟨t + 1, z⟩
/-- the heart of a call: what the callee promises, seen from the caller -/
theorem call_run {B : Cb} {T F H : Hp} {σ : L2.St} {Γ : Gm} {φ τ : Fp} {vs : List V} {avs : List AV} {ms : List Nat} {fn : List D → Option FR} {o : Oc D} {W : WX} {Q : VK} (hms : ms.Nodup)
    (rp : Rep ⟨B, T⟩ F H σ Γ φ) (as : AVs ⟨B, T⟩ F H σ vs avs τ) (dj : ∀ x, τ.at x → ¬ φ.at x) (e : callF fn ms avs Γ = some o)
    (q : match o with
      | .ok d Γ' => ∀ v F' H' φ' U, Step ⟨B, T⟩ F H (fun x => φ.at x ∨ τ.at x) F' H' (fun x => φ'.at x ∨ x ∈ U) → Rep ⟨B, T⟩ F' H' σ Γ' φ' → Own ⟨B, T⟩ F' H' v d U → (∀ x ∈ U, ¬ φ'.at x) → Q v H'
      | .ex x Γ' => ∀ cls dd F' H' φ' U, Step ⟨B, T⟩ F H (fun x => φ.at x ∨ τ.at x) F' H' (fun x => φ'.at x ∨ x ∈ U) → Rep ⟨B, T⟩ F' H' σ Γ' φ' → Xrep ⟨B, T⟩ F' H' x cls dd U → (∀ x ∈ U, ¬ φ'.at x) → W cls dd σ H') :
    spD B ms fn vs H Q (WE W σ) := by
  unfold callF at e
  split at e
  case isFalse => cases e
  rename_i hnd
  obtain ⟨ds, e1, e⟩ := bind_some e
  obtain ⟨r, e2, e⟩ := bind_some e
  obtain ⟨hl, hg⟩ := argD_get e1
  -- what is lent
  let lentB : Nat → List Addr := fun j => match avs[j]? with
    | some (.slot i) => if j ∈ ms then [] else φ i
    | _ => []
  let U0 : List Addr := (List.range avs.length).flatMap lentB
  have mU : ∀ {x}, x ∈ U0 → ∃ j i, avs[j]? = some (.slot i) ∧ j ∉ ms ∧ x ∈ φ i := fun {x} hx => by
    obtain ⟨j, _, hj⟩ := List.mem_flatMap.mp hx
    simp only [lentB] at hj
    split at hj
    · rename_i i ha
      split at hj
      · cases hj
      · rename_i hm
        exact ⟨j, i, ha, hm, hj⟩
    · cases hj
  have inU : ∀ {j i x}, avs[j]? = some (.slot i) → j ∉ ms → x ∈ φ i → x ∈ U0 := fun {j i x} ha hm hx => by
    refine List.mem_flatMap.mpr ⟨j, List.mem_range.mpr (List.getElem?_eq_some_iff.mp ha).1, ?_⟩
    simp only [lentB, ha, hm, if_false]
    exact hx
  let T' : Hp := frz T H U0
  have sT : Same T T' := frz_le
  have sTH : Same T' H := frz_in rp.leT
  have Tn : ∀ {x}, T x = none → x ∉ U0 → T' x = none := fun {x} h1 h2 => by
    show frz T H U0 x = none
    rw [frz_out h2]; exact h1
  -- the callee's footprints
  let ψ : Fp := fun j => match avs[j]? with
    | some (.val _) => τ j
    | some (.slot i) => if j ∈ ms then φ i else []
    | none => []
  have ψat : ∀ {x}, ψ.at x → (φ.at x ∨ τ.at x) ∧ x ∉ U0 := fun {x} ⟨j, hj⟩ => by
    simp only [ψ] at hj
    split at hj
    · exact ⟨.inr ⟨j, hj⟩, fun hu => by
        obtain ⟨_, i, _, _, h⟩ := mU hu
        exact dj x ⟨j, hj⟩ ⟨i, h⟩⟩
    · rename_i i ha
      split at hj
      · rename_i hm
        refine ⟨.inl ⟨i, hj⟩, fun hu => ?_⟩
        obtain ⟨j', i', ha', hm', h⟩ := mU hu
        have := rp.dis i i' x hj h
        subst this
        rw [slots_inj hnd ha ha'] at hm
        exact hm' hm
      · cases hj
    · cases hj
  have arg : Arg ⟨B, T'⟩ F H vs ds ψ := by
    refine { le := rp.le, leT := sTH, len := by simp [hl, as.len], get := fun j d hd => ?_, dis := fun i j a h1 h2 => ?_, emp := fun j hj => ?_ }
    · rw [List.getElem?_map] at hd
      obtain ⟨d', e3, e4⟩ := map_some hd
      cases e4
      have hj : j < avs.length := by rw [← hl]; exact (List.getElem?_eq_some_iff.mp e3).1
      have ha : avs[j]? = some avs[j] := List.getElem?_eq_getElem hj
      have g := hg j _ ha
      cases hav : avs[j] with
      | val d0 =>
        rw [hav] at g ha
        simp only at g
        rw [e3] at g; cases g
        obtain ⟨v, h1, h2⟩ := as.val j _ ha
        refine ⟨v, by rw [List.getElem?_map, h1]; rfl, ?_⟩
        have eψ : ψ j = τ j := by simp only [ψ, ha]
        rw [eψ]
        exact h2.monoT sT fun a hx => Tn (h2.alive a hx).2.1 fun hu => by
          obtain ⟨_, i, _, _, h⟩ := mU hu
          exact dj a ⟨j, hx⟩ ⟨i, h⟩
      | slot i =>
        rw [hav] at g ha
        obtain ⟨d0, g1, g2⟩ := g
        rw [e3] at g2
        obtain ⟨v, h1, h2, h3⟩ := as.slot j i ha
        obtain ⟨v', h4, ow⟩ := rp.get i d0 g1
        rw [h2] at h4; cases h4
        refine ⟨v, by rw [List.getElem?_map, h1]; rfl, ?_⟩
        by_cases hm : j ∈ ms
        · have eψ : ψ j = φ i := by simp only [ψ, ha, hm, if_true]
          rw [eψ]
          rw [Nat.zero_add, if_pos hm] at g2; cases g2
          exact ow.monoT sT fun a hx => Tn (ow.alive a hx).2.1 fun hu => by
            obtain ⟨j', i', ha', hm', h⟩ := mU hu
            have := rp.dis i i' a hx h
            subst this
            rw [slots_inj hnd ha ha'] at hm
            exact hm' hm
        · have eψ : ψ j = [] := by simp only [ψ, ha, hm, if_false]
          rw [eψ]
          rw [Nat.zero_add, if_neg hm] at g2; cases g2
          exact ow.lend sT fun a hx => frz_at (ow.alive a hx).2.1 (inU ha hm hx)
    · simp only [ψ] at h1 h2
      split at h1
      · rename_i d1 ha1
        split at h2
        · exact as.dis i j a h1 h2
        · split at h2
          · rename_i k _ _
            exact absurd ⟨k, h2⟩ (dj a ⟨i, h1⟩)
          · cases h2
        · cases h2
      · rename_i k1 ha1
        split at h1
        · split at h2
          · exact absurd ⟨k1, h1⟩ (dj a ⟨j, h2⟩)
          · rename_i k2 ha2
            split at h2
            · have := rp.dis k1 k2 a h1 h2
              subst this
              exact slots_inj hnd ha1 ha2
            · cases h2
          · cases h2
        · cases h1
      · cases h1
    · have hne : avs[j]? ≠ none := fun z => hj (by simp only [ψ, z])
      have hlt : j < ds.length := by
        rw [hl]
        cases q : avs[j]? with
        | none => exact absurd q hne
        | some a => exact (List.getElem?_eq_some_iff.mp q).1
      exact ⟨ds[j], by rw [List.getElem?_map, List.getElem?_eq_getElem hlt]; rfl⟩
  -- behind the call
  obtain ⟨φ0, r0, c1, c2⟩ := rep_clr (avs := avs) ms Γ φ rp
  have φ0ψ : ∀ x, φ0.at x → ¬ ψ.at x := fun x ⟨k, hk⟩ ⟨j, hj⟩ => by
    simp only [ψ] at hj
    split at hj
    · exact dj x ⟨j, hj⟩ ⟨k, c1 k x hk⟩
    · rename_i i ha
      split at hj
      · rename_i hm
        have := rp.dis k i x (c1 k x hk) hj
        subst this
        rw [c2 j k hm ha] at hk
        cases hk
      · cases hj
    · cases hj
  have behind : ∀ {outs : List D} {F' H' : Hp} {ψ' : Fp} {S' : Addr → Prop}, Step ⟨B, T'⟩ F H ψ.at F' H' S' → (∀ x, ψ'.at x → S' x) → Arg ⟨B, T'⟩ F' H' (pick ms vs) outs ψ' → D.noTms outs = true → 
      ∃ φ2, Rep ⟨B, T⟩ F' H' σ (back avs ms outs (clr avs ms Γ)) φ2 ∧ ∀ x, φ2.at x → φ0.at x ∨ ψ'.at x := fun {outs F' H' ψ' S'} st hS ar nt => by
    have r1 : Rep ⟨B, T⟩ F' H' σ (clr avs ms Γ) φ0 := r0.step (Step.unT sT st) φ0ψ
    have lo : ms.length = outs.length := by
      have := ar.len
      simp [pick] at this
      exact this
    have dis0 : ∀ t x, x ∈ ψ' t → ¬ φ0.at x := fun t x hx hφ => by
      have al : ∃ o, H x = some o := by
        obtain ⟨k, hk⟩ := hφ
        exact (rp.alive ⟨k, c1 k x hk⟩).2.2
      exact (st.dis (U := [x]) (fun y hy => by simp at hy; subst hy; exact al) (fun y hy => by simp at hy; subst hy; exact φ0ψ _ hφ)) x (by simp) (hS x ⟨t, hx⟩)
    refine rep_back ms outs _ φ0 ψ' r1 lo (fun t m i h1 h2 => ?_) dis0 ar.dis
    have ht : t < outs.length := by rw [← lo]; exact (List.getElem?_eq_some_iff.mp h1).1
    obtain ⟨v, e5, ow⟩ := ar.get t outs[t] (by rw [List.getElem?_map, List.getElem?_eq_getElem ht]; rfl)
    refine ⟨v, outs[t], List.getElem?_eq_getElem ht, ?_, ow.unT sT (noTms_mem.mp nt _ (List.getElem_mem ht))⟩
    obtain ⟨v', h3, h4, _⟩ := as.slot m i h2
    rw [List.getElem?_map, pick, List.getElem?_map, h1] at e5
    simp [List.getD, h3] at e5
    rw [← e5]; exact h4
  refine ⟨T', F, ds, ψ, r, arg, e2, ?_⟩
  cases r with
  | ret d outs =>
    simp only at e
    split at e
    case isFalse => cases e
    rename_i nt
    cases e
    intro v F' H' ψ' U st ow dj2 ar
    obtain ⟨φ2, r2, h2⟩ := behind st (fun x h => .inl h) ar nt.2
    refine q v F' H' φ2 U ((Step.unT sT st).imp (fun x h => (ψat h).1) fun x h => ?_) r2 (ow.unT sT nt.1) fun x hx hφ => ?_
    · rcases h with h | h
      · rcases h2 x h with ⟨k, hk⟩ | z
        · exact .inr (.inl ⟨k, c1 k x hk⟩)
        · exact .inl (.inl z)
      · exact .inl (.inr h)
    · rcases h2 x hφ with z | z
      · have al : ∃ o, H x = some o := by
          obtain ⟨k, hk⟩ := z
          exact (rp.alive ⟨k, c1 k x hk⟩).2.2
        exact (st.dis (U := [x]) (fun y hy => by simp at hy; subst hy; exact al) (fun y hy => by simp at hy; subst hy; exact φ0ψ _ z)) x (by simp) (.inr hx)
      · exact dj2 x hx z
  | exc xc outs =>
    simp only at e
    split at e
    case isFalse => cases e
    rename_i nt
    cases e
    intro cls dd F' H' ψ' U st ow dj2 ar
    obtain ⟨φ2, r2, h2⟩ := behind st (fun x h => .inl h) ar nt.2
    refine q cls dd F' H' φ2 U ((Step.unT sT st).imp (fun x h => (ψat h).1) fun x h => ?_) r2 (ow.unT sT fun ns ds' hx => ?_) fun x hx hφ => ?_
    · rcases h with h | h
      · rcases h2 x h with ⟨k, hk⟩ | z
        · exact .inr (.inl ⟨k, c1 k x hk⟩)
        · exact .inl (.inl z)
      · exact .inl (.inr h)
    · have := nt.1
      unfold Xc.ok at this
      rw [hx] at this
      exact this
    · rcases h2 x hφ with z | z
      · have al : ∃ o, H x = some o := by
          obtain ⟨k, hk⟩ := z
          exact (rp.alive ⟨k, c1 k x hk⟩).2.2
        exact (st.dis (U := [x]) (fun y hy => by simp at hy; subst hy; exact al) (fun y hy => by simp at hy; subst hy; exact φ0ψ _ z)) x (by simp) (.inr hx)
      · exact dj2 x hx z
end
end SK

namespace SK
open PySem PySem.Spec L2
open PyProof.Rows (envOfC)

/-! ### loud calls -/
def lFn (fn : List D → Option FR) (ms : List Nat) (fa : Gm → Option (Oc (List AV))) : Gm → Option (Oc D) := fun Γ => Oc.bind (fa Γ) fun avs Γ1 => callF fn ms avs Γ1
section
variable {X : Cx} {W : WX}
theorem pl_fn {x : Str} {k : Nat} {ps : List Str} {ms : List Nat} {fn : List D → Option FR} {p pos : Pos} {e : Expr} {es : List Expr} {fa : Gm → Option (Oc (List AV))} (T : Fne X.prog X.w X.K X.mg X.base x k ps ms fn) (hr : Room k X.A) (hg : Gl X x) (tk : Takes X W) (hms : ms.Nodup) (ha : PLA X W (e :: es) fa)
    (hdb : (x == ("__debug__" : Str)) = false := by decide) (he : starEach (e :: es) X.env = (false, eval e X.env) :: starEach es X.env := by rfl) (hpl : (backTo pos (starEach es X.env)).any (·.1) = false := by rfl) : PL X W (.Call (.Name x p) (e :: es) [] pos) (lFn fn ms fa) := by
  obtain ⟨f, fd, ok, hm, kp, b⟩ := T.ex
  refine pe_imp (pe_callS (E := WE W) ok hr hg hm kp b (fun σ => passAt tk σ) ha hdb he hpl) fun σ H Q ⟨T, F, Γ, φ, o, r, e, q⟩ => ?_
  unfold lFn at e
  cases ho : fa Γ with
  | none => rw [ho] at e; cases e
  | some oc =>
    rw [ho] at e
    cases oc with
    | ex xc Γ' => cases e; exact ⟨T, F, Γ, φ, _, r, ho, q⟩
    | ok avs Γ1 =>
      simp only [Oc.bind] at e
      refine ⟨T, F, Γ, φ, _, r, ho, fun vs F1 H1 φ1 τ st1 r1 as dj => call_run (Q := Q) hms r1 as dj e ?_⟩
      cases o with
      | ok d Γ' => exact fun v F' H' φ' U st rp ow dj' => q v F' H' φ' U (st1.trans st) rp ow dj'
      | ex xc Γ' => exact fun cls dd F' H' φ' U st rp xr dj' => q cls dd F' H' φ' U (st1.trans st) rp xr dj'
/-- methods of an own class -/
structure Mte (P : Program) (w : World) (K : PySem.W.Frag) (mg : Str → Option Value) (base : Heap) (c m : Str) (k : Nat) (ps : List Str) (ms : List Nat) (fn : List D → Option FR) : Prop where
  ex : ∃ Ca f fd, mg c = some (.ref Ca) ∧ Cls K Ca ∧ Meth K Ca m f ∧ FnOk P w K mg base (L2.CX P w) k f fd ps (spD ⟨K, mg⟩ ms fn) ∧ Binds K fd ps []
def tMethS (C : Addr) (m : Str) (sp : Sp) (E : St → XK) (ta : TE) (t : TA) : TE := fun σ H Q => ta σ H fun x H1 => ∃ a dx fs, x = .ref a ∧ H1 a = some (.ins C dx fs) ∧ fs.lookup m = none ∧
  t σ H1 fun vs H2 => sp (x :: vs) H2 Q (E σ)
theorem pe_methS1 {CX : CXT} {C f : Addr} {k : Nat} {fd : FuncData} {ps : List Str} {sp : Sp} {E : L2.St → XK} {m : Str} {apos pos : Pos} {o e : Expr} {es : List Expr} {ta : TE} {t : TA} {pl : Sem Bool} (he : PE X o ta) (c : Cls X.K C) (hm : Meth X.K C m f) (F : FnOk X.prog X.w X.K X.mg X.base CX k f fd ps sp) (hr : Room k X.A) (hb : Binds X.K fd ps []) (hx : ∀ σ, PassesAt CX X σ (E σ)) (ha : PA X (e :: es) t)
    (hst : starEach (e :: es) X.env = (false, eval e X.env) :: starEach es X.env := by rfl) (hpl : (backTo pos (starEach es X.env)).any (·.1) = false := by rfl)
    (ht : eval (.Call (.Attribute o m apos) (e :: es) [] pos) X.env = (do
      let ov ← eval o X.env
      standAt apos.atName
      let (f, first) ← holding [ov] (getMethod ov m pl)
      callWith pos f first (backTo pos (starEach (e :: es) X.env)) (backToKw pos (keywordEach [] X.env))) := by rfl) :
    PE X (.Call (.Attribute o m apos) (e :: es) [] pos) (tMethS C m sp E ta t) := by
  refine ⟨fun pins s σ H Q I h => ?_⟩
  refine PySem.W.methodCall_KW (pl := pl) (thn (he.run pins s σ H _ I h) fun u s1 ⟨x, H1, I1, rx, a, dx, fs, ex, ea, l, q⟩ => ?_) ht
  subst ex
  obtain rfl : u = Value.ref a := rx
  refine getmeth_ok I1 ea c hm l ?_
  refine PySem.W.callWith_K (first := [.ref a]) (h₀ := X.base) I.ok.mod.kin hm.kp (thn (ha.run pos pins s1 σ H1 _ I1 q) fun us s2 ⟨vs, H2, I2, r, q2⟩ => ⟨I2.kIn, ?_⟩) hst hpl
  exact run_fnS (us := .ref a :: us) (vs := .ref a :: vs) F hr hb (hx σ) I2 (.cons rfl r) q2
theorem pe_methS0 {CX : CXT} {C f : Addr} {k : Nat} {fd : FuncData} {ps : List Str} {sp : Sp} {E : L2.St → XK} {m : Str} {apos pos : Pos} {o : Expr} {ta : TE} {pl : Sem Bool} (he : PE X o ta) (c : Cls X.K C) (hm : Meth X.K C m f) (F : FnOk X.prog X.w X.K X.mg X.base CX k f fd ps sp) (hr : Room k X.A) (hb : Binds X.K fd ps []) (hx : ∀ σ, PassesAt CX X σ (E σ))
    (ht : eval (.Call (.Attribute o m apos) [] [] pos) X.env = (do
      let ov ← eval o X.env
      standAt apos.atName
      let (f, first) ← holding [ov] (getMethod ov m pl)
      callWith pos f first (backTo pos (starEach [] X.env)) (backToKw pos (keywordEach [] X.env))) := by rfl) :
    PE X (.Call (.Attribute o m apos) [] [] pos) (tMethS C m sp E ta tNil) := by
  refine ⟨fun pins s σ H Q I h => ?_⟩
  refine PySem.W.methodCall_KW (pl := pl) (thn (he.run pins s σ H _ I h) fun u s1 ⟨x, H1, I1, rx, a, dx, fs, ex, ea, l, q⟩ => ?_) ht
  subst ex
  obtain rfl : u = Value.ref a := rx
  refine getmeth_ok I1 ea c hm l ?_
  exact PySem.W.callWith_K0 (first := [.ref a]) I1.kIn hm.kp (run_fnS (us := [.ref a]) (vs := [.ref a]) F hr hb (hx σ) I1 (.cons rfl .nil) q)
def avInsOf (Γ : Gm) (c m : Str) (av : AV) : Bool := match avD Γ av with
    | some (.nd _ (.ins c' ns) _) => decide (c' = c) && decide (m ∉ ns)
    | _ => false
  where avD (Γ : Gm) : AV → Option D
    | .val d => some d
    | .slot i => Γ[i]?.join
/-- o.m(..): the receiver is of class c -/
def lMeth (c m : Str) (fn : List D → Option FR) (ms : List Nat) (fo : Gm → Option (Oc AV)) (fa : Gm → Option (Oc (List AV))) : Gm → Option (Oc D) := fun Γ => Oc.bind (fo Γ) fun av Γ1 =>
  if avInsOf Γ1 c m av = true then Oc.bind (fa Γ1) fun avs Γ2 => callF fn ms (av :: avs) Γ2 else none
theorem nd_ins {C : Cn} {F H : Hp} {v : V} {f : Fg} {c m : Str} {ns : List Str} {ds : List D} {S : List Addr} {Ca : Addr} (sm : Same F H) (st : Same C.T H) (hc : C.mg c = some (.ref Ca)) (hm : m ∉ ns) (o : Own C F H v (.nd f (.ins c ns) ds) S) :
    ∃ a dx fs, v = .ref a ∧ H a = some (.ins Ca dx fs) ∧ fs.lookup m = none := by
  obtain ⟨a, vs, U', rfl, ⟨Ca', dx, fs, m', e, h1, h2⟩, os, hu⟩ := own_nd sm st o
  rw [hc] at m'; cases m'
  refine ⟨a, dx, fs, rfl, e, ?_⟩
  subst h1
  rw [fs_lookup]
  cases q : valV fs m with
  | none => rfl
  | some v =>
    unfold valV at q
    cases q2 : fs.find? fun kv => decide (kv.1 = m) with
    | none => rw [q2] at q; cases q
    | some p =>
      have h3 := List.find?_some q2
      have h4 := List.mem_of_find?_eq_some q2
      simp at h3
      exact absurd (List.mem_map.mpr ⟨p, h4, h3⟩) hm
theorem meth_imp {c m : Str} {k : Nat} {ps : List Str} {ms : List Nat} {fn : List D → Option FR} {fo : Gm → Option (Oc AV)} {fa : Gm → Option (Oc (List AV))} {Ca : Addr} (hc : X.mg c = some (.ref Ca)) (hms : ms.Nodup) (σ : L2.St) (H : Hp) (Q : VK) (h : tL (Cx.cn X) W (lMeth c m fn ms fo fa) σ H Q) :
    tMethS Ca m (spD (Cx.cn X) ms fn) (WE W) (tLV (Cx.cn X) W fo) (tLA (Cx.cn X) W fa) σ H Q := by
  obtain ⟨T, F, Γ, φ, o, r, e, q⟩ := h
  unfold lMeth at e
  cases ho : fo Γ with
  | none => rw [ho] at e; cases e
  | some oc =>
    rw [ho] at e
    cases oc with
    | ex xc Γ' => cases e; exact ⟨T, F, Γ, φ, _, r, ho, q⟩
    | ok av Γ1 =>
      simp only [Oc.bind] at e
      split at e
      case isFalse => cases e
      rename_i hi
      refine ⟨T, F, Γ, φ, _, r, ho, fun v F1 H1 φ1 U st1 r1 ow dj => ?_⟩
      have hins : ∃ a dx fs, v = .ref a ∧ H1 a = some (.ins Ca dx fs) ∧ fs.lookup m = none := by
        unfold avInsOf at hi
        split at hi
        · rename_i f c' ns ds hd
          simp at hi
          obtain ⟨rfl, hm⟩ := hi
          cases av with
          | val d =>
            simp only [avInsOf.avD] at hd
            cases hd
            exact nd_ins r1.le r1.leT hc hm ow
          | slot i =>
            simp only [avInsOf.avD] at hd
            have e' : Γ1[i]? = some (some (.nd f (.ins c' ns) ds)) := by
              cases h : Γ1[i]? with
              | none => rw [h] at hd; cases hd
              | some o => rw [h] at hd; simp at hd; rw [hd]
            obtain ⟨v', h1, h2⟩ := r1.get i _ e'
            rw [ow.1] at h1; cases h1
            exact nd_ins r1.le r1.leT hc hm h2
        · cases hi
      obtain ⟨a, dx, fs, hv, hH, hl⟩ := hins
      refine ⟨a, dx, fs, hv, hH, hl, ?_⟩
      cases ho2 : fa Γ1 with
      | none => rw [ho2] at e; cases e
      | some oc2 =>
        rw [ho2] at e
        cases oc2 with
        | ex xc Γ' =>
          cases e
          exact ⟨T, F1, Γ1, φ1, _, r1, ho2, fun cls dd F2 H2 φ2 U2 st2 r2 xr dj2 => q cls dd F2 H2 φ2 U2 ((st1.imp (fun _ h => h) fun x h => .inl (.inl h)).trans st2) r2 xr dj2⟩
        | ok avs Γ2 =>
          simp only at e
          refine ⟨T, F1, Γ1, φ1, _, r1, ho2, fun vs F2 H2 φ2 τ st2 r2 as dj2 => ?_⟩
          have al : ∀ x ∈ U, ∃ o, H1 x = some o := fun x hx => by
            cases av with
            | val d => exact ((show Own ⟨Cx.cn X, T⟩ F1 H1 v d U from ow).alive x hx).2.2
            | slot i => rw [ow.2] at hx; cases hx
          have dU : ∀ x ∈ U, ¬ (φ2.at x ∨ τ.at x) := st2.dis al dj
          have st2' : Step ⟨Cx.cn X, T⟩ F1 H1 (fun x => φ1.at x ∨ x ∈ U) F2 H2 (fun x => (φ2.at x ∨ τ.at x) ∨ x ∈ U) := st2.wide (fun x => x ∈ U)
          have as' : AVs ⟨Cx.cn X, T⟩ F2 H2 σ (v :: vs) (av :: avs) (fun j => match j with | 0 => U | j + 1 => τ j) := by
            refine ⟨by simp [as.len], fun j d hj => ?_, fun j i hj => ?_, fun i j a h1 h2 => ?_, fun j hj => ?_⟩
            · cases j with
              | zero =>
                simp at hj; subst hj
                exact ⟨v, rfl, (show Own ⟨Cx.cn X, T⟩ F1 H1 v d U from ow).step st2 dj⟩
              | succ j => simpa using as.val j d (by simpa using hj)
            · cases j with
              | zero =>
                simp at hj; subst hj
                exact ⟨v, rfl, ow.1, ow.2⟩
              | succ j => simpa using as.slot j i (by simpa using hj)
            · cases i with
              | zero => cases j with
                | zero => rfl
                | succ j => exact absurd (.inr ⟨j, h2⟩) (dU a h1)
              | succ i => cases j with
                | zero => exact absurd (.inr ⟨i, h1⟩) (dU a h2)
                | succ j => rw [as.dis i j a h1 h2]
            · cases j with
              | zero => cases av with
                | val d => exact ⟨d, rfl⟩
                | slot i => exact absurd ow.2 hj
              | succ j => simpa using as.emp j hj
          refine call_run (Q := Q) hms r2 as' (fun x ⟨j, hj⟩ hx => ?_) e ?_
          · cases j with
            | zero => exact dU x hj (.inl hx)
            | succ j => exact dj2 x ⟨j, hj⟩ hx
          · have stt := (st1.trans st2').imp (S1 := φ.at) (S2 := fun x => φ2.at x ∨ Fp.at (fun j => match j with | 0 => U | j + 1 => τ j) x) (fun _ h => h) fun x h => by
              rcases h with h | ⟨j, hj⟩
              · exact .inl (.inl (.inl h))
              · cases j with
                | zero => exact .inl (.inr hj)
                | succ j => exact .inl (.inl (.inr ⟨j, hj⟩))
            cases o with
            | ok d Γ' => exact fun v F' H' φ' U st rp ow dj' => q v F' H' φ' U (stt.trans st) rp ow dj'
            | ex xc Γ' => exact fun cls dd F' H' φ' U st rp xr dj' => q cls dd F' H' φ' U (stt.trans st) rp xr dj'
theorem pl_meth {c m : Str} {k : Nat} {ps : List Str} {ms : List Nat} {fn : List D → Option FR} {apos pos : Pos} {o e : Expr} {es : List Expr} {fo : Gm → Option (Oc AV)} {fa : Gm → Option (Oc (List AV))} {pl : Sem Bool} (T : Mte X.prog X.w X.K X.mg X.base c m k ps ms fn) (hr : Room k X.A) (tk : Takes X W) (hms : ms.Nodup) (ho : PLV X W o fo) (ha : PLA X W (e :: es) fa)
    (hst : starEach (e :: es) X.env = (false, eval e X.env) :: starEach es X.env := by rfl) (hpl : (backTo pos (starEach es X.env)).any (·.1) = false := by rfl)
    (ht : eval (.Call (.Attribute o m apos) (e :: es) [] pos) X.env = (do
      let ov ← eval o X.env
      standAt apos.atName
      let (f, first) ← holding [ov] (getMethod ov m pl)
      callWith pos f first (backTo pos (starEach (e :: es) X.env)) (backToKw pos (keywordEach [] X.env))) := by rfl) :
    PL X W (.Call (.Attribute o m apos) (e :: es) [] pos) (lMeth c m fn ms fo fa) := by
  obtain ⟨Ca, f, fd, hc, cl, hm, ok, b⟩ := T.ex
  exact pe_imp (pe_methS1 (E := WE W) (pl := pl) ho cl hm ok hr b (fun σ => passAt tk σ) ha hst hpl ht) fun σ H Q h => meth_imp (k := k) (ps := ps) hc hms σ H Q h
theorem pl_meth0 {c m : Str} {k : Nat} {ps : List Str} {ms : List Nat} {fn : List D → Option FR} {apos pos : Pos} {o : Expr} {fo : Gm → Option (Oc AV)} {pl : Sem Bool} (T : Mte X.prog X.w X.K X.mg X.base c m k ps ms fn) (hr : Room k X.A) (tk : Takes X W) (hms : ms.Nodup) (ho : PLV X W o fo)
    (ht : eval (.Call (.Attribute o m apos) [] [] pos) X.env = (do
      let ov ← eval o X.env
      standAt apos.atName
      let (f, first) ← holding [ov] (getMethod ov m pl)
      callWith pos f first (backTo pos (starEach [] X.env)) (backToKw pos (keywordEach [] X.env))) := by rfl) :
    PL X W (.Call (.Attribute o m apos) [] [] pos) (lMeth c m fn ms fo aNil) := by
  obtain ⟨Ca, f, fd, hc, cl, hm, ok, b⟩ := T.ex
  refine pe_imp (pe_methS0 (E := WE W) (pl := pl) ho cl hm ok hr b (fun σ => passAt tk σ) ht) fun σ H Q h => ?_
  obtain ⟨T, F, Γ, φ, o, r, e, q⟩ := meth_imp (k := k) (ps := ps) hc hms σ H Q h
  refine ⟨T, F, Γ, φ, o, r, e, ?_⟩
  cases o with
  | ex xc Γ' => exact q
  | ok av Γ' =>
    intro v F' H' φ' U st rp ow dj
    obtain ⟨a, dx, fs, h1, h2, h3, T2, F2, Γ2, φ2, o2, r2, e2, q2⟩ := q v F' H' φ' U st rp ow dj
    cases e2
    exact ⟨a, dx, fs, h1, h2, h3, q2 [] F2 H' φ2 (fun _ => []) ((Step.refl (S := φ2.at) r2.le r2.leT).imp (fun _ h => h) fun x h => h.elim .inl fun ⟨_, z⟩ => nomatch z) r2 ⟨rfl, fun j d h => by simp at h, fun j d h => by simp at h, (fun _ _ _ z => nomatch z), fun _ z => absurd rfl z⟩ fun x ⟨_, z⟩ => nomatch z⟩
end
end SK

namespace SK
open PySem PySem.Spec L2
open PyProof.Rows (envOfC)

theorem Pin.refl (ms : List Nat) (σ : L2.St) : Pin ms σ σ := fun _ _ => rfl
theorem Pin.trans {ms : List Nat} {a b c : L2.St} (h : Pin ms a b) (h' : Pin ms b c) : Pin ms a c := fun i hi => (h' i hi).trans (h i hi)
theorem Pin.set {ms : List Nat} {σ : L2.St} {i : Nat} {z : Option V} (h : i ∉ ms) : Pin ms σ (σ.set i z) := fun j hj => List.getElem?_set_ne (fun e => h (by rw [e]; exact hj))
theorem Rep.none_at {C : Cn} {F H : Hp} {σ : L2.St} {Γ : Gm} {φ : Fp} (r : Rep C F H σ Γ φ) {i : Nat} {d : D} (h : Γ[i]?.join = some d) : Γ[i]? = some (some d) := by
  cases q : Γ[i]? with
  | none => rw [q] at h; cases h
  | some o => rw [q] at h; simp at h; rw [h]
section
variable {X : Cx} {W : WX} {ms : List Nat}
abbrev G := Gm → Option (Oc Fw)
/-! ### blocks -/
def gNil : G := fun Γ => some (.ok .nx Γ)
def gThen (f g : G) : G := fun Γ => match f Γ with
  | some (.ok .nx Γ') => g Γ'
  | o => o
theorem st_refl {C : Cn} {F H : Hp} {σ : L2.St} {Γ : Gm} {φ : Fp} (r : Rep C F H σ Γ φ) : Step C F H φ.at F H φ.at := Step.refl r.le r.leT
theorem pb_nil : PBs X W ms [] gNil := pss_imp pss_nil fun E σ H ⟨T, F, Γ, φ, o, r, e, q⟩ => by
  cases e
  exact q σ F H φ (Pin.refl _ _) (st_refl r) r
theorem pb_cons {s : Stmt} {ss : List Stmt} {f g : G} (h : PB X W ms s f) (hs : PBs X W ms ss g) : PBs X W ms (s :: ss) (gThen f g) := pss_imp (pss_cons h hs) fun E σ H ⟨T, F, Γ, φ, o, r, e, q⟩ => by
  unfold gThen at e
  cases ho : f Γ with
  | none => rw [ho] at e; cases e
  | some oc =>
    rw [ho] at e
    refine ⟨T, F, Γ, φ, oc, r, ho, ?_⟩
    cases oc with
    | ex x Γ' => cases e; exact q
    | ok fw Γ' => cases fw with
      | rt d => cases e; exact q
      | bk => cases e; exact q
      | ct => cases e; exact q
      | nx =>
        intro σ1 F1 H1 φ1 p1 s1 r1
        refine ⟨T, F1, Γ', φ1, o, r1, e, ?_⟩
        cases o with
        | ex x Γ2 => exact fun cls dd σ2 F2 H2 φ2 U p2 s2 r2 xr dj => q cls dd σ2 F2 H2 φ2 U (p1.trans p2) (s1.trans s2) r2 xr dj
        | ok fw2 Γ2 => cases fw2 with
          | rt d => exact fun v σ2 F2 H2 φ2 U p2 s2 r2 ow dj => q v σ2 F2 H2 φ2 U (p1.trans p2) (s1.trans s2) r2 ow dj
          | nx => exact fun σ2 F2 H2 φ2 p2 s2 r2 => q σ2 F2 H2 φ2 (p1.trans p2) (s1.trans s2) r2
          | bk => exact fun σ2 F2 H2 φ2 p2 s2 r2 => q σ2 F2 H2 φ2 (p1.trans p2) (s1.trans s2) r2
          | ct => exact fun σ2 F2 H2 φ2 p2 s2 r2 => q σ2 F2 H2 φ2 (p1.trans p2) (s1.trans s2) r2
theorem pb_one {s : Stmt} {f : G} (h : PB X W ms s f) : PBs X W ms [s] f := pss_one h
theorem pb_pass {pos : Pos} : PB X W ms (.Pass pos) gNil := ps_imp ps_pass fun E σ H ⟨T, F, Γ, φ, o, r, e, q⟩ => by
  cases e
  exact q σ F H φ (Pin.refl _ _) (st_refl r) r
def gBk : G := fun Γ => some (.ok .bk Γ)
def gCt : G := fun Γ => some (.ok .ct Γ)
theorem pb_break {pos : Pos} : PB X W ms (.Break pos) gBk := ps_imp ps_break fun E σ H ⟨T, F, Γ, φ, o, r, e, q⟩ => by
  cases e
  exact q σ F H φ (Pin.refl _ _) (st_refl r) r
theorem pb_continue {pos : Pos} : PB X W ms (.Continue pos) gCt := ps_imp ps_continue fun E σ H ⟨T, F, Γ, φ, o, r, e, q⟩ => by
  cases e
  exact q σ F H φ (Pin.refl _ _) (st_refl r) r
/-! ### a name moved out of its slot -/
def lM (i : Nat) : Gm → Option (Oc D) := fun Γ => (Γ[i]?.join).map fun d => .ok d (Γ.set i none)
theorem pl_m (i : Nat) {x : Str} {pos : Pos} (hN : X.N[i]? = some x := by rfl) (hv : Vis X.env.scope x := by first | exact Or.inl rfl | exact Or.inr (Or.inl rfl) | exact Or.inr (Or.inr rfl)) (hd : (x == ("__debug__" : Str)) = false := by decide)
    (hcd : (x == ("__classdict__" : Str)) = false := by decide) : PL X W (.Name x pos) (lM i) := pe_imp (pe_var hN hv hd hcd) fun σ H Q ⟨T, F, Γ, φ, o, r, e, q⟩ => by
  obtain ⟨d, ed, rfl⟩ := map_some e
  obtain ⟨v, h1, h2⟩ := r.get i d (r.none_at ed)
  refine ⟨v, h1, q v F H _ (φ i) ((st_refl r).imp (fun _ h => h) fun x h => .inl ?_) (r.gone (i := i)) h2 fun x hx ⟨j, hj⟩ => ?_⟩
  · rcases h with ⟨j, hj⟩ | h
    · by_cases hji : j = i
      · simp [hji] at hj
      · simp only [hji, if_false] at hj; exact ⟨j, hj⟩
    · exact ⟨i, h⟩
  · by_cases hji : j = i
    · simp [hji] at hj
    · simp only [hji, if_false] at hj
      exact hji (r.dis j i x hj hx)
/-! ### return, expressions -/
def gRet (f : Gm → Option (Oc D)) : G := fun Γ => Oc.bind (f Γ) fun d Γ' => some (.ok (.rt d) Γ')
theorem pb_ret {e : Expr} {pos : Pos} {f : Gm → Option (Oc D)} (h : PL X W e f) : PB X W ms (.Return (some e) pos) (gRet f) := ps_imp (ps_ret h) fun E σ H ⟨T, F, Γ, φ, o, r, e, q⟩ => by
  unfold gRet at e
  cases ho : f Γ with
  | none => rw [ho] at e; cases e
  | some oc =>
    rw [ho] at e
    cases oc with
    | ex x Γ' => cases e; exact ⟨T, F, Γ, φ, _, r, ho, fun cls dd F' H' φ' U st rp xr dj => q cls dd σ F' H' φ' U (Pin.refl _ _) st rp xr dj⟩
    | ok d Γ' => cases e; exact ⟨T, F, Γ, φ, _, r, ho, fun v F' H' φ' U st rp ow dj => q v σ F' H' φ' U (Pin.refl _ _) st rp ow dj⟩
def gRetN : G := fun Γ => some (.ok (.rt .non) Γ)
theorem pb_retN {pos : Pos} : PB X W ms (.Return none pos) gRetN := ps_imp ps_retN fun E σ H ⟨T, F, Γ, φ, o, r, e, q⟩ => by
  cases e
  exact q .non σ F H φ [] (Pin.refl _ _) ((st_refl r).imp (fun _ h => h) fun x h => h.elim .inl fun z => nomatch z) r .non fun _ z => nomatch z
def gDrop (f : Gm → Option (Oc D)) : G := fun Γ => Oc.bind (f Γ) fun _ Γ' => some (.ok .nx Γ')
theorem pb_expr {e : Expr} {pos : Pos} {f : Gm → Option (Oc D)} (h : PL X W e f) (hs : swapsWith e none pos.line X.env = pure false := by rfl) : PB X W ms (.Expr e pos) (gDrop f) := ps_imp (ps_expr h hs) fun E σ H ⟨T, F, Γ, φ, o, r, e, q⟩ => by
  unfold gDrop at e
  cases ho : f Γ with
  | none => rw [ho] at e; cases e
  | some oc =>
    rw [ho] at e
    cases oc with
    | ex x Γ' => cases e; exact ⟨T, F, Γ, φ, _, r, ho, fun cls dd F' H' φ' U st rp xr dj => q cls dd σ F' H' φ' U (Pin.refl _ _) st rp xr dj⟩
    | ok d Γ' => cases e; exact ⟨T, F, Γ, φ, _, r, ho, fun v F' H' φ' U st rp ow dj => q σ F' H' φ' (Pin.refl _ _) (st.imp (fun _ h => h) fun x h => .inl (.inl h)) rp⟩
/-! ### tests -/
abbrev PLW (X : Cx) (W : WX) (e : Expr) (f : Gm → Option (Oc Bool)) : Prop := PW X e (tLT (Cx.cn X) W f)
def ltQ (f : Gm → Option Bool) : Gm → Option (Oc Bool) := fun Γ => (f Γ).map fun b => .ok b Γ
theorem plt_q {e : Expr} {f : Gm → Option Bool} (h : PQT X e f) : PLT X W e (ltQ f) := pt_imp h fun σ H Q ⟨T, F, Γ, φ, o, r, e, q⟩ => by
  obtain ⟨b, eb, rfl⟩ := map_some e
  exact ⟨T, F, Γ, φ, b, r, eb, fun F1 H1 g1 => q F1 H1 φ (g1.step fun x h => h) (r.grow g1)⟩
def ltV (f : Gm → Option (Oc D)) : Gm → Option (Oc Bool) := fun Γ => Oc.bind (f Γ) fun d Γ' => (asBl d).map fun b => .ok b Γ'
theorem plt_v {e : Expr} {f : Gm → Option (Oc D)} (h : PL X W e f) (he : ∀ whole, isTrue e X.env whole = (do let v ← whole; standAt e.pos; holding [v] (truthy v)) := by intro _; rfl) : PLT X W e (ltV f) :=
  pt_imp (pt_val h he) fun σ H Q ⟨T, F, Γ, φ, o, r, e, q⟩ => by
    unfold ltV at e
    cases ho : f Γ with
    | none => rw [ho] at e; cases e
    | some oc =>
      rw [ho] at e
      cases oc with
      | ex x Γ' => cases e; exact ⟨T, F, Γ, φ, _, r, ho, q⟩
      | ok d Γ' =>
        simp only [Oc.bind] at e
        obtain ⟨b, eb, rfl⟩ := map_some e
        cases d <;> simp only [asBl] at eb <;> cases eb
        refine ⟨T, F, Γ, φ, _, r, ho, fun v F' H' φ' U st rp ow dj => ⟨_, (own_bl ow).1, q F' H' φ' (st.imp (fun _ h => h) fun x h => .inl (.inl h)) rp⟩⟩
def ltNot (f : Gm → Option (Oc Bool)) : Gm → Option (Oc Bool) := fun Γ => Oc.bind (f Γ) fun b Γ' => some (.ok (!b) Γ')
theorem plt_not {e : Expr} {pos : Pos} {f : Gm → Option (Oc Bool)} (h : PLT X W e f) : PLT X W (.UnaryOp .Not e pos) (ltNot f) := pt_imp (pt_not h) fun σ H Q ⟨T, F, Γ, φ, o, r, e, q⟩ => by
  unfold ltNot at e
  cases ho : f Γ with
  | none => rw [ho] at e; cases e
  | some oc =>
    rw [ho] at e
    cases oc with
    | ex x Γ' => cases e; exact ⟨T, F, Γ, φ, _, r, ho, q⟩
    | ok b Γ' => cases e; exact ⟨T, F, Γ, φ, _, r, ho, fun F' H' φ' st rp => q F' H' φ' st rp⟩
def ltAnd (f g : Gm → Option (Oc Bool)) : Gm → Option (Oc Bool) := fun Γ => Oc.bind (f Γ) fun b Γ' => if b = true then g Γ' else some (.ok false Γ')
def ltOr (f g : Gm → Option (Oc Bool)) : Gm → Option (Oc Bool) := fun Γ => Oc.bind (f Γ) fun b Γ' => if b = true then some (.ok true Γ') else g Γ'
theorem plw_and1 {a : Expr} {pos : Pos} {f : Gm → Option (Oc Bool)} (h : PLT X W a f) : PLW X W (.BoolOp .And [a] pos) f := pw_and1 h
theorem plw_or1 {a : Expr} {pos : Pos} {f : Gm → Option (Oc Bool)} (h : PLT X W a f) : PLW X W (.BoolOp .Or [a] pos) f := pw_or1 h
theorem plw_and {a b : Expr} {rest : List Expr} {pos : Pos} {f g : Gm → Option (Oc Bool)} (h : PLT X W a f) (h2 : PLW X W (.BoolOp .And (b :: rest) pos) g) : PLW X W (.BoolOp .And (a :: b :: rest) pos) (ltAnd f g) :=
  pw_imp (pw_and h h2) fun σ H Q ⟨T, F, Γ, φ, o, r, e, q⟩ => by
    unfold ltAnd at e
    cases ho : f Γ with
    | none => rw [ho] at e; cases e
    | some oc =>
      rw [ho] at e
      cases oc with
      | ex x Γ' => cases e; exact ⟨T, F, Γ, φ, _, r, ho, q⟩
      | ok b Γ' =>
        refine ⟨T, F, Γ, φ, _, r, ho, fun F1 H1 φ1 st rp => ?_⟩
        cases b with
        | false => cases e; exact q F1 H1 φ1 st rp
        | true =>
          refine ⟨T, F1, Γ', φ1, o, rp, e, ?_⟩
          cases o with
          | ok b Γ2 => exact fun F2 H2 φ2 st2 rp2 => q F2 H2 φ2 (st.trans st2) rp2
          | ex x Γ2 => exact fun cls dd F2 H2 φ2 U st2 rp2 xr dj => q cls dd F2 H2 φ2 U (st.trans st2) rp2 xr dj
theorem plw_or {a b : Expr} {rest : List Expr} {pos : Pos} {f g : Gm → Option (Oc Bool)} (h : PLT X W a f) (h2 : PLW X W (.BoolOp .Or (b :: rest) pos) g) : PLW X W (.BoolOp .Or (a :: b :: rest) pos) (ltOr f g) :=
  pw_imp (pw_or h h2) fun σ H Q ⟨T, F, Γ, φ, o, r, e, q⟩ => by
    unfold ltOr at e
    cases ho : f Γ with
    | none => rw [ho] at e; cases e
    | some oc =>
      rw [ho] at e
      cases oc with
      | ex x Γ' => cases e; exact ⟨T, F, Γ, φ, _, r, ho, q⟩
      | ok b Γ' =>
        refine ⟨T, F, Γ, φ, _, r, ho, fun F1 H1 φ1 st rp => ?_⟩
        cases b with
        | true => cases e; exact q F1 H1 φ1 st rp
        | false =>
          refine ⟨T, F1, Γ', φ1, o, rp, e, ?_⟩
          cases o with
          | ok b Γ2 => exact fun F2 H2 φ2 st2 rp2 => q F2 H2 φ2 (st.trans st2) rp2
          | ex x Γ2 => exact fun cls dd F2 H2 φ2 U st2 rp2 xr dj => q cls dd F2 H2 φ2 U (st.trans st2) rp2 xr dj
/-! ### if -/
def gIf (c : Gm → Option (Oc Bool)) (t u : G) : G := fun Γ => Oc.bind (c Γ) fun b Γ' => if b = true then t Γ' else u Γ'
theorem tS_step {B : Cb} {T F H F1 H1 : Hp} {σ σ1 : L2.St} {Γ1 : Gm} {φ φ1 : Fp} {E : Ends} {o : Oc Fw} {g : G} (p : Pin ms σ σ1) (st : Step ⟨B, T⟩ F H φ.at F1 H1 φ1.at) (rp : Rep ⟨B, T⟩ F1 H1 σ1 Γ1 φ1) (e : g Γ1 = some o)
    (q : tPost B T W ms E σ F H φ o) : tS B W ms g E σ1 H1 := by
  refine ⟨T, F1, Γ1, φ1, o, rp, e, ?_⟩
  cases o with
  | ex x Γ2 => exact fun cls dd σ2 F2 H2 φ2 U p2 s2 r2 xr dj => q cls dd σ2 F2 H2 φ2 U (p.trans p2) (st.trans s2) r2 xr dj
  | ok fw2 Γ2 => cases fw2 with
    | rt d => exact fun v σ2 F2 H2 φ2 U p2 s2 r2 ow dj => q v σ2 F2 H2 φ2 U (p.trans p2) (st.trans s2) r2 ow dj
    | nx => exact fun σ2 F2 H2 φ2 p2 s2 r2 => q σ2 F2 H2 φ2 (p.trans p2) (st.trans s2) r2
    | bk => exact fun σ2 F2 H2 φ2 p2 s2 r2 => q σ2 F2 H2 φ2 (p.trans p2) (st.trans s2) r2
    | ct => exact fun σ2 F2 H2 φ2 p2 s2 r2 => q σ2 F2 H2 φ2 (p.trans p2) (st.trans s2) r2
theorem pb_if {c : Expr} {a b : List Stmt} {pos : Pos} {fc : Gm → Option (Oc Bool)} {t u : G} (hc : PLT X W c fc) (ha : PBs X W ms a t) (hb : PBs X W ms b u) : PB X W ms (.If c a b pos) (gIf fc t u) := ps_imp (ps_if hc ha hb) fun E σ H ⟨T, F, Γ, φ, o, r, e, q⟩ => by
  unfold gIf at e
  cases ho : fc Γ with
  | none => rw [ho] at e; cases e
  | some oc =>
    rw [ho] at e
    cases oc with
    | ex x Γ' => cases e; exact ⟨T, F, Γ, φ, _, r, ho, fun cls dd F' H' φ' U st rp xr dj => q cls dd σ F' H' φ' U (Pin.refl _ _) st rp xr dj⟩
    | ok b Γ' =>
      refine ⟨T, F, Γ, φ, _, r, ho, fun F1 H1 φ1 st rp => ?_⟩
      cases b with
      | true => exact tS_step (Pin.refl _ _) st rp e q
      | false => exact tS_step (Pin.refl _ _) st rp e q
/-! ### names stored -/
def setG (i : Nat) (d : D) (Γ : Gm) : Option Gm := if i < Γ.length then some (Γ.set i (some d)) else none
def gSet (i : Nat) (f : Gm → Option (Oc D)) : G := fun Γ => Oc.bind (f Γ) fun d Γ' => (setG i d Γ').map fun Γ2 => .ok .nx Γ2
/-- stored and seen for ever -/
def gSetF (i : Nat) (f : Gm → Option (Oc D)) : G := fun Γ => Oc.bind (f Γ) fun d Γ' => if d.noTm = true then (setG i d.shr Γ').map fun Γ2 => .ok .nx Γ2 else if d.hd = false then (setG i d Γ').map fun Γ2 => .ok .nx Γ2 else none
theorem setG_some {i : Nat} {d : D} {Γ Γ' : Gm} (h : setG i d Γ = some Γ') : i < Γ.length ∧ Γ' = Γ.set i (some d) := by
  unfold setG at h
  split at h
  · rename_i hi
    cases h; exact ⟨hi, rfl⟩
  · cases h
theorem Rep.set_at {C : Cn} {F H : Hp} {φ : Fp} {U : List Addr} {i : Nat} {x : Addr} (h : Fp.at (fun j => if j = i then U else φ j) x) : φ.at x ∨ x ∈ U := by
  obtain ⟨j, hj⟩ := h
  by_cases hji : j = i
  · simp only [hji, if_true] at hj; exact .inr hj
  · simp only [hji, if_false] at hj; exact .inl ⟨j, hj⟩
theorem pb_set {i : Nat} {x : Str} {e : Expr} {pos pos' : Pos} {f : Gm → Option (Oc D)} (hN : X.N.Nodup) (hi : X.N[i]? = some x) (hx : Loc X.env.scope x) (h : PL X W e f) (hni : i ∉ ms) (hs : swapsWith e (some (.Name x pos')) pos.line X.env = pure false := by rfl)
    (hf : X.fn x = true ∨ X.env.scope.names.lookup x = some .local := by first | exact .inl rfl | exact .inr rfl | assumption) : PB X W ms (.Assign [.Name x pos'] e pos) (gSet i f) := ps_imp (ps_set hN hi hx h hs hf) fun E σ H ⟨T, F, Γ, φ, o, r, e, q⟩ => by
  unfold gSet at e
  cases ho : f Γ with
  | none => rw [ho] at e; cases e
  | some oc =>
    rw [ho] at e
    cases oc with
    | ex x Γ' => cases e; exact ⟨T, F, Γ, φ, _, r, ho, fun cls dd F' H' φ' U st rp xr dj => q cls dd σ F' H' φ' U (Pin.refl _ _) st rp xr dj⟩
    | ok d Γ' =>
      simp only [Oc.bind] at e
      obtain ⟨Γ2, e2, rfl⟩ := map_some e
      obtain ⟨hlt, rfl⟩ := setG_some e2
      refine ⟨T, F, Γ, φ, _, r, ho, fun v F' H' φ' U st rp ow dj => ?_⟩
      exact q (σ.set i (some v)) F' H' _ (Pin.set hni) (st.imp (fun _ h => h) fun x h => .inl (Rep.set_at (C := ⟨Cx.cn X, T⟩) (F := F') (H := H') h)) (rp.set hlt ow dj)
theorem Step.frz {C : Cn} {F H F' H' : Hp} {U : List Addr} {S S' : Addr → Prop} (st : Step C F H S F' H' (fun x => S' x ∨ x ∈ U)) : Step C F H S (frz F' H' U) H' S' := by
  refine ⟨st.le.trans frz_le, frz_in st.le', st.leT, st.keep, st.dom, fun a o e => ?_, fun a h => st.newS a (.inl h)⟩
  by_cases ha : a ∈ U
  · rcases st.newS a (.inr ha) with z | z
    · exact .inr (.inr z)
    · exact .inr (.inl z)
  · rw [frz_out ha] at e
    exact st.newF a o e
theorem Rep.frz {C : Cn} {F H : Hp} {σ : L2.St} {Γ : Gm} {φ : Fp} {U : List Addr} (r : Rep C F H σ Γ φ) (dj : ∀ x ∈ U, ¬ φ.at x) : Rep C (frz F H U) H σ Γ φ :=
  { le := frz_in r.le, leT := r.leT, len := r.len, get := fun i d h => by
      obtain ⟨v, h1, h2⟩ := r.get i d h
      exact ⟨v, h1, h2.frame frz_le (fun _ _ => rfl) fun a ha => by rw [frz_out (fun hu => dj a hu ⟨i, ha⟩)]; exact (h2.alive a ha).1⟩
    dis := r.dis, emp := r.emp }
theorem pb_setF {i : Nat} {x : Str} {e : Expr} {pos pos' : Pos} {f : Gm → Option (Oc D)} (hN : X.N.Nodup) (hi : X.N[i]? = some x) (hx : Loc X.env.scope x) (h : PL X W e f) (hni : i ∉ ms) (hs : swapsWith e (some (.Name x pos')) pos.line X.env = pure false := by rfl)
    (hf : X.fn x = true ∨ X.env.scope.names.lookup x = some .local := by first | exact .inl rfl | exact .inr rfl | assumption) : PB X W ms (.Assign [.Name x pos'] e pos) (gSetF i f) := ps_imp (ps_set hN hi hx h hs hf) fun E σ H ⟨T, F, Γ, φ, o, r, e, q⟩ => by
  unfold gSetF at e
  cases ho : f Γ with
  | none => rw [ho] at e; cases e
  | some oc =>
    rw [ho] at e
    cases oc with
    | ex x Γ' => cases e; exact ⟨T, F, Γ, φ, _, r, ho, fun cls dd F' H' φ' U st rp xr dj => q cls dd σ F' H' φ' U (Pin.refl _ _) st rp xr dj⟩
    | ok d Γ' =>
      simp only [Oc.bind] at e
      split at e
      · rename_i nt
        obtain ⟨Γ2, e2, rfl⟩ := map_some e
        obtain ⟨hlt, rfl⟩ := setG_some e2
        refine ⟨T, F, Γ, φ, _, r, ho, fun v F' H' φ' U st rp ow dj => ?_⟩
        exact q (σ.set i (some v)) _ H' _ (Pin.set hni) (st.frz.imp (fun _ h => h) fun x h => .inl ((Rep.set_at (C := ⟨Cx.cn X, T⟩) (F := F') (H := H') (U := []) h).elim id fun z => by cases z)) ((rp.frz dj).set hlt (ow.freeze (fun _ h => h) nt) fun _ z => by cases z)
      · split at e
        · rename_i hh
          obtain ⟨Γ2, e2, rfl⟩ := map_some e
          obtain ⟨hlt, rfl⟩ := setG_some e2
          refine ⟨T, F, Γ, φ, _, r, ho, fun v F' H' φ' U st rp ow dj => ?_⟩
          exact q (σ.set i (some v)) F' H' _ (Pin.set hni) (st.imp (fun _ h => h) fun x h => .inl (Rep.set_at (C := ⟨Cx.cn X, T⟩) (F := F') (H := H') h)) (rp.set hlt ow dj)
        · cases e
/-! ### targets -/
def tG (B : Cb) (ms : List Nat) (h : D → Gm → Option Gm) : TG := fun v σ H Q => ∃ T F Γ φ d U Γ', Rep ⟨B, T⟩ F H σ Γ φ ∧ Own ⟨B, T⟩ F H v d U ∧ (∀ x ∈ U, ¬ φ.at x) ∧ h d Γ = some Γ' ∧
  ∀ σ' φ', Pin ms σ σ' → Rep ⟨B, T⟩ F H σ' Γ' φ' → (∀ x, φ'.at x → φ.at x ∨ x ∈ U) → Q σ' H
abbrev PTg (X : Cx) (ms : List Nat) (e : Expr) (h : D → Gm → Option Gm) : Prop := PG X e (tG (Cx.cn X) ms h)
theorem pg_imp {e : Expr} {t t' : TG} (h : PG X e t) (i : ∀ v σ H Q, t' v σ H Q → t v σ H Q) : PG X e t' := ⟨fun pins s σ H v u Q I r q => h.run pins s σ H v u Q I r (i v σ H Q q)⟩
theorem pgs_imp {e : List Expr} {t t' : TGs} (h : PGs X e t) (i : ∀ v σ H Q, t' v σ H Q → t v σ H Q) : PGs X e t' := ⟨fun pins s σ H v u Q I r q => h.run pins s σ H v u Q I r (i v σ H Q q)⟩
theorem ptg_name {i : Nat} {x : Str} {pos : Pos} (hN : X.N.Nodup) (hi : X.N[i]? = some x) (hx : Loc X.env.scope x) (hni : i ∉ ms) (hf : X.fn x = true ∨ X.env.scope.names.lookup x = some .local := by first | exact .inl rfl | exact .inr rfl | assumption) : PTg X ms (.Name x pos) (setG i) :=
  pg_imp (pg_name hN hi hx hf) fun v σ H Q ⟨T, F, Γ, φ, d, U, Γ', r, ow, dj, e, q⟩ => by
    obtain ⟨hlt, rfl⟩ := setG_some e
    exact q (σ.set i (some v)) _ (Pin.set hni) (r.set hlt ow dj) fun x h => Rep.set_at (C := ⟨Cx.cn X, T⟩) (F := F) (H := H) h
def tGs (B : Cb) (ms : List Nat) (h : List D → Gm → Option Gm) : TGs := fun vs σ H Q => ∃ T F Γ φ ds Γ', Rep ⟨B, T⟩ F H σ Γ φ ∧ Owns ⟨B, T⟩ F H vs ds [] ∧ h ds Γ = some Γ' ∧
  ∀ σ' φ', Pin ms σ σ' → Rep ⟨B, T⟩ F H σ' Γ' φ' → (∀ x, φ'.at x → φ.at x) → Q σ' H
abbrev PTgs (X : Cx) (ms : List Nat) (e : List Expr) (h : List D → Gm → Option Gm) : Prop := PGs X e (tGs (Cx.cn X) ms h)
def hNil : List D → Gm → Option Gm := fun ds Γ => match ds with
  | [] => some Γ
  | _ => none
def hCons (f : D → Gm → Option Gm) (g : List D → Gm → Option Gm) : List D → Gm → Option Gm := fun ds Γ => match ds with
  | d :: ds => (f d Γ).bind (g ds)
  | [] => none
theorem ptgs_nil : PTgs X ms [] hNil := pgs_imp pgs_nil fun vs σ H Q ⟨T, F, Γ, φ, ds, Γ', r, os, e, q⟩ => by
  cases os with
  | nil => cases e; exact ⟨rfl, q σ φ (Pin.refl _ _) r fun _ h => h⟩
  | cons _ _ _ _ => cases e
theorem ptgs_cons {e : Expr} {es : List Expr} {f : D → Gm → Option Gm} {g : List D → Gm → Option Gm} (h : PTg X ms e f) (hs : PTgs X ms es g) (h1 : (assignEach (e :: es) X.env).map (·.2) = assign e X.env :: (assignEach es X.env).map (·.2) := by rfl) : PTgs X ms (e :: es) (hCons f g) :=
  pgs_imp (pgs_cons h hs h1) fun vs σ H Q ⟨T, F, Γ, φ, ds, Γ', r, os, e, q⟩ => by
    cases os with
    | nil => cases e
    | cons o os dj eU =>
      rename_i S T'
      have e1 := (List.append_eq_nil_iff.mp eU.symm).1
      have e2 := (List.append_eq_nil_iff.mp eU.symm).2
      subst e1 e2
      obtain ⟨Γ1, ea, e⟩ := bind_some (show (f _ Γ).bind (g _) = some Γ' from e)
      refine ⟨_, _, rfl, T, F, Γ, φ, _, [], Γ1, r, o, (fun _ z => by cases z), ea, fun σ1 φ1 p1 r1 h1 => ⟨T, F, Γ1, φ1, _, Γ', r1, os, e, fun σ2 φ2 p2 r2 h2 => q σ2 φ2 (p1.trans p2) r2 fun x hx => (h1 x (h2 x hx)).elim id fun z => by cases z⟩⟩
def hTup (n : Nat) (g : List D → Gm → Option Gm) : D → Gm → Option Gm := fun d Γ => match d with
  | .nd f .tup ds => if f ≠ .ow ∧ ds.length = n then g ds Γ else none
  | _ => none
theorem own_sh {C : Cn} {F H : Hp} {v : V} {f : Fg} {k : Kd} {ds : List D} {U : List Addr} (sm : Same F H) (st : Same C.T H) (hf : f ≠ .ow) (o : Own C F H v (.nd f k ds) U) : ∃ a vs, v = .ref a ∧ Cont C.toCb H a k vs ∧ Owns C F H vs ds [] := by
  cases o with
  | sh c nt os => exact ⟨_, _, rfl, c.mono sm, os⟩
  | tm c os => exact ⟨_, _, rfl, c.mono st, os⟩
  | ow c fn tn ni os => exact absurd rfl hf
theorem ptg_tup {es : List Expr} {k n : Nat} {pos : Pos} {g : List D → Gm → Option Gm} (hc : X.calm = true) (h : PTgs X ms es g) (hn : (assignEach es X.env).length = n := by rfl) (hst : (assignEach es X.env).findIdx? (·.1) = none := by rfl) : PTg X ms (.Tuple es k pos) (hTup n g) :=
  pg_imp (pg_tup (n := n) hc h hn hst) fun v σ H Q ⟨T, F, Γ, φ, d, U, Γ', r, ow, dj, e, q⟩ => by
    unfold hTup at e
    split at e
    · split at e
      · rename_i hh
        obtain ⟨a, vs, rfl, c, os⟩ := own_sh r.le r.leT hh.1 ow
        exact ⟨a, vs, rfl, .of c, by rw [os.len]; exact hh.2, T, F, Γ, φ, _, Γ', r, os, e, fun σ' φ' p r' h' => q σ' φ' p r' fun x hx => .inl (h' x hx)⟩
      · cases e
    · cases e
def gAsg (h : D → Gm → Option Gm) (f : Gm → Option (Oc D)) : G := fun Γ => Oc.bind (f Γ) fun d Γ' => (h d Γ').map fun Γ2 => .ok .nx Γ2
theorem pb_asg {tg e : Expr} {pos : Pos} {f : Gm → Option (Oc D)} {h : D → Gm → Option Gm} (he : PL X W e f) (hg : PTg X ms tg h) (hs : swapsWithSole [tg] e pos.line X.env = pure false := by rfl) (hw : swappedStores [tg] e X.env = pure none := by rfl)
    (h1 : (assignEach [tg] X.env).map (·.2) = [assign tg X.env] := by rfl) : PB X W ms (.Assign [tg] e pos) (gAsg h f) := ps_imp (ps_asg he hg hs hw h1) fun E σ H ⟨T, F, Γ, φ, o, r, e, q⟩ => by
  unfold gAsg at e
  cases ho : f Γ with
  | none => rw [ho] at e; cases e
  | some oc =>
    rw [ho] at e
    cases oc with
    | ex x Γ' => cases e; exact ⟨T, F, Γ, φ, _, r, ho, fun cls dd F' H' φ' U st rp xr dj => q cls dd σ F' H' φ' U (Pin.refl _ _) st rp xr dj⟩
    | ok d Γ' =>
      simp only [Oc.bind] at e
      obtain ⟨Γ2, e2, rfl⟩ := map_some e
      refine ⟨T, F, Γ, φ, _, r, ho, fun v F' H' φ' U st rp ow dj => ⟨T, F', Γ', φ', d, U, Γ2, rp, ow, dj, e2, fun σ' φ2 p r2 h2 => q σ' F' H' φ2 p (st.imp (fun _ h => h) fun x h => .inl (h2 x h)) r2⟩⟩
end
end SK

namespace SK
open PySem PySem.Spec L2
open PyProof.Rows (envOfC)

/-! ### walks -/
def WalkOk (C : Cn) (F1 : Hp) (J : It) (ds : List D) : Prop := ∀ F2 H2, Same F1 F2 → Same F2 H2 → Same C.T H2 →
  (∀ (i : Nat) d, ds[i]? = some d → J.go i H2 ∧ ∀ x H3, J.yld i H2 x H3 → ∃ F3, Grow C F2 H2 F3 H3 ∧ Own C F3 H3 x d []) ∧ J.stop ds.length H2
def tW (B : Cb) (w : Gm → Option (List D)) : TI := fun σ H R => ∃ T F Γ φ ds, Rep ⟨B, T⟩ F H σ Γ φ ∧ w Γ = some ds ∧ ∀ J F1 H1, Grow ⟨B, T⟩ F H F1 H1 → WalkOk ⟨B, T⟩ F1 J ds → R J H1
abbrev PWk (X : Cx) (tg e : Expr) (w : Gm → Option (List D)) : Prop := PI X tg e (tW (Cx.cn X) w)
theorem pi_imp {X : Cx} {tg e : Expr} {t t' : TI} (h : PI X tg e t) (i : ∀ σ H R, t' σ H R → t σ H R) : PI X tg e t' := ⟨fun pins s σ H R I q => h.run pins s σ H R I (i σ H R q)⟩
def asLst : D → Option (List D)
  | .nd f .lst ds => if f = .ow then none else some ds
  | _ => none
def asTup : D → Option (List D)
  | .nd f .tup ds => if f = .ow then none else some ds
  | _ => none
def wLst (f : Gm → Option D) : Gm → Option (List D) := fun Γ => (f Γ).bind asLst
def wTup (f : Gm → Option D) : Gm → Option (List D) := fun Γ => (f Γ).bind asTup
section
variable {X : Cx} {W : WX} {ms : List Nat} {tg : Expr}
/-- what lies for ever, or is lent, stands -/
theorem own_stand {C : Cn} {F H : Hp} {v : V} {f : Fg} {k : Kd} {ds : List D} {U : List Addr} (hf : f ≠ .ow) (o : Own C F H v (.nd f k ds) U) :
    ∃ a vs, v = .ref a ∧ (∀ F2 H2, Same F F2 → Same F2 H2 → Same C.T H2 → Cont C.toCb H2 a k vs ∧ Owns C F2 H2 vs ds []) := by
  cases o with
  | sh c nt os => exact ⟨_, _, rfl, fun F2 H2 h1 h2 h3 => ⟨(c.mono h1).mono h2, os.frame h1 (fun _ z => nomatch z) (fun _ z => nomatch z)⟩⟩
  | tm c os => exact ⟨_, _, rfl, fun F2 H2 h1 h2 h3 => ⟨c.mono h3, os.frame h1 (fun _ z => nomatch z) (fun _ z => nomatch z)⟩⟩
  | ow c fn tn ni os => exact absurd rfl hf
theorem Owns.get0 {C : Cn} {F H : Hp} {vs : List V} {ds : List D} (o : Owns C F H vs ds []) {i : Nat} {d : D} (h : ds[i]? = some d) : ∃ v, vs[i]? = some v ∧ Own C F H v d [] := by
  obtain ⟨v, U, h1, h2, h3⟩ := o.get h
  have e : U = [] := List.eq_nil_iff_forall_not_mem.mpr fun x hx => nomatch h3 x hx
  subst e
  exact ⟨v, h1, h2⟩
theorem sql_inj {K : PySem.W.Frag} {H : Hp} {a : Addr} {xs ys : List V} (h : SqL K H a xs) (h' : Itl K a = Itl K a) : True := trivial
theorem pwk_lst {e : Expr} {f : Gm → Option D} (h : PQ X e f) : PWk X tg e (wLst f) := pi_imp (pi_list h) fun σ H R ⟨T, F, Γ, φ, ds, r, e, q⟩ => by
  obtain ⟨d, ed, e⟩ := bind_some e
  refine ⟨T, F, Γ, φ, d, r, ed, fun v F1 H1 U g1 o1 u1 => ?_⟩
  unfold asLst at e
  split at e
  · split at e
    · cases e
    · rename_i hf
      cases e
      obtain ⟨a, vs, rfl, st⟩ := own_stand hf o1
      refine ⟨a, rfl, ⟨vs, (st F1 H1 (Same.refl _) g1.le' g1.leT).1⟩, q _ F1 H1 g1 fun F2 H2 h1 h2 h3 => ?_⟩
      obtain ⟨c, os⟩ := st F2 H2 h1 h2 h3
      refine ⟨fun i d hi => ?_, ⟨vs, c, by rw [os.len]; exact Nat.le_refl _⟩⟩
      obtain ⟨w, hw, ow⟩ := os.get0 hi
      refine ⟨⟨vs, w, c, hw⟩, fun x H3 ⟨e3, hx⟩ => ?_⟩
      subst e3
      have := hx vs c
      rw [hw] at this; cases this
      exact ⟨F2, Step.refl h2 h3, ow⟩
  · cases e
theorem pwk_tup {e : Expr} {f : Gm → Option D} (h : PQ X e f) : PWk X tg e (wTup f) := pi_imp (pi_tup h) fun σ H R ⟨T, F, Γ, φ, ds, r, e, q⟩ => by
  obtain ⟨d, ed, e⟩ := bind_some e
  refine ⟨T, F, Γ, φ, d, r, ed, fun v F1 H1 U g1 o1 u1 => ?_⟩
  unfold asTup at e
  split at e
  · split at e
    · cases e
    · rename_i hf
      cases e
      obtain ⟨a, vs, rfl, st⟩ := own_stand hf o1
      refine ⟨a, rfl, ⟨vs, .of (st F1 H1 (Same.refl _) g1.le' g1.leT).1⟩, q _ F1 H1 g1 fun F2 H2 h1 h2 h3 => ?_⟩
      obtain ⟨c, os⟩ := st F2 H2 h1 h2 h3
      refine ⟨fun i d hi => ?_, ⟨vs, .of c, by rw [os.len]; exact Nat.le_refl _⟩⟩
      obtain ⟨w, hw, ow⟩ := os.get0 hi
      refine ⟨⟨vs, w, .of c, hw⟩, fun x H3 ⟨e3, hx⟩ => ?_⟩
      subst e3
      have := hx vs (.of c)
      rw [hw] at this; cases this
      exact ⟨F2, Step.refl h2 h3, ow⟩
  · cases e
def rngD (lo : Int) (n : Nat) : List D := (List.range n).map fun i => .int (lo + (i : Nat))
theorem rngD_len (lo : Int) (n : Nat) : (rngD lo n).length = n := by simp [rngD]
theorem rngD_get {lo : Int} {n i : Nat} {d : D} (h : (rngD lo n)[i]? = some d) : i < n ∧ d = .int (lo + (i : Nat)) := by
  unfold rngD at h
  rw [List.getElem?_map] at h
  obtain ⟨j, e1, e2⟩ := map_some h
  have hi : i < n := by simpa using (List.getElem?_eq_some_iff.mp e1).1
  rw [List.getElem?_range hi] at e1
  cases e1
  exact ⟨hi, e2.symm⟩
theorem walk_rng {C : Cn} {F1 : Hp} (lo : Int) (n : Nat) : WalkOk C F1 (Itr lo n) (rngD lo n) := fun F2 H2 h1 h2 h3 => by
  refine ⟨fun i d hi => ?_, by rw [rngD_len]; exact Nat.le_refl n⟩
  obtain ⟨h4, rfl⟩ := rngD_get hi
  exact ⟨h4, fun x H3 ⟨e3, hx⟩ => by subst e3 hx; exact ⟨F2, Step.refl h2 h3, .int _⟩⟩
def small62 (i : Int) : Bool := decide (-1000000000 ≤ i) && decide (i ≤ 1000000000)
def asRg1 : List D → Option (List D)
  | [.int j] => if small62 j = true then some (rngD 0 j.toNat) else none
  | _ => none
def asRg2 : List D → Option (List D)
  | [.int i, .int j] => if small62 i = true ∧ small62 j = true then some (rngD i (j - i).toNat) else none
  | _ => none
def wRg1 (f : Gm → Option (List D)) : Gm → Option (List D) := fun Γ => (f Γ).bind asRg1
def wRg2 (f : Gm → Option (List D)) : Gm → Option (List D) := fun Γ => (f Γ).bind asRg2
theorem small62_ok {i : Int} (h : small62 i = true) : -(2 ^ 62) ≤ i ∧ i < 2 ^ 62 := by
  unfold small62 at h
  simp at h
  omega
theorem pwk_rg1 {a : Expr} {p pos : Pos} {f : Gm → Option (List D)} (hg : Gl X "range") (hm : X.mg "range" = none) (ha : PQA X [a] f) (hs : starEach [a] X.env = [(false, eval a X.env)] := by rfl) : PWk X tg (.Call (.Name "range" p) [a] [] pos) (wRg1 f) :=
  pi_imp (pi_range1 hg hm ha hs) fun σ H R ⟨T, F, Γ, φ, ds, r, e, q⟩ => by
    obtain ⟨d, ed, e⟩ := bind_some e
    refine ⟨T, F, Γ, φ, d, r, ed, fun vs F1 H1 g1 os => ?_⟩
    unfold asRg1 at e
    split at e
    · split at e
      · rename_i h62
        cases e
        obtain ⟨v, U, rfl, o1, _⟩ := ownL1 os
        obtain ⟨rfl, _⟩ := own_int o1
        exact ⟨_, rfl, (small62_ok h62).1, (small62_ok h62).2, q _ F1 H1 g1 (walk_rng _ _)⟩
      · cases e
    · cases e
theorem pwk_rg2 {a b : Expr} {p pos : Pos} {f : Gm → Option (List D)} (hg : Gl X "range") (hm : X.mg "range" = none) (ha : PQA X [a, b] f) (hs : starEach [a, b] X.env = [(false, eval a X.env), (false, eval b X.env)] := by rfl) (hs2 : starEach [b] X.env = [(false, eval b X.env)] := by rfl) : PWk X tg (.Call (.Name "range" p) [a, b] [] pos) (wRg2 f) :=
  pi_imp (pi_range2 hg hm ha hs hs2) fun σ H R ⟨T, F, Γ, φ, ds, r, e, q⟩ => by
    obtain ⟨d, ed, e⟩ := bind_some e
    refine ⟨T, F, Γ, φ, d, r, ed, fun vs F1 H1 g1 os => ?_⟩
    unfold asRg2 at e
    split at e
    · split at e
      · rename_i h62
        cases e
        obtain ⟨v, w, U, U', rfl, o1, o2, _⟩ := ownL2 os
        obtain ⟨rfl, _⟩ := own_int o1
        obtain ⟨rfl, _⟩ := own_int o2
        exact ⟨_, _, rfl, ⟨(small62_ok h62.1).1, (small62_ok h62.1).2, (small62_ok h62.2).1, (small62_ok h62.2).2⟩, q _ F1 H1 g1 (walk_rng _ _)⟩
      · cases e
    · cases e

/-! ### for -/
def loopG (t : D → Gm → Option Gm) (b : G) : List D → G
  | [], Γ => some (.ok .nx Γ)
  | d :: ds, Γ => (t d Γ).bind fun Γ1 => match b Γ1 with
    | some (.ok .nx Γ2) => loopG t b ds Γ2
    | some (.ok .ct Γ2) => loopG t b ds Γ2
    | some (.ok .bk Γ2) => some (.ok .nx Γ2)
    | o => o
def gFor (w : Gm → Option (List D)) (t : D → Gm → Option Gm) (b : G) : G := fun Γ => (w Γ).bind fun ds => loopG t b ds Γ
theorem pb_for {iter : Expr} {body : List Stmt} {pos : Pos} {w : Gm → Option (List D)} {t : D → Gm → Option Gm} {b : G} (hp : PassesOwn (model X.prog X.w) X.A X.env X.xe) (hc : X.calm = true) (hi : PWk X tg iter w) (hg : PTg X ms tg t) (hb : PBs X W ms body b)
    (hs : ∀ x, foldedSetIterable iter X.env x = pure x := by intro _; rfl) : PB X W ms (.For tg iter body [] pos) (gFor w t b) := ps_imp (ps_for hp hc hi hg hb hs) fun E σ H ⟨T, F, Γ, φ, o, r, e, q⟩ => by
  obtain ⟨ds, ew, e⟩ := bind_some e
  refine ⟨T, F, Γ, φ, ds, r, ew, fun J F1 H1 g1 wk => ?_⟩
  refine ⟨fun i m σ' H' => m = ds.length - i ∧ i ≤ ds.length ∧ ∃ F' Γ' φ', Pin ms σ σ' ∧ Step ⟨Cx.cn X, T⟩ F H φ.at F' H' φ'.at ∧ Rep ⟨Cx.cn X, T⟩ F' H' σ' Γ' φ' ∧ Same F1 F' ∧ loopG t b (ds.drop i) Γ' = some o,
    ⟨ds.length, by simp, Nat.zero_le _, F1, Γ, φ, Pin.refl _ _, g1.step fun _ h => h, r.grow g1, Same.refl _, by simpa using e⟩, ?_⟩
  rintro i m σ' H' ⟨rfl, hle, F', Γ', φ', pin, st, rp, sF, el⟩
  obtain ⟨wi, ws⟩ := wk F' H' sF rp.le rp.leT
  by_cases hlt : i < ds.length
  · right
    obtain ⟨hgo, hy⟩ := wi i ds[i] (List.getElem?_eq_getElem hlt)
    rw [List.drop_eq_getElem_cons hlt, loopG] at el
    obtain ⟨Γ1, et, el⟩ := bind_some el
    refine ⟨hgo, fun σ2 H2 => ∃ F2 Γ2 φ2, Pin ms σ σ2 ∧ Step ⟨Cx.cn X, T⟩ F H φ.at F2 H2 φ2.at ∧ Rep ⟨Cx.cn X, T⟩ F2 H2 σ2 Γ2 φ2 ∧ Same F1 F2 ∧ loopG t b (ds.drop (i + 1)) Γ2 = some o, fun σ2 H2 h2 => ?_, fun x H3 yx => ?_⟩
    · obtain ⟨F2, Γ2, φ2, a1, a2, a3, a4, a5⟩ := h2
      exact ⟨ds.length - (i + 1), by omega, rfl, hlt, F2, Γ2, φ2, a1, a2, a3, a4, a5⟩
    · obtain ⟨F3, g3, ow⟩ := hy x H3 yx
      have st3 := st.trans (g3.step (S := φ'.at) (S' := φ'.at) fun _ h => h)
      refine ⟨T, F3, Γ', φ', ds[i], [], Γ1, rp.grow g3, ow, (fun _ z => by cases z), et, fun σ4 φ4 p4 r4 h4 => ?_⟩
      have h4' : ∀ x, φ4.at x → φ'.at x := fun x hx => (h4 x hx).elim id fun z => by cases z
      have st4 : Step ⟨Cx.cn X, T⟩ F H φ.at F3 H3 φ4.at := st3.imp (fun _ h => h) fun x hx => .inl (h4' x hx)
      have sF3 : Same F1 F3 := sF.trans g3.le
      cases hob : b Γ1 with
      | none => rw [hob] at el; cases el
      | some ob =>
        rw [hob] at el
        refine ⟨T, F3, Γ1, φ4, ob, r4, hob, ?_⟩
        cases ob with
        | ex xc Γ5 => cases el; exact fun cls dd σ5 F5 H5 φ5 U p5 s5 r5 xr dj => q cls dd σ5 F5 H5 φ5 U ((pin.trans p4).trans p5) (st4.trans s5) r5 xr dj
        | ok fw Γ5 => cases fw with
          | rt d => cases el; exact fun v σ5 F5 H5 φ5 U p5 s5 r5 ow5 dj => q v σ5 F5 H5 φ5 U ((pin.trans p4).trans p5) (st4.trans s5) r5 ow5 dj
          | bk => cases el; exact fun σ5 F5 H5 φ5 p5 s5 r5 => q σ5 F5 H5 φ5 ((pin.trans p4).trans p5) (st4.trans s5) r5
          | nx => exact fun σ5 F5 H5 φ5 p5 s5 r5 => ⟨F5, Γ5, φ5, (pin.trans p4).trans p5, st4.trans s5, r5, sF3.trans s5.le, el⟩
          | ct => exact fun σ5 F5 H5 φ5 p5 s5 r5 => ⟨F5, Γ5, φ5, (pin.trans p4).trans p5, st4.trans s5, r5, sF3.trans s5.le, el⟩
  · left
    have hi : i = ds.length := by omega
    subst hi
    rw [List.drop_length, loopG] at el
    cases el
    exact ⟨ws, q σ' F' H' φ' pin st rp⟩

/-! ### while -/
def whileG (c : Gm → Option (Oc Bool)) (b : G) : Nat → G
  | 0, _ => none
  | n + 1, Γ => Oc.bind (c Γ) fun t Γ1 => if t = true then match b Γ1 with
      | some (.ok .nx Γ2) => whileG c b n Γ2
      | some (.ok .ct Γ2) => whileG c b n Γ2
      | some (.ok .bk Γ2) => some (.ok .nx Γ2)
      | o => o
    else some (.ok .nx Γ1)
theorem pb_while {c : Expr} {body : List Stmt} {pos : Pos} {fc : Gm → Option (Oc Bool)} {b : G} (n : Nat) (hp : PassesOwn (model X.prog X.w) X.A X.env X.xe) (hc : PLT X W c fc) (hb : PBs X W ms body b) : PB X W ms (.While c body [] pos) (whileG fc b n) := ps_imp (ps_while hp hc hb) fun E σ H ⟨T, F, Γ, φ, o, r, e, q⟩ => by
  refine ⟨fun m σ' H' => ∃ F' Γ' φ', Pin ms σ σ' ∧ Step ⟨Cx.cn X, T⟩ F H φ.at F' H' φ'.at ∧ Rep ⟨Cx.cn X, T⟩ F' H' σ' Γ' φ' ∧ whileG fc b m Γ' = some o, ⟨n, F, Γ, φ, Pin.refl _ _, st_refl r, r, e⟩, ?_⟩
  rintro m σ' H' ⟨F', Γ', φ', pin, st, rp, el⟩
  cases m with
  | zero => cases el
  | succ m =>
    rw [whileG] at el
    cases ho : fc Γ' with
    | none => rw [ho] at el; cases el
    | some oc =>
      rw [ho] at el
      cases oc with
      | ex xc Γ2 =>
        cases el
        exact ⟨T, F', Γ', φ', _, rp, ho, fun cls dd F5 H5 φ5 U s5 r5 xr dj => q cls dd σ' F5 H5 φ5 U pin (st.trans s5) r5 xr dj⟩
      | ok t Γ1 =>
        refine ⟨T, F', Γ', φ', _, rp, ho, fun F1 H1 φ1 st1 r1 => ?_⟩
        simp only [Oc.bind] at el
        cases t with
        | false => cases el; exact q σ' F1 H1 φ1 pin (st.trans st1) r1
        | true =>
          simp only [if_true] at el ⊢
          refine ⟨fun σ2 H2 => ∃ F2 Γ2 φ2, Pin ms σ σ2 ∧ Step ⟨Cx.cn X, T⟩ F H φ.at F2 H2 φ2.at ∧ Rep ⟨Cx.cn X, T⟩ F2 H2 σ2 Γ2 φ2 ∧ whileG fc b m Γ2 = some o, fun σ2 H2 h2 => ⟨m, Nat.lt_succ_self m, h2⟩, ?_⟩
          cases hob : b Γ1 with
          | none => rw [hob] at el; cases el
          | some ob =>
            rw [hob] at el
            refine ⟨T, F1, Γ1, φ1, ob, r1, hob, ?_⟩
            have st4 := st.trans st1
            cases ob with
            | ex xc Γ5 => cases el; exact fun cls dd σ5 F5 H5 φ5 U p5 s5 r5 xr dj => q cls dd σ5 F5 H5 φ5 U (pin.trans p5) (st4.trans s5) r5 xr dj
            | ok fw Γ5 => cases fw with
              | rt d => cases el; exact fun v σ5 F5 H5 φ5 U p5 s5 r5 ow5 dj => q v σ5 F5 H5 φ5 U (pin.trans p5) (st4.trans s5) r5 ow5 dj
              | bk => cases el; exact fun σ5 F5 H5 φ5 p5 s5 r5 => q σ5 F5 H5 φ5 (pin.trans p5) (st4.trans s5) r5
              | nx => exact fun σ5 F5 H5 φ5 p5 s5 r5 => ⟨F5, Γ5, φ5, pin.trans p5, st4.trans s5, r5, el⟩
              | ct => exact fun σ5 F5 H5 φ5 p5 s5 r5 => ⟨F5, Γ5, φ5, pin.trans p5, st4.trans s5, r5, el⟩
end
end SK

namespace SK
open PySem PySem.Spec L2
open PyProof.Rows (envOfC)

/-! ### places: paths by the number of the child -/
def pget : List Nat → D → Option D
  | [], d => some d
  | j :: p, .nd .ow _ ds => ds[j]?.bind (pget p)
  | _ :: _, _ => none
def pput : List Nat → D → D → D
  | [], e, _ => e
  | j :: p, e, .nd f k ds => match ds[j]? with
    | some d => .nd f k (ds.set j (pput p e d))
    | none => .nd f k ds
  | _ :: _, _, d => d
inductive VAt (B : Cb) (H : Hp) : V → List Nat → V → Prop
  | nil (v : V) : VAt B H v [] v
  | cons {a : Addr} {k : Kd} {vs : List V} {j : Nat} {w u : V} {p : List Nat} : ContO B H a k vs → vs[j]? = some w → VAt B H w p u → VAt B H (.ref a) (j :: p) u
section
variable {B : Cb} {H H' : Hp}
def valsOf : HO → List V
  | .lst xs => xs
  | .tup xs => xs
  | .dK kvs => kvs.map Prod.snd
  | .dT kvs => kvs.map Prod.snd
  | .ins _ _ fs => fs.map Prod.snd
  | _ => []
theorem ContO.vals {a : Addr} {k : Kd} {vs : List V} (h : ContO B H a k vs) : ∃ o, H a = some o ∧ valsOf o = vs := by
  cases k with
  | lst => exact ⟨_, h, rfl⟩
  | tup => exact ⟨_, h, rfl⟩
  | ktup => exact h.elim
  | dic ks => obtain ⟨kvs, e, _, h2⟩ := h; exact ⟨_, e, h2⟩
  | dit ks => obtain ⟨kvs, e, _, h2⟩ := h; exact ⟨_, e, h2⟩
  | ins c ns => obtain ⟨Ca, dx, fs, _, e, _, h2⟩ := h; exact ⟨_, e, h2⟩
theorem ContO.det {a : Addr} {k k' : Kd} {vs vs' : List V} (h : ContO B H a k vs) (h' : ContO B H a k' vs') : vs = vs' := by
  obtain ⟨o, e, h1⟩ := h.vals
  obtain ⟨o', e', h2⟩ := h'.vals
  rw [e] at e'; cases e'
  exact h1.symm.trans h2
theorem ContO.same (s : Same H H') {a : Addr} {k : Kd} {vs : List V} (h : ContO B H a k vs) : ContO B H' a k vs := by
  obtain ⟨o, e⟩ := h.alive
  exact h.congr ((s _ _ e).trans e.symm)
theorem VAt.same (s : Same H H') : ∀ {v : V} {p : List Nat} {u : V}, VAt B H v p u → VAt B H' v p u
  | _, _, _, .nil v => .nil v
  | _, _, _, .cons c e r => .cons (c.same s) e (VAt.same s r)
theorem VAt.det : ∀ {v : V} {p : List Nat} {u u' : V}, VAt B H v p u → VAt B H v p u' → u = u'
  | _, _, _, _, .nil v, .nil _ => rfl
  | _, _, _, _, .cons c e r, .cons c' e' r' => by
    have := c.det c'
    subst this
    rw [e] at e'; cases e'
    exact VAt.det r r'
theorem VAt.snoc : ∀ {v : V} {p : List Nat} {a : Addr} {k : Kd} {vs : List V} {j : Nat} {w : V}, VAt B H v p (.ref a) → ContO B H a k vs → vs[j]? = some w → VAt B H v (p ++ [j]) w
  | _, _, _, _, _, _, _, .nil _, c, e => .cons c e (.nil _)
  | _, _, _, _, _, _, _, .cons c0 e0 r, c, e => .cons c0 e0 (VAt.snoc r c e)
theorem VAt.app : ∀ {v : V} {p : List Nat} {u : V} {q : List Nat} {w : V}, VAt B H v p u → VAt B H u q w → VAt B H v (p ++ q) w
  | _, _, _, _, _, .nil _, r => r
  | _, _, _, _, _, .cons c0 e0 r, r' => .cons c0 e0 (VAt.app r r')
end
section
variable {C : Cn} {F H : Hp}
theorem Owns.focus : ∀ {vs : List V} {ds : List D} {S : List Addr} {j : Nat} {d0 : D}, Owns C F H vs ds S → ds[j]? = some d0 → ∃ v0 S0, vs[j]? = some v0 ∧ Own C F H v0 d0 S0 ∧ (∀ a ∈ S0, a ∈ S) ∧
    ∀ F' H' d1 S1, Same F F' → (∀ a ∈ S, a ∉ S0 → H' a = H a ∧ F' a = none) → Own C F' H' v0 d1 S1 → (∀ a ∈ S1, a ∈ S → a ∈ S0) → ∃ S2, Owns C F' H' vs (ds.set j d1) S2 ∧ ∀ a ∈ S2, a ∈ S1 ∨ (a ∈ S ∧ a ∉ S0)
  | _, _, _, _, _, .nil, h => by simp at h
  | _, _, _, 0, _, .cons (v := v) (S := S) (T := T) (ds := ds) o os dj e, h => by
    simp at h; subst h
    refine ⟨v, S, rfl, o, fun a ha => by rw [e]; exact List.mem_append_left _ ha, fun F' H' d1 S1 sf hk o1 hs => ?_⟩
    have hT : ∀ a ∈ T, a ∉ S := fun a ha hs' => dj a hs' ha
    refine ⟨S1 ++ T, .cons o1 (os.frame sf (fun a ha => (hk a (by rw [e]; exact List.mem_append_right _ ha) (hT a ha)).1) (fun a ha => (hk a (by rw [e]; exact List.mem_append_right _ ha) (hT a ha)).2)) (fun a ha hT' => ?_) rfl, fun a ha => ?_⟩
    · exact hT a hT' (hs a ha (by rw [e]; exact List.mem_append_right _ hT'))
    · rcases List.mem_append.mp ha with h | h
      · exact .inl h
      · exact .inr ⟨by rw [e]; exact List.mem_append_right _ h, hT a h⟩
  | _, _, _, j + 1, d0, .cons (v := v) (S := S) (T := T) o os dj e, h => by
    obtain ⟨v0, S0, h1, h2, h3, h4⟩ := Owns.focus (j := j) (d0 := d0) os (by simpa using h)
    refine ⟨v0, S0, by simpa using h1, h2, fun a ha => by rw [e]; exact List.mem_append_right _ (h3 a ha), fun F' H' d1 S1 sf hk o1 hs => ?_⟩
    have hS : ∀ a ∈ S, a ∉ S0 := fun a ha h0 => dj a ha (h3 a h0)
    obtain ⟨S2, q1, q2⟩ := h4 F' H' d1 S1 sf (fun a ha hn => hk a (by rw [e]; exact List.mem_append_right _ ha) hn) o1 (fun a ha hT => hs a ha (by rw [e]; exact List.mem_append_right _ hT))
    refine ⟨S ++ S2, .cons (o.frame sf (fun a ha => (hk a (by rw [e]; exact List.mem_append_left _ ha) (hS a ha)).1) (fun a ha => (hk a (by rw [e]; exact List.mem_append_left _ ha) (hS a ha)).2)) q1 (fun a ha h2' => ?_) rfl, fun a ha => ?_⟩
    · rcases q2 a h2' with z | z
      · exact hS a ha (hs a z (by rw [e]; exact List.mem_append_left _ ha))
      · exact dj a ha z.1
    · rcases List.mem_append.mp ha with h | h
      · exact .inr ⟨by rw [e]; exact List.mem_append_left _ h, hS a h⟩
      · rcases q2 a h with z | z
        · exact .inl z
        · exact .inr ⟨by rw [e]; exact List.mem_append_right _ z.1, z.2⟩
theorem Own.focus : ∀ (p : List Nat) {v : V} {d d0 : D} {S : List Addr}, Own C F H v d S → pget p d = some d0 → ∃ v0 S0, VAt C.toCb H v p v0 ∧ Own C F H v0 d0 S0 ∧ (∀ a ∈ S0, a ∈ S) ∧
    ∀ F' H' d1 S1, Same F F' → (∀ a ∈ S, a ∉ S0 → H' a = H a ∧ F' a = none) → Own C F' H' v0 d1 S1 → (∀ a ∈ S1, a ∈ S → a ∈ S0) → ∃ S2, Own C F' H' v (pput p d1 d) S2 ∧ ∀ a ∈ S2, a ∈ S1 ∨ (a ∈ S ∧ a ∉ S0)
  | [], v, d, d0, S, o, h => by
    rw [pget] at h; cases h
    exact ⟨v, S, .nil v, o, fun _ h => h, fun F' H' d1 S1 _ _ o1 _ => ⟨S1, o1, fun a ha => .inl ha⟩⟩
  | j :: p, v, d, d0, S, o, h => by
    cases o with
    | non => simp [pget] at h
    | bl _ => simp [pget] at h
    | int _ => simp [pget] at h
    | str _ => simp [pget] at h
    | ty _ => simp [pget] at h
    | cls _ => simp [pget] at h
    | sh c nt os => simp [pget] at h
    | tm c os => simp [pget] at h
    | ow c fn tn ni os =>
      rename_i a k vs ds S'
      rw [pget] at h
      obtain ⟨dj, e1, h⟩ := bind_some h
      obtain ⟨vj, Sj, h1, h2, h3, h4⟩ := os.focus e1
      obtain ⟨v0, S0, q1, q2, q3, q4⟩ := Own.focus p h2 h
      refine ⟨v0, S0, .cons c h1 q1, q2, fun x hx => List.mem_cons_of_mem _ (h3 x (q3 x hx)), fun F' H' d1 S1 sf hk o1 hs => ?_⟩
      have aS0 : a ∉ S0 := fun z => ni (h3 a (q3 a z))
      obtain ⟨Sj2, r1, r2⟩ := q4 F' H' d1 S1 sf (fun x hx hn => hk x (List.mem_cons_of_mem _ (h3 x hx)) hn) o1 (fun x hx hj => hs x hx (List.mem_cons_of_mem _ (h3 x hj)))
      obtain ⟨S2, r3, r4⟩ := h4 F' H' _ Sj2 sf (fun x hx hn => hk x (List.mem_cons_of_mem _ hx) (fun z => hn (q3 x z))) r1 (fun x hx hS => by
        rcases r2 x hx with z | z
        · exact q3 x (hs x z (List.mem_cons_of_mem _ hS))
        · exact z.1)
      have hin : ∀ x ∈ S2, x ∈ S1 ∨ (x ∈ S' ∧ x ∉ S0) := fun x hx => by
        rcases r4 x hx with z | z
        · rcases r2 x z with z | z
          · exact .inl z
          · exact .inr ⟨h3 x z.1, z.2⟩
        · exact .inr ⟨z.1, fun y => z.2 (q3 x y)⟩
      have ha := hk a List.mem_cons_self aS0
      refine ⟨a :: S2, ?_, fun x hx => ?_⟩
      · rw [pput, e1]
        refine .ow (c.congr ha.1) ha.2 tn (fun z => ?_) r3
        rcases hin a z with y | y
        · exact aS0 (hs a y List.mem_cons_self)
        · exact ni y.1
      · rcases List.mem_cons.mp hx with rfl | hx
        · exact .inr ⟨List.mem_cons_self, aS0⟩
        · rcases hin x hx with z | z
          · exact .inl z
          · exact .inr ⟨List.mem_cons_of_mem _ z.1, z.2⟩
end
/-- the object at a place of slot i is changed; U: what is moved in -/
theorem mut_at {B : Cb} {T F H : Hp} {σ : L2.St} {Γ : Gm} {φ : Fp} {i : Nat} {d : D} {p : List Nat} {k k' : Kd} {ds ds' : List D} {v0 : V} {a : Addr} {o' : HO} {U : List Addr} (r : Rep ⟨B, T⟩ F H σ Γ φ) (hd : Γ[i]? = some (some d)) (hp : pget p d = some (.nd .ow k ds))
    (hv : σ[i]? = some (some v0)) (va : VAt B H v0 p (.ref a)) (dU : ∀ x ∈ U, ¬ φ.at x) (hk : k.Ok → k'.Ok)
    (op : ∀ vs S0, ContO B H a k vs → Owns ⟨B, T⟩ F H vs ds S0 → a ∉ S0 → a ∉ U → (∀ x ∈ S0, φ.at x) → ∃ vs' S', ContO B (upd H a o') a k' vs' ∧ Owns ⟨B, T⟩ F (upd H a o') vs' ds' S' ∧ a ∉ S' ∧ ∀ x ∈ S', x ∈ S0 ∨ x ∈ U) :
    ∃ φ', Rep ⟨B, T⟩ F (upd H a o') σ (Γ.set i (some (pput p (.nd .ow k' ds') d))) φ' ∧ (∀ x, φ'.at x → φ.at x ∨ x ∈ U) ∧ Step ⟨B, T⟩ F H (fun x => φ.at x ∨ x ∈ U) F (upd H a o') φ'.at := by
  obtain ⟨v0', e0, ow⟩ := r.get i d hd
  rw [hv] at e0; cases e0
  obtain ⟨u0, S0, w1, w2, w3, w4⟩ := ow.focus p hp
  have eu := va.det w1
  subst eu
  cases w2 with
  | ow c fn tn ni os =>
    rename_i vs S00
    have ai : φ.at a := ⟨i, w3 a List.mem_cons_self⟩
    have aU' : a ∉ U := fun h => dU a h ai
    obtain ⟨vs', S', c', os', na, hS⟩ := op vs S00 c os ni aU' (fun x hx => ⟨i, w3 x (List.mem_cons_of_mem _ hx)⟩)
    have hne : ∀ {x}, x ≠ a → upd H a o' x = H x := fun {x} h => upd_ne h
    have st : ∀ {x}, F x ≠ none → x ≠ a := fun {x} h z => by rw [z] at h; exact h fn
    have stT : ∀ {x o}, T x = some o → x ≠ a := fun {x o} h z => by
      rw [z] at h
      have : T a = none := tn.1
      rw [this] at h; cases h
    have leF : Same F (upd H a o') := fun x o e => by rw [hne (st (by rw [e]; intro z; cases z))]; exact r.le x o e
    have leT' : Same T (upd H a o') := fun x o e => by rw [hne (stT e)]; exact r.leT x o e
    obtain ⟨S2, o2, h2⟩ := w4 F (upd H a o') (.nd .ow k' ds') (a :: S') (Same.refl F) (fun x hx hn => ⟨hne (fun z => hn (by rw [z]; exact List.mem_cons_self)), (ow.alive x hx).1⟩) (.ow c' fn ⟨tn.1, hk tn.2⟩ na os') (fun x hx hxi => by
      rcases List.mem_cons.mp hx with rfl | hx
      · exact List.mem_cons_self
      · rcases hS x hx with z | z
        · exact List.mem_cons_of_mem _ z
        · exact absurd ⟨i, hxi⟩ (dU x z))
    have hin : ∀ x ∈ S2, x ∈ φ i ∨ x ∈ U := fun x hx => by
      rcases h2 x hx with z | z
      · rcases List.mem_cons.mp z with rfl | z
        · exact .inl (w3 _ List.mem_cons_self)
        · rcases hS x z with y | y
          · exact .inl (w3 x (List.mem_cons_of_mem _ y))
          · exact .inr y
      · exact .inl z.1
    -- the other slots stand
    have r1 : Rep ⟨B, T⟩ F (upd H a o') σ (Γ.set i none) (fun j => if j = i then [] else φ j) := by
      have r0 := r.gone (i := i)
      refine { le := leF, leT := leT', len := r0.len, get := fun j e hj => ?_, dis := r0.dis, emp := r0.emp }
      obtain ⟨w, g1, g2⟩ := r0.get j e hj
      refine ⟨w, g1, g2.frame (Same.refl F) (fun x hx => hne fun z => ?_) (fun x hx => (g2.alive x hx).1)⟩
      subst z
      by_cases hji : j = i
      · simp [hji] at hx
      · simp only [hji, if_false] at hx
        exact hji (r.dis j i x hx (w3 x List.mem_cons_self))
    have r2 := r1.put hv o2 (fun x hx j hj hm => by
      simp only [hj, if_false] at hm
      rcases hin x hx with z | z
      · exact hj (r.dis j i x hm z)
      · exact dU x z ⟨j, hm⟩)
    rw [List.set_set] at r2
    have hat : ∀ x, Fp.at (fun j => if j = i then S2 else if j = i then [] else φ j) x → φ.at x ∨ x ∈ U := fun x ⟨j, hj⟩ => by
      by_cases hji : j = i
      · simp only [hji, if_true] at hj
        rcases hin x hj with z | z
        · exact .inl ⟨i, z⟩
        · exact .inr z
      · simp only [hji, if_false] at hj
        exact .inl ⟨j, hj⟩
    refine ⟨_, r2, hat, ⟨Same.refl F, leF, leT', fun x o n e => ?_, fun x e => ?_, fun x o e => .inl e, fun x h => .inl (hat x h)⟩⟩
    · rw [hne (fun z => n (by rw [z]; exact .inl ai))]; exact e
    · by_cases hx : x = a
      · subst hx; rw [upd_same] at e; cases e
      · rw [hne hx] at e; exact e
end SK

namespace SK
open PySem PySem.Spec L2
open PyProof.Rows (envOfC)

section
variable {C : Cn} {F H : Hp}
theorem Owns.snoc : ∀ {vs : List V} {ds : List D} {S : List Addr} {v : V} {d : D} {U : List Addr}, Owns C F H vs ds S → Own C F H v d U → (∀ x ∈ U, x ∉ S) → Owns C F H (vs ++ [v]) (ds ++ [d]) (S ++ U)
  | _, _, _, _, _, U, .nil, o, _ => .cons o .nil (fun _ _ z => nomatch z) (by simp)
  | _, _, _, _, _, U, .cons (S := S) (T := T) o0 os dj e, o, h => by
    refine .cons o0 (Owns.snoc os o (fun x hx hT => h x hx (by rw [e]; exact List.mem_append_right _ hT))) (fun x hx hm => ?_) (by rw [e, List.append_assoc])
    rcases List.mem_append.mp hm with z | z
    · exact dj x hx z
    · exact h x z (by rw [e]; exact List.mem_append_left _ hx)
theorem Owns.setAt : ∀ {vs : List V} {ds : List D} {S : List Addr} {j : Nat} {v : V} {d : D} {U : List Addr}, Owns C F H vs ds S → Own C F H v d U → (∀ x ∈ U, x ∉ S) → ∃ S', Owns C F H (vs.set j v) (ds.set j d) S' ∧ ∀ x ∈ S', x ∈ S ∨ x ∈ U
  | _, _, _, _, _, _, _, .nil, _, _ => ⟨[], .nil, fun _ z => nomatch z⟩
  | _, _, _, 0, _, _, U, .cons (S := S) (T := T) o0 os dj e, o, h => by
    refine ⟨U ++ T, .cons o os (fun x hx hT => h x hx (by rw [e]; exact List.mem_append_right _ hT)) rfl, fun x hx => ?_⟩
    rcases List.mem_append.mp hx with z | z
    · exact .inr z
    · exact .inl (by rw [e]; exact List.mem_append_right _ z)
  | _, _, _, j + 1, _, _, U, .cons (S := S) (T := T) o0 os dj e, o, h => by
    obtain ⟨S', h1, h2⟩ := Owns.setAt (j := j) os o (fun x hx hT => h x hx (by rw [e]; exact List.mem_append_right _ hT))
    refine ⟨S ++ S', .cons o0 h1 (fun x hx hm => ?_) rfl, fun x hx => ?_⟩
    · rcases h2 x hm with z | z
      · exact dj x hx z
      · exact h x z (by rw [e]; exact List.mem_append_left _ hx)
    · rcases List.mem_append.mp hx with z | z
      · exact .inl (by rw [e]; exact List.mem_append_left _ z)
      · rcases h2 x z with y | y
        · exact .inl (by rw [e]; exact List.mem_append_right _ y)
        · exact .inr y
/-- an object outside is changed -/
theorem Owns.upd {vs : List V} {ds : List D} {S : List Addr} {a : Addr} {o' : HO} (o : Owns C F H vs ds S) (h : a ∉ S) : Owns C F (upd H a o') vs ds S :=
  o.frame (Same.refl F) (fun x hx => upd_ne fun z => h (by rw [← z]; exact hx)) fun x hx => (o.alive x hx).1
theorem Own.upd {v : V} {d : D} {S : List Addr} {a : Addr} {o' : HO} (o : Own C F H v d S) (h : a ∉ S) : Own C F (upd H a o') v d S :=
  o.frame (Same.refl F) (fun x hx => upd_ne fun z => h (by rw [← z]; exact hx)) fun x hx => (o.alive x hx).1
end
/-! ### the number of a key -/
def kix {κ : Type} [DecidableEq κ] : List κ → κ → Option Nat
  | [], _ => none
  | a :: r, k => if a = k then some 0 else (kix r k).map (· + 1)
section
variable {κ : Type} [DecidableEq κ]
theorem kix_get : ∀ {ks : List κ} {k : κ} {j : Nat}, kix ks k = some j → ks[j]? = some k
  | [], _, _, h => by cases h
  | a :: r, k, j, h => by
    rw [kix] at h
    split at h
    · cases h; rename_i e; simp [e]
    · obtain ⟨j', e, rfl⟩ := map_some h
      simpa using kix_get e
theorem kix_val : ∀ {kvs : List (κ × V)} {k : κ} {j : Nat}, kix (kvs.map Prod.fst) k = some j → (kvs.map Prod.snd)[j]? = valV kvs k
  | [], _, _, h => by cases h
  | (a, v) :: r, k, j, h => by
    rw [List.map_cons, kix] at h
    unfold valV
    split at h
    · rename_i e
      cases h
      simp [List.find?_cons, show a = k from e]
    · rename_i e
      obtain ⟨j', e', rfl⟩ := map_some h
      have := kix_val e'
      unfold valV at this
      simpa [List.find?_cons, show ¬ a = k from e] using this
theorem kix_none : ∀ {ks : List κ} {k : κ}, kix ks k = none ↔ k ∉ ks
  | [], _ => by simp [kix]
  | a :: r, k => by
    rw [kix]
    split
    · rename_i e; simp [e]
    · rename_i e
      rw [Option.map_eq_none_iff, kix_none]
      have h2 : ¬ k = a := fun z => e z.symm
      simp [h2]
def kput (ks : List κ) (k : κ) : List κ := match kix ks k with
  | some _ => ks
  | none => ks ++ [k]
def vput {α : Type} (ks : List κ) (ds : List α) (k : κ) (d : α) : List α := match kix ks k with
  | some j => ds.set j d
  | none => ds ++ [d]
theorem putK_none {kvs : List (κ × V)} {k : κ} {v : V} (h : kix (kvs.map Prod.fst) k = none) : putK kvs k v = kvs ++ [(k, v)] := by
  unfold putK
  rw [if_neg]
  intro z
  obtain ⟨p, hp, e⟩ := List.any_eq_true.mp z
  exact kix_none.mp h (List.mem_map.mpr ⟨p, hp, by simpa using e⟩)
theorem putK_fst (kvs : List (κ × V)) (k : κ) (v : V) : (putK kvs k v).map Prod.fst = kput (kvs.map Prod.fst) k := by
  unfold kput
  cases h : kix (kvs.map Prod.fst) k with
  | none => rw [putK_none h]; simp
  | some j =>
    unfold putK
    rw [if_pos]
    · rw [List.map_map]
      refine List.map_congr_left fun p _ => ?_
      simp only [Function.comp]
      split <;> rfl
    · have := kix_get h
      rw [List.getElem?_map] at this
      obtain ⟨p, e1, e2⟩ := map_some this
      exact List.any_eq_true.mpr ⟨p, List.mem_of_getElem? e1, by simpa using e2⟩
theorem putK_snd_some : ∀ {kvs : List (κ × V)} {k : κ} {v : V} {j : Nat}, (kvs.map Prod.fst).Nodup → kix (kvs.map Prod.fst) k = some j → (kvs.map (fun kv => if kv.1 = k then (kv.1, v) else kv)).map Prod.snd = (kvs.map Prod.snd).set j v
  | [], _, _, _, _, h => by cases h
  | (a, w) :: r, k, v, j, hn, h => by
    rw [List.map_cons, kix] at h
    rw [List.map_cons, List.nodup_cons] at hn
    split at h
    · rename_i e
      cases h
      have e : a = k := e
      subst e
      simp only [List.map_cons, if_true, List.set_cons_zero, List.cons.injEq, true_and]
      rw [List.map_map]
      refine List.map_congr_left fun p hp => ?_
      have : ¬ p.1 = a := fun z => hn.1 (List.mem_map.mpr ⟨p, hp, z⟩)
      simp [this]
    · rename_i e
      obtain ⟨j', e', rfl⟩ := map_some h
      have := putK_snd_some (v := v) hn.2 e'
      have e : ¬ a = k := e
      simpa [e] using this
theorem putK_snd {kvs : List (κ × V)} {k : κ} {v : V} (hn : (kvs.map Prod.fst).Nodup) : (putK kvs k v).map Prod.snd = vput (kvs.map Prod.fst) (kvs.map Prod.snd) k v := by
  unfold vput
  cases h : kix (kvs.map Prod.fst) k with
  | none => rw [putK_none h]; simp
  | some j =>
    unfold putK
    rw [if_pos]
    · exact putK_snd_some hn h
    · have := kix_get h
      rw [List.getElem?_map] at this
      obtain ⟨p, e1, e2⟩ := map_some this
      exact List.any_eq_true.mpr ⟨p, List.mem_of_getElem? e1, by simpa using e2⟩
end
theorem putF_fst : ∀ (fs : List (Str × V)) (n : Str) (v : V), (putF n v fs).map Prod.fst = kput (fs.map Prod.fst) n
  | [], n, v => rfl
  | (g, x) :: r, n, v => by
    rw [putF]
    unfold kput
    rw [List.map_cons, kix]
    split
    · rfl
    · have := putF_fst r n v
      unfold kput at this
      rw [List.map_cons, this]
      cases kix (r.map Prod.fst) n <;> rfl
theorem putF_snd : ∀ (fs : List (Str × V)) (n : Str) (v : V), (putF n v fs).map Prod.snd = vput (fs.map Prod.fst) (fs.map Prod.snd) n v
  | [], n, v => rfl
  | (g, x) :: r, n, v => by
    rw [putF]
    unfold vput
    rw [List.map_cons, kix]
    split
    · rfl
    · have := putF_snd r n v
      unfold vput at this
      rw [List.map_cons, this]
      cases kix (r.map Prod.fst) n <;> rfl

/-! ### places evaluated -/
def tPl (B : Cb) (i : Nat) (f : Gm → Option (List Nat)) : TE := fun σ H Q => ∃ T F Γ φ p, Rep ⟨B, T⟩ F H σ Γ φ ∧ f Γ = some p ∧
  ∀ v v0 F' H', Grow ⟨B, T⟩ F H F' H' → σ[i]? = some (some v0) → VAt B H' v0 p v → Q v H'
abbrev PPl (X : Cx) (i : Nat) (e : Expr) (f : Gm → Option (List Nat)) : Prop := PE X e (tPl (Cx.cn X) i f)
def atP (Γ : Gm) (i : Nat) (p : List Nat) : Option D := (Γ[i]?.join).bind (pget p)
def plN (i : Nat) : Gm → Option (List Nat) := fun Γ => (Γ[i]?.join).bind fun d => some []
def plF (i : Nat) (cs : List Str) (n : Str) (f : Gm → Option (List Nat)) : Gm → Option (List Nat) := fun Γ => (f Γ).bind fun p => match atP Γ i p with
  | some (.nd .ow (.ins c ns) _) => if c ∈ cs then (kix ns n).map fun j => p ++ [j] else none
  | _ => none
def plS (i : Nat) (f : Gm → Option (List Nat)) (g : Gm → Option D) : Gm → Option (List Nat) := fun Γ => (f Γ).bind fun p => (g Γ).bind fun x => match atP Γ i p with
  | some (.nd .ow (.dic ks) _) => (D.key x).bind fun k => (kix ks k).map fun j => p ++ [j]
  | some (.nd .ow (.dit ks) _) => (D.tkey x).bind fun k => (kix ks k).map fun j => p ++ [j]
  | some (.nd .ow .lst ds) => match x with
    | .int z => (ixN ds.length z).map fun j => p ++ [j]
    | _ => none
  | some (.nd .ow .tup ds) => match x with
    | .int z => (ixN ds.length z).map fun j => p ++ [j]
    | _ => none
  | _ => none
section
variable {X : Cx} {W : WX} {ms : List Nat}
theorem ppl_n (i : Nat) {x : Str} {pos : Pos} (hN : X.N[i]? = some x := by rfl) (hv : Vis X.env.scope x := by first | exact Or.inl rfl | exact Or.inr (Or.inl rfl) | exact Or.inr (Or.inr rfl)) (hd : (x == ("__debug__" : Str)) = false := by decide)
    (hcd : (x == ("__classdict__" : Str)) = false := by decide) : PPl X i (.Name x pos) (plN i) := pe_imp (pe_var hN hv hd hcd) fun σ H Q ⟨T, F, Γ, φ, p, r, e, q⟩ => by
  obtain ⟨d, ed, e⟩ := bind_some e
  cases e
  obtain ⟨v, h1, h2⟩ := r.get i d (r.none_at ed)
  exact ⟨v, h1, q v v F H (Step.refl r.le r.leT) h1 (.nil v)⟩
theorem atP_some {Γ : Gm} {i : Nat} {p : List Nat} {d : D} (h : atP Γ i p = some d) : ∃ d0, Γ[i]? = some (some d0) ∧ pget p d0 = some d := by
  obtain ⟨d0, e1, e2⟩ := bind_some h
  refine ⟨d0, ?_, e2⟩
  cases q : Γ[i]? with
  | none => rw [q] at e1; cases e1
  | some o => rw [q] at e1; simp at e1; rw [e1]
/-- what stands at a place -/
theorem place_at {B : Cb} {T F H : Hp} {σ : L2.St} {Γ : Gm} {φ : Fp} {i : Nat} {p : List Nat} {v0 v : V} {k : Kd} {ds : List D} (r : Rep ⟨B, T⟩ F H σ Γ φ) (h : atP Γ i p = some (.nd .ow k ds)) (hv : σ[i]? = some (some v0)) (va : VAt B H v0 p v) :
    ∃ a vs S, v = .ref a ∧ ContO B H a k vs ∧ Owns ⟨B, T⟩ F H vs ds S ∧ (∀ x ∈ S, φ.at x) := by
  obtain ⟨d0, e1, e2⟩ := atP_some h
  obtain ⟨v', h1, ow⟩ := r.get i d0 e1
  rw [hv] at h1; cases h1
  obtain ⟨u, S0, w1, w2, w3, _⟩ := ow.focus p e2
  have := va.det w1
  subst this
  cases w2 with
  | ow c fn tn ni os => exact ⟨_, _, _, rfl, c, os, fun x hx => ⟨i, w3 x (List.mem_cons_of_mem _ hx)⟩⟩
theorem ppl_f {i : Nat} {e : Expr} {n : Str} {pos : Pos} {f : Gm → Option (List Nat)} {cs mn : List Str} (hT : ∀ c ∈ cs, ClsF (Cx.cn X) c mn) (hn : n ∈ mn) (ha : PPl X i e f) (hb : attributeBase e n X.env (eval e X.env) = eval e X.env) : PPl X i (.Attribute e n pos) (plF i cs n f) :=
  pe_imp (pe_fld ha hb) fun σ H Q ⟨T, F, Γ, φ, p, r, e, q⟩ => by
    obtain ⟨p0, e0, e⟩ := bind_some e
    split at e
    · rename_i c ns ds hat
      split at e
      · rename_i hc
        obtain ⟨j, hj, rfl⟩ := map_some e
        refine ⟨T, F, Γ, φ, p0, r, e0, fun v v0 F1 H1 g1 hv va => ?_⟩
        obtain ⟨a, vs, S, rfl, cc, os, hS⟩ := place_at (r.grow g1) hat hv va
        have cc0 := cc
        obtain ⟨Ca, dx, fs, m, eH, h1, h2⟩ := cc
        obtain ⟨Ca', m', cl, na⟩ := (hT c hc).ex
        rw [m] at m'; cases m'
        have hjd : j < ds.length := by
          have := kix_get hj
          have h3 := (List.getElem?_eq_some_iff.mp this).1
          rw [← os.len, ← h2]
          rw [← h1] at h3
          simpa using h3
        obtain ⟨w, U, g2, _⟩ := os.get (List.getElem?_eq_getElem hjd)
        subst h1
        have hl : fs.lookup n = some w := by
          rw [fs_lookup, ← kix_val hj, h2, g2]
        exact ⟨a, Ca, dx, fs, w, rfl, eH, cl, na n hn, hl, q w v0 F1 H1 g1 hv (va.snoc cc0 g2)⟩
      · cases e
    · cases e
theorem ppl_s {i : Nat} {a b : Expr} {pos : Pos} {f : Gm → Option (List Nat)} {g : Gm → Option D} (hu : X.A.units + 1 < cLine) (ha : PPl X i a f) (hb : PQ X b g) (hs : PlainIx b) (hn : NoSl b) : PPl X i (.Subscript a b pos) (plS i f g) :=
  pe_imp (pe_or2 (pe_ix ix_seq ha hb hs) (pe_dget hu ha hb hn)) fun σ H Q ⟨T, F, Γ, φ, p, r, e, q⟩ => by
    obtain ⟨p0, e0, e⟩ := bind_some e
    obtain ⟨x, ex, e⟩ := bind_some e
    split at e
    · rename_i ks ds hat
      obtain ⟨κ, hk, e⟩ := bind_some e
      obtain ⟨j, hj, rfl⟩ := map_some e
      refine .inr ⟨T, F, Γ, φ, p0, r, e0, fun v v0 F1 H1 g1 hv va => ⟨T, F1, Γ, φ, x, r.grow g1, ex, fun y F2 H2 U g2 oy uy => ?_⟩⟩
      have va2 := va.same g2.same
      obtain ⟨a, vs, S, rfl, cc, os, hS⟩ := place_at ((r.grow g1).grow g2) hat hv va2
      have cc0 := cc
      obtain ⟨kvs, eH, h1, h2⟩ := cc
      have hjd : j < ds.length := by
        have h3 := (List.getElem?_eq_some_iff.mp (kix_get hj)).1
        rw [← os.len, ← h2]
        rw [← h1] at h3
        simpa using h3
      obtain ⟨w, U2, g3, _⟩ := os.get (List.getElem?_eq_getElem hjd)
      subst h1
      refine ⟨a, w, rfl, .inl ⟨kvs, κ, .inl eH, (key_own oy hk).1, ?_⟩, q w v0 F2 H2 (g1.trans g2) hv (va2.snoc cc0 g3)⟩
      rw [← kix_val hj, h2, g3]
    · rename_i ks ds hat
      obtain ⟨κ, hk, e⟩ := bind_some e
      obtain ⟨j, hj, rfl⟩ := map_some e
      refine .inr ⟨T, F, Γ, φ, p0, r, e0, fun v v0 F1 H1 g1 hv va => ⟨T, F1, Γ, φ, x, r.grow g1, ex, fun y F2 H2 U g2 oy uy => ?_⟩⟩
      have va2 := va.same g2.same
      obtain ⟨a, vs, S, rfl, cc, os, hS⟩ := place_at ((r.grow g1).grow g2) hat hv va2
      have cc0 := cc
      obtain ⟨kvs, eH, h1, h2⟩ := cc
      have hjd : j < ds.length := by
        have h3 := (List.getElem?_eq_some_iff.mp (kix_get hj)).1
        rw [← os.len, ← h2]
        rw [← h1] at h3
        simpa using h3
      obtain ⟨w, U2, g3, _⟩ := os.get (List.getElem?_eq_getElem hjd)
      subst h1
      obtain ⟨b, rfl, hb⟩ := tkey_own g2.le' g2.leT oy hk
      refine ⟨a, w, rfl, .inr ⟨kvs, κ, b, .inl eH, rfl, hb, ?_⟩, q w v0 F2 H2 (g1.trans g2) hv (va2.snoc cc0 g3)⟩
      rw [← kix_val hj, h2, g3]
    · rename_i ds hat
      split at e
      · rename_i z
        obtain ⟨j, hj, rfl⟩ := map_some e
        refine .inl ⟨T, F, Γ, φ, p0, r, e0, fun v v0 F1 H1 g1 hv va => ⟨T, F1, Γ, φ, _, r.grow g1, ex, fun y F2 H2 U g2 oy uy => ?_⟩⟩
        have va2 := va.same g2.same
        obtain ⟨a, vs, S, rfl, cc, os, hS⟩ := place_at ((r.grow g1).grow g2) hat hv va2
        obtain ⟨rfl, _⟩ := own_int oy
        obtain ⟨_, hlt, _⟩ := ixN_seq hj
        obtain ⟨w, U2, g3, _⟩ := os.get (List.getElem?_eq_getElem hlt)
        refine .inl ⟨a, vs, z, w, rfl, rfl, SqL.of cc, ?_, q w v0 F2 H2 (g1.trans g2) hv (va2.snoc cc g3)⟩
        unfold atI
        rw [os.len, hj]
        exact g3
      · cases e
    · rename_i ds hat
      split at e
      · rename_i z
        obtain ⟨j, hj, rfl⟩ := map_some e
        refine .inl ⟨T, F, Γ, φ, p0, r, e0, fun v v0 F1 H1 g1 hv va => ⟨T, F1, Γ, φ, _, r.grow g1, ex, fun y F2 H2 U g2 oy uy => ?_⟩⟩
        have va2 := va.same g2.same
        obtain ⟨a, vs, S, rfl, cc, os, hS⟩ := place_at ((r.grow g1).grow g2) hat hv va2
        obtain ⟨rfl, _⟩ := own_int oy
        obtain ⟨_, hlt, _⟩ := ixN_seq hj
        obtain ⟨w, U2, g3, _⟩ := os.get (List.getElem?_eq_getElem hlt)
        refine .inr (.inl ⟨a, vs, z, w, rfl, rfl, SqT.of cc, ?_, q w v0 F2 H2 (g1.trans g2) hv (va2.snoc cc g3)⟩)
        unfold atI
        rw [os.len, hj]
        exact g3
      · cases e
    · cases e
end
end SK

namespace SK
open PySem PySem.Spec L2
open PyProof.Rows (envOfC)

/-! ### new things, the slots untouched -/
def tFr (B : Cb) (f : Gm → Option D) : TE := fun σ H Q => ∃ T F Γ φ d, Rep ⟨B, T⟩ F H σ Γ φ ∧ f Γ = some d ∧ ∀ v F' H' U, Step ⟨B, T⟩ F H NoA F' H' (· ∈ U) → Own ⟨B, T⟩ F' H' v d U → Q v H'
abbrev PF (X : Cx) (e : Expr) (f : Gm → Option D) : Prop := PE X e (tFr (Cx.cn X) f)
def frQ (f : Gm → Option D) : Gm → Option D := fun Γ => (f Γ).bind fun d => if d.hd = true then none else some d
def mkOw (k : Kd) (ds : List D) : Option D := if D.all0 ds = true ∧ ds.length ≤ 100000 then some (.nd .ow k ds) else none
def frSeq (k : Kd) (g : Gm → Option (List D)) : Gm → Option D := fun Γ => (g Γ).bind (mkOw k)
def frDK : Gm → Option D := fun _ => some (.nd .ow (.dic []) [])
def frDT : Gm → Option D := fun _ => some (.nd .ow (.dit []) [])
def lF (f : Gm → Option D) : Gm → Option (Oc D) := fun Γ => (f Γ).map fun d => .ok d Γ
section
variable {X : Cx} {W : WX} {ms : List Nat}
theorem fresh_dis {C : Cn} {F H F' H' : Hp} {σ : L2.St} {Γ : Gm} {φ : Fp} {U : List Addr} (r : Rep C F H σ Γ φ) (st : Step C F H NoA F' H' (· ∈ U)) : ∀ x ∈ U, ¬ φ.at x := fun x hx h => by
  rcases st.newS x hx with z | z
  · exact z
  · obtain ⟨_, _, o, e⟩ := r.alive h
    rw [e] at z; cases z
theorem pl_f {e : Expr} {f : Gm → Option D} (h : PF X e f) : PL X W e (lF f) := pe_imp h fun σ H Q ⟨T, F, Γ, φ, o, r, e, q⟩ => by
  obtain ⟨d, ed, rfl⟩ := map_some e
  refine ⟨T, F, Γ, φ, d, r, ed, fun v F' H' U st ow => ?_⟩
  have dj := fresh_dis r st
  refine q v F' H' φ U (st.imp (fun _ z => z.elim) fun x h => h.elim (fun z => .inr z) fun z => .inl z) (r.step st fun x hx z => z) ow dj
theorem pf_q {e : Expr} {f : Gm → Option D} (h : PQ X e f) : PF X e (frQ f) := pe_imp h fun σ H Q ⟨T, F, Γ, φ, d, r, e, q⟩ => by
  obtain ⟨a, ea, e⟩ := bind_some e
  split at e
  · cases e
  · rename_i hh
    cases e
    refine ⟨T, F, Γ, φ, _, r, ea, fun v F1 H1 U g1 o1 u1 => ?_⟩
    have := hd_nil o1 hh
    subst this
    exact q v F1 H1 [] (g1.imp (fun _ z => z) fun x h => by cases h) o1
/-- a new object, owned -/
theorem step_new {C : Cn} {F H : Hp} {p : Addr} {o : HO} (s : Same F H) (st : Same C.T H) (n : H p = none) : Step C F H NoA F (upd H p o) (· ∈ [p]) := by
  have nF := Same.free s n
  have nT := Same.free st n
  refine ⟨Same.refl F, fun a u e => ?_, fun a u e => ?_, fun a u _ e => ?_, fun a e => ?_, fun a u e => .inl e, fun a h => ?_⟩
  · rw [upd_ne (ne_of_none (s _ _ e) n)]; exact s _ _ e
  · rw [upd_ne (ne_of_none (st _ _ e) n)]; exact st _ _ e
  · rw [upd_ne (ne_of_none e n)]; exact e
  · by_cases h : a = p
    · subst h; exact n
    · rw [upd_ne h] at e; exact e
  · simp at h; subst h; exact .inr n
theorem pf_lst {es : List Expr} {pos : Pos} {g : Gm → Option (List D)} (h : PQA X es g) : PF X (.List es pos) (frSeq .lst g) :=
  pe_imp (pe_lst h) fun σ H Q ⟨T, F, Γ, φ, d, r, e, q⟩ => by
    obtain ⟨ds, ea, e⟩ := bind_some e
    unfold mkOw at e
    split at e
    case isFalse => cases e
    rename_i hc
    cases e
    refine ⟨T, F, Γ, φ, ds, r, ea, fun vs F1 H1 g1 os => ⟨by rw [os.len]; exact Nat.le_trans hc.2 (by decide), fun p np => ?_⟩⟩
    have o2 := (os.owns (all0_iff hc.1)).upd (a := p) (o' := .lst vs) (fun z => by cases z)
    exact q _ _ _ [p] ((g1.imp (fun _ z => z) (S2 := NoA) fun x h => h.elim).trans (step_new g1.le' g1.leT np)) (.ow (show ContO (Cx.cn X) (upd H1 p (.lst vs)) p .lst vs from upd_same) (Same.free g1.le' np) ⟨Same.free g1.leT np, trivial⟩ (by simp) o2)
theorem pf_dK {pos : Pos} : PF X (.Dict [] [] pos) frDK := pe_imp pe_dnewK fun σ H Q ⟨T, F, Γ, φ, d, r, e, q⟩ => by
  cases e
  intro p np
  exact q _ _ _ [p] (step_new r.le r.leT np) (.ow (show ContO (Cx.cn X) (upd H p (.dK [])) p (.dic []) [] from ⟨[], upd_same, rfl, rfl⟩) (Same.free r.le np) ⟨Same.free r.leT np, List.nodup_nil⟩ (by simp) .nil)
theorem pf_dT {pos : Pos} : PF X (.Dict [] [] pos) frDT := pe_imp pe_dnewT fun σ H Q ⟨T, F, Γ, φ, d, r, e, q⟩ => by
  cases e
  intro p np
  exact q _ _ _ [p] (step_new r.le r.leT np) (.ow (show ContO (Cx.cn X) (upd H p (.dT [])) p (.dit []) [] from ⟨[], upd_same, rfl, rfl⟩) (Same.free r.le np) ⟨Same.free r.leT np, List.nodup_nil⟩ (by simp) .nil)
/-- a call with what lies for ever; the result is owned -/
def frFn (fn : List D → Option FR) (fa : Gm → Option (List D)) : Gm → Option D := fun Γ => (fa Γ).bind fun ds => if D.all0 ds = true then match fn ds with
  | some (.ret d _) => some d
  | _ => none
  else none
theorem pf_fn {x : Str} {k : Nat} {ps : List Str} {ms : List Nat} {fn : List D → Option FR} {p pos : Pos} {e : Expr} {es : List Expr} {fa : Gm → Option (List D)} (T : Fne X.prog X.w X.K X.mg X.base x k ps ms fn) (hr : Room k X.A) (hg : Gl X x) (ha : PQA X (e :: es) fa)
    {W : WX} (tk : Takes X W)
    (hdb : (x == ("__debug__" : Str)) = false := by decide) (he : starEach (e :: es) X.env = (false, eval e X.env) :: starEach es X.env := by rfl) (hpl : (backTo pos (starEach es X.env)).any (·.1) = false := by rfl) : PF X (.Call (.Name x p) (e :: es) [] pos) (frFn fn fa) := by
  obtain ⟨f, fd, ok, hm, kp, b⟩ := T.ex
  refine pe_imp (pe_callS (E := WE W) ok hr hg hm kp b (fun σ => passAt tk σ) ha hdb he hpl) fun σ H Q ⟨T, F, Γ, φ, d, r, e, q⟩ => ?_
  obtain ⟨ds, ea, e⟩ := bind_some e
  split at e
  case isFalse => cases e
  rename_i h0
  split at e
  case h_2 => cases e
  rename_i d' outs hfn
  cases e
  refine ⟨T, F, Γ, φ, ds, r, ea, fun vs F1 H1 g1 os => ⟨T, F1, ds, fun _ => [], _, ownL_arg g1.le' g1.leT os (all0_iff h0), hfn, ?_⟩⟩
  intro v F2 H2 ψ' U st ow dj ar
  refine q v F2 H2 U ((g1.imp (fun _ z => z) (S2 := NoA) fun x h => h.elim).trans (st.imp (fun x ⟨i, z⟩ => by cases z) fun x h => .inl (.inr h))) ow

/-! ### appends -/
def appAt (Γ : Gm) (i : Nat) (p : List Nat) (d : D) : Option Gm := (Γ[i]?.join).bind fun d0 => match pget p d0 with
  | some (.nd .ow .lst ds) => if ds.length < 100000 then some (Γ.set i (some (pput p (.nd .ow .lst (ds ++ [d])) d0))) else none
  | _ => none
/-- P.append(e), e new -/
def lApp (i : Nat) (fp : Gm → Option (List Nat)) (fe : Gm → Option D) : Gm → Option (Oc D) := fun Γ => (fp Γ).bind fun p => (fe Γ).bind fun d => (appAt Γ i p d).map fun Γ' => .ok .non Γ'
theorem app_run {B : Cb} {T F H : Hp} {σ : L2.St} {Γ Γ' : Gm} {φ : Fp} {i : Nat} {p : List Nat} {d : D} {v0 v x : V} {U : List Addr} (r : Rep ⟨B, T⟩ F H σ Γ φ) (h : appAt Γ i p d = some Γ') (hv : σ[i]? = some (some v0)) (va : VAt B H v0 p x) (ow : Own ⟨B, T⟩ F H v d U) (dU : ∀ z ∈ U, ¬ φ.at z) :
    ∃ a vs, x = .ref a ∧ H a = some (.lst vs) ∧ vs.length < sizeLine ∧ ∃ φ', Rep ⟨B, T⟩ F (upd H a (.lst (vs ++ [v]))) σ Γ' φ' ∧ Step ⟨B, T⟩ F H (fun z => φ.at z ∨ z ∈ U) F (upd H a (.lst (vs ++ [v]))) φ'.at := by
  obtain ⟨d0, e1, h⟩ := bind_some h
  split at h
  · rename_i ds hp
    split at h
    · rename_i hl
      cases h
      obtain ⟨a, vs, S, rfl, cc, os, hS⟩ := place_at r (show atP Γ i p = some (.nd .ow .lst ds) by unfold atP; rw [e1]; exact hp) hv va
      refine ⟨a, vs, rfl, cc, by rw [os.len]; exact Nat.lt_trans hl (by decide), ?_⟩
      obtain ⟨φ', r', h1, st⟩ := mut_at (k' := .lst) (ds' := ds ++ [d]) (o' := .lst (vs ++ [v])) (U := U) r (r.none_at e1) hp hv va dU (fun _ => trivial) (fun vs2 S0 c2 os2 na nU hS0 => by
        have := cc.det c2
        subst this
        exact ⟨vs ++ [v], S0 ++ U, upd_same, (os2.upd na).snoc (ow.upd nU) (fun z hz hz0 => dU z hz (hS0 z hz0)), fun z => (List.mem_append.mp z).elim na nU, fun z hz => List.mem_append.mp hz⟩)
      exact ⟨φ', r', st⟩
    · cases h
  · cases h
theorem pl_app {i : Nat} {o e : Expr} {apos cpos : Pos} {fp : Gm → Option (List Nat)} {fe : Gm → Option D} (ho : PPl X i o fp) (he : PF X e fe)
    (hbase : attributeBase o "append" X.env (eval o X.env) = eval o X.env := by rfl)
    (hfew : ((backTo cpos (starEach [e] X.env)).all (fun x => !x.1) && (backToKw cpos (keywordEach [] X.env)).all (fun x => x.1.isSome)
      && decide (([e] : List Expr).length + ([] : List Keyword).length + (if ([] : List Keyword).isEmpty then 0 else 1) < 30)) = true := by rfl)
    (hline : (apos.endLine == cpos.line) = true := by rfl) (hs : starEach [e] X.env = (false, eval e X.env) :: starEach [] X.env := by rfl) (hplain : (backTo cpos (starEach [] X.env)).any (·.1) = false := by rfl) :
    PL X W (.Call (.Attribute o "append" apos) [e] [] cpos) (lApp i fp fe) := by
  refine pe_imp (pe_bm PySem.F.plainAttrs_list PySem.F.slot_list_append PySem.F.type_list_append mt_append ho (pa_cons he pa_nil hs) hbase hfew hline hs hplain) fun σ H Q ⟨T, F, Γ, φ, oc, r, e, q⟩ => ?_
  obtain ⟨p, ep, e⟩ := bind_some e
  obtain ⟨d, ed, e⟩ := bind_some e
  obtain ⟨Γ', ea, rfl⟩ := map_some e
  refine ⟨T, F, Γ, φ, p, r, ep, fun x v0 F1 H1 g1 hv va => ?_⟩
  have r1 := r.grow g1
  have tyx : tyV X.K "list" x H1 := by
    obtain ⟨d0, e1, h⟩ := bind_some ea
    split at h
    · rename_i ds hp
      obtain ⟨a, vs, S, rfl, cc, os, hS⟩ := place_at r1 (show atP Γ i p = some (.nd .ow .lst ds) by unfold atP; rw [e1]; exact hp) hv va
      exact .inl ⟨rfl, vs, SqL.of cc⟩
    · cases h
  refine ⟨tyx, T, F1, Γ, φ, d, r1, ed, fun v F2 H2 U st2 ow => ?_⟩
  have dU := fresh_dis r1 st2
  have r2 : Rep ⟨Cx.cn X, T⟩ F2 H2 σ Γ φ := r1.step st2 fun _ _ z => z
  obtain ⟨a, vs, rfl, ha, hl, φ', r', st3⟩ := app_run r2 ea hv (va.same fun b o e => st2.keep b o (fun z => z) e) ow dU
  refine ⟨a, vs, v, rfl, rfl, ha, hl, q .non F2 _ φ' [] (((g1.step (S := φ.at) (S' := φ.at) fun _ h => h).trans ((st2.imp (S1 := φ.at) (fun _ z => z.elim) (S2 := fun z => φ.at z ∨ z ∈ U) fun x h => h.elim .inr .inl).trans st3)).imp (fun _ h => h) fun x h => .inl (h.elim id fun z => by cases z)) r' .non fun _ z => by cases z⟩

/-! ### stores -/
def putAt (Γ : Gm) (i : Nat) (p : List Nat) (k d : D) : Option Gm := (Γ[i]?.join).bind fun d0 => match pget p d0 with
  | some (.nd .ow (.dic ks) ds) => (D.key k).bind fun κ => if ks.length < 100000 then some (Γ.set i (some (pput p (.nd .ow (.dic (kput ks κ)) (vput ks ds κ d)) d0))) else none
  | some (.nd .ow (.dit ks) ds) => (D.tkey k).bind fun κ => if ks.length < 100000 then some (Γ.set i (some (pput p (.nd .ow (.dit (kput ks κ)) (vput ks ds κ d)) d0))) else none
  | some (.nd .ow .lst ds) => match k with
    | .int z => (ixN ds.length z).map fun j => Γ.set i (some (pput p (.nd .ow .lst (ds.set j d)) d0))
    | _ => none
  | _ => none
def gPut (i : Nat) (fv : Gm → Option (Oc D)) (fp : Gm → Option (List Nat)) (fk : Gm → Option D) : G := fun Γ => Oc.bind (fv Γ) fun d Γ1 => (fp Γ1).bind fun p => (fk Γ1).bind fun k => (putAt Γ1 i p k d).map fun Γ2 => .ok .nx Γ2
theorem nodup_kput {κ : Type} [DecidableEq κ] {ks : List κ} {k : κ} (h : ks.Nodup) : (kput ks k).Nodup := by
  unfold kput
  cases e : kix ks k with
  | some j => exact h
  | none =>
    have := kix_none.mp e
    rw [List.nodup_append]
    exact ⟨h, by simp, fun a ha b hb => by simp at hb; subst hb; intro z; subst z; exact this ha⟩
theorem Owns.vput {C : Cn} {F H : Hp} {κ : Type} [DecidableEq κ] {ks : List κ} {vs : List V} {ds : List D} {S U : List Addr} {k : κ} {v : V} {d : D} (os : Owns C F H vs ds S) (ow : Own C F H v d U) (h : ∀ x ∈ U, x ∉ S) : ∃ S', Owns C F H (SK.vput ks vs k v) (SK.vput ks ds k d) S' ∧ ∀ x ∈ S', x ∈ S ∨ x ∈ U := by
  unfold SK.vput
  cases kix ks k with
  | none => exact ⟨S ++ U, os.snoc ow h, fun x hx => List.mem_append.mp hx⟩
  | some j => exact os.setAt ow h
theorem pb_put {i : Nat} {o k e : Expr} {pos pos' : Pos} {fv : Gm → Option (Oc D)} {fp : Gm → Option (List Nat)} {fk : Gm → Option D} (hu : X.A.units + 1 < cLine) (hv : PL X W e fv) (ho : PPl X i o fp) (hk : PQ X k fk) (hs : swapsWith e (some (.Subscript o k pos')) pos.line X.env = pure false := by rfl)
    (hss : swapsWithSole [.Subscript o k pos'] e pos.line X.env = pure false := by rfl) (hw : swappedStores [.Subscript o k pos'] e X.env = pure none := by rfl)
    (h1 : (assignEach [.Subscript o k pos'] X.env).map (·.2) = [assign (.Subscript o k pos') X.env] := by rfl)
    (ha : ∀ v, assign (.Subscript o k pos') X.env v = (do
      let ov ← holding [v] (eval o X.env)
      let iv ← holding [v, ov] (eval k X.env)
      standAt pos'
      holding [v, ov, iv] (setItem ov iv v)
      release [v, ov, iv] []) := by intro _; rfl) : PB X W ms (.Assign [.Subscript o k pos'] e pos) (gPut i fv fp fk) := by
  refine ps_imp (ps_or2 (ps_dput hu ho hk hv hs) (ps_asg hv (pg_sub ho hk set_list ha) hss hw h1)) fun E σ H ⟨T, F, Γ, φ, oc, r, e, q⟩ => ?_
  unfold gPut at e
  cases hf : fv Γ with
  | none => rw [hf] at e; cases e
  | some o1 =>
    rw [hf] at e
    cases o1 with
    | ex x Γ' => cases e; exact .inl ⟨T, F, Γ, φ, _, r, hf, fun cls dd F' H' φ' U st rp xr dj => q cls dd σ F' H' φ' U (Pin.refl _ _) st rp xr dj⟩
    | ok d Γ1 =>
      simp only [Oc.bind] at e
      obtain ⟨p, ep, e⟩ := bind_some e
      obtain ⟨kd, ek, e⟩ := bind_some e
      obtain ⟨Γ2, e2, rfl⟩ := map_some e
      obtain ⟨d0, e1, h⟩ := bind_some e2
      -- what all three have in common
      have common : ∀ {k k' : Kd} {ds ds' : List D} {v x y v0 : V} {F1 H1 : Hp} {φ1 : Fp} {U U2 : List Addr} {F2 H2 F3 H3 : Hp} {a : Addr} {o' : HO} {vs : List V}, Step ⟨Cx.cn X, T⟩ F H φ.at F1 H1 (fun x => φ1.at x ∨ x ∈ U) → Rep ⟨Cx.cn X, T⟩ F1 H1 σ Γ1 φ1 → Own ⟨Cx.cn X, T⟩ F1 H1 v d U → (∀ x ∈ U, ¬ φ1.at x) →
          Grow ⟨Cx.cn X, T⟩ F1 H1 F2 H2 → Grow ⟨Cx.cn X, T⟩ F2 H2 F3 H3 → σ[i]? = some (some v0) → VAt (Cx.cn X) H3 v0 p (.ref a) → pget p d0 = some (.nd .ow k ds) → ContO (Cx.cn X) H3 a k vs → (k.Ok → k'.Ok) → 
          (∀ S0, Owns ⟨Cx.cn X, T⟩ F3 (upd H3 a o') vs ds S0 → Own ⟨Cx.cn X, T⟩ F3 (upd H3 a o') v d U → (∀ z ∈ U, z ∉ S0) → ∃ vs' S', ContO (Cx.cn X) (upd H3 a o') a k' vs' ∧ Owns ⟨Cx.cn X, T⟩ F3 (upd H3 a o') vs' ds' S' ∧ ∀ z ∈ S', z ∈ S0 ∨ z ∈ U) →
          Γ2 = Γ1.set i (some (pput p (.nd .ow k' ds') d0)) → E.nx σ (upd H3 a o') := by
        intro k k' ds ds' v x y v0 F1 H1 φ1 U U2 F2 H2 F3 H3 a o' vs st r1 ow dj g2 g3 hv va hp cc hk op eΓ
        have r3 := (r1.grow g2).grow g3
        have ow3 := (ow.grow g2).grow g3
        obtain ⟨φ', r', h1, st'⟩ := mut_at (k' := k') (ds' := ds') (o' := o') (U := U) r3 (r3.none_at e1) hp hv va dj hk (fun vs2 S0 c2 os2 na nU hS0 => by
          have := cc.det c2
          subst this
          obtain ⟨vs', S', q1, q2, q3⟩ := op S0 (os2.upd na) (ow3.upd nU) (fun z hz hz0 => dj z hz (hS0 z hz0))
          exact ⟨vs', S', q1, q2, fun z => (q3 a z).elim na nU, q3⟩)
        subst eΓ
        exact q σ F3 _ φ' (Pin.refl _ _) ((st.trans (Grow.step (g2.trans g3) (S := fun z => φ1.at z ∨ z ∈ U) (S' := fun z => φ1.at z ∨ z ∈ U) fun _ h => h)).trans st') r'
      split at h
      · rename_i ks ds hp
        obtain ⟨κ, hk', h⟩ := bind_some h
        split at h
        case isFalse => cases h
        rename_i hl
        cases h
        refine .inl ⟨T, F, Γ, φ, _, r, hf, fun v F1 H1 φ1 U st r1 ow dj => ⟨T, F1, Γ1, φ1, p, r1, ep, fun x v0 F2 H2 g2 hv va => ⟨T, F2, Γ1, φ1, kd, r1.grow g2, ek, fun y F3 H3 U2 g3 oy uy => ?_⟩⟩⟩
        have va3 := va.same g3.same
        obtain ⟨a, vs, S, rfl, cc, os, hS⟩ := place_at ((r1.grow g2).grow g3) (show atP Γ1 i p = some (.nd .ow (.dic ks) ds) by unfold atP; rw [e1]; exact hp) hv va3
        have cc0 := cc
        obtain ⟨kvs, eH, h1, h2⟩ := cc
        subst h1 h2
        refine ⟨a, _, rfl, .inl ⟨kvs, κ, eH, (key_own oy hk').1, ?_, rfl⟩, common (U2 := []) (x := .non) (y := .non) (k' := .dic (kput (kvs.map Prod.fst) κ)) (ds' := vput (kvs.map Prod.fst) ds κ d) st r1 ow dj g2 g3 hv va3 hp cc0 (fun h => nodup_kput h) (fun S0 os2 ow2 hd2 => ?_) rfl⟩
        · have := os.len
          simp at this hl
          exact Nat.lt_trans hl (by decide)
        · have hn : (kvs.map Prod.fst).Nodup := by
            obtain ⟨v', g1', ow'⟩ := r1.get i d0 (r1.none_at e1)
            obtain ⟨_, _, _, w2, _⟩ := ow'.focus p hp
            cases w2 with
            | ow _ _ tn _ _ => exact tn.2
          obtain ⟨S', q1, q2⟩ := os2.vput (ks := kvs.map Prod.fst) (k := κ) ow2 hd2
          exact ⟨_, S', ⟨_, upd_same, putK_fst _ _ _, rfl⟩, by rw [putK_snd hn]; exact q1, q2⟩
      · rename_i ks ds hp
        obtain ⟨κ, hk', h⟩ := bind_some h
        split at h
        case isFalse => cases h
        rename_i hl
        cases h
        refine .inl ⟨T, F, Γ, φ, _, r, hf, fun v F1 H1 φ1 U st r1 ow dj => ⟨T, F1, Γ1, φ1, p, r1, ep, fun x v0 F2 H2 g2 hv va => ⟨T, F2, Γ1, φ1, kd, r1.grow g2, ek, fun y F3 H3 U2 g3 oy uy => ?_⟩⟩⟩
        have va3 := va.same g3.same
        obtain ⟨a, vs, S, rfl, cc, os, hS⟩ := place_at ((r1.grow g2).grow g3) (show atP Γ1 i p = some (.nd .ow (.dit ks) ds) by unfold atP; rw [e1]; exact hp) hv va3
        have cc0 := cc
        obtain ⟨kvs, eH, h1, h2⟩ := cc
        subst h1 h2
        obtain ⟨b, rfl, hb⟩ := tkey_own g3.le' g3.leT oy hk'
        refine ⟨a, _, rfl, .inr ⟨kvs, κ, b, eH, rfl, hb, ?_, rfl⟩, common (U2 := []) (x := .non) (y := .non) (k' := .dit (kput (kvs.map Prod.fst) κ)) (ds' := vput (kvs.map Prod.fst) ds κ d) st r1 ow dj g2 g3 hv va3 hp cc0 (fun h => nodup_kput h) (fun S0 os2 ow2 hd2 => ?_) rfl⟩
        · have := os.len
          simp at this hl
          exact Nat.lt_trans hl (by decide)
        · have hn : (kvs.map Prod.fst).Nodup := by
            obtain ⟨v', g1', ow'⟩ := r1.get i d0 (r1.none_at e1)
            obtain ⟨_, _, _, w2, _⟩ := ow'.focus p hp
            cases w2 with
            | ow _ _ tn _ _ => exact tn.2
          obtain ⟨S', q1, q2⟩ := os2.vput (ks := kvs.map Prod.fst) (k := κ) ow2 hd2
          exact ⟨_, S', ⟨_, upd_same, putK_fst _ _ _, rfl⟩, by rw [putK_snd hn]; exact q1, q2⟩
      · rename_i ds hp
        split at h
        · rename_i z
          obtain ⟨j, hj, rfl⟩ := map_some h
          refine .inr ⟨T, F, Γ, φ, _, r, hf, fun v F1 H1 φ1 U st r1 ow dj => ⟨T, F1, Γ1, φ1, p, r1, ep, fun x v0 F2 H2 g2 hv va => ⟨T, F2, Γ1, φ1, _, r1.grow g2, ek, fun y F3 H3 U2 g3 oy uy => ?_⟩⟩⟩
          have va3 := va.same g3.same
          obtain ⟨a, vs, S, rfl, cc, os, hS⟩ := place_at ((r1.grow g2).grow g3) (show atP Γ1 i p = some (.nd .ow .lst ds) by unfold atP; rw [e1]; exact hp) hv va3
          obtain ⟨rfl, _⟩ := own_int oy
          refine ⟨a, vs, z, j, rfl, rfl, cc, by rw [os.len]; exact hj, common (U2 := []) (x := .non) (y := .non) (k' := .lst) (ds' := ds.set j d) st r1 ow dj g2 g3 hv va3 hp cc (fun h => trivial) (fun S0 os2 ow2 hd2 => ?_) rfl⟩
          obtain ⟨S', q1, q2⟩ := os2.setAt (j := j) ow2 hd2
          exact ⟨_, S', upd_same, q1, q2⟩
        · cases h
      · cases h
/-! a field stored -/
def fputAt (Γ : Gm) (i : Nat) (p : List Nat) (cs : List Str) (n : Str) (d : D) : Option Gm := (Γ[i]?.join).bind fun d0 => match pget p d0 with
  | some (.nd .ow (.ins c ns) ds) => if c ∈ cs ∧ ns.length < 900 then some (Γ.set i (some (pput p (.nd .ow (.ins c (kput ns n)) (vput ns ds n d)) d0))) else none
  | _ => none
def gFput (i : Nat) (cs : List Str) (n : Str) (fv : Gm → Option (Oc D)) (fp : Gm → Option (List Nat)) : G := fun Γ => Oc.bind (fv Γ) fun d Γ1 => (fp Γ1).bind fun p => (fputAt Γ1 i p cs n d).map fun Γ2 => .ok .nx Γ2
theorem pb_fput {i : Nat} {o e : Expr} {n : Str} {pos pos' : Pos} {fv : Gm → Option (Oc D)} {fp : Gm → Option (List Nat)} {cs mn : List Str} (hT : ∀ c ∈ cs, ClsF (Cx.cn X) c mn) (hn : n ∈ mn) (hv : PL X W e fv) (ho : PPl X i o fp) (hs : swapsWith e (some (.Attribute o n pos')) pos.line X.env = pure false := by rfl) : PB X W ms (.Assign [.Attribute o n pos'] e pos) (gFput i cs n fv fp) := by
  refine ps_imp (ps_fld ho hv hs) fun E σ H ⟨T, F, Γ, φ, oc, r, e, q⟩ => ?_
  unfold gFput at e
  cases hf : fv Γ with
  | none => rw [hf] at e; cases e
  | some o1 =>
    rw [hf] at e
    cases o1 with
    | ex x Γ' => cases e; exact ⟨T, F, Γ, φ, _, r, hf, fun cls dd F' H' φ' U st rp xr dj => q cls dd σ F' H' φ' U (Pin.refl _ _) st rp xr dj⟩
    | ok d Γ1 =>
      simp only [Oc.bind] at e
      obtain ⟨p, ep, e⟩ := bind_some e
      obtain ⟨Γ2, e2, rfl⟩ := map_some e
      obtain ⟨d0, e1, h⟩ := bind_some e2
      split at h
      · rename_i c ns ds hp
        split at h
        case isFalse => cases h
        rename_i hc
        cases h
        refine ⟨T, F, Γ, φ, _, r, hf, fun v F1 H1 φ1 U st r1 ow dj => ⟨T, F1, Γ1, φ1, p, r1, ep, fun x v0 F2 H2 g2 hv va => ?_⟩⟩
        have r2 := r1.grow g2
        obtain ⟨a, vs, S, rfl, cc, os, hS⟩ := place_at r2 (show atP Γ1 i p = some (.nd .ow (.ins c ns) ds) by unfold atP; rw [e1]; exact hp) hv va
        have cc0 := cc
        obtain ⟨Ca, dx, fs, m, eH, h1, h2⟩ := cc
        obtain ⟨Ca', m', cl, na⟩ := (hT c hc.1).ex
        rw [m] at m'; cases m'
        subst h1 h2
        refine ⟨a, Ca, dx, fs, rfl, eH, cl, na n hn, ?_, ?_⟩
        · have := hc.2
          simp at this
          omega
        · obtain ⟨φ', r', h1, st'⟩ := mut_at (k' := .ins c (kput (fs.map Prod.fst) n)) (ds' := vput (fs.map Prod.fst) ds n d) (o' := .ins Ca dx (putF n v fs)) (U := U) r2 (r2.none_at e1) hp hv va dj (fun _ => trivial) (fun vs2 S0 c2 os2 na2 nU hS0 => by
            have := cc0.det c2
            subst this
            obtain ⟨S', q1, q2⟩ := (os2.upd na2).vput (ks := fs.map Prod.fst) (k := n) ((ow.grow g2).upd nU) (fun z hz hz0 => dj z hz (hS0 z hz0))
            exact ⟨_, S', ⟨Ca, dx, _, m, upd_same, putF_fst _ _ _, rfl⟩, by rw [putF_snd]; exact q1, fun z => (q2 a z).elim na2 nU, q2⟩)
          exact q σ F2 _ φ' (Pin.refl _ _) ((st.trans (g2.step (S := fun z => φ1.at z ∨ z ∈ U) (S' := fun z => φ1.at z ∨ z ∈ U) fun _ h => h)).trans st') r'
      · cases h
end
end SK

namespace SK
open PySem PySem.Spec L2
open PyProof.Rows (envOfC)

/-! ### enumerate -/
def asEnum : List D → Option (List D)
  | [.nd f .lst ds] => if f ≠ .ow ∧ D.all0 ds = true ∧ D.noTms ds = true then some (ds.zipIdx.map fun p => .nd .sh .tup [.int (p.2 : Nat), p.1]) else none
  | _ => none
def wEnum (f : Gm → Option (List D)) : Gm → Option (List D) := fun Γ => (f Γ).bind asEnum
section
variable {X : Cx} {W : WX} {ms : List Nat} {tg : Expr}
theorem pwk_enum {e : Expr} {p pos tpos : Pos} {elts : List Expr} {kk : Nat} {f : Gm → Option (List D)} (hg : Gl X "enumerate") (hm : X.mg "enumerate" = none) (ha : PQA X [e] f) (hs : starEach [e] X.env = [(false, eval e X.env)] := by rfl) : PWk X (.Tuple elts kk tpos) (.Call (.Name "enumerate" p) [e] [] pos) (wEnum f) :=
  pi_imp (pi_enum hg hm ha hs) fun σ H R ⟨T, F, Γ, φ, ds, r, e, q⟩ => by
    obtain ⟨d, ed, e⟩ := bind_some e
    refine ⟨T, F, Γ, φ, d, r, ed, fun vs F1 H1 g1 os => ?_⟩
    unfold asEnum at e
    split at e
    · rename_i fg es
      split at e
      · rename_i hc
        cases e
        obtain ⟨v, U, rfl, o1, _⟩ := ownL1 os
        obtain ⟨a, ws, rfl, st⟩ := own_stand hc.1 o1
        refine ⟨a, ws, rfl, (st F1 H1 (Same.refl _) g1.le' g1.leT).1, q _ F1 H1 g1 fun F2 H2 h1 h2 h3 => ?_⟩
        obtain ⟨c, os⟩ := st F2 H2 h1 h2 h3
        refine ⟨fun i d hi => ?_, ⟨ws, c, by rw [os.len]; simp⟩⟩
        rw [List.getElem?_map] at hi
        obtain ⟨⟨d1, n⟩, e1, rfl⟩ := map_some hi
        rw [List.getElem?_zipIdx] at e1
        obtain ⟨d2, e2, e3⟩ := map_some e1
        simp at e3
        obtain ⟨rfl, rfl⟩ := e3
        obtain ⟨w, hw, ow⟩ := os.get0 e2
        refine ⟨⟨ws, w, c, hw⟩, fun x H3 ⟨Ta, y, ex, nT, e4, hx⟩ => ?_⟩
        subst ex e4
        have := hx ws c
        rw [hw] at this; cases this
        have nt : d2.noTm = true := noTms_mem.mp hc.2.2 _ (List.mem_of_getElem? e2)
        exact ⟨_, grow_new h2 h3 nT, own_new_tup h2 h3 nT (by simp [D.noTms, D.noTm, nt]) (.cons (.int _) (.cons ow .nil (fun _ z => by cases z) rfl) (fun _ z => by cases z) rfl)⟩
      · cases e
    · cases e

/-! ### a place moved out of its slot -/
def lMp (i : Nat) (fp : Gm → Option (List Nat)) : Gm → Option (Oc D) := fun Γ => (fp Γ).bind fun p => (atP Γ i p).map fun d => .ok d (Γ.set i none)
theorem pl_mp {i : Nat} {e : Expr} {fp : Gm → Option (List Nat)} (h : PPl X i e fp) (hi : X.N[i]?.isSome = true := by rfl) : PL X W e (lMp i fp) := pe_imp h fun σ H Q ⟨T, F, Γ, φ, o, r, e, q⟩ => by
  obtain ⟨p, ep, e⟩ := bind_some e
  obtain ⟨d, ed, rfl⟩ := map_some e
  obtain ⟨d0, e1, e2⟩ := atP_some ed
  refine ⟨T, F, Γ, φ, p, r, ep, fun v v0 F1 H1 g1 hv va => ?_⟩
  have r1 := r.grow g1
  obtain ⟨v', h1, ow⟩ := r1.get i d0 e1
  rw [hv] at h1; cases h1
  obtain ⟨w, S0, va', ow', hS, _⟩ := ow.focus p e2
  have := va.det va'
  subst this
  refine q v F1 H1 _ S0 ((g1.step (S := φ.at) (S' := φ.at) fun _ h => h).imp (fun _ h => h) fun x h => .inl ?_) (r1.gone (i := i)) ow' fun x hx ⟨j, hj⟩ => ?_
  · rcases h with ⟨j, hj⟩ | h
    · by_cases hji : j = i
      · simp [hji] at hj
      · simp only [hji, if_false] at hj; exact ⟨j, hj⟩
    · exact ⟨i, hS x h⟩
  · by_cases hji : j = i
    · simp [hji] at hj
    · simp only [hji, if_false] at hj
      exact hji (r1.dis j i x hj (hS x hx))

/-! ### P.setdefault(k, []), a place that is made where it is not there -/
def tPlE (B : Cb) (i : Nat) (f : Gm → Option (List Nat × Gm)) : TE := fun σ H Q => ∃ T F Γ φ p Γ', Rep ⟨B, T⟩ F H σ Γ φ ∧ f Γ = some (p, Γ') ∧
  ∀ v v0 F' H' φ', Step ⟨B, T⟩ F H φ.at F' H' φ'.at → Rep ⟨B, T⟩ F' H' σ Γ' φ' → σ[i]? = some (some v0) → VAt B H' v0 p v → Q v H'
abbrev PPlE (X : Cx) (i : Nat) (e : Expr) (f : Gm → Option (List Nat × Gm)) : Prop := PE X e (tPlE (Cx.cn X) i f)
def plSd (i : Nat) (fp : Gm → Option (List Nat)) (fk : Gm → Option D) : Gm → Option (List Nat × Gm) := fun Γ => (fp Γ).bind fun p => (fk Γ).bind fun k => (Γ[i]?.join).bind fun d0 => match pget p d0 with
  | some (.nd .ow (.dic ks) ds) => (D.key k).bind fun κ => if ks.length < 100000 then match kix ks κ with
      | some j => some (p ++ [j], Γ)
      | none => some (p ++ [ks.length], Γ.set i (some (pput p (.nd .ow (.dic (kput ks κ)) (vput ks ds κ (.nd .ow .lst []))) d0)))
    else none
  | _ => none
theorem pget_pput : ∀ (p : List Nat) {d d0 x : D}, pget p d = some d0 → pget p (pput p x d) = some x := by
  intro p
  induction p with
  | nil => intro d d0 x _; rfl
  | cons j p ih =>
    intro d d0 x h
    cases d with
    | nd f k xs =>
      cases f with
      | ow =>
        simp only [pget] at h
        cases e : xs[j]? with
        | none => rw [e] at h; simp at h
        | some y =>
          rw [e] at h
          simp at h
          simp only [pput, e, pget]
          rw [List.getElem?_set_self (List.getElem?_eq_some_iff.mp e).1]
          simpa using ih h
      | sh => simp [pget] at h
      | tm => simp [pget] at h
    | _ => simp [pget] at h
theorem kix_valV {κ : Type} [DecidableEq κ] : ∀ {kvs : List (κ × V)} {k : κ}, kix (kvs.map Prod.fst) k = none ↔ valV kvs k = none := fun {kvs k} => by
  rw [kix_none]
  unfold valV
  rw [Option.map_eq_none_iff, List.find?_eq_none]
  constructor
  · intro h x hx z
    exact h (List.mem_map.mpr ⟨x, hx, of_decide_eq_true z⟩)
  · intro h z
    obtain ⟨x, hx, e⟩ := List.mem_map.mp z
    exact h x hx (decide_eq_true e)
theorem own_ow_mem {C : Cn} {F H : Hp} {a : Addr} {k : Kd} {ds : List D} {S : List Addr} (o : Own C F H (.ref a) (.nd .ow k ds) S) : a ∈ S := by
  cases o with
  | ow c fn tn ni os => exact List.mem_cons_self
theorem VAt.upd {C : Cn} {F H : Hp} {a : Addr} {o' : HO} {k : Kd} {ds : List D} : ∀ (p : List Nat) {v : V} {d : D} {S : List Addr}, Own C F H v d S → pget p d = some (.nd .ow k ds) → VAt C.toCb H v p (.ref a) → VAt C.toCb (L2.upd H a o') v p (.ref a) := by
  intro p
  induction p with
  | nil => intro v d S ow h va; cases va; exact .nil _
  | cons j p ih =>
    intro v d S ow h va
    cases va with
    | cons c hw rest =>
      cases d with
      | nd f k' xs =>
        cases f with
        | ow =>
          simp only [pget] at h
          obtain ⟨dj, ej, h⟩ := bind_some h
          cases ow with
          | ow c' fn tn ni os =>
            have := c'.det c
            subst this
            obtain ⟨w, U, e1, o1, hU⟩ := os.get ej
            rw [hw] at e1; cases e1
            obtain ⟨u, S0, va', ow', hS, _⟩ := o1.focus p h
            have := va'.det rest
            subst this
            have : a ∈ U := hS _ (own_ow_mem ow')
            have hne := ne_of_mem_of_not_mem (hU _ this) ni
            exact .cons (c.congr (upd_ne (Ne.symm hne))) hw (ih o1 h rest)
        | sh => simp [pget] at h
        | tm => simp [pget] at h
      | _ => simp [pget] at h
theorem pple_sd {i : Nat} {o k : Expr} {lpos apos cpos : Pos} {fp : Gm → Option (List Nat)} {fk : Gm → Option D} (ho : PPl X i o fp) (hk : PQ X k fk) (m : M2 X o "setdefault" apos k (.List [] lpos) cpos) : PPlE X i (.Call (.Attribute o "setdefault" apos) [k, .List [] lpos] [] cpos) (plSd i fp fk) := by
  refine pe_imp (pe_dsetd ho hk (pf_lst (pos := lpos) (pqa_nil (X := X))) m) fun σ H Q ⟨T, F, Γ, φ, p', Γ', r, e, q⟩ => ?_
  obtain ⟨p, ep, e⟩ := bind_some e
  obtain ⟨kd, ek, e⟩ := bind_some e
  obtain ⟨d0, e1, h⟩ := bind_some e
  split at h
  · rename_i ks ds hp
    obtain ⟨κ, hk', h⟩ := bind_some h
    split at h
    case isFalse => cases h
    rename_i hl
    have eA : atP Γ i p = some (.nd .ow (.dic ks) ds) := by unfold atP; rw [e1]; exact hp
    refine ⟨T, F, Γ, φ, p, r, ep, fun x v0 F1 H1 g1 hv va => ?_⟩
    have r1 := r.grow g1
    obtain ⟨a, vs, S, rfl, cc, os, hS⟩ := place_at r1 eA hv va
    have cc0 := cc
    obtain ⟨kvs, eH, h1, h2⟩ := cc
    refine ⟨a, rfl, .inl ⟨kvs, .of eH⟩, T, F1, Γ, φ, kd, r1, ek, fun y F2 H2 U2 g2 oy uy => ⟨T, F2, Γ, φ, .nd .ow .lst [], r1.grow g2, rfl, fun z F3 H3 U3 st3 oz => ?_⟩⟩
    have va2 := va.same g2.same
    have r2 := r1.grow g2
    obtain ⟨a2, vs2, S2, ea2, cc2, os2, hS2⟩ := place_at r2 eA hv va2
    cases ea2
    have dU := fresh_dis r2 st3
    have r3 : Rep ⟨Cx.cn X, T⟩ F3 H3 σ Γ φ := r2.step st3 fun _ _ z => z
    have va3 := va2.same fun b o e => st3.keep b o (fun z => z) e
    obtain ⟨a3, vs3, S3, ea3, cc3, os3, hS3⟩ := place_at r3 eA hv va3
    cases ea3
    have cc30 := cc3
    obtain ⟨kvs3, eH3, h13, h23⟩ := cc3
    subst h13 h23
    refine ⟨kvs3, κ, eH3, (key_own oy hk').1, ?_, fun v hvv => ?_, fun hn => ?_⟩
    · have := os3.len
      simp at this hl
      exact Nat.lt_trans hl (by decide)
    · cases ej : kix (kvs3.map Prod.fst) κ with
      | none =>
        rw [kix_valV.mp ej] at hvv
        cases hvv
      | some j =>
        rw [ej] at h
        cases h
        refine q v v0 F3 H3 φ ((Grow.step (g1.trans g2) (S := φ.at) (S' := φ.at) fun _ h => h).trans (st3.imp (fun _ z => z.elim) fun x h => .inr h)) r3 hv (va3.snoc cc30 (by rw [kix_val ej]; exact hvv))
    · have ej : kix (kvs3.map Prod.fst) κ = none := kix_valV.mpr hn
      rw [ej] at h
      cases h
      obtain ⟨v1, g1', ow0⟩ := r3.get i d0 (r3.none_at e1)
      rw [hv] at g1'; cases g1'
      obtain ⟨φ', r', h1, st'⟩ := mut_at (k' := .dic (kput (kvs3.map Prod.fst) κ)) (ds' := vput (kvs3.map Prod.fst) ds κ (.nd .ow .lst [])) (o' := .dK (putK kvs3 κ z)) (U := U3) r3 (r3.none_at e1) hp hv va3 dU (fun h => nodup_kput h) (fun vs2 S0 c2 os2 na nU hS0 => by
        have := cc30.det c2
        subst this
        have hn : (kvs3.map Prod.fst).Nodup := by
          obtain ⟨_, _, _, w2, _⟩ := ow0.focus p hp
          cases w2 with
          | ow _ _ tn _ _ => exact tn.2
        obtain ⟨S', q1, q2⟩ := (os2.upd na).vput (ks := kvs3.map Prod.fst) (k := κ) (oz.upd nU) (fun z hz hz0 => dU z hz (hS0 z hz0))
        exact ⟨_, S', ⟨_, upd_same, putK_fst _ _ _, rfl⟩, by rw [putK_snd hn]; exact q1, fun z => (q2 a z).elim na nU, q2⟩)
      refine q z v0 F3 _ φ' (((Grow.step (g1.trans g2) (S := φ.at) (S' := φ.at) fun _ h => h).trans (st3.imp (S1 := φ.at) (fun _ z => z.elim) (S2 := fun z => φ.at z ∨ z ∈ U3) fun x h => h.elim .inr .inl)).trans st') r' hv ?_
      refine (VAt.upd p ow0 hp va3).snoc (k := .dic (kput (kvs3.map Prod.fst) κ)) ⟨_, upd_same, putK_fst _ _ _, rfl⟩ ?_
      rw [putK_none ej]
      simp
  · cases h
/-- P.append(e), P made where it is not there -/
def lAppE (i : Nat) (fp : Gm → Option (List Nat × Gm)) (fe : Gm → Option D) : Gm → Option (Oc D) := fun Γ => (fp Γ).bind fun p => (fe p.2).bind fun d => (appAt p.2 i p.1 d).map fun Γ' => .ok .non Γ'
theorem pl_appE {i : Nat} {o e : Expr} {apos cpos : Pos} {fp : Gm → Option (List Nat × Gm)} {fe : Gm → Option D} (ho : PPlE X i o fp) (he : PF X e fe)
    (hbase : attributeBase o "append" X.env (eval o X.env) = eval o X.env := by rfl)
    (hfew : ((backTo cpos (starEach [e] X.env)).all (fun x => !x.1) && (backToKw cpos (keywordEach [] X.env)).all (fun x => x.1.isSome)
      && decide (([e] : List Expr).length + ([] : List Keyword).length + (if ([] : List Keyword).isEmpty then 0 else 1) < 30)) = true := by rfl)
    (hline : (apos.endLine == cpos.line) = true := by rfl) (hs : starEach [e] X.env = (false, eval e X.env) :: starEach [] X.env := by rfl) (hplain : (backTo cpos (starEach [] X.env)).any (·.1) = false := by rfl) :
    PL X W (.Call (.Attribute o "append" apos) [e] [] cpos) (lAppE i fp fe) := by
  refine pe_imp (pe_bm PySem.F.plainAttrs_list PySem.F.slot_list_append PySem.F.type_list_append mt_append ho (pa_cons he pa_nil hs) hbase hfew hline hs hplain) fun σ H Q ⟨T, F, Γ, φ, oc, r, e, q⟩ => ?_
  obtain ⟨⟨p, Γ1⟩, ep, e⟩ := bind_some e
  obtain ⟨d, ed, e⟩ := bind_some e
  obtain ⟨Γ', ea, rfl⟩ := map_some e
  refine ⟨T, F, Γ, φ, p, Γ1, r, ep, fun x v0 F1 H1 φ1 st1 r1 hv va => ?_⟩
  have tyx : tyV X.K "list" x H1 := by
    obtain ⟨d0, e1, h⟩ := bind_some ea
    split at h
    · rename_i ds hp
      obtain ⟨a, vs, S, rfl, cc, os, hS⟩ := place_at r1 (show atP Γ1 i p = some (.nd .ow .lst ds) by unfold atP; rw [e1]; exact hp) hv va
      exact .inl ⟨rfl, vs, SqL.of cc⟩
    · cases h
  refine ⟨tyx, T, F1, Γ1, φ1, d, r1, ed, fun v F2 H2 U st2 ow => ?_⟩
  have dU := fresh_dis r1 st2
  have r2 : Rep ⟨Cx.cn X, T⟩ F2 H2 σ Γ1 φ1 := r1.step st2 fun _ _ z => z
  obtain ⟨a, vs, rfl, ha, hl, φ', r', st3⟩ := app_run r2 ea hv (va.same fun b o e => st2.keep b o (fun z => z) e) ow dU
  refine ⟨a, vs, v, rfl, rfl, ha, hl, q .non F2 _ φ' [] ((st1.trans ((st2.imp (S1 := φ1.at) (fun _ z => z.elim) (S2 := fun z => φ1.at z ∨ z ∈ U) fun x h => h.elim .inr .inl).trans st3)).imp (fun _ h => h) fun x h => .inl (h.elim id fun z => by cases z)) r' .non fun _ z => by cases z⟩

/-! ### a walk over a list that a slot owns -/
def loopO (i : Nat) (t : D → Gm → Option Gm) (b : G) : Nat → Nat → G
  | 0, _, _ => none
  | n + 1, j, Γ => match Γ[i]?.join with
    | some (.nd .ow .lst ds) => match ds[j]? with
      | none => some (.ok .nx Γ)
      | some d => if d.hd = true then none else (t d Γ).bind fun Γ1 => match b Γ1 with
        | some (.ok .nx Γ2) => loopO i t b n (j + 1) Γ2
        | some (.ok .ct Γ2) => loopO i t b n (j + 1) Γ2
        | some (.ok .bk Γ2) => some (.ok .nx Γ2)
        | o => o
    | _ => none
def gForO (i : Nat) (t : D → Gm → Option Gm) (b : G) : G := fun Γ => match Γ[i]?.join with
  | some (.nd .ow .lst ds) => loopO i t b (ds.length + 1) 0 Γ
  | _ => none
theorem Rep.own_lst {C : Cn} {F H : Hp} {σ : L2.St} {Γ : Gm} {φ : Fp} {i : Nat} {ds : List D} (r : Rep C F H σ Γ φ) (h : Γ[i]?.join = some (.nd .ow .lst ds)) : ∃ a vs S, σ[i]? = some (some (.ref a)) ∧ H a = some (.lst vs) ∧ Owns C F H vs ds S := by
  obtain ⟨v, h1, ow⟩ := r.get i _ (r.none_at h)
  generalize φ i = S at ow
  cases ow with
  | ow c fn tn ni os => exact ⟨_, _, _, h1, c, os⟩
theorem pb_forO {i : Nat} {x : Str} {p0 : Pos} {tg : Expr} {body : List Stmt} {pos : Pos} {t : D → Gm → Option Gm} {b : G} (hN : X.N[i]? = some x) (hv : Vis X.env.scope x) (hd : (x == ("__debug__" : Str)) = false) (hcd : (x == ("__classdict__" : Str)) = false)
    (hp : PassesOwn (model X.prog X.w) X.A X.env X.xe) (hc : X.calm = true) (hg : PTg X (i :: ms) tg t) (hb : PBs X W (i :: ms) body b)
    (hs : ∀ y, foldedSetIterable (.Name x p0) X.env y = pure y := by intro _; rfl) : PB X W ms (.For tg (.Name x p0) body [] pos) (gForO i t b) := ps_imp (ps_for hp hc (pi_list (pe_var hN hv hd hcd)) hg hb hs) fun E σ H ⟨T, F, Γ, φ, o, r, e, q⟩ => by
  unfold gForO at e
  split at e
  case h_2 => cases e
  rename_i ds0 e0
  obtain ⟨a, vs0, S0, hσ, hH, os0⟩ := r.own_lst e0
  refine ⟨.ref a, hσ, a, rfl, ⟨vs0, .of hH⟩, ?_⟩
  have pm : ∀ {σ' : L2.St}, Pin (i :: ms) σ σ' → Pin ms σ σ' := fun h j hj => h j (List.mem_cons_of_mem _ hj)
  refine ⟨fun j m σ' H' => ∃ F' Γ' φ', Pin (i :: ms) σ σ' ∧ Step ⟨Cx.cn X, T⟩ F H φ.at F' H' φ'.at ∧ Rep ⟨Cx.cn X, T⟩ F' H' σ' Γ' φ' ∧ loopO i t b m j Γ' = some o, ⟨ds0.length + 1, F, Γ, φ, Pin.refl _ _, st_refl r, r, e⟩, ?_⟩
  rintro j m σ' H' ⟨F', Γ', φ', pin, st, rp, el⟩
  cases m with
  | zero => cases el
  | succ m =>
    rw [loopO] at el
    split at el
    case h_2 => cases el
    rename_i ds e1
    obtain ⟨a', vs, S, hσ', hH', os⟩ := rp.own_lst e1
    rw [pin i List.mem_cons_self, hσ] at hσ'
    cases hσ'
    split at el
    · rename_i ed
      cases el
      left
      refine ⟨⟨vs, .of hH', ?_⟩, q σ' F' H' φ' (pm pin) st rp⟩
      rw [os.len]
      exact List.getElem?_eq_none_iff.mp ed
    · rename_i d ed
      split at el
      · cases el
      rename_i hh
      obtain ⟨Γ1, et, el⟩ := bind_some el
      obtain ⟨w, U, hw, ow, hU⟩ := os.get ed
      have := hd_nil ow hh
      subst this
      right
      refine ⟨⟨vs, w, .of hH', hw⟩, fun σ2 H2 => ∃ F2 Γ2 φ2, Pin (i :: ms) σ σ2 ∧ Step ⟨Cx.cn X, T⟩ F H φ.at F2 H2 φ2.at ∧ Rep ⟨Cx.cn X, T⟩ F2 H2 σ2 Γ2 φ2 ∧ loopO i t b m (j + 1) Γ2 = some o, fun σ2 H2 h2 => ⟨m, Nat.lt_succ_self m, h2⟩, fun y H3 ⟨e3, hx⟩ => ?_⟩
      subst e3
      have := hx vs (.of hH')
      rw [hw] at this; cases this
      refine ⟨T, F', Γ', φ', d, [], Γ1, rp, ow, (fun _ z => by cases z), et, fun σ4 φ4 p4 r4 h4 => ?_⟩
      have h4' : ∀ x, φ4.at x → φ'.at x := fun x hx => (h4 x hx).elim id fun z => by cases z
      have st4 : Step ⟨Cx.cn X, T⟩ F H φ.at F' H3 φ4.at := st.imp (fun _ h => h) fun x hx => .inl (h4' x hx)
      cases hob : b Γ1 with
      | none => rw [hob] at el; cases el
      | some ob =>
        rw [hob] at el
        refine ⟨T, F', Γ1, φ4, ob, r4, hob, ?_⟩
        cases ob with
        | ex xc Γ5 => cases el; exact fun cls dd σ5 F5 H5 φ5 U p5 s5 r5 xr dj => q cls dd σ5 F5 H5 φ5 U (pm ((pin.trans p4).trans p5)) (st4.trans s5) r5 xr dj
        | ok fw Γ5 => cases fw with
          | rt d => cases el; exact fun v σ5 F5 H5 φ5 U p5 s5 r5 ow5 dj => q v σ5 F5 H5 φ5 U (pm ((pin.trans p4).trans p5)) (st4.trans s5) r5 ow5 dj
          | bk => cases el; exact fun σ5 F5 H5 φ5 p5 s5 r5 => q σ5 F5 H5 φ5 (pm ((pin.trans p4).trans p5)) (st4.trans s5) r5
          | nx => exact fun σ5 F5 H5 φ5 p5 s5 r5 => ⟨F5, Γ5, φ5, (pin.trans p4).trans p5, st4.trans s5, r5, el⟩
          | ct => exact fun σ5 F5 H5 φ5 p5 s5 r5 => ⟨F5, Γ5, φ5, (pin.trans p4).trans p5, st4.trans s5, r5, el⟩
end
end SK

namespace SK
open PySem PySem.Spec L2
open PyProof.Rows (envOfC)

/-! ### a new instance -/
structure Mke (P : Program) (w : World) (K : PySem.W.Frag) (mg : Str → Option Value) (base : Heap) (c : Str) (k : Nat) (ps : List Str) (fn : List D → Option FR) : Prop where
  ex : ∃ Ca f fd, mg c = some (.ref Ca) ∧ Mk K Ca f ∧ FnOk P w K mg base (L2.CX P w) k f fd ps (spD ⟨K, mg⟩ [0] fn) ∧ Binds K fd ps []
theorem passes_no {X : Cx} : Passes (L2.CX X.prog X.w) X (fun _ _ _ => False) := fun pins σ H s e s' I c => passAt (W := fun _ _ _ _ => False) takes0 σ pins H s e s' I c
def frMk (c : Str) (fn : List D → Option FR) (fa : Gm → Option (List D)) : Gm → Option D := fun Γ => (fa Γ).bind fun ds => if D.all0 ds = true then match fn (.nd .ow (.ins c []) [] :: ds) with
  | some (.ret .non [d0]) => some d0
  | _ => none
  else none
section
variable {X : Cx} {W : WX} {ms : List Nat}
theorem step_new2 {C : Cn} {F H : Hp} {p q : Addr} {o o' : HO} (s : Same F H) (st : Same C.T H) (n : H p = none) (n' : H q = none) : Step C F H NoA F (upd (upd H q o') p o) (· ∈ [p]) := by
  have up : ∀ {b : Addr} {u : HO}, H b = some u → upd (upd H q o') p o b = some u := fun {b u} e => by rw [upd_ne (ne_of_none e n), upd_ne (ne_of_none e n')]; exact e
  refine ⟨Same.refl F, fun a u e => up (s _ _ e), fun a u e => up (st _ _ e), fun a u _ e => up e, fun a e => ?_, fun a u e => .inl e, fun a h => ?_⟩
  · cases q0 : H a with
    | none => rfl
    | some u => rw [up q0] at e; cases e
  · simp at h; subst h; exact .inr n
theorem make_imp {c : Str} {Ca : Addr} {fn : List D → Option FR} {fa : Gm → Option (List D)} (hm : X.mg c = some (.ref Ca)) {σ : L2.St} {H : Hp} {Q : VK} (h : tFr (Cx.cn X) (frMk c fn fa) σ H Q) : tMake Ca (spD (Cx.cn X) [0] fn) [] (fun _ _ _ => False) (tQA (Cx.cn X) fa) σ H Q := by
  obtain ⟨T, F, Γ, φ, d, r, e, q⟩ := h
  obtain ⟨ds, ea, e⟩ := bind_some e
  split at e
  case isFalse => cases e
  rename_i h0
  split at e
  case h_2 => cases e
  rename_i d0 hfn
  obtain rfl : d0 = d := by simpa using e
  refine ⟨T, F, Γ, φ, ds, r, ea, fun vs F1 H1 g1 os x dx nx nd ne => ?_⟩
  have st2 : Step ⟨Cx.cn X, T⟩ F1 H1 NoA F1 (upd (upd H1 dx (.own x)) x (.ins Ca dx [])) (· ∈ [x]) := step_new2 g1.le' g1.leT nx nd
  have own0 : Own ⟨Cx.cn X, T⟩ F1 (upd (upd H1 dx (.own x)) x (.ins Ca dx [])) (.ref x) (.nd .ow (.ins c []) []) [x] :=
    .ow (show ContO (Cx.cn X) _ x (.ins c []) [] from ⟨Ca, dx, [], hm, upd_same, rfl, rfl⟩) (Same.free g1.le' nx) ⟨Same.free g1.leT nx, trivial⟩ (by simp) .nil
  have ar := ownL_arg g1.le' g1.leT os (all0_iff h0)
  have len : (vs ++ []).length = ds.length := by have := ar.len; simp at this ⊢; exact this
  refine ⟨T, F1, .nd .ow (.ins c []) [] :: ds, fun j => if j = 0 then [x] else [], _, ?_, hfn, ?_⟩
  · refine ⟨st2.le', st2.leT, by simp [← len], fun i d hi => ?_, fun i j a h1 h2 => ?_, fun i hi => ?_⟩
    · cases i with
      | zero => simp at hi; subst hi; exact ⟨_, rfl, own0⟩
      | succ i =>
        have hi' : (ds.map some)[i]? = some (some d) := by simpa using hi
        obtain ⟨v, e1, e2⟩ := ar.get i d hi'
        exact ⟨v, by simpa using e1, by simpa using e2.step st2 fun _ z => by cases z⟩
    · by_cases hi : i = 0 <;> by_cases hj : j = 0 <;> simp [hi, hj] at h1 h2 ⊢
    · by_cases h : i = 0
      · subst h; exact ⟨_, rfl⟩
      · simp [h] at hi
  · intro v F' H' ψ' U st ow dj ar'
    refine ⟨(own_non ow).1, ?_⟩
    obtain ⟨w, e1, e2⟩ := ar'.get 0 d0 rfl
    simp [pick] at e1
    subst e1
    refine q _ F' H' (ψ' 0) (((g1.imp (fun _ z => z) (S2 := NoA) fun x h => h.elim).trans ((st2.imp (S1 := NoA) (fun _ z => z) fun x h => .inl h).trans (st.imp (S1 := (· ∈ [x])) (fun y ⟨j, hj⟩ => ?_) (S2 := (· ∈ ψ' 0)) fun y h => .inl (.inl ⟨0, h⟩)))) ) e2
    by_cases h : j = 0
    · simpa [h] using hj
    · simp [h] at hj
theorem pf_make {c : Str} {k : Nat} {ps : List Str} {fn : List D → Option FR} {p pos : Pos} {e : Expr} {es : List Expr} {fa : Gm → Option (List D)} (M : Mke X.prog X.w X.K X.mg X.base c k ps fn) (hr : Room (k + 1) X.A) (hg : Gl X c) (ha : PQA X (e :: es) fa)
    (hdb : (c == ("__debug__" : Str)) = false := by decide) (he : starEach (e :: es) X.env = (false, eval e X.env) :: starEach es X.env := by rfl) (hpl : (backTo pos (starEach es X.env)).any (·.1) = false := by rfl) : PF X (.Call (.Name c p) (e :: es) [] pos) (frMk c fn fa) := by
  obtain ⟨Ca, f, fd, hm, m, ok, b⟩ := M.ex
  exact pe_imp (pe_make m ok hr hg hm b .nil passes_no ha hdb he hpl) fun σ H Q h => make_imp hm h
theorem pf_make0 {c : Str} {k : Nat} {ps : List Str} {fn : List D → Option FR} {p pos : Pos} (M : Mke X.prog X.w X.K X.mg X.base c k ps fn) (hr : Room (k + 1) X.A) (hg : Gl X c)
    (hdb : (c == ("__debug__" : Str)) = false := by decide) : PF X (.Call (.Name c p) [] [] pos) (frMk c fn qNil) := by
  obtain ⟨Ca, f, fd, hm, m, ok, b⟩ := M.ex
  refine pe_imp (pe_make0 m ok hr hg hm b .nil passes_no hdb) fun σ H Q h => ?_
  have := make_imp hm h
  obtain ⟨T, F, Γ, φ, d, r, e, q⟩ := this
  cases e
  exact q [] F H (Step.refl r.le r.leT) .nil

/-! ### raise C('m') of an own class without __init__ -/
structure XcO (K : PySem.W.Frag) (mg : Str → Option Value) (c : Str) : Prop where
  ex : ∃ (C : Addr) (bmB : List Value) (B newId initId : String), ExcBaseFacts B newId initId bmB ∧ PySem.W.excIn K C bmB newId = true ∧ mg c = some (.ref C) ∧ PySem.W.keepIn K (.ref C) = true ∧ PySem.W.subIn K (.ref C) (.type "BaseException") = some true ∧ PySem.W.typeIn K (.ref C) = some (.type "type")
def gRaise (c : Str) : G := fun Γ => some (.ex ⟨c, none⟩ Γ)
theorem pb_raise {c m : Str} {j : Nat} {p p2 pos pos' : Pos} (hc : X.calm = true) (tk : Takes X W) (T : XcO X.K X.mg c) (hg : Gl X c) (hdb : (c == ("__debug__" : Str)) = false := by decide) : PB X W ms (.Raise (some (.Call (.Name c p) [.Constant (.str m) j p2] [] pos)) none pos') (gRaise c) := by
  obtain ⟨C, bmB, B, n1, n2, F, q1, gC, kC, h1, h2⟩ := T.ex
  refine ps_imp (ps_raise hc tk (pmk_own F q1 gC kC (raises_own h1 h2) hg hdb)) fun E σ H ⟨T, F, Γ, φ, o, r, e, q⟩ => ?_
  cases e
  exact q _ _ σ F H φ [] (Pin.refl _ _) ((st_refl r).imp (fun _ h => h) fun x h => .inl (h.elim id fun z => by cases z)) r ⟨C, gC, rfl, rfl, rfl⟩ fun _ z => by cases z

/-! ### an exception with two fields -/
def spX (C : Addr) (f1 f2 : Str) : Sp := fun vs H Q E => ∃ a w1 w2, vs = [.ref a, w1, w2] ∧ H a = some (exo a C none) ∧ ∀ dx, H dx = none → dx ≠ a → Q .non (upd (upd H dx (exd dx [(f2, w2), (f1, w1)])) a (exo a C (some dx)))
structure XcI (P : Program) (w : World) (K : PySem.W.Frag) (mg : Str → Option Value) (base : Heap) (c f1 f2 : Str) (k : Nat) : Prop where
  ex : ∃ (C fI : Addr) (fd : FuncData) (ps : List Str), mg c = some (.ref C) ∧ OexC K C ∧ PySem.W.findIn K (.ref C) "__init__" = some (some (.ref fI)) ∧ PySem.W.typeIn K (.ref fI) = some (.type "function") ∧ FnOk P w K mg base (L2.CX P w) k fI fd ps (spX C f1 f2) ∧ Binds K fd ps []
theorem init2_ok {P : Program} {w : World} {K : PySem.W.Frag} {mg : Str → Option Value} {base : Heap} {x qual : Str} {params : Arguments} {scope : Scope} {fI C : Addr} {fd : FuncData} {N ps : List Str} {f1 f2 n0 n1 n2 : Str} {k : Nat} {p1 p2 p3 p4 p5 p6 q1 q2 : Pos}
    (F : FunD K x qual params [.Assign [.Attribute (.Name n0 p1) f1 p2] (.Name n1 p3) q1, .Assign [.Attribute (.Name n0 p4) f2 p5] (.Name n2 p6) q2] scope [] [] fI fd) (S : FnScope N ps scope) (hps : ps.length = 3) (hN : N = [n0, n1, n2]) (T : OexC K C)
    (h1 : PySem.W.findIn K (.ref C) f1 = some none) (h2 : PySem.W.findIn K (.ref C) f2 = some none)
    (v0 : Vis scope n0) (v1 : Vis scope n1) (v2 : Vis scope n2) (d0 : (n0 == ("__debug__" : Str)) = false := by decide) (d1 : (n1 == ("__debug__" : Str)) = false := by decide) (d2 : (n2 == ("__debug__" : Str)) = false := by decide)
    (c0 : (n0 == ("__classdict__" : Str)) = false := by decide) (c1 : (n1 == ("__classdict__" : Str)) = false := by decide) (c2 : (n2 == ("__classdict__" : Str)) = false := by decide) :
    FnOk P w K mg base (L2.CX P w) (k + 1) fI fd ps (spX C f1 f2) := by
  subst hN
  refine F.ok S (fun vs H Q E ⟨a, w1, w2, e, _⟩ => by rw [e, hps]; rfl) fun cdv A outer s H vs Q E hr h => ⟨_, pss_cons (ps_ost (pe_var (i := 0) rfl v0 d0 c0) (pe_var (i := 1) rfl v1 d1 c1) (by rfl)) (pss_one (ps_ost (pe_var (i := 0) rfl v0 d0 c0) (pe_var (i := 2) rfl v2 d2 c2) (by rfl))), ?_⟩
  obtain ⟨a, w1, w2, rfl, ha, q⟩ := h
  refine ⟨w1, rfl, .ref a, rfl, a, C, rfl, T, h1, .inl ⟨ha, fun dx nd ne => ⟨w2, rfl, .ref a, rfl, a, C, rfl, T, h2, .inr ⟨dx, [(f1, w1)], upd_same, by rw [upd_ne ne]; exact upd_same, by simp, ?_⟩⟩⟩⟩
  have e : upd (upd (upd H dx (exd dx [(f1, w1)])) a (exo a C (some dx))) dx (exd dx [(f2, w2), (f1, w1)]) = upd (upd H dx (exd dx [(f2, w2), (f1, w1)])) a (exo a C (some dx)) := by
    funext b
    by_cases hb : b = dx
    · subst hb; rw [upd_same, upd_ne ne, upd_same]
    · rw [upd_ne hb]
      by_cases hb2 : b = a
      · subst hb2; rw [upd_same, upd_same]
      · rw [upd_ne hb2, upd_ne hb2, upd_ne hb, upd_ne hb]
  show Q .non (upd (upd (upd H dx (exd dx [(f1, w1)])) a (exo a C (some dx))) dx (exd dx [(f2, w2), (f1, w1)]))
  rw [e]
  exact q dx nd ne
/-- raise C(a, b) -/
def gRaise2 (c f1 f2 : Str) (fa : Gm → Option (Oc (List AV))) : G := fun Γ => Oc.bind (fa Γ) fun avs Γ1 => match avs with
  | [.val d1, .val d2] => some (.ex ⟨c, some ([f2, f1], [d2, d1])⟩ Γ1)
  | _ => none
theorem pb_raise2 {c f1 f2 : Str} {k : Nat} {e1 e2 : Expr} {p pos pos' : Pos} {fa : Gm → Option (Oc (List AV))} (hc : X.calm = true) (tk : Takes X W) (T : XcI X.prog X.w X.K X.mg X.base c f1 f2 k) (hr : Room (k + 1) X.A) (hg : Gl X c) (ha : PLA X W [e1, e2] fa)
    (hdb : (c == ("__debug__" : Str)) = false := by decide) (he : starEach [e1, e2] X.env = (false, eval e1 X.env) :: starEach [e2] X.env := by rfl) (hpl : (backTo pos (starEach [e2] X.env)).any (·.1) = false := by rfl) : PB X W ms (.Raise (some (.Call (.Name c p) [e1, e2] [] pos)) none pos') (gRaise2 c f1 f2 fa) := by
  obtain ⟨C, fI, fd, ps, gC, oex, iC, tI, ok, b⟩ := T.ex
  refine ps_imp (ps_raise hc tk (pmk_oex oex iC tI ok hr b .nil passes_no hg gC ha hdb he hpl)) fun E σ H ⟨T, F, Γ, φ, o, r, e, q⟩ => ?_
  unfold gRaise2 at e
  cases ho : fa Γ with
  | none => rw [ho] at e; cases e
  | some oc =>
    rw [ho] at e
    cases oc with
    | ex xc Γ' => cases e; exact ⟨T, F, Γ, φ, _, r, ho, fun cls dd F' H' φ' U st rp xr dj => q cls dd σ F' H' φ' U (Pin.refl _ _) st rp xr dj⟩
    | ok avs Γ1 =>
      simp only [Oc.bind] at e
      split at e
      case h_2 => cases e
      rename_i d1 d2
      cases e
      refine ⟨T, F, Γ, φ, _, r, ho, fun vs F1 H1 φ1 τ st1 r1 as dj => ?_⟩
      obtain ⟨v1, g1, o1⟩ := as.val 0 d1 rfl
      obtain ⟨v2, g2, o2⟩ := as.val 1 d2 rfl
      have ev : vs = [v1, v2] := by
        have l := as.len
        cases vs with
        | nil => simp at l
        | cons x xs => cases xs with
          | nil => simp at l
          | cons y ys => cases ys with
            | nil => simp at g1 g2; subst g1 g2; rfl
            | cons z zs => simp at l
      subst ev
      have nd1' : ∀ {a : Addr} (dx : Addr), upd H1 a (exo a C none) dx = none → dx ≠ a → H1 dx = none := fun {a} dx nd ne => by rw [upd_ne ne] at nd; exact nd
      refine ⟨by simp, fun a na => ⟨a, v1, v2, rfl, upd_same, fun dx nd ne => ⟨rfl, dx, _, upd_same, by rw [upd_ne ne]; exact upd_same, nd1' dx nd ne, ?_⟩⟩⟩
      have nd1 : H1 dx = none := by rw [upd_ne ne] at nd; exact nd
      have eH : upd (del (upd (upd (upd H1 a (exo a C none)) dx (exd dx [(f2, v2), (f1, v1)])) a (exo a C (some dx))) a) dx (.xd [(f2, v2), (f1, v1)]) = upd H1 dx (.xd [(f2, v2), (f1, v1)]) := by
        funext b
        by_cases hb : b = dx
        · subst hb; rw [upd_same, upd_same]
        · rw [upd_ne hb, upd_ne hb]
          by_cases hb2 : b = a
          · subst hb2; rw [del_same, na]
          · rw [del_ne hb2, upd_ne hb2, upd_ne hb, upd_ne hb2]
      show W (.ref C) (some dx) σ _
      rw [eH]
      have stx : Step ⟨Cx.cn X, T⟩ F1 H1 NoA F1 (upd H1 dx (.xd [(f2, v2), (f1, v1)])) NoA := (step_new r1.le r1.leT nd1).imp (fun _ z => z) fun _ z => z.elim
      have dis12 : ∀ x ∈ τ 1, x ∉ τ 0 := fun x h1 h0 => by cases as.dis 0 1 x h0 h1
      refine q (.ref C) (some dx) σ F1 _ φ1 (τ 1 ++ τ 0) (Pin.refl _ _) ((st1.imp (fun _ h => h) fun x h => ?_).trans (Grow.step stx (S := fun x => φ1.at x ∨ x ∈ τ 1 ++ τ 0) (S' := fun x => φ1.at x ∨ x ∈ τ 1 ++ τ 0) fun _ h => h)) (r1.grow stx) ⟨C, gC, rfl, dx, _, rfl, upd_same, rfl, .cons (o2.grow stx) (.cons (o1.grow stx) .nil (fun _ _ z => by cases z) (by simp)) (fun x hx => dis12 x hx) rfl⟩ fun x hx => ?_
      · rcases h with h | h
        · exact .inl (.inl h)
        · rcases List.mem_append.mp h with h | h
          · exact .inl (.inr ⟨1, h⟩)
          · exact .inl (.inr ⟨0, h⟩)
      · rcases List.mem_append.mp hx with h | h
        · exact dj x ⟨1, h⟩
        · exact dj x ⟨0, h⟩

/-! ### try: .. except C as n: t = (n.f1, n.f2) -/
def gTryPair (c f1 f2 : Str) (i j : Nat) (b : G) : G := fun Γ => match b Γ with
  | some (.ex ⟨c', some ([n2, n1], [d2, d1])⟩ Γ') => if c' = c ∧ n2 = f2 ∧ n1 = f1 ∧ i < Γ'.length ∧ j < Γ'.length then some (.ok .nx ((Γ'.set i none).set j (some (.nd .ow .tup [d1, d2])))) else none
  | some (.ok fw Γ') => some (.ok fw Γ')
  | _ => none
theorem pb_tryPair {c nm tgt f1 f2 : Str} {C : Addr} {i j kk : Nat} {body : List Stmt} {np tp p1 p2 p3 p4 p5 p6 pos pos' : Pos} {g : G} (hs : X.stack = X.env :: X.outer) (hf : X.env.frame = some X.env.locals) (hN : X.N.Nodup) (hi : X.N[i]? = some nm) (hj : X.N[j]? = some tgt) (hij : i ≠ j)
    (hln : X.env.kindOf nm = some .local) (hv : Vis X.env.scope nm) (hxj : Loc X.env.scope tgt) (hgl : Gl X c) (hdb : (c == ("__debug__" : Str)) = false) (hm : X.mg c = some (.ref C)) (hx : PySem.W.exmOne X.K (.ref C) (.ref C) = some true) (xf : XfC X.K C) (h1 : PySem.W.findIn X.K (.ref C) f1 = some none)
    (h2 : PySem.W.findIn X.K (.ref C) f2 = some none) (h12 : f1 ≠ f2) (tk : Takes X W) (hni : i ∉ ms) (hnj : j ∉ ms) (hd1 : (nm == ("__debug__" : Str)) = false) (hd2 : (nm == ("__classdict__" : Str)) = false) (hfn : X.fn tgt = true ∨ X.env.scope.names.lookup tgt = some .local)
    (hb : ∀ (W' : WX) (pn : List (Addr × Obj)) (xe : Value → Shared → Prop), Takes (X.tr pn xe) W' → PassesOwn (model X.prog X.w) X.A X.env xe → PBs (X.tr pn xe) W' ms body g)
    (ha1 : attributeBase (.Name nm p1) f1 X.env (eval (.Name nm p1) X.env) = eval (.Name nm p1) X.env) (ha2 : attributeBase (.Name nm p3) f2 X.env (eval (.Name nm p3) X.env) = eval (.Name nm p3) X.env)
    (hst : ∀ (a : Addr) pn, starEach [.Attribute (.Name nm p1) f1 p2, .Attribute (.Name nm p3) f2 p4] (X.suite a pn).env = (false, eval (.Attribute (.Name nm p1) f1 p2) (X.suite a pn).env) :: starEach [.Attribute (.Name nm p3) f2 p4] (X.suite a pn).env)
    (hst2 : ∀ (a : Addr) pn, starEach [.Attribute (.Name nm p3) f2 p4] (X.suite a pn).env = (false, eval (.Attribute (.Name nm p3) f2 p4) (X.suite a pn).env) :: starEach [] (X.suite a pn).env)
    (hsw : swapsWith (.Tuple [.Attribute (.Name nm p1) f1 p2, .Attribute (.Name nm p3) f2 p4] kk p5) (some (.Name tgt tp)) p6.line X.env = pure false) :
    PB X W ms (.Try body [.ExceptHandler (some (.Name c np)) (some nm) [.Assign [.Name tgt tp] (.Tuple [.Attribute (.Name nm p1) f1 p2, .Attribute (.Name nm p3) f2 p4] kk p5) p6] pos'] [] [] pos) (gTryPair c f1 f2 i j g) := by
  refine ps_imp (ps_try_as hs hf hN hi hln ⟨hgl, hdb, .inl hm⟩ tk (tb := fun W' => tS (Cx.cn X) W' ms g) hb (ts := fun a cls d => tAsg (tTup (tCons (tXf a cls d C f1 (tVar i)) (tCons (tXf a cls d C f2 (tVar i)) tNil))) (gName j)) (fun a oe cls d pn hz hfv => pss_one (ps_set hN hj hxj (pe_tup (pa_cons (pe_xf xf h1 hz hfv (pe_var hi hv hd1 hd2) ha1) (pa_cons (pe_xf xf h2 hz hfv (pe_var hi hv hd1 hd2) ha2) pa_nil (hst2 _ _)) (hst _ _))) hsw hfn))) fun E σ H ⟨T, F, Γ, φ, o, r, e, q⟩ => ?_
  unfold gTryPair at e
  cases hg : g Γ with
  | none => rw [hg] at e; cases e
  | some ob =>
    rw [hg] at e
    refine ⟨T, F, Γ, φ, ob, r, hg, ?_⟩
    cases ob with
    | ok fw Γ' => cases e; cases fw <;> exact q
    | ex xc Γ' =>
      obtain ⟨c', fs⟩ := xc
      split at e
      · rename_i heq
        cases heq
        split at e
        · rename_i hc
          obtain ⟨rfl, rfl, rfl, hil, hjl⟩ := hc
          cases e
          rename_i d2 d1 _
          intro cls dd σ' F' H' φ' U pin st rp ⟨Ca, m, ec, xr⟩ dj
          obtain ⟨xa, fs, rfl, eH, en, os⟩ := xr
          have m' : X.mg c' = some (.ref Ca) := m
          rw [hm] at m'
          cases m'
          subst ec
          match fs, en, os, eH with
          | [(g2, w2), (g1, w1)], en, .cons (S := U2) o2 (.cons (S := U1) o1 .nil dj1 e1) dj2 e2, eH =>
          simp at en
          obtain ⟨rfl, rfl⟩ := en
          have eU : U = U2 ++ U1 := by rw [e2, e1]; simp
          subst eU
          have hlen : i < σ'.length := by rw [rp.len]; exact hil
          have hσ : ∀ a : Addr, (σ'.set i (some (V.ref a)))[i]? = some (some (.ref a)) := fun a => by rw [List.getElem?_set_self hlen]
          have l1 : List.lookup g1 [(g2, w2), (g1, w1)] = some w1 := by
            rw [fs_lookup]; unfold valV; simp [List.find?, Ne.symm h12]
          have l2 : List.lookup g2 [(g2, w2), (g1, w1)] = some w2 := by
            rw [fs_lookup]; unfold valV; simp [List.find?]
          refine ⟨true, hx, fun _ a na => ⟨.ref a, hσ a, rfl, rfl, xa, _, w1, rfl, eH, l1, .ref a, hσ a, rfl, rfl, xa, _, w2, rfl, eH, l2, ?_⟩, fun z => by cases z⟩
          refine ⟨by show 2 ≤ sizeLine; rw [sizeLine_eq]; omega, fun p np => ?_⟩
          have stp := step_new (o := .tup [w1, w2]) rp.le rp.leT np
          have r2 : Rep ⟨Cx.cn X, T⟩ F' (upd H' p (.tup [w1, w2])) (σ'.set i none) (Γ'.set i none) (fun j => if j = i then [] else φ' j) := (rp.drop (i := i) (z := none)).step stp fun _ _ z => z
          have pn : ∀ x, x ∈ U2 ++ U1 → x ≠ p := fun x hx e => by
            rcases List.mem_append.mp hx with h | h
            · obtain ⟨_, _, o, eo⟩ := o2.alive x h; rw [e, np] at eo; cases eo
            · obtain ⟨_, _, o, eo⟩ := o1.alive x h; rw [e, np] at eo; cases eo
          have own : Own ⟨Cx.cn X, T⟩ F' (upd H' p (.tup [w1, w2])) (.ref p) (.nd .ow .tup [d1, d2]) (p :: (U1 ++ (U2 ++ []))) :=
            .ow upd_same (Same.free rp.le np) ⟨Same.free rp.leT np, trivial⟩ (fun h => by
              rcases List.mem_append.mp h with h | h
              · exact pn p (List.mem_append_right _ h) rfl
              · exact pn p (List.mem_append_left _ (by simpa using h)) rfl) (.cons (o1.step stp fun _ _ z => z) (.cons (o2.step stp fun _ _ z => z) .nil (fun _ _ z => by cases z) rfl) (fun x h1 h2 => by
              have h2' : x ∈ U2 := by simpa using h2
              exact dj2 x h2' (by rw [e1]; simpa using h1)) rfl)
          have r3 := r2.set (i := j) (by simpa using hjl) own fun x hx ⟨k, hk⟩ => by
            have hk' : x ∈ φ' k := by
              by_cases h : k = i
              · simp [h] at hk
              · simpa [h] using hk
            rcases List.mem_cons.mp hx with h | h
            · obtain ⟨_, _, o, eo⟩ := rp.alive ⟨k, hk'⟩
              rw [h, np] at eo; cases eo
            · refine dj x ?_ ⟨k, hk'⟩
              rcases List.mem_append.mp h with h | h
              · exact List.mem_append_right _ h
              · exact List.mem_append_left _ (by simpa using h)
          have es : ((σ'.set i (some (V.ref a))).set j (some (.ref p))).set i none = (σ'.set i none).set j (some (.ref p)) := by
            rw [List.set_comm _ _ (Ne.symm hij), List.set_set]
          show E.nx (((σ'.set i (some (V.ref a))).set j (some (.ref p))).set i none) _
          rw [es]
          refine q _ F' _ _ ((pin.trans (Pin.set hni)).trans (Pin.set hnj)) ((st.imp (fun _ h => h) (S2 := fun x => φ'.at x ∨ x ∈ U2 ++ U1) fun x h => .inl h).trans (stp.imp (fun _ z => z.elim) fun x h => ?_)) r3
          rcases Rep.set_at (C := ⟨Cx.cn X, T⟩) (F := F') (H := H') h with ⟨k, hk⟩ | h
          · by_cases h : k = i
            · simp [h] at hk
            · exact .inr (.inl ⟨k, by simpa [h] using hk⟩)
          · rcases List.mem_cons.mp h with h | h
            · exact .inl (by simp [h])
            · right; right
              rcases List.mem_append.mp h with h | h
              · exact List.mem_append_right _ h
              · exact List.mem_append_left _ (by simpa using h)
        · cases e
      · rename_i heq; cases heq
      · cases e
end
end SK

namespace SK
open PySem PySem.Spec L2
open PyProof.Rows (envOfC)

/-! ### the operators by name -/
def dAdd := dI fun i j => some (.int (i + j))
def dSubt := dI fun i j => some (.int (i - j))
def okMul (i j : Int) : Prop := (-(2 ^ 64) < i ∧ i < 2 ^ 64) ∨ (-(2 ^ 64) < j ∧ j < 2 ^ 64)
instance (i j : Int) : Decidable (okMul i j) := by unfold okMul; infer_instance
def dMul := dI fun i j => if okMul i j then some (.int (i * j)) else none
def okDiv (i j : Int) : Prop := 0 < j ∧ j < 1073741824
instance (i j : Int) : Decidable (okDiv i j) := by unfold okDiv; infer_instance
def dDiv := dI fun i j => if okDiv i j then some (.int (i / j)) else none
def okMod (i j : Int) : Prop := 0 < j
instance (i j : Int) : Decidable (okMod i j) := by unfold okMod; infer_instance
def dMod := dI fun i j => if okMod i j then some (.int (i % j)) else none
def okPow (i j : Int) : Prop := 0 ≤ j ∧ j ≤ 100 ∧ i.natAbs < 1000
instance (i j : Int) : Decidable (okPow i j) := by unfold okPow; infer_instance
def dPow := dI fun i j => if okPow i j then some (.int (i ^ j.toNat)) else none
def dLt := dI fun i j => some (.bl (decide (i < j)))
def dLe := dI fun i j => some (.bl (decide (i ≤ j)))
def dGt := dI fun i j => some (.bl (decide (j < i)))
def dGe := dI fun i j => some (.bl (decide (j ≤ i)))
def dNeg : D → Option D
  | .int i => some (.int (-i))
  | _ => none
section
variable {X : Cx} {W : WX} {a b : Expr} {pos : Pos} {fa fb : Gm → Option D} {k : Nat}
theorem pq_add (ha : PQ X a fa) (hb : PQ X b fb) : PQ X (.BinOp a .Add b pos) (q2 dAdd fa fb) := pq_op op_add (rq_I0 fun i j => i + j) ha hb
theorem pq_subt (ha : PQ X a fa) (hb : PQ X b fb) : PQ X (.BinOp a .Sub b pos) (q2 dSubt fa fb) := pq_op op_sub (rq_I0 fun i j => i - j) ha hb
theorem pq_mul (ha : PQ X a fa) (hb : PQ X b fb) : PQ X (.BinOp a .Mult b pos) (q2 dMul fa fb) := pq_op op_mul (rq_IC okMul CMul (fun _ _ h => h) fun i j => i * j) ha hb
theorem pq_div (ha : PQ X a fa) (hb : PQ X b fb) : PQ X (.BinOp a .FloorDiv b pos) (q2 dDiv fa fb) := pq_op op_fdiv (rq_IC okDiv CDiv (fun _ _ h => h) fun i j => i / j) ha hb
theorem pq_mod (ha : PQ X a fa) (hb : PQ X b fb) : PQ X (.BinOp a .Mod b pos) (q2 dMod fa fb) := pq_op op_mod (rq_IC okMod (fun _ j => 0 < j) (fun _ _ h => h) fun i j => i % j) ha hb
theorem pq_pow (ha : PQ X a fa) (hb : PQ X b fb) : PQ X (.BinOp a .Pow b pos) (q2 dPow fa fb) := pq_op op_pow (rq_IC okPow CPow (fun _ _ h => ⟨h.1, by have := h.2.1; omega, Nat.lt_of_lt_of_le h.2.2 (by decide)⟩) fun i j => i ^ j.toNat) ha hb
theorem pq_lt (ha : PQ X a fa) (hb : PQ X b fb) : PQ X (.Compare a [.Lt] [b] pos) (q2 dLt fa fb) := pq_cmp op_lt (rq_B0 fun i j => decide (i < j)) ha hb (nomark _)
theorem pq_le (ha : PQ X a fa) (hb : PQ X b fb) : PQ X (.Compare a [.LtE] [b] pos) (q2 dLe fa fb) := pq_cmp op_le (rq_B0 fun i j => decide (i ≤ j)) ha hb (nomark _)
theorem pq_gt (ha : PQ X a fa) (hb : PQ X b fb) : PQ X (.Compare a [.Gt] [b] pos) (q2 dGt fa fb) := pq_cmp op_gt (rq_B0 fun i j => decide (j < i)) ha hb (nomark _)
theorem pq_ge (ha : PQ X a fa) (hb : PQ X b fb) : PQ X (.Compare a [.GtE] [b] pos) (q2 dGe fa fb) := pq_cmp op_ge (rq_B0 fun i j => decide (j ≤ i)) ha hb (nomark _)
theorem pq_eq (r : Room k X.A) (ha : PQ X a fa) (hb : PQ X b fb) : PQ X (.Compare a [.Eq] [b] pos) (q2 dEq fa fb) := pq_cmp (op_eqD r.units) rq_eq ha hb (nomark _)
theorem pq_ne (r : Room k X.A) (ha : PQ X a fa) (hb : PQ X b fb) : PQ X (.Compare a [.NotEq] [b] pos) (q2 dNe fa fb) := pq_cmp (op_neD r.units) rq_ne ha hb (nomark _)
theorem pq_isN (ha : PQ X a fa) (hb : PQ X b fb) : PQ X (.Compare a [.Is] [b] pos) (q2 dIs fa fb) := pq_cmp op_isN rq_is ha hb (nomark _)
theorem pqt_lt (ha : PQ X a fa) (hb : PQ X b fb) : PQT X (.Compare a [.Lt] [b] pos) (qB (q2 dLt fa fb)) := pqt_cmp op_lt (rq_B0 fun i j => decide (i < j)) ha hb (nomark _)
theorem pqt_le (ha : PQ X a fa) (hb : PQ X b fb) : PQT X (.Compare a [.LtE] [b] pos) (qB (q2 dLe fa fb)) := pqt_cmp op_le (rq_B0 fun i j => decide (i ≤ j)) ha hb (nomark _)
theorem pqt_gt (ha : PQ X a fa) (hb : PQ X b fb) : PQT X (.Compare a [.Gt] [b] pos) (qB (q2 dGt fa fb)) := pqt_cmp op_gt (rq_B0 fun i j => decide (j < i)) ha hb (nomark _)
theorem pqt_ge (ha : PQ X a fa) (hb : PQ X b fb) : PQT X (.Compare a [.GtE] [b] pos) (qB (q2 dGe fa fb)) := pqt_cmp op_ge (rq_B0 fun i j => decide (j ≤ i)) ha hb (nomark _)
theorem pqt_eq (r : Room k X.A) (ha : PQ X a fa) (hb : PQ X b fb) : PQT X (.Compare a [.Eq] [b] pos) (qB (q2 dEq fa fb)) := pqt_cmp (op_eqD r.units) rq_eq ha hb (nomark _)
theorem pqt_ne (r : Room k X.A) (ha : PQ X a fa) (hb : PQ X b fb) : PQT X (.Compare a [.NotEq] [b] pos) (qB (q2 dNe fa fb)) := pqt_cmp (op_neD r.units) rq_ne ha hb (nomark _)
theorem pqt_isN (ha : PQ X a fa) (hb : PQ X b fb) : PQT X (.Compare a [.Is] [b] pos) (qB (q2 dIs fa fb)) := pqt_cmp op_isN rq_is ha hb (nomark _)
theorem pqt_isnotN (ha : PQ X a fa) (hb : PQ X b fb) : PQT X (.Compare a [.IsNot] [b] pos) (qB (q2 dIsNot fa fb)) := pqt_cmp op_notN rq_isnot ha hb (nomark _)
theorem rq_neg {C : Cb} : RQ1 C (rU fun i => .int (-i)) dNeg := by
  intro T F H x a d Ua Q sm st o1 e q
  cases a <;> simp only [dNeg] at e <;> cases e
  obtain ⟨rfl, _⟩ := own_int o1
  exact ⟨_, rfl, q _ F H [] (Step.refl sm st) (.int _) fun _ z => by cases z⟩
theorem pq_neg (ha : PQ X a fa) : PQ X (.UnaryOp .USub a pos) (q1 dNeg fa) := pq_un un_neg rq_neg ha
theorem Room.un1 {A : Around} (r : Room k A) : A.units + 1 < cLine := by have := r.un; omega
theorem callR_or {f : Value} {r r' : List V → Hp → VK → Prop} (h : CallR X f r) (h' : CallR X f r') : CallR X f (fun xs H Q => r xs H Q ∨ r' xs H Q) :=
  fun pins s σ H xs us Q I v q => q.elim (h pins s σ H xs us Q I v) (h' pins s σ H xs us Q I v)
variable {e e2 : Expr} {p : Pos} {f f2 : Gm → Option D} {fs : Gm → Option (List D)}
theorem pq_max (hc : X.calm = true) (hm : X.mg "max" = none) (hg : Gl X "max") (h : PQA X [e, e2] fs) (he : starEach [e, e2] X.env = (false, eval e X.env) :: starEach [e2] X.env := by rfl) (hpl : (backTo pos (starEach [e2] X.env)).any (·.1) = false := by rfl) : PQ X (.Call (.Name "max" p) [e, e2] [] pos) (qN bMax fs) :=
  pq_callB (call_max2 hc) rqn_max hg hm (by decide +kernel) h (by decide) (by decide) he hpl
theorem pq_min (hc : X.calm = true) (hm : X.mg "min" = none) (hg : Gl X "min") (h : PQA X [e, e2] fs) (he : starEach [e, e2] X.env = (false, eval e X.env) :: starEach [e2] X.env := by rfl) (hpl : (backTo pos (starEach [e2] X.env)).any (·.1) = false := by rfl) : PQ X (.Call (.Name "min" p) [e, e2] [] pos) (qN bMin fs) :=
  pq_callB (call_min2 hc) rqn_min hg hm (by decide +kernel) h (by decide) (by decide) he hpl
theorem pq_len (hm : X.mg "len" = none) (hg : Gl X "len") (h : PQA X [e] fs) (he : starEach [e] X.env = (false, eval e X.env) :: starEach [] X.env := by rfl) (hpl : (backTo pos (starEach [] X.env)).any (·.1) = false := by rfl) : PQ X (.Call (.Name "len" p) [e] [] pos) (qN bLen fs) :=
  pq_callB call_len rqn_len hg hm (by decide +kernel) h (by decide) (by decide) he hpl
theorem pq_sorted (hc : X.calm = true) (hm : X.mg "sorted" = none) (hg : Gl X "sorted") (h : PQA X [e] fs) (he : starEach [e] X.env = (false, eval e X.env) :: starEach [] X.env := by rfl) (hpl : (backTo pos (starEach [] X.env)).any (·.1) = false := by rfl) : PQ X (.Call (.Name "sorted" p) [e] [] pos) (qN bSorted fs) :=
  pq_callB (callR_or cr_sortedI (call_sortedDI hc)) rqn_sorted hg hm (by decide +kernel) h (by decide) (by decide) he hpl
theorem m2_of {o : Expr} {m : Str} {apos cpos : Pos} (h1 : attributeBase o m X.env (eval o X.env) = eval o X.env) (h2 : ((backTo cpos (starEach [e, e2] X.env)).all (fun x => !x.1) && (backToKw cpos (keywordEach [] X.env)).all (fun x => x.1.isSome)
    && decide (([e, e2] : List Expr).length + ([] : List Keyword).length + (if ([] : List Keyword).isEmpty then 0 else 1) < 30)) = true) (h3 : (apos.endLine == cpos.line) = true) (h4 : backTo cpos (starEach [e, e2] X.env) = [(false, eval e X.env), (false, eval e2 X.env)]) : M2 X o m apos e e2 cpos := ⟨h1, h2, h3, h4⟩
end

/-! ### the head's facts -/
section
variable {fa : List He.Fa} {fn : List He.DefD} {ex : PySem.W.Frag → Bool} {K : PySem.W.Frag} {mg : Str → Option Value}
def obsE (fa : List He.Fa) (fn : List He.DefD) (ex : PySem.W.Frag → Bool) (K : PySem.W.Frag) : He.AlD := ((He.obsD fa fn K).1 && ex K, (He.obsD fa fn K).2)
def SaysE (fa : List He.Fa) (fn : List He.DefD) (ex : PySem.W.Frag → Bool) (K : PySem.W.Frag) : Prop := obsE fa fn ex K = He.valD fn
theorem SaysE.d (c : SaysE fa fn ex K) : He.SaysD fa fn K ∧ ex K = true := by
  have c1 : ((He.obsD fa fn K).1 && ex K) = true := congrArg (fun z : He.AlD => z.1) c
  have c2 : (He.obsD fa fn K).2 = fn.map He.DefD.val := congrArg (fun z : He.AlD => z.2) c
  obtain ⟨h1, h2⟩ := Bool.and_eq_true_iff.mp c1
  exact ⟨Prod.ext h1 c2, h2⟩
def obsEG (n : Nat) (fa : List He.Fa) (fn : List He.DefD) (ex : PySem.W.Frag → Bool) (g : Addr → Option Obj) : He.AlD := obsE fa fn ex (He.frG g (He.asD g n))
def hookE (n : Nat) (fa : List He.Fa) (fn : List He.DefD) (ex : PySem.W.Frag → Bool) : PySem.W.Hook where
  α := He.AlD
  obs := fun s => obsEG n fa fn ex s.heap.get?
  val := fun _ => He.valD fn
  says := fun _ h => ∃ K : PySem.W.Frag, K.In h ∧ SaysE fa fn ex K
  of := fun _ _ e => ⟨_, He.frG_in, e⟩
  keeps := fun _ _ _ ⟨K, hK, c⟩ k => ⟨K, PySem.W.Frag.In.keeps hK k, c⟩
theorem obsEG_eq {n : Nat} {g : Addr → Option Obj} {s : Shared} (h : ∀ a, g a = s.heap.get? a) : obsEG n fa fn ex g = (hookE n fa fn ex).obs s := by
  have e : g = s.heap.get? := funext h
  rw [e] <;> rfl
structure Hd (fa : List He.Fa) (fn : List He.DefD) (ex : PySem.W.Frag → Bool) (K : PySem.W.Frag) (mg : Str → Option Value) : Prop where
  says : He.SaysD fa fn K
  ex : ex K = true
  ns : ∃ h : Heap, K.In h ∧ h.Ns mainGlobals mg
theorem Hd.glo (h : Hd fa fn ex K mg) (i : Nat) {x : Str} (e : fa[i]? = some (.glo x) := by rfl) : mg x = some (.ref (He.ga K x)) := by
  obtain ⟨hp, X, G⟩ := h.ns
  exact He.glo_ok X G (h.says.fact i e)
theorem Hd.free (h : Hd fa fn ex K mg) (i : Nat) {x : Str} (e : fa[i]? = some (.free x) := by rfl) : mg x = none := by
  obtain ⟨hp, X, G⟩ := h.ns
  exact He.free_ok X G (h.says.fact i e)
theorem na_nil {C : Addr} : ∀ n ∈ ([] : List Str), NoAttr K C n := fun _ z => by cases z
theorem na_cons {C : Addr} {a : Str} {as : List Str} (h : NoAttr K C a) (t : ∀ n ∈ as, NoAttr K C n) : ∀ n ∈ a :: as, NoAttr K C n := fun n hn => (List.mem_cons.mp hn).elim (fun e => by rw [e]; exact h) (t n)
theorem clsF_one {B : Cb} {c : Str} {ns : List Str} (h : ClsF B c ns) : ∀ c' ∈ [c], ClsF B c' ns := fun c' hc => by
  have : c' = c := by simpa using hc
  rw [this]; exact h
def oexB (K : PySem.W.Frag) (C : Addr) : Bool := (match K.lookup C with
  | some ⟨.type "type", _, .cls cd, sl⟩ => (match cd.mro, sl.toList with
    | .ref C' :: bm, [_, _, _, _, some (.builtin n), _] => C' == C && (n == "ValueError.__new__" && (!cd.hasDel && (cd.hasDict && PySem.HandSPX.refsVE bm)))
    | _, _ => false)
  | _ => false) && (decide (PySem.W.findIn K (.ref C) "__setattr__" = some (some (.builtin "object.__setattr__"))) && (decide (PySem.W.subIn K (.ref C) (.type "BaseException") = some true) && (decide (PySem.W.typeIn K (.ref C) = some (.type "type")) && PySem.W.keepIn K (.ref C))))
theorem oexB_ok {C : Addr} (h : oexB K C = true) : OexC K C := by
  obtain ⟨h1, h⟩ := Bool.and_eq_true_iff.mp h
  obtain ⟨h2, h⟩ := Bool.and_eq_true_iff.mp h
  obtain ⟨h3, h⟩ := Bool.and_eq_true_iff.mp h
  obtain ⟨h4, h5⟩ := Bool.and_eq_true_iff.mp h
  refine ⟨?_, of_decide_eq_true h2, of_decide_eq_true h3, of_decide_eq_true h4, h5⟩
  split at h1
  · rename_i dd cd sl ho
    split at h1
    · rename_i C' bm k0 k1 k2 k3 n k5 hm hs
      simp only [Bool.and_eq_true, beq_iff_eq, Bool.not_eq_true'] at h1
      obtain ⟨rfl, rfl, hdel, hdct, hv⟩ := h1
      obtain ⟨nm, bs, mro, ns, qn, hd, sn, sub, ab, col, del⟩ := cd
      dsimp only at hm hdel hdct
      subst hm hdel hdct
      have hsl : sl = #[k0, k1, k2, k3, some (.builtin "ValueError.__new__"), k5] := by
        obtain ⟨l⟩ := sl
        simp only at hs
        rw [hs]
      subst hsl
      exact ⟨_, _, _, _, _, _, _, _, _, _, _, _, _, _, _, ho, hv⟩
    · cases h1
  · cases h1
/-- what an own exception with fields must have, its class at C, its fields fs -/
def xiB (K : PySem.W.Frag) (c : Str) (fs : List Str) : Bool := oexB K (He.ga K c) && (xfB K (He.ga K c) && (fs.all (fun f => decide (PySem.W.findIn K (.ref (He.ga K c)) f = some none)) && (decide (PySem.W.findIn K (.ref (He.ga K c)) "__init__" = some (some (.ref (He.ma K (He.ga K c) "__init__")))) && (decide (PySem.W.typeIn K (.ref (He.ma K (He.ga K c) "__init__")) = some (.type "function")) && decide (PySem.W.exmOne K (.ref (He.ga K c)) (.ref (He.ga K c)) = some true)))))
structure XiOk (K : PySem.W.Frag) (c : Str) (fs : List Str) : Prop where
  oex : OexC K (He.ga K c)
  xf : XfC K (He.ga K c)
  na : ∀ f ∈ fs, PySem.W.findIn K (.ref (He.ga K c)) f = some none
  ini : PySem.W.findIn K (.ref (He.ga K c)) "__init__" = some (some (.ref (He.ma K (He.ga K c) "__init__")))
  ty : PySem.W.typeIn K (.ref (He.ma K (He.ga K c) "__init__")) = some (.type "function")
  exm : PySem.W.exmOne K (.ref (He.ga K c)) (.ref (He.ga K c)) = some true
theorem xiB_ok {c : Str} {fs : List Str} (h : xiB K c fs = true) : XiOk K c fs := by
  obtain ⟨h1, h⟩ := Bool.and_eq_true_iff.mp h
  obtain ⟨h2, h⟩ := Bool.and_eq_true_iff.mp h
  obtain ⟨h3, h⟩ := Bool.and_eq_true_iff.mp h
  obtain ⟨h4, h⟩ := Bool.and_eq_true_iff.mp h
  obtain ⟨h5, h6⟩ := Bool.and_eq_true_iff.mp h
  exact ⟨oexB_ok h1, xfB_ok h2, fun f hf => of_decide_eq_true (List.all_eq_true.mp h3 f hf), of_decide_eq_true h4, of_decide_eq_true h5, of_decide_eq_true h6⟩
end
end SK
namespace SK
open PySem PySem.Spec L2
open PyProof.Rows (envOfC)
section
variable {P : Program} {w : World} {K : PySem.W.Frag} {mg : Str → Option Value} {base : Heap} {N : List Str} {qual : Str} {scope : Scope} {f : Addr} {cdv : Value} {A : Around} {outer : List Env} {s : Shared} {H : Hp} {E : XK}
theorem takes_cx : Takes (cxOf (L2.CX P w) P w K mg base N qual scope f cdv A outer s H E) (fun cls d _ H => E cls d H) := takes_of rfl rfl rfl rfl
theorem owns_cx : PassesOwn (model P w) (cxOf (L2.CX P w) P w K mg base N qual scope f cdv A outer s H E).A (cxOf (L2.CX P w) P w K mg base N qual scope f cdv A outer s H E).env (cxOf (L2.CX P w) P w K mg base N qual scope f cdv A outer s H E).xe := passes_of rfl
theorem xcO_of {c : Str} (g : mg c = some (.ref (He.ga K c))) (h : PySem.W.excIn K (He.ga K c) He.veBase "ValueError.__new__" = true ∧ PySem.W.keepIn K (.ref (He.ga K c)) = true ∧ PySem.W.subIn K (.ref (He.ga K c)) (.type "BaseException") = some true ∧ PySem.W.typeIn K (.ref (He.ga K c)) = some (.type "type")) : XcO K mg c :=
  ⟨_, _, _, _, _, PySem.F.excBase_ValueError, h.1, g, h.2.1, h.2.2.1, h.2.2.2⟩
end
end SK

namespace SK
open PySem PySem.Spec L2
/-- the end of a law whose calls may raise -/
theorem walk_end {l : PySem.W.OpenLaw} {n k : Nat} {q : Program} {loose : List Str} {XP : (Str → Option Value) → Heap → Prop} {YP : World → Heap → Prop} {d : DefRec} {x : Str}
    (hn : l.most = some n) (hn2 : n ≤ sizeLine) (hdf : d.params.defaults = []) (hr : Room k callerA)
    (F : ∀ (w : World) (mg : Str → Option Value) (fa : Addr) (h : Heap), YP w h → h.Ns mainGlobals mg → mg d.name = some (.ref fa) → ∃ (K : PySem.W.Frag) (fd : FuncData) (sp : Sp), K.In h ∧
        (∀ (s : Shared) (u : Value), BindsTo s fd ⟨[u], []⟩ [(x, u)]) ∧ (∀ (H : Hp) (a : Addr) (ns : List Int), ns.length ≤ n → SqL K H a (ns.map V.int) → sp [.ref a] H (fun v _ => v = .bl true) fun _ _ _ => False) ∧
        ∀ base : Heap, K.In base → base.Ns mainGlobals mg → FnOk l.prog w K mg base (L2.CX l.prog w) k fa fd [x] sp) :
    PySem.W.WalkO q loose XP YP l.row.toRowW d [] (fun f vs => PySem.call f vs) := by
  refine Att.attach_call hn hdf fun w s₀ s₁ mg mb fa o pm cd doc a vs ns G Y ho hd hcd hmg hobj hints hl hg => ?_
  obtain ⟨K, fd, sp, KX, hb, hsp, hF⟩ := F w mg fa _ Y G.T.g hmg
  refine law_call KX G.T.g G.T.b G.T.builtins G.T.nolimit hg hobj hints (Nat.le_trans hl hn2) hr hF hb (fun H _ hS => hsp H a ns hl hS) fun H e s' z => ?_
  obtain ⟨_, _, _, _, _, _, _, _, _, _, _, _, z⟩ := z
  exact z
end SK

namespace SK
open PySem PySem.Spec L2

/-! ### evaluation, a value at a time: what follows is not looked at before what goes ahead is known -/
def nThen (g : G) : Option (Oc Fw) → Option (Oc Fw)
  | some (.ok .nx Γ) => g Γ
  | o => o
def nIf (t u : G) : Option (Oc Bool) → Option (Oc Fw)
  | some (.ok b Γ) => if b = true then t Γ else u Γ
  | some (.ex x Γ) => some (.ex x Γ)
  | none => none
def nSet (i : Nat) : Option (Oc D) → Option (Oc Fw)
  | some (.ok d Γ) => (setG i d Γ).map fun Γ2 => .ok .nx Γ2
  | some (.ex x Γ) => some (.ex x Γ)
  | none => none
def nSetF (i : Nat) : Option (Oc D) → Option (Oc Fw)
  | some (.ok d Γ) => if d.noTm = true then (setG i d.shr Γ).map fun Γ2 => .ok .nx Γ2 else if d.hd = false then (setG i d Γ).map fun Γ2 => .ok .nx Γ2 else none
  | some (.ex x Γ) => some (.ex x Γ)
  | none => none
def nDrop : Option (Oc D) → Option (Oc Fw)
  | some (.ok _ Γ) => some (.ok .nx Γ)
  | some (.ex x Γ) => some (.ex x Γ)
  | none => none
def nRet : Option (Oc D) → Option (Oc Fw)
  | some (.ok d Γ) => some (.ok (.rt d) Γ)
  | some (.ex x Γ) => some (.ex x Γ)
  | none => none
def nAsg (h : D → Gm → Option Gm) : Option (Oc D) → Option (Oc Fw)
  | some (.ok d Γ) => (h d Γ).map fun Γ2 => .ok .nx Γ2
  | some (.ex x Γ) => some (.ex x Γ)
  | none => none
def nQ (Γ : Gm) : Option D → Option (Oc D)
  | some d => if d.hd = true then none else some (.ok d Γ)
  | none => none
def nVQ (Γ : Gm) : Option D → Option (Oc AV)
  | some d => if d.hd = true then none else some (.ok (.val d) Γ)
  | none => none
def nVN (Γ : Gm) (i : Nat) : Option D → Option (Oc AV)
  | some d => if d.hd = true then some (.ok (.slot i) Γ) else some (.ok (.val d) Γ)
  | none => none
def nVL : Option (Oc D) → Option (Oc AV)
  | some (.ok d Γ) => some (.ok (.val d) Γ)
  | some (.ex x Γ) => some (.ex x Γ)
  | none => none
def nFQ : Option D → Option D
  | some d => if d.hd = true then none else some d
  | none => none
def nF (Γ : Gm) : Option D → Option (Oc D)
  | some d => some (.ok d Γ)
  | none => none
def nM (i : Nat) (Γ : Gm) : Option D → Option (Oc D)
  | some d => some (.ok d (Γ.set i none))
  | none => none
def nMp (i : Nat) (Γ : Gm) : Option (List Nat) → Option (Oc D)
  | some p => (atP Γ i p).map fun d => .ok d (Γ.set i none)
  | none => none
def nAC2 (a : AV) : Option (Oc (List AV)) → Option (Oc (List AV))
  | some (.ok as Γ) => some (.ok (a :: as) Γ)
  | some (.ex x Γ) => some (.ex x Γ)
  | none => none
def nAC (g : Gm → Option (Oc (List AV))) : Option (Oc AV) → Option (Oc (List AV))
  | some (.ok a Γ) => nAC2 a (g Γ)
  | some (.ex x Γ) => some (.ex x Γ)
  | none => none
def nCall2 (ms : List Nat) (avs : List AV) (Γ : Gm) : Option FR → Option (Oc D)
  | some (.ret d outs) => if d.noTm = true ∧ D.noTms outs = true then some (.ok d (back avs ms outs (clr avs ms Γ))) else none
  | some (.exc x outs) => if x.ok = true ∧ D.noTms outs = true then some (.ex x (back avs ms outs (clr avs ms Γ))) else none
  | none => none
def nCall1 (fn : List D → Option FR) (ms : List Nat) (avs : List AV) (Γ : Gm) : Option (List D) → Option (Oc D)
  | some ds => nCall2 ms avs Γ (fn ds)
  | none => none
def nFn (fn : List D → Option FR) (ms : List Nat) : Option (Oc (List AV)) → Option (Oc D)
  | some (.ok avs Γ) => callF fn ms avs Γ
  | some (.ex x Γ) => some (.ex x Γ)
  | none => none
def nMe2 (fn : List D → Option FR) (ms : List Nat) (av : AV) : Option (Oc (List AV)) → Option (Oc D)
  | some (.ok avs Γ) => callF fn ms (av :: avs) Γ
  | some (.ex x Γ) => some (.ex x Γ)
  | none => none
def nMe (c m : Str) (fn : List D → Option FR) (ms : List Nat) (fa : Gm → Option (Oc (List AV))) : Option (Oc AV) → Option (Oc D)
  | some (.ok av Γ) => if avInsOf Γ c m av = true then nMe2 fn ms av (fa Γ) else none
  | some (.ex x Γ) => some (.ex x Γ)
  | none => none
def nLtQ (Γ : Gm) : Option Bool → Option (Oc Bool)
  | some b => some (.ok b Γ)
  | none => none
def nLtV : Option (Oc D) → Option (Oc Bool)
  | some (.ok d Γ) => (asBl d).map fun b => .ok b Γ
  | some (.ex x Γ) => some (.ex x Γ)
  | none => none
def nNot : Option (Oc Bool) → Option (Oc Bool)
  | some (.ok b Γ) => some (.ok (!b) Γ)
  | some (.ex x Γ) => some (.ex x Γ)
  | none => none
def nAnd (g : Gm → Option (Oc Bool)) : Option (Oc Bool) → Option (Oc Bool)
  | some (.ok b Γ) => if b = true then g Γ else some (.ok false Γ)
  | some (.ex x Γ) => some (.ex x Γ)
  | none => none
def nOr (g : Gm → Option (Oc Bool)) : Option (Oc Bool) → Option (Oc Bool)
  | some (.ok b Γ) => if b = true then some (.ok true Γ) else g Γ
  | some (.ex x Γ) => some (.ex x Γ)
  | none => none
def nQAnd (g : Gm → Option Bool) (Γ : Gm) : Option Bool → Option Bool
  | some b => if b = true then g Γ else some false
  | none => none
def nQOr (g : Gm → Option Bool) (Γ : Gm) : Option Bool → Option Bool
  | some b => if b = true then some true else g Γ
  | none => none
def nQNot : Option Bool → Option Bool
  | some b => some (!b)
  | none => none
def nB (f : D → Option Bool) : Option D → Option Bool
  | some d => f d
  | none => none
def n2 (g : D → D → Option D) : Option D → Option D → Option D
  | some a, some b => g a b
  | _, _ => none
def n1 (g : D → Option D) : Option D → Option D
  | some a => g a
  | none => none
def n3 (g : D → D → D → Option D) : Option D → Option D → Option D → Option D
  | some a, some b, some c => g a b c
  | _, _, _ => none
def nN (g : List D → Option D) : Option (List D) → Option D
  | some a => g a
  | none => none
def nCons : Option D → Option (List D) → Option (List D)
  | some a, some b => some (a :: b)
  | _, _ => none
def nO : Option D → Option (Option Int)
  | some d => asInt d
  | none => none
def nSl : Option D → Option (Option Int) → Option (Option Int) → Option D
  | some a, some l, some h => dCut a l h
  | _, _, _ => none
def nQF2 : Option FR → Option D
  | some (.ret d _) => if d.noTm = true then some d.shr else none
  | _ => none
def nQF (fn : List D → Option FR) : Option (List D) → Option D
  | some ds => if D.all0 ds = true then nQF2 (fn ds) else none
  | none => none
def nFF2 : Option FR → Option D
  | some (.ret d _) => some d
  | _ => none
def nFF (fn : List D → Option FR) : Option (List D) → Option D
  | some ds => if D.all0 ds = true then nFF2 (fn ds) else none
  | none => none
def nMk2 : Option FR → Option D
  | some (.ret .non [d]) => some d
  | _ => none
def nMk (c : Str) (fn : List D → Option FR) : Option (List D) → Option D
  | some ds => if D.all0 ds = true then nMk2 (fn (.nd .ow (.ins c []) [] :: ds)) else none
  | none => none
def nW (f : D → Option (List D)) : Option D → Option (List D)
  | some d => f d
  | none => none
def nWs (f : List D → Option (List D)) : Option (List D) → Option (List D)
  | some d => f d
  | none => none
def nFor (t : D → Gm → Option Gm) (b : G) (Γ : Gm) : Option (List D) → Option (Oc Fw)
  | some ds => loopG t b ds Γ
  | none => none
def nPut2 (i : Nat) (d : D) (Γ : Gm) : Option (List Nat) → Option D → Option (Oc Fw)
  | some p, some k => (putAt Γ i p k d).map fun Γ2 => .ok .nx Γ2
  | _, _ => none
def nPut (i : Nat) (fp : Gm → Option (List Nat)) (fk : Gm → Option D) : Option (Oc D) → Option (Oc Fw)
  | some (.ok d Γ) => nPut2 i d Γ (fp Γ) (fk Γ)
  | some (.ex x Γ) => some (.ex x Γ)
  | none => none
def nFput2 (i : Nat) (cs : List Str) (n : Str) (d : D) (Γ : Gm) : Option (List Nat) → Option (Oc Fw)
  | some p => (fputAt Γ i p cs n d).map fun Γ2 => .ok .nx Γ2
  | none => none
def nFput (i : Nat) (cs : List Str) (n : Str) (fp : Gm → Option (List Nat)) : Option (Oc D) → Option (Oc Fw)
  | some (.ok d Γ) => nFput2 i cs n d Γ (fp Γ)
  | some (.ex x Γ) => some (.ex x Γ)
  | none => none
def nApp (i : Nat) (Γ : Gm) : Option (List Nat) → Option D → Option (Oc D)
  | some p, some d => (appAt Γ i p d).map fun Γ' => .ok .non Γ'
  | _, _ => none
def nAppE (i : Nat) (fe : Gm → Option D) : Option (List Nat × Gm) → Option (Oc D)
  | some (p, Γ) => nApp i Γ (some p) (fe Γ)
  | none => none
def nSd2 (i : Nat) (Γ : Gm) (p : List Nat) (k : D) : Option D → Option (List Nat × Gm)
  | some d0 => match pget p d0 with
    | some (.nd .ow (.dic ks) ds) => (D.key k).bind fun κ => if ks.length < 100000 then match kix ks κ with
        | some j => some (p ++ [j], Γ)
        | none => some (p ++ [ks.length], Γ.set i (some (pput p (.nd .ow (.dic (kput ks κ)) (vput ks ds κ (.nd .ow .lst []))) d0)))
      else none
    | _ => none
  | none => none
def nSd (i : Nat) (Γ : Gm) : Option (List Nat) → Option D → Option (List Nat × Gm)
  | some p, some k => nSd2 i Γ p k Γ[i]?.join
  | _, _ => none
def nPF (Γ : Gm) (i : Nat) (cs : List Str) (n : Str) : Option (List Nat) → Option (List Nat)
  | some p => match atP Γ i p with
    | some (.nd .ow (.ins c ns) _) => if c ∈ cs then (kix ns n).map fun j => p ++ [j] else none
    | _ => none
  | none => none
def nPS (Γ : Gm) (i : Nat) : Option (List Nat) → Option D → Option (List Nat)
  | some p, some x => match atP Γ i p with
    | some (.nd .ow (.dic ks) _) => (D.key x).bind fun k => (kix ks k).map fun j => p ++ [j]
    | some (.nd .ow (.dit ks) _) => (D.tkey x).bind fun k => (kix ks k).map fun j => p ++ [j]
    | some (.nd .ow .lst ds) => match x with
      | .int z => (ixN ds.length z).map fun j => p ++ [j]
      | _ => none
    | some (.nd .ow .tup ds) => match x with
      | .int z => (ixN ds.length z).map fun j => p ++ [j]
      | _ => none
    | _ => none
  | _, _ => none
def nRaise2 (c f1 f2 : Str) (x : Option (Oc (List AV))) : Option (Oc Fw) := Oc.bind x fun avs Γ1 => match avs with
  | [.val d1, .val d2] => some (.ex ⟨c, some ([f2, f1], [d2, d1])⟩ Γ1)
  | _ => none
def nTryPair (c f1 f2 : Str) (i j : Nat) : Option (Oc Fw) → Option (Oc Fw)
  | some (.ex ⟨c', some ([n2, n1], [d2, d1])⟩ Γ') => if c' = c ∧ n2 = f2 ∧ n1 = f1 ∧ i < Γ'.length ∧ j < Γ'.length then some (.ok .nx ((Γ'.set i none).set j (some (.nd .ow .tup [d1, d2])))) else none
  | some (.ok fw Γ') => some (.ok fw Γ')
  | _ => none
def nForO (i : Nat) (t : D → Gm → Option Gm) (b : G) (Γ : Gm) : Option D → Option (Oc Fw)
  | some (.nd .ow .lst ds) => loopO i t b (ds.length + 1) 0 Γ
  | _ => none
section
variable {Γ Γ' : Gm} {x : Xc} {d d' a b c : D} {ds es : List D} {i j : Nat} {t : D → Gm → Option Gm} {g u v : G} {bb : Bool} {fa fb fc : Gm → Option D} {fs : Gm → Option (List D)} {fl fm : Gm → Option (Oc D)} {ft fu : Gm → Option (Oc Bool)} {qt qu : Gm → Option Bool} {fp : Gm → Option (List Nat)}
  {fn : List D → Option FR} {ms : List Nat} {av : AV} {avs : List AV} {fv : Gm → Option (Oc AV)} {fas : Gm → Option (Oc (List AV))} {cs : List Str} {n m cl f1 f2 : Str} {outs : List D} {p : List Nat} {fo fh : Gm → Option (Option Int)} {w : Gm → Option (List D)} {pe : Gm → Option (List Nat × Gm)}
theorem gThen_e : gThen g u Γ = nThen u (g Γ) := id rfl
theorem nThen_nx : nThen g (some (.ok .nx Γ)) = g Γ := id rfl
theorem nThen_rt : nThen g (some (.ok (.rt d) Γ)) = some (.ok (.rt d) Γ) := id rfl
theorem nThen_bk : nThen g (some (.ok .bk Γ)) = some (.ok .bk Γ) := id rfl
theorem nThen_ct : nThen g (some (.ok .ct Γ)) = some (.ok .ct Γ) := id rfl
theorem nThen_ex : nThen g (some (.ex x Γ)) = some (.ex x Γ) := id rfl
theorem gIf_e : gIf ft g u Γ = nIf g u (ft Γ) := by unfold gIf nIf Oc.bind; cases ft Γ with | none => rfl | some o => cases o <;> rfl
theorem nIf_t : nIf g u (some (.ok true Γ)) = g Γ := id rfl
theorem nIf_f : nIf g u (some (.ok false Γ)) = u Γ := id rfl
theorem nIf_ex : nIf g u (some (.ex x Γ)) = some (.ex x Γ) := id rfl
theorem gNil_e : SK.gNil Γ = some (.ok .nx Γ) := id rfl
theorem gBk_e : gBk Γ = some (.ok .bk Γ) := id rfl
theorem gCt_e : gCt Γ = some (.ok .ct Γ) := id rfl
theorem gRetN_e : gRetN Γ = some (.ok (.rt .non) Γ) := id rfl
theorem gSet_e : gSet i fl Γ = nSet i (fl Γ) := by unfold gSet nSet Oc.bind; cases fl Γ with | none => rfl | some o => cases o <;> rfl
theorem nSet_ok : nSet i (some (.ok d Γ)) = (setG i d Γ).map fun Γ2 => .ok .nx Γ2 := id rfl
theorem nSet_ex : nSet i (some (.ex x Γ)) = some (.ex x Γ) := id rfl
theorem gSetF_e : gSetF i fl Γ = nSetF i (fl Γ) := by unfold gSetF nSetF Oc.bind; cases fl Γ with | none => rfl | some o => cases o <;> rfl
theorem nSetF_ok (h : d.noTm = true) : nSetF i (some (.ok d Γ)) = (setG i d.shr Γ).map fun Γ2 => .ok .nx Γ2 := by simp [nSetF, h]
theorem nSetF_ex : nSetF i (some (.ex x Γ)) = some (.ex x Γ) := id rfl
theorem setG_e (h : i < Γ.length) : setG i d Γ = some (Γ.set i (some d)) := by unfold setG; rw [if_pos h]
theorem gDrop_e : gDrop fl Γ = nDrop (fl Γ) := by unfold gDrop nDrop Oc.bind; cases fl Γ with | none => rfl | some o => cases o <;> rfl
theorem nDrop_ok : nDrop (some (.ok d Γ)) = some (.ok .nx Γ) := id rfl
theorem nDrop_ex : nDrop (some (.ex x Γ)) = some (.ex x Γ) := id rfl
theorem gRet_e : gRet fl Γ = nRet (fl Γ) := by unfold gRet nRet Oc.bind; cases fl Γ with | none => rfl | some o => cases o <;> rfl
theorem nRet_ok : nRet (some (.ok d Γ)) = some (.ok (.rt d) Γ) := id rfl
theorem nRet_ex : nRet (some (.ex x Γ)) = some (.ex x Γ) := id rfl
theorem gAsg_e : gAsg t fl Γ = nAsg t (fl Γ) := by unfold gAsg nAsg Oc.bind; cases fl Γ with | none => rfl | some o => cases o <;> rfl
theorem nAsg_ok : nAsg t (some (.ok d Γ)) = (t d Γ).map fun Γ2 => .ok .nx Γ2 := id rfl
theorem lQ_e : lQ fa Γ = nQ Γ (fa Γ) := by unfold lQ nQ; cases fa Γ <;> rfl
theorem nQ_ok (h : d.hd = false) : nQ Γ (some d) = some (.ok d Γ) := by simp [nQ, h]
theorem vQ_e : vQ fa Γ = nVQ Γ (fa Γ) := by unfold vQ nVQ; cases fa Γ <;> rfl
theorem nVQ_ok (h : d.hd = false) : nVQ Γ (some d) = some (.ok (.val d) Γ) := by simp [nVQ, h]
theorem vN_e : vN i Γ = nVN Γ i Γ[i]?.join := by unfold vN nVN; cases Γ[i]?.join <;> rfl
theorem nVN_ok (h : d.hd = false) : nVN Γ i (some d) = some (.ok (.val d) Γ) := by unfold nVN; simp [h]
theorem nVN_ow (h : d.hd = true) : nVN Γ i (some d) = some (.ok (.slot i) Γ) := by unfold nVN; simp [h]
theorem vL_e : vL fl Γ = nVL (fl Γ) := by unfold vL nVL Oc.bind; cases fl Γ with | none => rfl | some o => cases o <;> rfl
theorem nVL_ok : nVL (some (.ok d Γ)) = some (.ok (.val d) Γ) := id rfl
theorem nVL_ex : nVL (some (.ex x Γ)) = some (.ex x Γ) := id rfl
theorem lF_e : lF fa Γ = nF Γ (fa Γ) := by unfold lF nF; cases fa Γ <;> rfl
theorem nF_ok : nF Γ (some d) = some (.ok d Γ) := id rfl
theorem frQ_e : frQ fa Γ = nFQ (fa Γ) := by unfold frQ nFQ; cases fa Γ <;> rfl
theorem nFQ_ok (h : d.hd = false) : nFQ (some d) = some d := by unfold nFQ; simp [h]
theorem lM_e : lM i Γ = nM i Γ Γ[i]?.join := by unfold lM nM; cases Γ[i]?.join <;> rfl
theorem nM_ok : nM i Γ (some d) = some (.ok d (Γ.set i none)) := id rfl
theorem lMp_e : lMp i fp Γ = nMp i Γ (fp Γ) := by unfold lMp nMp; cases fp Γ <;> rfl
theorem nMp_ok : nMp i Γ (some p) = (atP Γ i p).map fun d => .ok d (Γ.set i none) := id rfl
theorem aNil_e : aNil Γ = some (.ok [] Γ) := id rfl
theorem aCons_e : aCons fv fas Γ = nAC fas (fv Γ) := by
  unfold aCons nAC Oc.bind
  cases fv Γ with
  | none => rfl
  | some o => cases o with
    | ok a Γ1 => unfold nAC2; dsimp only; cases fas Γ1 with | none => rfl | some o2 => cases o2 <;> rfl
    | ex x Γ1 => rfl
theorem nAC_ok : nAC fas (some (.ok av Γ)) = nAC2 av (fas Γ) := id rfl
theorem nAC_ex : nAC fas (some (.ex x Γ)) = some (.ex x Γ) := id rfl
theorem nAC2_ok : nAC2 av (some (.ok avs Γ)) = some (.ok (av :: avs) Γ) := id rfl
theorem nAC2_ex : nAC2 av (some (.ex x Γ)) = some (.ex x Γ) := id rfl
theorem lFn_e : lFn fn ms fas Γ = nFn fn ms (fas Γ) := by unfold lFn nFn Oc.bind; cases fas Γ with | none => rfl | some o => cases o <;> rfl
theorem nFn_ok : nFn fn ms (some (.ok avs Γ)) = callF fn ms avs Γ := id rfl
theorem nFn_ex : nFn fn ms (some (.ex x Γ)) = some (.ex x Γ) := id rfl
theorem callF_e (h : (slotsOf avs).Nodup) : callF fn ms avs Γ = nCall1 fn ms avs Γ (argD ms Γ 0 avs) := by
  unfold callF nCall1
  rw [if_pos h]
  cases argD ms Γ 0 avs with
  | none => rfl
  | some ds => cases e : fn ds with
    | none => simp [e, nCall2]
    | some r => simp only [Option.bind_some, e]; cases r <;> rfl
theorem nCall1_ok : nCall1 fn ms avs Γ (some ds) = nCall2 ms avs Γ (fn ds) := id rfl
theorem nCall2_rt (h : d.noTm = true) (h2 : D.noTms outs = true) : nCall2 ms avs Γ (some (.ret d outs)) = some (.ok d (back avs ms outs (clr avs ms Γ))) := by simp [nCall2, h, h2]
theorem nCall2_ex (h : x.ok = true) (h2 : D.noTms outs = true) : nCall2 ms avs Γ (some (.exc x outs)) = some (.ex x (back avs ms outs (clr avs ms Γ))) := by simp [nCall2, h, h2]
theorem lMeth_e : lMeth cl m fn ms fv fas Γ = nMe cl m fn ms fas (fv Γ) := by
  unfold lMeth nMe
  cases fv Γ with
  | none => rfl
  | some o => cases o with
    | ok av Γ1 => simp only [Oc.bind]; split
                  · cases e : fas Γ1 with
                    | none => rfl
                    | some o2 => cases o2 <;> rfl
                  · rfl
    | ex x Γ1 => rfl
theorem nMe_ok (h : avInsOf Γ cl m av = true) : nMe cl m fn ms fas (some (.ok av Γ)) = nMe2 fn ms av (fas Γ) := by unfold nMe; simp [h]
theorem nMe_ex : nMe cl m fn ms fas (some (.ex x Γ)) = some (.ex x Γ) := id rfl
theorem nMe2_ok : nMe2 fn ms av (some (.ok avs Γ)) = callF fn ms (av :: avs) Γ := id rfl
theorem nMe2_ex : nMe2 fn ms av (some (.ex x Γ)) = some (.ex x Γ) := id rfl
theorem ltQ_e : ltQ qt Γ = nLtQ Γ (qt Γ) := by unfold ltQ nLtQ; cases qt Γ <;> rfl
theorem nLtQ_ok : nLtQ Γ (some bb) = some (.ok bb Γ) := id rfl
theorem ltV_e : ltV fl Γ = nLtV (fl Γ) := by unfold ltV nLtV Oc.bind; cases fl Γ with | none => rfl | some o => cases o <;> rfl
theorem nLtV_ok : nLtV (some (.ok (.bl bb) Γ)) = some (.ok bb Γ) := id rfl
theorem nLtV_ex : nLtV (some (.ex x Γ)) = some (.ex x Γ) := id rfl
theorem ltNot_e : ltNot ft Γ = nNot (ft Γ) := by unfold ltNot nNot Oc.bind; cases ft Γ with | none => rfl | some o => cases o <;> rfl
theorem nNot_ok : nNot (some (.ok bb Γ)) = some (.ok (!bb) Γ) := id rfl
theorem nNot_ex : nNot (some (.ex x Γ)) = some (.ex x Γ) := id rfl
theorem ltAnd_e : ltAnd ft fu Γ = nAnd fu (ft Γ) := by unfold ltAnd nAnd Oc.bind; cases ft Γ with | none => rfl | some o => cases o <;> rfl
theorem nAnd_t : nAnd ft (some (.ok true Γ)) = ft Γ := id rfl
theorem nAnd_f : nAnd ft (some (.ok false Γ)) = some (.ok false Γ) := id rfl
theorem nAnd_ex : nAnd ft (some (.ex x Γ)) = some (.ex x Γ) := id rfl
theorem ltOr_e : ltOr ft fu Γ = nOr fu (ft Γ) := by unfold ltOr nOr Oc.bind; cases ft Γ with | none => rfl | some o => cases o <;> rfl
theorem nOr_t : nOr ft (some (.ok true Γ)) = some (.ok true Γ) := id rfl
theorem nOr_f : nOr ft (some (.ok false Γ)) = ft Γ := id rfl
theorem nOr_ex : nOr ft (some (.ex x Γ)) = some (.ex x Γ) := id rfl
theorem qAnd_e : qAnd qt qu Γ = nQAnd qu Γ (qt Γ) := by unfold qAnd nQAnd; cases qt Γ <;> rfl
theorem nQAnd_t : nQAnd qt Γ (some true) = qt Γ := id rfl
theorem nQAnd_f : nQAnd qt Γ (some false) = some false := id rfl
theorem qOr_e : qOr qt qu Γ = nQOr qu Γ (qt Γ) := by unfold qOr nQOr; cases qt Γ <;> rfl
theorem nQOr_t : nQOr qt Γ (some true) = some true := id rfl
theorem nQOr_f : nQOr qt Γ (some false) = qt Γ := id rfl
theorem qNot_e : qNot qt Γ = nQNot (qt Γ) := by unfold qNot nQNot; cases qt Γ <;> rfl
theorem nQNot_ok : nQNot (some bb) = some (!bb) := id rfl
theorem qB_e : qB fa Γ = nB asBl (fa Γ) := by unfold qB nB; cases fa Γ <;> rfl
theorem qTru_e : qTru fa Γ = nB dTru (fa Γ) := by unfold qTru nB; cases fa Γ <;> rfl
theorem nB_ok {f : D → Option Bool} : nB f (some d) = f d := id rfl
theorem asBl_e : SK.asBl (.bl bb) = some bb := id rfl
theorem q2_e {o : D → D → Option D} : q2 o fa fb Γ = n2 o (fa Γ) (fb Γ) := by unfold q2 n2; cases fa Γ <;> cases fb Γ <;> rfl
theorem n2_ok {o : D → D → Option D} : n2 o (some a) (some b) = o a b := id rfl
theorem q1_e {o : D → Option D} : q1 o fa Γ = n1 o (fa Γ) := by unfold q1 n1; cases fa Γ <;> rfl
theorem n1_ok {o : D → Option D} : n1 o (some a) = o a := id rfl
theorem q3_e {o : D → D → D → Option D} : q3 o fa fb fc Γ = n3 o (fa Γ) (fb Γ) (fc Γ) := by unfold q3 n3; cases fa Γ <;> cases fb Γ <;> cases fc Γ <;> rfl
theorem n3_ok {o : D → D → D → Option D} : n3 o (some a) (some b) (some c) = o a b c := id rfl
theorem qV_e : qV i Γ = Γ[i]?.join := id rfl
theorem qC_e : qC d Γ = some d := id rfl
theorem qN_e {o : List D → Option D} : qN o fs Γ = nN o (fs Γ) := by unfold qN nN; cases fs Γ <;> rfl
theorem nN_ok {o : List D → Option D} : nN o (some ds) = o ds := id rfl
theorem qNil_e : qNil Γ = some [] := id rfl
theorem qCons_e : qCons fa fs Γ = nCons (fa Γ) (fs Γ) := by unfold qCons nCons; cases fa Γ <;> cases fs Γ <;> rfl
theorem nCons_ok : nCons (some a) (some ds) = some (a :: ds) := id rfl
theorem qSeq_e {k : Kd} : qSeq k fs Γ = nN (mkSeq k) (fs Γ) := by unfold qSeq nN; cases fs Γ <;> rfl
theorem frSeq_e {k : Kd} : frSeq k fs Γ = nN (mkOw k) (fs Γ) := by unfold frSeq nN; cases fs Γ <;> rfl
theorem mkSeq_e {k : Kd} (h : D.all0 ds = true) (h2 : D.noTms ds = true) (h3 : ds.length ≤ 100000) : mkSeq k ds = some (.nd .sh k ds) := by unfold mkSeq; rw [if_pos ⟨h, h2, h3⟩]
theorem mkOw_e {k : Kd} (h : D.all0 ds = true) (h3 : ds.length ≤ 100000) : mkOw k ds = some (.nd .ow k ds) := by unfold mkOw; rw [if_pos ⟨h, h3⟩]
theorem frDK_e : frDK Γ = some (.nd .ow (.dic []) []) := id rfl
theorem frDT_e : frDT Γ = some (.nd .ow (.dit []) []) := id rfl
theorem qONone_e : qONone Γ = some none := id rfl
theorem qOSome_e : qOSome fa Γ = nO (fa Γ) := by unfold qOSome nO; cases fa Γ <;> rfl
theorem nO_ok {z : Int} : nO (some (.int z)) = some (some z) := id rfl
theorem qSl_e : qSl fa fo fh Γ = nSl (fa Γ) (fo Γ) (fh Γ) := by unfold qSl nSl; cases fa Γ <;> cases fo Γ <;> cases fh Γ <;> rfl
theorem nSl_ok {l h : Option Int} : nSl (some a) (some l) (some h) = dCut a l h := id rfl
theorem qFn_e : qFn fn fs Γ = nQF fn (fs Γ) := by
  unfold qFn nQF
  cases fs Γ with
  | none => rfl
  | some ds =>
    simp only [Option.bind_some]
    split
    · cases fn ds with
      | none => rfl
      | some r => cases r <;> rfl
    · rfl
theorem nQF_ok (h : D.all0 ds = true) : nQF fn (some ds) = nQF2 (fn ds) := by simp [nQF, h]
theorem nQF2_ok (h : d.noTm = true) : nQF2 (some (.ret d outs)) = some d.shr := by simp [nQF2, h]
theorem frFn_e : frFn fn fs Γ = nFF fn (fs Γ) := by
  unfold frFn nFF
  cases fs Γ with
  | none => rfl
  | some ds =>
    simp only [Option.bind_some]
    split
    · cases fn ds with
      | none => rfl
      | some r => cases r <;> rfl
    · rfl
theorem nFF_ok (h : D.all0 ds = true) : nFF fn (some ds) = nFF2 (fn ds) := by simp [nFF, h]
theorem nFF2_ok : nFF2 (some (.ret d outs)) = some d := id rfl
theorem frMk_e : frMk cl fn fs Γ = nMk cl fn (fs Γ) := by
  unfold frMk nMk
  cases fs Γ with
  | none => rfl
  | some ds =>
    simp only [Option.bind_some]
    split
    · cases e : fn (.nd .ow (.ins cl []) [] :: ds) with
      | none => rfl
      | some r => cases r with
        | exc x outs => rfl
        | ret d outs => cases d <;> first | rfl | (cases outs with | nil => rfl | cons y ys => cases ys <;> rfl)
    · rfl
theorem nMk_ok (h : D.all0 ds = true) : nMk cl fn (some ds) = nMk2 (fn (.nd .ow (.ins cl []) [] :: ds)) := by simp [nMk, h]
theorem nMk2_ok : nMk2 (some (.ret .non [d])) = some d := id rfl
theorem wLst_e : wLst fa Γ = nW asLst (fa Γ) := by unfold wLst nW; cases fa Γ <;> rfl
theorem wTup_e : wTup fa Γ = nW asTup (fa Γ) := by unfold wTup nW; cases fa Γ <;> rfl
theorem nW_ok {f : D → Option (List D)} : nW f (some d) = f d := id rfl
theorem wEnum_e : wEnum fs Γ = nWs asEnum (fs Γ) := by unfold wEnum nWs; cases fs Γ <;> rfl
theorem wRg1_e : wRg1 fs Γ = nWs asRg1 (fs Γ) := by unfold wRg1 nWs; cases fs Γ <;> rfl
theorem wRg2_e : wRg2 fs Γ = nWs asRg2 (fs Γ) := by unfold wRg2 nWs; cases fs Γ <;> rfl
theorem nWs_ok {f : List D → Option (List D)} : nWs f (some ds) = f ds := id rfl
theorem asLst_sh : asLst (.nd .sh .lst ds) = some ds := id rfl
theorem asLst_tm : asLst (.nd .tm .lst ds) = some ds := id rfl
theorem asTup_sh : asTup (.nd .sh .tup ds) = some ds := id rfl
theorem asTup_tm : asTup (.nd .tm .tup ds) = some ds := id rfl
theorem gFor_e : gFor w t g Γ = nFor t g Γ (w Γ) := by unfold gFor nFor; cases w Γ <;> rfl
theorem nFor_ok : nFor t g Γ (some ds) = loopG t g ds Γ := id rfl
theorem gPut_e : gPut i fl fp fa Γ = nPut i fp fa (fl Γ) := by
  unfold gPut nPut
  cases fl Γ with
  | none => rfl
  | some o => cases o with
    | ok d Γ1 => simp only [Oc.bind]; cases fp Γ1 <;> cases fa Γ1 <;> rfl
    | ex x Γ1 => rfl
theorem nPut_ok : nPut i fp fa (some (.ok d Γ)) = nPut2 i d Γ (fp Γ) (fa Γ) := id rfl
theorem nPut_ex : nPut i fp fa (some (.ex x Γ)) = some (.ex x Γ) := id rfl
theorem nPut2_ok : nPut2 i d Γ (some p) (some a) = (putAt Γ i p a d).map fun Γ2 => .ok .nx Γ2 := id rfl
theorem gFput_e : gFput i cs n fl fp Γ = nFput i cs n fp (fl Γ) := by
  unfold gFput nFput
  cases fl Γ with
  | none => rfl
  | some o => cases o with
    | ok d Γ1 => simp only [Oc.bind]; cases fp Γ1 <;> rfl
    | ex x Γ1 => rfl
theorem nFput_ok : nFput i cs n fp (some (.ok d Γ)) = nFput2 i cs n d Γ (fp Γ) := id rfl
theorem nFput_ex : nFput i cs n fp (some (.ex x Γ)) = some (.ex x Γ) := id rfl
theorem nFput2_ok : nFput2 i cs n d Γ (some p) = (fputAt Γ i p cs n d).map fun Γ2 => .ok .nx Γ2 := id rfl
theorem lApp_e : lApp i fp fa Γ = nApp i Γ (fp Γ) (fa Γ) := by unfold lApp nApp; cases fp Γ <;> cases fa Γ <;> rfl
theorem nApp_ok : nApp i Γ (some p) (some d) = (appAt Γ i p d).map fun Γ' => .ok .non Γ' := id rfl
theorem lAppE_e : lAppE i pe fa Γ = nAppE i fa (pe Γ) := by
  unfold lAppE nAppE
  cases pe Γ with
  | none => rfl
  | some q => simp only [Option.bind_some]; unfold nApp; cases fa q.2 <;> rfl
theorem nAppE_ok : nAppE i fa (some (p, Γ)) = nApp i Γ (some p) (fa Γ) := id rfl
theorem plN_e : plN i Γ = (Γ[i]?.join).map fun _ => [] := by unfold plN; cases Γ[i]?.join <;> rfl
theorem plF_e : plF i cs n fp Γ = nPF Γ i cs n (fp Γ) := by unfold plF nPF; cases fp Γ <;> rfl
theorem plS_e : plS i fp fa Γ = nPS Γ i (fp Γ) (fa Γ) := by unfold plS nPS; cases fp Γ <;> cases fa Γ <;> rfl
theorem plSd_e : plSd i fp fa Γ = nSd i Γ (fp Γ) (fa Γ) := by unfold plSd nSd nSd2; cases fp Γ <;> cases fa Γ <;> first | rfl | (cases Γ[i]?.join <;> rfl)
theorem nSd_ok : nSd i Γ (some p) (some a) = nSd2 i Γ p a Γ[i]?.join := id rfl
theorem gRaise_e : gRaise cl Γ = some (.ex ⟨cl, none⟩ Γ) := id rfl
theorem gRaise2_e : gRaise2 cl f1 f2 fas Γ = nRaise2 cl f1 f2 (fas Γ) := id rfl
theorem nRaise2_ok : nRaise2 cl f1 f2 (some (.ok [.val a, .val b] Γ)) = some (.ex ⟨cl, some ([f2, f1], [b, a])⟩ Γ) := id rfl
theorem gTryPair_e : gTryPair cl f1 f2 i j g Γ = nTryPair cl f1 f2 i j (g Γ) := id rfl
theorem nTryPair_ok {fw : Fw} : nTryPair cl f1 f2 i j (some (.ok fw Γ)) = some (.ok fw Γ) := id rfl
theorem nTryPair_ex (hi : i < Γ.length) (hj : j < Γ.length) : nTryPair cl f1 f2 i j (some (.ex ⟨cl, some ([f2, f1], [b, a])⟩ Γ)) = some (.ok .nx ((Γ.set i none).set j (some (.nd .ow .tup [a, b])))) := by
  simp [nTryPair, hi, hj]
theorem gForO_e : gForO i t g Γ = nForO i t g Γ Γ[i]?.join := by unfold gForO nForO; rfl
theorem nForO_ok : nForO i t g Γ (some (.nd .ow .lst ds)) = loopO i t g (ds.length + 1) 0 Γ := id rfl
/-! data -/
theorem hd_non : (D.non).hd = false := id rfl
theorem hd_bl {b : Bool} : (D.bl b).hd = false := id rfl
theorem hd_int {b : Int} : (D.int b).hd = false := id rfl
theorem hd_str {b : Str} : (D.str b).hd = false := id rfl
theorem hd_sh {k : Kd} : (D.nd .sh k ds).hd = false := id rfl
theorem hd_tm {k : Kd} : (D.nd .tm k ds).hd = false := id rfl
theorem hd_ow {k : Kd} : (D.nd .ow k ds).hd = true := id rfl
theorem noTm_non : (D.non).noTm = true := id rfl
theorem noTm_bl {b : Bool} : (D.bl b).noTm = true := id rfl
theorem noTm_int {b : Int} : (D.int b).noTm = true := id rfl
theorem noTm_str {b : Str} : (D.str b).noTm = true := id rfl
theorem noTm_sh {k : Kd} : (D.nd .sh k ds).noTm = D.noTms ds := by rw [D.noTm]; intro h; cases h
theorem noTm_ow {k : Kd} : (D.nd .ow k ds).noTm = D.noTms ds := by rw [D.noTm]; intro h; cases h
theorem noTms_nil : D.noTms [] = true := id rfl
theorem noTms_cons : D.noTms (d :: ds) = (d.noTm && D.noTms ds) := by rw [D.noTms]
theorem shr_non : (D.non).shr = .non := id rfl
theorem shr_bl {b : Bool} : (D.bl b).shr = .bl b := id rfl
theorem shr_int {b : Int} : (D.int b).shr = .int b := id rfl
theorem shr_str {b : Str} : (D.str b).shr = .str b := id rfl
theorem shr_nd {f : Fg} {k : Kd} : (D.nd f k ds).shr = .nd .sh k (D.shrs ds) := by rw [D.shr]
theorem tmr_non : (D.non).tmr = .non := id rfl
theorem tmr_bl {b : Bool} : (D.bl b).tmr = .bl b := id rfl
theorem tmr_int {b : Int} : (D.int b).tmr = .int b := id rfl
theorem tmr_str {b : Str} : (D.str b).tmr = .str b := id rfl
theorem tmr_sh {k : Kd} : (D.nd .sh k ds).tmr = .nd .sh k ds := by rw [D.tmr]; intro _ _ h; cases h
theorem tmr_tm {k : Kd} : (D.nd .tm k ds).tmr = .nd .tm k ds := by rw [D.tmr]; intro _ _ h; cases h
theorem tmr_ow {k : Kd} : (D.nd .ow k ds).tmr = .nd .tm k (D.tmrs ds) := by rw [D.tmr]
theorem all0_nil : D.all0 [] = true := id rfl
theorem all0_cons : D.all0 (d :: ds) = (!d.hd && D.all0 ds) := id rfl
theorem dAdd_e {x y : Int} : dAdd (.int x) (.int y) = some (.int (x + y)) := id rfl
theorem dSubt_e {x y : Int} : dSubt (.int x) (.int y) = some (.int (x - y)) := id rfl
theorem dMul_e {x y : Int} (h : okMul x y) : dMul (.int x) (.int y) = some (.int (x * y)) := by show (if okMul x y then _ else _) = _; rw [if_pos h]
theorem dDiv_e {x y : Int} (h : okDiv x y) : dDiv (.int x) (.int y) = some (.int (x / y)) := by show (if okDiv x y then _ else _) = _; rw [if_pos h]
theorem dMod_e {x y : Int} (h : 0 < y) : dMod (.int x) (.int y) = some (.int (x % y)) := by show (if okMod x y then _ else _) = _; rw [if_pos (show okMod x y from h)]
theorem dPow_e {x y : Int} (h : okPow x y) : dPow (.int x) (.int y) = some (.int (x ^ y.toNat)) := by show (if okPow x y then _ else _) = _; rw [if_pos h]
theorem dLt_e {x y : Int} : dLt (.int x) (.int y) = some (.bl (decide (x < y))) := id rfl
theorem dLe_e {x y : Int} : dLe (.int x) (.int y) = some (.bl (decide (x ≤ y))) := id rfl
theorem dGt_e {x y : Int} : dGt (.int x) (.int y) = some (.bl (decide (y < x))) := id rfl
theorem dGe_e {x y : Int} : dGe (.int x) (.int y) = some (.bl (decide (y ≤ x))) := id rfl
theorem shaped_int {x : Int} : SeqAt.shaped (.int x) = true := id rfl
theorem dEq_int {x y : Int} : dEq (.int x) (.int y) = some (.bl (decide (x = y))) := by
  have h : ∀ z : Int, SeqAt.shaped (.int z) = true := fun _ => rfl
  simp [dEq, D.py, h]
  rfl
theorem dNe_int {x y : Int} : dNe (.int x) (.int y) = some (.bl (!decide (x = y))) := by
  have h : ∀ z : Int, SeqAt.shaped (.int z) = true := fun _ => rfl
  simp [dNe, D.py, h]
  rfl
theorem pys_ints : ∀ ns : List Int, D.pys (ns.map D.int) = some (ns.map PyData.int)
  | [] => by rw [List.map_nil, D.pys]; rfl
  | n :: ns => by rw [List.map_cons, D.pys, pys_ints ns]; rfl
theorem canAll_ints : ∀ ns : List Int, PyData.canLayAll0 (ns.map PyData.int) = true
  | [] => rfl
  | n :: ns => by rw [List.map_cons, PyData.canLayAll0, canAll_ints ns]; rfl
theorem depth_ints : ∀ ns : List Int, PyData.depthAll (ns.map PyData.int) ≤ 1
  | [] => by decide
  | n :: ns => by rw [List.map_cons, PyData.depthAll]; have := depth_ints ns; simp [PyData.depth]; omega
theorem eqv_ints : ∀ xs ys : List Int, PyData.eqvAll (xs.map PyData.int) (ys.map PyData.int) = decide (xs = ys)
  | [], [] => rfl
  | [], y :: ys => rfl
  | x :: xs, [] => rfl
  | x :: xs, y :: ys => by
    rw [List.map_cons, List.map_cons, PyData.eqvAll, eqv_ints xs ys]
    have : PyData.eqv (.int x) (.int y) = decide (x = y) := rfl
    rw [this]
    simp
theorem shaped_ints (ns : List Int) : SeqAt.shaped (.list (ns.map PyData.int)) = true := by
  unfold SeqAt.shaped
  rw [PyData.canLay0, canAll_ints, PyData.depth]
  have := depth_ints ns
  simp
  omega
theorem dEq_ints {f f' : Fg} {xs ys : List Int} : dEq (.nd f .lst (xs.map D.int)) (.nd f' .lst (ys.map D.int)) = some (.bl (decide (xs = ys))) := by
  unfold dEq
  rw [D.py, D.py, pys_ints, pys_ints]
  simp only [Option.map_some, Option.bind_some]
  rw [if_pos ⟨shaped_ints xs, shaped_ints ys⟩, PyData.eqv, eqv_ints]
theorem dNe_ints {f f' : Fg} {xs ys : List Int} : dNe (.nd f .lst (xs.map D.int)) (.nd f' .lst (ys.map D.int)) = some (.bl (!decide (xs = ys))) := by
  unfold dNe
  rw [D.py, D.py, pys_ints, pys_ints]
  simp only [Option.map_some, Option.bind_some]
  rw [if_pos ⟨shaped_ints xs, shaped_ints ys⟩, PyData.eqv, eqv_ints]
end
end SK

namespace SK
open PySem PySem.Spec L2
def nEnd (ms : List Nat) : Option (Oc Fw) → Option FR
  | some o => endOf ms o
  | none => none
def nOuts (f : List D → FR) : Option (List D) → Option FR
  | some ds => some (f ds)
  | none => none
def nArg (b : Bool) : Option D → Option (List D) → Option (List D)
  | some d, some ds => some ((if b = true then d else d.tmr) :: ds)
  | _, _ => none
section
variable {Γ : Gm} {o : Option D} {ms : List Nat} {i j n m : Nat} {d : D} {ds outs : List D} {x : Xc} {g : G} {r : List AV}
theorem fnOf_e (h : ds.length = n) : fnOf n m ms g ds = nEnd ms (g (ds.map some ++ List.replicate m none)) := by
  unfold fnOf nEnd
  rw [if_pos h]
  cases g (ds.map some ++ List.replicate m none) <;> rfl
theorem nEnd_nx : nEnd ms (some (.ok .nx Γ)) = nOuts (.ret .non) (outsOf ms Γ) := by
  show Option.map _ (outsOf ms Γ) = _
  cases outsOf ms Γ <;> rfl
theorem nEnd_rt : nEnd ms (some (.ok (.rt d) Γ)) = nOuts (.ret d) (outsOf ms Γ) := by
  show Option.map _ (outsOf ms Γ) = _
  cases outsOf ms Γ <;> rfl
theorem nEnd_ex : nEnd ms (some (.ex x Γ)) = nOuts (.exc x) (outsOf ms Γ) := by
  show Option.map _ (outsOf ms Γ) = _
  cases outsOf ms Γ <;> rfl
theorem nOuts_ok {f : List D → FR} : nOuts f (some ds) = some (f ds) := id rfl
theorem outsOf_nil : outsOf [] Γ = some [] := id rfl
theorem outsOf_cons : outsOf (i :: ms) Γ = nCons Γ[i]?.join (outsOf ms Γ) := by
  unfold outsOf
  rw [List.mapM_cons]
  cases Γ[i]?.join with
  | none => rfl
  | some d => cases ms.mapM (fun i => Γ[i]?.join) <;> rfl
theorem gj_nil : (([] : Gm)[i]?).join = none := by simp
theorem gj_zero {o : Option D} {Γ : List (Option D)} : ((o :: Γ)[0]?).join = o := by simp
theorem gj_succ {o : Option D} {Γ : List (Option D)} : ((o :: Γ)[i + 1]?).join = (Γ[i]?).join := by simp
theorem gs_zero {o o' : Option D} {Γ : List (Option D)} : (o :: Γ).set 0 o' = o' :: Γ := id rfl
theorem gs_succ {o o' : Option D} {Γ : List (Option D)} : (o :: Γ).set (i + 1) o' = o :: Γ.set i o' := id rfl
theorem Xc_ok {c : Str} {ns : List Str} : (Xc.mk c (some (ns, ds))).ok = D.noTms ds := id rfl
theorem Xc_ok0 {c : Str} : (Xc.mk c none).ok = true := id rfl
theorem slots_nil : slotsOf [] = [] := id rfl
theorem slots_val : slotsOf (.val d :: r) = slotsOf r := id rfl
theorem slots_slot : slotsOf (.slot i :: r) = i :: slotsOf r := id rfl
theorem dSub_dic {f : Fg} {ks : List Key} {k : D} : dSub (.nd f (.dic ks) ds) k = (D.key k).bind (dlook ks ds) := by cases k <;> first | rfl | simp only [dSub]
theorem avIns_val {f : Fg} {c m : Str} {ns : List Str} : avInsOf Γ c m (.val (.nd f (.ins c ns) ds)) = decide (m ∉ ns) := by
  unfold avInsOf avInsOf.avD; simp
theorem avIns_slot {f : Fg} {c m : Str} {ns : List Str} (h : Γ[i]?.join = some (.nd f (.ins c ns) ds)) : avInsOf Γ c m (.slot i) = decide (m ∉ ns) := by
  unfold avInsOf avInsOf.avD; simp [h]
theorem argD_nil : argD ms Γ j [] = some [] := by rw [argD]
theorem argD_val : argD ms Γ j (.val d :: r) = nCons (some d) (argD ms Γ (j + 1) r) := by rw [argD]; cases argD ms Γ (j + 1) r <;> rfl
theorem argD_slot : argD ms Γ j (.slot i :: r) = nArg (if j ∈ ms then true else false) Γ[i]?.join (argD ms Γ (j + 1) r) := by
  rw [argD]
  cases Γ[i]?.join with
  | none => cases argD ms Γ (j + 1) r <;> rfl
  | some d => cases argD ms Γ (j + 1) r with
    | none => rfl
    | some ds => simp only [Option.bind_some, Option.map_some, nArg]; split <;> simp [*]
theorem nArg_t : nArg true (some d) (some ds) = some (d :: ds) := id rfl
theorem nArg_f : nArg false (some d) (some ds) = some (d.tmr :: ds) := id rfl
theorem pget_nil : pget [] d = some d := id rfl
theorem pget_cons {p : List Nat} {k : Kd} : pget (j :: p) (.nd .ow k ds) = (ds[j]?).bind (pget p) := id rfl
theorem pput_nil {e : D} : pput [] e d = e := id rfl
theorem pput_cons {p : List Nat} {f : Fg} {k : Kd} {e : D} : pput (j :: p) e (.nd f k ds) = match ds[j]? with
    | some d => .nd f k (ds.set j (pput p e d))
    | none => .nd f k ds := rfl
theorem tmrs_nil : D.tmrs [] = [] := by rw [D.tmrs]
theorem tmrs_cons : D.tmrs (d :: ds) = d.tmr :: D.tmrs ds := by rw [D.tmrs]
theorem tmrs_map : ∀ ds : List D, D.tmrs ds = ds.map D.tmr
  | [] => tmrs_nil
  | d :: ds => by rw [tmrs_cons, tmrs_map ds, List.map_cons]
theorem noTms_all : ∀ ds : List D, D.noTms ds = ds.all D.noTm
  | [] => rfl
  | d :: ds => by rw [noTms_cons, noTms_all ds, List.all_cons]
theorem ixN_nat {n k : Nat} (h : k < n) : ixN n (k : Int) = some k := by
  unfold ixN
  rw [if_pos (by omega), if_pos (by omega)]
  simp
theorem atI_nat {α : Type} {xs : List α} {k : Nat} (h : k < xs.length) : atI xs (k : Int) = some xs[k] := by
  unfold atI
  rw [ixN_nat h]
  simp [List.getElem?_eq_getElem h]
theorem dFldC_e {f : Fg} {c n : Str} {ns : List Str} : dFldC [c] n (.nd f (.ins c ns) ds) = dlook ns ds n := by simp [dFldC]
theorem dlook_hd {κ α : Type} [DecidableEq κ] {k : κ} {ks : List κ} {a : α} {as : List α} : dlook (k :: ks) (a :: as) k = some a := by simp [dlook]
end
def nLoop2 (t : D → Gm → Option Gm) (b : G) (ds : List D) : Option (Oc Fw) → Option (Oc Fw)
  | some (.ok .nx Γ) => loopG t b ds Γ
  | some (.ok .ct Γ) => loopG t b ds Γ
  | some (.ok .bk Γ) => some (.ok .nx Γ)
  | o => o
def nLoop1 (t : D → Gm → Option Gm) (b : G) (ds : List D) : Option Gm → Option (Oc Fw)
  | some Γ => nLoop2 t b ds (b Γ)
  | none => none
def nLO2 (i : Nat) (t : D → Gm → Option Gm) (b : G) (n j : Nat) : Option (Oc Fw) → Option (Oc Fw)
  | some (.ok .nx Γ) => loopO i t b n (j + 1) Γ
  | some (.ok .ct Γ) => loopO i t b n (j + 1) Γ
  | some (.ok .bk Γ) => some (.ok .nx Γ)
  | o => o
section
variable {Γ : Gm} {ds : List D} {d : D} {t : D → Gm → Option Gm} {b : G} {x : Xc} {i n j : Nat} {f : D → Gm → Option Gm} {g : List D → Gm → Option Gm}
theorem loopG_nil : loopG t b [] Γ = some (.ok .nx Γ) := id rfl
theorem loopG_cons : loopG t b (d :: ds) Γ = nLoop1 t b ds (t d Γ) := by
  rw [loopG]
  cases t d Γ with
  | none => rfl
  | some Γ1 =>
    simp only [Option.bind_some, nLoop1, nLoop2]
    all_goals (cases b Γ1 with
      | none => rfl
      | some o => cases o with
        | ex x Γ2 => rfl
        | ok fw Γ2 => cases fw <;> rfl)
theorem nLoop1_ok : nLoop1 t b ds (some Γ) = nLoop2 t b ds (b Γ) := id rfl
theorem nLoop2_nx : nLoop2 t b ds (some (.ok .nx Γ)) = loopG t b ds Γ := id rfl
theorem nLoop2_ct : nLoop2 t b ds (some (.ok .ct Γ)) = loopG t b ds Γ := id rfl
theorem nLoop2_bk : nLoop2 t b ds (some (.ok .bk Γ)) = some (.ok .nx Γ) := id rfl
theorem nLoop2_rt : nLoop2 t b ds (some (.ok (.rt d) Γ)) = some (.ok (.rt d) Γ) := id rfl
theorem nLoop2_ex : nLoop2 t b ds (some (.ex x Γ)) = some (.ex x Γ) := id rfl
theorem loopO_end (e : Γ[i]?.join = some (.nd .ow .lst ds)) (h : ds[j]? = none) : loopO i t b (n + 1) j Γ = some (.ok .nx Γ) := by
  rw [loopO, e]; simp only [h]
theorem loopO_step (e : Γ[i]?.join = some (.nd .ow .lst ds)) (h : ds[j]? = some d) (h2 : d.hd = false) {Γ1 : Gm} (h3 : t d Γ = some Γ1) : loopO i t b (n + 1) j Γ = nLO2 i t b n j (b Γ1) := by
  rw [loopO, e]
  simp only [h, h2, h3, Option.bind_some, Bool.false_eq_true, if_false, nLO2]
  all_goals (cases b Γ1 with
    | none => rfl
    | some o => cases o with
      | ex x Γ2 => rfl
      | ok fw Γ2 => cases fw <;> rfl)
theorem nLO2_nx : nLO2 i t b n j (some (.ok .nx Γ)) = loopO i t b n (j + 1) Γ := id rfl
theorem nLO2_ct : nLO2 i t b n j (some (.ok .ct Γ)) = loopO i t b n (j + 1) Γ := id rfl
theorem nLO2_bk : nLO2 i t b n j (some (.ok .bk Γ)) = some (.ok .nx Γ) := id rfl
theorem nLO2_rt : nLO2 i t b n j (some (.ok (.rt d) Γ)) = some (.ok (.rt d) Γ) := id rfl
theorem nLO2_ex : nLO2 i t b n j (some (.ex x Γ)) = some (.ex x Γ) := id rfl
theorem hTup_sh (h : ds.length = n) : hTup n g (.nd .sh .tup ds) Γ = g ds Γ := by simp [hTup, h]
theorem hTup_tm (h : ds.length = n) : hTup n g (.nd .tm .tup ds) Γ = g ds Γ := by simp [hTup, h]
theorem hCons_ok : hCons f g (d :: ds) Γ = (f d Γ).bind (g ds) := id rfl
theorem hNil_ok : hNil [] Γ = some Γ := id rfl
end
end SK

namespace K23
open PySem PySem.Spec L2 SK
open PyProof.Rows (envOfC)
def top (i : Nat) : Stmt := PySem.Challenge.pw_skewhouse_k23_who_stands_against.main.body.getD i (.Pass ⟨0, 0, 0, 0⟩)
abbrev s_Waits_init : Stmt := (C8.clsBody (top 3)).getD 0 (.Pass ⟨0, 0, 0, 0⟩)
abbrev s__law_cell : Stmt := top 9
abbrev s__law_off : Stmt := top 11
abbrev s_Holds_init : Stmt := (C8.clsBody (top 7)).getD 0 (.Pass ⟨0, 0, 0, 0⟩)
abbrev s__law_mixed : Stmt := top 10
abbrev s__law_due : Stmt := top 12
abbrev s__law_alike : Stmt := top 13
abbrev s_meet : Stmt := top 5
abbrev s_Holds_stands : Stmt := (C8.clsBody (top 7)).getD 1 (.Pass ⟨0, 0, 0, 0⟩)
abbrev s_Holds_against : Stmt := (C8.clsBody (top 7)).getD 2 (.Pass ⟨0, 0, 0, 0⟩)
abbrev s_Holds_take : Stmt := (C8.clsBody (top 7)).getD 3 (.Pass ⟨0, 0, 0, 0⟩)
abbrev s__law_taken : Stmt := top 14
abbrev s_law : Stmt := top 15
def d_Waits_init : He.DefD := ⟨("Waits", some "__init__"), "__init__", "Waits.__init__", defArgs s_Waits_init, defBody s_Waits_init, defScope s_Waits_init, [], []⟩
def d__law_cell : He.DefD := ⟨("_law_cell", none), "_law_cell", "_law_cell", defArgs s__law_cell, defBody s__law_cell, defScope s__law_cell, [], []⟩
def d__law_off : He.DefD := ⟨("_law_off", none), "_law_off", "_law_off", defArgs s__law_off, defBody s__law_off, defScope s__law_off, [], []⟩
def d_Holds_init : He.DefD := ⟨("Holds", some "__init__"), "__init__", "Holds.__init__", defArgs s_Holds_init, defBody s_Holds_init, defScope s_Holds_init, [], []⟩
def d__law_mixed : He.DefD := ⟨("_law_mixed", none), "_law_mixed", "_law_mixed", defArgs s__law_mixed, defBody s__law_mixed, defScope s__law_mixed, [], []⟩
def d__law_due : He.DefD := ⟨("_law_due", none), "_law_due", "_law_due", defArgs s__law_due, defBody s__law_due, defScope s__law_due, [], []⟩
def d__law_alike : He.DefD := ⟨("_law_alike", none), "_law_alike", "_law_alike", defArgs s__law_alike, defBody s__law_alike, defScope s__law_alike, [], []⟩
def d_meet : He.DefD := ⟨("meet", none), "meet", "meet", defArgs s_meet, defBody s_meet, defScope s_meet, [], []⟩
def d_Holds_stands : He.DefD := ⟨("Holds", some "stands"), "stands", "Holds.stands", defArgs s_Holds_stands, defBody s_Holds_stands, defScope s_Holds_stands, [], []⟩
def d_Holds_against : He.DefD := ⟨("Holds", some "against"), "against", "Holds.against", defArgs s_Holds_against, defBody s_Holds_against, defScope s_Holds_against, [], []⟩
def d_Holds_take : He.DefD := ⟨("Holds", some "take"), "take", "Holds.take", defArgs s_Holds_take, defBody s_Holds_take, defScope s_Holds_take, [], []⟩
def d__law_taken : He.DefD := ⟨("_law_taken", none), "_law_taken", "_law_taken", defArgs s__law_taken, defBody s__law_taken, defScope s__law_taken, [], []⟩
def d_law : He.DefD := ⟨("law", none), "law", "law", defArgs s_law, defBody s_law, defScope s_law, [], []⟩
def fns : List He.DefD := [d_Waits_init, d__law_cell, d__law_off, d_Holds_init, d__law_mixed, d__law_due, d__law_alike, d_meet, d_Holds_stands, d_Holds_against, d_Holds_take, d__law_taken, d_law]
def fas : List He.Fa := [.free "enumerate", .free "len", .glo "Holds", .cls "Holds", .noat "Holds" "lists", .free "max", .free "min", .free "sorted", .free "isinstance", .free "list", .free "int", .free "bool", .glo "Waits", .glo "_law_cell", .glo "_law_off", .mkr "Holds", .glo "_law_mixed", .glo "_law_due", .glo "_law_alike", .glo "meet", .meth "Holds" "stands", .meth "Holds" "against", .meth "Holds" "take", .glo "_law_taken", .glo "law"]
def exq (K : PySem.W.Frag) : Bool := xiB K "Waits" ["dealing", "others"] && (true)
abbrev HD (K : PySem.W.Frag) (mg : Str → Option Value) : Prop := Hd fas fns exq K mg
section
variable {P : Program} {w : World} {K : PySem.W.Frag} {mg : Str → Option Value} {base : Heap} {f : Addr}
theorem sc_Waits_init : FnScope ["self", "dealing", "others"] ["self", "dealing", "others"] (defScope s_Waits_init) := ⟨rfl, rfl, rfl, by decide +kernel, rfl, by decide +kernel, by decide +kernel⟩
theorem xi_Waits (h : HD K mg) : XiOk K "Waits" ["dealing", "others"] := xiB_ok (by have := h.ex; unfold exq at this; simp only [Bool.and_eq_true] at this; exact this.1)
theorem xci_Waits (h : HD K mg) : XcI P w K mg base "Waits" "dealing" "others" 1 := by
  obtain ⟨fd, F⟩ := h.says.def_ 0 (d := d_Waits_init) rfl
  exact ⟨_, _, fd, _, h.glo 12, (xi_Waits h).oex, (xi_Waits h).ini, (xi_Waits h).ty, init2_ok F sc_Waits_init rfl rfl (xi_Waits h).oex ((xi_Waits h).na _ (by decide)) ((xi_Waits h).na _ (by decide)) (Or.inl rfl) (Or.inl rfl) (Or.inl rfl), F.bindsN fun _ _ _ _ _ _ us hl => match us, hl with | [_, _, _], _ => rfl⟩
def g__law_cell : G := gThen (gIf (ltQ (qB (q2 dLt (qV 1) (qN bLen (qCons (qV 0) (qNil)))))) (gRet (lQ (q2 dSub (qV 0) (qV 1)))) (gNil)) (gRet (lQ (q2 dMod (q2 dMul (q2 dAdd (qV 1) (qC (.int 2))) (qC (.int 104729))) (qC (.int 65537)))))
def fn__law_cell : List D → Option FR := fnOf 2 0 [] g__law_cell
theorem sc__law_cell : FnScope ["_law_script", "_law_k"] ["_law_script", "_law_k"] (defScope s__law_cell) := ⟨rfl, rfl, rfl, by decide +kernel, rfl, by decide +kernel, by decide +kernel⟩
theorem ok__law_cell (h : HD K mg) {fd : FuncData} (F : FunD K "_law_cell" "_law_cell" (defArgs s__law_cell) (defBody s__law_cell) (defScope s__law_cell) [] [] f fd) : FnOk P w K mg base (L2.CX P w) 1 f fd ["_law_script", "_law_k"] (spD ⟨K, mg⟩ [] fn__law_cell) :=
  fnd_ok F sc__law_cell 2 0 (by decide) (by decide) rfl rfl fun cdv A outer s H E r => by
    have tk := takes_cx (P := P) (w := w) (K := K) (mg := mg) (base := base) (N := ["_law_script", "_law_k"]) (qual := "_law_cell") (scope := defScope s__law_cell) (f := f) (cdv := cdv) (A := A) (outer := outer) (s := s) (H := H) (E := E)
    have ow := owns_cx (P := P) (w := w) (K := K) (mg := mg) (base := base) (N := ["_law_script", "_law_k"]) (qual := "_law_cell") (scope := defScope s__law_cell) (f := f) (cdv := cdv) (A := A) (outer := outer) (s := s) (H := H) (E := E)
    exact pb_cons (pb_if (plt_q (pqt_lt (pq_v 1) (pq_len (h.free 1) rfl (pqa_cons (pq_v 0) (pqa_nil))))) (pb_one (pb_ret (pl_q (pq_sub (Room.un1 r) (pq_v 0) (pq_v 1) (fun _ _ => rfl) (fun _ _ => rfl))))) (pb_nil)) (pb_one (pb_ret (pl_q (pq_mod (pq_mul (pq_add (pq_v 1) (pq_int)) (pq_int)) (pq_int)))))
theorem fne__law_cell (h : HD K mg) : Fne P w K mg base "_law_cell" 1 ["_law_script", "_law_k"] [] fn__law_cell := by
  obtain ⟨fd, F⟩ := h.says.def_ 1 (d := d__law_cell) rfl
  exact ⟨_, fd, ok__law_cell h F, h.glo 13, F.kp, F.bindsN fun _ _ _ _ _ _ us hl => match us, hl with | [_, _], _ => rfl⟩
def g__law_off : G := gThen (gIf (ltQ (qB (q2 dEq (q2 dMod (qV 0) (qC (.int 2))) (qC (.int 0))))) (gRet (lQ (q2 dSubt (q2 dMod (q2 dDiv (qV 0) (qC (.int 2))) (qC (.int 60))) (qC (.int 30))))) (gNil)) (gRet (lQ (q2 dSubt (q2 dMod (q2 dDiv (qV 0) (qC (.int 2))) (q2 dAdd (q2 dMul (qC (.int 2)) (q2 dPow (qC (.int 10)) (qC (.int 28)))) (qC (.int 1)))) (q2 dPow (qC (.int 10)) (qC (.int 28))))))
def fn__law_off : List D → Option FR := fnOf 1 0 [] g__law_off
theorem sc__law_off : FnScope ["_law_cell_here"] ["_law_cell_here"] (defScope s__law_off) := ⟨rfl, rfl, rfl, by decide +kernel, rfl, by decide +kernel, by decide +kernel⟩
theorem ok__law_off (h : HD K mg) {fd : FuncData} (F : FunD K "_law_off" "_law_off" (defArgs s__law_off) (defBody s__law_off) (defScope s__law_off) [] [] f fd) : FnOk P w K mg base (L2.CX P w) 1 f fd ["_law_cell_here"] (spD ⟨K, mg⟩ [] fn__law_off) :=
  fnd_ok F sc__law_off 1 0 (by decide) (by decide) rfl rfl fun cdv A outer s H E r => by
    have tk := takes_cx (P := P) (w := w) (K := K) (mg := mg) (base := base) (N := ["_law_cell_here"]) (qual := "_law_off") (scope := defScope s__law_off) (f := f) (cdv := cdv) (A := A) (outer := outer) (s := s) (H := H) (E := E)
    have ow := owns_cx (P := P) (w := w) (K := K) (mg := mg) (base := base) (N := ["_law_cell_here"]) (qual := "_law_off") (scope := defScope s__law_off) (f := f) (cdv := cdv) (A := A) (outer := outer) (s := s) (H := H) (E := E)
    exact pb_cons (pb_if (plt_q (pqt_eq r (pq_mod (pq_v 0) (pq_int)) (pq_int))) (pb_one (pb_ret (pl_q (pq_subt (pq_mod (pq_div (pq_v 0) (pq_int)) (pq_int)) (pq_int))))) (pb_nil)) (pb_one (pb_ret (pl_q (pq_subt (pq_mod (pq_div (pq_v 0) (pq_int)) (pq_add (pq_mul (pq_int) (pq_pow (pq_int) (pq_int))) (pq_int))) (pq_pow (pq_int) (pq_int))))))
theorem fne__law_off (h : HD K mg) : Fne P w K mg base "_law_off" 1 ["_law_cell_here"] [] fn__law_off := by
  obtain ⟨fd, F⟩ := h.says.def_ 2 (d := d__law_off) rfl
  exact ⟨_, fd, ok__law_off h F, h.glo 14, F.kp, F.bindsN fun _ _ _ _ _ _ us hl => match us, hl with | [_], _ => rfl⟩
def g_Holds_init : G := gFput 0 ["Holds"] "lists" (lF (frDK)) (plN 0)
def fn_Holds_init : List D → Option FR := fnOf 1 0 [0] g_Holds_init
theorem sc_Holds_init : FnScope ["self"] ["self"] (defScope s_Holds_init) := ⟨rfl, rfl, rfl, by decide +kernel, rfl, by decide +kernel, by decide +kernel⟩
theorem ok_Holds_init (h : HD K mg) {fd : FuncData} (F : FunD K "__init__" "Holds.__init__" (defArgs s_Holds_init) (defBody s_Holds_init) (defScope s_Holds_init) [] [] f fd) : FnOk P w K mg base (L2.CX P w) 1 f fd ["self"] (spD ⟨K, mg⟩ [0] fn_Holds_init) :=
  fnd_ok F sc_Holds_init 1 0 (by decide) (by decide) rfl rfl fun cdv A outer s H E r => by
    have tk := takes_cx (P := P) (w := w) (K := K) (mg := mg) (base := base) (N := ["self"]) (qual := "Holds.__init__") (scope := defScope s_Holds_init) (f := f) (cdv := cdv) (A := A) (outer := outer) (s := s) (H := H) (E := E)
    have ow := owns_cx (P := P) (w := w) (K := K) (mg := mg) (base := base) (N := ["self"]) (qual := "Holds.__init__") (scope := defScope s_Holds_init) (f := f) (cdv := cdv) (A := A) (outer := outer) (s := s) (H := H) (E := E)
    exact pb_one (pb_fput (clsF_one (B := ⟨K, mg⟩) (c := "Holds") (ns := ["lists"]) ⟨_, h.glo 2, He.cls_ok (h.says.fact 3 (f := .cls "Holds") rfl), na_cons (He.noat_ok (h.says.fact 4 (f := .noat "Holds" "lists") rfl)) na_nil⟩) (List.mem_singleton.mpr rfl) (pl_f (pf_dK)) (ppl_n 0))
theorem mke_Holds (h : HD K mg) : Mke P w K mg base "Holds" 1 ["self"] fn_Holds_init := by
  obtain ⟨fd, F⟩ := h.says.def_ 3 (d := d_Holds_init) rfl
  exact ⟨_, _, fd, h.glo 2, He.mkr_ok (h.says.fact 15 (f := .mkr "Holds") rfl), ok_Holds_init h F, F.bindsN fun _ _ _ _ _ _ us hl => match us, hl with | [_], _ => rfl⟩
def g__law_mixed : G := gRet (lQ (q2 dMod (q2 dAdd (q2 dAdd (q2 dMul (q2 dMod (qV 0) (qC (.int 2147483647))) (qC (.int 48271))) (q2 dMul (qC (.int 7919)) (qV 1))) (qC (.int 13))) (qC (.int 2147483629))))
def fn__law_mixed : List D → Option FR := fnOf 2 0 [] g__law_mixed
theorem sc__law_mixed : FnScope ["_law_cell_here", "_law_k"] ["_law_cell_here", "_law_k"] (defScope s__law_mixed) := ⟨rfl, rfl, rfl, by decide +kernel, rfl, by decide +kernel, by decide +kernel⟩
theorem ok__law_mixed (h : HD K mg) {fd : FuncData} (F : FunD K "_law_mixed" "_law_mixed" (defArgs s__law_mixed) (defBody s__law_mixed) (defScope s__law_mixed) [] [] f fd) : FnOk P w K mg base (L2.CX P w) 1 f fd ["_law_cell_here", "_law_k"] (spD ⟨K, mg⟩ [] fn__law_mixed) :=
  fnd_ok F sc__law_mixed 2 0 (by decide) (by decide) rfl rfl fun cdv A outer s H E r => by
    have tk := takes_cx (P := P) (w := w) (K := K) (mg := mg) (base := base) (N := ["_law_cell_here", "_law_k"]) (qual := "_law_mixed") (scope := defScope s__law_mixed) (f := f) (cdv := cdv) (A := A) (outer := outer) (s := s) (H := H) (E := E)
    have ow := owns_cx (P := P) (w := w) (K := K) (mg := mg) (base := base) (N := ["_law_cell_here", "_law_k"]) (qual := "_law_mixed") (scope := defScope s__law_mixed) (f := f) (cdv := cdv) (A := A) (outer := outer) (s := s) (H := H) (E := E)
    exact pb_one (pb_ret (pl_q (pq_mod (pq_add (pq_add (pq_mul (pq_mod (pq_v 0) (pq_int)) (pq_int)) (pq_mul (pq_int) (pq_v 1))) (pq_int)) (pq_int))))
theorem fne__law_mixed (h : HD K mg) : Fne P w K mg base "_law_mixed" 1 ["_law_cell_here", "_law_k"] [] fn__law_mixed := by
  obtain ⟨fd, F⟩ := h.says.def_ 4 (d := d__law_mixed) rfl
  exact ⟨_, fd, ok__law_mixed h F, h.glo 16, F.kp, F.bindsN fun _ _ _ _ _ _ us hl => match us, hl with | [_, _], _ => rfl⟩
def lt__law_due_1 : D → Gm → Option Gm := hTup 4 (hCons (setG 6) (hCons (setG 7) (hCons (setG 8) (hCons (setG 9) (hNil)))))
def lb__law_due_1 : G := gIf (ltQ (qAnd (qB (q2 dNe (qV 6) (qV 1))) (qAnd (qOr (qB (qV 4)) (qB (qV 9))) (qB (q2 dLe (qN bMax (qCons (qV 2) (qCons (qV 7) (qNil)))) (qN bMin (qCons (qV 3) (qCons (qV 8) (qNil))))))))) (gPut 5 (lQ (qC (.bl true))) (plN 5) (qV 6)) (gNil)
def g__law_due : G := gThen (gSet 5 (lF (frDK))) (gThen (gFor (wLst (qV 0)) (lt__law_due_1) (lb__law_due_1)) (gRet (lQ (qN bSorted (qCons (qV 5) (qNil))))))
def fn__law_due : List D → Option FR := fnOf 5 5 [] g__law_due
theorem sc__law_due : FnScope ["_law_rows", "_law_dealing", "_law_low", "_law_high", "_law_own", "_law_found", "_law_other", "_law_start", "_law_end", "_law_alone"] ["_law_rows", "_law_dealing", "_law_low", "_law_high", "_law_own"] (defScope s__law_due) := ⟨rfl, rfl, rfl, by decide +kernel, rfl, by decide +kernel, by decide +kernel⟩
theorem ok__law_due (h : HD K mg) {fd : FuncData} (F : FunD K "_law_due" "_law_due" (defArgs s__law_due) (defBody s__law_due) (defScope s__law_due) [] [] f fd) : FnOk P w K mg base (L2.CX P w) 1 f fd ["_law_rows", "_law_dealing", "_law_low", "_law_high", "_law_own"] (spD ⟨K, mg⟩ [] fn__law_due) :=
  fnd_ok F sc__law_due 5 5 (by decide) (by decide) rfl rfl fun cdv A outer s H E r => by
    have tk := takes_cx (P := P) (w := w) (K := K) (mg := mg) (base := base) (N := ["_law_rows", "_law_dealing", "_law_low", "_law_high", "_law_own", "_law_found", "_law_other", "_law_start", "_law_end", "_law_alone"]) (qual := "_law_due") (scope := defScope s__law_due) (f := f) (cdv := cdv) (A := A) (outer := outer) (s := s) (H := H) (E := E)
    have ow := owns_cx (P := P) (w := w) (K := K) (mg := mg) (base := base) (N := ["_law_rows", "_law_dealing", "_law_low", "_law_high", "_law_own", "_law_found", "_law_other", "_law_start", "_law_end", "_law_alone"]) (qual := "_law_due") (scope := defScope s__law_due) (f := f) (cdv := cdv) (A := A) (outer := outer) (s := s) (H := H) (E := E)
    exact pb_cons (pb_set (i := 5) sc__law_due.nd rfl (Or.inl rfl) (pl_f (pf_dK)) (by decide)) (pb_cons (pb_for ow rfl (pwk_lst (pq_v 0)) (ptg_tup rfl (ptgs_cons (ptg_name (i := 6) sc__law_due.nd rfl (Or.inl rfl) (by decide)) (ptgs_cons (ptg_name (i := 7) sc__law_due.nd rfl (Or.inl rfl) (by decide)) (ptgs_cons (ptg_name (i := 8) sc__law_due.nd rfl (Or.inl rfl) (by decide)) (ptgs_cons (ptg_name (i := 9) sc__law_due.nd rfl (Or.inl rfl) (by decide)) (ptgs_nil)))))) (pb_one (pb_if (plt_q (PW.pt (pqw_and (pqt_ne r (pq_v 6) (pq_v 1)) (pqw_and (PW.pt (pqw_or (pqt_val (pq_v 4)) (pqw_or1 (pqt_val (pq_v 9))))) (pqw_and1 (pqt_le (pq_max rfl (h.free 5) rfl (pqa_cons (pq_v 2) (pqa_cons (pq_v 7) (pqa_nil)))) (pq_min rfl (h.free 6) rfl (pqa_cons (pq_v 3) (pqa_cons (pq_v 8) (pqa_nil)))))))))) (pb_one (pb_put (Room.un1 r) (pl_q (pq_bl)) (ppl_n 5) (pq_v 6))) (pb_nil)))) (pb_one (pb_ret (pl_q (pq_sorted rfl (h.free 7) rfl (pqa_cons (pq_v 5) (pqa_nil)))))))
theorem fne__law_due (h : HD K mg) : Fne P w K mg base "_law_due" 1 ["_law_rows", "_law_dealing", "_law_low", "_law_high", "_law_own"] [] fn__law_due := by
  obtain ⟨fd, F⟩ := h.says.def_ 5 (d := d__law_due) rfl
  exact ⟨_, fd, ok__law_due h F, h.glo 17, F.kp, F.bindsN fun _ _ _ _ _ _ us hl => match us, hl with | [_, _, _, _, _], _ => rfl⟩
def lt__law_alike_1 : D → Gm → Option Gm := setG 2
def lb__law_alike_1 : G := gIf (ltQ (qOr (qNot (qB (q1 (dIsi "int") (qV 2)))) (qB (q1 (dIsi "bool") (qV 2))))) (gRet (lQ (qC (.bl false)))) (gNil)
def g__law_alike : G := gThen (gIf (ltQ (qOr (qNot (qB (q1 (dIsi "list") (qV 0)))) (qB (q2 dNe (qV 0) (qV 1))))) (gRet (lQ (qC (.bl false)))) (gNil)) (gThen (gForO 0 (lt__law_alike_1) (lb__law_alike_1)) (gThen (gDrop (lApp 0 (plN 0) (frQ (qC (.int 0))))) (gRet (lQ (qC (.bl true))))))
def fn__law_alike : List D → Option FR := fnOf 2 1 [0] g__law_alike
theorem sc__law_alike : FnScope ["_law_found", "_law_due_here", "_law_one"] ["_law_found", "_law_due_here"] (defScope s__law_alike) := ⟨rfl, rfl, rfl, by decide +kernel, rfl, by decide +kernel, by decide +kernel⟩
theorem ok__law_alike (h : HD K mg) {fd : FuncData} (F : FunD K "_law_alike" "_law_alike" (defArgs s__law_alike) (defBody s__law_alike) (defScope s__law_alike) [] [] f fd) : FnOk P w K mg base (L2.CX P w) 1 f fd ["_law_found", "_law_due_here"] (spD ⟨K, mg⟩ [0] fn__law_alike) :=
  fnd_ok F sc__law_alike 2 1 (by decide) (by decide) rfl rfl fun cdv A outer s H E r => by
    have tk := takes_cx (P := P) (w := w) (K := K) (mg := mg) (base := base) (N := ["_law_found", "_law_due_here", "_law_one"]) (qual := "_law_alike") (scope := defScope s__law_alike) (f := f) (cdv := cdv) (A := A) (outer := outer) (s := s) (H := H) (E := E)
    have ow := owns_cx (P := P) (w := w) (K := K) (mg := mg) (base := base) (N := ["_law_found", "_law_due_here", "_law_one"]) (qual := "_law_alike") (scope := defScope s__law_alike) (f := f) (cdv := cdv) (A := A) (outer := outer) (s := s) (H := H) (E := E)
    exact pb_cons (pb_if (plt_q (PW.pt (pqw_or (pqt_not (pqt_val (pq_isi rfl (h.free 8) rfl (h.free 9) (by decide +kernel) (pq_v 0)))) (pqw_or1 (pqt_ne r (pq_v 0) (pq_v 1)))))) (pb_one (pb_ret (pl_q (pq_bl)))) (pb_nil)) (pb_cons (pb_forO (i := 0) rfl (by first | exact Or.inl rfl | exact Or.inr (Or.inl rfl)) (by decide) (by decide) ow rfl (ptg_name (i := 2) sc__law_alike.nd rfl (Or.inl rfl) (by decide)) (pb_one (pb_if (plt_q (PW.pt (pqw_or (pqt_not (pqt_val (pq_isi rfl (h.free 8) rfl (h.free 10) (by decide +kernel) (pq_v 2)))) (pqw_or1 (pqt_val (pq_isi rfl (h.free 8) rfl (h.free 11) (by decide +kernel) (pq_v 2))))))) (pb_one (pb_ret (pl_q (pq_bl)))) (pb_nil)))) (pb_cons (pb_expr (pl_app (ppl_n 0) (pf_q (pq_int)))) (pb_one (pb_ret (pl_q (pq_bl))))))
theorem fne__law_alike (h : HD K mg) : Fne P w K mg base "_law_alike" 1 ["_law_found", "_law_due_here"] [0] fn__law_alike := by
  obtain ⟨fd, F⟩ := h.says.def_ 6 (d := d__law_alike) rfl
  exact ⟨_, fd, ok__law_alike h F, h.glo 18, F.kp, F.bindsN fun _ _ _ _ _ _ us hl => match us, hl with | [_, _], _ => rfl⟩
def g_meet : G := gRet (lQ (q2 dLe (qN bMax (qCons (qV 0) (qCons (qV 2) (qNil)))) (qN bMin (qCons (qV 1) (qCons (qV 3) (qNil))))))
def fn_meet : List D → Option FR := fnOf 4 0 [] g_meet
theorem sc_meet : FnScope ["low", "high", "other_low", "other_high"] ["low", "high", "other_low", "other_high"] (defScope s_meet) := ⟨rfl, rfl, rfl, by decide +kernel, rfl, by decide +kernel, by decide +kernel⟩
theorem ok_meet (h : HD K mg) {fd : FuncData} (F : FunD K "meet" "meet" (defArgs s_meet) (defBody s_meet) (defScope s_meet) [] [] f fd) : FnOk P w K mg base (L2.CX P w) 1 f fd ["low", "high", "other_low", "other_high"] (spD ⟨K, mg⟩ [] fn_meet) :=
  fnd_ok F sc_meet 4 0 (by decide) (by decide) rfl rfl fun cdv A outer s H E r => by
    have tk := takes_cx (P := P) (w := w) (K := K) (mg := mg) (base := base) (N := ["low", "high", "other_low", "other_high"]) (qual := "meet") (scope := defScope s_meet) (f := f) (cdv := cdv) (A := A) (outer := outer) (s := s) (H := H) (E := E)
    have ow := owns_cx (P := P) (w := w) (K := K) (mg := mg) (base := base) (N := ["low", "high", "other_low", "other_high"]) (qual := "meet") (scope := defScope s_meet) (f := f) (cdv := cdv) (A := A) (outer := outer) (s := s) (H := H) (E := E)
    exact pb_one (pb_ret (pl_q (pq_le (pq_max rfl (h.free 5) rfl (pqa_cons (pq_v 0) (pqa_cons (pq_v 2) (pqa_nil)))) (pq_min rfl (h.free 6) rfl (pqa_cons (pq_v 1) (pqa_cons (pq_v 3) (pqa_nil)))))))
theorem fne_meet (h : HD K mg) : Fne P w K mg base "meet" 1 ["low", "high", "other_low", "other_high"] [] fn_meet := by
  obtain ⟨fd, F⟩ := h.says.def_ 7 (d := d_meet) rfl
  exact ⟨_, fd, ok_meet h F, h.glo 19, F.kp, F.bindsN fun _ _ _ _ _ _ us hl => match us, hl with | [_, _, _, _], _ => rfl⟩
def lt_Holds_stands_1 : D → Gm → Option Gm := hTup 3 (hCons (setG 5) (hCons (setG 6) (hCons (setG 7) (hNil))))
def lb_Holds_stands_1 : G := gIf (ltQ (qAnd (qOr (qB (qV 4)) (qB (qV 7))) (qB (qFn fn_meet (qCons (qV 5) (qCons (qV 6) (qCons (qV 2) (qCons (qV 3) (qNil))))))))) (gRet (lQ (qC (.bl true)))) (gNil)
def g_Holds_stands : G := gThen (gFor (wLst (q2 dSub (q1 (dFldC ["Holds"] "lists") (qV 0)) (qV 1))) (lt_Holds_stands_1) (lb_Holds_stands_1)) (gRet (lQ (qC (.bl false))))
def fn_Holds_stands : List D → Option FR := fnOf 5 3 [] g_Holds_stands
theorem sc_Holds_stands : FnScope ["self", "other", "low", "high", "own", "start", "end", "alone"] ["self", "other", "low", "high", "own"] (defScope s_Holds_stands) := ⟨rfl, rfl, rfl, by decide +kernel, rfl, by decide +kernel, by decide +kernel⟩
theorem ok_Holds_stands (h : HD K mg) {fd : FuncData} (F : FunD K "stands" "Holds.stands" (defArgs s_Holds_stands) (defBody s_Holds_stands) (defScope s_Holds_stands) [] [] f fd) : FnOk P w K mg base (L2.CX P w) 2 f fd ["self", "other", "low", "high", "own"] (spD ⟨K, mg⟩ [] fn_Holds_stands) :=
  fnd_ok F sc_Holds_stands 5 3 (by decide) (by decide) rfl rfl fun cdv A outer s H E r => by
    have tk := takes_cx (P := P) (w := w) (K := K) (mg := mg) (base := base) (N := ["self", "other", "low", "high", "own", "start", "end", "alone"]) (qual := "Holds.stands") (scope := defScope s_Holds_stands) (f := f) (cdv := cdv) (A := A) (outer := outer) (s := s) (H := H) (E := E)
    have ow := owns_cx (P := P) (w := w) (K := K) (mg := mg) (base := base) (N := ["self", "other", "low", "high", "own", "start", "end", "alone"]) (qual := "Holds.stands") (scope := defScope s_Holds_stands) (f := f) (cdv := cdv) (A := A) (outer := outer) (s := s) (H := H) (E := E)
    exact pb_cons (pb_for ow rfl (pwk_lst (pq_sub (Room.un1 r) (pq_fld (clsF_one (B := ⟨K, mg⟩) (c := "Holds") (ns := ["lists"]) ⟨_, h.glo 2, He.cls_ok (h.says.fact 3 (f := .cls "Holds") rfl), na_cons (He.noat_ok (h.says.fact 4 (f := .noat "Holds" "lists") rfl)) na_nil⟩) (List.mem_singleton.mpr rfl) (pq_v 0) rfl) (pq_v 1) (fun _ _ => rfl) (fun _ _ => rfl))) (ptg_tup rfl (ptgs_cons (ptg_name (i := 5) sc_Holds_stands.nd rfl (Or.inl rfl) (by decide)) (ptgs_cons (ptg_name (i := 6) sc_Holds_stands.nd rfl (Or.inl rfl) (by decide)) (ptgs_cons (ptg_name (i := 7) sc_Holds_stands.nd rfl (Or.inl rfl) (by decide)) (ptgs_nil))))) (pb_one (pb_if (plt_q (PW.pt (pqw_and (PW.pt (pqw_or (pqt_val (pq_v 4)) (pqw_or1 (pqt_val (pq_v 7))))) (pqw_and1 (pqt_val (pq_fn (fne_meet h) (r.mono (by decide)) rfl (pqa_cons (pq_v 5) (pqa_cons (pq_v 6) (pqa_cons (pq_v 2) (pqa_cons (pq_v 3) (pqa_nil))))) tk)))))) (pb_one (pb_ret (pl_q (pq_bl)))) (pb_nil)))) (pb_one (pb_ret (pl_q (pq_bl))))
theorem mte_Holds_stands (h : HD K mg) : Mte P w K mg base "Holds" "stands" 2 ["self", "other", "low", "high", "own"] [] fn_Holds_stands := by
  obtain ⟨fd, F⟩ := h.says.def_ 8 (d := d_Holds_stands) rfl
  exact ⟨_, _, fd, h.glo 2, He.cls_ok (h.says.fact 3 (f := .cls "Holds") rfl), He.meth_ok (h.says.fact 20 (f := .meth "Holds" "stands") rfl), ok_Holds_stands h F, F.bindsN fun _ _ _ _ _ _ us hl => match us, hl with | [_, _, _, _, _], _ => rfl⟩
def lt_Holds_against_1 : D → Gm → Option Gm := setG 6
def lb_Holds_against_1 : G := gIf (ltAnd (ltQ (qB (q2 dNe (qV 6) (qV 1)))) (ltV (lMeth "Holds" "stands" fn_Holds_stands [] (vN 0) (aCons (vN 6) (aCons (vN 2) (aCons (vN 3) (aCons (vN 4) (aNil)))))))) (gDrop (lApp 5 (plN 5) (frQ (qV 6)))) (gNil)
def g_Holds_against : G := gThen (gSet 5 (lF (frSeq .lst (qNil)))) (gThen (gFor (wLst (qN bSorted (qCons (q1 (dFldC ["Holds"] "lists") (qV 0)) (qNil)))) (lt_Holds_against_1) (lb_Holds_against_1)) (gRet (lM 5)))
def fn_Holds_against : List D → Option FR := fnOf 5 2 [] g_Holds_against
theorem sc_Holds_against : FnScope ["self", "dealing", "low", "high", "own", "found", "other"] ["self", "dealing", "low", "high", "own"] (defScope s_Holds_against) := ⟨rfl, rfl, rfl, by decide +kernel, rfl, by decide +kernel, by decide +kernel⟩
theorem ok_Holds_against (h : HD K mg) {fd : FuncData} (F : FunD K "against" "Holds.against" (defArgs s_Holds_against) (defBody s_Holds_against) (defScope s_Holds_against) [] [] f fd) : FnOk P w K mg base (L2.CX P w) 3 f fd ["self", "dealing", "low", "high", "own"] (spD ⟨K, mg⟩ [] fn_Holds_against) :=
  fnd_ok F sc_Holds_against 5 2 (by decide) (by decide) rfl rfl fun cdv A outer s H E r => by
    have tk := takes_cx (P := P) (w := w) (K := K) (mg := mg) (base := base) (N := ["self", "dealing", "low", "high", "own", "found", "other"]) (qual := "Holds.against") (scope := defScope s_Holds_against) (f := f) (cdv := cdv) (A := A) (outer := outer) (s := s) (H := H) (E := E)
    have ow := owns_cx (P := P) (w := w) (K := K) (mg := mg) (base := base) (N := ["self", "dealing", "low", "high", "own", "found", "other"]) (qual := "Holds.against") (scope := defScope s_Holds_against) (f := f) (cdv := cdv) (A := A) (outer := outer) (s := s) (H := H) (E := E)
    exact pb_cons (pb_set (i := 5) sc_Holds_against.nd rfl (Or.inl rfl) (pl_f (pf_lst (pqa_nil))) (by decide)) (pb_cons (pb_for ow rfl (pwk_lst (pq_sorted rfl (h.free 7) rfl (pqa_cons (pq_fld (clsF_one (B := ⟨K, mg⟩) (c := "Holds") (ns := ["lists"]) ⟨_, h.glo 2, He.cls_ok (h.says.fact 3 (f := .cls "Holds") rfl), na_cons (He.noat_ok (h.says.fact 4 (f := .noat "Holds" "lists") rfl)) na_nil⟩) (List.mem_singleton.mpr rfl) (pq_v 0) rfl) (pqa_nil)))) (ptg_name (i := 6) sc_Holds_against.nd rfl (Or.inl rfl) (by decide)) (pb_one (pb_if (PW.pt (plw_and (plt_q (pqt_ne r (pq_v 6) (pq_v 1))) (plw_and1 (plt_v (pl_meth (mte_Holds_stands h) (r.mono (by decide)) tk (by decide) (plv_n 0) (pla_cons (plv_n 6) (pla_cons (plv_n 2) (pla_cons (plv_n 3) (pla_cons (plv_n 4) (pla_nil)))))))))) (pb_one (pb_expr (pl_app (ppl_n 5) (pf_q (pq_v 6))))) (pb_nil)))) (pb_one (pb_ret (pl_m 5))))
theorem mte_Holds_against (h : HD K mg) : Mte P w K mg base "Holds" "against" 3 ["self", "dealing", "low", "high", "own"] [] fn_Holds_against := by
  obtain ⟨fd, F⟩ := h.says.def_ 9 (d := d_Holds_against) rfl
  exact ⟨_, _, fd, h.glo 2, He.cls_ok (h.says.fact 3 (f := .cls "Holds") rfl), He.meth_ok (h.says.fact 21 (f := .meth "Holds" "against") rfl), ok_Holds_against h F, F.bindsN fun _ _ _ _ _ _ us hl => match us, hl with | [_, _, _, _, _], _ => rfl⟩
def g_Holds_take : G := gThen (gSet 5 (lMeth "Holds" "against" fn_Holds_against [] (vN 0) (aCons (vN 1) (aCons (vN 2) (aCons (vN 3) (aCons (vN 4) (aNil))))))) (gThen (gIf (ltQ (qB (q2 dNe (qV 5) (qSeq .lst (qNil))))) (gRaise2 "Waits" "dealing" "others" (aCons (vQ (qV 1)) (aCons (vL (lM 5)) (aNil)))) (gNil)) (gDrop (lAppE 0 (plSd 0 (plF 0 ["Holds"] "lists" (plN 0)) (qV 1)) (frQ (qSeq .tup (qCons (qV 2) (qCons (qV 3) (qCons (qV 4) (qNil)))))))))
def fn_Holds_take : List D → Option FR := fnOf 5 1 [0] g_Holds_take
theorem sc_Holds_take : FnScope ["self", "dealing", "low", "high", "own", "others"] ["self", "dealing", "low", "high", "own"] (defScope s_Holds_take) := ⟨rfl, rfl, rfl, by decide +kernel, rfl, by decide +kernel, by decide +kernel⟩
theorem ok_Holds_take (h : HD K mg) {fd : FuncData} (F : FunD K "take" "Holds.take" (defArgs s_Holds_take) (defBody s_Holds_take) (defScope s_Holds_take) [] [] f fd) : FnOk P w K mg base (L2.CX P w) 4 f fd ["self", "dealing", "low", "high", "own"] (spD ⟨K, mg⟩ [0] fn_Holds_take) :=
  fnd_ok F sc_Holds_take 5 1 (by decide) (by decide) rfl rfl fun cdv A outer s H E r => by
    have tk := takes_cx (P := P) (w := w) (K := K) (mg := mg) (base := base) (N := ["self", "dealing", "low", "high", "own", "others"]) (qual := "Holds.take") (scope := defScope s_Holds_take) (f := f) (cdv := cdv) (A := A) (outer := outer) (s := s) (H := H) (E := E)
    have ow := owns_cx (P := P) (w := w) (K := K) (mg := mg) (base := base) (N := ["self", "dealing", "low", "high", "own", "others"]) (qual := "Holds.take") (scope := defScope s_Holds_take) (f := f) (cdv := cdv) (A := A) (outer := outer) (s := s) (H := H) (E := E)
    exact pb_cons (pb_set (i := 5) sc_Holds_take.nd rfl (Or.inl rfl) (pl_meth (mte_Holds_against h) (r.mono (by decide)) tk (by decide) (plv_n 0) (pla_cons (plv_n 1) (pla_cons (plv_n 2) (pla_cons (plv_n 3) (pla_cons (plv_n 4) (pla_nil)))))) (by decide)) (pb_cons (pb_if (plt_q (pqt_ne r (pq_v 5) (pq_lst (pqa_nil)))) (pb_one (pb_raise2 rfl tk (xci_Waits h) (r.mono (by decide)) rfl (pla_cons (plv_q (pq_v 1)) (pla_cons (plv_l (pl_m 5)) (pla_nil))))) (pb_nil)) (pb_one (pb_expr (pl_appE (pple_sd (ppl_f (clsF_one (B := ⟨K, mg⟩) (c := "Holds") (ns := ["lists"]) ⟨_, h.glo 2, He.cls_ok (h.says.fact 3 (f := .cls "Holds") rfl), na_cons (He.noat_ok (h.says.fact 4 (f := .noat "Holds" "lists") rfl)) na_nil⟩) (List.mem_singleton.mpr rfl) (ppl_n 0) rfl) (pq_v 1) (m2_of rfl rfl rfl rfl)) (pf_q (pq_tup (pqa_cons (pq_v 2) (pqa_cons (pq_v 3) (pqa_cons (pq_v 4) (pqa_nil))))))))))
theorem mte_Holds_take (h : HD K mg) : Mte P w K mg base "Holds" "take" 4 ["self", "dealing", "low", "high", "own"] [0] fn_Holds_take := by
  obtain ⟨fd, F⟩ := h.says.def_ 10 (d := d_Holds_take) rfl
  exact ⟨_, _, fd, h.glo 2, He.cls_ok (h.says.fact 3 (f := .cls "Holds") rfl), He.meth_ok (h.says.fact 22 (f := .meth "Holds" "take") rfl), ok_Holds_take h F, F.bindsN fun _ _ _ _ _ _ us hl => match us, hl with | [_, _, _, _, _], _ => rfl⟩
def g__law_taken : G := gThen (gSet 5 (lQ (qC .non))) (gThen (gTryPair "Waits" "dealing" "others" 6 5 (gDrop (lMeth "Holds" "take" fn_Holds_take [0] (vN 0) (aCons (vN 1) (aCons (vN 2) (aCons (vN 3) (aCons (vN 4) (aNil)))))))) (gRet (lM 5)))
def fn__law_taken : List D → Option FR := fnOf 5 2 [0] g__law_taken
theorem sc__law_taken : FnScope ["_law_holds", "_law_dealing", "_law_low", "_law_high", "_law_own", "_law_answer", "e"] ["_law_holds", "_law_dealing", "_law_low", "_law_high", "_law_own"] (defScope s__law_taken) := ⟨rfl, rfl, rfl, by decide +kernel, rfl, by decide +kernel, by decide +kernel⟩
theorem ok__law_taken (h : HD K mg) {fd : FuncData} (F : FunD K "_law_taken" "_law_taken" (defArgs s__law_taken) (defBody s__law_taken) (defScope s__law_taken) [] [] f fd) : FnOk P w K mg base (L2.CX P w) 5 f fd ["_law_holds", "_law_dealing", "_law_low", "_law_high", "_law_own"] (spD ⟨K, mg⟩ [0] fn__law_taken) :=
  fnd_ok F sc__law_taken 5 2 (by decide) (by decide) rfl rfl fun cdv A outer s H E r => by
    have tk := takes_cx (P := P) (w := w) (K := K) (mg := mg) (base := base) (N := ["_law_holds", "_law_dealing", "_law_low", "_law_high", "_law_own", "_law_answer", "e"]) (qual := "_law_taken") (scope := defScope s__law_taken) (f := f) (cdv := cdv) (A := A) (outer := outer) (s := s) (H := H) (E := E)
    have ow := owns_cx (P := P) (w := w) (K := K) (mg := mg) (base := base) (N := ["_law_holds", "_law_dealing", "_law_low", "_law_high", "_law_own", "_law_answer", "e"]) (qual := "_law_taken") (scope := defScope s__law_taken) (f := f) (cdv := cdv) (A := A) (outer := outer) (s := s) (H := H) (E := E)
    exact pb_cons (pb_set (i := 5) sc__law_taken.nd rfl (Or.inl rfl) (pl_q (pq_non)) (by decide)) (pb_cons (pb_tryPair (i := 6) (j := 5) rfl rfl sc__law_taken.nd rfl rfl (by decide) rfl (Or.inl rfl) (Or.inl rfl) rfl (by decide) (h.glo 12) (xi_Waits h).exm (xi_Waits h).xf ((xi_Waits h).na _ (by decide)) ((xi_Waits h).na _ (by decide)) (by decide) tk (by decide) (by decide) (by decide) (by decide) (.inl rfl) (fun W' pn xe tk ow => pb_one (pb_expr (pl_meth (mte_Holds_take h) (r.mono (by decide)) tk (by decide) (plv_n 0) (pla_cons (plv_n 1) (pla_cons (plv_n 2) (pla_cons (plv_n 3) (pla_cons (plv_n 4) (pla_nil)))))))) rfl rfl (fun _ _ => rfl) (fun _ _ => rfl) rfl) (pb_one (pb_ret (pl_m 5))))
theorem fne__law_taken (h : HD K mg) : Fne P w K mg base "_law_taken" 5 ["_law_holds", "_law_dealing", "_law_low", "_law_high", "_law_own"] [0] fn__law_taken := by
  obtain ⟨fd, F⟩ := h.says.def_ 11 (d := d__law_taken) rfl
  exact ⟨_, fd, ok__law_taken h F, h.glo 23, F.kp, F.bindsN fun _ _ _ _ _ _ us hl => match us, hl with | [_, _, _, _, _], _ => rfl⟩
def lr_law_1 : G := gIf (ltNot (ltV (lFn fn__law_alike [0] (aCons (vL (lMeth "Holds" "against" fn_Holds_against [] (vN 4) (aCons (vN 15) (aCons (vN 10) (aCons (vN 11) (aCons (vQ (qC (.bl true))) (aNil))))))) (aCons (vL (lFn fn__law_due [] (aCons (vN 5) (aCons (vN 15) (aCons (vN 10) (aCons (vN 11) (aCons (vQ (qC (.bl true))) (aNil)))))))) (aNil)))))) (gRet (lQ (qC (.bl false)))) (gNil)
def lr_law_2 : G := gThen (gSetF 13 (lFn fn__law_due [] (aCons (vN 5) (aCons (vN 9) (aCons (vN 10) (aCons (vN 11) (aCons (vN 12) (aNil)))))))) (gThen (gIf (ltNot (ltV (lFn fn__law_alike [0] (aCons (vL (lMeth "Holds" "against" fn_Holds_against [] (vN 4) (aCons (vN 9) (aCons (vN 10) (aCons (vN 11) (aCons (vN 12) (aNil))))))) (aCons (vN 13) (aNil)))))) (gRet (lQ (qC (.bl false)))) (gNil)) (gThen (gSet 14 (lFn fn__law_taken [0] (aCons (vN 4) (aCons (vN 9) (aCons (vN 10) (aCons (vN 11) (aCons (vN 12) (aNil)))))))) (gThen (gIf (ltQ (qB (q2 dEq (qV 13) (qSeq .lst (qNil))))) (gThen (gIf (ltQ (qB (q2 dIsNot (qV 14) (qC .non)))) (gRet (lQ (qC (.bl false)))) (gNil)) (gDrop (lApp 5 (plN 5) (frQ (qSeq .tup (qCons (qV 9) (qCons (qV 10) (qCons (qV 11) (qCons (qV 12) (qNil)))))))))) (gIf (ltOr (ltQ (qB (q2 dIs (qV 14) (qC .non)))) (ltOr (ltQ (qB (q2 dNe (q2 dSub (qV 14) (qC (.int 0))) (qV 9)))) (ltNot (ltV (lFn fn__law_alike [0] (aCons (vL (lMp 14 (plS 14 (plN 14) (qC (.int 1))))) (aCons (vN 13) (aNil)))))))) (gRet (lQ (qC (.bl false)))) (gNil))) (gThen (gIf (ltNot (ltV (lFn fn__law_alike [0] (aCons (vL (lMeth "Holds" "against" fn_Holds_against [] (vN 4) (aCons (vN 9) (aCons (vN 10) (aCons (vN 11) (aCons (vN 12) (aNil))))))) (aCons (vN 13) (aNil)))))) (gRet (lQ (qC (.bl false)))) (gNil)) (gThen (gSet 15 (lQ (q2 dAdd (qV 1) (q2 dMul (qV 2) (qC (.int 6)))))) (lr_law_1))))))
def lt_law_3 : D → Gm → Option Gm := hTup 2 (hCons (setG 6) (hCons (setG 7) (hNil)))
def lb_law_3 : G := gThen (gSet 8 (lQ (qFn fn__law_mixed (qCons (qV 7) (qCons (qV 6) (qNil)))))) (gThen (gSet 9 (lQ (q2 dAdd (qV 1) (q2 dMul (qV 2) (q2 dMod (qV 8) (qC (.int 6))))))) (gThen (gSet 10 (lQ (q2 dAdd (qV 3) (q2 dMod (q2 dDiv (qV 8) (qC (.int 6))) (qC (.int 41)))))) (gThen (gSet 11 (lQ (q2 dSubt (q2 dAdd (qV 10) (q2 dMod (q2 dDiv (qV 8) (qC (.int 246))) (qC (.int 10)))) (qC (.int 1))))) (gThen (gIf (ltQ (qB (q2 dEq (q2 dMod (q2 dDiv (qV 8) (qC (.int 2460))) (qC (.int 8))) (qC (.int 1))))) (gSet 11 (lQ (q2 dAdd (qV 11) (q2 dPow (qC (.int 10)) (qC (.int 20)))))) (gNil)) (gThen (gSet 12 (lQ (q2 dEq (q2 dMod (q2 dDiv (qV 8) (qC (.int 19680))) (qC (.int 3))) (qC (.int 1))))) (lr_law_2))))))
def lr_law_4 : G := gRet (lQ (qC (.bl true)))
def g_law : G := gThen (gSet 1 (lQ (q2 dAdd (qC (.int 1)) (q2 dMod (qFn fn__law_cell (qCons (qV 0) (qCons (qC (.int 0)) (qNil)))) (qC (.int 1000)))))) (gThen (gSet 2 (lQ (q2 dAdd (qC (.int 1)) (q2 dMod (qFn fn__law_cell (qCons (qV 0) (qCons (qC (.int 1)) (qNil)))) (q2 dPow (qC (.int 10)) (qC (.int 9))))))) (gThen (gSet 3 (lQ (qFn fn__law_off (qCons (qFn fn__law_cell (qCons (qV 0) (qCons (qC (.int 2)) (qNil)))) (qNil))))) (gThen (gSet 4 (lF (frMk "Holds" fn_Holds_init qNil))) (gThen (gSet 5 (lF (frSeq .lst (qNil)))) (gThen (gFor (wEnum (qCons (qSl (qV 0) (qONone) (qOSome (qC (.int 50)))) (qNil))) (lt_law_3) (lb_law_3)) (lr_law_4))))))
def fn_law : List D → Option FR := fnOf 1 15 [] g_law
theorem sc_law : FnScope ["_law_script", "_law_base", "_law_step", "_law_off_here", "_law_holds", "_law_rows", "_law_k", "_law_cell_here", "_law_number", "_law_dealing", "_law_low", "_law_high", "_law_own", "_law_due_here", "_law_answer", "_law_stranger"] ["_law_script"] (defScope s_law) := ⟨rfl, rfl, rfl, by decide +kernel, rfl, by decide +kernel, by decide +kernel⟩
theorem ok_law (h : HD K mg) {fd : FuncData} (F : FunD K "law" "law" (defArgs s_law) (defBody s_law) (defScope s_law) [] [] f fd) : FnOk P w K mg base (L2.CX P w) 6 f fd ["_law_script"] (spD ⟨K, mg⟩ [] fn_law) :=
  fnd_ok F sc_law 1 15 (by decide) (by decide) rfl rfl fun cdv A outer s H E r => by
    have tk := takes_cx (P := P) (w := w) (K := K) (mg := mg) (base := base) (N := ["_law_script", "_law_base", "_law_step", "_law_off_here", "_law_holds", "_law_rows", "_law_k", "_law_cell_here", "_law_number", "_law_dealing", "_law_low", "_law_high", "_law_own", "_law_due_here", "_law_answer", "_law_stranger"]) (qual := "law") (scope := defScope s_law) (f := f) (cdv := cdv) (A := A) (outer := outer) (s := s) (H := H) (E := E)
    have ow := owns_cx (P := P) (w := w) (K := K) (mg := mg) (base := base) (N := ["_law_script", "_law_base", "_law_step", "_law_off_here", "_law_holds", "_law_rows", "_law_k", "_law_cell_here", "_law_number", "_law_dealing", "_law_low", "_law_high", "_law_own", "_law_due_here", "_law_answer", "_law_stranger"]) (qual := "law") (scope := defScope s_law) (f := f) (cdv := cdv) (A := A) (outer := outer) (s := s) (H := H) (E := E)
    exact pb_cons (pb_set (i := 1) sc_law.nd rfl (Or.inl rfl) (pl_q (pq_add (pq_int) (pq_mod (pq_fn (fne__law_cell h) (r.mono (by decide)) rfl (pqa_cons (pq_v 0) (pqa_cons (pq_int) (pqa_nil))) tk) (pq_int)))) (by decide)) (pb_cons (pb_set (i := 2) sc_law.nd rfl (Or.inl rfl) (pl_q (pq_add (pq_int) (pq_mod (pq_fn (fne__law_cell h) (r.mono (by decide)) rfl (pqa_cons (pq_v 0) (pqa_cons (pq_int) (pqa_nil))) tk) (pq_pow (pq_int) (pq_int))))) (by decide)) (pb_cons (pb_set (i := 3) sc_law.nd rfl (Or.inl rfl) (pl_q (pq_fn (fne__law_off h) (r.mono (by decide)) rfl (pqa_cons (pq_fn (fne__law_cell h) (r.mono (by decide)) rfl (pqa_cons (pq_v 0) (pqa_cons (pq_int) (pqa_nil))) tk) (pqa_nil)) tk)) (by decide)) (pb_cons (pb_set (i := 4) sc_law.nd rfl (Or.inl rfl) (pl_f (pf_make0 (mke_Holds h) (r.mono (by decide)) rfl)) (by decide)) (pb_cons (pb_set (i := 5) sc_law.nd rfl (Or.inl rfl) (pl_f (pf_lst (pqa_nil))) (by decide)) (pb_cons (pb_for ow rfl (pwk_enum rfl (h.free 0) (pqa_cons (pq_slice (pq_v 0) (pqo_none) (pqo_some (pq_int))) (pqa_nil))) (ptg_tup rfl (ptgs_cons (ptg_name (i := 6) sc_law.nd rfl (Or.inl rfl) (by decide)) (ptgs_cons (ptg_name (i := 7) sc_law.nd rfl (Or.inl rfl) (by decide)) (ptgs_nil)))) (pb_cons (pb_set (i := 8) sc_law.nd rfl (Or.inl rfl) (pl_q (pq_fn (fne__law_mixed h) (r.mono (by decide)) rfl (pqa_cons (pq_v 7) (pqa_cons (pq_v 6) (pqa_nil))) tk)) (by decide)) (pb_cons (pb_set (i := 9) sc_law.nd rfl (Or.inl rfl) (pl_q (pq_add (pq_v 1) (pq_mul (pq_v 2) (pq_mod (pq_v 8) (pq_int))))) (by decide)) (pb_cons (pb_set (i := 10) sc_law.nd rfl (Or.inl rfl) (pl_q (pq_add (pq_v 3) (pq_mod (pq_div (pq_v 8) (pq_int)) (pq_int)))) (by decide)) (pb_cons (pb_set (i := 11) sc_law.nd rfl (Or.inl rfl) (pl_q (pq_subt (pq_add (pq_v 10) (pq_mod (pq_div (pq_v 8) (pq_int)) (pq_int))) (pq_int))) (by decide)) (pb_cons (pb_if (plt_q (pqt_eq r (pq_mod (pq_div (pq_v 8) (pq_int)) (pq_int)) (pq_int))) (pb_one (pb_set (i := 11) sc_law.nd rfl (Or.inl rfl) (pl_q (pq_add (pq_v 11) (pq_pow (pq_int) (pq_int)))) (by decide))) (pb_nil)) (pb_cons (pb_set (i := 12) sc_law.nd rfl (Or.inl rfl) (pl_q (pq_eq r (pq_mod (pq_div (pq_v 8) (pq_int)) (pq_int)) (pq_int))) (by decide)) (pb_cons (pb_setF (i := 13) sc_law.nd rfl (Or.inl rfl) (pl_fn (fne__law_due h) (r.mono (by decide)) rfl tk (by decide) (pla_cons (plv_n 5) (pla_cons (plv_n 9) (pla_cons (plv_n 10) (pla_cons (plv_n 11) (pla_cons (plv_n 12) (pla_nil))))))) (by decide)) (pb_cons (pb_if (plt_not (plt_v (pl_fn (fne__law_alike h) (r.mono (by decide)) rfl tk (by decide) (pla_cons (plv_l (pl_meth (mte_Holds_against h) (r.mono (by decide)) tk (by decide) (plv_n 4) (pla_cons (plv_n 9) (pla_cons (plv_n 10) (pla_cons (plv_n 11) (pla_cons (plv_n 12) (pla_nil))))))) (pla_cons (plv_n 13) (pla_nil)))))) (pb_one (pb_ret (pl_q (pq_bl)))) (pb_nil)) (pb_cons (pb_set (i := 14) sc_law.nd rfl (Or.inl rfl) (pl_fn (fne__law_taken h) (r.mono (by decide)) rfl tk (by decide) (pla_cons (plv_n 4) (pla_cons (plv_n 9) (pla_cons (plv_n 10) (pla_cons (plv_n 11) (pla_cons (plv_n 12) (pla_nil))))))) (by decide)) (pb_cons (pb_if (plt_q (pqt_eq r (pq_v 13) (pq_lst (pqa_nil)))) (pb_cons (pb_if (plt_q (pqt_isnotN (pq_v 14) (pq_non))) (pb_one (pb_ret (pl_q (pq_bl)))) (pb_nil)) (pb_one (pb_expr (pl_app (ppl_n 5) (pf_q (pq_tup (pqa_cons (pq_v 9) (pqa_cons (pq_v 10) (pqa_cons (pq_v 11) (pqa_cons (pq_v 12) (pqa_nil))))))))))) (pb_one (pb_if (PW.pt (plw_or (plt_q (pqt_isN (pq_v 14) (pq_non))) (plw_or (plt_q (pqt_ne r (pq_sub (Room.un1 r) (pq_v 14) (pq_int) (fun _ _ => rfl) (fun _ _ => rfl)) (pq_v 9))) (plw_or1 (plt_not (plt_v (pl_fn (fne__law_alike h) (r.mono (by decide)) rfl tk (by decide) (pla_cons (plv_l (pl_mp (ppl_s (Room.un1 r) (ppl_n 14) (pq_int) (fun _ _ => rfl) (fun _ _ => rfl)))) (pla_cons (plv_n 13) (pla_nil)))))))))) (pb_one (pb_ret (pl_q (pq_bl)))) (pb_nil)))) (pb_cons (pb_if (plt_not (plt_v (pl_fn (fne__law_alike h) (r.mono (by decide)) rfl tk (by decide) (pla_cons (plv_l (pl_meth (mte_Holds_against h) (r.mono (by decide)) tk (by decide) (plv_n 4) (pla_cons (plv_n 9) (pla_cons (plv_n 10) (pla_cons (plv_n 11) (pla_cons (plv_n 12) (pla_nil))))))) (pla_cons (plv_n 13) (pla_nil)))))) (pb_one (pb_ret (pl_q (pq_bl)))) (pb_nil)) (pb_cons (pb_set (i := 15) sc_law.nd rfl (Or.inl rfl) (pl_q (pq_add (pq_v 1) (pq_mul (pq_v 2) (pq_int)))) (by decide)) (pb_one (pb_if (plt_not (plt_v (pl_fn (fne__law_alike h) (r.mono (by decide)) rfl tk (by decide) (pla_cons (plv_l (pl_meth (mte_Holds_against h) (r.mono (by decide)) tk (by decide) (plv_n 4) (pla_cons (plv_n 15) (pla_cons (plv_n 10) (pla_cons (plv_n 11) (pla_cons (plv_q (pq_bl)) (pla_nil))))))) (pla_cons (plv_l (pl_fn (fne__law_due h) (r.mono (by decide)) rfl tk (by decide) (pla_cons (plv_n 5) (pla_cons (plv_n 15) (pla_cons (plv_n 10) (pla_cons (plv_n 11) (pla_cons (plv_q (pq_bl)) (pla_nil)))))))) (pla_nil)))))) (pb_one (pb_ret (pl_q (pq_bl)))) (pb_nil)))))))))))))))) (pb_one (pb_ret (pl_q (pq_bl)))))))))
end
def lvl : Nat := 6
def i_law : Nat := 12
def i_glaw : Nat := 24
end K23

namespace K23
open PySem PySem.Spec L2 SK
theorem okDiv_2 {i : Int} : okDiv i 2 := by unfold okDiv; omega
theorem okPow_28 : okPow 10 28 := by decide
theorem e_meet (a b c d : Int) : fn_meet [.int a, .int b, .int c, .int d] = some (.ret (.bl (decide (max a c ≤ min b d))) []) := by
  unfold fn_meet g_meet
  simp only [Xc_ok, Xc_ok0, nLoop1_ok, nLoop2_nx, nLoop2_ct, nLoop2_bk, nLoop2_rt, nLoop2_ex, nLO2_nx, nLO2_ct, nLO2_bk, nLO2_rt, nLO2_ex, hTup_sh, hTup_tm, hCons_ok, hNil_ok, gThen_e, nThen_nx, nThen_rt, nThen_bk, nThen_ct, nThen_ex, gIf_e, nIf_t, nIf_f, nIf_ex, gNil_e, gBk_e, gCt_e, gRetN_e, gSet_e, nSet_ok, nSet_ex, gSetF_e, nSetF_ok, nSetF_ex, gDrop_e, nDrop_ok, nDrop_ex, gRet_e, nRet_ok, nRet_ex, gAsg_e, nAsg_ok, lQ_e, nQ_ok, vQ_e, nVQ_ok, vN_e, nVN_ok, nVN_ow, vL_e, nVL_ok, nVL_ex, lF_e, nF_ok, frQ_e, nFQ_ok, lM_e, nM_ok, lMp_e, nMp_ok, aNil_e, aCons_e, nAC_ok, nAC_ex, nAC2_ok, nAC2_ex, lFn_e, nFn_ok, nFn_ex, nCall1_ok, nCall2_rt, nCall2_ex, lMeth_e, nMe_ok, nMe_ex, nMe2_ok, nMe2_ex, ltQ_e, nLtQ_ok, ltV_e, nLtV_ok, nLtV_ex, ltNot_e, nNot_ok, nNot_ex, ltAnd_e, nAnd_t, nAnd_f, nAnd_ex, ltOr_e, nOr_t, nOr_f, nOr_ex, qAnd_e, nQAnd_t, nQAnd_f, qOr_e, nQOr_t, nQOr_f, qNot_e, nQNot_ok, qB_e, qTru_e, nB_ok, asBl_e, q2_e, n2_ok, q1_e, n1_ok, q3_e, n3_ok, qV_e, qC_e, qN_e, nN_ok, qNil_e, qCons_e, nCons_ok, qSeq_e, frSeq_e, mkSeq_e, mkOw_e, frDK_e, frDT_e, qONone_e, qOSome_e, nO_ok, qSl_e, nSl_ok, qFn_e, nQF_ok, nQF2_ok, frFn_e, nFF_ok, nFF2_ok, frMk_e, nMk_ok, nMk2_ok, wLst_e, wTup_e, nW_ok, wEnum_e, wRg1_e, wRg2_e, nWs_ok, asLst_sh, asLst_tm, asTup_sh, asTup_tm, gFor_e, nFor_ok, gPut_e, nPut_ok, nPut_ex, nPut2_ok, gFput_e, nFput_ok, nFput_ex, nFput2_ok, lApp_e, nApp_ok, lAppE_e, nAppE_ok, plN_e, plF_e, plS_e, plSd_e, nSd_ok, gRaise_e, nRaise2_ok, gTryPair_e, nTryPair_ok, nTryPair_ex, nForO_ok, hd_non, hd_bl, hd_int, hd_str, hd_sh, hd_tm, hd_ow, noTm_non, noTm_bl, noTm_int, noTm_str, noTm_sh, noTm_ow, shr_non, shr_bl, shr_int, shr_str, shr_nd, tmr_non, tmr_bl, tmr_int, tmr_str, tmr_sh, tmr_tm, tmr_ow, all0_nil, all0_cons, dAdd_e, dSubt_e, dMul_e, dDiv_e, dMod_e, dPow_e, dLt_e, dLe_e, dGt_e, dGe_e, dEq_int, dNe_int, dEq_ints, dNe_ints, fnOf_e, nEnd_nx, nEnd_rt, nEnd_ex, nOuts_ok, outsOf_nil, outsOf_cons, gj_nil, gj_zero, gj_succ, gs_zero, gs_succ, argD_val, argD_slot, nArg_t, nArg_f, pget_nil, pget_cons, pput_nil, callF_e, gRaise2_e, gForO_e, setG_e, argD_nil, pput_cons, noTms_nil, tmrs_nil, tmrs_cons, noTms_cons, eq_self, Option.join_some, Option.join_none, List.map_cons, List.map_nil, List.cons_append, List.nil_append, List.append_nil, List.replicate_succ, List.replicate_zero, List.length_cons, List.length_nil, Option.map_some, Option.map_none, Option.bind_some, Option.bind_none, Nat.reduceAdd, Nat.reduceLT, Nat.reduceLeDiff, Nat.reduceEqDiff, Bool.not_true, Bool.not_false, Bool.and_true, Bool.true_and, Bool.and_self, reduceIte, if_true, if_false, slots_nil, slots_val, slots_slot, clr, back, List.getElem?_cons_zero, List.getElem?_cons_succ, List.nodup_cons, List.not_mem_nil, not_false_eq_true, List.nodup_nil, and_self, Nat.zero_add, Bool.false_eq_true, List.mem_cons, List.mem_singleton, true_or, or_true, or_false, false_or, Nat.add_one_sub_one, bMax, bMin]
def cell (ns : List Int) (k : Nat) : Int := if h : k < ns.length then ns[k] else ((k : Int) + 2) * 104729 % 65537
def eInts (f : Fg) (ns : List Int) : D := .nd f .lst (ns.map D.int)
theorem eInts_tm {f : Fg} {ns : List Int} (h : f ≠ .tm) : (eInts f ns).noTm = true := by
  unfold eInts; cases f with
  | tm => exact absurd rfl h
  | sh => rw [noTm_sh]; exact noTms_ints ns
  | ow => rw [noTm_ow]; exact noTms_ints ns
theorem eInts_ow {ns : List Int} : (eInts .ow ns).noTm = true := eInts_tm (by decide)
theorem eInts_sh {ns : List Int} : (eInts .sh ns).noTm = true := eInts_tm (by decide)
theorem eInts_hdo {ns : List Int} : (eInts .ow ns).hd = true := id rfl
theorem eInts_hds {ns : List Int} : (eInts .sh ns).hd = false := id rfl
theorem e_cell (ns : List Int) (k : Nat) : fn__law_cell [eInts .sh ns, .int k] = some (.ret (.int (cell ns k)) []) := by
  unfold fn__law_cell g__law_cell cell
  have h2 : ∀ z : Int, dMul (.int z) (.int 104729) = some (.int (z * 104729)) := fun z => dMul_e (.inr (by omega))
  have h3 : ∀ z : Int, dMod (.int z) (.int 65537) = some (.int (z % 65537)) := fun _ => dMod_e (by decide)
  have hl : decide ((k : Int) < ((ns.map D.int).length : Int)) = decide (k < ns.length) := by simp
  by_cases h : k < ns.length
  · have e : atI (ns.map D.int) (k : Int) = some (.int ns[k]) := by
      rw [atI_nat (by simpa using h)]; simp
    rw [dif_pos h]
    simp only [Xc_ok, Xc_ok0, nLoop1_ok, nLoop2_nx, nLoop2_ct, nLoop2_bk, nLoop2_rt, nLoop2_ex, nLO2_nx, nLO2_ct, nLO2_bk, nLO2_rt, nLO2_ex, hTup_sh, hTup_tm, hCons_ok, hNil_ok, gThen_e, nThen_nx, nThen_rt, nThen_bk, nThen_ct, nThen_ex, gIf_e, nIf_t, nIf_f, nIf_ex, gNil_e, gBk_e, gCt_e, gRetN_e, gSet_e, nSet_ok, nSet_ex, gSetF_e, nSetF_ok, nSetF_ex, gDrop_e, nDrop_ok, nDrop_ex, gRet_e, nRet_ok, nRet_ex, gAsg_e, nAsg_ok, lQ_e, nQ_ok, vQ_e, nVQ_ok, vN_e, nVN_ok, nVN_ow, vL_e, nVL_ok, nVL_ex, lF_e, nF_ok, frQ_e, nFQ_ok, lM_e, nM_ok, lMp_e, nMp_ok, aNil_e, aCons_e, nAC_ok, nAC_ex, nAC2_ok, nAC2_ex, lFn_e, nFn_ok, nFn_ex, nCall1_ok, nCall2_rt, nCall2_ex, lMeth_e, nMe_ok, nMe_ex, nMe2_ok, nMe2_ex, ltQ_e, nLtQ_ok, ltV_e, nLtV_ok, nLtV_ex, ltNot_e, nNot_ok, nNot_ex, ltAnd_e, nAnd_t, nAnd_f, nAnd_ex, ltOr_e, nOr_t, nOr_f, nOr_ex, qAnd_e, nQAnd_t, nQAnd_f, qOr_e, nQOr_t, nQOr_f, qNot_e, nQNot_ok, qB_e, qTru_e, nB_ok, asBl_e, q2_e, n2_ok, q1_e, n1_ok, q3_e, n3_ok, qV_e, qC_e, qN_e, nN_ok, qNil_e, qCons_e, nCons_ok, qSeq_e, frSeq_e, mkSeq_e, mkOw_e, frDK_e, frDT_e, qONone_e, qOSome_e, nO_ok, qSl_e, nSl_ok, qFn_e, nQF_ok, nQF2_ok, frFn_e, nFF_ok, nFF2_ok, frMk_e, nMk_ok, nMk2_ok, wLst_e, wTup_e, nW_ok, wEnum_e, wRg1_e, wRg2_e, nWs_ok, asLst_sh, asLst_tm, asTup_sh, asTup_tm, gFor_e, nFor_ok, gPut_e, nPut_ok, nPut_ex, nPut2_ok, gFput_e, nFput_ok, nFput_ex, nFput2_ok, lApp_e, nApp_ok, lAppE_e, nAppE_ok, plN_e, plF_e, plS_e, plSd_e, nSd_ok, gRaise_e, nRaise2_ok, gTryPair_e, nTryPair_ok, nTryPair_ex, nForO_ok, hd_non, hd_bl, hd_int, hd_str, hd_sh, hd_tm, hd_ow, noTm_non, noTm_bl, noTm_int, noTm_str, noTm_sh, noTm_ow, shr_non, shr_bl, shr_int, shr_str, shr_nd, tmr_non, tmr_bl, tmr_int, tmr_str, tmr_sh, tmr_tm, tmr_ow, all0_nil, all0_cons, dAdd_e, dSubt_e, dMul_e, dDiv_e, dMod_e, dPow_e, dLt_e, dLe_e, dGt_e, dGe_e, dEq_int, dNe_int, dEq_ints, dNe_ints, fnOf_e, nEnd_nx, nEnd_rt, nEnd_ex, nOuts_ok, outsOf_nil, outsOf_cons, gj_nil, gj_zero, gj_succ, gs_zero, gs_succ, argD_val, argD_slot, nArg_t, nArg_f, pget_nil, pget_cons, pput_nil, callF_e, gRaise2_e, gForO_e, setG_e, argD_nil, pput_cons, noTms_nil, tmrs_nil, tmrs_cons, noTms_cons, eq_self, Option.join_some, Option.join_none, List.map_cons, List.map_nil, List.cons_append, List.nil_append, List.append_nil, List.replicate_succ, List.replicate_zero, List.length_cons, List.length_nil, Option.map_some, Option.map_none, Option.bind_some, Option.bind_none, Nat.reduceAdd, Nat.reduceLT, Nat.reduceLeDiff, Nat.reduceEqDiff, Bool.not_true, Bool.not_false, Bool.and_true, Bool.true_and, Bool.and_self, reduceIte, if_true, if_false, slots_nil, slots_val, slots_slot, clr, back, List.getElem?_cons_zero, List.getElem?_cons_succ, List.nodup_cons, List.not_mem_nil, not_false_eq_true, List.nodup_nil, and_self, Nat.zero_add, Bool.false_eq_true, List.mem_cons, List.mem_singleton, true_or, or_true, or_false, false_or, Nat.add_one_sub_one, eInts, bLen, hl, h, decide_true, dSub, e]
  · rw [dif_neg h]
    simp only [Xc_ok, Xc_ok0, nLoop1_ok, nLoop2_nx, nLoop2_ct, nLoop2_bk, nLoop2_rt, nLoop2_ex, nLO2_nx, nLO2_ct, nLO2_bk, nLO2_rt, nLO2_ex, hTup_sh, hTup_tm, hCons_ok, hNil_ok, gThen_e, nThen_nx, nThen_rt, nThen_bk, nThen_ct, nThen_ex, gIf_e, nIf_t, nIf_f, nIf_ex, gNil_e, gBk_e, gCt_e, gRetN_e, gSet_e, nSet_ok, nSet_ex, gSetF_e, nSetF_ok, nSetF_ex, gDrop_e, nDrop_ok, nDrop_ex, gRet_e, nRet_ok, nRet_ex, gAsg_e, nAsg_ok, lQ_e, nQ_ok, vQ_e, nVQ_ok, vN_e, nVN_ok, nVN_ow, vL_e, nVL_ok, nVL_ex, lF_e, nF_ok, frQ_e, nFQ_ok, lM_e, nM_ok, lMp_e, nMp_ok, aNil_e, aCons_e, nAC_ok, nAC_ex, nAC2_ok, nAC2_ex, lFn_e, nFn_ok, nFn_ex, nCall1_ok, nCall2_rt, nCall2_ex, lMeth_e, nMe_ok, nMe_ex, nMe2_ok, nMe2_ex, ltQ_e, nLtQ_ok, ltV_e, nLtV_ok, nLtV_ex, ltNot_e, nNot_ok, nNot_ex, ltAnd_e, nAnd_t, nAnd_f, nAnd_ex, ltOr_e, nOr_t, nOr_f, nOr_ex, qAnd_e, nQAnd_t, nQAnd_f, qOr_e, nQOr_t, nQOr_f, qNot_e, nQNot_ok, qB_e, qTru_e, nB_ok, asBl_e, q2_e, n2_ok, q1_e, n1_ok, q3_e, n3_ok, qV_e, qC_e, qN_e, nN_ok, qNil_e, qCons_e, nCons_ok, qSeq_e, frSeq_e, mkSeq_e, mkOw_e, frDK_e, frDT_e, qONone_e, qOSome_e, nO_ok, qSl_e, nSl_ok, qFn_e, nQF_ok, nQF2_ok, frFn_e, nFF_ok, nFF2_ok, frMk_e, nMk_ok, nMk2_ok, wLst_e, wTup_e, nW_ok, wEnum_e, wRg1_e, wRg2_e, nWs_ok, asLst_sh, asLst_tm, asTup_sh, asTup_tm, gFor_e, nFor_ok, gPut_e, nPut_ok, nPut_ex, nPut2_ok, gFput_e, nFput_ok, nFput_ex, nFput2_ok, lApp_e, nApp_ok, lAppE_e, nAppE_ok, plN_e, plF_e, plS_e, plSd_e, nSd_ok, gRaise_e, nRaise2_ok, gTryPair_e, nTryPair_ok, nTryPair_ex, nForO_ok, hd_non, hd_bl, hd_int, hd_str, hd_sh, hd_tm, hd_ow, noTm_non, noTm_bl, noTm_int, noTm_str, noTm_sh, noTm_ow, shr_non, shr_bl, shr_int, shr_str, shr_nd, tmr_non, tmr_bl, tmr_int, tmr_str, tmr_sh, tmr_tm, tmr_ow, all0_nil, all0_cons, dAdd_e, dSubt_e, dMul_e, dDiv_e, dMod_e, dPow_e, dLt_e, dLe_e, dGt_e, dGe_e, dEq_int, dNe_int, dEq_ints, dNe_ints, fnOf_e, nEnd_nx, nEnd_rt, nEnd_ex, nOuts_ok, outsOf_nil, outsOf_cons, gj_nil, gj_zero, gj_succ, gs_zero, gs_succ, argD_val, argD_slot, nArg_t, nArg_f, pget_nil, pget_cons, pput_nil, callF_e, gRaise2_e, gForO_e, setG_e, argD_nil, pput_cons, noTms_nil, tmrs_nil, tmrs_cons, noTms_cons, eq_self, Option.join_some, Option.join_none, List.map_cons, List.map_nil, List.cons_append, List.nil_append, List.append_nil, List.replicate_succ, List.replicate_zero, List.length_cons, List.length_nil, Option.map_some, Option.map_none, Option.bind_some, Option.bind_none, Nat.reduceAdd, Nat.reduceLT, Nat.reduceLeDiff, Nat.reduceEqDiff, Bool.not_true, Bool.not_false, Bool.and_true, Bool.true_and, Bool.and_self, reduceIte, if_true, if_false, slots_nil, slots_val, slots_slot, clr, back, List.getElem?_cons_zero, List.getElem?_cons_succ, List.nodup_cons, List.not_mem_nil, not_false_eq_true, List.nodup_nil, and_self, Nat.zero_add, Bool.false_eq_true, List.mem_cons, List.mem_singleton, true_or, or_true, or_false, false_or, Nat.add_one_sub_one, eInts, bLen, hl, h, decide_false, h2, h3]
def off (c : Int) : Int := if c % 2 = 0 then c / 2 % 60 - 30 else c / 2 % (2 * 10 ^ 28 + 1) - 10 ^ 28
theorem e_off (c : Int) : fn__law_off [.int c] = some (.ret (.int (off c)) []) := by
  unfold fn__law_off g__law_off off
  have h0 : dMod (.int c) (.int 2) = some (.int (c % 2)) := dMod_e (by decide)
  have h1 : dMod (.int (c / 2)) (.int 60) = some (.int (c / 2 % 60)) := dMod_e (by decide)
  have h2 : dPow (.int 10) (.int 28) = some (.int (10 ^ 28)) := dPow_e okPow_28
  have h3 : dMul (.int 2) (.int (10 ^ 28)) = some (.int (2 * 10 ^ 28)) := dMul_e (.inl (by decide))
  have h4 : dMod (.int (c / 2)) (.int (2 * 10 ^ 28 + 1)) = some (.int (c / 2 % (2 * 10 ^ 28 + 1))) := dMod_e (by decide)
  by_cases h : c % 2 = 0
  · simp only [Xc_ok, Xc_ok0, nLoop1_ok, nLoop2_nx, nLoop2_ct, nLoop2_bk, nLoop2_rt, nLoop2_ex, nLO2_nx, nLO2_ct, nLO2_bk, nLO2_rt, nLO2_ex, hTup_sh, hTup_tm, hCons_ok, hNil_ok, gThen_e, nThen_nx, nThen_rt, nThen_bk, nThen_ct, nThen_ex, gIf_e, nIf_t, nIf_f, nIf_ex, gNil_e, gBk_e, gCt_e, gRetN_e, gSet_e, nSet_ok, nSet_ex, gSetF_e, nSetF_ok, nSetF_ex, gDrop_e, nDrop_ok, nDrop_ex, gRet_e, nRet_ok, nRet_ex, gAsg_e, nAsg_ok, lQ_e, nQ_ok, vQ_e, nVQ_ok, vN_e, nVN_ok, nVN_ow, vL_e, nVL_ok, nVL_ex, lF_e, nF_ok, frQ_e, nFQ_ok, lM_e, nM_ok, lMp_e, nMp_ok, aNil_e, aCons_e, nAC_ok, nAC_ex, nAC2_ok, nAC2_ex, lFn_e, nFn_ok, nFn_ex, nCall1_ok, nCall2_rt, nCall2_ex, lMeth_e, nMe_ok, nMe_ex, nMe2_ok, nMe2_ex, ltQ_e, nLtQ_ok, ltV_e, nLtV_ok, nLtV_ex, ltNot_e, nNot_ok, nNot_ex, ltAnd_e, nAnd_t, nAnd_f, nAnd_ex, ltOr_e, nOr_t, nOr_f, nOr_ex, qAnd_e, nQAnd_t, nQAnd_f, qOr_e, nQOr_t, nQOr_f, qNot_e, nQNot_ok, qB_e, qTru_e, nB_ok, asBl_e, q2_e, n2_ok, q1_e, n1_ok, q3_e, n3_ok, qV_e, qC_e, qN_e, nN_ok, qNil_e, qCons_e, nCons_ok, qSeq_e, frSeq_e, mkSeq_e, mkOw_e, frDK_e, frDT_e, qONone_e, qOSome_e, nO_ok, qSl_e, nSl_ok, qFn_e, nQF_ok, nQF2_ok, frFn_e, nFF_ok, nFF2_ok, frMk_e, nMk_ok, nMk2_ok, wLst_e, wTup_e, nW_ok, wEnum_e, wRg1_e, wRg2_e, nWs_ok, asLst_sh, asLst_tm, asTup_sh, asTup_tm, gFor_e, nFor_ok, gPut_e, nPut_ok, nPut_ex, nPut2_ok, gFput_e, nFput_ok, nFput_ex, nFput2_ok, lApp_e, nApp_ok, lAppE_e, nAppE_ok, plN_e, plF_e, plS_e, plSd_e, nSd_ok, gRaise_e, nRaise2_ok, gTryPair_e, nTryPair_ok, nTryPair_ex, nForO_ok, hd_non, hd_bl, hd_int, hd_str, hd_sh, hd_tm, hd_ow, noTm_non, noTm_bl, noTm_int, noTm_str, noTm_sh, noTm_ow, shr_non, shr_bl, shr_int, shr_str, shr_nd, tmr_non, tmr_bl, tmr_int, tmr_str, tmr_sh, tmr_tm, tmr_ow, all0_nil, all0_cons, dAdd_e, dSubt_e, dMul_e, dDiv_e, dMod_e, dPow_e, dLt_e, dLe_e, dGt_e, dGe_e, dEq_int, dNe_int, dEq_ints, dNe_ints, fnOf_e, nEnd_nx, nEnd_rt, nEnd_ex, nOuts_ok, outsOf_nil, outsOf_cons, gj_nil, gj_zero, gj_succ, gs_zero, gs_succ, argD_val, argD_slot, nArg_t, nArg_f, pget_nil, pget_cons, pput_nil, callF_e, gRaise2_e, gForO_e, setG_e, argD_nil, pput_cons, noTms_nil, tmrs_nil, tmrs_cons, noTms_cons, eq_self, Option.join_some, Option.join_none, List.map_cons, List.map_nil, List.cons_append, List.nil_append, List.append_nil, List.replicate_succ, List.replicate_zero, List.length_cons, List.length_nil, Option.map_some, Option.map_none, Option.bind_some, Option.bind_none, Nat.reduceAdd, Nat.reduceLT, Nat.reduceLeDiff, Nat.reduceEqDiff, Bool.not_true, Bool.not_false, Bool.and_true, Bool.true_and, Bool.and_self, reduceIte, if_true, if_false, slots_nil, slots_val, slots_slot, clr, back, List.getElem?_cons_zero, List.getElem?_cons_succ, List.nodup_cons, List.not_mem_nil, not_false_eq_true, List.nodup_nil, and_self, Nat.zero_add, Bool.false_eq_true, List.mem_cons, List.mem_singleton, true_or, or_true, or_false, false_or, Nat.add_one_sub_one, h0, h1, okDiv_2, h, decide_true]
  · simp only [Xc_ok, Xc_ok0, nLoop1_ok, nLoop2_nx, nLoop2_ct, nLoop2_bk, nLoop2_rt, nLoop2_ex, nLO2_nx, nLO2_ct, nLO2_bk, nLO2_rt, nLO2_ex, hTup_sh, hTup_tm, hCons_ok, hNil_ok, gThen_e, nThen_nx, nThen_rt, nThen_bk, nThen_ct, nThen_ex, gIf_e, nIf_t, nIf_f, nIf_ex, gNil_e, gBk_e, gCt_e, gRetN_e, gSet_e, nSet_ok, nSet_ex, gSetF_e, nSetF_ok, nSetF_ex, gDrop_e, nDrop_ok, nDrop_ex, gRet_e, nRet_ok, nRet_ex, gAsg_e, nAsg_ok, lQ_e, nQ_ok, vQ_e, nVQ_ok, vN_e, nVN_ok, nVN_ow, vL_e, nVL_ok, nVL_ex, lF_e, nF_ok, frQ_e, nFQ_ok, lM_e, nM_ok, lMp_e, nMp_ok, aNil_e, aCons_e, nAC_ok, nAC_ex, nAC2_ok, nAC2_ex, lFn_e, nFn_ok, nFn_ex, nCall1_ok, nCall2_rt, nCall2_ex, lMeth_e, nMe_ok, nMe_ex, nMe2_ok, nMe2_ex, ltQ_e, nLtQ_ok, ltV_e, nLtV_ok, nLtV_ex, ltNot_e, nNot_ok, nNot_ex, ltAnd_e, nAnd_t, nAnd_f, nAnd_ex, ltOr_e, nOr_t, nOr_f, nOr_ex, qAnd_e, nQAnd_t, nQAnd_f, qOr_e, nQOr_t, nQOr_f, qNot_e, nQNot_ok, qB_e, qTru_e, nB_ok, asBl_e, q2_e, n2_ok, q1_e, n1_ok, q3_e, n3_ok, qV_e, qC_e, qN_e, nN_ok, qNil_e, qCons_e, nCons_ok, qSeq_e, frSeq_e, mkSeq_e, mkOw_e, frDK_e, frDT_e, qONone_e, qOSome_e, nO_ok, qSl_e, nSl_ok, qFn_e, nQF_ok, nQF2_ok, frFn_e, nFF_ok, nFF2_ok, frMk_e, nMk_ok, nMk2_ok, wLst_e, wTup_e, nW_ok, wEnum_e, wRg1_e, wRg2_e, nWs_ok, asLst_sh, asLst_tm, asTup_sh, asTup_tm, gFor_e, nFor_ok, gPut_e, nPut_ok, nPut_ex, nPut2_ok, gFput_e, nFput_ok, nFput_ex, nFput2_ok, lApp_e, nApp_ok, lAppE_e, nAppE_ok, plN_e, plF_e, plS_e, plSd_e, nSd_ok, gRaise_e, nRaise2_ok, gTryPair_e, nTryPair_ok, nTryPair_ex, nForO_ok, hd_non, hd_bl, hd_int, hd_str, hd_sh, hd_tm, hd_ow, noTm_non, noTm_bl, noTm_int, noTm_str, noTm_sh, noTm_ow, shr_non, shr_bl, shr_int, shr_str, shr_nd, tmr_non, tmr_bl, tmr_int, tmr_str, tmr_sh, tmr_tm, tmr_ow, all0_nil, all0_cons, dAdd_e, dSubt_e, dMul_e, dDiv_e, dMod_e, dPow_e, dLt_e, dLe_e, dGt_e, dGe_e, dEq_int, dNe_int, dEq_ints, dNe_ints, fnOf_e, nEnd_nx, nEnd_rt, nEnd_ex, nOuts_ok, outsOf_nil, outsOf_cons, gj_nil, gj_zero, gj_succ, gs_zero, gs_succ, argD_val, argD_slot, nArg_t, nArg_f, pget_nil, pget_cons, pput_nil, callF_e, gRaise2_e, gForO_e, setG_e, argD_nil, pput_cons, noTms_nil, tmrs_nil, tmrs_cons, noTms_cons, eq_self, Option.join_some, Option.join_none, List.map_cons, List.map_nil, List.cons_append, List.nil_append, List.append_nil, List.replicate_succ, List.replicate_zero, List.length_cons, List.length_nil, Option.map_some, Option.map_none, Option.bind_some, Option.bind_none, Nat.reduceAdd, Nat.reduceLT, Nat.reduceLeDiff, Nat.reduceEqDiff, Bool.not_true, Bool.not_false, Bool.and_true, Bool.true_and, Bool.and_self, reduceIte, if_true, if_false, slots_nil, slots_val, slots_slot, clr, back, List.getElem?_cons_zero, List.getElem?_cons_succ, List.nodup_cons, List.not_mem_nil, not_false_eq_true, List.nodup_nil, and_self, Nat.zero_add, Bool.false_eq_true, List.mem_cons, List.mem_singleton, true_or, or_true, or_false, false_or, Nat.add_one_sub_one, h0, h2, h3, h4, okDiv_2, h, decide_false]
def mixed (c : Int) (k : Nat) : Int := (c % 2147483647 * 48271 + 7919 * k + 13) % 2147483629
theorem e_mixed (c : Int) (k : Nat) : fn__law_mixed [.int c, .int k] = some (.ret (.int (mixed c k)) []) := by
  unfold fn__law_mixed g__law_mixed mixed
  have h1 : okMul (c % 2147483647) 48271 := .inr (by omega)
  have h2 : okMul 7919 k := .inl (by omega)
  have h3 : ∀ z : Int, dMod (.int z) (.int 2147483647) = some (.int (z % 2147483647)) := fun _ => dMod_e (by decide)
  have h4 : ∀ z : Int, dMod (.int z) (.int 2147483629) = some (.int (z % 2147483629)) := fun _ => dMod_e (by decide)
  simp only [Xc_ok, Xc_ok0, nLoop1_ok, nLoop2_nx, nLoop2_ct, nLoop2_bk, nLoop2_rt, nLoop2_ex, nLO2_nx, nLO2_ct, nLO2_bk, nLO2_rt, nLO2_ex, hTup_sh, hTup_tm, hCons_ok, hNil_ok, gThen_e, nThen_nx, nThen_rt, nThen_bk, nThen_ct, nThen_ex, gIf_e, nIf_t, nIf_f, nIf_ex, gNil_e, gBk_e, gCt_e, gRetN_e, gSet_e, nSet_ok, nSet_ex, gSetF_e, nSetF_ok, nSetF_ex, gDrop_e, nDrop_ok, nDrop_ex, gRet_e, nRet_ok, nRet_ex, gAsg_e, nAsg_ok, lQ_e, nQ_ok, vQ_e, nVQ_ok, vN_e, nVN_ok, nVN_ow, vL_e, nVL_ok, nVL_ex, lF_e, nF_ok, frQ_e, nFQ_ok, lM_e, nM_ok, lMp_e, nMp_ok, aNil_e, aCons_e, nAC_ok, nAC_ex, nAC2_ok, nAC2_ex, lFn_e, nFn_ok, nFn_ex, nCall1_ok, nCall2_rt, nCall2_ex, lMeth_e, nMe_ok, nMe_ex, nMe2_ok, nMe2_ex, ltQ_e, nLtQ_ok, ltV_e, nLtV_ok, nLtV_ex, ltNot_e, nNot_ok, nNot_ex, ltAnd_e, nAnd_t, nAnd_f, nAnd_ex, ltOr_e, nOr_t, nOr_f, nOr_ex, qAnd_e, nQAnd_t, nQAnd_f, qOr_e, nQOr_t, nQOr_f, qNot_e, nQNot_ok, qB_e, qTru_e, nB_ok, asBl_e, q2_e, n2_ok, q1_e, n1_ok, q3_e, n3_ok, qV_e, qC_e, qN_e, nN_ok, qNil_e, qCons_e, nCons_ok, qSeq_e, frSeq_e, mkSeq_e, mkOw_e, frDK_e, frDT_e, qONone_e, qOSome_e, nO_ok, qSl_e, nSl_ok, qFn_e, nQF_ok, nQF2_ok, frFn_e, nFF_ok, nFF2_ok, frMk_e, nMk_ok, nMk2_ok, wLst_e, wTup_e, nW_ok, wEnum_e, wRg1_e, wRg2_e, nWs_ok, asLst_sh, asLst_tm, asTup_sh, asTup_tm, gFor_e, nFor_ok, gPut_e, nPut_ok, nPut_ex, nPut2_ok, gFput_e, nFput_ok, nFput_ex, nFput2_ok, lApp_e, nApp_ok, lAppE_e, nAppE_ok, plN_e, plF_e, plS_e, plSd_e, nSd_ok, gRaise_e, nRaise2_ok, gTryPair_e, nTryPair_ok, nTryPair_ex, nForO_ok, hd_non, hd_bl, hd_int, hd_str, hd_sh, hd_tm, hd_ow, noTm_non, noTm_bl, noTm_int, noTm_str, noTm_sh, noTm_ow, shr_non, shr_bl, shr_int, shr_str, shr_nd, tmr_non, tmr_bl, tmr_int, tmr_str, tmr_sh, tmr_tm, tmr_ow, all0_nil, all0_cons, dAdd_e, dSubt_e, dMul_e, dDiv_e, dMod_e, dPow_e, dLt_e, dLe_e, dGt_e, dGe_e, dEq_int, dNe_int, dEq_ints, dNe_ints, fnOf_e, nEnd_nx, nEnd_rt, nEnd_ex, nOuts_ok, outsOf_nil, outsOf_cons, gj_nil, gj_zero, gj_succ, gs_zero, gs_succ, argD_val, argD_slot, nArg_t, nArg_f, pget_nil, pget_cons, pput_nil, callF_e, gRaise2_e, gForO_e, setG_e, argD_nil, pput_cons, noTms_nil, tmrs_nil, tmrs_cons, noTms_cons, eq_self, Option.join_some, Option.join_none, List.map_cons, List.map_nil, List.cons_append, List.nil_append, List.append_nil, List.replicate_succ, List.replicate_zero, List.length_cons, List.length_nil, Option.map_some, Option.map_none, Option.bind_some, Option.bind_none, Nat.reduceAdd, Nat.reduceLT, Nat.reduceLeDiff, Nat.reduceEqDiff, Bool.not_true, Bool.not_false, Bool.and_true, Bool.true_and, Bool.and_self, reduceIte, if_true, if_false, slots_nil, slots_val, slots_slot, clr, back, List.getElem?_cons_zero, List.getElem?_cons_succ, List.nodup_cons, List.not_mem_nil, not_false_eq_true, List.nodup_nil, and_self, Nat.zero_add, Bool.false_eq_true, List.mem_cons, List.mem_singleton, true_or, or_true, or_false, false_or, Nat.add_one_sub_one, h1, h2, h3, h4]
structure Row where
  lo : Int
  hi : Int
  own : Bool
def Row.d (r : Row) : D := .nd .sh .tup [.int r.lo, .int r.hi, .bl r.own]
abbrev Shelf := List (Int × List Row)
def eRows (f : Fg) (rs : List Row) : D := .nd f .lst (rs.map Row.d)
def eHolds (f : Fg) (S : Shelf) : D := .nd f (.ins "Holds" ["lists"]) [.nd f (.dic (S.map fun p => Sum.inl p.1)) (S.map fun p => eRows f p.2)]
def hit (own : Bool) (lo hi : Int) (r : Row) : Bool := (own || r.own) && decide (max r.lo lo ≤ min r.hi hi)
theorem dlook_map {α : Type} (S : Shelf) (g : List Row → α) (x : Int) : dlook (S.map fun p => (Sum.inl p.1 : Key)) (S.map fun p => g p.2) (.inl x) = (S.find? fun p => decide (p.1 = x)).map fun p => g p.2 := by
  induction S with
  | nil => rfl
  | cons p S ih =>
    simp only [dlook, List.map_cons, List.zip_cons_cons, List.find?_cons] at ih ⊢
    by_cases h : p.1 = x
    · simp [h]
    · have : ¬ (Sum.inl p.1 : Key) = .inl x := fun e => h (Sum.inl.inj e)
      simp [h]
      simpa [dlook] using ih
theorem noTms_rows (rs : List Row) : D.noTms (rs.map Row.d) = true := by
  rw [noTms_all]; simp [Row.d, D.noTm, D.noTms]
theorem tmrs_rows (rs : List Row) : D.tmrs (rs.map Row.d) = rs.map Row.d := by
  rw [tmrs_map]; simp [Row.d, tmr_sh]
theorem stands_loop (self : D) (x lo hi : Int) (own : Bool) : ∀ (rs : List Row) (o5 o6 o7 : Option D), ∃ p5 p6 p7, loopG lt_Holds_stands_1 lb_Holds_stands_1 (rs.map Row.d) [some self, some (.int x), some (.int lo), some (.int hi), some (.bl own), o5, o6, o7]
    = some (.ok (if rs.any (hit own lo hi) = true then .rt (.bl true) else .nx) [some self, some (.int x), some (.int lo), some (.int hi), some (.bl own), p5, p6, p7])
  | [], o5, o6, o7 => ⟨o5, o6, o7, by rw [List.map_nil, loopG_nil]; rfl⟩
  | r :: rs, o5, o6, o7 => by
    rw [List.map_cons, loopG_cons]
    have e1 : lt_Holds_stands_1 r.d [some self, some (.int x), some (.int lo), some (.int hi), some (.bl own), o5, o6, o7] = some [some self, some (.int x), some (.int lo), some (.int hi), some (.bl own), some (.int r.lo), some (.int r.hi), some (.bl r.own)] := by
      unfold lt_Holds_stands_1 Row.d
      simp only [Xc_ok, Xc_ok0, nLoop1_ok, nLoop2_nx, nLoop2_ct, nLoop2_bk, nLoop2_rt, nLoop2_ex, nLO2_nx, nLO2_ct, nLO2_bk, nLO2_rt, nLO2_ex, hTup_sh, hTup_tm, hCons_ok, hNil_ok, gThen_e, nThen_nx, nThen_rt, nThen_bk, nThen_ct, nThen_ex, gIf_e, nIf_t, nIf_f, nIf_ex, gNil_e, gBk_e, gCt_e, gRetN_e, gSet_e, nSet_ok, nSet_ex, gSetF_e, nSetF_ok, nSetF_ex, gDrop_e, nDrop_ok, nDrop_ex, gRet_e, nRet_ok, nRet_ex, gAsg_e, nAsg_ok, lQ_e, nQ_ok, vQ_e, nVQ_ok, vN_e, nVN_ok, nVN_ow, vL_e, nVL_ok, nVL_ex, lF_e, nF_ok, frQ_e, nFQ_ok, lM_e, nM_ok, lMp_e, nMp_ok, aNil_e, aCons_e, nAC_ok, nAC_ex, nAC2_ok, nAC2_ex, lFn_e, nFn_ok, nFn_ex, nCall1_ok, nCall2_rt, nCall2_ex, lMeth_e, nMe_ok, nMe_ex, nMe2_ok, nMe2_ex, ltQ_e, nLtQ_ok, ltV_e, nLtV_ok, nLtV_ex, ltNot_e, nNot_ok, nNot_ex, ltAnd_e, nAnd_t, nAnd_f, nAnd_ex, ltOr_e, nOr_t, nOr_f, nOr_ex, qAnd_e, nQAnd_t, nQAnd_f, qOr_e, nQOr_t, nQOr_f, qNot_e, nQNot_ok, qB_e, qTru_e, nB_ok, asBl_e, q2_e, n2_ok, q1_e, n1_ok, q3_e, n3_ok, qV_e, qC_e, qN_e, nN_ok, qNil_e, qCons_e, nCons_ok, qSeq_e, frSeq_e, mkSeq_e, mkOw_e, frDK_e, frDT_e, qONone_e, qOSome_e, nO_ok, qSl_e, nSl_ok, qFn_e, nQF_ok, nQF2_ok, frFn_e, nFF_ok, nFF2_ok, frMk_e, nMk_ok, nMk2_ok, wLst_e, wTup_e, nW_ok, wEnum_e, wRg1_e, wRg2_e, nWs_ok, asLst_sh, asLst_tm, asTup_sh, asTup_tm, gFor_e, nFor_ok, gPut_e, nPut_ok, nPut_ex, nPut2_ok, gFput_e, nFput_ok, nFput_ex, nFput2_ok, lApp_e, nApp_ok, lAppE_e, nAppE_ok, plN_e, plF_e, plS_e, plSd_e, nSd_ok, gRaise_e, nRaise2_ok, gTryPair_e, nTryPair_ok, nTryPair_ex, nForO_ok, hd_non, hd_bl, hd_int, hd_str, hd_sh, hd_tm, hd_ow, noTm_non, noTm_bl, noTm_int, noTm_str, noTm_sh, noTm_ow, shr_non, shr_bl, shr_int, shr_str, shr_nd, tmr_non, tmr_bl, tmr_int, tmr_str, tmr_sh, tmr_tm, tmr_ow, all0_nil, all0_cons, dAdd_e, dSubt_e, dMul_e, dDiv_e, dMod_e, dPow_e, dLt_e, dLe_e, dGt_e, dGe_e, dEq_int, dNe_int, dEq_ints, dNe_ints, fnOf_e, nEnd_nx, nEnd_rt, nEnd_ex, nOuts_ok, outsOf_nil, outsOf_cons, gj_nil, gj_zero, gj_succ, gs_zero, gs_succ, argD_val, argD_slot, nArg_t, nArg_f, pget_nil, pget_cons, pput_nil, callF_e, gRaise2_e, gForO_e, setG_e, argD_nil, pput_cons, noTms_nil, tmrs_nil, tmrs_cons, noTms_cons, eq_self, Option.join_some, Option.join_none, List.map_cons, List.map_nil, List.cons_append, List.nil_append, List.append_nil, List.replicate_succ, List.replicate_zero, List.length_cons, List.length_nil, Option.map_some, Option.map_none, Option.bind_some, Option.bind_none, Nat.reduceAdd, Nat.reduceLT, Nat.reduceLeDiff, Nat.reduceEqDiff, Bool.not_true, Bool.not_false, Bool.and_true, Bool.true_and, Bool.and_self, reduceIte, if_true, if_false, slots_nil, slots_val, slots_slot, clr, back, List.getElem?_cons_zero, List.getElem?_cons_succ, List.nodup_cons, List.not_mem_nil, not_false_eq_true, List.nodup_nil, and_self, Nat.zero_add, Bool.false_eq_true, List.mem_cons, List.mem_singleton, true_or, or_true, or_false, false_or, Nat.add_one_sub_one]
    have e2 : lb_Holds_stands_1 [some self, some (.int x), some (.int lo), some (.int hi), some (.bl own), some (.int r.lo), some (.int r.hi), some (.bl r.own)] = some (.ok (if hit own lo hi r = true then .rt (.bl true) else .nx) [some self, some (.int x), some (.int lo), some (.int hi), some (.bl own), some (.int r.lo), some (.int r.hi), some (.bl r.own)]) := by
      unfold lb_Holds_stands_1 hit
      cases own <;> cases hr : r.own <;> simp only [Xc_ok, Xc_ok0, nLoop1_ok, nLoop2_nx, nLoop2_ct, nLoop2_bk, nLoop2_rt, nLoop2_ex, nLO2_nx, nLO2_ct, nLO2_bk, nLO2_rt, nLO2_ex, hTup_sh, hTup_tm, hCons_ok, hNil_ok, gThen_e, nThen_nx, nThen_rt, nThen_bk, nThen_ct, nThen_ex, gIf_e, nIf_t, nIf_f, nIf_ex, gNil_e, gBk_e, gCt_e, gRetN_e, gSet_e, nSet_ok, nSet_ex, gSetF_e, nSetF_ok, nSetF_ex, gDrop_e, nDrop_ok, nDrop_ex, gRet_e, nRet_ok, nRet_ex, gAsg_e, nAsg_ok, lQ_e, nQ_ok, vQ_e, nVQ_ok, vN_e, nVN_ok, nVN_ow, vL_e, nVL_ok, nVL_ex, lF_e, nF_ok, frQ_e, nFQ_ok, lM_e, nM_ok, lMp_e, nMp_ok, aNil_e, aCons_e, nAC_ok, nAC_ex, nAC2_ok, nAC2_ex, lFn_e, nFn_ok, nFn_ex, nCall1_ok, nCall2_rt, nCall2_ex, lMeth_e, nMe_ok, nMe_ex, nMe2_ok, nMe2_ex, ltQ_e, nLtQ_ok, ltV_e, nLtV_ok, nLtV_ex, ltNot_e, nNot_ok, nNot_ex, ltAnd_e, nAnd_t, nAnd_f, nAnd_ex, ltOr_e, nOr_t, nOr_f, nOr_ex, qAnd_e, nQAnd_t, nQAnd_f, qOr_e, nQOr_t, nQOr_f, qNot_e, nQNot_ok, qB_e, qTru_e, nB_ok, asBl_e, q2_e, n2_ok, q1_e, n1_ok, q3_e, n3_ok, qV_e, qC_e, qN_e, nN_ok, qNil_e, qCons_e, nCons_ok, qSeq_e, frSeq_e, mkSeq_e, mkOw_e, frDK_e, frDT_e, qONone_e, qOSome_e, nO_ok, qSl_e, nSl_ok, qFn_e, nQF_ok, nQF2_ok, frFn_e, nFF_ok, nFF2_ok, frMk_e, nMk_ok, nMk2_ok, wLst_e, wTup_e, nW_ok, wEnum_e, wRg1_e, wRg2_e, nWs_ok, asLst_sh, asLst_tm, asTup_sh, asTup_tm, gFor_e, nFor_ok, gPut_e, nPut_ok, nPut_ex, nPut2_ok, gFput_e, nFput_ok, nFput_ex, nFput2_ok, lApp_e, nApp_ok, lAppE_e, nAppE_ok, plN_e, plF_e, plS_e, plSd_e, nSd_ok, gRaise_e, nRaise2_ok, gTryPair_e, nTryPair_ok, nTryPair_ex, nForO_ok, hd_non, hd_bl, hd_int, hd_str, hd_sh, hd_tm, hd_ow, noTm_non, noTm_bl, noTm_int, noTm_str, noTm_sh, noTm_ow, shr_non, shr_bl, shr_int, shr_str, shr_nd, tmr_non, tmr_bl, tmr_int, tmr_str, tmr_sh, tmr_tm, tmr_ow, all0_nil, all0_cons, dAdd_e, dSubt_e, dMul_e, dDiv_e, dMod_e, dPow_e, dLt_e, dLe_e, dGt_e, dGe_e, dEq_int, dNe_int, dEq_ints, dNe_ints, fnOf_e, nEnd_nx, nEnd_rt, nEnd_ex, nOuts_ok, outsOf_nil, outsOf_cons, gj_nil, gj_zero, gj_succ, gs_zero, gs_succ, argD_val, argD_slot, nArg_t, nArg_f, pget_nil, pget_cons, pput_nil, callF_e, gRaise2_e, gForO_e, setG_e, argD_nil, pput_cons, noTms_nil, tmrs_nil, tmrs_cons, noTms_cons, eq_self, Option.join_some, Option.join_none, List.map_cons, List.map_nil, List.cons_append, List.nil_append, List.append_nil, List.replicate_succ, List.replicate_zero, List.length_cons, List.length_nil, Option.map_some, Option.map_none, Option.bind_some, Option.bind_none, Nat.reduceAdd, Nat.reduceLT, Nat.reduceLeDiff, Nat.reduceEqDiff, Bool.not_true, Bool.not_false, Bool.and_true, Bool.true_and, Bool.and_self, reduceIte, if_true, if_false, slots_nil, slots_val, slots_slot, clr, back, List.getElem?_cons_zero, List.getElem?_cons_succ, List.nodup_cons, List.not_mem_nil, not_false_eq_true, List.nodup_nil, and_self, Nat.zero_add, Bool.false_eq_true, List.mem_cons, List.mem_singleton, true_or, or_true, or_false, false_or, Nat.add_one_sub_one, e_meet, Bool.or_false, Bool.or_true, Bool.false_and] <;> (by_cases hm : max r.lo lo ≤ min r.hi hi <;> simp only [Xc_ok, Xc_ok0, nLoop1_ok, nLoop2_nx, nLoop2_ct, nLoop2_bk, nLoop2_rt, nLoop2_ex, nLO2_nx, nLO2_ct, nLO2_bk, nLO2_rt, nLO2_ex, hTup_sh, hTup_tm, hCons_ok, hNil_ok, gThen_e, nThen_nx, nThen_rt, nThen_bk, nThen_ct, nThen_ex, gIf_e, nIf_t, nIf_f, nIf_ex, gNil_e, gBk_e, gCt_e, gRetN_e, gSet_e, nSet_ok, nSet_ex, gSetF_e, nSetF_ok, nSetF_ex, gDrop_e, nDrop_ok, nDrop_ex, gRet_e, nRet_ok, nRet_ex, gAsg_e, nAsg_ok, lQ_e, nQ_ok, vQ_e, nVQ_ok, vN_e, nVN_ok, nVN_ow, vL_e, nVL_ok, nVL_ex, lF_e, nF_ok, frQ_e, nFQ_ok, lM_e, nM_ok, lMp_e, nMp_ok, aNil_e, aCons_e, nAC_ok, nAC_ex, nAC2_ok, nAC2_ex, lFn_e, nFn_ok, nFn_ex, nCall1_ok, nCall2_rt, nCall2_ex, lMeth_e, nMe_ok, nMe_ex, nMe2_ok, nMe2_ex, ltQ_e, nLtQ_ok, ltV_e, nLtV_ok, nLtV_ex, ltNot_e, nNot_ok, nNot_ex, ltAnd_e, nAnd_t, nAnd_f, nAnd_ex, ltOr_e, nOr_t, nOr_f, nOr_ex, qAnd_e, nQAnd_t, nQAnd_f, qOr_e, nQOr_t, nQOr_f, qNot_e, nQNot_ok, qB_e, qTru_e, nB_ok, asBl_e, q2_e, n2_ok, q1_e, n1_ok, q3_e, n3_ok, qV_e, qC_e, qN_e, nN_ok, qNil_e, qCons_e, nCons_ok, qSeq_e, frSeq_e, mkSeq_e, mkOw_e, frDK_e, frDT_e, qONone_e, qOSome_e, nO_ok, qSl_e, nSl_ok, qFn_e, nQF_ok, nQF2_ok, frFn_e, nFF_ok, nFF2_ok, frMk_e, nMk_ok, nMk2_ok, wLst_e, wTup_e, nW_ok, wEnum_e, wRg1_e, wRg2_e, nWs_ok, asLst_sh, asLst_tm, asTup_sh, asTup_tm, gFor_e, nFor_ok, gPut_e, nPut_ok, nPut_ex, nPut2_ok, gFput_e, nFput_ok, nFput_ex, nFput2_ok, lApp_e, nApp_ok, lAppE_e, nAppE_ok, plN_e, plF_e, plS_e, plSd_e, nSd_ok, gRaise_e, nRaise2_ok, gTryPair_e, nTryPair_ok, nTryPair_ex, nForO_ok, hd_non, hd_bl, hd_int, hd_str, hd_sh, hd_tm, hd_ow, noTm_non, noTm_bl, noTm_int, noTm_str, noTm_sh, noTm_ow, shr_non, shr_bl, shr_int, shr_str, shr_nd, tmr_non, tmr_bl, tmr_int, tmr_str, tmr_sh, tmr_tm, tmr_ow, all0_nil, all0_cons, dAdd_e, dSubt_e, dMul_e, dDiv_e, dMod_e, dPow_e, dLt_e, dLe_e, dGt_e, dGe_e, dEq_int, dNe_int, dEq_ints, dNe_ints, fnOf_e, nEnd_nx, nEnd_rt, nEnd_ex, nOuts_ok, outsOf_nil, outsOf_cons, gj_nil, gj_zero, gj_succ, gs_zero, gs_succ, argD_val, argD_slot, nArg_t, nArg_f, pget_nil, pget_cons, pput_nil, callF_e, gRaise2_e, gForO_e, setG_e, argD_nil, pput_cons, noTms_nil, tmrs_nil, tmrs_cons, noTms_cons, eq_self, Option.join_some, Option.join_none, List.map_cons, List.map_nil, List.cons_append, List.nil_append, List.append_nil, List.replicate_succ, List.replicate_zero, List.length_cons, List.length_nil, Option.map_some, Option.map_none, Option.bind_some, Option.bind_none, Nat.reduceAdd, Nat.reduceLT, Nat.reduceLeDiff, Nat.reduceEqDiff, Bool.not_true, Bool.not_false, Bool.and_true, Bool.true_and, Bool.and_self, reduceIte, if_true, if_false, slots_nil, slots_val, slots_slot, clr, back, List.getElem?_cons_zero, List.getElem?_cons_succ, List.nodup_cons, List.not_mem_nil, not_false_eq_true, List.nodup_nil, and_self, Nat.zero_add, Bool.false_eq_true, List.mem_cons, List.mem_singleton, true_or, or_true, or_false, false_or, Nat.add_one_sub_one, hm, decide_true, decide_false])
    rw [e1, nLoop1_ok, e2]
    cases hh : hit own lo hi r with
    | true => exact ⟨some (.int r.lo), some (.int r.hi), some (.bl r.own), by simp only [Xc_ok, Xc_ok0, nLoop1_ok, nLoop2_nx, nLoop2_ct, nLoop2_bk, nLoop2_rt, nLoop2_ex, nLO2_nx, nLO2_ct, nLO2_bk, nLO2_rt, nLO2_ex, hTup_sh, hTup_tm, hCons_ok, hNil_ok, gThen_e, nThen_nx, nThen_rt, nThen_bk, nThen_ct, nThen_ex, gIf_e, nIf_t, nIf_f, nIf_ex, gNil_e, gBk_e, gCt_e, gRetN_e, gSet_e, nSet_ok, nSet_ex, gSetF_e, nSetF_ok, nSetF_ex, gDrop_e, nDrop_ok, nDrop_ex, gRet_e, nRet_ok, nRet_ex, gAsg_e, nAsg_ok, lQ_e, nQ_ok, vQ_e, nVQ_ok, vN_e, nVN_ok, nVN_ow, vL_e, nVL_ok, nVL_ex, lF_e, nF_ok, frQ_e, nFQ_ok, lM_e, nM_ok, lMp_e, nMp_ok, aNil_e, aCons_e, nAC_ok, nAC_ex, nAC2_ok, nAC2_ex, lFn_e, nFn_ok, nFn_ex, nCall1_ok, nCall2_rt, nCall2_ex, lMeth_e, nMe_ok, nMe_ex, nMe2_ok, nMe2_ex, ltQ_e, nLtQ_ok, ltV_e, nLtV_ok, nLtV_ex, ltNot_e, nNot_ok, nNot_ex, ltAnd_e, nAnd_t, nAnd_f, nAnd_ex, ltOr_e, nOr_t, nOr_f, nOr_ex, qAnd_e, nQAnd_t, nQAnd_f, qOr_e, nQOr_t, nQOr_f, qNot_e, nQNot_ok, qB_e, qTru_e, nB_ok, asBl_e, q2_e, n2_ok, q1_e, n1_ok, q3_e, n3_ok, qV_e, qC_e, qN_e, nN_ok, qNil_e, qCons_e, nCons_ok, qSeq_e, frSeq_e, mkSeq_e, mkOw_e, frDK_e, frDT_e, qONone_e, qOSome_e, nO_ok, qSl_e, nSl_ok, qFn_e, nQF_ok, nQF2_ok, frFn_e, nFF_ok, nFF2_ok, frMk_e, nMk_ok, nMk2_ok, wLst_e, wTup_e, nW_ok, wEnum_e, wRg1_e, wRg2_e, nWs_ok, asLst_sh, asLst_tm, asTup_sh, asTup_tm, gFor_e, nFor_ok, gPut_e, nPut_ok, nPut_ex, nPut2_ok, gFput_e, nFput_ok, nFput_ex, nFput2_ok, lApp_e, nApp_ok, lAppE_e, nAppE_ok, plN_e, plF_e, plS_e, plSd_e, nSd_ok, gRaise_e, nRaise2_ok, gTryPair_e, nTryPair_ok, nTryPair_ex, nForO_ok, hd_non, hd_bl, hd_int, hd_str, hd_sh, hd_tm, hd_ow, noTm_non, noTm_bl, noTm_int, noTm_str, noTm_sh, noTm_ow, shr_non, shr_bl, shr_int, shr_str, shr_nd, tmr_non, tmr_bl, tmr_int, tmr_str, tmr_sh, tmr_tm, tmr_ow, all0_nil, all0_cons, dAdd_e, dSubt_e, dMul_e, dDiv_e, dMod_e, dPow_e, dLt_e, dLe_e, dGt_e, dGe_e, dEq_int, dNe_int, dEq_ints, dNe_ints, fnOf_e, nEnd_nx, nEnd_rt, nEnd_ex, nOuts_ok, outsOf_nil, outsOf_cons, gj_nil, gj_zero, gj_succ, gs_zero, gs_succ, argD_val, argD_slot, nArg_t, nArg_f, pget_nil, pget_cons, pput_nil, callF_e, gRaise2_e, gForO_e, setG_e, argD_nil, pput_cons, noTms_nil, tmrs_nil, tmrs_cons, noTms_cons, eq_self, Option.join_some, Option.join_none, List.map_cons, List.map_nil, List.cons_append, List.nil_append, List.append_nil, List.replicate_succ, List.replicate_zero, List.length_cons, List.length_nil, Option.map_some, Option.map_none, Option.bind_some, Option.bind_none, Nat.reduceAdd, Nat.reduceLT, Nat.reduceLeDiff, Nat.reduceEqDiff, Bool.not_true, Bool.not_false, Bool.and_true, Bool.true_and, Bool.and_self, reduceIte, if_true, if_false, slots_nil, slots_val, slots_slot, clr, back, List.getElem?_cons_zero, List.getElem?_cons_succ, List.nodup_cons, List.not_mem_nil, not_false_eq_true, List.nodup_nil, and_self, Nat.zero_add, Bool.false_eq_true, List.mem_cons, List.mem_singleton, true_or, or_true, or_false, false_or, Nat.add_one_sub_one, List.any_cons, hh, Bool.true_or]⟩
    | false =>
      obtain ⟨p5, p6, p7, e⟩ := stands_loop self x lo hi own rs (some (.int r.lo)) (some (.int r.hi)) (some (.bl r.own))
      exact ⟨p5, p6, p7, by simp only [Xc_ok, Xc_ok0, nLoop1_ok, nLoop2_nx, nLoop2_ct, nLoop2_bk, nLoop2_rt, nLoop2_ex, nLO2_nx, nLO2_ct, nLO2_bk, nLO2_rt, nLO2_ex, hTup_sh, hTup_tm, hCons_ok, hNil_ok, gThen_e, nThen_nx, nThen_rt, nThen_bk, nThen_ct, nThen_ex, gIf_e, nIf_t, nIf_f, nIf_ex, gNil_e, gBk_e, gCt_e, gRetN_e, gSet_e, nSet_ok, nSet_ex, gSetF_e, nSetF_ok, nSetF_ex, gDrop_e, nDrop_ok, nDrop_ex, gRet_e, nRet_ok, nRet_ex, gAsg_e, nAsg_ok, lQ_e, nQ_ok, vQ_e, nVQ_ok, vN_e, nVN_ok, nVN_ow, vL_e, nVL_ok, nVL_ex, lF_e, nF_ok, frQ_e, nFQ_ok, lM_e, nM_ok, lMp_e, nMp_ok, aNil_e, aCons_e, nAC_ok, nAC_ex, nAC2_ok, nAC2_ex, lFn_e, nFn_ok, nFn_ex, nCall1_ok, nCall2_rt, nCall2_ex, lMeth_e, nMe_ok, nMe_ex, nMe2_ok, nMe2_ex, ltQ_e, nLtQ_ok, ltV_e, nLtV_ok, nLtV_ex, ltNot_e, nNot_ok, nNot_ex, ltAnd_e, nAnd_t, nAnd_f, nAnd_ex, ltOr_e, nOr_t, nOr_f, nOr_ex, qAnd_e, nQAnd_t, nQAnd_f, qOr_e, nQOr_t, nQOr_f, qNot_e, nQNot_ok, qB_e, qTru_e, nB_ok, asBl_e, q2_e, n2_ok, q1_e, n1_ok, q3_e, n3_ok, qV_e, qC_e, qN_e, nN_ok, qNil_e, qCons_e, nCons_ok, qSeq_e, frSeq_e, mkSeq_e, mkOw_e, frDK_e, frDT_e, qONone_e, qOSome_e, nO_ok, qSl_e, nSl_ok, qFn_e, nQF_ok, nQF2_ok, frFn_e, nFF_ok, nFF2_ok, frMk_e, nMk_ok, nMk2_ok, wLst_e, wTup_e, nW_ok, wEnum_e, wRg1_e, wRg2_e, nWs_ok, asLst_sh, asLst_tm, asTup_sh, asTup_tm, gFor_e, nFor_ok, gPut_e, nPut_ok, nPut_ex, nPut2_ok, gFput_e, nFput_ok, nFput_ex, nFput2_ok, lApp_e, nApp_ok, lAppE_e, nAppE_ok, plN_e, plF_e, plS_e, plSd_e, nSd_ok, gRaise_e, nRaise2_ok, gTryPair_e, nTryPair_ok, nTryPair_ex, nForO_ok, hd_non, hd_bl, hd_int, hd_str, hd_sh, hd_tm, hd_ow, noTm_non, noTm_bl, noTm_int, noTm_str, noTm_sh, noTm_ow, shr_non, shr_bl, shr_int, shr_str, shr_nd, tmr_non, tmr_bl, tmr_int, tmr_str, tmr_sh, tmr_tm, tmr_ow, all0_nil, all0_cons, dAdd_e, dSubt_e, dMul_e, dDiv_e, dMod_e, dPow_e, dLt_e, dLe_e, dGt_e, dGe_e, dEq_int, dNe_int, dEq_ints, dNe_ints, fnOf_e, nEnd_nx, nEnd_rt, nEnd_ex, nOuts_ok, outsOf_nil, outsOf_cons, gj_nil, gj_zero, gj_succ, gs_zero, gs_succ, argD_val, argD_slot, nArg_t, nArg_f, pget_nil, pget_cons, pput_nil, callF_e, gRaise2_e, gForO_e, setG_e, argD_nil, pput_cons, noTms_nil, tmrs_nil, tmrs_cons, noTms_cons, eq_self, Option.join_some, Option.join_none, List.map_cons, List.map_nil, List.cons_append, List.nil_append, List.append_nil, List.replicate_succ, List.replicate_zero, List.length_cons, List.length_nil, Option.map_some, Option.map_none, Option.bind_some, Option.bind_none, Nat.reduceAdd, Nat.reduceLT, Nat.reduceLeDiff, Nat.reduceEqDiff, Bool.not_true, Bool.not_false, Bool.and_true, Bool.true_and, Bool.and_self, reduceIte, if_true, if_false, slots_nil, slots_val, slots_slot, clr, back, List.getElem?_cons_zero, List.getElem?_cons_succ, List.nodup_cons, List.not_mem_nil, not_false_eq_true, List.nodup_nil, and_self, Nat.zero_add, Bool.false_eq_true, List.mem_cons, List.mem_singleton, true_or, or_true, or_false, false_or, Nat.add_one_sub_one, List.any_cons, hh, Bool.false_or, e]⟩
def getRows (S : Shelf) (x : Int) : Option (List Row) := (S.find? fun p => decide (p.1 = x)).map fun p => p.2
theorem e_stands {S : Shelf} {x lo hi : Int} {own : Bool} {rs : List Row} (h : getRows S x = some rs) : fn_Holds_stands [eHolds .tm S, .int x, .int lo, .int hi, .bl own] = some (.ret (.bl (rs.any (hit own lo hi))) []) := by
  unfold fn_Holds_stands g_Holds_stands
  have e1 : dFldC ["Holds"] "lists" (eHolds .tm S) = some (.nd .tm (.dic (S.map fun p => Sum.inl p.1)) (S.map fun p => eRows .tm p.2)) := by
    unfold eHolds; rw [dFldC_e, dlook_hd]
  have e2 : dSub (.nd .tm (.dic (S.map fun p => Sum.inl p.1)) (S.map fun p => eRows .tm p.2)) (.int x) = some (eRows .tm rs) := by
    rw [dSub_dic, show D.key (.int x) = some (.inl x) from rfl, Option.bind_some, dlook_map]
    unfold getRows at h
    cases hf : S.find? fun p => decide (p.1 = x) with
    | none => rw [hf] at h; cases h
    | some p => rw [hf] at h; cases h; rfl
  have e3 : asLst (eRows .tm rs) = some (rs.map Row.d) := rfl
  obtain ⟨p5, p6, p7, e⟩ := stands_loop (eHolds .tm S) x lo hi own rs none none none
  simp only [Xc_ok, Xc_ok0, nLoop1_ok, nLoop2_nx, nLoop2_ct, nLoop2_bk, nLoop2_rt, nLoop2_ex, nLO2_nx, nLO2_ct, nLO2_bk, nLO2_rt, nLO2_ex, hTup_sh, hTup_tm, hCons_ok, hNil_ok, gThen_e, nThen_nx, nThen_rt, nThen_bk, nThen_ct, nThen_ex, gIf_e, nIf_t, nIf_f, nIf_ex, gNil_e, gBk_e, gCt_e, gRetN_e, gSet_e, nSet_ok, nSet_ex, gSetF_e, nSetF_ok, nSetF_ex, gDrop_e, nDrop_ok, nDrop_ex, gRet_e, nRet_ok, nRet_ex, gAsg_e, nAsg_ok, lQ_e, nQ_ok, vQ_e, nVQ_ok, vN_e, nVN_ok, nVN_ow, vL_e, nVL_ok, nVL_ex, lF_e, nF_ok, frQ_e, nFQ_ok, lM_e, nM_ok, lMp_e, nMp_ok, aNil_e, aCons_e, nAC_ok, nAC_ex, nAC2_ok, nAC2_ex, lFn_e, nFn_ok, nFn_ex, nCall1_ok, nCall2_rt, nCall2_ex, lMeth_e, nMe_ok, nMe_ex, nMe2_ok, nMe2_ex, ltQ_e, nLtQ_ok, ltV_e, nLtV_ok, nLtV_ex, ltNot_e, nNot_ok, nNot_ex, ltAnd_e, nAnd_t, nAnd_f, nAnd_ex, ltOr_e, nOr_t, nOr_f, nOr_ex, qAnd_e, nQAnd_t, nQAnd_f, qOr_e, nQOr_t, nQOr_f, qNot_e, nQNot_ok, qB_e, qTru_e, nB_ok, asBl_e, q2_e, n2_ok, q1_e, n1_ok, q3_e, n3_ok, qV_e, qC_e, qN_e, nN_ok, qNil_e, qCons_e, nCons_ok, qSeq_e, frSeq_e, mkSeq_e, mkOw_e, frDK_e, frDT_e, qONone_e, qOSome_e, nO_ok, qSl_e, nSl_ok, qFn_e, nQF_ok, nQF2_ok, frFn_e, nFF_ok, nFF2_ok, frMk_e, nMk_ok, nMk2_ok, wLst_e, wTup_e, nW_ok, wEnum_e, wRg1_e, wRg2_e, nWs_ok, asLst_sh, asLst_tm, asTup_sh, asTup_tm, gFor_e, nFor_ok, gPut_e, nPut_ok, nPut_ex, nPut2_ok, gFput_e, nFput_ok, nFput_ex, nFput2_ok, lApp_e, nApp_ok, lAppE_e, nAppE_ok, plN_e, plF_e, plS_e, plSd_e, nSd_ok, gRaise_e, nRaise2_ok, gTryPair_e, nTryPair_ok, nTryPair_ex, nForO_ok, hd_non, hd_bl, hd_int, hd_str, hd_sh, hd_tm, hd_ow, noTm_non, noTm_bl, noTm_int, noTm_str, noTm_sh, noTm_ow, shr_non, shr_bl, shr_int, shr_str, shr_nd, tmr_non, tmr_bl, tmr_int, tmr_str, tmr_sh, tmr_tm, tmr_ow, all0_nil, all0_cons, dAdd_e, dSubt_e, dMul_e, dDiv_e, dMod_e, dPow_e, dLt_e, dLe_e, dGt_e, dGe_e, dEq_int, dNe_int, dEq_ints, dNe_ints, fnOf_e, nEnd_nx, nEnd_rt, nEnd_ex, nOuts_ok, outsOf_nil, outsOf_cons, gj_nil, gj_zero, gj_succ, gs_zero, gs_succ, argD_val, argD_slot, nArg_t, nArg_f, pget_nil, pget_cons, pput_nil, callF_e, gRaise2_e, gForO_e, setG_e, argD_nil, pput_cons, noTms_nil, tmrs_nil, tmrs_cons, noTms_cons, eq_self, Option.join_some, Option.join_none, List.map_cons, List.map_nil, List.cons_append, List.nil_append, List.append_nil, List.replicate_succ, List.replicate_zero, List.length_cons, List.length_nil, Option.map_some, Option.map_none, Option.bind_some, Option.bind_none, Nat.reduceAdd, Nat.reduceLT, Nat.reduceLeDiff, Nat.reduceEqDiff, Bool.not_true, Bool.not_false, Bool.and_true, Bool.true_and, Bool.and_self, reduceIte, if_true, if_false, slots_nil, slots_val, slots_slot, clr, back, List.getElem?_cons_zero, List.getElem?_cons_succ, List.nodup_cons, List.not_mem_nil, not_false_eq_true, List.nodup_nil, and_self, Nat.zero_add, Bool.false_eq_true, List.mem_cons, List.mem_singleton, true_or, or_true, or_false, false_or, Nat.add_one_sub_one, e1, e2, e3, e]
  cases rs.any (hit own lo hi) <;> simp only [Xc_ok, Xc_ok0, nLoop1_ok, nLoop2_nx, nLoop2_ct, nLoop2_bk, nLoop2_rt, nLoop2_ex, nLO2_nx, nLO2_ct, nLO2_bk, nLO2_rt, nLO2_ex, hTup_sh, hTup_tm, hCons_ok, hNil_ok, gThen_e, nThen_nx, nThen_rt, nThen_bk, nThen_ct, nThen_ex, gIf_e, nIf_t, nIf_f, nIf_ex, gNil_e, gBk_e, gCt_e, gRetN_e, gSet_e, nSet_ok, nSet_ex, gSetF_e, nSetF_ok, nSetF_ex, gDrop_e, nDrop_ok, nDrop_ex, gRet_e, nRet_ok, nRet_ex, gAsg_e, nAsg_ok, lQ_e, nQ_ok, vQ_e, nVQ_ok, vN_e, nVN_ok, nVN_ow, vL_e, nVL_ok, nVL_ex, lF_e, nF_ok, frQ_e, nFQ_ok, lM_e, nM_ok, lMp_e, nMp_ok, aNil_e, aCons_e, nAC_ok, nAC_ex, nAC2_ok, nAC2_ex, lFn_e, nFn_ok, nFn_ex, nCall1_ok, nCall2_rt, nCall2_ex, lMeth_e, nMe_ok, nMe_ex, nMe2_ok, nMe2_ex, ltQ_e, nLtQ_ok, ltV_e, nLtV_ok, nLtV_ex, ltNot_e, nNot_ok, nNot_ex, ltAnd_e, nAnd_t, nAnd_f, nAnd_ex, ltOr_e, nOr_t, nOr_f, nOr_ex, qAnd_e, nQAnd_t, nQAnd_f, qOr_e, nQOr_t, nQOr_f, qNot_e, nQNot_ok, qB_e, qTru_e, nB_ok, asBl_e, q2_e, n2_ok, q1_e, n1_ok, q3_e, n3_ok, qV_e, qC_e, qN_e, nN_ok, qNil_e, qCons_e, nCons_ok, qSeq_e, frSeq_e, mkSeq_e, mkOw_e, frDK_e, frDT_e, qONone_e, qOSome_e, nO_ok, qSl_e, nSl_ok, qFn_e, nQF_ok, nQF2_ok, frFn_e, nFF_ok, nFF2_ok, frMk_e, nMk_ok, nMk2_ok, wLst_e, wTup_e, nW_ok, wEnum_e, wRg1_e, wRg2_e, nWs_ok, asLst_sh, asLst_tm, asTup_sh, asTup_tm, gFor_e, nFor_ok, gPut_e, nPut_ok, nPut_ex, nPut2_ok, gFput_e, nFput_ok, nFput_ex, nFput2_ok, lApp_e, nApp_ok, lAppE_e, nAppE_ok, plN_e, plF_e, plS_e, plSd_e, nSd_ok, gRaise_e, nRaise2_ok, gTryPair_e, nTryPair_ok, nTryPair_ex, nForO_ok, hd_non, hd_bl, hd_int, hd_str, hd_sh, hd_tm, hd_ow, noTm_non, noTm_bl, noTm_int, noTm_str, noTm_sh, noTm_ow, shr_non, shr_bl, shr_int, shr_str, shr_nd, tmr_non, tmr_bl, tmr_int, tmr_str, tmr_sh, tmr_tm, tmr_ow, all0_nil, all0_cons, dAdd_e, dSubt_e, dMul_e, dDiv_e, dMod_e, dPow_e, dLt_e, dLe_e, dGt_e, dGe_e, dEq_int, dNe_int, dEq_ints, dNe_ints, fnOf_e, nEnd_nx, nEnd_rt, nEnd_ex, nOuts_ok, outsOf_nil, outsOf_cons, gj_nil, gj_zero, gj_succ, gs_zero, gs_succ, argD_val, argD_slot, nArg_t, nArg_f, pget_nil, pget_cons, pput_nil, callF_e, gRaise2_e, gForO_e, setG_e, argD_nil, pput_cons, noTms_nil, tmrs_nil, tmrs_cons, noTms_cons, eq_self, Option.join_some, Option.join_none, List.map_cons, List.map_nil, List.cons_append, List.nil_append, List.append_nil, List.replicate_succ, List.replicate_zero, List.length_cons, List.length_nil, Option.map_some, Option.map_none, Option.bind_some, Option.bind_none, Nat.reduceAdd, Nat.reduceLT, Nat.reduceLeDiff, Nat.reduceEqDiff, Bool.not_true, Bool.not_false, Bool.and_true, Bool.true_and, Bool.and_self, reduceIte, if_true, if_false, slots_nil, slots_val, slots_slot, clr, back, List.getElem?_cons_zero, List.getElem?_cons_succ, List.nodup_cons, List.not_mem_nil, not_false_eq_true, List.nodup_nil, and_self, Nat.zero_add, Bool.false_eq_true, List.mem_cons, List.mem_singleton, true_or, or_true, or_false, false_or, Nat.add_one_sub_one]
/-- who stands against -/
def ag (S : Shelf) (x lo hi : Int) (own : Bool) : List Int → List Int := List.filter fun o => decide (o ≠ x) && ((getRows S o).getD []).any (hit own lo hi)
theorem against_loop (S : Shelf) (x lo hi : Int) (own : Bool) : ∀ (ks : List Int) (acc : List Int) (o6 : Option D), (∀ k ∈ ks, (getRows S k).isSome = true) → acc.length + ks.length < 1000 → ∃ p6, loopG lt_Holds_against_1 lb_Holds_against_1 (ks.map D.int) [some (eHolds .tm S), some (.int x), some (.int lo), some (.int hi), some (.bl own), some (eInts .ow acc), o6]
    = some (.ok .nx [some (eHolds .tm S), some (.int x), some (.int lo), some (.int hi), some (.bl own), some (eInts .ow (acc ++ ag S x lo hi own ks)), p6])
  | [], acc, o6, _, _ => ⟨o6, by rw [List.map_nil, loopG_nil]; simp [ag]⟩
  | k :: ks, acc, o6, h, hl => by
    rw [List.map_cons, loopG_cons]
    have e1 : lt_Holds_against_1 (.int k) [some (eHolds .tm S), some (.int x), some (.int lo), some (.int hi), some (.bl own), some (eInts .ow acc), o6] = some [some (eHolds .tm S), some (.int x), some (.int lo), some (.int hi), some (.bl own), some (eInts .ow acc), some (.int k)] := by
      unfold lt_Holds_against_1
      simp only [Xc_ok, Xc_ok0, nLoop1_ok, nLoop2_nx, nLoop2_ct, nLoop2_bk, nLoop2_rt, nLoop2_ex, nLO2_nx, nLO2_ct, nLO2_bk, nLO2_rt, nLO2_ex, hTup_sh, hTup_tm, hCons_ok, hNil_ok, gThen_e, nThen_nx, nThen_rt, nThen_bk, nThen_ct, nThen_ex, gIf_e, nIf_t, nIf_f, nIf_ex, gNil_e, gBk_e, gCt_e, gRetN_e, gSet_e, nSet_ok, nSet_ex, gSetF_e, nSetF_ok, nSetF_ex, gDrop_e, nDrop_ok, nDrop_ex, gRet_e, nRet_ok, nRet_ex, gAsg_e, nAsg_ok, lQ_e, nQ_ok, vQ_e, nVQ_ok, vN_e, nVN_ok, nVN_ow, vL_e, nVL_ok, nVL_ex, lF_e, nF_ok, frQ_e, nFQ_ok, lM_e, nM_ok, lMp_e, nMp_ok, aNil_e, aCons_e, nAC_ok, nAC_ex, nAC2_ok, nAC2_ex, lFn_e, nFn_ok, nFn_ex, nCall1_ok, nCall2_rt, nCall2_ex, lMeth_e, nMe_ok, nMe_ex, nMe2_ok, nMe2_ex, ltQ_e, nLtQ_ok, ltV_e, nLtV_ok, nLtV_ex, ltNot_e, nNot_ok, nNot_ex, ltAnd_e, nAnd_t, nAnd_f, nAnd_ex, ltOr_e, nOr_t, nOr_f, nOr_ex, qAnd_e, nQAnd_t, nQAnd_f, qOr_e, nQOr_t, nQOr_f, qNot_e, nQNot_ok, qB_e, qTru_e, nB_ok, asBl_e, q2_e, n2_ok, q1_e, n1_ok, q3_e, n3_ok, qV_e, qC_e, qN_e, nN_ok, qNil_e, qCons_e, nCons_ok, qSeq_e, frSeq_e, mkSeq_e, mkOw_e, frDK_e, frDT_e, qONone_e, qOSome_e, nO_ok, qSl_e, nSl_ok, qFn_e, nQF_ok, nQF2_ok, frFn_e, nFF_ok, nFF2_ok, frMk_e, nMk_ok, nMk2_ok, wLst_e, wTup_e, nW_ok, wEnum_e, wRg1_e, wRg2_e, nWs_ok, asLst_sh, asLst_tm, asTup_sh, asTup_tm, gFor_e, nFor_ok, gPut_e, nPut_ok, nPut_ex, nPut2_ok, gFput_e, nFput_ok, nFput_ex, nFput2_ok, lApp_e, nApp_ok, lAppE_e, nAppE_ok, plN_e, plF_e, plS_e, plSd_e, nSd_ok, gRaise_e, nRaise2_ok, gTryPair_e, nTryPair_ok, nTryPair_ex, nForO_ok, hd_non, hd_bl, hd_int, hd_str, hd_sh, hd_tm, hd_ow, noTm_non, noTm_bl, noTm_int, noTm_str, noTm_sh, noTm_ow, shr_non, shr_bl, shr_int, shr_str, shr_nd, tmr_non, tmr_bl, tmr_int, tmr_str, tmr_sh, tmr_tm, tmr_ow, all0_nil, all0_cons, dAdd_e, dSubt_e, dMul_e, dDiv_e, dMod_e, dPow_e, dLt_e, dLe_e, dGt_e, dGe_e, dEq_int, dNe_int, dEq_ints, dNe_ints, fnOf_e, nEnd_nx, nEnd_rt, nEnd_ex, nOuts_ok, outsOf_nil, outsOf_cons, gj_nil, gj_zero, gj_succ, gs_zero, gs_succ, argD_val, argD_slot, nArg_t, nArg_f, pget_nil, pget_cons, pput_nil, callF_e, gRaise2_e, gForO_e, setG_e, argD_nil, pput_cons, noTms_nil, tmrs_nil, tmrs_cons, noTms_cons, eq_self, Option.join_some, Option.join_none, List.map_cons, List.map_nil, List.cons_append, List.nil_append, List.append_nil, List.replicate_succ, List.replicate_zero, List.length_cons, List.length_nil, Option.map_some, Option.map_none, Option.bind_some, Option.bind_none, Nat.reduceAdd, Nat.reduceLT, Nat.reduceLeDiff, Nat.reduceEqDiff, Bool.not_true, Bool.not_false, Bool.and_true, Bool.true_and, Bool.and_self, reduceIte, if_true, if_false, slots_nil, slots_val, slots_slot, clr, back, List.getElem?_cons_zero, List.getElem?_cons_succ, List.nodup_cons, List.not_mem_nil, not_false_eq_true, List.nodup_nil, and_self, Nat.zero_add, Bool.false_eq_true, List.mem_cons, List.mem_singleton, true_or, or_true, or_false, false_or, Nat.add_one_sub_one]
    obtain ⟨rs, hr⟩ := Option.isSome_iff_exists.mp (h k List.mem_cons_self)
    have e2 : lb_Holds_against_1 [some (eHolds .tm S), some (.int x), some (.int lo), some (.int hi), some (.bl own), some (eInts .ow acc), some (.int k)] = some (.ok .nx [some (eHolds .tm S), some (.int x), some (.int lo), some (.int hi), some (.bl own), some (eInts .ow (acc ++ ag S x lo hi own [k])), some (.int k)]) := by
      unfold lb_Holds_against_1
      have a1 : ∀ Γ, avInsOf Γ "Holds" "stands" (.val (eHolds .tm S)) = true := fun Γ => by unfold eHolds; rw [avIns_val]; decide
      have a2 : (eHolds .tm S).hd = false := rfl
      have a3 := e_stands (lo := lo) (hi := hi) (own := own) hr
      have a4 : appAt [some (eHolds .tm S), some (.int x), some (.int lo), some (.int hi), some (.bl own), some (eInts .ow acc), some (.int k)] 5 [] (.int k) = some [some (eHolds .tm S), some (.int x), some (.int lo), some (.int hi), some (.bl own), some (eInts .ow (acc ++ [k])), some (.int k)] := by
        unfold appAt
        simp only [Xc_ok, Xc_ok0, nLoop1_ok, nLoop2_nx, nLoop2_ct, nLoop2_bk, nLoop2_rt, nLoop2_ex, nLO2_nx, nLO2_ct, nLO2_bk, nLO2_rt, nLO2_ex, hTup_sh, hTup_tm, hCons_ok, hNil_ok, gThen_e, nThen_nx, nThen_rt, nThen_bk, nThen_ct, nThen_ex, gIf_e, nIf_t, nIf_f, nIf_ex, gNil_e, gBk_e, gCt_e, gRetN_e, gSet_e, nSet_ok, nSet_ex, gSetF_e, nSetF_ok, nSetF_ex, gDrop_e, nDrop_ok, nDrop_ex, gRet_e, nRet_ok, nRet_ex, gAsg_e, nAsg_ok, lQ_e, nQ_ok, vQ_e, nVQ_ok, vN_e, nVN_ok, nVN_ow, vL_e, nVL_ok, nVL_ex, lF_e, nF_ok, frQ_e, nFQ_ok, lM_e, nM_ok, lMp_e, nMp_ok, aNil_e, aCons_e, nAC_ok, nAC_ex, nAC2_ok, nAC2_ex, lFn_e, nFn_ok, nFn_ex, nCall1_ok, nCall2_rt, nCall2_ex, lMeth_e, nMe_ok, nMe_ex, nMe2_ok, nMe2_ex, ltQ_e, nLtQ_ok, ltV_e, nLtV_ok, nLtV_ex, ltNot_e, nNot_ok, nNot_ex, ltAnd_e, nAnd_t, nAnd_f, nAnd_ex, ltOr_e, nOr_t, nOr_f, nOr_ex, qAnd_e, nQAnd_t, nQAnd_f, qOr_e, nQOr_t, nQOr_f, qNot_e, nQNot_ok, qB_e, qTru_e, nB_ok, asBl_e, q2_e, n2_ok, q1_e, n1_ok, q3_e, n3_ok, qV_e, qC_e, qN_e, nN_ok, qNil_e, qCons_e, nCons_ok, qSeq_e, frSeq_e, mkSeq_e, mkOw_e, frDK_e, frDT_e, qONone_e, qOSome_e, nO_ok, qSl_e, nSl_ok, qFn_e, nQF_ok, nQF2_ok, frFn_e, nFF_ok, nFF2_ok, frMk_e, nMk_ok, nMk2_ok, wLst_e, wTup_e, nW_ok, wEnum_e, wRg1_e, wRg2_e, nWs_ok, asLst_sh, asLst_tm, asTup_sh, asTup_tm, gFor_e, nFor_ok, gPut_e, nPut_ok, nPut_ex, nPut2_ok, gFput_e, nFput_ok, nFput_ex, nFput2_ok, lApp_e, nApp_ok, lAppE_e, nAppE_ok, plN_e, plF_e, plS_e, plSd_e, nSd_ok, gRaise_e, nRaise2_ok, gTryPair_e, nTryPair_ok, nTryPair_ex, nForO_ok, hd_non, hd_bl, hd_int, hd_str, hd_sh, hd_tm, hd_ow, noTm_non, noTm_bl, noTm_int, noTm_str, noTm_sh, noTm_ow, shr_non, shr_bl, shr_int, shr_str, shr_nd, tmr_non, tmr_bl, tmr_int, tmr_str, tmr_sh, tmr_tm, tmr_ow, all0_nil, all0_cons, dAdd_e, dSubt_e, dMul_e, dDiv_e, dMod_e, dPow_e, dLt_e, dLe_e, dGt_e, dGe_e, dEq_int, dNe_int, dEq_ints, dNe_ints, fnOf_e, nEnd_nx, nEnd_rt, nEnd_ex, nOuts_ok, outsOf_nil, outsOf_cons, gj_nil, gj_zero, gj_succ, gs_zero, gs_succ, argD_val, argD_slot, nArg_t, nArg_f, pget_nil, pget_cons, pput_nil, callF_e, gRaise2_e, gForO_e, setG_e, argD_nil, pput_cons, noTms_nil, tmrs_nil, tmrs_cons, noTms_cons, eq_self, Option.join_some, Option.join_none, List.map_cons, List.map_nil, List.cons_append, List.nil_append, List.append_nil, List.replicate_succ, List.replicate_zero, List.length_cons, List.length_nil, Option.map_some, Option.map_none, Option.bind_some, Option.bind_none, Nat.reduceAdd, Nat.reduceLT, Nat.reduceLeDiff, Nat.reduceEqDiff, Bool.not_true, Bool.not_false, Bool.and_true, Bool.true_and, Bool.and_self, reduceIte, if_true, if_false, slots_nil, slots_val, slots_slot, clr, back, List.getElem?_cons_zero, List.getElem?_cons_succ, List.nodup_cons, List.not_mem_nil, not_false_eq_true, List.nodup_nil, and_self, Nat.zero_add, Bool.false_eq_true, List.mem_cons, List.mem_singleton, true_or, or_true, or_false, false_or, Nat.add_one_sub_one, eInts]
        simp only [List.length_map]
        simp at hl
        rw [if_pos (by omega)]
        simp
      by_cases hx : k = x
      · simp only [Xc_ok, Xc_ok0, nLoop1_ok, nLoop2_nx, nLoop2_ct, nLoop2_bk, nLoop2_rt, nLoop2_ex, nLO2_nx, nLO2_ct, nLO2_bk, nLO2_rt, nLO2_ex, hTup_sh, hTup_tm, hCons_ok, hNil_ok, gThen_e, nThen_nx, nThen_rt, nThen_bk, nThen_ct, nThen_ex, gIf_e, nIf_t, nIf_f, nIf_ex, gNil_e, gBk_e, gCt_e, gRetN_e, gSet_e, nSet_ok, nSet_ex, gSetF_e, nSetF_ok, nSetF_ex, gDrop_e, nDrop_ok, nDrop_ex, gRet_e, nRet_ok, nRet_ex, gAsg_e, nAsg_ok, lQ_e, nQ_ok, vQ_e, nVQ_ok, vN_e, nVN_ok, nVN_ow, vL_e, nVL_ok, nVL_ex, lF_e, nF_ok, frQ_e, nFQ_ok, lM_e, nM_ok, lMp_e, nMp_ok, aNil_e, aCons_e, nAC_ok, nAC_ex, nAC2_ok, nAC2_ex, lFn_e, nFn_ok, nFn_ex, nCall1_ok, nCall2_rt, nCall2_ex, lMeth_e, nMe_ok, nMe_ex, nMe2_ok, nMe2_ex, ltQ_e, nLtQ_ok, ltV_e, nLtV_ok, nLtV_ex, ltNot_e, nNot_ok, nNot_ex, ltAnd_e, nAnd_t, nAnd_f, nAnd_ex, ltOr_e, nOr_t, nOr_f, nOr_ex, qAnd_e, nQAnd_t, nQAnd_f, qOr_e, nQOr_t, nQOr_f, qNot_e, nQNot_ok, qB_e, qTru_e, nB_ok, asBl_e, q2_e, n2_ok, q1_e, n1_ok, q3_e, n3_ok, qV_e, qC_e, qN_e, nN_ok, qNil_e, qCons_e, nCons_ok, qSeq_e, frSeq_e, mkSeq_e, mkOw_e, frDK_e, frDT_e, qONone_e, qOSome_e, nO_ok, qSl_e, nSl_ok, qFn_e, nQF_ok, nQF2_ok, frFn_e, nFF_ok, nFF2_ok, frMk_e, nMk_ok, nMk2_ok, wLst_e, wTup_e, nW_ok, wEnum_e, wRg1_e, wRg2_e, nWs_ok, asLst_sh, asLst_tm, asTup_sh, asTup_tm, gFor_e, nFor_ok, gPut_e, nPut_ok, nPut_ex, nPut2_ok, gFput_e, nFput_ok, nFput_ex, nFput2_ok, lApp_e, nApp_ok, lAppE_e, nAppE_ok, plN_e, plF_e, plS_e, plSd_e, nSd_ok, gRaise_e, nRaise2_ok, gTryPair_e, nTryPair_ok, nTryPair_ex, nForO_ok, hd_non, hd_bl, hd_int, hd_str, hd_sh, hd_tm, hd_ow, noTm_non, noTm_bl, noTm_int, noTm_str, noTm_sh, noTm_ow, shr_non, shr_bl, shr_int, shr_str, shr_nd, tmr_non, tmr_bl, tmr_int, tmr_str, tmr_sh, tmr_tm, tmr_ow, all0_nil, all0_cons, dAdd_e, dSubt_e, dMul_e, dDiv_e, dMod_e, dPow_e, dLt_e, dLe_e, dGt_e, dGe_e, dEq_int, dNe_int, dEq_ints, dNe_ints, fnOf_e, nEnd_nx, nEnd_rt, nEnd_ex, nOuts_ok, outsOf_nil, outsOf_cons, gj_nil, gj_zero, gj_succ, gs_zero, gs_succ, argD_val, argD_slot, nArg_t, nArg_f, pget_nil, pget_cons, pput_nil, callF_e, gRaise2_e, gForO_e, setG_e, argD_nil, pput_cons, noTms_nil, tmrs_nil, tmrs_cons, noTms_cons, eq_self, Option.join_some, Option.join_none, List.map_cons, List.map_nil, List.cons_append, List.nil_append, List.append_nil, List.replicate_succ, List.replicate_zero, List.length_cons, List.length_nil, Option.map_some, Option.map_none, Option.bind_some, Option.bind_none, Nat.reduceAdd, Nat.reduceLT, Nat.reduceLeDiff, Nat.reduceEqDiff, Bool.not_true, Bool.not_false, Bool.and_true, Bool.true_and, Bool.and_self, reduceIte, if_true, if_false, slots_nil, slots_val, slots_slot, clr, back, List.getElem?_cons_zero, List.getElem?_cons_succ, List.nodup_cons, List.not_mem_nil, not_false_eq_true, List.nodup_nil, and_self, Nat.zero_add, Bool.false_eq_true, List.mem_cons, List.mem_singleton, true_or, or_true, or_false, false_or, Nat.add_one_sub_one, dNe_int, hx, decide_true, ag, List.filter_cons, List.filter_nil, ne_eq, not_true_eq_false, decide_false, Bool.false_and]
      · cases hh : rs.any (hit own lo hi)
        · simp only [Xc_ok, Xc_ok0, nLoop1_ok, nLoop2_nx, nLoop2_ct, nLoop2_bk, nLoop2_rt, nLoop2_ex, nLO2_nx, nLO2_ct, nLO2_bk, nLO2_rt, nLO2_ex, hTup_sh, hTup_tm, hCons_ok, hNil_ok, gThen_e, nThen_nx, nThen_rt, nThen_bk, nThen_ct, nThen_ex, gIf_e, nIf_t, nIf_f, nIf_ex, gNil_e, gBk_e, gCt_e, gRetN_e, gSet_e, nSet_ok, nSet_ex, gSetF_e, nSetF_ok, nSetF_ex, gDrop_e, nDrop_ok, nDrop_ex, gRet_e, nRet_ok, nRet_ex, gAsg_e, nAsg_ok, lQ_e, nQ_ok, vQ_e, nVQ_ok, vN_e, nVN_ok, nVN_ow, vL_e, nVL_ok, nVL_ex, lF_e, nF_ok, frQ_e, nFQ_ok, lM_e, nM_ok, lMp_e, nMp_ok, aNil_e, aCons_e, nAC_ok, nAC_ex, nAC2_ok, nAC2_ex, lFn_e, nFn_ok, nFn_ex, nCall1_ok, nCall2_rt, nCall2_ex, lMeth_e, nMe_ok, nMe_ex, nMe2_ok, nMe2_ex, ltQ_e, nLtQ_ok, ltV_e, nLtV_ok, nLtV_ex, ltNot_e, nNot_ok, nNot_ex, ltAnd_e, nAnd_t, nAnd_f, nAnd_ex, ltOr_e, nOr_t, nOr_f, nOr_ex, qAnd_e, nQAnd_t, nQAnd_f, qOr_e, nQOr_t, nQOr_f, qNot_e, nQNot_ok, qB_e, qTru_e, nB_ok, asBl_e, q2_e, n2_ok, q1_e, n1_ok, q3_e, n3_ok, qV_e, qC_e, qN_e, nN_ok, qNil_e, qCons_e, nCons_ok, qSeq_e, frSeq_e, mkSeq_e, mkOw_e, frDK_e, frDT_e, qONone_e, qOSome_e, nO_ok, qSl_e, nSl_ok, qFn_e, nQF_ok, nQF2_ok, frFn_e, nFF_ok, nFF2_ok, frMk_e, nMk_ok, nMk2_ok, wLst_e, wTup_e, nW_ok, wEnum_e, wRg1_e, wRg2_e, nWs_ok, asLst_sh, asLst_tm, asTup_sh, asTup_tm, gFor_e, nFor_ok, gPut_e, nPut_ok, nPut_ex, nPut2_ok, gFput_e, nFput_ok, nFput_ex, nFput2_ok, lApp_e, nApp_ok, lAppE_e, nAppE_ok, plN_e, plF_e, plS_e, plSd_e, nSd_ok, gRaise_e, nRaise2_ok, gTryPair_e, nTryPair_ok, nTryPair_ex, nForO_ok, hd_non, hd_bl, hd_int, hd_str, hd_sh, hd_tm, hd_ow, noTm_non, noTm_bl, noTm_int, noTm_str, noTm_sh, noTm_ow, shr_non, shr_bl, shr_int, shr_str, shr_nd, tmr_non, tmr_bl, tmr_int, tmr_str, tmr_sh, tmr_tm, tmr_ow, all0_nil, all0_cons, dAdd_e, dSubt_e, dMul_e, dDiv_e, dMod_e, dPow_e, dLt_e, dLe_e, dGt_e, dGe_e, dEq_int, dNe_int, dEq_ints, dNe_ints, fnOf_e, nEnd_nx, nEnd_rt, nEnd_ex, nOuts_ok, outsOf_nil, outsOf_cons, gj_nil, gj_zero, gj_succ, gs_zero, gs_succ, argD_val, argD_slot, nArg_t, nArg_f, pget_nil, pget_cons, pput_nil, callF_e, gRaise2_e, gForO_e, setG_e, argD_nil, pput_cons, noTms_nil, tmrs_nil, tmrs_cons, noTms_cons, eq_self, Option.join_some, Option.join_none, List.map_cons, List.map_nil, List.cons_append, List.nil_append, List.append_nil, List.replicate_succ, List.replicate_zero, List.length_cons, List.length_nil, Option.map_some, Option.map_none, Option.bind_some, Option.bind_none, Nat.reduceAdd, Nat.reduceLT, Nat.reduceLeDiff, Nat.reduceEqDiff, Bool.not_true, Bool.not_false, Bool.and_true, Bool.true_and, Bool.and_self, reduceIte, if_true, if_false, slots_nil, slots_val, slots_slot, clr, back, List.getElem?_cons_zero, List.getElem?_cons_succ, List.nodup_cons, List.not_mem_nil, not_false_eq_true, List.nodup_nil, and_self, Nat.zero_add, Bool.false_eq_true, List.mem_cons, List.mem_singleton, true_or, or_true, or_false, false_or, Nat.add_one_sub_one, dNe_int, hx, decide_false, a1, a2, a3, hh, ag, List.filter_cons, List.filter_nil, ne_eq, decide_true, hr, Option.getD_some]
        · simp only [Xc_ok, Xc_ok0, nLoop1_ok, nLoop2_nx, nLoop2_ct, nLoop2_bk, nLoop2_rt, nLoop2_ex, nLO2_nx, nLO2_ct, nLO2_bk, nLO2_rt, nLO2_ex, hTup_sh, hTup_tm, hCons_ok, hNil_ok, gThen_e, nThen_nx, nThen_rt, nThen_bk, nThen_ct, nThen_ex, gIf_e, nIf_t, nIf_f, nIf_ex, gNil_e, gBk_e, gCt_e, gRetN_e, gSet_e, nSet_ok, nSet_ex, gSetF_e, nSetF_ok, nSetF_ex, gDrop_e, nDrop_ok, nDrop_ex, gRet_e, nRet_ok, nRet_ex, gAsg_e, nAsg_ok, lQ_e, nQ_ok, vQ_e, nVQ_ok, vN_e, nVN_ok, nVN_ow, vL_e, nVL_ok, nVL_ex, lF_e, nF_ok, frQ_e, nFQ_ok, lM_e, nM_ok, lMp_e, nMp_ok, aNil_e, aCons_e, nAC_ok, nAC_ex, nAC2_ok, nAC2_ex, lFn_e, nFn_ok, nFn_ex, nCall1_ok, nCall2_rt, nCall2_ex, lMeth_e, nMe_ok, nMe_ex, nMe2_ok, nMe2_ex, ltQ_e, nLtQ_ok, ltV_e, nLtV_ok, nLtV_ex, ltNot_e, nNot_ok, nNot_ex, ltAnd_e, nAnd_t, nAnd_f, nAnd_ex, ltOr_e, nOr_t, nOr_f, nOr_ex, qAnd_e, nQAnd_t, nQAnd_f, qOr_e, nQOr_t, nQOr_f, qNot_e, nQNot_ok, qB_e, qTru_e, nB_ok, asBl_e, q2_e, n2_ok, q1_e, n1_ok, q3_e, n3_ok, qV_e, qC_e, qN_e, nN_ok, qNil_e, qCons_e, nCons_ok, qSeq_e, frSeq_e, mkSeq_e, mkOw_e, frDK_e, frDT_e, qONone_e, qOSome_e, nO_ok, qSl_e, nSl_ok, qFn_e, nQF_ok, nQF2_ok, frFn_e, nFF_ok, nFF2_ok, frMk_e, nMk_ok, nMk2_ok, wLst_e, wTup_e, nW_ok, wEnum_e, wRg1_e, wRg2_e, nWs_ok, asLst_sh, asLst_tm, asTup_sh, asTup_tm, gFor_e, nFor_ok, gPut_e, nPut_ok, nPut_ex, nPut2_ok, gFput_e, nFput_ok, nFput_ex, nFput2_ok, lApp_e, nApp_ok, lAppE_e, nAppE_ok, plN_e, plF_e, plS_e, plSd_e, nSd_ok, gRaise_e, nRaise2_ok, gTryPair_e, nTryPair_ok, nTryPair_ex, nForO_ok, hd_non, hd_bl, hd_int, hd_str, hd_sh, hd_tm, hd_ow, noTm_non, noTm_bl, noTm_int, noTm_str, noTm_sh, noTm_ow, shr_non, shr_bl, shr_int, shr_str, shr_nd, tmr_non, tmr_bl, tmr_int, tmr_str, tmr_sh, tmr_tm, tmr_ow, all0_nil, all0_cons, dAdd_e, dSubt_e, dMul_e, dDiv_e, dMod_e, dPow_e, dLt_e, dLe_e, dGt_e, dGe_e, dEq_int, dNe_int, dEq_ints, dNe_ints, fnOf_e, nEnd_nx, nEnd_rt, nEnd_ex, nOuts_ok, outsOf_nil, outsOf_cons, gj_nil, gj_zero, gj_succ, gs_zero, gs_succ, argD_val, argD_slot, nArg_t, nArg_f, pget_nil, pget_cons, pput_nil, callF_e, gRaise2_e, gForO_e, setG_e, argD_nil, pput_cons, noTms_nil, tmrs_nil, tmrs_cons, noTms_cons, eq_self, Option.join_some, Option.join_none, List.map_cons, List.map_nil, List.cons_append, List.nil_append, List.append_nil, List.replicate_succ, List.replicate_zero, List.length_cons, List.length_nil, Option.map_some, Option.map_none, Option.bind_some, Option.bind_none, Nat.reduceAdd, Nat.reduceLT, Nat.reduceLeDiff, Nat.reduceEqDiff, Bool.not_true, Bool.not_false, Bool.and_true, Bool.true_and, Bool.and_self, reduceIte, if_true, if_false, slots_nil, slots_val, slots_slot, clr, back, List.getElem?_cons_zero, List.getElem?_cons_succ, List.nodup_cons, List.not_mem_nil, not_false_eq_true, List.nodup_nil, and_self, Nat.zero_add, Bool.false_eq_true, List.mem_cons, List.mem_singleton, true_or, or_true, or_false, false_or, Nat.add_one_sub_one, dNe_int, hx, decide_false, a1, a2, a3, hh, ag, List.filter_cons, List.filter_nil, ne_eq, decide_true, hr, Option.getD_some, a4]
    rw [e1, nLoop1_ok, e2, nLoop2_nx]
    obtain ⟨p6, e⟩ := against_loop S x lo hi own ks (acc ++ ag S x lo hi own [k]) (some (.int k)) (fun k' hk => h k' (List.mem_cons_of_mem _ hk)) (by
      have : (ag S x lo hi own [k]).length ≤ 1 := by unfold ag; exact List.length_filter_le _ _
      simp at hl ⊢; omega)
    refine ⟨p6, ?_⟩
    rw [e]
    have : acc ++ ag S x lo hi own [k] ++ ag S x lo hi own ks = acc ++ ag S x lo hi own (k :: ks) := by
      rw [List.append_assoc]; unfold ag; rw [← List.filter_append]; rfl
    rw [this]

theorem keyInts_map' : ∀ S : Shelf, keyInts (S.map fun p => (Sum.inl p.1 : Key)) = some (S.map fun p => p.1)
  | [] => rfl
  | p :: S => by rw [List.map_cons, keyInts, keyInts_map' S]; rfl
abbrev keys (S : Shelf) : List Int := S.map fun p => p.1
theorem getRows_some {S : Shelf} {k : Int} (h : k ∈ keys S) : (getRows S k).isSome = true := by
  unfold getRows
  obtain ⟨p, hp, rfl⟩ := List.mem_map.mp h
  rw [Option.isSome_map, List.find?_isSome]
  exact ⟨p, hp, by simp⟩
theorem noTms_ints' (ns : List Int) : D.noTms (ns.map D.int) = true := noTms_ints ns
theorem shrs_ints (ns : List Int) : D.shrs (ns.map D.int) = ns.map D.int := by rw [shrs_map]; simp [D.shr]
def agS (S : Shelf) (x lo hi : Int) (own : Bool) : List Int := ag S x lo hi own (isort (keys S))
theorem e_against (S : Shelf) (hS : S.length < 64) (x lo hi : Int) (own : Bool) : fn_Holds_against [eHolds .tm S, .int x, .int lo, .int hi, .bl own] = some (.ret (eInts .ow (agS S x lo hi own)) []) := by
  unfold fn_Holds_against g_Holds_against
  have e1 : dFldC ["Holds"] "lists" (eHolds .tm S) = some (.nd .tm (.dic (S.map fun p => Sum.inl p.1)) (S.map fun p => eRows .tm p.2)) := by
    unfold eHolds; rw [dFldC_e, dlook_hd]
  have e2 : bSorted [.nd .tm (.dic (S.map fun p => Sum.inl p.1)) (S.map fun p => eRows .tm p.2)] = some (shInts (isort (keys S))) := by
    show (keyInts _).bind _ = _
    rw [keyInts_map', Option.bind_some, if_pos (by simpa using hS)]
  have e3 : asLst (shInts (isort (keys S))) = some ((isort (keys S)).map D.int) := rfl
  have pm := isort_perm (keys S)
  obtain ⟨p6, e⟩ := against_loop S x lo hi own (isort (keys S)) [] none (fun k hk => getRows_some (pm.mem_iff.mp hk)) (by have := pm.length_eq; simp at this ⊢; omega)
  have e4 : mkOw .lst [] = some (eInts .ow []) := rfl
  have e4' : D.nd .ow .lst [] = eInts .ow [] := rfl
  rw [List.nil_append] at e
  simp only [Xc_ok, Xc_ok0, nLoop1_ok, nLoop2_nx, nLoop2_ct, nLoop2_bk, nLoop2_rt, nLoop2_ex, nLO2_nx, nLO2_ct, nLO2_bk, nLO2_rt, nLO2_ex, hTup_sh, hTup_tm, hCons_ok, hNil_ok, gThen_e, nThen_nx, nThen_rt, nThen_bk, nThen_ct, nThen_ex, gIf_e, nIf_t, nIf_f, nIf_ex, gNil_e, gBk_e, gCt_e, gRetN_e, gSet_e, nSet_ok, nSet_ex, gSetF_e, nSetF_ok, nSetF_ex, gDrop_e, nDrop_ok, nDrop_ex, gRet_e, nRet_ok, nRet_ex, gAsg_e, nAsg_ok, lQ_e, nQ_ok, vQ_e, nVQ_ok, vN_e, nVN_ok, nVN_ow, vL_e, nVL_ok, nVL_ex, lF_e, nF_ok, frQ_e, nFQ_ok, lM_e, nM_ok, lMp_e, nMp_ok, aNil_e, aCons_e, nAC_ok, nAC_ex, nAC2_ok, nAC2_ex, lFn_e, nFn_ok, nFn_ex, nCall1_ok, nCall2_rt, nCall2_ex, lMeth_e, nMe_ok, nMe_ex, nMe2_ok, nMe2_ex, ltQ_e, nLtQ_ok, ltV_e, nLtV_ok, nLtV_ex, ltNot_e, nNot_ok, nNot_ex, ltAnd_e, nAnd_t, nAnd_f, nAnd_ex, ltOr_e, nOr_t, nOr_f, nOr_ex, qAnd_e, nQAnd_t, nQAnd_f, qOr_e, nQOr_t, nQOr_f, qNot_e, nQNot_ok, qB_e, qTru_e, nB_ok, asBl_e, q2_e, n2_ok, q1_e, n1_ok, q3_e, n3_ok, qV_e, qC_e, qN_e, nN_ok, qNil_e, qCons_e, nCons_ok, qSeq_e, frSeq_e, mkSeq_e, mkOw_e, frDK_e, frDT_e, qONone_e, qOSome_e, nO_ok, qSl_e, nSl_ok, qFn_e, nQF_ok, nQF2_ok, frFn_e, nFF_ok, nFF2_ok, frMk_e, nMk_ok, nMk2_ok, wLst_e, wTup_e, nW_ok, wEnum_e, wRg1_e, wRg2_e, nWs_ok, asLst_sh, asLst_tm, asTup_sh, asTup_tm, gFor_e, nFor_ok, gPut_e, nPut_ok, nPut_ex, nPut2_ok, gFput_e, nFput_ok, nFput_ex, nFput2_ok, lApp_e, nApp_ok, lAppE_e, nAppE_ok, plN_e, plF_e, plS_e, plSd_e, nSd_ok, gRaise_e, nRaise2_ok, gTryPair_e, nTryPair_ok, nTryPair_ex, nForO_ok, hd_non, hd_bl, hd_int, hd_str, hd_sh, hd_tm, hd_ow, noTm_non, noTm_bl, noTm_int, noTm_str, noTm_sh, noTm_ow, shr_non, shr_bl, shr_int, shr_str, shr_nd, tmr_non, tmr_bl, tmr_int, tmr_str, tmr_sh, tmr_tm, tmr_ow, all0_nil, all0_cons, dAdd_e, dSubt_e, dMul_e, dDiv_e, dMod_e, dPow_e, dLt_e, dLe_e, dGt_e, dGe_e, dEq_int, dNe_int, dEq_ints, dNe_ints, fnOf_e, nEnd_nx, nEnd_rt, nEnd_ex, nOuts_ok, outsOf_nil, outsOf_cons, gj_nil, gj_zero, gj_succ, gs_zero, gs_succ, argD_val, argD_slot, nArg_t, nArg_f, pget_nil, pget_cons, pput_nil, callF_e, gRaise2_e, gForO_e, setG_e, argD_nil, pput_cons, noTms_nil, tmrs_nil, tmrs_cons, noTms_cons, eq_self, Option.join_some, Option.join_none, List.map_cons, List.map_nil, List.cons_append, List.nil_append, List.append_nil, List.replicate_succ, List.replicate_zero, List.length_cons, List.length_nil, Option.map_some, Option.map_none, Option.bind_some, Option.bind_none, Nat.reduceAdd, Nat.reduceLT, Nat.reduceLeDiff, Nat.reduceEqDiff, Bool.not_true, Bool.not_false, Bool.and_true, Bool.true_and, Bool.and_self, reduceIte, if_true, if_false, slots_nil, slots_val, slots_slot, clr, back, List.getElem?_cons_zero, List.getElem?_cons_succ, List.nodup_cons, List.not_mem_nil, not_false_eq_true, List.nodup_nil, and_self, Nat.zero_add, Bool.false_eq_true, List.mem_cons, List.mem_singleton, true_or, or_true, or_false, false_or, Nat.add_one_sub_one, e4, e4', e1, e2, e3, e, eInts_ow]
  rfl
def putS : Shelf → Int → Row → Shelf
  | [], x, r => [(x, [r])]
  | p :: S, x, r => if p.1 = x then (p.1, p.2 ++ [r]) :: S else p :: putS S x r
theorem eHolds_noTm (S : Shelf) : (eHolds .ow S).noTm = true := by
  have h : ∀ l : List (List Row), D.noTms (l.map (eRows .ow)) = true := fun l => by
    rw [noTms_all, List.all_map, List.all_eq_true]
    intro rs _
    show (eRows .ow rs).noTm = true
    unfold eRows; rw [noTm_ow, noTms_rows]
  unfold eHolds
  have : (S.map fun p => eRows .ow p.2) = (S.map fun p => p.2).map (eRows .ow) := by simp
  rw [noTm_ow, noTms_cons, noTm_ow, this, h]; rfl
theorem eHolds_tmr (S : Shelf) : (eHolds .ow S).tmr = eHolds .tm S := by
  have h : ∀ rs : List Row, (eRows .ow rs).tmr = eRows .tm rs := fun rs => by unfold eRows; rw [tmr_ow, tmrs_rows]
  unfold eHolds
  rw [tmr_ow, tmrs_cons, tmr_ow, tmrs_nil, tmrs_map, List.map_map]
  simp [Function.comp_def, h]
theorem kix_putS : ∀ (S : Shelf) (x : Int) (r : Row), (∀ p ∈ S, p.2.length < 1000) → match kix (S.map fun p => (Sum.inl p.1 : Key)) (Sum.inl x : Key) with
    | some j => ∃ rs, (S.map fun p => eRows .ow p.2)[j]? = some (eRows .ow rs) ∧ rs.length < 1000 ∧ (putS S x r).map (fun p => (Sum.inl p.1 : Key)) = S.map (fun p => (Sum.inl p.1 : Key)) ∧ (putS S x r).map (fun p => eRows .ow p.2) = (S.map fun p => eRows .ow p.2).set j (eRows .ow (rs ++ [r]))
    | none => putS S x r = S ++ [(x, [r])] := by
  intro S
  induction S with
  | nil => intro x r _; rfl
  | cons p S ih =>
    intro x r h
    by_cases hx : p.1 = x
    · have e : kix ((p :: S).map fun p => (Sum.inl p.1 : Key)) (Sum.inl x : Key) = some 0 := by simp [kix, hx]
      rw [e]
      refine ⟨p.2, rfl, h p List.mem_cons_self, ?_, ?_⟩ <;> simp [putS, hx]
    · have ih' := ih x r (fun q hq => h q (List.mem_cons_of_mem _ hq))
      have e : kix ((p :: S).map fun p => (Sum.inl p.1 : Key)) (Sum.inl x : Key) = (kix (S.map fun p => (Sum.inl p.1 : Key)) (Sum.inl x : Key)).map (· + 1) := by
        rw [List.map_cons, kix, if_neg (fun z => hx (Sum.inl.inj z))]
      rw [e]
      cases hk : kix (S.map fun p => (Sum.inl p.1 : Key)) (Sum.inl x : Key) with
      | none =>
        rw [hk] at ih'
        simp only at ih'
        simp [putS, hx, ih']
      | some j =>
        rw [hk] at ih'
        obtain ⟨rs, h1, h2, h3, h4⟩ := ih'
        refine ⟨rs, by simpa using h1, h2, ?_, ?_⟩
        · simp [putS, hx]; simpa using h3
        · simp [putS, hx]; simpa using h4
theorem e_put (S : Shelf) (hS : S.length < 64) (hr : ∀ p ∈ S, p.2.length < 1000) (x lo hi : Int) (own : Bool) (o5 : Option D) :
    lAppE 0 (plSd 0 (plF 0 ["Holds"] "lists" (plN 0)) (qV 1)) (frQ (qSeq .tup (qCons (qV 2) (qCons (qV 3) (qCons (qV 4) (qNil)))))) [some (eHolds .ow S), some (.int x), some (.int lo), some (.int hi), some (.bl own), o5]
      = some (.ok .non [some (eHolds .ow (putS S x ⟨lo, hi, own⟩)), some (.int x), some (.int lo), some (.int hi), some (.bl own), o5]) := by
  have ek : kix [("lists" : Str)] ("lists" : Str) = some 0 := rfl
  have em : ("Holds" : Str) ∈ [("Holds" : Str)] := List.mem_singleton.mpr rfl
  have hl : (S.map fun p => (Sum.inl p.1 : Key)).length < 100000 := by simp; omega
  have e1 : nPF [some (eHolds .ow S), some (.int x), some (.int lo), some (.int hi), some (.bl own), o5] 0 ["Holds"] "lists" (some []) = some [0] := by
    simp [nPF, atP, eHolds, pget, ek]
  have kk := kix_putS S x ⟨lo, hi, own⟩ hr
  cases hk : kix (S.map fun p => (Sum.inl p.1 : Key)) (Sum.inl x : Key) with
  | some j =>
    rw [hk] at kk
    obtain ⟨rs, h1, h2, h3, h4⟩ := kk
    have e2 : nSd2 0 [some (eHolds .ow S), some (.int x), some (.int lo), some (.int hi), some (.bl own), o5] [0] (.int x) (some (eHolds .ow S)) = some ([0, j], [some (eHolds .ow S), some (.int x), some (.int lo), some (.int hi), some (.bl own), o5]) := by
      simp only [nSd2, eHolds, pget, List.getElem?_cons_zero, Option.bind_some, D.key, hk]
      rw [if_pos hl]
      rfl
    have e3 : appAt [some (eHolds .ow S), some (.int x), some (.int lo), some (.int hi), some (.bl own), o5] 0 [0, j] (.nd .sh .tup [.int lo, .int hi, .bl own]) = some [some (eHolds .ow (putS S x ⟨lo, hi, own⟩)), some (.int x), some (.int lo), some (.int hi), some (.bl own), o5] := by
      simp only [appAt, eHolds, pget, List.getElem?_cons_zero, Option.join_some, Option.bind_some, h1]
      simp only [eRows, pget, pput, List.getElem?_cons_zero, List.length_map]
      rw [if_pos (by omega)]
      simp only [gs_zero]
      rw [show (S.map fun p => D.nd .ow .lst (p.2.map Row.d)) = S.map fun p => eRows .ow p.2 from rfl, h1]
      simp only [gs_zero]
      have : (S.map fun p => eRows .ow p.2).set j (D.nd .ow .lst (rs.map Row.d ++ [D.nd .sh .tup [.int lo, .int hi, .bl own]])) = (putS S x ⟨lo, hi, own⟩).map fun p => eRows .ow p.2 := by
        rw [h4]; unfold eRows; simp [Row.d]
      rw [this, h3]
      rfl
    simp only [Xc_ok, Xc_ok0, nLoop1_ok, nLoop2_nx, nLoop2_ct, nLoop2_bk, nLoop2_rt, nLoop2_ex, nLO2_nx, nLO2_ct, nLO2_bk, nLO2_rt, nLO2_ex, hTup_sh, hTup_tm, hCons_ok, hNil_ok, gThen_e, nThen_nx, nThen_rt, nThen_bk, nThen_ct, nThen_ex, gIf_e, nIf_t, nIf_f, nIf_ex, gNil_e, gBk_e, gCt_e, gRetN_e, gSet_e, nSet_ok, nSet_ex, gSetF_e, nSetF_ok, nSetF_ex, gDrop_e, nDrop_ok, nDrop_ex, gRet_e, nRet_ok, nRet_ex, gAsg_e, nAsg_ok, lQ_e, nQ_ok, vQ_e, nVQ_ok, vN_e, nVN_ok, nVN_ow, vL_e, nVL_ok, nVL_ex, lF_e, nF_ok, frQ_e, nFQ_ok, lM_e, nM_ok, lMp_e, nMp_ok, aNil_e, aCons_e, nAC_ok, nAC_ex, nAC2_ok, nAC2_ex, lFn_e, nFn_ok, nFn_ex, nCall1_ok, nCall2_rt, nCall2_ex, lMeth_e, nMe_ok, nMe_ex, nMe2_ok, nMe2_ex, ltQ_e, nLtQ_ok, ltV_e, nLtV_ok, nLtV_ex, ltNot_e, nNot_ok, nNot_ex, ltAnd_e, nAnd_t, nAnd_f, nAnd_ex, ltOr_e, nOr_t, nOr_f, nOr_ex, qAnd_e, nQAnd_t, nQAnd_f, qOr_e, nQOr_t, nQOr_f, qNot_e, nQNot_ok, qB_e, qTru_e, nB_ok, asBl_e, q2_e, n2_ok, q1_e, n1_ok, q3_e, n3_ok, qV_e, qC_e, qN_e, nN_ok, qNil_e, qCons_e, nCons_ok, qSeq_e, frSeq_e, mkSeq_e, mkOw_e, frDK_e, frDT_e, qONone_e, qOSome_e, nO_ok, qSl_e, nSl_ok, qFn_e, nQF_ok, nQF2_ok, frFn_e, nFF_ok, nFF2_ok, frMk_e, nMk_ok, nMk2_ok, wLst_e, wTup_e, nW_ok, wEnum_e, wRg1_e, wRg2_e, nWs_ok, asLst_sh, asLst_tm, asTup_sh, asTup_tm, gFor_e, nFor_ok, gPut_e, nPut_ok, nPut_ex, nPut2_ok, gFput_e, nFput_ok, nFput_ex, nFput2_ok, lApp_e, nApp_ok, lAppE_e, nAppE_ok, plN_e, plF_e, plS_e, plSd_e, nSd_ok, gRaise_e, nRaise2_ok, gTryPair_e, nTryPair_ok, nTryPair_ex, nForO_ok, hd_non, hd_bl, hd_int, hd_str, hd_sh, hd_tm, hd_ow, noTm_non, noTm_bl, noTm_int, noTm_str, noTm_sh, noTm_ow, shr_non, shr_bl, shr_int, shr_str, shr_nd, tmr_non, tmr_bl, tmr_int, tmr_str, tmr_sh, tmr_tm, tmr_ow, all0_nil, all0_cons, dAdd_e, dSubt_e, dMul_e, dDiv_e, dMod_e, dPow_e, dLt_e, dLe_e, dGt_e, dGe_e, dEq_int, dNe_int, dEq_ints, dNe_ints, fnOf_e, nEnd_nx, nEnd_rt, nEnd_ex, nOuts_ok, outsOf_nil, outsOf_cons, gj_nil, gj_zero, gj_succ, gs_zero, gs_succ, argD_val, argD_slot, nArg_t, nArg_f, pget_nil, pget_cons, pput_nil, callF_e, gRaise2_e, gForO_e, setG_e, argD_nil, pput_cons, noTms_nil, tmrs_nil, tmrs_cons, noTms_cons, eq_self, Option.join_some, Option.join_none, List.map_cons, List.map_nil, List.cons_append, List.nil_append, List.append_nil, List.replicate_succ, List.replicate_zero, List.length_cons, List.length_nil, Option.map_some, Option.map_none, Option.bind_some, Option.bind_none, Nat.reduceAdd, Nat.reduceLT, Nat.reduceLeDiff, Nat.reduceEqDiff, Bool.not_true, Bool.not_false, Bool.and_true, Bool.true_and, Bool.and_self, reduceIte, if_true, if_false, slots_nil, slots_val, slots_slot, clr, back, List.getElem?_cons_zero, List.getElem?_cons_succ, List.nodup_cons, List.not_mem_nil, not_false_eq_true, List.nodup_nil, and_self, Nat.zero_add, Bool.false_eq_true, List.mem_cons, List.mem_singleton, true_or, or_true, or_false, false_or, Nat.add_one_sub_one, e1, e2, e3]
  | none =>
    rw [hk] at kk
    simp only at kk
    have kp : kput (S.map fun p => (Sum.inl p.1 : Key)) (Sum.inl x) = (S.map fun p => (Sum.inl p.1 : Key)) ++ [Sum.inl x] := by unfold kput; rw [hk]
    have vp : vput (S.map fun p => (Sum.inl p.1 : Key)) (S.map fun p => eRows .ow p.2) (Sum.inl x) (.nd .ow .lst []) = (S.map fun p => eRows .ow p.2) ++ [.nd .ow .lst []] := by unfold vput; rw [hk]
    have e2 : nSd2 0 [some (eHolds .ow S), some (.int x), some (.int lo), some (.int hi), some (.bl own), o5] [0] (.int x) (some (eHolds .ow S)) = some ([0, S.length], [some (eHolds .ow (S ++ [(x, [])])), some (.int x), some (.int lo), some (.int hi), some (.bl own), o5]) := by
      simp only [nSd2, eHolds, pget, List.getElem?_cons_zero, Option.bind_some, D.key, hk, kp, vp, pput, gs_zero]
      rw [if_pos hl]
      simp [eRows]
    have e3 : appAt [some (eHolds .ow (S ++ [(x, [])])), some (.int x), some (.int lo), some (.int hi), some (.bl own), o5] 0 [0, S.length] (.nd .sh .tup [.int lo, .int hi, .bl own]) = some [some (eHolds .ow (putS S x ⟨lo, hi, own⟩)), some (.int x), some (.int lo), some (.int hi), some (.bl own), o5] := by
      have h1 : (List.map (fun p : Int × List Row => eRows .ow p.2) (S ++ [(x, [])]))[S.length]? = some (eRows .ow []) := by simp
      simp only [appAt, eHolds, pget, List.getElem?_cons_zero, Option.join_some, Option.bind_some, h1]
      simp only [eRows, pget, pput, List.getElem?_cons_zero, List.length_map]
      rw [if_pos (by simp)]
      simp only [gs_zero]
      rw [show (List.map (fun p : Int × List Row => D.nd .ow .lst (p.2.map Row.d)) (S ++ [(x, [])])) = List.map (fun p : Int × List Row => eRows .ow p.2) (S ++ [(x, [])]) from rfl, h1]
      simp only [gs_zero]
      rw [kk]
      simp [eRows, Row.d]
    simp only [Xc_ok, Xc_ok0, nLoop1_ok, nLoop2_nx, nLoop2_ct, nLoop2_bk, nLoop2_rt, nLoop2_ex, nLO2_nx, nLO2_ct, nLO2_bk, nLO2_rt, nLO2_ex, hTup_sh, hTup_tm, hCons_ok, hNil_ok, gThen_e, nThen_nx, nThen_rt, nThen_bk, nThen_ct, nThen_ex, gIf_e, nIf_t, nIf_f, nIf_ex, gNil_e, gBk_e, gCt_e, gRetN_e, gSet_e, nSet_ok, nSet_ex, gSetF_e, nSetF_ok, nSetF_ex, gDrop_e, nDrop_ok, nDrop_ex, gRet_e, nRet_ok, nRet_ex, gAsg_e, nAsg_ok, lQ_e, nQ_ok, vQ_e, nVQ_ok, vN_e, nVN_ok, nVN_ow, vL_e, nVL_ok, nVL_ex, lF_e, nF_ok, frQ_e, nFQ_ok, lM_e, nM_ok, lMp_e, nMp_ok, aNil_e, aCons_e, nAC_ok, nAC_ex, nAC2_ok, nAC2_ex, lFn_e, nFn_ok, nFn_ex, nCall1_ok, nCall2_rt, nCall2_ex, lMeth_e, nMe_ok, nMe_ex, nMe2_ok, nMe2_ex, ltQ_e, nLtQ_ok, ltV_e, nLtV_ok, nLtV_ex, ltNot_e, nNot_ok, nNot_ex, ltAnd_e, nAnd_t, nAnd_f, nAnd_ex, ltOr_e, nOr_t, nOr_f, nOr_ex, qAnd_e, nQAnd_t, nQAnd_f, qOr_e, nQOr_t, nQOr_f, qNot_e, nQNot_ok, qB_e, qTru_e, nB_ok, asBl_e, q2_e, n2_ok, q1_e, n1_ok, q3_e, n3_ok, qV_e, qC_e, qN_e, nN_ok, qNil_e, qCons_e, nCons_ok, qSeq_e, frSeq_e, mkSeq_e, mkOw_e, frDK_e, frDT_e, qONone_e, qOSome_e, nO_ok, qSl_e, nSl_ok, qFn_e, nQF_ok, nQF2_ok, frFn_e, nFF_ok, nFF2_ok, frMk_e, nMk_ok, nMk2_ok, wLst_e, wTup_e, nW_ok, wEnum_e, wRg1_e, wRg2_e, nWs_ok, asLst_sh, asLst_tm, asTup_sh, asTup_tm, gFor_e, nFor_ok, gPut_e, nPut_ok, nPut_ex, nPut2_ok, gFput_e, nFput_ok, nFput_ex, nFput2_ok, lApp_e, nApp_ok, lAppE_e, nAppE_ok, plN_e, plF_e, plS_e, plSd_e, nSd_ok, gRaise_e, nRaise2_ok, gTryPair_e, nTryPair_ok, nTryPair_ex, nForO_ok, hd_non, hd_bl, hd_int, hd_str, hd_sh, hd_tm, hd_ow, noTm_non, noTm_bl, noTm_int, noTm_str, noTm_sh, noTm_ow, shr_non, shr_bl, shr_int, shr_str, shr_nd, tmr_non, tmr_bl, tmr_int, tmr_str, tmr_sh, tmr_tm, tmr_ow, all0_nil, all0_cons, dAdd_e, dSubt_e, dMul_e, dDiv_e, dMod_e, dPow_e, dLt_e, dLe_e, dGt_e, dGe_e, dEq_int, dNe_int, dEq_ints, dNe_ints, fnOf_e, nEnd_nx, nEnd_rt, nEnd_ex, nOuts_ok, outsOf_nil, outsOf_cons, gj_nil, gj_zero, gj_succ, gs_zero, gs_succ, argD_val, argD_slot, nArg_t, nArg_f, pget_nil, pget_cons, pput_nil, callF_e, gRaise2_e, gForO_e, setG_e, argD_nil, pput_cons, noTms_nil, tmrs_nil, tmrs_cons, noTms_cons, eq_self, Option.join_some, Option.join_none, List.map_cons, List.map_nil, List.cons_append, List.nil_append, List.append_nil, List.replicate_succ, List.replicate_zero, List.length_cons, List.length_nil, Option.map_some, Option.map_none, Option.bind_some, Option.bind_none, Nat.reduceAdd, Nat.reduceLT, Nat.reduceLeDiff, Nat.reduceEqDiff, Bool.not_true, Bool.not_false, Bool.and_true, Bool.true_and, Bool.and_self, reduceIte, if_true, if_false, slots_nil, slots_val, slots_slot, clr, back, List.getElem?_cons_zero, List.getElem?_cons_succ, List.nodup_cons, List.not_mem_nil, not_false_eq_true, List.nodup_nil, and_self, Nat.zero_add, Bool.false_eq_true, List.mem_cons, List.mem_singleton, true_or, or_true, or_false, false_or, Nat.add_one_sub_one, e1, e2, e3]

theorem dNe_nil {f : Fg} {xs : List Int} : dNe (eInts f xs) (.nd .sh .lst []) = some (.bl (!decide (xs = []))) := dNe_ints (ys := [])
theorem dEq_nil {f : Fg} {xs : List Int} : dEq (eInts f xs) (.nd .sh .lst []) = some (.bl (decide (xs = []))) := dEq_ints (ys := [])
theorem e_take (S : Shelf) (hS : S.length < 64) (hr : ∀ p ∈ S, p.2.length < 1000) (x lo hi : Int) (own : Bool) : fn_Holds_take [eHolds .ow S, .int x, .int lo, .int hi, .bl own] =
    if agS S x lo hi own = [] then some (.ret .non [eHolds .ow (putS S x ⟨lo, hi, own⟩)]) else some (.exc ⟨"Waits", some (["others", "dealing"], [eInts .ow (agS S x lo hi own), .int x])⟩ [eHolds .ow S]) := by
  unfold fn_Holds_take g_Holds_take
  have a1 : ∀ {Γ : Gm}, avInsOf (some (eHolds .ow S) :: Γ) "Holds" "against" (.slot 0) = true := fun {Γ} => by rw [avIns_slot (Γ := some (eHolds .ow S) :: Γ) (f := .ow) (ns := ["lists"]) (ds := [.nd .ow (.dic (S.map fun p => Sum.inl p.1)) (S.map fun p => eRows .ow p.2)]) rfl]; decide
  have a2 : (eHolds .ow S).hd = true := id rfl
  have a3 := e_against S hS x lo hi own
  have e4 := e_put S hS hr x lo hi own
  by_cases h : agS S x lo hi own = []
  · have e5 : mkSeq .lst [] = some (.nd .sh .lst []) := rfl
    rw [if_pos h]
    simp only [Xc_ok, Xc_ok0, nLoop1_ok, nLoop2_nx, nLoop2_ct, nLoop2_bk, nLoop2_rt, nLoop2_ex, nLO2_nx, nLO2_ct, nLO2_bk, nLO2_rt, nLO2_ex, hTup_sh, hTup_tm, hCons_ok, hNil_ok, gThen_e, nThen_nx, nThen_rt, nThen_bk, nThen_ct, nThen_ex, gIf_e, nIf_t, nIf_f, nIf_ex, gNil_e, gBk_e, gCt_e, gRetN_e, gSet_e, nSet_ok, nSet_ex, gSetF_e, nSetF_ok, nSetF_ex, gDrop_e, nDrop_ok, nDrop_ex, gRet_e, nRet_ok, nRet_ex, gAsg_e, nAsg_ok, lQ_e, nQ_ok, vQ_e, nVQ_ok, vN_e, nVN_ok, nVN_ow, vL_e, nVL_ok, nVL_ex, lF_e, nF_ok, frQ_e, nFQ_ok, lM_e, nM_ok, lMp_e, nMp_ok, aNil_e, aCons_e, nAC_ok, nAC_ex, nAC2_ok, nAC2_ex, lFn_e, nFn_ok, nFn_ex, nCall1_ok, nCall2_rt, nCall2_ex, lMeth_e, nMe_ok, nMe_ex, nMe2_ok, nMe2_ex, ltQ_e, nLtQ_ok, ltV_e, nLtV_ok, nLtV_ex, ltNot_e, nNot_ok, nNot_ex, ltAnd_e, nAnd_t, nAnd_f, nAnd_ex, ltOr_e, nOr_t, nOr_f, nOr_ex, qAnd_e, nQAnd_t, nQAnd_f, qOr_e, nQOr_t, nQOr_f, qNot_e, nQNot_ok, qB_e, qTru_e, nB_ok, asBl_e, q2_e, n2_ok, q1_e, n1_ok, q3_e, n3_ok, qV_e, qC_e, qN_e, nN_ok, qNil_e, qCons_e, nCons_ok, qSeq_e, frSeq_e, mkSeq_e, mkOw_e, frDK_e, frDT_e, qONone_e, qOSome_e, nO_ok, qSl_e, nSl_ok, qFn_e, nQF_ok, nQF2_ok, frFn_e, nFF_ok, nFF2_ok, frMk_e, nMk_ok, nMk2_ok, wLst_e, wTup_e, nW_ok, wEnum_e, wRg1_e, wRg2_e, nWs_ok, asLst_sh, asLst_tm, asTup_sh, asTup_tm, gFor_e, nFor_ok, gPut_e, nPut_ok, nPut_ex, nPut2_ok, gFput_e, nFput_ok, nFput_ex, nFput2_ok, lApp_e, nApp_ok, lAppE_e, nAppE_ok, plN_e, plF_e, plS_e, plSd_e, nSd_ok, gRaise_e, nRaise2_ok, gTryPair_e, nTryPair_ok, nTryPair_ex, nForO_ok, hd_non, hd_bl, hd_int, hd_str, hd_sh, hd_tm, hd_ow, noTm_non, noTm_bl, noTm_int, noTm_str, noTm_sh, noTm_ow, shr_non, shr_bl, shr_int, shr_str, shr_nd, tmr_non, tmr_bl, tmr_int, tmr_str, tmr_sh, tmr_tm, tmr_ow, all0_nil, all0_cons, dAdd_e, dSubt_e, dMul_e, dDiv_e, dMod_e, dPow_e, dLt_e, dLe_e, dGt_e, dGe_e, dEq_int, dNe_int, dEq_ints, dNe_ints, fnOf_e, nEnd_nx, nEnd_rt, nEnd_ex, nOuts_ok, outsOf_nil, outsOf_cons, gj_nil, gj_zero, gj_succ, gs_zero, gs_succ, argD_val, argD_slot, nArg_t, nArg_f, pget_nil, pget_cons, pput_nil, callF_e, gRaise2_e, gForO_e, setG_e, argD_nil, pput_cons, noTms_nil, tmrs_nil, tmrs_cons, noTms_cons, eq_self, Option.join_some, Option.join_none, List.map_cons, List.map_nil, List.cons_append, List.nil_append, List.append_nil, List.replicate_succ, List.replicate_zero, List.length_cons, List.length_nil, Option.map_some, Option.map_none, Option.bind_some, Option.bind_none, Nat.reduceAdd, Nat.reduceLT, Nat.reduceLeDiff, Nat.reduceEqDiff, Bool.not_true, Bool.not_false, Bool.and_true, Bool.true_and, Bool.and_self, reduceIte, if_true, if_false, slots_nil, slots_val, slots_slot, clr, back, List.getElem?_cons_zero, List.getElem?_cons_succ, List.nodup_cons, List.not_mem_nil, not_false_eq_true, List.nodup_nil, and_self, Nat.zero_add, Bool.false_eq_true, List.mem_cons, List.mem_singleton, true_or, or_true, or_false, false_or, Nat.add_one_sub_one, a1, a2, a3, eHolds_tmr, eInts_ow, e5, dNe_nil, h, decide_true, ↓e4]
  · have e5 : mkSeq .lst [] = some (.nd .sh .lst []) := rfl
    rw [if_neg h]
    simp only [Xc_ok, Xc_ok0, nLoop1_ok, nLoop2_nx, nLoop2_ct, nLoop2_bk, nLoop2_rt, nLoop2_ex, nLO2_nx, nLO2_ct, nLO2_bk, nLO2_rt, nLO2_ex, hTup_sh, hTup_tm, hCons_ok, hNil_ok, gThen_e, nThen_nx, nThen_rt, nThen_bk, nThen_ct, nThen_ex, gIf_e, nIf_t, nIf_f, nIf_ex, gNil_e, gBk_e, gCt_e, gRetN_e, gSet_e, nSet_ok, nSet_ex, gSetF_e, nSetF_ok, nSetF_ex, gDrop_e, nDrop_ok, nDrop_ex, gRet_e, nRet_ok, nRet_ex, gAsg_e, nAsg_ok, lQ_e, nQ_ok, vQ_e, nVQ_ok, vN_e, nVN_ok, nVN_ow, vL_e, nVL_ok, nVL_ex, lF_e, nF_ok, frQ_e, nFQ_ok, lM_e, nM_ok, lMp_e, nMp_ok, aNil_e, aCons_e, nAC_ok, nAC_ex, nAC2_ok, nAC2_ex, lFn_e, nFn_ok, nFn_ex, nCall1_ok, nCall2_rt, nCall2_ex, lMeth_e, nMe_ok, nMe_ex, nMe2_ok, nMe2_ex, ltQ_e, nLtQ_ok, ltV_e, nLtV_ok, nLtV_ex, ltNot_e, nNot_ok, nNot_ex, ltAnd_e, nAnd_t, nAnd_f, nAnd_ex, ltOr_e, nOr_t, nOr_f, nOr_ex, qAnd_e, nQAnd_t, nQAnd_f, qOr_e, nQOr_t, nQOr_f, qNot_e, nQNot_ok, qB_e, qTru_e, nB_ok, asBl_e, q2_e, n2_ok, q1_e, n1_ok, q3_e, n3_ok, qV_e, qC_e, qN_e, nN_ok, qNil_e, qCons_e, nCons_ok, qSeq_e, frSeq_e, mkSeq_e, mkOw_e, frDK_e, frDT_e, qONone_e, qOSome_e, nO_ok, qSl_e, nSl_ok, qFn_e, nQF_ok, nQF2_ok, frFn_e, nFF_ok, nFF2_ok, frMk_e, nMk_ok, nMk2_ok, wLst_e, wTup_e, nW_ok, wEnum_e, wRg1_e, wRg2_e, nWs_ok, asLst_sh, asLst_tm, asTup_sh, asTup_tm, gFor_e, nFor_ok, gPut_e, nPut_ok, nPut_ex, nPut2_ok, gFput_e, nFput_ok, nFput_ex, nFput2_ok, lApp_e, nApp_ok, lAppE_e, nAppE_ok, plN_e, plF_e, plS_e, plSd_e, nSd_ok, gRaise_e, nRaise2_ok, gTryPair_e, nTryPair_ok, nTryPair_ex, nForO_ok, hd_non, hd_bl, hd_int, hd_str, hd_sh, hd_tm, hd_ow, noTm_non, noTm_bl, noTm_int, noTm_str, noTm_sh, noTm_ow, shr_non, shr_bl, shr_int, shr_str, shr_nd, tmr_non, tmr_bl, tmr_int, tmr_str, tmr_sh, tmr_tm, tmr_ow, all0_nil, all0_cons, dAdd_e, dSubt_e, dMul_e, dDiv_e, dMod_e, dPow_e, dLt_e, dLe_e, dGt_e, dGe_e, dEq_int, dNe_int, dEq_ints, dNe_ints, fnOf_e, nEnd_nx, nEnd_rt, nEnd_ex, nOuts_ok, outsOf_nil, outsOf_cons, gj_nil, gj_zero, gj_succ, gs_zero, gs_succ, argD_val, argD_slot, nArg_t, nArg_f, pget_nil, pget_cons, pput_nil, callF_e, gRaise2_e, gForO_e, setG_e, argD_nil, pput_cons, noTms_nil, tmrs_nil, tmrs_cons, noTms_cons, eq_self, Option.join_some, Option.join_none, List.map_cons, List.map_nil, List.cons_append, List.nil_append, List.append_nil, List.replicate_succ, List.replicate_zero, List.length_cons, List.length_nil, Option.map_some, Option.map_none, Option.bind_some, Option.bind_none, Nat.reduceAdd, Nat.reduceLT, Nat.reduceLeDiff, Nat.reduceEqDiff, Bool.not_true, Bool.not_false, Bool.and_true, Bool.true_and, Bool.and_self, reduceIte, if_true, if_false, slots_nil, slots_val, slots_slot, clr, back, List.getElem?_cons_zero, List.getElem?_cons_succ, List.nodup_cons, List.not_mem_nil, not_false_eq_true, List.nodup_nil, and_self, Nat.zero_add, Bool.false_eq_true, List.mem_cons, List.mem_singleton, true_or, or_true, or_false, false_or, Nat.add_one_sub_one, a1, a2, a3, eHolds_tmr, eInts_ow, e5, dNe_nil, h, decide_false]
theorem e_taken (S : Shelf) (hS : S.length < 64) (hr : ∀ p ∈ S, p.2.length < 1000) (x lo hi : Int) (own : Bool) : fn__law_taken [eHolds .ow S, .int x, .int lo, .int hi, .bl own] =
    if agS S x lo hi own = [] then some (.ret .non [eHolds .ow (putS S x ⟨lo, hi, own⟩)]) else some (.ret (.nd .ow .tup [.int x, eInts .ow (agS S x lo hi own)]) [eHolds .ow S]) := by
  unfold fn__law_taken g__law_taken
  have a1 : ∀ {Γ : Gm}, avInsOf (some (eHolds .ow S) :: Γ) "Holds" "take" (.slot 0) = true := fun {Γ} => by rw [avIns_slot (Γ := some (eHolds .ow S) :: Γ) (f := .ow) (ns := ["lists"]) (ds := [.nd .ow (.dic (S.map fun p => Sum.inl p.1)) (S.map fun p => eRows .ow p.2)]) rfl]; decide
  have a2 : (eHolds .ow S).hd = true := id rfl
  have a3 := e_take S hS hr x lo hi own
  have a4 := eHolds_noTm S
  have a5 := eHolds_noTm (putS S x ⟨lo, hi, own⟩)
  by_cases h : agS S x lo hi own = []
  · rw [if_pos h] at a3 ⊢
    simp only [Xc_ok, Xc_ok0, nLoop1_ok, nLoop2_nx, nLoop2_ct, nLoop2_bk, nLoop2_rt, nLoop2_ex, nLO2_nx, nLO2_ct, nLO2_bk, nLO2_rt, nLO2_ex, hTup_sh, hTup_tm, hCons_ok, hNil_ok, gThen_e, nThen_nx, nThen_rt, nThen_bk, nThen_ct, nThen_ex, gIf_e, nIf_t, nIf_f, nIf_ex, gNil_e, gBk_e, gCt_e, gRetN_e, gSet_e, nSet_ok, nSet_ex, gSetF_e, nSetF_ok, nSetF_ex, gDrop_e, nDrop_ok, nDrop_ex, gRet_e, nRet_ok, nRet_ex, gAsg_e, nAsg_ok, lQ_e, nQ_ok, vQ_e, nVQ_ok, vN_e, nVN_ok, nVN_ow, vL_e, nVL_ok, nVL_ex, lF_e, nF_ok, frQ_e, nFQ_ok, lM_e, nM_ok, lMp_e, nMp_ok, aNil_e, aCons_e, nAC_ok, nAC_ex, nAC2_ok, nAC2_ex, lFn_e, nFn_ok, nFn_ex, nCall1_ok, nCall2_rt, nCall2_ex, lMeth_e, nMe_ok, nMe_ex, nMe2_ok, nMe2_ex, ltQ_e, nLtQ_ok, ltV_e, nLtV_ok, nLtV_ex, ltNot_e, nNot_ok, nNot_ex, ltAnd_e, nAnd_t, nAnd_f, nAnd_ex, ltOr_e, nOr_t, nOr_f, nOr_ex, qAnd_e, nQAnd_t, nQAnd_f, qOr_e, nQOr_t, nQOr_f, qNot_e, nQNot_ok, qB_e, qTru_e, nB_ok, asBl_e, q2_e, n2_ok, q1_e, n1_ok, q3_e, n3_ok, qV_e, qC_e, qN_e, nN_ok, qNil_e, qCons_e, nCons_ok, qSeq_e, frSeq_e, mkSeq_e, mkOw_e, frDK_e, frDT_e, qONone_e, qOSome_e, nO_ok, qSl_e, nSl_ok, qFn_e, nQF_ok, nQF2_ok, frFn_e, nFF_ok, nFF2_ok, frMk_e, nMk_ok, nMk2_ok, wLst_e, wTup_e, nW_ok, wEnum_e, wRg1_e, wRg2_e, nWs_ok, asLst_sh, asLst_tm, asTup_sh, asTup_tm, gFor_e, nFor_ok, gPut_e, nPut_ok, nPut_ex, nPut2_ok, gFput_e, nFput_ok, nFput_ex, nFput2_ok, lApp_e, nApp_ok, lAppE_e, nAppE_ok, plN_e, plF_e, plS_e, plSd_e, nSd_ok, gRaise_e, nRaise2_ok, gTryPair_e, nTryPair_ok, nTryPair_ex, nForO_ok, hd_non, hd_bl, hd_int, hd_str, hd_sh, hd_tm, hd_ow, noTm_non, noTm_bl, noTm_int, noTm_str, noTm_sh, noTm_ow, shr_non, shr_bl, shr_int, shr_str, shr_nd, tmr_non, tmr_bl, tmr_int, tmr_str, tmr_sh, tmr_tm, tmr_ow, all0_nil, all0_cons, dAdd_e, dSubt_e, dMul_e, dDiv_e, dMod_e, dPow_e, dLt_e, dLe_e, dGt_e, dGe_e, dEq_int, dNe_int, dEq_ints, dNe_ints, fnOf_e, nEnd_nx, nEnd_rt, nEnd_ex, nOuts_ok, outsOf_nil, outsOf_cons, gj_nil, gj_zero, gj_succ, gs_zero, gs_succ, argD_val, argD_slot, nArg_t, nArg_f, pget_nil, pget_cons, pput_nil, callF_e, gRaise2_e, gForO_e, setG_e, argD_nil, pput_cons, noTms_nil, tmrs_nil, tmrs_cons, noTms_cons, eq_self, Option.join_some, Option.join_none, List.map_cons, List.map_nil, List.cons_append, List.nil_append, List.append_nil, List.replicate_succ, List.replicate_zero, List.length_cons, List.length_nil, Option.map_some, Option.map_none, Option.bind_some, Option.bind_none, Nat.reduceAdd, Nat.reduceLT, Nat.reduceLeDiff, Nat.reduceEqDiff, Bool.not_true, Bool.not_false, Bool.and_true, Bool.true_and, Bool.and_self, reduceIte, if_true, if_false, slots_nil, slots_val, slots_slot, clr, back, List.getElem?_cons_zero, List.getElem?_cons_succ, List.nodup_cons, List.not_mem_nil, not_false_eq_true, List.nodup_nil, and_self, Nat.zero_add, Bool.false_eq_true, List.mem_cons, List.mem_singleton, true_or, or_true, or_false, false_or, Nat.add_one_sub_one, a1, a2, a3, a4, a5]
  · rw [if_neg h] at a3 ⊢
    simp only [Xc_ok, Xc_ok0, nLoop1_ok, nLoop2_nx, nLoop2_ct, nLoop2_bk, nLoop2_rt, nLoop2_ex, nLO2_nx, nLO2_ct, nLO2_bk, nLO2_rt, nLO2_ex, hTup_sh, hTup_tm, hCons_ok, hNil_ok, gThen_e, nThen_nx, nThen_rt, nThen_bk, nThen_ct, nThen_ex, gIf_e, nIf_t, nIf_f, nIf_ex, gNil_e, gBk_e, gCt_e, gRetN_e, gSet_e, nSet_ok, nSet_ex, gSetF_e, nSetF_ok, nSetF_ex, gDrop_e, nDrop_ok, nDrop_ex, gRet_e, nRet_ok, nRet_ex, gAsg_e, nAsg_ok, lQ_e, nQ_ok, vQ_e, nVQ_ok, vN_e, nVN_ok, nVN_ow, vL_e, nVL_ok, nVL_ex, lF_e, nF_ok, frQ_e, nFQ_ok, lM_e, nM_ok, lMp_e, nMp_ok, aNil_e, aCons_e, nAC_ok, nAC_ex, nAC2_ok, nAC2_ex, lFn_e, nFn_ok, nFn_ex, nCall1_ok, nCall2_rt, nCall2_ex, lMeth_e, nMe_ok, nMe_ex, nMe2_ok, nMe2_ex, ltQ_e, nLtQ_ok, ltV_e, nLtV_ok, nLtV_ex, ltNot_e, nNot_ok, nNot_ex, ltAnd_e, nAnd_t, nAnd_f, nAnd_ex, ltOr_e, nOr_t, nOr_f, nOr_ex, qAnd_e, nQAnd_t, nQAnd_f, qOr_e, nQOr_t, nQOr_f, qNot_e, nQNot_ok, qB_e, qTru_e, nB_ok, asBl_e, q2_e, n2_ok, q1_e, n1_ok, q3_e, n3_ok, qV_e, qC_e, qN_e, nN_ok, qNil_e, qCons_e, nCons_ok, qSeq_e, frSeq_e, mkSeq_e, mkOw_e, frDK_e, frDT_e, qONone_e, qOSome_e, nO_ok, qSl_e, nSl_ok, qFn_e, nQF_ok, nQF2_ok, frFn_e, nFF_ok, nFF2_ok, frMk_e, nMk_ok, nMk2_ok, wLst_e, wTup_e, nW_ok, wEnum_e, wRg1_e, wRg2_e, nWs_ok, asLst_sh, asLst_tm, asTup_sh, asTup_tm, gFor_e, nFor_ok, gPut_e, nPut_ok, nPut_ex, nPut2_ok, gFput_e, nFput_ok, nFput_ex, nFput2_ok, lApp_e, nApp_ok, lAppE_e, nAppE_ok, plN_e, plF_e, plS_e, plSd_e, nSd_ok, gRaise_e, nRaise2_ok, gTryPair_e, nTryPair_ok, nTryPair_ex, nForO_ok, hd_non, hd_bl, hd_int, hd_str, hd_sh, hd_tm, hd_ow, noTm_non, noTm_bl, noTm_int, noTm_str, noTm_sh, noTm_ow, shr_non, shr_bl, shr_int, shr_str, shr_nd, tmr_non, tmr_bl, tmr_int, tmr_str, tmr_sh, tmr_tm, tmr_ow, all0_nil, all0_cons, dAdd_e, dSubt_e, dMul_e, dDiv_e, dMod_e, dPow_e, dLt_e, dLe_e, dGt_e, dGe_e, dEq_int, dNe_int, dEq_ints, dNe_ints, fnOf_e, nEnd_nx, nEnd_rt, nEnd_ex, nOuts_ok, outsOf_nil, outsOf_cons, gj_nil, gj_zero, gj_succ, gs_zero, gs_succ, argD_val, argD_slot, nArg_t, nArg_f, pget_nil, pget_cons, pput_nil, callF_e, gRaise2_e, gForO_e, setG_e, argD_nil, pput_cons, noTms_nil, tmrs_nil, tmrs_cons, noTms_cons, eq_self, Option.join_some, Option.join_none, List.map_cons, List.map_nil, List.cons_append, List.nil_append, List.append_nil, List.replicate_succ, List.replicate_zero, List.length_cons, List.length_nil, Option.map_some, Option.map_none, Option.bind_some, Option.bind_none, Nat.reduceAdd, Nat.reduceLT, Nat.reduceLeDiff, Nat.reduceEqDiff, Bool.not_true, Bool.not_false, Bool.and_true, Bool.true_and, Bool.and_self, reduceIte, if_true, if_false, slots_nil, slots_val, slots_slot, clr, back, List.getElem?_cons_zero, List.getElem?_cons_succ, List.nodup_cons, List.not_mem_nil, not_false_eq_true, List.nodup_nil, and_self, Nat.zero_add, Bool.false_eq_true, List.mem_cons, List.mem_singleton, true_or, or_true, or_false, false_or, Nat.add_one_sub_one, a1, a2, a3, a4, a5, eInts_ow]
/-! the law's own walk -/
def cond (x lo hi : Int) (own : Bool) (r : Int × Row) : Bool := !decide (r.1 = x) && ((own || r.2.own) && decide (max lo r.2.lo ≤ min hi r.2.hi))
def ins (acc : List Int) (k : Int) : List Int := if k ∈ acc then acc else acc ++ [k]
def due (x lo hi : Int) (own : Bool) (acc : List Int) (rows : List (Int × Row)) : List Int := rows.foldl (fun acc r => if cond x lo hi own r = true then ins acc r.1 else acc) acc
def row4 (r : Int × Row) : D := .nd .sh .tup [.int r.1, .int r.2.lo, .int r.2.hi, .bl r.2.own]
def eFound (acc : List Int) : D := .nd .ow (.dic (acc.map Sum.inl)) (acc.map fun _ => .bl true)
theorem kix_found : ∀ (acc : List Int) (k : Int), (k ∉ acc → kix (acc.map (Sum.inl : Int → Key)) (Sum.inl k) = none) ∧ (k ∈ acc → ∃ j, kix (acc.map (Sum.inl : Int → Key)) (Sum.inl k) = some j)
  | [], k => ⟨fun _ => rfl, fun h => by cases h⟩
  | a :: acc, k => by
    have ih := kix_found acc k
    rw [List.map_cons, kix]
    by_cases h : a = k
    · subst h; simp
    · have h' : ¬ (Sum.inl a : Key) = Sum.inl k := fun z => h (Sum.inl.inj z)
      rw [if_neg h']
      refine ⟨fun hn => by rw [ih.1 (fun z => hn (List.mem_cons_of_mem _ z))]; rfl, fun hm => ?_⟩
      obtain ⟨j, e⟩ := ih.2 ((List.mem_cons.mp hm).resolve_left (fun z => h z.symm))
      exact ⟨j + 1, by rw [e]; rfl⟩
theorem put_found (acc : List Int) (k : Int) (hl : acc.length < 1000) {Γ : Gm} (hΓ : Γ[5]?.join = some (eFound acc)) : SK.putAt Γ 5 [] (.int k) (.bl true) = some (Γ.set 5 (some (eFound (ins acc k)))) := by
  unfold SK.putAt
  rw [hΓ]
  simp only [Option.bind_some, pget, eFound, D.key]
  rw [if_pos (by simp; omega)]
  have := kix_found acc k
  unfold ins
  by_cases h : k ∈ acc
  · obtain ⟨j, e⟩ := this.2 h
    simp only [pput, kput, vput, e, if_pos h]
    have : (acc.map fun _ => D.bl true).set j (.bl true) = acc.map fun _ => D.bl true := by
      apply List.ext_getElem (by simp)
      intro n h1 h2
      simp [List.getElem_set]
    rw [this]
  · have e := this.1 h
    simp only [pput, kput, vput, e, if_neg h]
    simp
theorem due_loop (R : D) (x lo hi : Int) (own : Bool) : ∀ (rows : List (Int × Row)) (acc : List Int) (o6 o7 o8 o9 : Option D), acc.length + rows.length < 1000 → ∃ p6 p7 p8 p9, loopG lt__law_due_1 lb__law_due_1 (rows.map row4) [some R, some (.int x), some (.int lo), some (.int hi), some (.bl own), some (eFound acc), o6, o7, o8, o9]
    = some (.ok .nx [some R, some (.int x), some (.int lo), some (.int hi), some (.bl own), some (eFound (due x lo hi own acc rows)), p6, p7, p8, p9])
  | [], acc, o6, o7, o8, o9, _ => ⟨o6, o7, o8, o9, by rw [List.map_nil, loopG_nil]; rfl⟩
  | r :: rows, acc, o6, o7, o8, o9, hl => by
    rw [List.map_cons, loopG_cons]
    simp at hl
    have e1 : lt__law_due_1 (row4 r) [some R, some (.int x), some (.int lo), some (.int hi), some (.bl own), some (eFound acc), o6, o7, o8, o9] = some [some R, some (.int x), some (.int lo), some (.int hi), some (.bl own), some (eFound acc), some (.int r.1), some (.int r.2.lo), some (.int r.2.hi), some (.bl r.2.own)] := by
      unfold lt__law_due_1 row4
      simp only [Xc_ok, Xc_ok0, nLoop1_ok, nLoop2_nx, nLoop2_ct, nLoop2_bk, nLoop2_rt, nLoop2_ex, nLO2_nx, nLO2_ct, nLO2_bk, nLO2_rt, nLO2_ex, hTup_sh, hTup_tm, hCons_ok, hNil_ok, gThen_e, nThen_nx, nThen_rt, nThen_bk, nThen_ct, nThen_ex, gIf_e, nIf_t, nIf_f, nIf_ex, gNil_e, gBk_e, gCt_e, gRetN_e, gSet_e, nSet_ok, nSet_ex, gSetF_e, nSetF_ok, nSetF_ex, gDrop_e, nDrop_ok, nDrop_ex, gRet_e, nRet_ok, nRet_ex, gAsg_e, nAsg_ok, lQ_e, nQ_ok, vQ_e, nVQ_ok, vN_e, nVN_ok, nVN_ow, vL_e, nVL_ok, nVL_ex, lF_e, nF_ok, frQ_e, nFQ_ok, lM_e, nM_ok, lMp_e, nMp_ok, aNil_e, aCons_e, nAC_ok, nAC_ex, nAC2_ok, nAC2_ex, lFn_e, nFn_ok, nFn_ex, nCall1_ok, nCall2_rt, nCall2_ex, lMeth_e, nMe_ok, nMe_ex, nMe2_ok, nMe2_ex, ltQ_e, nLtQ_ok, ltV_e, nLtV_ok, nLtV_ex, ltNot_e, nNot_ok, nNot_ex, ltAnd_e, nAnd_t, nAnd_f, nAnd_ex, ltOr_e, nOr_t, nOr_f, nOr_ex, qAnd_e, nQAnd_t, nQAnd_f, qOr_e, nQOr_t, nQOr_f, qNot_e, nQNot_ok, qB_e, qTru_e, nB_ok, asBl_e, q2_e, n2_ok, q1_e, n1_ok, q3_e, n3_ok, qV_e, qC_e, qN_e, nN_ok, qNil_e, qCons_e, nCons_ok, qSeq_e, frSeq_e, mkSeq_e, mkOw_e, frDK_e, frDT_e, qONone_e, qOSome_e, nO_ok, qSl_e, nSl_ok, qFn_e, nQF_ok, nQF2_ok, frFn_e, nFF_ok, nFF2_ok, frMk_e, nMk_ok, nMk2_ok, wLst_e, wTup_e, nW_ok, wEnum_e, wRg1_e, wRg2_e, nWs_ok, asLst_sh, asLst_tm, asTup_sh, asTup_tm, gFor_e, nFor_ok, gPut_e, nPut_ok, nPut_ex, nPut2_ok, gFput_e, nFput_ok, nFput_ex, nFput2_ok, lApp_e, nApp_ok, lAppE_e, nAppE_ok, plN_e, plF_e, plS_e, plSd_e, nSd_ok, gRaise_e, nRaise2_ok, gTryPair_e, nTryPair_ok, nTryPair_ex, nForO_ok, hd_non, hd_bl, hd_int, hd_str, hd_sh, hd_tm, hd_ow, noTm_non, noTm_bl, noTm_int, noTm_str, noTm_sh, noTm_ow, shr_non, shr_bl, shr_int, shr_str, shr_nd, tmr_non, tmr_bl, tmr_int, tmr_str, tmr_sh, tmr_tm, tmr_ow, all0_nil, all0_cons, dAdd_e, dSubt_e, dMul_e, dDiv_e, dMod_e, dPow_e, dLt_e, dLe_e, dGt_e, dGe_e, dEq_int, dNe_int, dEq_ints, dNe_ints, fnOf_e, nEnd_nx, nEnd_rt, nEnd_ex, nOuts_ok, outsOf_nil, outsOf_cons, gj_nil, gj_zero, gj_succ, gs_zero, gs_succ, argD_val, argD_slot, nArg_t, nArg_f, pget_nil, pget_cons, pput_nil, callF_e, gRaise2_e, gForO_e, setG_e, argD_nil, pput_cons, noTms_nil, tmrs_nil, tmrs_cons, noTms_cons, eq_self, Option.join_some, Option.join_none, List.map_cons, List.map_nil, List.cons_append, List.nil_append, List.append_nil, List.replicate_succ, List.replicate_zero, List.length_cons, List.length_nil, Option.map_some, Option.map_none, Option.bind_some, Option.bind_none, Nat.reduceAdd, Nat.reduceLT, Nat.reduceLeDiff, Nat.reduceEqDiff, Bool.not_true, Bool.not_false, Bool.and_true, Bool.true_and, Bool.and_self, reduceIte, if_true, if_false, slots_nil, slots_val, slots_slot, clr, back, List.getElem?_cons_zero, List.getElem?_cons_succ, List.nodup_cons, List.not_mem_nil, not_false_eq_true, List.nodup_nil, and_self, Nat.zero_add, Bool.false_eq_true, List.mem_cons, List.mem_singleton, true_or, or_true, or_false, false_or, Nat.add_one_sub_one]
    have e3 := put_found acc r.1 (by omega) (Γ := [some R, some (.int x), some (.int lo), some (.int hi), some (.bl own), some (eFound acc), some (.int r.1), some (.int r.2.lo), some (.int r.2.hi), some (.bl r.2.own)]) rfl
    have e2 : lb__law_due_1 [some R, some (.int x), some (.int lo), some (.int hi), some (.bl own), some (eFound acc), some (.int r.1), some (.int r.2.lo), some (.int r.2.hi), some (.bl r.2.own)] = some (.ok .nx [some R, some (.int x), some (.int lo), some (.int hi), some (.bl own), some (eFound (if cond x lo hi own r = true then ins acc r.1 else acc)), some (.int r.1), some (.int r.2.lo), some (.int r.2.hi), some (.bl r.2.own)]) := by
      unfold lb__law_due_1 cond
      by_cases hx : r.1 = x
      · simp only [Xc_ok, Xc_ok0, nLoop1_ok, nLoop2_nx, nLoop2_ct, nLoop2_bk, nLoop2_rt, nLoop2_ex, nLO2_nx, nLO2_ct, nLO2_bk, nLO2_rt, nLO2_ex, hTup_sh, hTup_tm, hCons_ok, hNil_ok, gThen_e, nThen_nx, nThen_rt, nThen_bk, nThen_ct, nThen_ex, gIf_e, nIf_t, nIf_f, nIf_ex, gNil_e, gBk_e, gCt_e, gRetN_e, gSet_e, nSet_ok, nSet_ex, gSetF_e, nSetF_ok, nSetF_ex, gDrop_e, nDrop_ok, nDrop_ex, gRet_e, nRet_ok, nRet_ex, gAsg_e, nAsg_ok, lQ_e, nQ_ok, vQ_e, nVQ_ok, vN_e, nVN_ok, nVN_ow, vL_e, nVL_ok, nVL_ex, lF_e, nF_ok, frQ_e, nFQ_ok, lM_e, nM_ok, lMp_e, nMp_ok, aNil_e, aCons_e, nAC_ok, nAC_ex, nAC2_ok, nAC2_ex, lFn_e, nFn_ok, nFn_ex, nCall1_ok, nCall2_rt, nCall2_ex, lMeth_e, nMe_ok, nMe_ex, nMe2_ok, nMe2_ex, ltQ_e, nLtQ_ok, ltV_e, nLtV_ok, nLtV_ex, ltNot_e, nNot_ok, nNot_ex, ltAnd_e, nAnd_t, nAnd_f, nAnd_ex, ltOr_e, nOr_t, nOr_f, nOr_ex, qAnd_e, nQAnd_t, nQAnd_f, qOr_e, nQOr_t, nQOr_f, qNot_e, nQNot_ok, qB_e, qTru_e, nB_ok, asBl_e, q2_e, n2_ok, q1_e, n1_ok, q3_e, n3_ok, qV_e, qC_e, qN_e, nN_ok, qNil_e, qCons_e, nCons_ok, qSeq_e, frSeq_e, mkSeq_e, mkOw_e, frDK_e, frDT_e, qONone_e, qOSome_e, nO_ok, qSl_e, nSl_ok, qFn_e, nQF_ok, nQF2_ok, frFn_e, nFF_ok, nFF2_ok, frMk_e, nMk_ok, nMk2_ok, wLst_e, wTup_e, nW_ok, wEnum_e, wRg1_e, wRg2_e, nWs_ok, asLst_sh, asLst_tm, asTup_sh, asTup_tm, gFor_e, nFor_ok, gPut_e, nPut_ok, nPut_ex, nPut2_ok, gFput_e, nFput_ok, nFput_ex, nFput2_ok, lApp_e, nApp_ok, lAppE_e, nAppE_ok, plN_e, plF_e, plS_e, plSd_e, nSd_ok, gRaise_e, nRaise2_ok, gTryPair_e, nTryPair_ok, nTryPair_ex, nForO_ok, hd_non, hd_bl, hd_int, hd_str, hd_sh, hd_tm, hd_ow, noTm_non, noTm_bl, noTm_int, noTm_str, noTm_sh, noTm_ow, shr_non, shr_bl, shr_int, shr_str, shr_nd, tmr_non, tmr_bl, tmr_int, tmr_str, tmr_sh, tmr_tm, tmr_ow, all0_nil, all0_cons, dAdd_e, dSubt_e, dMul_e, dDiv_e, dMod_e, dPow_e, dLt_e, dLe_e, dGt_e, dGe_e, dEq_int, dNe_int, dEq_ints, dNe_ints, fnOf_e, nEnd_nx, nEnd_rt, nEnd_ex, nOuts_ok, outsOf_nil, outsOf_cons, gj_nil, gj_zero, gj_succ, gs_zero, gs_succ, argD_val, argD_slot, nArg_t, nArg_f, pget_nil, pget_cons, pput_nil, callF_e, gRaise2_e, gForO_e, setG_e, argD_nil, pput_cons, noTms_nil, tmrs_nil, tmrs_cons, noTms_cons, eq_self, Option.join_some, Option.join_none, List.map_cons, List.map_nil, List.cons_append, List.nil_append, List.append_nil, List.replicate_succ, List.replicate_zero, List.length_cons, List.length_nil, Option.map_some, Option.map_none, Option.bind_some, Option.bind_none, Nat.reduceAdd, Nat.reduceLT, Nat.reduceLeDiff, Nat.reduceEqDiff, Bool.not_true, Bool.not_false, Bool.and_true, Bool.true_and, Bool.and_self, reduceIte, if_true, if_false, slots_nil, slots_val, slots_slot, clr, back, List.getElem?_cons_zero, List.getElem?_cons_succ, List.nodup_cons, List.not_mem_nil, not_false_eq_true, List.nodup_nil, and_self, Nat.zero_add, Bool.false_eq_true, List.mem_cons, List.mem_singleton, true_or, or_true, or_false, false_or, Nat.add_one_sub_one, dNe_int, hx, decide_true, Bool.false_and]
      · cases own <;> cases ho : r.2.own <;> by_cases hm : max lo r.2.lo ≤ min hi r.2.hi <;> rw [ho] at e3 <;> simp only [Xc_ok, Xc_ok0, nLoop1_ok, nLoop2_nx, nLoop2_ct, nLoop2_bk, nLoop2_rt, nLoop2_ex, nLO2_nx, nLO2_ct, nLO2_bk, nLO2_rt, nLO2_ex, hTup_sh, hTup_tm, hCons_ok, hNil_ok, gThen_e, nThen_nx, nThen_rt, nThen_bk, nThen_ct, nThen_ex, gIf_e, nIf_t, nIf_f, nIf_ex, gNil_e, gBk_e, gCt_e, gRetN_e, gSet_e, nSet_ok, nSet_ex, gSetF_e, nSetF_ok, nSetF_ex, gDrop_e, nDrop_ok, nDrop_ex, gRet_e, nRet_ok, nRet_ex, gAsg_e, nAsg_ok, lQ_e, nQ_ok, vQ_e, nVQ_ok, vN_e, nVN_ok, nVN_ow, vL_e, nVL_ok, nVL_ex, lF_e, nF_ok, frQ_e, nFQ_ok, lM_e, nM_ok, lMp_e, nMp_ok, aNil_e, aCons_e, nAC_ok, nAC_ex, nAC2_ok, nAC2_ex, lFn_e, nFn_ok, nFn_ex, nCall1_ok, nCall2_rt, nCall2_ex, lMeth_e, nMe_ok, nMe_ex, nMe2_ok, nMe2_ex, ltQ_e, nLtQ_ok, ltV_e, nLtV_ok, nLtV_ex, ltNot_e, nNot_ok, nNot_ex, ltAnd_e, nAnd_t, nAnd_f, nAnd_ex, ltOr_e, nOr_t, nOr_f, nOr_ex, qAnd_e, nQAnd_t, nQAnd_f, qOr_e, nQOr_t, nQOr_f, qNot_e, nQNot_ok, qB_e, qTru_e, nB_ok, asBl_e, q2_e, n2_ok, q1_e, n1_ok, q3_e, n3_ok, qV_e, qC_e, qN_e, nN_ok, qNil_e, qCons_e, nCons_ok, qSeq_e, frSeq_e, mkSeq_e, mkOw_e, frDK_e, frDT_e, qONone_e, qOSome_e, nO_ok, qSl_e, nSl_ok, qFn_e, nQF_ok, nQF2_ok, frFn_e, nFF_ok, nFF2_ok, frMk_e, nMk_ok, nMk2_ok, wLst_e, wTup_e, nW_ok, wEnum_e, wRg1_e, wRg2_e, nWs_ok, asLst_sh, asLst_tm, asTup_sh, asTup_tm, gFor_e, nFor_ok, gPut_e, nPut_ok, nPut_ex, nPut2_ok, gFput_e, nFput_ok, nFput_ex, nFput2_ok, lApp_e, nApp_ok, lAppE_e, nAppE_ok, plN_e, plF_e, plS_e, plSd_e, nSd_ok, gRaise_e, nRaise2_ok, gTryPair_e, nTryPair_ok, nTryPair_ex, nForO_ok, hd_non, hd_bl, hd_int, hd_str, hd_sh, hd_tm, hd_ow, noTm_non, noTm_bl, noTm_int, noTm_str, noTm_sh, noTm_ow, shr_non, shr_bl, shr_int, shr_str, shr_nd, tmr_non, tmr_bl, tmr_int, tmr_str, tmr_sh, tmr_tm, tmr_ow, all0_nil, all0_cons, dAdd_e, dSubt_e, dMul_e, dDiv_e, dMod_e, dPow_e, dLt_e, dLe_e, dGt_e, dGe_e, dEq_int, dNe_int, dEq_ints, dNe_ints, fnOf_e, nEnd_nx, nEnd_rt, nEnd_ex, nOuts_ok, outsOf_nil, outsOf_cons, gj_nil, gj_zero, gj_succ, gs_zero, gs_succ, argD_val, argD_slot, nArg_t, nArg_f, pget_nil, pget_cons, pput_nil, callF_e, gRaise2_e, gForO_e, setG_e, argD_nil, pput_cons, noTms_nil, tmrs_nil, tmrs_cons, noTms_cons, eq_self, Option.join_some, Option.join_none, List.map_cons, List.map_nil, List.cons_append, List.nil_append, List.append_nil, List.replicate_succ, List.replicate_zero, List.length_cons, List.length_nil, Option.map_some, Option.map_none, Option.bind_some, Option.bind_none, Nat.reduceAdd, Nat.reduceLT, Nat.reduceLeDiff, Nat.reduceEqDiff, Bool.not_true, Bool.not_false, Bool.and_true, Bool.true_and, Bool.and_self, reduceIte, if_true, if_false, slots_nil, slots_val, slots_slot, clr, back, List.getElem?_cons_zero, List.getElem?_cons_succ, List.nodup_cons, List.not_mem_nil, not_false_eq_true, List.nodup_nil, and_self, Nat.zero_add, Bool.false_eq_true, List.mem_cons, List.mem_singleton, true_or, or_true, or_false, false_or, Nat.add_one_sub_one, dNe_int, hx, decide_false, Bool.or_true, Bool.or_false, Bool.false_and, bMax, bMin, hm, decide_true, e3]
    rw [e1, nLoop1_ok, e2, nLoop2_nx]
    have hl2 : (if cond x lo hi own r = true then ins acc r.1 else acc).length ≤ acc.length + 1 := by
      unfold ins; split <;> (try split) <;> simp
    exact due_loop R x lo hi own rows _ _ _ _ _ (by omega)
theorem due_len (x lo hi : Int) (own : Bool) : ∀ (rows : List (Int × Row)) (acc : List Int), (due x lo hi own acc rows).length ≤ acc.length + rows.length
  | [], acc => by simp [due]
  | r :: rows, acc => by
    have := due_len x lo hi own rows (if cond x lo hi own r = true then ins acc r.1 else acc)
    have hl2 : (if cond x lo hi own r = true then ins acc r.1 else acc).length ≤ acc.length + 1 := by
      unfold ins; split <;> (try split) <;> simp
    simp only [due, List.foldl_cons, List.length_cons] at this ⊢
    omega
theorem e_due (rows : List (Int × Row)) (h : rows.length < 60) (x lo hi : Int) (own : Bool) : fn__law_due [.nd .tm .lst (rows.map row4), .int x, .int lo, .int hi, .bl own] = some (.ret (eInts .sh (isort (due x lo hi own [] rows))) []) := by
  unfold fn__law_due g__law_due
  obtain ⟨p6, p7, p8, p9, e⟩ := due_loop (.nd .tm .lst (rows.map row4)) x lo hi own rows [] none none none none (by simp; omega)
  have e0 : D.nd .ow (.dic []) [] = eFound [] := rfl
  have e2 : bSorted [eFound (due x lo hi own [] rows)] = some (eInts .sh (isort (due x lo hi own [] rows))) := by
    have := due_len x lo hi own rows []
    simp at this
    show (keyInts _).bind _ = _
    have : keyInts ((due x lo hi own [] rows).map Sum.inl) = some (due x lo hi own [] rows) := by
      have h : ∀ l : List Int, keyInts (l.map Sum.inl) = some l := by
        intro l
        induction l with
        | nil => rfl
        | cons a l ih => rw [List.map_cons, keyInts, ih]; rfl
      exact h _
    rw [this, Option.bind_some, if_pos (by omega)]
    rfl
  simp only [Xc_ok, Xc_ok0, nLoop1_ok, nLoop2_nx, nLoop2_ct, nLoop2_bk, nLoop2_rt, nLoop2_ex, nLO2_nx, nLO2_ct, nLO2_bk, nLO2_rt, nLO2_ex, hTup_sh, hTup_tm, hCons_ok, hNil_ok, gThen_e, nThen_nx, nThen_rt, nThen_bk, nThen_ct, nThen_ex, gIf_e, nIf_t, nIf_f, nIf_ex, gNil_e, gBk_e, gCt_e, gRetN_e, gSet_e, nSet_ok, nSet_ex, gSetF_e, nSetF_ok, nSetF_ex, gDrop_e, nDrop_ok, nDrop_ex, gRet_e, nRet_ok, nRet_ex, gAsg_e, nAsg_ok, lQ_e, nQ_ok, vQ_e, nVQ_ok, vN_e, nVN_ok, nVN_ow, vL_e, nVL_ok, nVL_ex, lF_e, nF_ok, frQ_e, nFQ_ok, lM_e, nM_ok, lMp_e, nMp_ok, aNil_e, aCons_e, nAC_ok, nAC_ex, nAC2_ok, nAC2_ex, lFn_e, nFn_ok, nFn_ex, nCall1_ok, nCall2_rt, nCall2_ex, lMeth_e, nMe_ok, nMe_ex, nMe2_ok, nMe2_ex, ltQ_e, nLtQ_ok, ltV_e, nLtV_ok, nLtV_ex, ltNot_e, nNot_ok, nNot_ex, ltAnd_e, nAnd_t, nAnd_f, nAnd_ex, ltOr_e, nOr_t, nOr_f, nOr_ex, qAnd_e, nQAnd_t, nQAnd_f, qOr_e, nQOr_t, nQOr_f, qNot_e, nQNot_ok, qB_e, qTru_e, nB_ok, asBl_e, q2_e, n2_ok, q1_e, n1_ok, q3_e, n3_ok, qV_e, qC_e, qN_e, nN_ok, qNil_e, qCons_e, nCons_ok, qSeq_e, frSeq_e, mkSeq_e, mkOw_e, frDK_e, frDT_e, qONone_e, qOSome_e, nO_ok, qSl_e, nSl_ok, qFn_e, nQF_ok, nQF2_ok, frFn_e, nFF_ok, nFF2_ok, frMk_e, nMk_ok, nMk2_ok, wLst_e, wTup_e, nW_ok, wEnum_e, wRg1_e, wRg2_e, nWs_ok, asLst_sh, asLst_tm, asTup_sh, asTup_tm, gFor_e, nFor_ok, gPut_e, nPut_ok, nPut_ex, nPut2_ok, gFput_e, nFput_ok, nFput_ex, nFput2_ok, lApp_e, nApp_ok, lAppE_e, nAppE_ok, plN_e, plF_e, plS_e, plSd_e, nSd_ok, gRaise_e, nRaise2_ok, gTryPair_e, nTryPair_ok, nTryPair_ex, nForO_ok, hd_non, hd_bl, hd_int, hd_str, hd_sh, hd_tm, hd_ow, noTm_non, noTm_bl, noTm_int, noTm_str, noTm_sh, noTm_ow, shr_non, shr_bl, shr_int, shr_str, shr_nd, tmr_non, tmr_bl, tmr_int, tmr_str, tmr_sh, tmr_tm, tmr_ow, all0_nil, all0_cons, dAdd_e, dSubt_e, dMul_e, dDiv_e, dMod_e, dPow_e, dLt_e, dLe_e, dGt_e, dGe_e, dEq_int, dNe_int, dEq_ints, dNe_ints, fnOf_e, nEnd_nx, nEnd_rt, nEnd_ex, nOuts_ok, outsOf_nil, outsOf_cons, gj_nil, gj_zero, gj_succ, gs_zero, gs_succ, argD_val, argD_slot, nArg_t, nArg_f, pget_nil, pget_cons, pput_nil, callF_e, gRaise2_e, gForO_e, setG_e, argD_nil, pput_cons, noTms_nil, tmrs_nil, tmrs_cons, noTms_cons, eq_self, Option.join_some, Option.join_none, List.map_cons, List.map_nil, List.cons_append, List.nil_append, List.append_nil, List.replicate_succ, List.replicate_zero, List.length_cons, List.length_nil, Option.map_some, Option.map_none, Option.bind_some, Option.bind_none, Nat.reduceAdd, Nat.reduceLT, Nat.reduceLeDiff, Nat.reduceEqDiff, Bool.not_true, Bool.not_false, Bool.and_true, Bool.true_and, Bool.and_self, reduceIte, if_true, if_false, slots_nil, slots_val, slots_slot, clr, back, List.getElem?_cons_zero, List.getElem?_cons_succ, List.nodup_cons, List.not_mem_nil, not_false_eq_true, List.nodup_nil, and_self, Nat.zero_add, Bool.false_eq_true, List.mem_cons, List.mem_singleton, true_or, or_true, or_false, false_or, Nat.add_one_sub_one, e0, e, e2, eInts_hds]
end K23

namespace K23
open PySem PySem.Spec L2 SK
theorem isi_list {f : Fg} {xs : List Int} : dIsi "list" (eInts f xs) = some (.bl true) := by
  cases f <;> rfl
theorem isi_int {z : Int} : dIsi "int" (.int z) = some (.bl true) := by rfl
theorem isi_bool {z : Int} : dIsi "bool" (.int z) = some (.bl false) := by rfl
theorem alike_loop (d1 : D) (xs : List Int) : ∀ (n j : Nat) (o2 : Option D), j + n = xs.length → ∃ p2, loopO 0 lt__law_alike_1 lb__law_alike_1 (n + 1) j [some (eInts .ow xs), some d1, o2] = some (.ok .nx [some (eInts .ow xs), some d1, p2])
  | 0, j, o2, h => ⟨o2, loopO_end (ds := xs.map D.int) rfl (by simp; omega)⟩
  | n + 1, j, o2, h => by
    have hj : j < xs.length := by omega
    obtain ⟨p2, e⟩ := alike_loop d1 xs n (j + 1) (some (.int xs[j])) (by omega)
    refine ⟨p2, ?_⟩
    rw [loopO_step (ds := xs.map D.int) (d := .int xs[j]) (Γ1 := [some (eInts .ow xs), some d1, some (.int xs[j])]) rfl (by simp [hj]) rfl (by unfold lt__law_alike_1; simp only [Xc_ok, Xc_ok0, nLoop1_ok, nLoop2_nx, nLoop2_ct, nLoop2_bk, nLoop2_rt, nLoop2_ex, nLO2_nx, nLO2_ct, nLO2_bk, nLO2_rt, nLO2_ex, hTup_sh, hTup_tm, hCons_ok, hNil_ok, gThen_e, nThen_nx, nThen_rt, nThen_bk, nThen_ct, nThen_ex, gIf_e, nIf_t, nIf_f, nIf_ex, gNil_e, gBk_e, gCt_e, gRetN_e, gSet_e, nSet_ok, nSet_ex, gSetF_e, nSetF_ok, nSetF_ex, gDrop_e, nDrop_ok, nDrop_ex, gRet_e, nRet_ok, nRet_ex, gAsg_e, nAsg_ok, lQ_e, nQ_ok, vQ_e, nVQ_ok, vN_e, nVN_ok, nVN_ow, vL_e, nVL_ok, nVL_ex, lF_e, nF_ok, frQ_e, nFQ_ok, lM_e, nM_ok, lMp_e, nMp_ok, aNil_e, aCons_e, nAC_ok, nAC_ex, nAC2_ok, nAC2_ex, lFn_e, nFn_ok, nFn_ex, nCall1_ok, nCall2_rt, nCall2_ex, lMeth_e, nMe_ok, nMe_ex, nMe2_ok, nMe2_ex, ltQ_e, nLtQ_ok, ltV_e, nLtV_ok, nLtV_ex, ltNot_e, nNot_ok, nNot_ex, ltAnd_e, nAnd_t, nAnd_f, nAnd_ex, ltOr_e, nOr_t, nOr_f, nOr_ex, qAnd_e, nQAnd_t, nQAnd_f, qOr_e, nQOr_t, nQOr_f, qNot_e, nQNot_ok, qB_e, qTru_e, nB_ok, asBl_e, q2_e, n2_ok, q1_e, n1_ok, q3_e, n3_ok, qV_e, qC_e, qN_e, nN_ok, qNil_e, qCons_e, nCons_ok, qSeq_e, frSeq_e, mkSeq_e, mkOw_e, frDK_e, frDT_e, qONone_e, qOSome_e, nO_ok, qSl_e, nSl_ok, qFn_e, nQF_ok, nQF2_ok, frFn_e, nFF_ok, nFF2_ok, frMk_e, nMk_ok, nMk2_ok, wLst_e, wTup_e, nW_ok, wEnum_e, wRg1_e, wRg2_e, nWs_ok, asLst_sh, asLst_tm, asTup_sh, asTup_tm, gFor_e, nFor_ok, gPut_e, nPut_ok, nPut_ex, nPut2_ok, gFput_e, nFput_ok, nFput_ex, nFput2_ok, lApp_e, nApp_ok, lAppE_e, nAppE_ok, plN_e, plF_e, plS_e, plSd_e, nSd_ok, gRaise_e, nRaise2_ok, gTryPair_e, nTryPair_ok, nTryPair_ex, nForO_ok, hd_non, hd_bl, hd_int, hd_str, hd_sh, hd_tm, hd_ow, noTm_non, noTm_bl, noTm_int, noTm_str, noTm_sh, noTm_ow, shr_non, shr_bl, shr_int, shr_str, shr_nd, tmr_non, tmr_bl, tmr_int, tmr_str, tmr_sh, tmr_tm, tmr_ow, all0_nil, all0_cons, dAdd_e, dSubt_e, dMul_e, dDiv_e, dMod_e, dPow_e, dLt_e, dLe_e, dGt_e, dGe_e, dEq_int, dNe_int, dEq_ints, dNe_ints, fnOf_e, nEnd_nx, nEnd_rt, nEnd_ex, nOuts_ok, outsOf_nil, outsOf_cons, gj_nil, gj_zero, gj_succ, gs_zero, gs_succ, argD_val, argD_slot, nArg_t, nArg_f, pget_nil, pget_cons, pput_nil, callF_e, gRaise2_e, gForO_e, setG_e, argD_nil, pput_cons, noTms_nil, tmrs_nil, tmrs_cons, noTms_cons, eq_self, Option.join_some, Option.join_none, List.map_cons, List.map_nil, List.cons_append, List.nil_append, List.append_nil, List.replicate_succ, List.replicate_zero, List.length_cons, List.length_nil, Option.map_some, Option.map_none, Option.bind_some, Option.bind_none, Nat.reduceAdd, Nat.reduceLT, Nat.reduceLeDiff, Nat.reduceEqDiff, Bool.not_true, Bool.not_false, Bool.and_true, Bool.true_and, Bool.and_self, reduceIte, if_true, if_false, slots_nil, slots_val, slots_slot, clr, back, List.getElem?_cons_zero, List.getElem?_cons_succ, List.nodup_cons, List.not_mem_nil, not_false_eq_true, List.nodup_nil, and_self, Nat.zero_add, Bool.false_eq_true, List.mem_cons, List.mem_singleton, true_or, or_true, or_false, false_or, Nat.add_one_sub_one])]
    have e2 : lb__law_alike_1 [some (eInts .ow xs), some d1, some (.int xs[j])] = some (.ok .nx [some (eInts .ow xs), some d1, some (.int xs[j])]) := by
      unfold lb__law_alike_1
      simp only [Xc_ok, Xc_ok0, nLoop1_ok, nLoop2_nx, nLoop2_ct, nLoop2_bk, nLoop2_rt, nLoop2_ex, nLO2_nx, nLO2_ct, nLO2_bk, nLO2_rt, nLO2_ex, hTup_sh, hTup_tm, hCons_ok, hNil_ok, gThen_e, nThen_nx, nThen_rt, nThen_bk, nThen_ct, nThen_ex, gIf_e, nIf_t, nIf_f, nIf_ex, gNil_e, gBk_e, gCt_e, gRetN_e, gSet_e, nSet_ok, nSet_ex, gSetF_e, nSetF_ok, nSetF_ex, gDrop_e, nDrop_ok, nDrop_ex, gRet_e, nRet_ok, nRet_ex, gAsg_e, nAsg_ok, lQ_e, nQ_ok, vQ_e, nVQ_ok, vN_e, nVN_ok, nVN_ow, vL_e, nVL_ok, nVL_ex, lF_e, nF_ok, frQ_e, nFQ_ok, lM_e, nM_ok, lMp_e, nMp_ok, aNil_e, aCons_e, nAC_ok, nAC_ex, nAC2_ok, nAC2_ex, lFn_e, nFn_ok, nFn_ex, nCall1_ok, nCall2_rt, nCall2_ex, lMeth_e, nMe_ok, nMe_ex, nMe2_ok, nMe2_ex, ltQ_e, nLtQ_ok, ltV_e, nLtV_ok, nLtV_ex, ltNot_e, nNot_ok, nNot_ex, ltAnd_e, nAnd_t, nAnd_f, nAnd_ex, ltOr_e, nOr_t, nOr_f, nOr_ex, qAnd_e, nQAnd_t, nQAnd_f, qOr_e, nQOr_t, nQOr_f, qNot_e, nQNot_ok, qB_e, qTru_e, nB_ok, asBl_e, q2_e, n2_ok, q1_e, n1_ok, q3_e, n3_ok, qV_e, qC_e, qN_e, nN_ok, qNil_e, qCons_e, nCons_ok, qSeq_e, frSeq_e, mkSeq_e, mkOw_e, frDK_e, frDT_e, qONone_e, qOSome_e, nO_ok, qSl_e, nSl_ok, qFn_e, nQF_ok, nQF2_ok, frFn_e, nFF_ok, nFF2_ok, frMk_e, nMk_ok, nMk2_ok, wLst_e, wTup_e, nW_ok, wEnum_e, wRg1_e, wRg2_e, nWs_ok, asLst_sh, asLst_tm, asTup_sh, asTup_tm, gFor_e, nFor_ok, gPut_e, nPut_ok, nPut_ex, nPut2_ok, gFput_e, nFput_ok, nFput_ex, nFput2_ok, lApp_e, nApp_ok, lAppE_e, nAppE_ok, plN_e, plF_e, plS_e, plSd_e, nSd_ok, gRaise_e, nRaise2_ok, gTryPair_e, nTryPair_ok, nTryPair_ex, nForO_ok, hd_non, hd_bl, hd_int, hd_str, hd_sh, hd_tm, hd_ow, noTm_non, noTm_bl, noTm_int, noTm_str, noTm_sh, noTm_ow, shr_non, shr_bl, shr_int, shr_str, shr_nd, tmr_non, tmr_bl, tmr_int, tmr_str, tmr_sh, tmr_tm, tmr_ow, all0_nil, all0_cons, dAdd_e, dSubt_e, dMul_e, dDiv_e, dMod_e, dPow_e, dLt_e, dLe_e, dGt_e, dGe_e, dEq_int, dNe_int, dEq_ints, dNe_ints, fnOf_e, nEnd_nx, nEnd_rt, nEnd_ex, nOuts_ok, outsOf_nil, outsOf_cons, gj_nil, gj_zero, gj_succ, gs_zero, gs_succ, argD_val, argD_slot, nArg_t, nArg_f, pget_nil, pget_cons, pput_nil, callF_e, gRaise2_e, gForO_e, setG_e, argD_nil, pput_cons, noTms_nil, tmrs_nil, tmrs_cons, noTms_cons, eq_self, Option.join_some, Option.join_none, List.map_cons, List.map_nil, List.cons_append, List.nil_append, List.append_nil, List.replicate_succ, List.replicate_zero, List.length_cons, List.length_nil, Option.map_some, Option.map_none, Option.bind_some, Option.bind_none, Nat.reduceAdd, Nat.reduceLT, Nat.reduceLeDiff, Nat.reduceEqDiff, Bool.not_true, Bool.not_false, Bool.and_true, Bool.true_and, Bool.and_self, reduceIte, if_true, if_false, slots_nil, slots_val, slots_slot, clr, back, List.getElem?_cons_zero, List.getElem?_cons_succ, List.nodup_cons, List.not_mem_nil, not_false_eq_true, List.nodup_nil, and_self, Nat.zero_add, Bool.false_eq_true, List.mem_cons, List.mem_singleton, true_or, or_true, or_false, false_or, Nat.add_one_sub_one, isi_int, isi_bool]
    rw [e2, nLO2_nx, e]
theorem e_alike (xs : List Int) (h : xs.length < 1000) : fn__law_alike [eInts .ow xs, eInts .sh xs] = some (.ret (.bl true) [eInts .ow (xs ++ [0])]) := by
  unfold fn__law_alike g__law_alike
  obtain ⟨p2, e⟩ := alike_loop (eInts .sh xs) xs xs.length 0 none (by omega)
  have e1 : nForO 0 lt__law_alike_1 lb__law_alike_1 [some (eInts .ow xs), some (eInts .sh xs), none] (some (eInts .ow xs)) = some (.ok .nx [some (eInts .ow xs), some (eInts .sh xs), p2]) := by
    refine (nForO_ok (ds := xs.map D.int)).trans ?_
    rw [List.length_map]
    exact e
  have e2 : dNe (eInts .ow xs) (eInts .sh xs) = some (.bl (!decide (xs = xs))) := dNe_ints
  have e3 : appAt [some (eInts .ow xs), some (eInts .sh xs), p2] 0 [] (.int 0) = some [some (eInts .ow (xs ++ [0])), some (eInts .sh xs), p2] := by
    unfold appAt
    simp only [List.getElem?_cons_zero, Option.join_some, Option.bind_some, pget, eInts]
    rw [if_pos (by simp; omega)]
    simp [pput]
  simp only [Xc_ok, Xc_ok0, nLoop1_ok, nLoop2_nx, nLoop2_ct, nLoop2_bk, nLoop2_rt, nLoop2_ex, nLO2_nx, nLO2_ct, nLO2_bk, nLO2_rt, nLO2_ex, hTup_sh, hTup_tm, hCons_ok, hNil_ok, gThen_e, nThen_nx, nThen_rt, nThen_bk, nThen_ct, nThen_ex, gIf_e, nIf_t, nIf_f, nIf_ex, gNil_e, gBk_e, gCt_e, gRetN_e, gSet_e, nSet_ok, nSet_ex, gSetF_e, nSetF_ok, nSetF_ex, gDrop_e, nDrop_ok, nDrop_ex, gRet_e, nRet_ok, nRet_ex, gAsg_e, nAsg_ok, lQ_e, nQ_ok, vQ_e, nVQ_ok, vN_e, nVN_ok, nVN_ow, vL_e, nVL_ok, nVL_ex, lF_e, nF_ok, frQ_e, nFQ_ok, lM_e, nM_ok, lMp_e, nMp_ok, aNil_e, aCons_e, nAC_ok, nAC_ex, nAC2_ok, nAC2_ex, lFn_e, nFn_ok, nFn_ex, nCall1_ok, nCall2_rt, nCall2_ex, lMeth_e, nMe_ok, nMe_ex, nMe2_ok, nMe2_ex, ltQ_e, nLtQ_ok, ltV_e, nLtV_ok, nLtV_ex, ltNot_e, nNot_ok, nNot_ex, ltAnd_e, nAnd_t, nAnd_f, nAnd_ex, ltOr_e, nOr_t, nOr_f, nOr_ex, qAnd_e, nQAnd_t, nQAnd_f, qOr_e, nQOr_t, nQOr_f, qNot_e, nQNot_ok, qB_e, qTru_e, nB_ok, asBl_e, q2_e, n2_ok, q1_e, n1_ok, q3_e, n3_ok, qV_e, qC_e, qN_e, nN_ok, qNil_e, qCons_e, nCons_ok, qSeq_e, frSeq_e, mkSeq_e, mkOw_e, frDK_e, frDT_e, qONone_e, qOSome_e, nO_ok, qSl_e, nSl_ok, qFn_e, nQF_ok, nQF2_ok, frFn_e, nFF_ok, nFF2_ok, frMk_e, nMk_ok, nMk2_ok, wLst_e, wTup_e, nW_ok, wEnum_e, wRg1_e, wRg2_e, nWs_ok, asLst_sh, asLst_tm, asTup_sh, asTup_tm, gFor_e, nFor_ok, gPut_e, nPut_ok, nPut_ex, nPut2_ok, gFput_e, nFput_ok, nFput_ex, nFput2_ok, lApp_e, nApp_ok, lAppE_e, nAppE_ok, plN_e, plF_e, plS_e, plSd_e, nSd_ok, gRaise_e, nRaise2_ok, gTryPair_e, nTryPair_ok, nTryPair_ex, nForO_ok, hd_non, hd_bl, hd_int, hd_str, hd_sh, hd_tm, hd_ow, noTm_non, noTm_bl, noTm_int, noTm_str, noTm_sh, noTm_ow, shr_non, shr_bl, shr_int, shr_str, shr_nd, tmr_non, tmr_bl, tmr_int, tmr_str, tmr_sh, tmr_tm, tmr_ow, all0_nil, all0_cons, dAdd_e, dSubt_e, dMul_e, dDiv_e, dMod_e, dPow_e, dLt_e, dLe_e, dGt_e, dGe_e, dEq_int, dNe_int, dEq_ints, dNe_ints, fnOf_e, nEnd_nx, nEnd_rt, nEnd_ex, nOuts_ok, outsOf_nil, outsOf_cons, gj_nil, gj_zero, gj_succ, gs_zero, gs_succ, argD_val, argD_slot, nArg_t, nArg_f, pget_nil, pget_cons, pput_nil, callF_e, gRaise2_e, gForO_e, setG_e, argD_nil, pput_cons, noTms_nil, tmrs_nil, tmrs_cons, noTms_cons, eq_self, Option.join_some, Option.join_none, List.map_cons, List.map_nil, List.cons_append, List.nil_append, List.append_nil, List.replicate_succ, List.replicate_zero, List.length_cons, List.length_nil, Option.map_some, Option.map_none, Option.bind_some, Option.bind_none, Nat.reduceAdd, Nat.reduceLT, Nat.reduceLeDiff, Nat.reduceEqDiff, Bool.not_true, Bool.not_false, Bool.and_true, Bool.true_and, Bool.and_self, reduceIte, if_true, if_false, slots_nil, slots_val, slots_slot, clr, back, List.getElem?_cons_zero, List.getElem?_cons_succ, List.nodup_cons, List.not_mem_nil, not_false_eq_true, List.nodup_nil, and_self, Nat.zero_add, Bool.false_eq_true, List.mem_cons, List.mem_singleton, true_or, or_true, or_false, false_or, Nat.add_one_sub_one, isi_list, e2, decide_true, e1, e3]
/-! the shelf of the rows -/
structure Good (S : Shelf) (rows : List (Int × Row)) : Prop where
  nd : (keys S).Nodup
  mem : ∀ o, o ∈ keys S ↔ ∃ r ∈ rows, r.1 = o
  get : ∀ o, (getRows S o).getD [] = (rows.filter fun r => decide (r.1 = o)).map fun r => r.2
  len : S.length ≤ rows.length
  sz : ∀ p ∈ S, p.2.length ≤ rows.length
theorem good_nil : Good [] [] := ⟨List.nodup_nil, fun o => by simp, fun o => rfl, Nat.le_refl _, fun p h => by cases h⟩
theorem keys_put : ∀ (S : Shelf) (x : Int) (r : Row), keys (putS S x r) = if x ∈ keys S then keys S else keys S ++ [x]
  | [], x, r => by simp [putS, keys]
  | p :: S, x, r => by
    unfold putS
    by_cases h : p.1 = x
    · rw [if_pos h]; simp [keys, h]
    · rw [if_neg h]
      have ih := keys_put S x r
      simp only [keys, List.map_cons, List.mem_cons] at ih ⊢
      rw [ih]
      have : ¬ x = p.1 := fun z => h z.symm
      by_cases h2 : x ∈ S.map fun p => p.1
      · simp [h2]
      · simp [h2, this]
theorem getRows_put : ∀ (S : Shelf) (x : Int) (r : Row) (o : Int), (getRows (putS S x r) o).getD [] = if o = x then (getRows S o).getD [] ++ [r] else (getRows S o).getD []
  | [], x, r, o => by
    unfold putS getRows
    by_cases h : x = o
    · simp [h]
    · have : ¬ o = x := fun z => h z.symm
      simp [h, this]
  | p :: S, x, r, o => by
    have ih := getRows_put S x r o
    unfold putS
    by_cases h : p.1 = x
    · rw [if_pos h]
      unfold getRows
      by_cases h2 : p.1 = o
      · have : o = x := by omega
        simp [h2, this]
      · have : ¬ o = x := by omega
        simp [h2, this]
    · rw [if_neg h]
      unfold getRows at ih ⊢
      by_cases h2 : p.1 = o
      · have : ¬ o = x := by omega
        simp [h2, this]
      · simp [h2]
        simpa using ih

theorem good_put {S : Shelf} {rows : List (Int × Row)} (g : Good S rows) (x : Int) (r : Row) : Good (putS S x r) (rows ++ [(x, r)]) where
  nd := by
    rw [keys_put]
    split
    · exact g.nd
    · rename_i h
      rw [List.nodup_append]
      exact ⟨g.nd, by simp, fun a ha b hb => by simp at hb; subst hb; intro z; subst z; exact h ha⟩
  mem := fun o => by
    rw [keys_put]
    have := g.mem o
    have hx := g.mem x
    constructor
    · intro h
      split at h
      · obtain ⟨q, h1, h2⟩ := this.mp h; exact ⟨q, List.mem_append_left _ h1, h2⟩
      · rcases List.mem_append.mp h with h | h
        · obtain ⟨q, h1, h2⟩ := this.mp h; exact ⟨q, List.mem_append_left _ h1, h2⟩
        · simp at h; subst h; exact ⟨(o, r), by simp, rfl⟩
    · rintro ⟨q, h1, h2⟩
      rcases List.mem_append.mp h1 with h | h
      · have := this.mpr ⟨q, h, h2⟩
        split
        · exact this
        · exact List.mem_append_left _ this
      · simp at h; subst h; simp at h2; subst h2
        split
        · assumption
        · simp
  get := fun o => by
    rw [getRows_put, List.filter_append, List.map_append, g.get o]
    by_cases h : o = x
    · subst h; simp
    · have : ¬ x = o := fun z => h z.symm
      simp [h, this]
  len := by
    have h : ∀ S : Shelf, (putS S x r).length ≤ S.length + 1 := fun S => by
      induction S with
      | nil => simp [putS]
      | cons p S ih => unfold putS; split <;> simp; omega
    have := h S
    have := g.len
    simp; omega
  sz := by
    have h : ∀ S : Shelf, (∀ p ∈ S, p.2.length ≤ rows.length) → ∀ p ∈ putS S x r, p.2.length ≤ rows.length + 1 := fun S => by
      induction S with
      | nil => intro _ p hp; simp [putS] at hp; subst hp; simp
      | cons q S ih =>
        intro h p hp
        unfold putS at hp
        split at hp
        · rcases List.mem_cons.mp hp with e | hp
          · subst e; have := h q List.mem_cons_self; simp; omega
          · have := h p (List.mem_cons_of_mem _ hp); omega
        · rcases List.mem_cons.mp hp with e | hp
          · subst e; have := h _ List.mem_cons_self; omega
          · exact ih (fun p hp => h p (List.mem_cons_of_mem _ hp)) p hp
    intro p hp
    have := h S g.sz p hp
    simpa using this
theorem due_mem (x lo hi : Int) (own : Bool) : ∀ (rows : List (Int × Row)) (acc : List Int) (o : Int), o ∈ due x lo hi own acc rows ↔ o ∈ acc ∨ ∃ r ∈ rows, cond x lo hi own r = true ∧ r.1 = o
  | [], acc, o => by simp [due]
  | r :: rows, acc, o => by
    have ih := due_mem x lo hi own rows (if cond x lo hi own r = true then ins acc r.1 else acc) o
    simp only [due, List.foldl_cons] at ih ⊢
    rw [ih]
    have e : (o ∈ (if cond x lo hi own r = true then ins acc r.1 else acc)) ↔ o ∈ acc ∨ (cond x lo hi own r = true ∧ r.1 = o) := by
      split
      · rename_i hc
        unfold ins
        split
        · rename_i hm
          constructor
          · exact .inl
          · rintro (h | ⟨_, h⟩)
            · exact h
            · rw [← h]; exact hm
        · simp [hc, eq_comm]
      · rename_i hc
        simp [hc]
    rw [e]
    simp only [List.mem_cons, exists_eq_or_imp, or_assoc]
theorem due_nd (x lo hi : Int) (own : Bool) : ∀ (rows : List (Int × Row)) (acc : List Int), acc.Nodup → (due x lo hi own acc rows).Nodup
  | [], acc, h => h
  | r :: rows, acc, h => by
    have := due_nd x lo hi own rows (if cond x lo hi own r = true then ins acc r.1 else acc) (by
      split
      · unfold ins
        split
        · exact h
        · rename_i hm
          rw [List.nodup_append]
          exact ⟨h, by simp, fun a ha b hb => by simp at hb; subst hb; intro z; subst z; exact hm ha⟩
      · exact h)
    simpa only [due, List.foldl_cons] using this
theorem ag_due {S : Shelf} {rows : List (Int × Row)} (g : Good S rows) (x lo hi : Int) (own : Bool) : agS S x lo hi own = isort (due x lo hi own [] rows) := by
  have pk := isort_perm (keys S)
  have pd := isort_perm (due x lo hi own [] rows)
  refine sorted_unique ?_ ((isort_pw (keys S)).filter _) (isort_pw _)
  have nd1 : (agS S x lo hi own).Nodup := (pk.nodup_iff.mpr g.nd).filter _
  have nd2 : (isort (due x lo hi own [] rows)).Nodup := pd.nodup_iff.mpr (due_nd x lo hi own rows [] List.nodup_nil)
  refine (List.perm_ext_iff_of_nodup nd1 nd2).mpr fun o => ?_
  rw [pd.mem_iff, due_mem]
  unfold agS ag
  rw [List.mem_filter, pk.mem_iff, g.mem, g.get]
  simp only [List.not_mem_nil, false_or, Bool.and_eq_true, decide_eq_true_eq, List.any_eq_true, List.mem_map, List.mem_filter, ne_eq]
  constructor
  · rintro ⟨_, hx, r, ⟨q, ⟨hq, ho⟩, rfl⟩, hh⟩
    refine ⟨q, hq, ?_, ho⟩
    unfold cond
    unfold hit at hh
    rw [Int.max_comm, Int.min_comm] at hh
    rw [hh, ho]
    simp [hx]
  · rintro ⟨q, hq, hc, ho⟩
    unfold cond at hc
    rw [Bool.and_eq_true] at hc
    refine ⟨⟨q, hq, ho⟩, ?_, q.2, ⟨q, ⟨hq, ho⟩, rfl⟩, ?_⟩
    · have := hc.1
      rw [ho] at this
      simpa using this
    · unfold hit
      rw [Int.max_comm, Int.min_comm]
      exact hc.2
end K23

namespace K23
open PySem PySem.Spec L2 SK
def eR (f : Fg) (rows : List (Int × Row)) : D := .nd f .lst (rows.map row4)
theorem eR_hd {rows : List (Int × Row)} : (eR .ow rows).hd = true := id rfl
theorem noTms_row4 (rows : List (Int × Row)) : D.noTms (rows.map row4) = true := by
  rw [noTms_all]; simp [row4, D.noTm, D.noTms]
theorem eR_tmr {rows : List (Int × Row)} : (eR .ow rows).tmr = eR .tm rows := by
  unfold eR
  rw [tmr_ow, tmrs_map]; simp [row4, tmr_sh]
theorem eR_noTm {rows : List (Int × Row)} : (eR .ow rows).noTm = true := by
  unfold eR
  rw [noTm_ow, noTms_row4]
theorem e_due' (rows : List (Int × Row)) (h : rows.length < 60) (x lo hi : Int) (own : Bool) : fn__law_due [eR .tm rows, .int x, .int lo, .int hi, .bl own] = some (.ret (eInts .sh (isort (due x lo hi own [] rows))) []) := e_due rows h x lo hi own
theorem eInts_shr {xs : List Int} : (eInts .sh xs).shr = eInts .sh xs := by
  unfold eInts
  rw [shr_nd, shrs_ints]
theorem due_append (x lo hi : Int) (own : Bool) (rows : List (Int × Row)) (r : Row) : due x lo hi own [] (rows ++ [(x, r)]) = due x lo hi own [] rows := by
  unfold due
  rw [List.foldl_append]
  simp [cond]
theorem due_lt {x lo hi : Int} {own : Bool} {rows : List (Int × Row)} (h : rows.length < 60) : (isort (due x lo hi own [] rows)).length < 1000 := by
  have := due_len x lo hi own rows []
  have := (isort_perm (due x lo hi own [] rows)).length_eq
  simp at *; omega
theorem app_rows (rows : List (Int × Row)) (x lo hi : Int) (own : Bool) (h : rows.length < 60) {Γ : Gm} (hΓ : Γ[5]?.join = some (eR .ow rows)) : appAt Γ 5 [] (.nd .sh .tup [.int x, .int lo, .int hi, .bl own]) = some (Γ.set 5 (some (eR .ow (rows ++ [(x, ⟨lo, hi, own⟩)])))) := by
  unfold appAt
  rw [hΓ]
  simp only [Option.bind_some, pget, eR, pput]
  rw [if_pos (by simp; omega)]
  simp [row4]
abbrev stt (sD : D) (base step off : Int) (S : Shelf) (rows : List (Int × Row)) (o6 o7 o8 o9 o10 o11 o12 o13 o14 o15 : Option D) : Gm := [some sD, some (.int base), some (.int step), some (.int off), some (eHolds .ow S), some (eR .ow rows), o6, o7, o8, o9, o10, o11, o12, o13, o14, o15]
theorem against_ok {S : Shelf} {rows : List (Int × Row)} (g : Good S rows) (hl : rows.length < 60) (x lo hi : Int) (own : Bool) : fn_Holds_against [eHolds .tm S, .int x, .int lo, .int hi, .bl own] = some (.ret (eInts .ow (isort (due x lo hi own [] rows))) []) := by
  rw [e_against S (by have := g.len; omega), ag_due g]
theorem av_ag {S : Shelf} {Γ : Gm} (h : Γ[4]?.join = some (eHolds .ow S)) : avInsOf Γ "Holds" "against" (.slot 4) = true := by
  rw [avIns_slot (f := .ow) (ns := ["lists"]) (ds := [.nd .ow (.dic (S.map fun p => Sum.inl p.1)) (S.map fun p => eRows .ow p.2)]) h]; decide
theorem eHolds_hd {S : Shelf} : (eHolds .ow S).hd = true := id rfl
theorem last_ok (sD : D) (base step off x lo hi : Int) (own : Bool) (S : Shelf) (rows : List (Int × Row)) (g : Good S rows) (hl : rows.length < 60) (o6 o7 o8 o13 o14 : Option D) (st : Int) :
    lr_law_1 (stt sD base step off S rows o6 o7 o8 (some (.int x)) (some (.int lo)) (some (.int hi)) (some (.bl own)) o13 o14 (some (.int st))) = some (.ok .nx (stt sD base step off S rows o6 o7 o8 (some (.int x)) (some (.int lo)) (some (.int hi)) (some (.bl own)) o13 o14 (some (.int st)))) := by
  unfold lr_law_1
  have a1 := av_ag (S := S) (Γ := stt sD base step off S rows o6 o7 o8 (some (.int x)) (some (.int lo)) (some (.int hi)) (some (.bl own)) o13 o14 (some (.int st))) rfl
  have a2 := against_ok g hl st lo hi true
  have a3 := e_due' rows hl st lo hi true
  have a4 := e_alike (isort (due st lo hi true [] rows)) (due_lt hl)
  simp only [Xc_ok, Xc_ok0, nLoop1_ok, nLoop2_nx, nLoop2_ct, nLoop2_bk, nLoop2_rt, nLoop2_ex, nLO2_nx, nLO2_ct, nLO2_bk, nLO2_rt, nLO2_ex, hTup_sh, hTup_tm, hCons_ok, hNil_ok, gThen_e, nThen_nx, nThen_rt, nThen_bk, nThen_ct, nThen_ex, gIf_e, nIf_t, nIf_f, nIf_ex, gNil_e, gBk_e, gCt_e, gRetN_e, gSet_e, nSet_ok, nSet_ex, gSetF_e, nSetF_ok, nSetF_ex, gDrop_e, nDrop_ok, nDrop_ex, gRet_e, nRet_ok, nRet_ex, gAsg_e, nAsg_ok, lQ_e, nQ_ok, vQ_e, nVQ_ok, vN_e, nVN_ok, nVN_ow, vL_e, nVL_ok, nVL_ex, lF_e, nF_ok, frQ_e, nFQ_ok, lM_e, nM_ok, lMp_e, nMp_ok, aNil_e, aCons_e, nAC_ok, nAC_ex, nAC2_ok, nAC2_ex, lFn_e, nFn_ok, nFn_ex, nCall1_ok, nCall2_rt, nCall2_ex, lMeth_e, nMe_ok, nMe_ex, nMe2_ok, nMe2_ex, ltQ_e, nLtQ_ok, ltV_e, nLtV_ok, nLtV_ex, ltNot_e, nNot_ok, nNot_ex, ltAnd_e, nAnd_t, nAnd_f, nAnd_ex, ltOr_e, nOr_t, nOr_f, nOr_ex, qAnd_e, nQAnd_t, nQAnd_f, qOr_e, nQOr_t, nQOr_f, qNot_e, nQNot_ok, qB_e, qTru_e, nB_ok, asBl_e, q2_e, n2_ok, q1_e, n1_ok, q3_e, n3_ok, qV_e, qC_e, qN_e, nN_ok, qNil_e, qCons_e, nCons_ok, qSeq_e, frSeq_e, mkSeq_e, mkOw_e, frDK_e, frDT_e, qONone_e, qOSome_e, nO_ok, qSl_e, nSl_ok, qFn_e, nQF_ok, nQF2_ok, frFn_e, nFF_ok, nFF2_ok, frMk_e, nMk_ok, nMk2_ok, wLst_e, wTup_e, nW_ok, wEnum_e, wRg1_e, wRg2_e, nWs_ok, asLst_sh, asLst_tm, asTup_sh, asTup_tm, gFor_e, nFor_ok, gPut_e, nPut_ok, nPut_ex, nPut2_ok, gFput_e, nFput_ok, nFput_ex, nFput2_ok, lApp_e, nApp_ok, lAppE_e, nAppE_ok, plN_e, plF_e, plS_e, plSd_e, nSd_ok, gRaise_e, nRaise2_ok, gTryPair_e, nTryPair_ok, nTryPair_ex, nForO_ok, hd_non, hd_bl, hd_int, hd_str, hd_sh, hd_tm, hd_ow, noTm_non, noTm_bl, noTm_int, noTm_str, noTm_sh, noTm_ow, shr_non, shr_bl, shr_int, shr_str, shr_nd, tmr_non, tmr_bl, tmr_int, tmr_str, tmr_sh, tmr_tm, tmr_ow, all0_nil, all0_cons, dAdd_e, dSubt_e, dMul_e, dDiv_e, dMod_e, dPow_e, dLt_e, dLe_e, dGt_e, dGe_e, dEq_int, dNe_int, dEq_ints, dNe_ints, fnOf_e, nEnd_nx, nEnd_rt, nEnd_ex, nOuts_ok, outsOf_nil, outsOf_cons, gj_nil, gj_zero, gj_succ, gs_zero, gs_succ, argD_val, argD_slot, nArg_t, nArg_f, pget_nil, pget_cons, pput_nil, callF_e, gRaise2_e, gForO_e, setG_e, argD_nil, pput_cons, noTms_nil, tmrs_nil, tmrs_cons, noTms_cons, eq_self, Option.join_some, Option.join_none, List.map_cons, List.map_nil, List.cons_append, List.nil_append, List.append_nil, List.replicate_succ, List.replicate_zero, List.length_cons, List.length_nil, Option.map_some, Option.map_none, Option.bind_some, Option.bind_none, Nat.reduceAdd, Nat.reduceLT, Nat.reduceLeDiff, Nat.reduceEqDiff, Bool.not_true, Bool.not_false, Bool.and_true, Bool.true_and, Bool.and_self, reduceIte, if_true, if_false, slots_nil, slots_val, slots_slot, clr, back, List.getElem?_cons_zero, List.getElem?_cons_succ, List.nodup_cons, List.not_mem_nil, not_false_eq_true, List.nodup_nil, and_self, Nat.zero_add, Bool.false_eq_true, List.mem_cons, List.mem_singleton, true_or, or_true, or_false, false_or, Nat.add_one_sub_one, a1, a2, a3, a4, eHolds_hd, eR_hd, eHolds_tmr, eR_tmr, eInts_ow, eInts_sh, eInts_hdo, eInts_hds]
theorem good_len {S : Shelf} {rows : List (Int × Row)} (g : Good S rows) (hl : rows.length < 60) : S.length < 64 ∧ ∀ p ∈ S, p.2.length < 1000 := ⟨by have := g.len; omega, fun p hp => by have := g.sz p hp; omega⟩
theorem tail_ok (sD : D) (base step off x lo hi : Int) (own : Bool) (S : Shelf) (rows : List (Int × Row)) (g : Good S rows) (hl : rows.length < 50) (o6 o7 o8 o13 o14 o15 : Option D) :
    ∃ S' rows' p8 p9 p10 p11 p12 p13 p14 p15, Good S' rows' ∧ rows'.length ≤ rows.length + 1 ∧
      lr_law_2 (stt sD base step off S rows o6 o7 o8 (some (.int x)) (some (.int lo)) (some (.int hi)) (some (.bl own)) o13 o14 o15) = some (.ok .nx (stt sD base step off S' rows' o6 o7 p8 p9 p10 p11 p12 p13 p14 p15)) := by
  obtain ⟨hS, hr⟩ := good_len g (by omega)
  have u2 : dMul (.int step) (.int 6) = some (.int (step * 6)) := dMul_e (.inr (by omega))
  have a2 := against_ok g (by omega) x lo hi own
  have a3 := e_due' rows (by omega) x lo hi own
  have a4 := e_alike (isort (due x lo hi own [] rows)) (due_lt (by omega))
  have a5 := e_taken S hS hr x lo hi own
  have a6 := eHolds_noTm S
  have a7 := eHolds_noTm (putS S x ⟨lo, hi, own⟩)
  have gp := good_put g x ⟨lo, hi, own⟩
  have b2 := against_ok gp (by simp; omega) x lo hi own
  rw [due_append] at b2
  have e5 : mkSeq .lst [] = some (.nd .sh .lst []) := rfl
  rw [ag_due g] at a5
  have av : ∀ (S : Shelf) (a b c d e f g h i j k l m n o : Option D), avInsOf [a, b, c, d, some (eHolds .ow S), e, f, g, h, i, j, k, l, m, n, o] "Holds" "against" (.slot 4) = true := fun S a b c d e f g h i j k l m n o => av_ag rfl
  by_cases hL : isort (due x lo hi own [] rows) = []
  · rw [if_pos hL] at a5
    refine ⟨putS S x ⟨lo, hi, own⟩, rows ++ [(x, ⟨lo, hi, own⟩)], o8, some (.int x), some (.int lo), some (.int hi), some (.bl own), some (eInts .sh []), some .non, some (.int (base + step * 6)), gp, by simp, ?_⟩
    rw [hL] at a2 a3 a4 b2
    have c1 := last_ok sD base step off x lo hi own (putS S x ⟨lo, hi, own⟩) (rows ++ [(x, ⟨lo, hi, own⟩)]) gp (by simp; omega) o6 o7 o8 (some (eInts .sh [])) (some .non) (base + step * 6)
    unfold lr_law_2
    have ap : ∀ (a b c d e f g h i j k l m n o : Option D), appAt [a, b, c, d, e, some (eR .ow rows), f, g, h, i, j, k, l, m, n, o] 5 [] (.nd .sh .tup [.int x, .int lo, .int hi, .bl own]) = some [a, b, c, d, e, some (eR .ow (rows ++ [(x, ⟨lo, hi, own⟩)])), f, g, h, i, j, k, l, m, n, o] := fun a b c d e f g h i j k l m n o => app_rows rows x lo hi own (by omega) rfl
    have dn : dIsNot .non .non = some (.bl false) := rfl
    simp only [Xc_ok, Xc_ok0, nLoop1_ok, nLoop2_nx, nLoop2_ct, nLoop2_bk, nLoop2_rt, nLoop2_ex, nLO2_nx, nLO2_ct, nLO2_bk, nLO2_rt, nLO2_ex, hTup_sh, hTup_tm, hCons_ok, hNil_ok, gThen_e, nThen_nx, nThen_rt, nThen_bk, nThen_ct, nThen_ex, gIf_e, nIf_t, nIf_f, nIf_ex, gNil_e, gBk_e, gCt_e, gRetN_e, gSet_e, nSet_ok, nSet_ex, gSetF_e, nSetF_ok, nSetF_ex, gDrop_e, nDrop_ok, nDrop_ex, gRet_e, nRet_ok, nRet_ex, gAsg_e, nAsg_ok, lQ_e, nQ_ok, vQ_e, nVQ_ok, vN_e, nVN_ok, nVN_ow, vL_e, nVL_ok, nVL_ex, lF_e, nF_ok, frQ_e, nFQ_ok, lM_e, nM_ok, lMp_e, nMp_ok, aNil_e, aCons_e, nAC_ok, nAC_ex, nAC2_ok, nAC2_ex, lFn_e, nFn_ok, nFn_ex, nCall1_ok, nCall2_rt, nCall2_ex, lMeth_e, nMe_ok, nMe_ex, nMe2_ok, nMe2_ex, ltQ_e, nLtQ_ok, ltV_e, nLtV_ok, nLtV_ex, ltNot_e, nNot_ok, nNot_ex, ltAnd_e, nAnd_t, nAnd_f, nAnd_ex, ltOr_e, nOr_t, nOr_f, nOr_ex, qAnd_e, nQAnd_t, nQAnd_f, qOr_e, nQOr_t, nQOr_f, qNot_e, nQNot_ok, qB_e, qTru_e, nB_ok, asBl_e, q2_e, n2_ok, q1_e, n1_ok, q3_e, n3_ok, qV_e, qC_e, qN_e, nN_ok, qNil_e, qCons_e, nCons_ok, qSeq_e, frSeq_e, mkSeq_e, mkOw_e, frDK_e, frDT_e, qONone_e, qOSome_e, nO_ok, qSl_e, nSl_ok, qFn_e, nQF_ok, nQF2_ok, frFn_e, nFF_ok, nFF2_ok, frMk_e, nMk_ok, nMk2_ok, wLst_e, wTup_e, nW_ok, wEnum_e, wRg1_e, wRg2_e, nWs_ok, asLst_sh, asLst_tm, asTup_sh, asTup_tm, gFor_e, nFor_ok, gPut_e, nPut_ok, nPut_ex, nPut2_ok, gFput_e, nFput_ok, nFput_ex, nFput2_ok, lApp_e, nApp_ok, lAppE_e, nAppE_ok, plN_e, plF_e, plS_e, plSd_e, nSd_ok, gRaise_e, nRaise2_ok, gTryPair_e, nTryPair_ok, nTryPair_ex, nForO_ok, hd_non, hd_bl, hd_int, hd_str, hd_sh, hd_tm, hd_ow, noTm_non, noTm_bl, noTm_int, noTm_str, noTm_sh, noTm_ow, shr_non, shr_bl, shr_int, shr_str, shr_nd, tmr_non, tmr_bl, tmr_int, tmr_str, tmr_sh, tmr_tm, tmr_ow, all0_nil, all0_cons, dAdd_e, dSubt_e, dMul_e, dDiv_e, dMod_e, dPow_e, dLt_e, dLe_e, dGt_e, dGe_e, dEq_int, dNe_int, dEq_ints, dNe_ints, fnOf_e, nEnd_nx, nEnd_rt, nEnd_ex, nOuts_ok, outsOf_nil, outsOf_cons, gj_nil, gj_zero, gj_succ, gs_zero, gs_succ, argD_val, argD_slot, nArg_t, nArg_f, pget_nil, pget_cons, pput_nil, callF_e, gRaise2_e, gForO_e, setG_e, argD_nil, pput_cons, noTms_nil, tmrs_nil, tmrs_cons, noTms_cons, eq_self, Option.join_some, Option.join_none, List.map_cons, List.map_nil, List.cons_append, List.nil_append, List.append_nil, List.replicate_succ, List.replicate_zero, List.length_cons, List.length_nil, Option.map_some, Option.map_none, Option.bind_some, Option.bind_none, Nat.reduceAdd, Nat.reduceLT, Nat.reduceLeDiff, Nat.reduceEqDiff, Bool.not_true, Bool.not_false, Bool.and_true, Bool.true_and, Bool.and_self, reduceIte, if_true, if_false, slots_nil, slots_val, slots_slot, clr, back, List.getElem?_cons_zero, List.getElem?_cons_succ, List.nodup_cons, List.not_mem_nil, not_false_eq_true, List.nodup_nil, and_self, Nat.zero_add, Bool.false_eq_true, List.mem_cons, List.mem_singleton, true_or, or_true, or_false, false_or, Nat.add_one_sub_one, av, a2, a3, a4, a5, a6, a7, b2, e5, eHolds_hd, eR_hd, eHolds_tmr, eR_tmr, eInts_ow, eInts_sh, eInts_hdo, eInts_hds, eInts_shr, dEq_nil, decide_true, dn, ap, u2, c1]
  · rw [if_neg hL] at a5
    refine ⟨S, rows, o8, some (.int x), some (.int lo), some (.int hi), some (.bl own), some (eInts .sh (isort (due x lo hi own [] rows))), none, some (.int (base + step * 6)), g, by omega, ?_⟩
    generalize isort (due x lo hi own [] rows) = L at *
    have c1 := last_ok sD base step off x lo hi own S rows g (by omega) o6 o7 o8 (some (eInts .sh L)) none (base + step * 6)
    unfold lr_law_2
    have dn : dIs (.nd .ow .tup [.int x, eInts .ow L]) .non = some (.bl false) := rfl
    have d0 : dSub (.nd .ow .tup [.int x, eInts .ow L]) (.int 0) = some (.int x) := rfl
    have pl : ∀ (a b c d e f g h i j k l m n o : Option D), nPS [a, b, c, d, e, f, g, h, i, j, k, l, m, n, some (.nd .ow .tup [.int x, eInts .ow L]), o] 14 (some []) (some (.int 1)) = some [1] := fun a b c d e f g h i j k l m n o => rfl
    have at14 : ∀ (a b c d e f g h i j k l m n o : Option D), atP [a, b, c, d, e, f, g, h, i, j, k, l, m, n, some (.nd .ow .tup [.int x, eInts .ow L]), o] 14 [1] = some (eInts .ow L) := fun a b c d e f g h i j k l m n o => rfl
    simp only [Xc_ok, Xc_ok0, nLoop1_ok, nLoop2_nx, nLoop2_ct, nLoop2_bk, nLoop2_rt, nLoop2_ex, nLO2_nx, nLO2_ct, nLO2_bk, nLO2_rt, nLO2_ex, hTup_sh, hTup_tm, hCons_ok, hNil_ok, gThen_e, nThen_nx, nThen_rt, nThen_bk, nThen_ct, nThen_ex, gIf_e, nIf_t, nIf_f, nIf_ex, gNil_e, gBk_e, gCt_e, gRetN_e, gSet_e, nSet_ok, nSet_ex, gSetF_e, nSetF_ok, nSetF_ex, gDrop_e, nDrop_ok, nDrop_ex, gRet_e, nRet_ok, nRet_ex, gAsg_e, nAsg_ok, lQ_e, nQ_ok, vQ_e, nVQ_ok, vN_e, nVN_ok, nVN_ow, vL_e, nVL_ok, nVL_ex, lF_e, nF_ok, frQ_e, nFQ_ok, lM_e, nM_ok, lMp_e, nMp_ok, aNil_e, aCons_e, nAC_ok, nAC_ex, nAC2_ok, nAC2_ex, lFn_e, nFn_ok, nFn_ex, nCall1_ok, nCall2_rt, nCall2_ex, lMeth_e, nMe_ok, nMe_ex, nMe2_ok, nMe2_ex, ltQ_e, nLtQ_ok, ltV_e, nLtV_ok, nLtV_ex, ltNot_e, nNot_ok, nNot_ex, ltAnd_e, nAnd_t, nAnd_f, nAnd_ex, ltOr_e, nOr_t, nOr_f, nOr_ex, qAnd_e, nQAnd_t, nQAnd_f, qOr_e, nQOr_t, nQOr_f, qNot_e, nQNot_ok, qB_e, qTru_e, nB_ok, asBl_e, q2_e, n2_ok, q1_e, n1_ok, q3_e, n3_ok, qV_e, qC_e, qN_e, nN_ok, qNil_e, qCons_e, nCons_ok, qSeq_e, frSeq_e, mkSeq_e, mkOw_e, frDK_e, frDT_e, qONone_e, qOSome_e, nO_ok, qSl_e, nSl_ok, qFn_e, nQF_ok, nQF2_ok, frFn_e, nFF_ok, nFF2_ok, frMk_e, nMk_ok, nMk2_ok, wLst_e, wTup_e, nW_ok, wEnum_e, wRg1_e, wRg2_e, nWs_ok, asLst_sh, asLst_tm, asTup_sh, asTup_tm, gFor_e, nFor_ok, gPut_e, nPut_ok, nPut_ex, nPut2_ok, gFput_e, nFput_ok, nFput_ex, nFput2_ok, lApp_e, nApp_ok, lAppE_e, nAppE_ok, plN_e, plF_e, plS_e, plSd_e, nSd_ok, gRaise_e, nRaise2_ok, gTryPair_e, nTryPair_ok, nTryPair_ex, nForO_ok, hd_non, hd_bl, hd_int, hd_str, hd_sh, hd_tm, hd_ow, noTm_non, noTm_bl, noTm_int, noTm_str, noTm_sh, noTm_ow, shr_non, shr_bl, shr_int, shr_str, shr_nd, tmr_non, tmr_bl, tmr_int, tmr_str, tmr_sh, tmr_tm, tmr_ow, all0_nil, all0_cons, dAdd_e, dSubt_e, dMul_e, dDiv_e, dMod_e, dPow_e, dLt_e, dLe_e, dGt_e, dGe_e, dEq_int, dNe_int, dEq_ints, dNe_ints, fnOf_e, nEnd_nx, nEnd_rt, nEnd_ex, nOuts_ok, outsOf_nil, outsOf_cons, gj_nil, gj_zero, gj_succ, gs_zero, gs_succ, argD_val, argD_slot, nArg_t, nArg_f, pget_nil, pget_cons, pput_nil, callF_e, gRaise2_e, gForO_e, setG_e, argD_nil, pput_cons, noTms_nil, tmrs_nil, tmrs_cons, noTms_cons, eq_self, Option.join_some, Option.join_none, List.map_cons, List.map_nil, List.cons_append, List.nil_append, List.append_nil, List.replicate_succ, List.replicate_zero, List.length_cons, List.length_nil, Option.map_some, Option.map_none, Option.bind_some, Option.bind_none, Nat.reduceAdd, Nat.reduceLT, Nat.reduceLeDiff, Nat.reduceEqDiff, Bool.not_true, Bool.not_false, Bool.and_true, Bool.true_and, Bool.and_self, reduceIte, if_true, if_false, slots_nil, slots_val, slots_slot, clr, back, List.getElem?_cons_zero, List.getElem?_cons_succ, List.nodup_cons, List.not_mem_nil, not_false_eq_true, List.nodup_nil, and_self, Nat.zero_add, Bool.false_eq_true, List.mem_cons, List.mem_singleton, true_or, or_true, or_false, false_or, Nat.add_one_sub_one, av, a2, a3, a4, a5, a6, e5, eHolds_hd, eR_hd, eHolds_tmr, eR_tmr, eInts_ow, eInts_sh, eInts_hdo, eInts_hds, eInts_shr, dEq_nil, hL, decide_false, dn, d0, dNe_int, decide_true, pl, at14, u2, c1]
theorem step_ok (sD : D) (base step off : Int) (S : Shelf) (rows : List (Int × Row)) (g : Good S rows) (hl : rows.length < 50) (k : Nat) (c : Int) (o8 o9 o10 o11 o12 o13 o14 o15 : Option D) :
    ∃ S' rows' p8 p9 p10 p11 p12 p13 p14 p15, Good S' rows' ∧ rows'.length ≤ rows.length + 1 ∧
      lb_law_3 (stt sD base step off S rows (some (.int k)) (some (.int c)) o8 o9 o10 o11 o12 o13 o14 o15) = some (.ok .nx (stt sD base step off S' rows' (some (.int k)) (some (.int c)) p8 p9 p10 p11 p12 p13 p14 p15)) := by
  have d6 : ∀ z : Int, dDiv (.int z) (.int 6) = some (.int (z / 6)) := fun z => dDiv_e ⟨by decide, by decide⟩
  have d246 : ∀ z : Int, dDiv (.int z) (.int 246) = some (.int (z / 246)) := fun z => dDiv_e ⟨by decide, by decide⟩
  have d2460 : ∀ z : Int, dDiv (.int z) (.int 2460) = some (.int (z / 2460)) := fun z => dDiv_e ⟨by decide, by decide⟩
  have d19680 : ∀ z : Int, dDiv (.int z) (.int 19680) = some (.int (z / 19680)) := fun z => dDiv_e ⟨by decide, by decide⟩
  have m6 : ∀ z : Int, dMod (.int z) (.int 6) = some (.int (z % 6)) := fun z => dMod_e (by decide)
  have m41 : ∀ z : Int, dMod (.int z) (.int 41) = some (.int (z % 41)) := fun z => dMod_e (by decide)
  have m10 : ∀ z : Int, dMod (.int z) (.int 10) = some (.int (z % 10)) := fun z => dMod_e (by decide)
  have m8 : ∀ z : Int, dMod (.int z) (.int 8) = some (.int (z % 8)) := fun z => dMod_e (by decide)
  have m3 : ∀ z : Int, dMod (.int z) (.int 3) = some (.int (z % 3)) := fun z => dMod_e (by decide)
  have u1 : ∀ z : Int, dMul (.int step) (.int (z % 6)) = some (.int (step * (z % 6))) := fun z => dMul_e (.inr (by omega))
  have p20 : dPow (.int 10) (.int 20) = some (.int (10 ^ 20)) := dPow_e (by decide)
  have em := e_mixed c k
  generalize mixed c k = n at em
  unfold lb_law_3
  by_cases h8 : n / 2460 % 8 = 1
  · obtain ⟨S', rows', p8, p9, p10, p11, p12, p13, p14, p15, g', l', e⟩ := tail_ok sD base step off (base + step * (n % 6)) (off + n / 6 % 41) (off + n / 6 % 41 + n / 246 % 10 - 1 + 10 ^ 20) (decide (n / 19680 % 3 = 1)) S rows g hl (some (.int k)) (some (.int c)) (some (.int n)) o13 o14 o15
    refine ⟨S', rows', p8, p9, p10, p11, p12, p13, p14, p15, g', l', ?_⟩
    simp only [Xc_ok, Xc_ok0, nLoop1_ok, nLoop2_nx, nLoop2_ct, nLoop2_bk, nLoop2_rt, nLoop2_ex, nLO2_nx, nLO2_ct, nLO2_bk, nLO2_rt, nLO2_ex, hTup_sh, hTup_tm, hCons_ok, hNil_ok, gThen_e, nThen_nx, nThen_rt, nThen_bk, nThen_ct, nThen_ex, gIf_e, nIf_t, nIf_f, nIf_ex, gNil_e, gBk_e, gCt_e, gRetN_e, gSet_e, nSet_ok, nSet_ex, gSetF_e, nSetF_ok, nSetF_ex, gDrop_e, nDrop_ok, nDrop_ex, gRet_e, nRet_ok, nRet_ex, gAsg_e, nAsg_ok, lQ_e, nQ_ok, vQ_e, nVQ_ok, vN_e, nVN_ok, nVN_ow, vL_e, nVL_ok, nVL_ex, lF_e, nF_ok, frQ_e, nFQ_ok, lM_e, nM_ok, lMp_e, nMp_ok, aNil_e, aCons_e, nAC_ok, nAC_ex, nAC2_ok, nAC2_ex, lFn_e, nFn_ok, nFn_ex, nCall1_ok, nCall2_rt, nCall2_ex, lMeth_e, nMe_ok, nMe_ex, nMe2_ok, nMe2_ex, ltQ_e, nLtQ_ok, ltV_e, nLtV_ok, nLtV_ex, ltNot_e, nNot_ok, nNot_ex, ltAnd_e, nAnd_t, nAnd_f, nAnd_ex, ltOr_e, nOr_t, nOr_f, nOr_ex, qAnd_e, nQAnd_t, nQAnd_f, qOr_e, nQOr_t, nQOr_f, qNot_e, nQNot_ok, qB_e, qTru_e, nB_ok, asBl_e, q2_e, n2_ok, q1_e, n1_ok, q3_e, n3_ok, qV_e, qC_e, qN_e, nN_ok, qNil_e, qCons_e, nCons_ok, qSeq_e, frSeq_e, mkSeq_e, mkOw_e, frDK_e, frDT_e, qONone_e, qOSome_e, nO_ok, qSl_e, nSl_ok, qFn_e, nQF_ok, nQF2_ok, frFn_e, nFF_ok, nFF2_ok, frMk_e, nMk_ok, nMk2_ok, wLst_e, wTup_e, nW_ok, wEnum_e, wRg1_e, wRg2_e, nWs_ok, asLst_sh, asLst_tm, asTup_sh, asTup_tm, gFor_e, nFor_ok, gPut_e, nPut_ok, nPut_ex, nPut2_ok, gFput_e, nFput_ok, nFput_ex, nFput2_ok, lApp_e, nApp_ok, lAppE_e, nAppE_ok, plN_e, plF_e, plS_e, plSd_e, nSd_ok, gRaise_e, nRaise2_ok, gTryPair_e, nTryPair_ok, nTryPair_ex, nForO_ok, hd_non, hd_bl, hd_int, hd_str, hd_sh, hd_tm, hd_ow, noTm_non, noTm_bl, noTm_int, noTm_str, noTm_sh, noTm_ow, shr_non, shr_bl, shr_int, shr_str, shr_nd, tmr_non, tmr_bl, tmr_int, tmr_str, tmr_sh, tmr_tm, tmr_ow, all0_nil, all0_cons, dAdd_e, dSubt_e, dMul_e, dDiv_e, dMod_e, dPow_e, dLt_e, dLe_e, dGt_e, dGe_e, dEq_int, dNe_int, dEq_ints, dNe_ints, fnOf_e, nEnd_nx, nEnd_rt, nEnd_ex, nOuts_ok, outsOf_nil, outsOf_cons, gj_nil, gj_zero, gj_succ, gs_zero, gs_succ, argD_val, argD_slot, nArg_t, nArg_f, pget_nil, pget_cons, pput_nil, callF_e, gRaise2_e, gForO_e, setG_e, argD_nil, pput_cons, noTms_nil, tmrs_nil, tmrs_cons, noTms_cons, eq_self, Option.join_some, Option.join_none, List.map_cons, List.map_nil, List.cons_append, List.nil_append, List.append_nil, List.replicate_succ, List.replicate_zero, List.length_cons, List.length_nil, Option.map_some, Option.map_none, Option.bind_some, Option.bind_none, Nat.reduceAdd, Nat.reduceLT, Nat.reduceLeDiff, Nat.reduceEqDiff, Bool.not_true, Bool.not_false, Bool.and_true, Bool.true_and, Bool.and_self, reduceIte, if_true, if_false, slots_nil, slots_val, slots_slot, clr, back, List.getElem?_cons_zero, List.getElem?_cons_succ, List.nodup_cons, List.not_mem_nil, not_false_eq_true, List.nodup_nil, and_self, Nat.zero_add, Bool.false_eq_true, List.mem_cons, List.mem_singleton, true_or, or_true, or_false, false_or, Nat.add_one_sub_one, em, d6, d246, d2460, d19680, m6, m41, m10, m8, m3, u1, p20, dEq_int, h8, decide_true, e]
  · obtain ⟨S', rows', p8, p9, p10, p11, p12, p13, p14, p15, g', l', e⟩ := tail_ok sD base step off (base + step * (n % 6)) (off + n / 6 % 41) (off + n / 6 % 41 + n / 246 % 10 - 1) (decide (n / 19680 % 3 = 1)) S rows g hl (some (.int k)) (some (.int c)) (some (.int n)) o13 o14 o15
    refine ⟨S', rows', p8, p9, p10, p11, p12, p13, p14, p15, g', l', ?_⟩
    simp only [Xc_ok, Xc_ok0, nLoop1_ok, nLoop2_nx, nLoop2_ct, nLoop2_bk, nLoop2_rt, nLoop2_ex, nLO2_nx, nLO2_ct, nLO2_bk, nLO2_rt, nLO2_ex, hTup_sh, hTup_tm, hCons_ok, hNil_ok, gThen_e, nThen_nx, nThen_rt, nThen_bk, nThen_ct, nThen_ex, gIf_e, nIf_t, nIf_f, nIf_ex, gNil_e, gBk_e, gCt_e, gRetN_e, gSet_e, nSet_ok, nSet_ex, gSetF_e, nSetF_ok, nSetF_ex, gDrop_e, nDrop_ok, nDrop_ex, gRet_e, nRet_ok, nRet_ex, gAsg_e, nAsg_ok, lQ_e, nQ_ok, vQ_e, nVQ_ok, vN_e, nVN_ok, nVN_ow, vL_e, nVL_ok, nVL_ex, lF_e, nF_ok, frQ_e, nFQ_ok, lM_e, nM_ok, lMp_e, nMp_ok, aNil_e, aCons_e, nAC_ok, nAC_ex, nAC2_ok, nAC2_ex, lFn_e, nFn_ok, nFn_ex, nCall1_ok, nCall2_rt, nCall2_ex, lMeth_e, nMe_ok, nMe_ex, nMe2_ok, nMe2_ex, ltQ_e, nLtQ_ok, ltV_e, nLtV_ok, nLtV_ex, ltNot_e, nNot_ok, nNot_ex, ltAnd_e, nAnd_t, nAnd_f, nAnd_ex, ltOr_e, nOr_t, nOr_f, nOr_ex, qAnd_e, nQAnd_t, nQAnd_f, qOr_e, nQOr_t, nQOr_f, qNot_e, nQNot_ok, qB_e, qTru_e, nB_ok, asBl_e, q2_e, n2_ok, q1_e, n1_ok, q3_e, n3_ok, qV_e, qC_e, qN_e, nN_ok, qNil_e, qCons_e, nCons_ok, qSeq_e, frSeq_e, mkSeq_e, mkOw_e, frDK_e, frDT_e, qONone_e, qOSome_e, nO_ok, qSl_e, nSl_ok, qFn_e, nQF_ok, nQF2_ok, frFn_e, nFF_ok, nFF2_ok, frMk_e, nMk_ok, nMk2_ok, wLst_e, wTup_e, nW_ok, wEnum_e, wRg1_e, wRg2_e, nWs_ok, asLst_sh, asLst_tm, asTup_sh, asTup_tm, gFor_e, nFor_ok, gPut_e, nPut_ok, nPut_ex, nPut2_ok, gFput_e, nFput_ok, nFput_ex, nFput2_ok, lApp_e, nApp_ok, lAppE_e, nAppE_ok, plN_e, plF_e, plS_e, plSd_e, nSd_ok, gRaise_e, nRaise2_ok, gTryPair_e, nTryPair_ok, nTryPair_ex, nForO_ok, hd_non, hd_bl, hd_int, hd_str, hd_sh, hd_tm, hd_ow, noTm_non, noTm_bl, noTm_int, noTm_str, noTm_sh, noTm_ow, shr_non, shr_bl, shr_int, shr_str, shr_nd, tmr_non, tmr_bl, tmr_int, tmr_str, tmr_sh, tmr_tm, tmr_ow, all0_nil, all0_cons, dAdd_e, dSubt_e, dMul_e, dDiv_e, dMod_e, dPow_e, dLt_e, dLe_e, dGt_e, dGe_e, dEq_int, dNe_int, dEq_ints, dNe_ints, fnOf_e, nEnd_nx, nEnd_rt, nEnd_ex, nOuts_ok, outsOf_nil, outsOf_cons, gj_nil, gj_zero, gj_succ, gs_zero, gs_succ, argD_val, argD_slot, nArg_t, nArg_f, pget_nil, pget_cons, pput_nil, callF_e, gRaise2_e, gForO_e, setG_e, argD_nil, pput_cons, noTms_nil, tmrs_nil, tmrs_cons, noTms_cons, eq_self, Option.join_some, Option.join_none, List.map_cons, List.map_nil, List.cons_append, List.nil_append, List.append_nil, List.replicate_succ, List.replicate_zero, List.length_cons, List.length_nil, Option.map_some, Option.map_none, Option.bind_some, Option.bind_none, Nat.reduceAdd, Nat.reduceLT, Nat.reduceLeDiff, Nat.reduceEqDiff, Bool.not_true, Bool.not_false, Bool.and_true, Bool.true_and, Bool.and_self, reduceIte, if_true, if_false, slots_nil, slots_val, slots_slot, clr, back, List.getElem?_cons_zero, List.getElem?_cons_succ, List.nodup_cons, List.not_mem_nil, not_false_eq_true, List.nodup_nil, and_self, Nat.zero_add, Bool.false_eq_true, List.mem_cons, List.mem_singleton, true_or, or_true, or_false, false_or, Nat.add_one_sub_one, em, d6, d246, d2460, d19680, m6, m41, m10, m8, m3, u1, p20, dEq_int, h8, decide_false, e]
def item (p : Int × Nat) : D := .nd .sh .tup [.int (p.2 : Nat), .int p.1]
theorem law_loop (sD : D) (base step off : Int) : ∀ (its : List (Int × Nat)) (S : Shelf) (rows : List (Int × Row)), Good S rows → rows.length + its.length ≤ 50 → ∀ (o6 o7 o8 o9 o10 o11 o12 o13 o14 o15 : Option D), ∃ Γ : Gm, loopG lt_law_3 lb_law_3 (its.map item) (stt sD base step off S rows o6 o7 o8 o9 o10 o11 o12 o13 o14 o15) = some (.ok .nx Γ)
  | [], S, rows, g, hl, o6, o7, o8, o9, o10, o11, o12, o13, o14, o15 => ⟨_, by rw [List.map_nil, loopG_nil]⟩
  | p :: its, S, rows, g, hl, o6, o7, o8, o9, o10, o11, o12, o13, o14, o15 => by
    simp at hl
    obtain ⟨S', rows', p8, p9, p10, p11, p12, p13, p14, p15, g', l', e⟩ := step_ok sD base step off S rows g (by omega) p.2 p.1 o8 o9 o10 o11 o12 o13 o14 o15
    obtain ⟨Γ, e2⟩ := law_loop sD base step off its S' rows' g' (by omega) (some (.int p.2)) (some (.int p.1)) p8 p9 p10 p11 p12 p13 p14 p15
    refine ⟨Γ, ?_⟩
    rw [List.map_cons, loopG_cons]
    have e1 : lt_law_3 (item p) (stt sD base step off S rows o6 o7 o8 o9 o10 o11 o12 o13 o14 o15) = some (stt sD base step off S rows (some (.int p.2)) (some (.int p.1)) o8 o9 o10 o11 o12 o13 o14 o15) := by
      unfold lt_law_3 item
      simp only [Xc_ok, Xc_ok0, nLoop1_ok, nLoop2_nx, nLoop2_ct, nLoop2_bk, nLoop2_rt, nLoop2_ex, nLO2_nx, nLO2_ct, nLO2_bk, nLO2_rt, nLO2_ex, hTup_sh, hTup_tm, hCons_ok, hNil_ok, gThen_e, nThen_nx, nThen_rt, nThen_bk, nThen_ct, nThen_ex, gIf_e, nIf_t, nIf_f, nIf_ex, gNil_e, gBk_e, gCt_e, gRetN_e, gSet_e, nSet_ok, nSet_ex, gSetF_e, nSetF_ok, nSetF_ex, gDrop_e, nDrop_ok, nDrop_ex, gRet_e, nRet_ok, nRet_ex, gAsg_e, nAsg_ok, lQ_e, nQ_ok, vQ_e, nVQ_ok, vN_e, nVN_ok, nVN_ow, vL_e, nVL_ok, nVL_ex, lF_e, nF_ok, frQ_e, nFQ_ok, lM_e, nM_ok, lMp_e, nMp_ok, aNil_e, aCons_e, nAC_ok, nAC_ex, nAC2_ok, nAC2_ex, lFn_e, nFn_ok, nFn_ex, nCall1_ok, nCall2_rt, nCall2_ex, lMeth_e, nMe_ok, nMe_ex, nMe2_ok, nMe2_ex, ltQ_e, nLtQ_ok, ltV_e, nLtV_ok, nLtV_ex, ltNot_e, nNot_ok, nNot_ex, ltAnd_e, nAnd_t, nAnd_f, nAnd_ex, ltOr_e, nOr_t, nOr_f, nOr_ex, qAnd_e, nQAnd_t, nQAnd_f, qOr_e, nQOr_t, nQOr_f, qNot_e, nQNot_ok, qB_e, qTru_e, nB_ok, asBl_e, q2_e, n2_ok, q1_e, n1_ok, q3_e, n3_ok, qV_e, qC_e, qN_e, nN_ok, qNil_e, qCons_e, nCons_ok, qSeq_e, frSeq_e, mkSeq_e, mkOw_e, frDK_e, frDT_e, qONone_e, qOSome_e, nO_ok, qSl_e, nSl_ok, qFn_e, nQF_ok, nQF2_ok, frFn_e, nFF_ok, nFF2_ok, frMk_e, nMk_ok, nMk2_ok, wLst_e, wTup_e, nW_ok, wEnum_e, wRg1_e, wRg2_e, nWs_ok, asLst_sh, asLst_tm, asTup_sh, asTup_tm, gFor_e, nFor_ok, gPut_e, nPut_ok, nPut_ex, nPut2_ok, gFput_e, nFput_ok, nFput_ex, nFput2_ok, lApp_e, nApp_ok, lAppE_e, nAppE_ok, plN_e, plF_e, plS_e, plSd_e, nSd_ok, gRaise_e, nRaise2_ok, gTryPair_e, nTryPair_ok, nTryPair_ex, nForO_ok, hd_non, hd_bl, hd_int, hd_str, hd_sh, hd_tm, hd_ow, noTm_non, noTm_bl, noTm_int, noTm_str, noTm_sh, noTm_ow, shr_non, shr_bl, shr_int, shr_str, shr_nd, tmr_non, tmr_bl, tmr_int, tmr_str, tmr_sh, tmr_tm, tmr_ow, all0_nil, all0_cons, dAdd_e, dSubt_e, dMul_e, dDiv_e, dMod_e, dPow_e, dLt_e, dLe_e, dGt_e, dGe_e, dEq_int, dNe_int, dEq_ints, dNe_ints, fnOf_e, nEnd_nx, nEnd_rt, nEnd_ex, nOuts_ok, outsOf_nil, outsOf_cons, gj_nil, gj_zero, gj_succ, gs_zero, gs_succ, argD_val, argD_slot, nArg_t, nArg_f, pget_nil, pget_cons, pput_nil, callF_e, gRaise2_e, gForO_e, setG_e, argD_nil, pput_cons, noTms_nil, tmrs_nil, tmrs_cons, noTms_cons, eq_self, Option.join_some, Option.join_none, List.map_cons, List.map_nil, List.cons_append, List.nil_append, List.append_nil, List.replicate_succ, List.replicate_zero, List.length_cons, List.length_nil, Option.map_some, Option.map_none, Option.bind_some, Option.bind_none, Nat.reduceAdd, Nat.reduceLT, Nat.reduceLeDiff, Nat.reduceEqDiff, Bool.not_true, Bool.not_false, Bool.and_true, Bool.true_and, Bool.and_self, reduceIte, if_true, if_false, slots_nil, slots_val, slots_slot, clr, back, List.getElem?_cons_zero, List.getElem?_cons_succ, List.nodup_cons, List.not_mem_nil, not_false_eq_true, List.nodup_nil, and_self, Nat.zero_add, Bool.false_eq_true, List.mem_cons, List.mem_singleton, true_or, or_true, or_false, false_or, Nat.add_one_sub_one]
    rw [e1, nLoop1_ok, e, nLoop2_nx, e2]
theorem e_init : fn_Holds_init [.nd .ow (.ins "Holds" []) []] = some (.ret .non [eHolds .ow []]) := by
  unfold fn_Holds_init g_Holds_init
  have e1 : fputAt [some (.nd .ow (.ins "Holds" []) [])] 0 [] ["Holds"] "lists" (.nd .ow (.dic []) []) = some [some (eHolds .ow [])] := by
    unfold fputAt
    simp only [List.getElem?_cons_zero, Option.join_some, Option.bind_some, pget]
    rw [if_pos ⟨List.mem_singleton.mpr rfl, by decide⟩]
    rfl
  simp only [Xc_ok, Xc_ok0, nLoop1_ok, nLoop2_nx, nLoop2_ct, nLoop2_bk, nLoop2_rt, nLoop2_ex, nLO2_nx, nLO2_ct, nLO2_bk, nLO2_rt, nLO2_ex, hTup_sh, hTup_tm, hCons_ok, hNil_ok, gThen_e, nThen_nx, nThen_rt, nThen_bk, nThen_ct, nThen_ex, gIf_e, nIf_t, nIf_f, nIf_ex, gNil_e, gBk_e, gCt_e, gRetN_e, gSet_e, nSet_ok, nSet_ex, gSetF_e, nSetF_ok, nSetF_ex, gDrop_e, nDrop_ok, nDrop_ex, gRet_e, nRet_ok, nRet_ex, gAsg_e, nAsg_ok, lQ_e, nQ_ok, vQ_e, nVQ_ok, vN_e, nVN_ok, nVN_ow, vL_e, nVL_ok, nVL_ex, lF_e, nF_ok, frQ_e, nFQ_ok, lM_e, nM_ok, lMp_e, nMp_ok, aNil_e, aCons_e, nAC_ok, nAC_ex, nAC2_ok, nAC2_ex, lFn_e, nFn_ok, nFn_ex, nCall1_ok, nCall2_rt, nCall2_ex, lMeth_e, nMe_ok, nMe_ex, nMe2_ok, nMe2_ex, ltQ_e, nLtQ_ok, ltV_e, nLtV_ok, nLtV_ex, ltNot_e, nNot_ok, nNot_ex, ltAnd_e, nAnd_t, nAnd_f, nAnd_ex, ltOr_e, nOr_t, nOr_f, nOr_ex, qAnd_e, nQAnd_t, nQAnd_f, qOr_e, nQOr_t, nQOr_f, qNot_e, nQNot_ok, qB_e, qTru_e, nB_ok, asBl_e, q2_e, n2_ok, q1_e, n1_ok, q3_e, n3_ok, qV_e, qC_e, qN_e, nN_ok, qNil_e, qCons_e, nCons_ok, qSeq_e, frSeq_e, mkSeq_e, mkOw_e, frDK_e, frDT_e, qONone_e, qOSome_e, nO_ok, qSl_e, nSl_ok, qFn_e, nQF_ok, nQF2_ok, frFn_e, nFF_ok, nFF2_ok, frMk_e, nMk_ok, nMk2_ok, wLst_e, wTup_e, nW_ok, wEnum_e, wRg1_e, wRg2_e, nWs_ok, asLst_sh, asLst_tm, asTup_sh, asTup_tm, gFor_e, nFor_ok, gPut_e, nPut_ok, nPut_ex, nPut2_ok, gFput_e, nFput_ok, nFput_ex, nFput2_ok, lApp_e, nApp_ok, lAppE_e, nAppE_ok, plN_e, plF_e, plS_e, plSd_e, nSd_ok, gRaise_e, nRaise2_ok, gTryPair_e, nTryPair_ok, nTryPair_ex, nForO_ok, hd_non, hd_bl, hd_int, hd_str, hd_sh, hd_tm, hd_ow, noTm_non, noTm_bl, noTm_int, noTm_str, noTm_sh, noTm_ow, shr_non, shr_bl, shr_int, shr_str, shr_nd, tmr_non, tmr_bl, tmr_int, tmr_str, tmr_sh, tmr_tm, tmr_ow, all0_nil, all0_cons, dAdd_e, dSubt_e, dMul_e, dDiv_e, dMod_e, dPow_e, dLt_e, dLe_e, dGt_e, dGe_e, dEq_int, dNe_int, dEq_ints, dNe_ints, fnOf_e, nEnd_nx, nEnd_rt, nEnd_ex, nOuts_ok, outsOf_nil, outsOf_cons, gj_nil, gj_zero, gj_succ, gs_zero, gs_succ, argD_val, argD_slot, nArg_t, nArg_f, pget_nil, pget_cons, pput_nil, callF_e, gRaise2_e, gForO_e, setG_e, argD_nil, pput_cons, noTms_nil, tmrs_nil, tmrs_cons, noTms_cons, eq_self, Option.join_some, Option.join_none, List.map_cons, List.map_nil, List.cons_append, List.nil_append, List.append_nil, List.replicate_succ, List.replicate_zero, List.length_cons, List.length_nil, Option.map_some, Option.map_none, Option.bind_some, Option.bind_none, Nat.reduceAdd, Nat.reduceLT, Nat.reduceLeDiff, Nat.reduceEqDiff, Bool.not_true, Bool.not_false, Bool.and_true, Bool.true_and, Bool.and_self, reduceIte, if_true, if_false, slots_nil, slots_val, slots_slot, clr, back, List.getElem?_cons_zero, List.getElem?_cons_succ, List.nodup_cons, List.not_mem_nil, not_false_eq_true, List.nodup_nil, and_self, Nat.zero_add, Bool.false_eq_true, List.mem_cons, List.mem_singleton, true_or, or_true, or_false, false_or, Nat.add_one_sub_one, e1]
theorem cut_ok (ns : List Int) : dCut (eInts .sh ns) none (some 50) = some (eInts .sh (ns.take 50)) := by
  unfold dCut eInts cutD
  simp [HT.sIx, noTms_ints]
theorem en_ok (ns : List Int) : asEnum [eInts .sh ns] = some (ns.zipIdx.map item) := by
  have h : D.all0 (ns.map D.int) = true := by simp [D.all0, D.hd]
  unfold asEnum eInts
  simp only
  rw [if_pos ⟨by decide, h, noTms_ints ns⟩, List.zipIdx_map, List.map_map]
  rfl
theorem e_law (ns : List Int) : fn_law [eInts .sh ns] = some (.ret (.bl true) []) := by
  unfold fn_law g_law lr_law_4
  have c0 := e_cell ns 0
  have c1 := e_cell ns 1
  have c2 := e_cell ns 2
  have i0 : ((0 : Nat) : Int) = 0 := rfl
  have i1 : ((1 : Nat) : Int) = 1 := rfl
  have i2 : ((2 : Nat) : Int) = 2 := rfl
  rw [i0] at c0
  rw [i1] at c1
  rw [i2] at c2
  have p9 : dPow (.int 10) (.int 9) = some (.int (10 ^ 9)) := dPow_e (by decide)
  have m1 : ∀ z : Int, dMod (.int z) (.int 1000) = some (.int (z % 1000)) := fun z => dMod_e (by decide)
  have m2 : ∀ z : Int, dMod (.int z) (.int (10 ^ 9)) = some (.int (z % 10 ^ 9)) := fun z => dMod_e (by decide)
  have e5 : mkOw .lst [] = some (eR .ow []) := rfl
  have e6 : D.nd .ow .lst [] = eR .ow [] := rfl
  have cut : dCut (eInts .sh ns) none (some 50) = some (eInts .sh (ns.take 50)) := cut_ok ns
  have en : asEnum [eInts .sh (ns.take 50)] = some ((ns.take 50).zipIdx.map item) := en_ok _
  obtain ⟨Γ, el⟩ := law_loop (eInts .sh ns) (1 + cell ns 0 % 1000) (1 + cell ns 1 % 10 ^ 9) (off (cell ns 2)) (ns.take 50).zipIdx [] [] good_nil (by simp; omega) none none none none none none none none none none
  simp only [Xc_ok, Xc_ok0, nLoop1_ok, nLoop2_nx, nLoop2_ct, nLoop2_bk, nLoop2_rt, nLoop2_ex, nLO2_nx, nLO2_ct, nLO2_bk, nLO2_rt, nLO2_ex, hTup_sh, hTup_tm, hCons_ok, hNil_ok, gThen_e, nThen_nx, nThen_rt, nThen_bk, nThen_ct, nThen_ex, gIf_e, nIf_t, nIf_f, nIf_ex, gNil_e, gBk_e, gCt_e, gRetN_e, gSet_e, nSet_ok, nSet_ex, gSetF_e, nSetF_ok, nSetF_ex, gDrop_e, nDrop_ok, nDrop_ex, gRet_e, nRet_ok, nRet_ex, gAsg_e, nAsg_ok, lQ_e, nQ_ok, vQ_e, nVQ_ok, vN_e, nVN_ok, nVN_ow, vL_e, nVL_ok, nVL_ex, lF_e, nF_ok, frQ_e, nFQ_ok, lM_e, nM_ok, lMp_e, nMp_ok, aNil_e, aCons_e, nAC_ok, nAC_ex, nAC2_ok, nAC2_ex, lFn_e, nFn_ok, nFn_ex, nCall1_ok, nCall2_rt, nCall2_ex, lMeth_e, nMe_ok, nMe_ex, nMe2_ok, nMe2_ex, ltQ_e, nLtQ_ok, ltV_e, nLtV_ok, nLtV_ex, ltNot_e, nNot_ok, nNot_ex, ltAnd_e, nAnd_t, nAnd_f, nAnd_ex, ltOr_e, nOr_t, nOr_f, nOr_ex, qAnd_e, nQAnd_t, nQAnd_f, qOr_e, nQOr_t, nQOr_f, qNot_e, nQNot_ok, qB_e, qTru_e, nB_ok, asBl_e, q2_e, n2_ok, q1_e, n1_ok, q3_e, n3_ok, qV_e, qC_e, qN_e, nN_ok, qNil_e, qCons_e, nCons_ok, qSeq_e, frSeq_e, mkSeq_e, mkOw_e, frDK_e, frDT_e, qONone_e, qOSome_e, nO_ok, qSl_e, nSl_ok, qFn_e, nQF_ok, nQF2_ok, frFn_e, nFF_ok, nFF2_ok, frMk_e, nMk_ok, nMk2_ok, wLst_e, wTup_e, nW_ok, wEnum_e, wRg1_e, wRg2_e, nWs_ok, asLst_sh, asLst_tm, asTup_sh, asTup_tm, gFor_e, nFor_ok, gPut_e, nPut_ok, nPut_ex, nPut2_ok, gFput_e, nFput_ok, nFput_ex, nFput2_ok, lApp_e, nApp_ok, lAppE_e, nAppE_ok, plN_e, plF_e, plS_e, plSd_e, nSd_ok, gRaise_e, nRaise2_ok, gTryPair_e, nTryPair_ok, nTryPair_ex, nForO_ok, hd_non, hd_bl, hd_int, hd_str, hd_sh, hd_tm, hd_ow, noTm_non, noTm_bl, noTm_int, noTm_str, noTm_sh, noTm_ow, shr_non, shr_bl, shr_int, shr_str, shr_nd, tmr_non, tmr_bl, tmr_int, tmr_str, tmr_sh, tmr_tm, tmr_ow, all0_nil, all0_cons, dAdd_e, dSubt_e, dMul_e, dDiv_e, dMod_e, dPow_e, dLt_e, dLe_e, dGt_e, dGe_e, dEq_int, dNe_int, dEq_ints, dNe_ints, fnOf_e, nEnd_nx, nEnd_rt, nEnd_ex, nOuts_ok, outsOf_nil, outsOf_cons, gj_nil, gj_zero, gj_succ, gs_zero, gs_succ, argD_val, argD_slot, nArg_t, nArg_f, pget_nil, pget_cons, pput_nil, callF_e, gRaise2_e, gForO_e, setG_e, argD_nil, pput_cons, noTms_nil, tmrs_nil, tmrs_cons, noTms_cons, eq_self, Option.join_some, Option.join_none, List.map_cons, List.map_nil, List.cons_append, List.nil_append, List.append_nil, List.replicate_succ, List.replicate_zero, List.length_cons, List.length_nil, Option.map_some, Option.map_none, Option.bind_some, Option.bind_none, Nat.reduceAdd, Nat.reduceLT, Nat.reduceLeDiff, Nat.reduceEqDiff, Bool.not_true, Bool.not_false, Bool.and_true, Bool.true_and, Bool.and_self, reduceIte, if_true, if_false, slots_nil, slots_val, slots_slot, clr, back, List.getElem?_cons_zero, List.getElem?_cons_succ, List.nodup_cons, List.not_mem_nil, not_false_eq_true, List.nodup_nil, and_self, Nat.zero_add, Bool.false_eq_true, List.mem_cons, List.mem_singleton, true_or, or_true, or_false, false_or, Nat.add_one_sub_one, c0, c1, c2, p9, m1, m2, e_off, e_init, e5, e6, cut, en, el, eInts_hds, eHolds_hd]
end K23

namespace K23
open PySem PySem.Spec PyProof.Rows L2 SK
abbrev R : PySem.W.OpenRow := PySem.W.OpenLaw.row PySem.Challenge.rw_skewhouse_k23_who_stands_against
abbrev hk : PySem.W.Hook := hookE 5 fas fns exq
def ob (s : PySem.W.SharedT) : He.AlD := obsEG 5 fas fns exq (HandSHeadRun.getT s)
theorem ob_eq (s : PySem.W.SharedT) : ob s = hk.obs s.abs := obsEG_eq (HandSHeadRun.getT_eq s)
def loose : List Str := ["_wall", "__name__", "SkewError", "Waits", "meet", "Holds", "_law_cell", "_law_mixed", "_law_off", "_law_due", "_law_alike", "_law_taken"]
theorem run (w : World) : HandSHeadRun.RunEq R (PySem.W.view R.prog [15]) hk ob 2000 loose w := by
  intro os
  kernel_rfl
theorem facts {w : World} {K : PySem.W.Frag} {h : Heap} {mg : Str → Option Value} {fa : Addr} (X : K.In h) (G : h.Ns mainGlobals mg) (hfa : mg ("law" : Str) = some (.ref fa)) (c : SaysE fas fns exq K) :
    ∃ fd : FuncData, (∀ (s : Shared) (v : Value), BindsTo s fd ⟨[v], []⟩ [("_law_script", v)]) ∧ ∀ base : Heap, FnOk PySem.Challenge.pw_skewhouse_k23_who_stands_against w K mg base (L2.CX PySem.Challenge.pw_skewhouse_k23_who_stands_against w) lvl fa fd ["_law_script"] (spD ⟨K, mg⟩ [] fn_law) := by
  have hd : HD K mg := ⟨c.d.1, c.d.2, h, X, G⟩
  obtain ⟨fd, F⟩ := hd.says.def_ i_law (d := d_law) rfl
  have e := hfa.symm.trans (hd.glo i_glaw rfl)
  cases e
  have b := FunD.bindsA (ps := ["_law_script"]) F fun _ _ _ _ _ _ us hl => match us, hl with | [_], _ => rfl
  exact ⟨fd, fun s v => b s [v] rfl, fun base => ok_law hd F⟩
theorem spec {K : PySem.W.Frag} {mg : Str → Option Value} (H : Hp) (a : Addr) (ns : List Int) (hS : SqL K H a (ns.map V.int)) : spD ⟨K, mg⟩ [] fn_law [.ref a] H (fun v _ => v = .bl true) fun _ _ _ => False := by
  refine ⟨fun _ => none, H, [eInts .sh ns], fun _ => [], _, ?_, e_law ns, ?_⟩
  · refine ⟨Same.refl H, (fun _ _ z => by cases z), rfl, fun i d hi => ?_, (fun _ _ _ z => by cases z), fun _ z => absurd rfl z⟩
    cases i with
    | zero =>
      simp at hi; subst hi
      exact ⟨_, rfl, .sh hS (noTms_ints ns) (Owns.of_ints _ _ ns)⟩
    | succ i => simp at hi
  · intro v F' H' ψ' U st ow dj ar
    exact (own_bl ow).1
end K23
open PySem PySem.W PySem.Calls PyProof.Rows
theorem PySem.Challenge.cw_skewhouse_k23_who_stands_against_holds : PySem.Challenge.rw_skewhouse_k23_who_stands_against.Holds := by
  w_on; o_law
  refine HandSHeadRun.head_any (r := OpenLaw.row PySem.Challenge.rw_skewhouse_k23_who_stands_against) (q := view (OpenLaw.row PySem.Challenge.rw_skewhouse_k23_who_stands_against).prog [15]) (H := K23.hk) (ob := K23.ob) (M := 2000) (loose := K23.loose) (d := HandSHeadRun.topDef (OpenLaw.row PySem.Challenge.rw_skewhouse_k23_who_stands_against).prog 15) (kwd := []) K23.ob_eq
    (by kernel_rfl) (fun s => by kernel_rfl) K23.run (by kernel_rfl) (by kernel_rfl) (by kernel_rfl) (by rfl) (by first | assumption | decide +kernel) (by decide +kernel) ⟨rfl, rfl, rfl, rfl, rfl, by decide +kernel⟩ ?hw ?hc
  case hw => w_witness2
  case hc =>
    refine SK.walk_end (l := PySem.Challenge.rw_skewhouse_k23_who_stands_against) (n := 63) (k := K23.lvl) (x := "_law_script") rfl (by decide) (by kernel_rfl) ⟨rfl, by decide, by decide⟩ ?F
    intro w mg fa h Y G hmg0
    obtain ⟨K, KX, c⟩ := Y
    have hmg : mg ("law" : PySem.Str) = some (.ref fa) := by
      have e : (HandSHeadRun.topDef (OpenLaw.row PySem.Challenge.rw_skewhouse_k23_who_stands_against).prog 15).name = ("law" : PySem.Str) := by kernel_rfl
      rw [← e]
      exact hmg0
    obtain ⟨fd, hb, hF⟩ := K23.facts (w := w) KX G hmg c
    exact ⟨K, fd, SK.spD ⟨K, mg⟩ [] K23.fn_law, KX, hb, fun H a ns _ hS => K23.spec H a ns hS, fun base _ _ => hF base⟩
